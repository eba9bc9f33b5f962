import PyProof.Rows.All
import HandS.ForMost
import HandS.Wide
import HandS.Style
import HandS.IsInst
import HandS.TupAny
import HandS.Deep
import HandS.ForExc
import HandS.Conv
import HandS.SortInts
import PyProof.ReprRoads
import HandS.DictComp
import HandS.WordsDict
import HandS.ExcInit
import KE.KExcSuper
import HandS.RaiseMore
import HandS.ExcIs
import HandS.ExcField
import KE.KExcIs
import KE.SortData
import HandS.TupLe
import HandS.RevTup
import HandS.Rev
import HandS.Iter
import KE.LtSeq
import HandS.Dict
import PySem.Challenge.RW_siftyard_k06_whole_roots
set_option Elab.async false
set_option linter.all false
set_option maxRecDepth 100000
set_option maxHeartbeats 4000000
namespace Z
open PySem L2

/-! ### data, and data with marks of what is owned -/
inductive D where
  | non | bl (b : Bool) | int (i : Int) | str (s : Str) | lst (l : List D) | tup (l : List D) | dic (ks : List Key) (l : List D)
inductive T where
  | sh (d : D) | ol (l : List T) | ot (l : List T) | od (ks : List Key) (l : List T)
mutual
def T.d : T → D
  | .sh d => d
  | .ol l => .lst (dl l)
  | .ot l => .tup (dl l)
  | .od ks l => .dic ks (dl l)
def dl : List T → List D
  | [] => []
  | t :: l => t.d :: dl l
end
mutual
def Rp (S : Hp) : D → V → Prop
  | .non, v => v = .non
  | .bl b, v => v = .bl b
  | .int i, v => v = .int i
  | .str s, v => v = .str s
  | .lst l, v => ∃ a vs, v = .ref a ∧ S a = some (.lst vs) ∧ Rpl S l vs
  | .tup l, v => ∃ a vs, v = .ref a ∧ S a = some (.tup vs) ∧ Rpl S l vs
  | .dic ks l, v => ∃ a vs, v = .ref a ∧ S a = some (.dK (ks.zip vs)) ∧ ks.length = l.length ∧ Rpl S l vs
def Rpl (S : Hp) : List D → List V → Prop
  | [], vs => vs = []
  | d :: l, vs => ∃ v r, vs = v :: r ∧ Rp S d v ∧ Rpl S l r
end
mutual
def Rt (S H : Hp) : T → V → List Addr → Prop
  | .sh d, v, as => as = [] ∧ Rp S d v
  | .ol l, v, as => ∃ a vs bs, v = .ref a ∧ as = a :: bs ∧ H a = some (.lst vs) ∧ Rtl S H l vs bs
  | .ot l, v, as => ∃ a vs bs, v = .ref a ∧ as = a :: bs ∧ H a = some (.tup vs) ∧ Rtl S H l vs bs
  | .od ks l, v, as => ∃ a vs bs, v = .ref a ∧ as = a :: bs ∧ H a = some (.dK (ks.zip vs)) ∧ ks.length = l.length ∧ Rtl S H l vs bs
def Rtl (S H : Hp) : List T → List V → List Addr → Prop
  | [], vs, as => vs = [] ∧ as = []
  | t :: l, vs, as => ∃ v r b c, vs = v :: r ∧ as = b ++ c ∧ Rt S H t v b ∧ Rtl S H l r c
end
mutual
theorem Rp.mono {S S' : Hp} (e : Same S S') : ∀ {d : D} {v : V}, Rp S d v → Rp S' d v
  | .non, _, h => h
  | .bl _, _, h => h
  | .int _, _, h => h
  | .str _, _, h => h
  | .lst _, _, ⟨a, vs, h1, h2, h3⟩ => ⟨a, vs, h1, e _ _ h2, Rpl.mono e h3⟩
  | .tup _, _, ⟨a, vs, h1, h2, h3⟩ => ⟨a, vs, h1, e _ _ h2, Rpl.mono e h3⟩
  | .dic _ _, _, ⟨a, vs, h1, h2, h4, h3⟩ => ⟨a, vs, h1, e _ _ h2, h4, Rpl.mono e h3⟩
theorem Rpl.mono {S S' : Hp} (e : Same S S') : ∀ {d : List D} {v : List V}, Rpl S d v → Rpl S' d v
  | [], _, h => h
  | _ :: _, _, ⟨v, r, h1, h2, h3⟩ => ⟨v, r, h1, Rp.mono e h2, Rpl.mono e h3⟩
end
mutual
theorem Rt.mono {S S' H H' : Hp} (e : Same S S') : ∀ {t : T} {v : V} {as : List Addr}, (∀ a ∈ as, H' a = H a) → Rt S H t v as → Rt S' H' t v as
  | .sh _, _, _, _, ⟨h1, h2⟩ => ⟨h1, h2.mono e⟩
  | .ol l, _, _, k, ⟨a, vs, bs, h1, h2, h3, h4⟩ => by
    subst h2
    exact ⟨a, vs, bs, h1, rfl, (k a (by simp)).trans h3, Rtl.mono e (fun b hb => k b (by simp [hb])) h4⟩
  | .ot l, _, _, k, ⟨a, vs, bs, h1, h2, h3, h4⟩ => by
    subst h2
    exact ⟨a, vs, bs, h1, rfl, (k a (by simp)).trans h3, Rtl.mono e (fun b hb => k b (by simp [hb])) h4⟩
  | .od ks l, _, _, k, ⟨a, vs, bs, h1, h2, h3, h5, h4⟩ => by
    subst h2
    exact ⟨a, vs, bs, h1, rfl, (k a (by simp)).trans h3, h5, Rtl.mono e (fun b hb => k b (by simp [hb])) h4⟩
theorem Rtl.mono {S S' H H' : Hp} (e : Same S S') : ∀ {t : List T} {v : List V} {as : List Addr}, (∀ a ∈ as, H' a = H a) → Rtl S H t v as → Rtl S' H' t v as
  | [], _, _, _, h => h
  | _ :: _, _, _, k, ⟨v, r, b, c, h1, h2, h3, h4⟩ => by
    subst h2
    exact ⟨v, r, b, c, h1, rfl, Rt.mono e (fun a ha => k a (by simp [ha])) h3, Rtl.mono e (fun a ha => k a (by simp [ha])) h4⟩
end
mutual
theorem Rt.toRp {S H S' : Hp} (e : Same S S') : ∀ {t : T} {v : V} {as : List Addr}, (∀ a ∈ as, ∀ o, H a = some o → S' a = some o) → Rt S H t v as → Rp S' t.d v
  | .sh _, _, _, _, ⟨h1, h2⟩ => h2.mono e
  | .ol l, _, _, k, ⟨a, vs, bs, h1, h2, h3, h4⟩ => by
    subst h2
    exact ⟨a, vs, h1, k a (by simp) _ h3, Rtl.toRpl e (fun b hb => k b (by simp [hb])) h4⟩
  | .ot l, _, _, k, ⟨a, vs, bs, h1, h2, h3, h4⟩ => by
    subst h2
    exact ⟨a, vs, h1, k a (by simp) _ h3, Rtl.toRpl e (fun b hb => k b (by simp [hb])) h4⟩
  | .od ks l, _, _, k, ⟨a, vs, bs, h1, h2, h3, h5, h4⟩ => by
    subst h2
    have hl : ∀ l : List T, (dl l).length = l.length := by
      intro l
      induction l with
      | nil => rfl
      | cons t l ih => simp only [dl, List.length_cons, ih]
    exact ⟨a, vs, h1, k a (by simp) _ h3, h5.trans (hl l).symm, Rtl.toRpl e (fun b hb => k b (by simp [hb])) h4⟩
theorem Rtl.toRpl {S H S' : Hp} (e : Same S S') : ∀ {t : List T} {v : List V} {as : List Addr}, (∀ a ∈ as, ∀ o, H a = some o → S' a = some o) → Rtl S H t v as → Rpl S' (dl t) v
  | [], _, _, _, h => h.1
  | _ :: _, _, _, k, ⟨v, r, b, c, h1, h2, h3, h4⟩ => by
    subst h2
    exact ⟨v, r, h1, Rt.toRp e (fun a ha => k a (by simp [ha])) h3, Rtl.toRpl e (fun a ha => k a (by simp [ha])) h4⟩
end
mutual
theorem Rt.there {S H : Hp} : ∀ {t : T} {v : V} {as : List Addr}, Rt S H t v as → ∀ a ∈ as, H a ≠ none
  | .sh _, _, _, ⟨h1, h2⟩, a, ha => by subst h1; cases ha
  | .ol l, _, _, ⟨a, vs, bs, h1, h2, h3, h4⟩, b, hb => by
    subst h2
    rcases List.mem_cons.mp hb with rfl | hb
    · rw [h3]; simp
    · exact Rtl.there h4 b hb
  | .ot l, _, _, ⟨a, vs, bs, h1, h2, h3, h4⟩, b, hb => by
    subst h2
    rcases List.mem_cons.mp hb with rfl | hb
    · rw [h3]; simp
    · exact Rtl.there h4 b hb
  | .od ks l, _, _, ⟨a, vs, bs, h1, h2, h3, h5, h4⟩, b, hb => by
    subst h2
    rcases List.mem_cons.mp hb with rfl | hb
    · rw [h3]; simp
    · exact Rtl.there h4 b hb
theorem Rtl.there {S H : Hp} : ∀ {t : List T} {v : List V} {as : List Addr}, Rtl S H t v as → ∀ a ∈ as, H a ≠ none
  | [], _, _, h, a, ha => by rw [h.2] at ha; cases ha
  | _ :: _, _, _, ⟨v, r, b, c, h1, h2, h3, h4⟩, a, ha => by
    subst h2
    rcases List.mem_append.mp ha with ha | ha
    · exact Rt.there h3 a ha
    · exact Rtl.there h4 a ha
end
theorem dl_eq : ∀ l : List T, dl l = l.map T.d
  | [] => rfl
  | t :: l => by simp only [dl, dl_eq l, List.map_cons]
theorem Rpl.len {S : Hp} : ∀ {l : List D} {vs : List V}, Rpl S l vs → vs.length = l.length
  | [], _, h => by rw [h]; rfl
  | _ :: _, _, ⟨v, r, h1, h2, h3⟩ => by subst h1; simp only [List.length_cons, Rpl.len h3]
theorem Rtl.len {S H : Hp} : ∀ {l : List T} {vs : List V} {as : List Addr}, Rtl S H l vs as → vs.length = l.length
  | [], _, _, h => by rw [h.1]; rfl
  | _ :: _, _, _, ⟨v, r, _, _, h1, _, h2, h3⟩ => by subst h1; simp only [List.length_cons, Rtl.len h3]
theorem Rpl.get {S : Hp} : ∀ {l : List D} {vs : List V} {i : Nat} {d : D}, Rpl S l vs → l[i]? = some d → ∃ v, vs[i]? = some v ∧ Rp S d v
  | [], _, _, _, _, e => by simp at e
  | _ :: _, _, 0, d, ⟨v, r, h1, h2, h3⟩, e => by subst h1; simp at e; subst e; exact ⟨v, rfl, h2⟩
  | _ :: _, _, i + 1, d, ⟨v, r, h1, h2, h3⟩, e => by subst h1; simp at e; simpa using Rpl.get h3 e
theorem Rpl.append {S : Hp} : ∀ {l m : List D} {vs ws : List V}, Rpl S l vs → Rpl S m ws → Rpl S (l ++ m) (vs ++ ws)
  | [], _, _, _, h, k => by rw [show _ = [] from h]; exact k
  | _ :: _, _, _, _, ⟨v, r, h1, h2, h3⟩, k => by subst h1; exact ⟨v, _, rfl, h2, Rpl.append h3 k⟩
theorem Rpl.take {S : Hp} : ∀ {l : List D} {vs : List V} (n : Nat), Rpl S l vs → Rpl S (l.take n) (vs.take n)
  | [], _, n, h => by rw [show _ = [] from h]; simp [Rpl]
  | _ :: _, _, 0, h => by simp [Rpl]
  | _ :: _, _, n + 1, ⟨v, r, h1, h2, h3⟩ => by subst h1; exact ⟨v, _, rfl, h2, Rpl.take n h3⟩
theorem Rpl.drop {S : Hp} : ∀ {l : List D} {vs : List V} (n : Nat), Rpl S l vs → Rpl S (l.drop n) (vs.drop n)
  | [], _, n, h => by rw [show _ = [] from h]; simp [Rpl]
  | _ :: _, _, 0, h => h
  | _ :: _, _, n + 1, ⟨v, r, h1, h2, h3⟩ => by subst h1; exact Rpl.drop n h3
theorem Rpl.rev {S : Hp} : ∀ {l : List D} {vs : List V}, Rpl S l vs → Rpl S l.reverse vs.reverse
  | [], _, h => by rw [show _ = [] from h]; rfl
  | _ :: _, _, ⟨v, r, h1, h2, h3⟩ => by
    subst h1
    rw [List.reverse_cons, List.reverse_cons]
    exact Rpl.append (Rpl.rev h3) ⟨v, [], rfl, h2, rfl⟩
/-- a tree with all its marks gone, as shared data -/
theorem Rpl.toRtl {S H : Hp} : ∀ {l : List D} {vs : List V}, Rpl S l vs → Rtl S H (l.map T.sh) vs []
  | [], _, h => ⟨h, rfl⟩
  | _ :: _, _, ⟨v, r, h1, h2, h3⟩ => ⟨v, r, [], [], h1, rfl, ⟨rfl, h2⟩, Rpl.toRtl h3⟩
theorem Rtl.append {S H : Hp} : ∀ {l m : List T} {vs ws : List V} {as bs : List Addr}, Rtl S H l vs as → Rtl S H m ws bs → Rtl S H (l ++ m) (vs ++ ws) (as ++ bs)
  | [], _, _, _, _, _, ⟨h1, h2⟩, k => by subst h1 h2; exact k
  | _ :: _, _, _, _, _, _, ⟨v, r, b, c, h1, h2, h3, h4⟩, k => by
    subst h1 h2
    exact ⟨v, _, b, c ++ _, rfl, List.append_assoc .., h3, Rtl.append h4 k⟩
/-- the i-th of a row, and another in its place -/
theorem Rtl.at {S H : Hp} : ∀ {l : List T} {vs : List V} {as : List Addr} {i : Nat} {t : T}, Rtl S H l vs as → l[i]? = some t →
    ∃ v b c d, vs[i]? = some v ∧ as = b ++ c ++ d ∧ Rt S H t v c ∧ ∀ S' H' t' v' c', Same S S' → (∀ a ∈ b ++ d, H' a = H a) → Rt S' H' t' v' c' → Rtl S' H' (l.set i t') (vs.set i v') (b ++ c' ++ d)
  | [], _, _, _, _, _, e => by simp at e
  | u :: l, _, _, 0, t, ⟨v, r, b, c, h1, h2, h3, h4⟩, e => by
    subst h1 h2
    simp at e
    subst e
    refine ⟨v, [], b, c, rfl, rfl, h3, fun S' H' t' v' c' es k q => ?_⟩
    exact ⟨v', r, c', c, rfl, rfl, q, h4.mono es (fun a ha => k a (by simp [ha]))⟩
  | u :: l, _, _, i + 1, t, ⟨v, r, b, c, h1, h2, h3, h4⟩, e => by
    subst h1 h2
    simp at e
    obtain ⟨w, b1, c1, d1, e1, e2, e3, k⟩ := Rtl.at h4 e
    subst e2
    refine ⟨w, b ++ b1, c1, d1, by simpa using e1, by simp [List.append_assoc], e3, fun S' H' t' v' c' es k' q => ?_⟩
    refine ⟨v, r.set i v', b, b1 ++ c' ++ d1, rfl, by simp [List.append_assoc], h3.mono es (fun a ha => k' a (by simp [ha])), ?_⟩
    exact k S' H' t' v' c' es (fun a ha => k' a (by simp at ha ⊢; rcases ha with h | h <;> simp [h])) q

/-! ### the names of a def -/
abbrev Env := List (Option T)
def Re (S H : Hp) : Env → St → List Addr → Prop
  | [], σ, as => σ = [] ∧ as = []
  | none :: ρ, σ, as => ∃ o r, σ = o :: r ∧ Re S H ρ r as
  | some t :: ρ, σ, as => ∃ v r b c, σ = some v :: r ∧ as = b ++ c ∧ Rt S H t v b ∧ Re S H ρ r c
theorem Re.mono {S S' H H' : Hp} (e : Same S S') : ∀ {ρ : Env} {σ : St} {as : List Addr}, (∀ a ∈ as, H' a = H a) → Re S H ρ σ as → Re S' H' ρ σ as
  | [], _, _, _, h => h
  | none :: _, _, _, k, ⟨o, r, h1, h2⟩ => ⟨o, r, h1, Re.mono e k h2⟩
  | some _ :: _, _, _, k, ⟨v, r, b, c, h1, h2, h3, h4⟩ => by
    subst h2
    exact ⟨v, r, b, c, h1, rfl, h3.mono e (fun a ha => k a (by simp [ha])), Re.mono e (fun a ha => k a (by simp [ha])) h4⟩
theorem Re.there {S H : Hp} : ∀ {ρ : Env} {σ : St} {as : List Addr}, Re S H ρ σ as → ∀ a ∈ as, H a ≠ none
  | [], _, _, h, a, ha => by rw [h.2] at ha; cases ha
  | none :: _, _, _, ⟨o, r, h1, h2⟩, a, ha => Re.there h2 a ha
  | some _ :: _, _, _, ⟨v, r, b, c, h1, h2, h3, h4⟩, a, ha => by
    subst h2
    rcases List.mem_append.mp ha with ha | ha
    · exact h3.there a ha
    · exact Re.there h4 a ha
theorem Re.len {S H : Hp} : ∀ {ρ : Env} {σ : St} {as : List Addr}, Re S H ρ σ as → σ.length = ρ.length
  | [], _, _, h => by rw [h.1]; rfl
  | none :: _, _, _, ⟨o, r, h1, h2⟩ => by subst h1; simp only [List.length_cons, Re.len h2]
  | some _ :: _, _, _, ⟨v, r, b, c, h1, h2, h3, h4⟩ => by subst h1; simp only [List.length_cons, Re.len h4]
/-- the i-th name's value (if it has one), and another in its place, or none -/
theorem Re.at {S H : Hp} : ∀ {ρ : Env} {σ : St} {as : List Addr} {i : Nat} {t : T}, Re S H ρ σ as → ρ[i]? = some (some t) →
    ∃ v b c d, σ[i]? = some (some v) ∧ as = b ++ c ++ d ∧ Rt S H t v c ∧ (∀ S' H' t' v' c', Same S S' → (∀ a ∈ b ++ d, H' a = H a) → Rt S' H' t' v' c' → Re S' H' (ρ.set i (some t')) (σ.set i (some v')) (b ++ c' ++ d)) ∧
      (∀ S' H' o, Same S S' → (∀ a ∈ b ++ d, H' a = H a) → Re S' H' (ρ.set i none) (σ.set i o) (b ++ d))
  | [], _, _, _, _, _, e => by simp at e
  | none :: _, _, _, 0, _, _, e => by simp at e
  | some _ :: _, _, _, 0, t, ⟨v, r, b, c, h1, h2, h3, h4⟩, e => by
    subst h1 h2
    simp at e
    subst e
    refine ⟨v, [], b, c, rfl, rfl, h3, fun S' H' t' v' c' es k q => ?_, fun S' H' o es k => ?_⟩
    · exact ⟨v', r, c', c, rfl, rfl, q, h4.mono es (fun a ha => k a (by simp [ha]))⟩
    · exact ⟨o, r, rfl, h4.mono es (fun a ha => k a (by simpa using ha))⟩
  | none :: _, _, _, i + 1, t, ⟨o, r, h1, h2⟩, e => by
    subst h1
    simp at e
    obtain ⟨w, b1, c1, d1, e1, e2, e3, k, k2⟩ := Re.at h2 e
    refine ⟨w, b1, c1, d1, by simpa using e1, e2, e3, fun S' H' t' v' c' es k' q => ⟨o, _, rfl, k S' H' t' v' c' es k' q⟩, fun S' H' o' es k' => ⟨o, _, rfl, k2 S' H' o' es k'⟩⟩
  | some _ :: _, _, _, i + 1, t, ⟨v, r, b, c, h1, h2, h3, h4⟩, e => by
    subst h1 h2
    simp at e
    obtain ⟨w, b1, c1, d1, e1, e2, e3, k, k2⟩ := Re.at h4 e
    subst e2
    refine ⟨w, b ++ b1, c1, d1, by simpa using e1, by simp [List.append_assoc], e3, fun S' H' t' v' c' es k' q => ?_, fun S' H' o' es k' => ?_⟩
    · refine ⟨v, _, b, b1 ++ c' ++ d1, rfl, by simp [List.append_assoc], h3.mono es (fun a ha => k' a (by simp [ha])), ?_⟩
      exact k S' H' t' v' c' es (fun a ha => k' a (by simp at ha ⊢; rcases ha with h | h <;> simp [h])) q
    · refine ⟨v, _, b, b1 ++ d1, rfl, by simp [List.append_assoc], h3.mono es (fun a ha => k' a (by simp [ha])), ?_⟩
      exact k2 S' H' o' es (fun a ha => k' a (by simp at ha ⊢; rcases ha with h | h <;> simp [h]))
/-- a name without a (known) value gets one -/
theorem Re.put {S H : Hp} : ∀ {ρ : Env} {σ : St} {as : List Addr} {i : Nat}, Re S H ρ σ as → ρ[i]? = some none →
    ∃ b d, as = b ++ d ∧ ∀ S' H' t' v' c', Same S S' → (∀ a ∈ as, H' a = H a) → Rt S' H' t' v' c' → Re S' H' (ρ.set i (some t')) (σ.set i (some v')) (b ++ c' ++ d)
  | [], _, _, _, _, e => by simp at e
  | none :: _, _, _, 0, ⟨o, r, h1, h2⟩, e => by
    subst h1
    exact ⟨[], _, rfl, fun S' H' t' v' c' es k q => ⟨v', r, c', _, rfl, rfl, q, h2.mono es k⟩⟩
  | some _ :: _, _, _, 0, _, e => by simp at e
  | none :: _, _, _, i + 1, ⟨o, r, h1, h2⟩, e => by
    subst h1
    simp at e
    obtain ⟨b, d, e2, k⟩ := Re.put h2 e
    exact ⟨b, d, e2, fun S' H' t' v' c' es k' q => ⟨o, _, rfl, k S' H' t' v' c' es k' q⟩⟩
  | some _ :: _, _, _, i + 1, ⟨v, r, b, c, h1, h2, h3, h4⟩, e => by
    subst h1 h2
    simp at e
    obtain ⟨b1, d1, e2, k⟩ := Re.put h4 e
    subst e2
    refine ⟨b ++ b1, d1, by simp [List.append_assoc], fun S' H' t' v' c' es k' q => ?_⟩
    refine ⟨v, _, b, b1 ++ c' ++ d1, rfl, by simp [List.append_assoc], h3.mono es (fun a ha => k' a (by simp [ha])), ?_⟩
    exact k S' H' t' v' c' es (fun a ha => k' a (by simp at ha ⊢; rcases ha with h | h <;> simp [h])) q

structure G (W S0 S H : Hp) (ρ : Env) (σ : St) (tm : List T) (vm : List V) (as bs : List Addr) : Prop where
  s0 : Same S0 S
  sh : Same S H
  wh : Same W H
  nw : ∀ a, W a ≠ none → S a ≠ none → S0 a ≠ none
  re : Re S H ρ σ as
  rt : Rtl S H tm vm bs
  nd : (as ++ bs).Nodup
  fs : ∀ a ∈ as ++ bs, S a = none
  fw : ∀ a ∈ as ++ bs, W a = none
def GX (W S0 : Hp) (ρ : Env) (σ : St) (tm : List T) (vm : List V) (H : Hp) : Prop := ∃ S as bs, G W S0 S H ρ σ tm vm as bs
end Z

namespace Z
open PySem L2
variable {W S0 S H H' : Hp} {ρ : Env} {σ : St} {t u : T} {ts us tm : List T} {v w : V} {vs ws vm : List V} {as bs : List Addr} {i : Nat} {d : D}
theorem same_at {a : Addr} (e : Same H H') (h : H a ≠ none) : H' a = H a := by
  cases q : H a with
  | none => exact absurd q h
  | some o => exact e a o q
theorem same_new {p : Addr} {o : HO} (h : H p = none) : Same H (upd H p o) := fun b x e => by rw [upd_ne (ne_of_none e h)]; exact e
theorem Rtl.split : ∀ {ts tm : List T} {vs vm : List V} {as : List Addr}, vs.length = ts.length → Rtl S H (ts ++ tm) (vs ++ vm) as → ∃ b c, as = b ++ c ∧ Rtl S H ts vs b ∧ Rtl S H tm vm c
  | [], _, [], _, _, _, h => ⟨[], _, rfl, ⟨rfl, rfl⟩, h⟩
  | [], _, _ :: _, _, _, e, _ => by simp at e
  | _ :: _, _, [], _, _, e, _ => by simp at e
  | t :: ts, tm, v :: vs, vm, as, e, ⟨w, r, b, c, h1, h2, h3, h4⟩ => by
    simp only [List.cons_append, List.cons.injEq] at h1
    obtain ⟨rfl, rfl⟩ := h1
    obtain ⟨b1, c1, rfl, h5, h6⟩ := Rtl.split (by simpa using e) h4
    exact ⟨b ++ b1, c1, by rw [h2, List.append_assoc], ⟨v, vs, b, b1, rfl, rfl, h3, h5⟩, h6⟩
theorem GX.ext (e : Same H H') (g : GX W S0 ρ σ tm vm H) : GX W S0 ρ σ tm vm H' := by
  obtain ⟨S, as, bs, g⟩ := g
  refine ⟨S, as, bs, g.s0, fun a o h => e a o (g.sh a o h), fun a o h => e a o (g.wh a o h), g.nw, g.re.mono (fun _ _ h => h) fun a ha => same_at e (g.re.there a ha), g.rt.mono (fun _ _ h => h) fun a ha => same_at e (g.rt.there a ha), g.nd, g.fs, g.fw⟩
/-- what the names hold, as data that can be read -/
def RV (H : Hp) (ρ : Env) (σ : St) : Prop := ∀ (i : Nat) t, ρ[i]? = some (some t) → ∃ v, σ[i]? = some (some v) ∧ Rp H t.d v
theorem GX.rv (g : GX W S0 ρ σ tm vm H) : RV H ρ σ := fun i t e => by
  obtain ⟨S, as, bs, g⟩ := g
  obtain ⟨v, b, c, d, e1, e2, e3, _⟩ := g.re.at e
  exact ⟨v, e1, e3.toRp g.sh fun a _ o h => h⟩
theorem RV.ext (e : Same H H') (g : RV H ρ σ) : RV H' ρ σ := fun i t h => let ⟨v, h1, h2⟩ := g i t h; ⟨v, h1, h2.mono e⟩
/-- a new list or tuple of the last temporaries -/
theorem G.new {p : Addr} {o : HO} (g : G W S0 S H ρ σ (ts ++ tm) (vs ++ vm) as bs) (e : vs.length = ts.length) (hp : H p = none) (hn : ∀ H' b, H' p = some o → Rtl S H' ts vs b → Rt S H' t (.ref p) (p :: b)) : GX W S0 ρ σ (t :: tm) (.ref p :: vm) (upd H p o) := by
  obtain ⟨b, c, rfl, h1, h2⟩ := g.rt.split e
  have en : Same H (upd H p o) := same_new hp
  have hw : W p = none := by
    cases q : W p with
    | none => rfl
    | some x => have := g.wh p x q; rw [hp] at this; cases this
  have hs : S p = none := by
    cases q : S p with
    | none => rfl
    | some x => have := g.sh p x q; rw [hp] at this; cases this
  have n1 : p ∉ as := fun h => g.re.there p h hp
  have n2 : p ∉ b := fun h => h1.there p h hp
  have n3 : p ∉ c := fun h => h2.there p h hp
  refine ⟨S, as, (p :: b) ++ c, g.s0, fun a o h => en a o (g.sh a o h), fun a o h => en a o (g.wh a o h), g.nw, g.re.mono (fun _ _ h => h) fun a ha => same_at en (g.re.there a ha), ?_, ?_, ?_, ?_⟩
  · exact ⟨.ref p, vm, p :: b, c, rfl, rfl, hn _ _ upd_same (h1.mono (fun _ _ h => h) fun a ha => same_at en (h1.there a ha)), h2.mono (fun _ _ h => h) fun a ha => same_at en (h2.there a ha)⟩
  · have := g.nd
    grind
  · have := g.fs
    grind
  · have := g.fw
    grind
theorem GX.newL {p : Addr} (g : GX W S0 ρ σ (ts ++ tm) (vs ++ vm) H) (e : vs.length = ts.length) (hp : H p = none) : GX W S0 ρ σ (.ol ts :: tm) (.ref p :: vm) (upd H p (.lst vs)) := by
  obtain ⟨S, as, bs, g⟩ := g
  exact g.new (o := .lst vs) e hp fun H' b h1 h2 => ⟨p, vs, b, rfl, rfl, h1, h2⟩
theorem GX.newT {p : Addr} (g : GX W S0 ρ σ (ts ++ tm) (vs ++ vm) H) (e : vs.length = ts.length) (hp : H p = none) : GX W S0 ρ σ (.ot ts :: tm) (.ref p :: vm) (upd H p (.tup vs)) := by
  obtain ⟨S, as, bs, g⟩ := g
  exact g.new (o := .tup vs) e hp fun H' b h1 h2 => ⟨p, vs, b, rfl, rfl, h1, h2⟩
theorem GX.newD {p : Addr} {ks : List Key} (g : GX W S0 ρ σ (ts ++ tm) (vs ++ vm) H) (e : vs.length = ts.length) (ek : ks.length = ts.length) (hp : H p = none) : GX W S0 ρ σ (.od ks ts :: tm) (.ref p :: vm) (upd H p (.dK (ks.zip vs))) := by
  obtain ⟨S, as, bs, g⟩ := g
  exact g.new (o := .dK (ks.zip vs)) e hp fun H' b h1 h2 => ⟨p, vs, b, rfl, rfl, h1, ek, h2⟩
theorem GX.len (g : GX W S0 ρ σ tm vm H) : vm.length = tm.length := let ⟨_, _, _, g⟩ := g; g.rt.len
theorem GX.lenE (g : GX W S0 ρ σ tm vm H) : σ.length = ρ.length := let ⟨_, _, _, g⟩ := g; g.re.len
theorem GX.pop (g : GX W S0 ρ σ (ts ++ tm) (vs ++ vm) H) (e : vs.length = ts.length) : GX W S0 ρ σ tm vm H := by
  obtain ⟨S, as, bs, g⟩ := g
  obtain ⟨b, c, rfl, h1, h2⟩ := g.rt.split e
  exact ⟨S, as, c, g.s0, g.sh, g.wh, g.nw, g.re, h2, by have := g.nd; grind, by have := g.fs; grind, by have := g.fw; grind⟩
theorem GX.pop1 (g : GX W S0 ρ σ (t :: tm) (v :: vm) H) : GX W S0 ρ σ tm vm H := GX.pop (ts := [t]) (vs := [v]) g rfl
/-- temporaries in another order -/
theorem GX.rot (g : GX W S0 ρ σ (ts ++ t :: tm) (vs ++ v :: vm) H) (e : vs.length = ts.length) : GX W S0 ρ σ (t :: (ts ++ tm)) (v :: (vs ++ vm)) H := by
  obtain ⟨S, as, bs, g⟩ := g
  obtain ⟨b, c, rfl, h1, h2⟩ := g.rt.split e
  obtain ⟨v', r, b1, c1, h3, rfl, h4, h5⟩ := h2
  simp only [List.cons.injEq] at h3
  obtain ⟨rfl, rfl⟩ := h3
  refine ⟨S, as, b1 ++ (b ++ c1), g.s0, g.sh, g.wh, g.nw, g.re, ⟨v, _, b1, _, rfl, rfl, h4, h1.append h5⟩, ?_, ?_, ?_⟩
  · have := g.nd; grind
  · have := g.fs; grind
  · have := g.fw; grind
theorem GX.unrot (g : GX W S0 ρ σ (t :: (ts ++ tm)) (v :: (vs ++ vm)) H) (e : vs.length = ts.length) : GX W S0 ρ σ (ts ++ t :: tm) (vs ++ v :: vm) H := by
  obtain ⟨S, as, bs, g⟩ := g
  obtain ⟨v', r, b1, c1, h3, rfl, h4, h5⟩ := g.rt
  simp only [List.cons.injEq] at h3
  obtain ⟨rfl, rfl⟩ := h3
  obtain ⟨b, c, rfl, h1, h2⟩ := h5.split e
  refine ⟨S, as, b ++ (b1 ++ c), g.s0, g.sh, g.wh, g.nw, g.re, h1.append ⟨v, _, b1, _, rfl, rfl, h4, h2⟩, ?_, ?_, ?_⟩
  · have := g.nd; grind
  · have := g.fs; grind
  · have := g.fw; grind
/-- shared data -/
theorem G.pushS (g : G W S0 S H ρ σ tm vm as bs) (h : Rp S d v) : GX W S0 ρ σ (.sh d :: tm) (v :: vm) H :=
  ⟨S, as, bs, g.s0, g.sh, g.wh, g.nw, g.re, ⟨v, vm, [], bs, rfl, rfl, ⟨rfl, h⟩, g.rt⟩, g.nd, g.fs, g.fw⟩
def D.scal : D → Bool
  | .lst _ | .tup _ | .dic _ _ => false
  | _ => true
theorem Rp.scal {S S' : Hp} (h : Rp S d v) (e : d.scal = true) : Rp S' d v := by
  cases d <;> first | exact h | (simp [D.scal] at e)
theorem GX.pushC (g : GX W S0 ρ σ tm vm H) (e : d.scal = true) (h : Rp S d v) : GX W S0 ρ σ (.sh d :: tm) (v :: vm) H := by
  obtain ⟨S, as, bs, g⟩ := g
  exact g.pushS (h.scal e)
/-- S with what stands at as -/
def more (S H : Hp) (as : List Addr) : Hp := fun a => if a ∈ as then H a else S a
theorem more_in {a : Addr} (h : a ∈ as) : more S H as a = H a := if_pos h
theorem more_out {a : Addr} (h : a ∉ as) : more S H as a = S a := if_neg h
theorem more_same (h : ∀ a ∈ as, S a = none) : Same S (more S H as) := fun a o e => by
  by_cases q : a ∈ as
  · rw [h a q] at e; cases e
  · rw [more_out q]; exact e
theorem more_sub (h : Same S H) : Same (more S H as) H := fun a o e => by
  by_cases q : a ∈ as
  · rw [more_in q] at e; exact e
  · rw [more_out q] at e; exact h a o e
/-- the last temporary is frozen -/
theorem GX.frz (g : GX W S0 ρ σ (t :: tm) (v :: vm) H) : GX W S0 ρ σ (.sh t.d :: tm) (v :: vm) H := by
  obtain ⟨S, as, bs, g⟩ := g
  obtain ⟨v', r, b, c, h3, rfl, h4, h5⟩ := g.rt
  simp only [List.cons.injEq] at h3
  obtain ⟨rfl, rfl⟩ := h3
  have nd := g.nd
  have fs := g.fs
  have fw := g.fw
  have e1 : Same S (more S H b) := more_same (by grind)
  refine ⟨more S H b, as, c, fun a o h => e1 a o (g.s0 a o h), more_sub g.sh, g.wh, ?_, g.re.mono e1 fun _ _ => rfl, ⟨v, vm, [], c, rfl, rfl, ⟨rfl, ?_⟩, h5.mono e1 fun _ _ => rfl⟩, by grind, ?_, by grind⟩
  · intro a hw hm
    by_cases q : a ∈ b
    · exact absurd (fw a (by grind)) hw
    · rw [more_out q] at hm; exact g.nw a hw hm
  · exact h4.toRp e1 fun a ha o h => by rw [more_in ha]; exact h
  · intro a ha
    have q : a ∉ b := by grind
    rw [more_out q]; exact fs a (by grind)
theorem set_self {α : Type} : ∀ {l : List α} {i : Nat} {x : α}, l[i]? = some x → l.set i x = l
  | [], _, _, h => by simp at h
  | a :: l, 0, x, h => by simp at h; simp [h]
  | a :: l, i + 1, x, h => by simp at h; simp [set_self h]
/-- a name's value is taken -/
theorem GX.take (g : GX W S0 ρ σ tm vm H) (e : ρ[i]? = some (some t)) : ∃ v, σ[i]? = some (some v) ∧ GX W S0 (ρ.set i none) σ (t :: tm) (v :: vm) H := by
  obtain ⟨S, as, bs, g⟩ := g
  obtain ⟨v, b, c, d, e1, rfl, e3, _, k⟩ := g.re.at e
  have nd := g.nd
  have fs := g.fs
  have fw := g.fw
  refine ⟨v, e1, S, b ++ d, c ++ bs, g.s0, g.sh, g.wh, g.nw, ?_, ⟨v, vm, c, bs, rfl, rfl, e3, g.rt⟩, by grind, by grind, by grind⟩
  have := k S H (some v) (fun _ _ h => h) (fun _ _ => rfl)
  rw [set_self e1] at this
  exact this
/-- .. and put there -/
theorem GX.put (g : GX W S0 ρ σ (t :: tm) (v :: vm) H) (hi : i < ρ.length) : GX W S0 (ρ.set i (some t)) (σ.set i (some v)) tm vm H := by
  obtain ⟨S, as, bs, g⟩ := g
  obtain ⟨v', r, c, c2, h3, rfl, h4, h5⟩ := g.rt
  simp only [List.cons.injEq] at h3
  obtain ⟨rfl, rfl⟩ := h3
  have nd := g.nd
  have fs := g.fs
  have fw := g.fw
  cases e : ρ[i]? with
  | none => rw [List.getElem?_eq_none_iff] at e; omega
  | some o =>
    cases o with
    | none =>
      obtain ⟨b, d, rfl, k⟩ := g.re.put e
      exact ⟨S, b ++ c ++ d, c2, g.s0, g.sh, g.wh, g.nw, k S H t v c (fun _ _ h => h) (fun _ _ => rfl) h4, h5, by grind, by grind, by grind⟩
    | some t0 =>
      obtain ⟨v0, b, c0, d, e1, rfl, e3, k, _⟩ := g.re.at e
      exact ⟨S, b ++ c ++ d, c2, g.s0, g.sh, g.wh, g.nw, k S H t v c (fun _ _ h => h) (fun _ _ => rfl) h4, h5, by grind, by grind, by grind⟩
theorem GX.back (g : GX W S0 ρ σ (t :: tm) (v :: vm) H) (e : σ[i]? = some (some v)) : GX W S0 (ρ.set i (some t)) σ tm vm H := by
  have hi : i < ρ.length := by rw [← g.lenE]; exact (List.getElem?_eq_some_iff.mp e).1
  have := g.put hi
  rw [set_self e] at this
  exact this
theorem GX.forget (g : GX W S0 ρ σ tm vm H) (i : Nat) : GX W S0 (ρ.set i none) σ tm vm H := by
  cases e : ρ[i]? with
  | none => rw [List.set_eq_of_length_le (by rw [List.getElem?_eq_none_iff] at e; exact e)]; exact g
  | some o =>
    cases o with
    | none => rw [set_self e]; exact g
    | some t => obtain ⟨v, _, g'⟩ := g.take e; exact g'.pop1
/-- a name is read: what it holds is frozen -/
theorem GX.read (g : GX W S0 ρ σ tm vm H) (e : ρ[i]? = some (some t)) : ∃ v, σ[i]? = some (some v) ∧ GX W S0 (ρ.set i (some (.sh t.d))) σ (.sh t.d :: tm) (v :: vm) H := by
  obtain ⟨v, e1, g1⟩ := g.take e
  obtain ⟨S, as, bs, g2⟩ := g1.frz
  obtain ⟨v', r, c, c2, h3, rfl, ⟨h4, h4'⟩, h5⟩ := g2.rt
  simp only [List.cons.injEq] at h3
  obtain ⟨rfl, rfl⟩ := h3
  subst h4
  have g3 : GX W S0 (ρ.set i none) σ (.sh t.d :: .sh t.d :: tm) (v :: v :: vm) H := g2.pushS h4'
  refine ⟨v, e1, ?_⟩
  have := g3.back e1
  rw [List.set_set] at this
  exact this
/-- an owned list or dict (the last temporary) and the others change -/
theorem G.mut {a : Addr} {o : HO} {ts' : List T} {tm' : List T} {vm' : List V} {xs xs' : List V} {b c : List Addr} (g : G W S0 S H ρ σ tm0 vm0 as (a :: b ++ c)) (hb : Rtl S H ts xs b) (hc : Rtl S H tm vm c)
    (hr : ∀ S H b c, Rtl S H ts xs b → Rtl S H tm vm c → ∃ b' c', Rtl S H ts' xs' b' ∧ Rtl S H tm' vm' c' ∧ ((b ++ c).Nodup → (b' ++ c').Nodup) ∧ ∀ x ∈ b' ++ c', x ∈ b ++ c)
    (hn : ∀ H' b, H' a = some o → Rtl S H' ts' xs' b → Rt S H' t (.ref a) (a :: b)) (ha : H a ≠ none) : GX W S0 ρ σ (t :: tm') (.ref a :: vm') (upd H a o) := by
  have nd := g.nd
  have fs := g.fs
  have fw := g.fw
  have n1 : a ∉ as := by grind
  have n2 : a ∉ b ++ c := by grind
  have hk : ∀ x, x ≠ a → (upd H a o) x = H x := fun x h => upd_ne h
  have hb2 : Rtl S (upd H a o) ts xs b := hb.mono (fun _ _ h => h) fun x hx => hk x (by grind)
  have hc2 : Rtl S (upd H a o) tm vm c := hc.mono (fun _ _ h => h) fun x hx => hk x (by grind)
  obtain ⟨b', c', q1, q2, q3, q4⟩ := hr S _ b c hb2 hc2
  refine ⟨S, as, (a :: b') ++ c', g.s0, fun x y h => ?_, fun x y h => ?_, g.nw, g.re.mono (fun _ _ h => h) fun x hx => hk x (by grind), ⟨.ref a, vm', a :: b', c', rfl, rfl, hn _ _ upd_same q1, q2⟩, ?_, ?_, ?_⟩
  · rw [hk x (by rintro rfl; rw [fs x (by grind)] at h; cases h)]; exact g.sh x y h
  · rw [hk x (by rintro rfl; rw [fw x (by grind)] at h; cases h)]; exact g.wh x y h
  · have h1 : (b ++ c).Nodup := by grind
    have h2 := q3 h1
    grind
  · grind
  · grind
theorem GX.mutL (g : GX W S0 ρ σ (.ol ts :: tm) (v :: vm) H) : ∃ a xs, v = .ref a ∧ H a = some (.lst xs) ∧ xs.length = ts.length ∧
    ∀ ts' tm' xs' vm', (∀ S H b c, Rtl S H ts xs b → Rtl S H tm vm c → ∃ b' c', Rtl S H ts' xs' b' ∧ Rtl S H tm' vm' c' ∧ ((b ++ c).Nodup → (b' ++ c').Nodup) ∧ ∀ x ∈ b' ++ c', x ∈ b ++ c) →
      GX W S0 ρ σ (.ol ts' :: tm') (v :: vm') (upd H a (.lst xs')) := by
  obtain ⟨S, as, bs, g⟩ := g
  obtain ⟨v', r, c1, c2, h3, rfl, ⟨a, xs, b, rfl, rfl, h4, h5⟩, h6⟩ := g.rt
  simp only [List.cons.injEq] at h3
  obtain ⟨rfl, rfl⟩ := h3
  refine ⟨a, xs, rfl, h4, h5.len, fun ts' tm' xs' vm' hr => ?_⟩
  exact g.mut h5 h6 hr (fun H' b q1 q2 => ⟨a, xs', b, rfl, rfl, q1, q2⟩) (by rw [h4]; simp)
theorem GX.mutD {ks : List Key} (g : GX W S0 ρ σ (.od ks ts :: tm) (v :: vm) H) : ∃ a xs, v = .ref a ∧ H a = some (.dK (ks.zip xs)) ∧ ks.length = ts.length ∧ xs.length = ts.length ∧
    ∀ ks' ts' tm' xs' vm', ks'.length = ts'.length → (∀ S H b c, Rtl S H ts xs b → Rtl S H tm vm c → ∃ b' c', Rtl S H ts' xs' b' ∧ Rtl S H tm' vm' c' ∧ ((b ++ c).Nodup → (b' ++ c').Nodup) ∧ ∀ x ∈ b' ++ c', x ∈ b ++ c) →
      GX W S0 ρ σ (.od ks' ts' :: tm') (v :: vm') (upd H a (.dK (ks'.zip xs'))) := by
  obtain ⟨S, as, bs, g⟩ := g
  obtain ⟨v', r, c1, c2, h3, rfl, ⟨a, xs, b, rfl, rfl, h4, h7, h5⟩, h6⟩ := g.rt
  simp only [List.cons.injEq] at h3
  obtain ⟨rfl, rfl⟩ := h3
  refine ⟨a, xs, rfl, h4, h7, h5.len, fun ks' ts' tm' xs' vm' hk hr => ?_⟩
  exact g.mut h5 h6 hr (fun H' b q1 q2 => ⟨a, xs', b, rfl, rfl, q1, hk, q2⟩) (by rw [h4]; simp)
/-- all but what stands at as -/
def less (H : Hp) (as : List Addr) : Hp := fun a => if a ∈ as then none else H a
theorem less_in {a : Addr} (h : a ∈ as) : less H as a = none := if_pos h
theorem less_out {a : Addr} (h : a ∉ as) : less H as a = H a := if_neg h
/-- a call: what the callee sees, and what comes back -/
theorem GX.call (g : GX W S0 ρ σ (ts ++ tm) (vs ++ vm) H) (e : vs.length = ts.length) : ∃ W' S', GX W' S' [] [] ts vs H ∧
    (∀ us ws H', us.length = ws.length → GX W' S' [] [] us ws H' → GX W S0 ρ σ (us ++ tm) (ws ++ vm) H') := by
  obtain ⟨S, as, bs, g⟩ := g
  obtain ⟨b, c, rfl, h1, h2⟩ := g.rt.split e
  have nd := g.nd
  have fs := g.fs
  have fw := g.fw
  refine ⟨less H b, S, ⟨S, [], b, fun _ _ h => h, g.sh, fun a o h => ?_, fun a h1 h2 => h2, ⟨rfl, rfl⟩, h1, by grind, by grind, fun a ha => less_in (by simpa using ha)⟩, fun us ws H' hl g' => ?_⟩
  · by_cases q : a ∈ b
    · rw [less_in q] at h; cases h
    · rw [less_out q] at h; exact h
  obtain ⟨S', as', b', g'⟩ := g'
  have ea : as' = [] := g'.re.2
  subst ea
  have nd' := g'.nd
  have fs' := g'.fs
  have fw' := g'.fw
  have keep : ∀ a, a ∉ b → H a ≠ none → H' a = H a := fun a h h' => by
    have : less H b a ≠ none := by rw [less_out h]; exact h'
    rw [same_at g'.wh this, less_out h]
  have ka : ∀ a ∈ as, H' a = H a := fun a ha => keep a (by grind) (g.re.there a ha)
  have kc : ∀ a ∈ c, H' a = H a := fun a ha => keep a (by grind) (h2.there a ha)
  have nS : ∀ a, a ∉ b → H a ≠ none → S a = none → S' a = none := fun a h h' hs => by
    cases q : S' a with
    | none => rfl
    | some o => exact absurd hs (g'.nw a (by rw [less_out h]; exact h') (by rw [q]; simp))
  have nb : ∀ a ∈ b', ∀ x, (x ∈ as ∨ x ∈ c) → a ≠ x := fun a ha x hx e => by
    subst e
    have h0 := fw' a (by simpa using ha)
    have h3 : a ∉ b := by grind
    rw [less_out h3] at h0
    rcases hx with h | h
    · exact g.re.there a h h0
    · exact h2.there a h h0
  refine ⟨S', as, b' ++ c, fun a o h => g'.s0 a o (g.s0 a o h), g'.sh, fun a o h => ?_, fun a hw hs => ?_, g.re.mono g'.s0 ka, g'.rt.append (h2.mono g'.s0 kc), ?_, ?_, ?_⟩
  · have hb : a ∉ b := fun q => by rw [fw a (by grind)] at h; cases h
    rw [keep a hb (by rw [g.wh a o h]; simp)]; exact g.wh a o h
  · have hb : a ∉ b := fun q => hw (fw a (by grind))
    have hh : H a ≠ none := by
      cases q : W a with
      | none => exact absurd q hw
      | some o => rw [g.wh a o q]; simp
    exact g.nw a hw (g'.nw a (by rw [less_out hb]; exact hh) hs)
  · grind
  · intro a ha
    rcases List.mem_append.mp ha with h | h
    · exact nS a (by grind) (g.re.there a h) (fs a (by grind))
    · rcases List.mem_append.mp h with h | h
      · exact fs' a (by simpa using h)
      · exact nS a (by grind) (h2.there a h) (fs a (by grind))
  · intro a ha
    rcases List.mem_append.mp ha with h | h
    · exact fw a (by grind)
    · rcases List.mem_append.mp h with h | h
      · have h0 := fw' a (by simpa using h)
        by_cases hb : a ∈ b
        · exact fw a (by grind)
        · rw [less_out hb] at h0
          cases q : W a with
          | none => rfl
          | some o => rw [g.wh a o q] at h0; cases h0
      · exact fw a (by grind)
end Z

namespace Z
noncomputable section
open PySem L2

/-! ### readings that change nothing: values of expressions, of tests, of arguments -/
abbrev PM := Env → Option D
abbrev TM := Env → Option Bool
abbrev AM := Env → Option (List D)
def SP (te : TE) (m : PM) : Prop := ∀ ρ σ H, RV H ρ σ → ∀ d, m ρ = some d → ∀ Q : VK, (∀ v H', Same H H' → Rp H' d v → Q v H') → te σ H Q
def SPT (tt : TT) (m : TM) : Prop := ∀ ρ σ H, RV H ρ σ → ∀ b, m ρ = some b → ∀ Q : Bool → Hp → Prop, (∀ H', Same H H' → Q b H') → tt σ H Q
def SPA (ta : TA) (m : AM) : Prop := ∀ ρ σ H, RV H ρ σ → ∀ ds, m ρ = some ds → ∀ Q : List V → Hp → Prop, (∀ vs H', Same H H' → Rpl H' ds vs → Q vs H') → ta σ H Q
def OpS (r : R2) (o : D → D → Option D) : Prop := ∀ H dx dy x y d, Rp H dx x → Rp H dy y → o dx dy = some d → ∀ Q : VK, (∀ v H', Same H H' → Rp H' d v → Q v H') → r x y H Q
def UnS (r : V → Hp → VK → Prop) (o : D → Option D) : Prop := ∀ H dx x d, Rp H dx x → o dx = some d → ∀ Q : VK, (∀ v H', Same H H' → Rp H' d v → Q v H') → r x H Q
def CallS (r : List V → Hp → VK → Prop) (o : List D → Option D) : Prop := ∀ H ds vs d, Rpl H ds vs → o ds = some d → ∀ Q : VK, (∀ v H', Same H H' → Rp H' d v → Q v H') → r vs H Q
theorem some_bind {α β : Type} {o : Option α} {f : α → Option β} {b : β} (h : o.bind f = some b) : ∃ a, o = some a ∧ f a = some b := Option.bind_eq_some_iff.mp h

def pV (i : Nat) : PM := fun ρ => match ρ[i]? with
  | some (some t) => some t.d
  | _ => none
theorem pV_some {i : Nat} {ρ : Env} {d : D} (h : pV i ρ = some d) : ∃ t, ρ[i]? = some (some t) ∧ t.d = d := by
  unfold pV at h
  split at h
  · rename_i t e
    exact ⟨t, e, Option.some.inj h⟩
  · cases h
theorem sp_var {i : Nat} : SP (tVar i) (pV i) := fun ρ σ H g d h Q q => by
  obtain ⟨t, e, rfl⟩ := pV_some h
  obtain ⟨v, e1, e2⟩ := g i t e
  exact ⟨v, e1, q v H (fun _ _ h => h) e2⟩
def pC (d : D) : PM := fun _ => some d
theorem sp_int {i : Int} : SP (tC (.int i)) (pC (.int i)) := fun ρ σ H g d h Q q => by cases h; exact q _ H (fun _ _ h => h) rfl
theorem sp_bl {i : Bool} : SP (tC (.bl i)) (pC (.bl i)) := fun ρ σ H g d h Q q => by cases h; exact q _ H (fun _ _ h => h) rfl
theorem sp_str {i : Str} : SP (tC (.str i)) (pC (.str i)) := fun ρ σ H g d h Q q => by cases h; exact q _ H (fun _ _ h => h) rfl
theorem sp_non : SP (tC .non) (pC .non) := fun ρ σ H g d h Q q => by cases h; exact q _ H (fun _ _ h => h) rfl
def pOp (o : D → D → Option D) (a b : PM) : PM := fun ρ => (a ρ).bind fun x => (b ρ).bind fun y => o x y
theorem sp_op {r : R2} {o : D → D → Option D} {ta tb : TE} {a b : PM} (hr : OpS r o) (ha : SP ta a) (hb : SP tb b) : SP (tOp r ta tb) (pOp o a b) := fun ρ σ H g d h Q q => by
  obtain ⟨x, h1, h⟩ := some_bind h
  obtain ⟨y, h2, h⟩ := some_bind h
  refine ha ρ σ H g x h1 _ fun v H1 e1 r1 => hb ρ σ H1 (g.ext e1) y h2 _ fun w H2 e2 r2 => hr H2 x y v w d (r1.mono e2) r2 h Q fun z H3 e3 r3 => q z H3 (e1.trans (e2.trans e3)) r3
def pUn (o : D → Option D) (a : PM) : PM := fun ρ => (a ρ).bind o
theorem sp_un {r : V → Hp → VK → Prop} {o : D → Option D} {ta : TE} {a : PM} (hr : UnS r o) (ha : SP ta a) : SP (tUn r ta) (pUn o a) := fun ρ σ H g d h Q q => by
  obtain ⟨x, h1, h⟩ := some_bind h
  refine ha ρ σ H g x h1 _ fun v H1 e1 r1 => hr H1 x v d r1 h Q fun z H3 e3 r3 => q z H3 (e1.trans e3) r3
def pIf (t : TM) (a b : PM) : PM := fun ρ => (t ρ).bind fun c => if c = true then a ρ else b ρ
theorem sp_if {tt : TT} {t : TM} {ta tb : TE} {a b : PM} (ht : SPT tt t) (ha : SP ta a) (hb : SP tb b) : SP (tIf tt ta tb) (pIf t a b) := fun ρ σ H g d h Q q => by
  obtain ⟨c, h1, h⟩ := some_bind h
  refine ht ρ σ H g c h1 _ fun H1 e1 => ?_
  cases c with
  | true => exact ha ρ σ H1 (g.ext e1) d h Q fun v H2 e2 r => q v H2 (e1.trans e2) r
  | false => exact hb ρ σ H1 (g.ext e1) d h Q fun v H2 e2 r => q v H2 (e1.trans e2) r
def D.tru : D → Option Bool
  | .bl b => some b
  | _ => none
def pB (a : PM) : TM := fun ρ => (a ρ).bind D.tru
theorem tru_bl {d : D} {b : Bool} (h : d.tru = some b) : d = .bl b := by
  cases d <;> first | (cases h; rfl) | cases h
theorem sp_b {ta : TE} {a : PM} (ha : SP ta a) : SPT (tB ta) (pB a) := fun ρ σ H g d h Q q => by
  obtain ⟨x, h1, h⟩ := some_bind h
  cases tru_bl h
  exact ha ρ σ H g _ h1 _ fun v H1 e1 r1 => ⟨_, r1, q H1 e1⟩
theorem sp_test {ta : TE} {a : PM} (ha : SP ta a) : SPT (tTest ta) (pB a) := fun ρ σ H g d h Q q => by
  obtain ⟨x, h1, h⟩ := some_bind h
  cases tru_bl h
  exact ha ρ σ H g _ h1 _ fun v H1 e1 r1 => ⟨_, r1, q H1 e1⟩
def qAnd (a b : TM) : TM := fun ρ => (a ρ).bind fun c => if c = true then b ρ else some false
def qOr (a b : TM) : TM := fun ρ => (a ρ).bind fun c => if c = true then some true else b ρ
def qNot (a : TM) : TM := fun ρ => (a ρ).map (!·)
theorem st_and {ta tb : TT} {a b : TM} (ha : SPT ta a) (hb : SPT tb b) : SPT (tAnd ta tb) (qAnd a b) := fun ρ σ H g d h Q q => by
  obtain ⟨c, h1, h⟩ := some_bind h
  refine ha ρ σ H g c h1 _ fun H1 e1 => ?_
  cases c with
  | true => exact hb ρ σ H1 (g.ext e1) d h Q fun H2 e2 => q H2 (e1.trans e2)
  | false => cases h; exact q H1 e1
theorem st_or {ta tb : TT} {a b : TM} (ha : SPT ta a) (hb : SPT tb b) : SPT (tOr ta tb) (qOr a b) := fun ρ σ H g d h Q q => by
  obtain ⟨c, h1, h⟩ := some_bind h
  refine ha ρ σ H g c h1 _ fun H1 e1 => ?_
  cases c with
  | false => exact hb ρ σ H1 (g.ext e1) d h Q fun H2 e2 => q H2 (e1.trans e2)
  | true => cases h; exact q H1 e1
theorem st_not {ta : TT} {a : TM} (ha : SPT ta a) : SPT (tNot ta) (qNot a) := fun ρ σ H g d h Q q => by
  obtain ⟨c, h1, rfl⟩ := Option.map_eq_some_iff.mp h
  exact ha ρ σ H g c h1 _ fun H1 e1 => q H1 e1
def pAndV (a b : PM) : PM := fun ρ => (a ρ).bind fun x => x.tru.bind fun c => if c = true then b ρ else some (.bl false)
def pOrV (a b : PM) : PM := fun ρ => (a ρ).bind fun x => x.tru.bind fun c => if c = true then some (.bl true) else b ρ
def pNotV (a : PM) : PM := fun ρ => (a ρ).bind fun x => x.tru.bind fun c => some (.bl (!c))
theorem sp_andV {ta tb : TE} {a b : PM} (ha : SP ta a) (hb : SP tb b) : SP (tAndV ta tb) (pAndV a b) := fun ρ σ H g d h Q q => by
  obtain ⟨x, h1, h⟩ := some_bind h
  obtain ⟨c, h2, h⟩ := some_bind h
  cases tru_bl h2
  refine ha ρ σ H g _ h1 _ fun v H1 e1 r1 => ⟨c, r1, ?_⟩
  cases c with
  | true => exact hb ρ σ H1 (g.ext e1) d h Q fun w H2 e2 r2 => q w H2 (e1.trans e2) r2
  | false => cases h; exact q _ H1 e1 rfl
theorem sp_orV {ta tb : TE} {a b : PM} (ha : SP ta a) (hb : SP tb b) : SP (tOrV ta tb) (pOrV a b) := fun ρ σ H g d h Q q => by
  obtain ⟨x, h1, h⟩ := some_bind h
  obtain ⟨c, h2, h⟩ := some_bind h
  cases tru_bl h2
  refine ha ρ σ H g _ h1 _ fun v H1 e1 r1 => ⟨c, r1, ?_⟩
  cases c with
  | false => exact hb ρ σ H1 (g.ext e1) d h Q fun w H2 e2 r2 => q w H2 (e1.trans e2) r2
  | true => cases h; exact q _ H1 e1 rfl
theorem sp_notV {ta : TE} {a : PM} (ha : SP ta a) : SP (tNotV ta) (pNotV a) := fun ρ σ H g d h Q q => by
  obtain ⟨x, h1, h⟩ := some_bind h
  obtain ⟨c, h2, h⟩ := some_bind h
  cases tru_bl h2
  cases h
  exact ha ρ σ H g _ h1 _ fun v H1 e1 r1 => ⟨c, r1, q _ H1 e1 rfl⟩
def pChain (o o' : D → D → Option D) (a b c : PM) : PM := fun ρ => (a ρ).bind fun x => (b ρ).bind fun y => (o x y).bind fun z => z.tru.bind fun k => if k = true then (c ρ).bind fun w => o' y w else some (.bl false)
theorem sp_chain {r r' : R2} {o o' : D → D → Option D} {ta tb tc : TE} {a b c : PM} (hr : OpS r o) (hr' : OpS r' o') (ha : SP ta a) (hb : SP tb b) (hc : SP tc c) : SP (tChain r r' ta tb tc) (pChain o o' a b c) := fun ρ σ H g d h Q q => by
  obtain ⟨x, h1, ha1⟩ := some_bind h
  obtain ⟨y, h2, ha2⟩ := some_bind ha1
  obtain ⟨z, h3, ha3⟩ := some_bind ha2
  obtain ⟨k, h4, ha4⟩ := some_bind ha3
  clear h ha1 ha2 ha3
  cases tru_bl h4
  refine ha ρ σ H g x h1 _ fun v H1 e1 r1 => hb ρ σ H1 (g.ext e1) y h2 _ fun w H2 e2 r2 => hr H2 x y v w _ (r1.mono e2) r2 h3 _ fun z H3 e3 r3 => ⟨k, r3, ?_⟩
  cases k with
  | false => cases ha4; exact q _ H3 (e1.trans (e2.trans e3)) rfl
  | true =>
    rw [if_pos rfl] at ha4
    obtain ⟨w', h5, h6⟩ := some_bind ha4
    exact hc ρ σ H3 (g.ext (e1.trans (e2.trans e3))) w' h5 _ fun u H4 e4 r4 => hr' H4 y w' w u d (r2.mono (e3.trans e4)) r4 h6 Q fun z H5 e5 r5 => q z H5 (e1.trans (e2.trans (e3.trans (e4.trans e5)))) r5
def aNil : AM := fun _ => some []
def aCons (a : PM) (b : AM) : AM := fun ρ => (a ρ).bind fun x => (b ρ).bind fun y => some (x :: y)
theorem sa_nil : SPA tNil aNil := fun ρ σ H g d h Q q => by cases h; exact q [] H (fun _ _ h => h) rfl
theorem sa_cons {ta : TE} {tb : TA} {a : PM} {b : AM} (ha : SP ta a) (hb : SPA tb b) : SPA (tCons ta tb) (aCons a b) := fun ρ σ H g d h Q q => by
  obtain ⟨x, h1, h⟩ := some_bind h
  obtain ⟨y, h2, h⟩ := some_bind h
  cases h
  exact ha ρ σ H g x h1 _ fun v H1 e1 r1 => hb ρ σ H1 (g.ext e1) y h2 _ fun w H2 e2 r2 => q _ H2 (e1.trans e2) ⟨v, w, rfl, r1.mono e2, r2⟩
def pCB (o : List D → Option D) (a : AM) : PM := fun ρ => (a ρ).bind o
theorem sp_cb {r : List V → Hp → VK → Prop} {o : List D → Option D} {ta : TA} {a : AM} (hr : CallS r o) (ha : SPA ta a) : SP (tCB r ta) (pCB o a) := fun ρ σ H g d h Q q => by
  obtain ⟨x, h1, h⟩ := some_bind h
  exact ha ρ σ H g x h1 _ fun v H1 e1 r1 => hr H1 x v d r1 h Q fun w H2 e2 r2 => q w H2 (e1.trans e2) r2
def lim : Nat := 1000000
/-- an int that a machine word holds -/
def InR (j : Int) : Prop := -4611686018427387904 ≤ j ∧ j < 4611686018427387904
noncomputable instance (j : Int) : Decidable (InR j) := Classical.propDecidable _
theorem InR.out {j : Int} (h : InR j) : -(2 ^ 62) ≤ j ∧ j < 2 ^ 62 := by
  unfold InR at h
  have e : (2 : Int) ^ 62 = 4611686018427387904 := by decide
  rw [e]; exact h
theorem InR.of {j : Int} (h0 : -1000000000 ≤ j) (h1 : j ≤ 1000000000) : InR j := by unfold InR; omega
theorem lim_le {n : Nat} (h : n ≤ lim) : n ≤ sizeLine := Nat.le_trans h (by decide)
theorem lim_lt {n : Nat} (h : n < lim) : n < sizeLine := Nat.lt_of_lt_of_le h (by decide)
def pLst (a : AM) : PM := fun ρ => (a ρ).bind fun l => if l.length ≤ lim then some (.lst l) else none
def pTup (a : AM) : PM := fun ρ => (a ρ).bind fun l => if l.length ≤ lim then some (.tup l) else none
theorem ite_some {c : Prop} [Decidable c] {α : Type} {o : Option α} {a : α} (h : (if c then o else none) = some a) : c ∧ o = some a := by
  by_cases k : c
  · rw [if_pos k] at h; exact ⟨k, h⟩
  · rw [if_neg k] at h; cases h
theorem sp_lst {ta : TA} {a : AM} (ha : SPA ta a) : SP (tLst ta) (pLst a) := fun ρ σ H g d h Q q => by
  obtain ⟨x, h1, h⟩ := some_bind h
  obtain ⟨hz, h⟩ := ite_some h
  cases h
  refine ha ρ σ H g x h1 _ fun v H1 e1 r1 => ⟨lim_le (by rw [r1.len]; exact hz), fun p hp => ?_⟩
  exact q _ _ (e1.trans (same_new hp)) ⟨p, v, rfl, upd_same, r1.mono (same_new hp)⟩
theorem sp_tup {ta : TA} {a : AM} (ha : SPA ta a) : SP (tTup ta) (pTup a) := fun ρ σ H g d h Q q => by
  obtain ⟨x, h1, h⟩ := some_bind h
  obtain ⟨hz, h⟩ := ite_some h
  cases h
  refine ha ρ σ H g x h1 _ fun v H1 e1 r1 => ⟨lim_le (by rw [r1.len]; exact hz), fun p hp => ?_⟩
  exact q _ _ (e1.trans (same_new hp)) ⟨p, v, rfl, upd_same, r1.mono (same_new hp)⟩

/-! ### operators by data -/
def rOr (r r' : R2) : R2 := fun x y H Q => r x y H Q ∨ r' x y H Q
def oOr (o o' : D → D → Option D) : D → D → Option D := fun x y => match o x y with
  | some d => some d
  | none => o' x y
theorem os_or {r r' : R2} {o o' : D → D → Option D} (h : OpS r o) (h' : OpS r' o') : OpS (rOr r r') (oOr o o') := fun H dx dy x y d hx hy e Q q => by
  unfold oOr at e
  split at e
  · rename_i z ez
    cases e
    exact .inl (h H dx dy x y _ hx hy ez Q q)
  · exact .inr (h' H dx dy x y _ hx hy e Q q)
def oI (C : Int → Int → Prop) [∀ i j, Decidable (C i j)] (g : Int → Int → D) : D → D → Option D
  | .int i, .int j => if C i j then some (g i j) else none
  | _, _ => none
theorem os_I {C C' : Int → Int → Prop} [∀ i j, Decidable (C i j)] {g : Int → Int → D} {gv : Int → Int → V} (hc : ∀ i j, C i j → C' i j) (hg : ∀ i j H, Rp H (g i j) (gv i j)) : OpS (rI C' gv) (oI C g) := fun H dx dy x y d hx hy e Q q => by
  cases dx <;> cases dy <;> first | (cases e; done) | skip
  obtain ⟨hz, e⟩ := ite_some e
  cases e
  cases hx
  cases hy
  exact ⟨_, _, rfl, rfl, hc _ _ hz, q _ H (fun _ _ h => h) (hg _ _ H)⟩
def oI0 (g : Int → Int → D) : D → D → Option D
  | .int i, .int j => some (g i j)
  | _, _ => none
theorem os_I0 {g : Int → Int → D} {gv : Int → Int → V} (hg : ∀ i j H, Rp H (g i j) (gv i j)) : OpS (rI0 gv) (oI0 g) := fun H dx dy x y d hx hy e Q q => by
  cases dx <;> cases dy <;> first | (cases e; done) | skip
  cases e
  cases hx
  cases hy
  exact ⟨_, _, rfl, rfl, q _ H (fun _ _ h => h) (hg _ _ H)⟩
/-- lists put together -/
def oCat : D → D → Option D
  | .lst l, .lst m => if l.length + m.length ≤ lim then some (.lst (l ++ m)) else none
  | _, _ => none
theorem os_cat : OpS rCat oCat := fun H dx dy x y d hx hy e Q q => by
  cases dx <;> cases dy <;> first | (cases e; done) | skip
  obtain ⟨hz, e⟩ := ite_some e
  cases e
  obtain ⟨a, vs, rfl, h1, h2⟩ := hx
  obtain ⟨b, ws, rfl, h3, h4⟩ := hy
  refine ⟨a, b, vs, ws, rfl, rfl, h1, h3, lim_le (by rw [h2.len, h4.len]; exact hz), fun p hp => ?_⟩
  exact q _ _ (same_new hp) ⟨p, _, rfl, upd_same, (h2.append h4).mono (same_new hp)⟩
def rAddS : R2 := fun x y H Q => ∃ i j, x = .str i ∧ y = .str j ∧ i.length + j.length ≤ sizeLine ∧ Q (.str (i ++ j)) H
def oAddS : D → D → Option D
  | .str i, .str j => if i.length + j.length ≤ lim then some (.str (i ++ j)) else none
  | _, _ => none
theorem os_addS : OpS rAddS oAddS := fun H dx dy x y d hx hy e Q q => by
  cases dx <;> cases dy <;> first | (cases e; done) | skip
  obtain ⟨hz, e⟩ := ite_some e
  cases e
  cases hx
  cases hy
  exact ⟨_, _, rfl, rfl, lim_le hz, q _ H (fun _ _ h => h) rfl⟩
/-- a list some times over -/
def oRep : D → D → Option D
  | .lst l, .int k => if l.length * k.toNat ≤ lim ∧ -(2 ^ 62) < k ∧ k < 2 ^ 62 then some (.lst ((List.replicate k.toNat l).flatten)) else none
  | _, _ => none
section
variable {X : Cx}
def rUAdd : R2 := rOr (rI0 fun i j => .int (i + j)) (rOr rCat rAddS)
theorem u_add : OpR X (binaryOp .Add) rUAdd := op_add.or (op_cat.or op_add_str)
def oAdd : D → D → Option D := oOr (oI0 fun i j => .int (i + j)) (oOr oCat oAddS)
theorem os_add : OpS rUAdd oAdd := os_or (os_I0 fun _ _ _ => rfl) (os_or os_cat os_addS)
def rUSub : R2 := rI0 fun i j => .int (i - j)
def oSub : D → D → Option D := oI0 fun i j => .int (i - j)
theorem u_sub : OpR X (binaryOp .Sub) rUSub := op_sub
theorem os_sub : OpS rUSub oSub := os_I0 fun _ _ _ => rfl
def smallM (i j : Int) : Prop := (-(2 ^ 64) < i ∧ i < 2 ^ 64) ∨ (-(2 ^ 64) < j ∧ j < 2 ^ 64) ∨ i.natAbs.log2 + j.natAbs.log2 < 1000000
noncomputable instance (i j : Int) : Decidable (smallM i j) := Classical.propDecidable _
def rMulI : R2 := rOr (rI CMul fun i j => .int (i * j)) (rI CMulW fun i j => .int (i * j))
theorem os_mulI : OpS rMulI (oI smallM fun i j => .int (i * j)) := fun H dx dy x y d hx hy e Q q => by
  cases dx <;> cases dy <;> first | (cases e; done) | skip
  obtain ⟨hz, e⟩ := ite_some e
  cases e
  cases hx
  cases hy
  rcases hz with h | h | h
  · exact .inl ⟨_, _, rfl, rfl, .inl h, q _ H (fun _ _ h => h) rfl⟩
  · exact .inl ⟨_, _, rfl, rfl, .inr h, q _ H (fun _ _ h => h) rfl⟩
  · exact .inr ⟨_, _, rfl, rfl, h, q _ H (fun _ _ h => h) rfl⟩
def rUDiv : R2 := rI CDivW fun i j => .int (i / j)
def smallD (i j : Int) : Prop := 0 < j ∧ j.natAbs.log2 < 9000
noncomputable instance (i j : Int) : Decidable (smallD i j) := Classical.propDecidable _
def oDiv : D → D → Option D := oI smallD fun i j => .int (i / j)
theorem u_div : OpR X (binaryOp .FloorDiv) rUDiv := op_fdivW
theorem os_div : OpS rUDiv oDiv := os_I (fun _ _ h => h) fun _ _ _ => rfl
def rUMod : R2 := rI (fun _ j => 0 < j) fun i j => .int (i % j)
def oMod : D → D → Option D := oI (fun _ j => 0 < j) fun i j => .int (i % j)
theorem u_mod : OpR X (binaryOp .Mod) rUMod := op_mod
theorem os_mod : OpS rUMod oMod := os_I (fun _ _ h => h) fun _ _ _ => rfl
def rUPow : R2 := rI CPow fun i j => .int (i ^ j.toNat)
def smallP (i j : Int) : Prop := 0 ≤ j ∧ j ≤ 1000000 ∧ i.natAbs < 2 ^ 64
noncomputable instance (i j : Int) : Decidable (smallP i j) := Classical.propDecidable _
def oPow : D → D → Option D := oI smallP fun i j => .int (i ^ j.toNat)
theorem u_pow : OpR X (binaryOp .Pow) rUPow := op_pow
theorem os_pow : OpS rUPow oPow := os_I (fun _ _ h => h) fun _ _ _ => rfl
def rULt : R2 := rI0 fun i j => .bl (decide (i < j))
def oLt : D → D → Option D := oI0 fun i j => .bl (decide (i < j))
theorem u_lt : OpR X (compareOp .Lt) rULt := op_lt
theorem os_lt : OpS rULt oLt := os_I0 fun _ _ _ => rfl
def rULe : R2 := rI0 fun i j => .bl (decide (i ≤ j))
def oLe : D → D → Option D := oI0 fun i j => .bl (decide (i ≤ j))
theorem u_le : OpR X (compareOp .LtE) rULe := op_le
theorem os_le : OpS rULe oLe := os_I0 fun _ _ _ => rfl
def rUGt : R2 := rI0 fun i j => .bl (decide (j < i))
def oGt : D → D → Option D := oI0 fun i j => .bl (decide (j < i))
theorem u_gt : OpR X (compareOp .Gt) rUGt := op_gt
theorem os_gt : OpS rUGt oGt := os_I0 fun _ _ _ => rfl
def rUGe : R2 := rI0 fun i j => .bl (decide (j ≤ i))
def oGe : D → D → Option D := oI0 fun i j => .bl (decide (j ≤ i))
theorem u_ge : OpR X (compareOp .GtE) rUGe := op_ge
theorem os_ge : OpS rUGe oGe := os_I0 fun _ _ _ => rfl
end

/-! ### == of data -/
mutual
def D.py : D → PyData
  | .non => .none
  | .bl b => .bool b
  | .int i => .int i
  | .str s => .str s
  | .lst l => .list (pyl l)
  | .tup l => .tuple (pyl l)
  | .dic _ _ => .dict []
def pyl : List D → List PyData
  | [] => []
  | d :: l => d.py :: pyl l
end
/- no dict within, and not deeper than n -/
mutual
def D.dat : Nat → D → Bool
  | _, .non => true
  | _, .bl _ => true
  | _, .int _ => true
  | _, .str s => PyData.strOk s
  | n + 1, .lst l => datl n l
  | n + 1, .tup l => datl n l
  | _, _ => false
def datl : Nat → List D → Bool
  | _, [] => true
  | n, d :: l => d.dat n && datl n l
end
mutual
theorem Rp.dp {K : PySem.W.Frag} {H : Hp} : ∀ {d : D} {v : V} {n : Nat}, d.dat n = true → Rp H d v → Dp K H v d.py
  | .non, _, _, _, h => by cases h; exact .non
  | .bl _, _, _, _, h => by cases h; exact .bl _
  | .int _, _, _, _, h => by cases h; exact .int _
  | .str _, _, _, _, h => by cases h; exact .str _
  | .lst l, _, n + 1, k, ⟨a, vs, h1, h2, h3⟩ => by subst h1; exact .lst (.of h2) (Rpl.dp (by simpa [D.dat] using k) h3)
  | .tup l, _, n + 1, k, ⟨a, vs, h1, h2, h3⟩ => by subst h1; exact .tup (.of h2) (Rpl.dp (by simpa [D.dat] using k) h3)
  | .lst l, _, 0, k, _ => by simp [D.dat] at k
  | .tup l, _, 0, k, _ => by simp [D.dat] at k
  | .dic _ _, _, _, k, _ => by simp [D.dat] at k
theorem Rpl.dp {K : PySem.W.Frag} {H : Hp} : ∀ {l : List D} {vs : List V} {n : Nat}, datl n l = true → Rpl H l vs → DpAll K H vs (pyl l)
  | [], _, _, _, h => by rw [show _ = [] from h]; exact .nil
  | d :: l, _, n, k, ⟨v, r, h1, h2, h3⟩ => by
    subst h1
    simp only [datl, Bool.and_eq_true] at k
    exact .cons (Rp.dp k.1 h2) (Rpl.dp k.2 h3)
end
mutual
theorem dat_lay : ∀ {d : D} {n : Nat}, d.dat n = true → d.py.canLay0 = true ∧ d.py.depth ≤ n
  | .non, _, _ => ⟨rfl, Nat.zero_le _⟩
  | .bl _, _, _ => ⟨rfl, Nat.zero_le _⟩
  | .int _, _, _ => ⟨rfl, Nat.zero_le _⟩
  | .str s, n, k => ⟨by simpa [D.py, PyData.canLay0, D.dat] using k, Nat.zero_le _⟩
  | .lst l, n + 1, k => by
    have := datl_lay (n := n) (l := l) (by simpa [D.dat] using k)
    simp only [D.py, PyData.canLay0, PyData.depth]
    exact ⟨this.1, by omega⟩
  | .tup l, n + 1, k => by
    have := datl_lay (n := n) (l := l) (by simpa [D.dat] using k)
    simp only [D.py, PyData.canLay0, PyData.depth]
    exact ⟨this.1, by omega⟩
  | .lst l, 0, k => by simp [D.dat] at k
  | .tup l, 0, k => by simp [D.dat] at k
  | .dic _ _, _, k => by simp [D.dat] at k
theorem datl_lay : ∀ {l : List D} {n : Nat}, datl n l = true → PyData.canLayAll0 (pyl l) = true ∧ PyData.depthAll (pyl l) ≤ n
  | [], _, _ => ⟨rfl, Nat.zero_le _⟩
  | d :: l, n, k => by
    simp only [datl, Bool.and_eq_true] at k
    have h1 := dat_lay k.1
    have h2 := datl_lay k.2
    simp only [pyl, PyData.canLayAll0, PyData.depthAll, h1.1, h2.1, Bool.and_self, true_and]
    omega
end
theorem dat_shaped {d : D} (h : d.dat 60 = true) : SeqAt.shaped d.py = true := by
  have := dat_lay h
  unfold SeqAt.shaped
  rw [this.1, decide_eq_true (by omega)]
  rfl
def oEq : D → D → Option D := fun x y => if x.dat 60 = true ∧ y.dat 60 = true then some (.bl (PyData.eqv x.py y.py)) else none
def oNe : D → D → Option D := fun x y => if x.dat 60 = true ∧ y.dat 60 = true then some (.bl (!PyData.eqv x.py y.py)) else none
theorem os_eq {K : PySem.W.Frag} : OpS (rEqD K) oEq := fun H dx dy x y d hx hy e Q q => by
  obtain ⟨⟨k1, k2⟩, e⟩ := ite_some e
  cases e
  exact ⟨_, _, hx.dp k1, hy.dp k2, dat_shaped k1, dat_shaped k2, q _ H (fun _ _ h => h) rfl⟩
theorem os_ne {K : PySem.W.Frag} : OpS (rNeD K) oNe := fun H dx dy x y d hx hy e Q q => by
  obtain ⟨⟨k1, k2⟩, e⟩ := ite_some e
  cases e
  exact ⟨_, _, hx.dp k1, hy.dp k2, dat_shaped k1, dat_shaped k2, q _ H (fun _ _ h => h) rfl⟩
/-! ### items -/
theorem atI_map {α β : Type} {f : α → β} {xs : List α} {i : Int} : atI (xs.map f) i = (atI xs i).map f := by
  unfold atI
  rw [List.length_map]
  cases ixN xs.length i with
  | none => rfl
  | some j => simp
theorem Rpl.atI {S : Hp} {l : List D} {vs : List V} {i : Int} {d : D} (h : Rpl S l vs) (e : L2.atI l i = some d) : ∃ v, L2.atI vs i = some v ∧ Rp S d v := by
  unfold L2.atI at e ⊢
  rw [h.len]
  obtain ⟨j, h1, h2⟩ := some_bind e
  obtain ⟨v, h3, h4⟩ := h.get h2
  exact ⟨v, by rw [h1]; exact h3, h4⟩
def oIx : D → D → Option D
  | .lst l, .int i => atI l i
  | .tup l, .int i => atI l i
  | .str z, .int i => if z.length ≤ lim then (atI z.cps.toList i).map fun c => .str ⟨#[c]⟩ else none
  | _, _ => none
theorem os_ix {K : PySem.W.Frag} : OpS (rIx K) oIx := fun H dx dy x y d hx hy e Q q => by
  cases dx <;> cases dy <;> first | (cases e; done) | skip
  · obtain ⟨hz, e⟩ := ite_some e
    obtain ⟨c, e1, rfl⟩ := Option.map_eq_some_iff.mp e
    cases hx
    cases hy
    exact .inr (.inr ⟨_, _, c, rfl, rfl, lim_le hz, e1, q _ H (fun _ _ h => h) rfl⟩)
  · obtain ⟨a, vs, rfl, h1, h2⟩ := hx
    cases hy
    obtain ⟨v, e1, e2⟩ := h2.atI e
    exact .inl ⟨a, vs, _, v, rfl, rfl, .of h1, e1, q _ H (fun _ _ h => h) e2⟩
  · obtain ⟨a, vs, rfl, h1, h2⟩ := hx
    cases hy
    obtain ⟨v, e1, e2⟩ := h2.atI e
    exact .inr (.inl ⟨a, vs, _, v, rfl, rfl, .of h1, e1, q _ H (fun _ _ h => h) e2⟩)
def cutD {α : Type} (xs : List α) (lo hi : Option Int) : List α := (xs.drop (HT.sIx xs.length 0 lo)).take (HT.sIx xs.length xs.length hi - HT.sIx xs.length 0 lo)
theorem Rpl.cut {S : Hp} {l : List D} {vs : List V} {lo hi : Option Int} (h : Rpl S l vs) : Rpl S (cutD l lo hi) (cutV vs lo hi) := by
  unfold cutD cutV
  rw [h.len]
  exact (h.drop _).take _
/-! ### built-in calls by data -/
def o1 (f : D → Option D) : List D → Option D
  | [d] => f d
  | _ => none
def o2 (f : D → D → Option D) : List D → Option D
  | [d, e] => f d e
  | _ => none
def oLen : D → Option D
  | .lst l => some (.int l.length)
  | .tup l => some (.int l.length)
  | .str z => if z.length ≤ lim then some (.int z.length) else none
  | _ => none
def rLenU (K : PySem.W.Frag) : List V → Hp → VK → Prop := fun xs H Q => ∃ x n, xs = [x] ∧ LenV K x H n ∧ Q (.int n) H
theorem rpl1 {H : Hp} {d : D} {vs : List V} (h : Rpl H [d] vs) : ∃ v, vs = [v] ∧ Rp H d v := by
  obtain ⟨v, r, rfl, h1, h2⟩ := h
  rw [show r = [] from h2]
  exact ⟨v, rfl, h1⟩
theorem rpl2 {H : Hp} {d e : D} {vs : List V} (h : Rpl H [d, e] vs) : ∃ v w, vs = [v, w] ∧ Rp H d v ∧ Rp H e w := by
  obtain ⟨v, r, rfl, h1, h2⟩ := h
  obtain ⟨w, rfl, h3⟩ := rpl1 h2
  exact ⟨v, w, rfl, h1, h3⟩
theorem o1_some {f : D → Option D} {ds : List D} {d : D} (h : o1 f ds = some d) : ∃ x, ds = [x] ∧ f x = some d := by
  match ds, h with
  | [x], h => exact ⟨x, rfl, h⟩
theorem o2_some {f : D → D → Option D} {ds : List D} {d : D} (h : o2 f ds = some d) : ∃ x y, ds = [x, y] ∧ f x y = some d := by
  match ds, h with
  | [x, y], h => exact ⟨x, y, rfl, h⟩
theorem cs_len {K : PySem.W.Frag} : CallS (rLenU K) (o1 oLen) := fun H ds vs d h e Q q => by
  obtain ⟨x, rfl, e⟩ := o1_some e
  obtain ⟨v, rfl, hv⟩ := rpl1 h
  clear h
  cases x <;> first | (cases e; done) | skip
  · obtain ⟨hz, e⟩ := ite_some e
    cases e
    cases hv
    exact ⟨_, _, rfl, ⟨lim_le hz, rfl⟩, q _ H (fun _ _ h => h) rfl⟩
  · cases e
    obtain ⟨a, ws, rfl, h1, h2⟩ := hv
    exact ⟨_, _, rfl, .inl ⟨ws, .of h1, rfl⟩, q _ H (fun _ _ h => h) (by rw [h2.len]; rfl)⟩
  · cases e
    obtain ⟨a, ws, rfl, h1, h2⟩ := hv
    exact ⟨_, _, rfl, .inr ⟨ws, .of h1, rfl⟩, q _ H (fun _ _ h => h) (by rw [h2.len]; rfl)⟩
def rInt : List V → Hp → VK → Prop := fun xs H Q => (∃ i, xs = [.int i] ∧ Q (.int i) H) ∨ ∃ k, xs = [.bl k] ∧ Q (.int (if k then 1 else 0)) H
def oInt : D → Option D
  | .int i => some (.int i)
  | .bl k => some (.int (if k then 1 else 0))
  | _ => none
theorem cs_int : CallS rInt (o1 oInt) := fun H ds vs d h e Q q => by
  obtain ⟨x, rfl, e⟩ := o1_some e
  obtain ⟨v, rfl, hv⟩ := rpl1 h
  clear h
  cases x <;> first | (cases e; done) | skip
  · cases e
    cases hv
    exact .inr ⟨_, rfl, q _ H (fun _ _ h => h) rfl⟩
  · cases e
    cases hv
    exact .inl ⟨_, rfl, q _ H (fun _ _ h => h) rfl⟩
def rAbs : List V → Hp → VK → Prop := fun xs H Q => ∃ i, xs = [.int i] ∧ Q (.int (if i < 0 then -i else i)) H
def oAbs : D → Option D
  | .int i => some (.int (if i < 0 then -i else i))
  | _ => none
theorem cs_abs : CallS rAbs (o1 oAbs) := fun H ds vs d h e Q q => by
  obtain ⟨x, rfl, e⟩ := o1_some e
  obtain ⟨v, rfl, hv⟩ := rpl1 h
  clear h
  cases x <;> first | (cases e; done) | skip
  cases e
  cases hv
  exact ⟨_, rfl, q _ H (fun _ _ h => h) rfl⟩
def rMaxU : List V → Hp → VK → Prop := fun xs H Q => ∃ i j, xs = [.int i, .int j] ∧ Q (.int (if j > i then j else i)) H
def rMinU : List V → Hp → VK → Prop := fun xs H Q => ∃ i j, xs = [.int i, .int j] ∧ Q (.int (if j < i then j else i)) H
theorem cs_max2 : CallS rMaxU (o2 (oI0 fun i j => .int (if j > i then j else i))) := fun H ds vs d h e Q q => by
  obtain ⟨x, y, rfl, e⟩ := o2_some e
  obtain ⟨v, w, rfl, hv, hw⟩ := rpl2 h
  clear h
  cases x <;> cases y <;> first | (cases e; done) | skip
  cases e
  cases hv
  cases hw
  exact ⟨_, _, rfl, q _ H (fun _ _ h => h) rfl⟩
theorem cs_min2 : CallS rMinU (o2 (oI0 fun i j => .int (if j < i then j else i))) := fun H ds vs d h e Q q => by
  obtain ⟨x, y, rfl, e⟩ := o2_some e
  obtain ⟨v, w, rfl, hv, hw⟩ := rpl2 h
  clear h
  cases x <;> cases y <;> first | (cases e; done) | skip
  cases e
  cases hv
  cases hw
  exact ⟨_, _, rfl, q _ H (fun _ _ h => h) rfl⟩
/-- all, any of lists of boolsOf -/
def boolsOf : List D → Option (List Bool)
  | [] => some []
  | .bl b :: l => (boolsOf l).map (b :: ·)
  | _ :: _ => none
theorem boolsOf_rp {H : Hp} : ∀ {l : List D} {bs : List Bool} {vs : List V}, boolsOf l = some bs → Rpl H l vs → vs = bs.map V.bl
  | [], bs, vs, e, h => by cases e; exact h
  | d :: l, bs, vs, e, ⟨v, r, h1, h2, h3⟩ => by
    cases d <;> first | (cases e; done) | skip
    obtain ⟨bs', e1, rfl⟩ := Option.map_eq_some_iff.mp e
    subst h1
    rw [boolsOf_rp e1 h3, show v = V.bl _ from h2]
    rfl
def oAll : D → Option D
  | .lst l => (boolsOf l).map fun bs => .bl (bs.all id)
  | _ => none
def oAny : D → Option D
  | .lst l => (boolsOf l).map fun bs => .bl (bs.any id)
  | _ => none
theorem cs_all {K : PySem.W.Frag} : CallS (rAll K) (o1 oAll) := fun H ds vs d h e Q q => by
  obtain ⟨x, rfl, e⟩ := o1_some e
  obtain ⟨v, rfl, hv⟩ := rpl1 h
  clear h
  cases x <;> first | (cases e; done) | skip
  obtain ⟨bs, e1, rfl⟩ := Option.map_eq_some_iff.mp e
  obtain ⟨a, ws, rfl, h1, h2⟩ := hv
  exact ⟨a, bs, rfl, .of (by rw [← boolsOf_rp e1 h2]; exact h1), q _ H (fun _ _ h => h) rfl⟩
theorem cs_any {K : PySem.W.Frag} : CallS (rAny K) (o1 oAny) := fun H ds vs d h e Q q => by
  obtain ⟨x, rfl, e⟩ := o1_some e
  obtain ⟨v, rfl, hv⟩ := rpl1 h
  clear h
  cases x <;> first | (cases e; done) | skip
  obtain ⟨bs, e1, rfl⟩ := Option.map_eq_some_iff.mp e
  obtain ⟨a, ws, rfl, h1, h2⟩ := hv
  exact ⟨a, bs, rfl, .of (by rw [← boolsOf_rp e1 h2]; exact h1), q _ H (fun _ _ h => h) rfl⟩
def intsOf : List D → Option (List Int)
  | [] => some []
  | .int b :: l => (intsOf l).map (b :: ·)
  | _ :: _ => none
theorem intsOf_rp {H : Hp} : ∀ {l : List D} {bs : List Int} {vs : List V}, intsOf l = some bs → Rpl H l vs → vs = bs.map V.int
  | [], bs, vs, e, h => by cases e; exact h
  | d :: l, bs, vs, e, ⟨v, r, h1, h2, h3⟩ => by
    cases d <;> first | (cases e; done) | skip
    obtain ⟨bs', e1, rfl⟩ := Option.map_eq_some_iff.mp e
    subst h1
    rw [intsOf_rp e1 h3, show v = V.int _ from h2]
    rfl
def oSum : D → Option D
  | .lst l => (intsOf l).map fun bs => .int bs.sum
  | _ => none
theorem cs_sum {K : PySem.W.Frag} : CallS (rSum K) (o1 oSum) := fun H ds vs d h e Q q => by
  obtain ⟨x, rfl, e⟩ := o1_some e
  obtain ⟨v, rfl, hv⟩ := rpl1 h
  clear h
  cases x <;> first | (cases e; done) | skip
  obtain ⟨bs, e1, rfl⟩ := Option.map_eq_some_iff.mp e
  obtain ⟨a, ws, rfl, h1, h2⟩ := hv
  exact ⟨a, bs, rfl, .of (by rw [← intsOf_rp e1 h2]; exact h1), q _ H (fun _ _ h => h) rfl⟩
/-! ### isinstance -/
inductive Ty where
  | int | bool | str | list | tuple
  deriving DecidableEq
def Ty.name : Ty → String
  | .int => "int"
  | .bool => "bool"
  | .str => "str"
  | .list => "list"
  | .tuple => "tuple"
inductive Kd where
  | non | bl | int | str | lst | tup | dic
def D.kd : D → Kd
  | .non => .non
  | .bl _ => .bl
  | .int _ => .int
  | .str _ => .str
  | .lst _ => .lst
  | .tup _ => .tup
  | .dic _ _ => .dic
def Kd.name : Kd → String
  | .non => "NoneType"
  | .bl => "bool"
  | .int => "int"
  | .str => "str"
  | .lst => "list"
  | .tup => "tuple"
  | .dic => "dict"
def Kd.isi : Ty → Kd → Bool
  | .int, .int => true
  | .int, .bl => true
  | .bool, .bl => true
  | .str, .str => true
  | .list, .lst => true
  | .tuple, .tup => true
  | _, _ => false
theorem kd_isi (t : Ty) (k : Kd) : kitB k.name t.name = some (k.isi t) := by
  cases k <;> cases t <;> decide +kernel
def D.isi (t : Ty) (d : D) : Bool := d.kd.isi t
def pIsi (t : Ty) (a : PM) : PM := fun ρ => (a ρ).map fun d => .bl (d.isi t)
theorem isi_kit {K : PySem.W.Frag} {H : Hp} {d : D} {v : V} (h : Rp H d v) (t : Ty) : ∃ u, TyX K H v u ∧ PySem.W.kitOne K u (.type t.name) = some (d.isi t) := by
  refine ⟨.type d.kd.name, ?_, kit_ty (kd_isi t d.kd)⟩
  cases d with
  | non => cases h; exact .base .non
  | bl b => cases h; exact .base (.bl _)
  | int b => cases h; exact .base (.int _)
  | str b => cases h; exact .base (.str _)
  | lst l => obtain ⟨a, vs, rfl, h1, _⟩ := h; exact .base (.lst h1)
  | tup l => obtain ⟨a, vs, rfl, h1, _⟩ := h; exact .base (.tup h1)
  | dic ks l => obtain ⟨a, vs, rfl, h1, _⟩ := h; exact .base (.dK h1)
theorem sp_isi {K : PySem.W.Frag} {ta : TE} {a : PM} (t : Ty) {n : String} (hn : n = t.name) (ha : SP ta a) : SP (tCB (rIsi K) (tCons ta (tCons (tC (.ty n)) tNil))) (pIsi t a) := fun ρ σ H g d h Q q => by
  obtain ⟨x, h1, rfl⟩ := Option.map_eq_some_iff.mp h
  subst hn
  refine ha ρ σ H g x h1 _ fun v H1 e1 r1 => ?_
  obtain ⟨u, k1, k2⟩ := isi_kit (K := K) r1 t
  exact ⟨v, _, u, _, _, rfl, .ty _, k1, k2, q _ H1 e1 rfl⟩
end
end Z

namespace Z
noncomputable section
open PySem L2
/-! ### readings that change what the names hold: expressions, arguments, tests -/
structure Exn where
  cls : Str
  fs : List (Str × D)
abbrev CT := Str → Option Addr
def XOk (ct : CT) (x : Exn) (c : Value) (d : Option Addr) (H : Hp) : Prop := ∃ C, ct x.cls = some C ∧ c = .ref C ∧ (∀ q ∈ x.fs, q.2.scal = true) ∧
  ((x.fs = [] ∧ d = none) ∨ ∃ a vs, d = some a ∧ H a = some (.xd ((x.fs.map (·.1)).zip vs)) ∧ Rpl H (x.fs.map (·.2)) vs)
abbrev XW := Value → Option Addr → St → Hp → Prop
inductive Out (α : Type) where
  | bad | ok (a : α) (ρ : Env) | ex (x : Exn) (ρ : Env)
def Out.P {α : Type} (Φ : α → Env → Prop) (Ψ : Exn → Env → Prop) : Out α → Prop
  | .bad => False
  | .ok a ρ => Φ a ρ
  | .ex x ρ => Ψ x ρ
def Out.bnd {α β : Type} (o : Out α) (f : α → Env → Out β) : Out β := match o with
  | .bad => .bad
  | .ok a ρ => f a ρ
  | .ex x ρ => .ex x ρ
theorem Out.P_bnd {α β : Type} {o : Out α} {f : α → Env → Out β} {Φ : β → Env → Prop} {Ψ : Exn → Env → Prop} : (o.bnd f).P Φ Ψ ↔ o.P (fun a ρ => (f a ρ).P Φ Ψ) Ψ := by
  cases o <;> exact Iff.rfl
theorem Out.P.mono {α : Type} {o : Out α} {Φ Φ' : α → Env → Prop} {Ψ Ψ' : Exn → Env → Prop} (h : o.P Φ Ψ) (h1 : ∀ a ρ, Φ a ρ → Φ' a ρ) (h2 : ∀ a ρ, Ψ a ρ → Ψ' a ρ) : o.P Φ' Ψ' := by
  cases o with
  | bad => exact h
  | ok a ρ => exact h1 _ _ h
  | ex x ρ => exact h2 _ _ h
abbrev EM := Env → Out T
abbrev EMs := Env → Out (List T)
abbrev EMb := Env → Out Bool
/-- what is wanted of an exception -/
def XE (ct : CT) (Wx : XW) (W S0 : Hp) (σ : St) (tm : List T) (vm : List V) : Exn → Env → Prop := fun x ρ' => ∀ c d H', GX W S0 ρ' σ tm vm H' → XOk ct x c d H' → Wx c d σ H'
def SE (ct : CT) (Wx : XW) (te : TE) (m : EM) : Prop := ∀ W S0 ρ σ tm vm H (Q : VK), GX W S0 ρ σ tm vm H → (m ρ).P (fun t ρ' => ∀ v H', GX W S0 ρ' σ (t :: tm) (v :: vm) H' → Q v H') (XE ct Wx W S0 σ tm vm) → te σ H Q
def SEA (ct : CT) (Wx : XW) (ta : TA) (m : EMs) : Prop := ∀ W S0 ρ σ tm vm H (Q : List V → Hp → Prop), GX W S0 ρ σ tm vm H → (m ρ).P (fun ts ρ' => ∀ vs H', vs.length = ts.length → GX W S0 ρ' σ (ts ++ tm) (vs ++ vm) H' → Q vs H') (XE ct Wx W S0 σ tm vm) → ta σ H Q
def SET (ct : CT) (Wx : XW) (tt : TT) (m : EMb) : Prop := ∀ W S0 ρ σ tm vm H (Q : Bool → Hp → Prop), GX W S0 ρ σ tm vm H → (m ρ).P (fun b ρ' => ∀ H', GX W S0 ρ' σ tm vm H' → Q b H') (XE ct Wx W S0 σ tm vm) → tt σ H Q
def OpE (r : R2) (o : T → T → Option T) : Prop := ∀ W S0 ρ σ tm vm H t u v w z (Q : VK), GX W S0 ρ σ (u :: t :: tm) (w :: v :: vm) H → o t u = some z → (∀ x H', GX W S0 ρ σ (z :: tm) (x :: vm) H' → Q x H') → r v w H Q
def CallE (r : List V → Hp → VK → Prop) (o : List T → Option T) : Prop := ∀ W S0 ρ σ tm vm H ts vs z (Q : VK), GX W S0 ρ σ (ts ++ tm) (vs ++ vm) H → vs.length = ts.length → o ts = some z → (∀ x H', GX W S0 ρ σ (z :: tm) (x :: vm) H' → Q x H') → r vs H Q
variable {ct : CT} {Wx : XW} {W S0 S H H' : Hp} {ρ : Env} {σ : St} {t u : T} {ts us tm : List T} {v w : V} {vs ws vm : List V} {as bs : List Addr} {i : Nat} {d : D}
theorem XE.pop (g : XE ct Wx W S0 σ tm vm x ρ) (h : vs.length = ts.length) : XE ct Wx W S0 σ (ts ++ tm) (vs ++ vm) x ρ := fun c d H' q k => g c d H' (q.pop h) k
theorem GX.tmp (g : GX W S0 ρ σ (t :: tm) (v :: vm) H) : Rp H t.d v := by
  obtain ⟨S, as, bs, g⟩ := g
  obtain ⟨v', r, b, c, h3, rfl, h4, h5⟩ := g.rt
  simp only [List.cons.injEq] at h3
  obtain ⟨rfl, rfl⟩ := h3
  exact h4.toRp g.sh fun _ _ _ h => h
theorem GX.tmps (g : GX W S0 ρ σ (ts ++ tm) (vs ++ vm) H) (e : vs.length = ts.length) : Rpl H (dl ts) vs := by
  obtain ⟨S, as, bs, g⟩ := g
  obtain ⟨b, c, rfl, h1, h2⟩ := g.rt.split e
  exact h1.toRpl g.sh fun _ _ _ h => h

def eP (p : PM) : EM := fun ρ => match p ρ with
  | some d => if d.scal = true then .ok (.sh d) ρ else .bad
  | none => .bad
theorem se_p {te : TE} {p : PM} (h : SP te p) : SE ct Wx te (eP p) := fun W S0 ρ σ tm vm H Q g k => by
  unfold eP at k
  split at k
  · rename_i d e
    by_cases hs : d.scal = true
    · rw [if_pos hs] at k
      exact h ρ σ H g.rv d e Q fun v H' e1 r => k v H' ((g.ext e1).pushC hs r)
    · rw [if_neg hs] at k; exact k.elim
  · exact k.elim
def eV (i : Nat) : EM := fun ρ => match ρ[i]? with
  | some (some (.sh d)) => .ok (.sh d) ρ
  | some (some t) => .ok (.sh t.d) (ρ.set i (some (.sh t.d)))
  | _ => .bad
theorem se_var {i : Nat} : SE ct Wx (tVar i) (eV i) := fun W S0 ρ σ tm vm H Q g k => by
  unfold eV at k
  split at k
  · rename_i d e
    obtain ⟨v, e1, g1⟩ := g.read e
    rw [show T.d (.sh d) = d from rfl, set_self e] at g1
    exact ⟨v, e1, k v H g1⟩
  · rename_i t _ e
    obtain ⟨v, e1, g1⟩ := g.read e
    exact ⟨v, e1, k v H g1⟩
  · exact k.elim
/-- a name's value moved out of it -/
def eM (i : Nat) : EM := fun ρ => match ρ[i]? with
  | some (some t) => .ok t (ρ.set i none)
  | _ => .bad
theorem se_mv {i : Nat} : SE ct Wx (tVar i) (eM i) := fun W S0 ρ σ tm vm H Q g k => by
  unfold eM at k
  split at k
  · rename_i t e
    obtain ⟨v, e1, g1⟩ := g.take e
    exact ⟨v, e1, k v H g1⟩
  · exact k.elim
def eNil : EMs := fun ρ => .ok [] ρ
def eCons (a : EM) (b : EMs) : EMs := fun ρ => (a ρ).bnd fun t ρ => (b ρ).bnd fun ts ρ => .ok (t :: ts) ρ
theorem sea_nil : SEA ct Wx tNil eNil := fun W S0 ρ σ tm vm H Q g k => k [] H rfl g
theorem sea_cons {ta : TE} {tr : TA} {a : EM} {b : EMs} (ha : SE ct Wx ta a) (hb : SEA ct Wx tr b) : SEA ct Wx (tCons ta tr) (eCons a b) := fun W S0 ρ σ tm vm H Q g k => by
  refine ha W S0 ρ σ tm vm H _ g ((Out.P_bnd.mp k).mono (fun t ρ1 k1 v H1 g1 => ?_) fun _ _ h => h)
  refine hb W S0 ρ1 σ (t :: tm) (v :: vm) H1 _ g1 ((Out.P_bnd.mp k1).mono (fun ts ρ2 k2 vs H2 e2 g2 => ?_) fun _ _ h => XE.pop (ts := [t]) (vs := [v]) h rfl)
  exact k2 (v :: vs) H2 (by simp [e2]) (g2.rot e2)
def eLst (a : EMs) : EM := fun ρ => (a ρ).bnd fun ts ρ => if ts.length ≤ lim then .ok (.ol ts) ρ else .bad
def eTup (a : EMs) : EM := fun ρ => (a ρ).bnd fun ts ρ => if ts.length ≤ lim then .ok (.ot ts) ρ else .bad
theorem P_ite {α : Type} {c : Prop} [Decidable c] {o : Out α} {Φ : α → Env → Prop} {Ψ : Exn → Env → Prop} (h : (if c then o else .bad).P Φ Ψ) : c ∧ o.P Φ Ψ := by
  by_cases k : c
  · rw [if_pos k] at h; exact ⟨k, h⟩
  · rw [if_neg k] at h; exact h.elim
theorem se_lst {ta : TA} {a : EMs} (ha : SEA ct Wx ta a) : SE ct Wx (tLst ta) (eLst a) := fun W S0 ρ σ tm vm H Q g k => by
  refine ha W S0 ρ σ tm vm H _ g ((Out.P_bnd.mp k).mono (fun ts ρ1 k1 vs H1 e1 g1 => ?_) fun _ _ h => h)
  obtain ⟨hz, k1⟩ := P_ite k1
  exact ⟨lim_le (by omega), fun p hp => k1 _ _ (g1.newL e1 hp)⟩
theorem se_tup {ta : TA} {a : EMs} (ha : SEA ct Wx ta a) : SE ct Wx (tTup ta) (eTup a) := fun W S0 ρ σ tm vm H Q g k => by
  refine ha W S0 ρ σ tm vm H _ g ((Out.P_bnd.mp k).mono (fun ts ρ1 k1 vs H1 e1 g1 => ?_) fun _ _ h => h)
  obtain ⟨hz, k1⟩ := P_ite k1
  exact ⟨lim_le (by omega), fun p hp => k1 _ _ (g1.newT e1 hp)⟩
def optO {α : Type} (o : Option α) (ρ : Env) : Out α := match o with
  | some a => .ok a ρ
  | none => .bad
theorem P_opt {α : Type} {o : Option α} {Φ : α → Env → Prop} {Ψ : Exn → Env → Prop} (h : (optO o ρ).P Φ Ψ) : ∃ a, o = some a ∧ Φ a ρ := by
  cases o with
  | none => exact h.elim
  | some a => exact ⟨a, rfl, h⟩
def eOp (o : T → T → Option T) (a b : EM) : EM := fun ρ => (a ρ).bnd fun t ρ => (b ρ).bnd fun u ρ => optO (o t u) ρ
theorem se_op {r : R2} {o : T → T → Option T} {ta tb : TE} {a b : EM} (hr : OpE r o) (ha : SE ct Wx ta a) (hb : SE ct Wx tb b) : SE ct Wx (tOp r ta tb) (eOp o a b) := fun W S0 ρ σ tm vm H Q g k => by
  refine ha W S0 ρ σ tm vm H _ g ((Out.P_bnd.mp k).mono (fun t ρ1 k1 v H1 g1 => ?_) fun _ _ h => h)
  refine hb W S0 ρ1 σ (t :: tm) (v :: vm) H1 _ g1 ((Out.P_bnd.mp k1).mono (fun u ρ2 k2 w H2 g2 => ?_) fun _ _ h => XE.pop (ts := [t]) (vs := [v]) h rfl)
  obtain ⟨z, e, k2⟩ := P_opt k2
  exact hr W S0 ρ2 σ tm vm H2 t u v w z Q g2 e k2
def eCB (o : List T → Option T) (a : EMs) : EM := fun ρ => (a ρ).bnd fun ts ρ => optO (o ts) ρ
theorem se_cb {r : List V → Hp → VK → Prop} {o : List T → Option T} {ta : TA} {a : EMs} (hr : CallE r o) (ha : SEA ct Wx ta a) : SE ct Wx (tCB r ta) (eCB o a) := fun W S0 ρ σ tm vm H Q g k => by
  refine ha W S0 ρ σ tm vm H _ g ((Out.P_bnd.mp k).mono (fun ts ρ1 k1 vs H1 e1 g1 => ?_) fun _ _ h => h)
  obtain ⟨z, e, k2⟩ := P_opt k1
  exact hr W S0 ρ1 σ tm vm H1 ts vs z Q g1 e1 e k2
def scalO (o : Option D) : Option T := o.bind fun d => if d.scal = true then some (.sh d) else none
def oS (o : D → D → Option D) : T → T → Option T := fun t u => scalO (o t.d u.d)
theorem scalO_some {o : Option D} {z : T} (h : scalO o = some z) : ∃ d, o = some d ∧ d.scal = true ∧ z = .sh d := by
  obtain ⟨d, e, h⟩ := some_bind h
  obtain ⟨k, h⟩ := ite_some h
  exact ⟨d, e, k, (Option.some.inj h).symm⟩
theorem oe_s {r : R2} {o : D → D → Option D} (h : OpS r o) : OpE r (oS o) := fun W S0 ρ σ tm vm H t u v w z Q g e k => by
  obtain ⟨d, e1, e2, rfl⟩ := scalO_some e
  refine h H t.d u.d v w d g.pop1.tmp g.tmp |> fun _ => ?_
  exact h H t.d u.d v w d (GX.tmp (g.pop1)) g.tmp e1 Q fun x H' es r => k x H' ((g.pop1.pop1.ext es).pushC e2 r)
def cS (o : List D → Option D) : List T → Option T := fun ts => scalO (o (dl ts))
theorem ce_s {r : List V → Hp → VK → Prop} {o : List D → Option D} (h : CallS r o) : CallE r (cS o) := fun W S0 ρ σ tm vm H ts vs z Q g e0 e k => by
  obtain ⟨d, e1, e2, rfl⟩ := scalO_some e
  exact h H _ vs d (g.tmps e0) e1 Q fun x H' es r => k x H' (((g.pop e0).ext es).pushC e2 r)

/-! ### lists taken apart -/
def T.els : T → Option (List T)
  | .sh (.lst l) => some (l.map .sh)
  | .ol l => some l
  | _ => none
def T.elsT : T → Option (List T)
  | .sh (.tup l) => some (l.map .sh)
  | .ot l => some l
  | _ => none
theorem GX.els (g : GX W S0 ρ σ (t :: tm) (v :: vm) H) (e : t.els = some ts) : ∃ a xs, v = .ref a ∧ H a = some (.lst xs) ∧ xs.length = ts.length ∧ GX W S0 ρ σ (ts ++ tm) (xs ++ vm) H := by
  obtain ⟨S, as, bs, g⟩ := g
  obtain ⟨v', r, b, c, h3, rfl, h4, h5⟩ := g.rt
  simp only [List.cons.injEq] at h3
  obtain ⟨rfl, rfl⟩ := h3
  have nd := g.nd
  have fs := g.fs
  have fw := g.fw
  unfold T.els at e
  split at e
  · cases e
    obtain ⟨rfl, a, xs, rfl, h6, h7⟩ := h4
    refine ⟨a, xs, rfl, g.sh _ _ h6, by simp [h7.len], S, as, c, g.s0, g.sh, g.wh, g.nw, g.re, (h7.toRtl (H := H)).append h5, by grind, by grind, by grind⟩
  · cases e
    obtain ⟨a, xs, b', rfl, rfl, h6, h7⟩ := h4
    refine ⟨a, xs, rfl, h6, h7.len, S, as, b' ++ c, g.s0, g.sh, g.wh, g.nw, g.re, h7.append h5, by grind, by grind, by grind⟩
  · cases e
theorem GX.elsT (g : GX W S0 ρ σ (t :: tm) (v :: vm) H) (e : t.elsT = some ts) : ∃ a xs, v = .ref a ∧ H a = some (.tup xs) ∧ xs.length = ts.length ∧ GX W S0 ρ σ (ts ++ tm) (xs ++ vm) H := by
  obtain ⟨S, as, bs, g⟩ := g
  obtain ⟨v', r, b, c, h3, rfl, h4, h5⟩ := g.rt
  simp only [List.cons.injEq] at h3
  obtain ⟨rfl, rfl⟩ := h3
  have nd := g.nd
  have fs := g.fs
  have fw := g.fw
  unfold T.elsT at e
  split at e
  · cases e
    obtain ⟨rfl, a, xs, rfl, h6, h7⟩ := h4
    refine ⟨a, xs, rfl, g.sh _ _ h6, by simp [h7.len], S, as, c, g.s0, g.sh, g.wh, g.nw, g.re, (h7.toRtl (H := H)).append h5, by grind, by grind, by grind⟩
  · cases e
    obtain ⟨a, xs, b', rfl, rfl, h6, h7⟩ := h4
    refine ⟨a, xs, rfl, h6, h7.len, S, as, b' ++ c, g.s0, g.sh, g.wh, g.nw, g.re, h7.append h5, by grind, by grind, by grind⟩
  · cases e
/-- temporaries left out, or in another order -/
theorem GX.sub (g : GX W S0 ρ σ (ts ++ tm) (vs ++ vm) H) (e : vs.length = ts.length) (h : ∀ S H b, Rtl S H ts vs b → ∃ b', Rtl S H us ws b' ∧ (b.Nodup → b'.Nodup) ∧ ∀ x ∈ b', x ∈ b) : GX W S0 ρ σ (us ++ tm) (ws ++ vm) H := by
  obtain ⟨S, as, bs, g⟩ := g
  obtain ⟨b, c, rfl, h1, h2⟩ := g.rt.split e
  obtain ⟨b', q1, q2, q3⟩ := h S H b h1
  have nd := g.nd
  have fs := g.fs
  have fw := g.fw
  have n1 : b.Nodup := by grind
  have n2 := q2 n1
  refine ⟨S, as, b' ++ c, g.s0, g.sh, g.wh, g.nw, g.re, q1.append h2, by grind, by grind, by grind⟩
theorem Rtl.take {S H : Hp} : ∀ {ts : List T} {vs : List V} {b : List Addr} (n : Nat), Rtl S H ts vs b → ∃ b', Rtl S H (ts.take n) (vs.take n) b' ∧ (b.Nodup → b'.Nodup) ∧ ∀ x ∈ b', x ∈ b
  | [], _, _, n, ⟨h1, h2⟩ => by subst h1 h2; exact ⟨[], by simp [Rtl], fun h => h, fun _ h => h⟩
  | _ :: _, _, _, 0, _ => ⟨[], by simp [Rtl], fun _ => .nil, fun _ h => nomatch h⟩
  | t :: ts, _, _, n + 1, ⟨v, r, b, c, h1, h2, h3, h4⟩ => by
    subst h1 h2
    obtain ⟨b', q1, q2, q3⟩ := Rtl.take n h4
    exact ⟨b ++ b', ⟨v, _, b, b', rfl, rfl, h3, q1⟩, by grind, by grind⟩
theorem Rtl.drop {S H : Hp} : ∀ {ts : List T} {vs : List V} {b : List Addr} (n : Nat), Rtl S H ts vs b → ∃ b', Rtl S H (ts.drop n) (vs.drop n) b' ∧ (b.Nodup → b'.Nodup) ∧ ∀ x ∈ b', x ∈ b
  | [], _, _, n, ⟨h1, h2⟩ => by subst h1 h2; exact ⟨[], by simp [Rtl], fun h => h, fun _ h => h⟩
  | _ :: _, _, b, 0, h => ⟨b, h, fun h => h, fun _ h => h⟩
  | t :: ts, _, _, n + 1, ⟨v, r, b, c, h1, h2, h3, h4⟩ => by
    subst h1 h2
    obtain ⟨b', q1, q2, q3⟩ := Rtl.drop n h4
    exact ⟨b', q1, by grind, by grind⟩
theorem Rtl.cut {S H : Hp} {ts : List T} {vs : List V} {b : List Addr} {lo hi : Option Int} (h : Rtl S H ts vs b) : ∃ b', Rtl S H (cutD ts lo hi) (cutV vs lo hi) b' ∧ (b.Nodup → b'.Nodup) ∧ ∀ x ∈ b', x ∈ b := by
  unfold cutD cutV
  rw [h.len]
  obtain ⟨b1, q1, q2, q3⟩ := h.drop (HT.sIx ts.length 0 lo)
  obtain ⟨b2, q4, q5, q6⟩ := q1.take (HT.sIx ts.length ts.length hi - HT.sIx ts.length 0 lo)
  exact ⟨b2, q4, fun h => q5 (q2 h), fun x hx => q3 x (q6 x hx)⟩
def catT (t u : T) : Option T := t.els.bind fun a => u.els.bind fun b => if a.length + b.length ≤ lim then some (.ol (a ++ b)) else none
theorem oe_cat : OpE rCat catT := fun W S0 ρ σ tm vm H t u v w z Q g e k => by
  obtain ⟨ts, e1, e⟩ := some_bind e
  obtain ⟨us, e2, e⟩ := some_bind e
  obtain ⟨hz, e⟩ := ite_some e
  cases e
  obtain ⟨b, ys, rfl, h3, h4, g1⟩ := g.els e2
  have g2 := g1.rot h4
  obtain ⟨a, xs, rfl, h1, h2, g3⟩ := g2.els e1
  refine ⟨a, b, xs, ys, rfl, rfl, h1, h3, lim_le (by omega), fun p hp => k _ _ ?_⟩
  rw [← List.append_assoc, ← List.append_assoc] at g3
  exact g3.newL (by simp [h2, h4]) hp
def eAddT (t u : T) : Option T := match oS oAdd t u with
  | some z => some z
  | none => catT t u
theorem oe_or {r r' : R2} {o o' : T → T → Option T} (h : OpE r o) (h' : OpE r' o') : OpE (rOr r r') (fun t u => match o t u with | some z => some z | none => o' t u) := fun W S0 ρ σ tm vm H t u v w z Q g e k => by
  simp only at e
  split at e
  · rename_i z' ez
    cases e
    exact .inl (h W S0 ρ σ tm vm H t u v w _ Q g ez k)
  · exact .inr (h' W S0 ρ σ tm vm H t u v w _ Q g e k)
theorem oe_add : OpE rUAdd eAddT := fun W S0 ρ σ tm vm H t u v w z Q g e k => by
  unfold eAddT at e
  split at e
  · rename_i z' ez
    cases e
    exact oe_s os_add W S0 ρ σ tm vm H t u v w _ Q g ez k
  · exact .inr (.inl (oe_cat W S0 ρ σ tm vm H t u v w _ Q g e k))

/-! ### places: what stands there is looked at and stays as it is -/
def SV (te : TE) (m : Env → Option T) : Prop := ∀ W S0 S ρ σ tm vm H as bs, G W S0 S H ρ σ tm vm as bs → ∀ t, m ρ = some t → ∀ Q : VK, (∀ v H', Same H H' → (∃ cs, (∀ a ∈ cs, a ∈ as) ∧ Rt S H' t v cs) → Q v H') → te σ H Q
def vV (i : Nat) : Env → Option T := fun ρ => match ρ[i]? with
  | some (some t) => some t
  | _ => none
theorem sv_var {i : Nat} : SV (tVar i) (vV i) := fun W S0 S ρ σ tm vm H as bs g t h Q q => by
  unfold vV at h
  split at h
  · rename_i t' e
    cases h
    obtain ⟨v, b, c, d, e1, rfl, e3, _⟩ := g.re.at e
    exact ⟨v, e1, q v H (fun _ _ h => h) ⟨c, by grind, e3⟩⟩
  · cases h
def T.kids : T → Option (List T)
  | .sh (.lst l) => some (l.map .sh)
  | .sh (.tup l) => some (l.map .sh)
  | .ol l => some l
  | .ot l => some l
  | _ => none
theorem Rtl.atI {S H : Hp} {l : List T} {vs : List V} {as : List Addr} {i : Int} {t : T} (h : Rtl S H l vs as) (e : L2.atI l i = some t) : ∃ v c, L2.atI vs i = some v ∧ Rt S H t v c ∧ (∀ a ∈ c, a ∈ as) ∧ (as.Nodup → c.Nodup) := by
  unfold L2.atI at e ⊢
  rw [h.len]
  obtain ⟨j, h1, h2⟩ := some_bind e
  obtain ⟨v, b, c, d, h3, rfl, h4, _⟩ := h.at h2
  exact ⟨v, c, by rw [h1]; exact h3, h4, by grind, by grind⟩
theorem Rt.kid {S H : Hp} {K : PySem.W.Frag} {t u : T} {v : V} {as : List Addr} {l : List T} {i : Int} (e : Same S H) (h : Rt S H t v as) (hk : t.kids = some l) (hi : L2.atI l i = some u) {Q : VK} (q : ∀ w, (∃ cs, (∀ a ∈ cs, a ∈ as) ∧ (as.Nodup → cs.Nodup) ∧ Rt S H u w cs) → Q w H) : rIx K v (.int i) H Q := by
  unfold T.kids at hk
  split at hk
  · cases hk
    obtain ⟨rfl, a, vs, rfl, h1, h2⟩ := h
    obtain ⟨w, c, k1, k2, k3, k4⟩ := (h2.toRtl (H := H)).atI hi
    exact .inl ⟨a, vs, i, w, rfl, rfl, .of (e _ _ h1), k1, q w ⟨c, k3, k4, k2⟩⟩
  · cases hk
    obtain ⟨rfl, a, vs, rfl, h1, h2⟩ := h
    obtain ⟨w, c, k1, k2, k3, k4⟩ := (h2.toRtl (H := H)).atI hi
    exact .inr (.inl ⟨a, vs, i, w, rfl, rfl, .of (e _ _ h1), k1, q w ⟨c, k3, k4, k2⟩⟩)
  · cases hk
    obtain ⟨a, vs, b, rfl, rfl, h1, h2⟩ := h
    obtain ⟨w, c, k1, k2, k3, k4⟩ := h2.atI hi
    exact .inl ⟨a, vs, i, w, rfl, rfl, .of h1, k1, q w ⟨c, fun x hx => List.mem_cons_of_mem _ (k3 x hx), fun n => k4 (List.nodup_cons.mp n).2, k2⟩⟩
  · cases hk
    obtain ⟨a, vs, b, rfl, rfl, h1, h2⟩ := h
    obtain ⟨w, c, k1, k2, k3, k4⟩ := h2.atI hi
    exact .inr (.inl ⟨a, vs, i, w, rfl, rfl, .of h1, k1, q w ⟨c, fun x hx => List.mem_cons_of_mem _ (k3 x hx), fun n => k4 (List.nodup_cons.mp n).2, k2⟩⟩)
  · cases hk
def D.intO : D → Option Int
  | .int i => some i
  | _ => none
theorem intO_int {d : D} {i : Int} (h : d.intO = some i) : d = .int i := by
  cases d <;> first | (cases h; rfl) | cases h
def vIx (a : Env → Option T) (p : PM) : Env → Option T := fun ρ => (a ρ).bind fun t => (p ρ).bind fun d => d.intO.bind fun i => t.kids.bind fun l => atI l i
theorem sv_ix {K : PySem.W.Frag} {ta tb : TE} {a : Env → Option T} {p : PM} (ha : SV ta a) (hb : SP tb p) : SV (tOp (rIx K) ta tb) (vIx a p) := fun W S0 S ρ σ tm vm H as bs g t h Q q => by
  obtain ⟨t0, h1, ha1⟩ := some_bind h
  obtain ⟨d, h2, ha2⟩ := some_bind ha1
  obtain ⟨i, h3, ha3⟩ := some_bind ha2
  obtain ⟨l, h4, h5⟩ := some_bind ha3
  clear h ha1 ha2 ha3
  cases intO_int h3
  refine ha W S0 S ρ σ tm vm H as bs g t0 h1 _ fun v H1 e1 ⟨cs, c1, c2⟩ => ?_
  have rv : RV H1 ρ σ := (GX.rv ⟨S, as, bs, g⟩).ext e1
  refine hb ρ σ H1 rv _ h2 _ fun w H2 e2 r2 => ?_
  cases r2
  have c3 : Rt S H2 t0 v cs := c2.mono (fun _ _ h => h) fun a ha => same_at e2 (c2.there a ha)
  exact c3.kid (fun a o h => e2 a o (e1 a o (g.sh a o h))) h4 h5 fun w ⟨ds, d1, _, d2⟩ => q w H2 (e1.trans e2) ⟨ds, fun a ha => c1 a (d1 a ha), d2⟩
theorem SV.p {te : TE} {m : Env → Option T} (h : SV te m) : ∀ W S0 ρ σ tm vm H, GX W S0 ρ σ tm vm H → ∀ t, m ρ = some t → ∀ Q : VK, (∀ v H', Same H H' → Rp H' t.d v → Q v H') → te σ H Q := fun W S0 ρ σ tm vm H ⟨S, as, bs, g⟩ t e Q q =>
  h W S0 S ρ σ tm vm H as bs g t e Q fun v H' es ⟨cs, c1, c2⟩ => q v H' es (c2.toRp (fun a o h => es a o (g.sh a o h)) fun _ _ _ h => h)
/-- what stands at a place, shared -/
def eGet (a : Env → Option T) : EM := fun ρ => match a ρ with
  | some (.sh d) => .ok (.sh d) ρ
  | _ => .bad
theorem se_get {te : TE} {m : Env → Option T} (h : SV te m) : SE ct Wx te (eGet m) := fun W S0 ρ σ tm vm H Q g k => by
  unfold eGet at k
  split at k
  · rename_i d e
    obtain ⟨S, as, bs, g⟩ := g
    refine h W S0 S ρ σ tm vm H as bs g _ e Q fun v H' es ⟨cs, c1, ⟨c2, c3⟩⟩ => k v H' ?_
    obtain ⟨S', as', bs', g'⟩ := (GX.ext es ⟨S, as, bs, g⟩)
    have g2 : G W S0 S H' ρ σ tm vm as bs := ⟨g.s0, fun a o h => es a o (g.sh a o h), fun a o h => es a o (g.wh a o h), g.nw, g.re.mono (fun _ _ h => h) fun a ha => same_at es (g.re.there a ha), g.rt.mono (fun _ _ h => h) fun a ha => same_at es (g.rt.there a ha), g.nd, g.fs, g.fw⟩
    exact g2.pushS c3
  · exact k.elim
theorem G.ext (g : G W S0 S H ρ σ tm vm as bs) (es : Same H H') : G W S0 S H' ρ σ tm vm as bs := ⟨g.s0, fun a o h => es a o (g.sh a o h), fun a o h => es a o (g.wh a o h), g.nw, g.re.mono (fun _ _ h => h) fun a ha => same_at es (g.re.there a ha), g.rt.mono (fun _ _ h => h) fun a ha => same_at es (g.rt.there a ha), g.nd, g.fs, g.fw⟩
/-- the shared items of a list at a place -/
def shsL : List T → Option (List D)
  | [] => some []
  | .sh d :: l => (shsL l).map (d :: ·)
  | _ :: _ => none
theorem Rtl.shs {S H : Hp} : ∀ {l : List T} {vs : List V} {as : List Addr} {ds : List D}, Rtl S H l vs as → shsL l = some ds → Rpl S ds vs
  | [], _, _, _, h, e => by cases e; exact h.1
  | t :: l, _, _, _, ⟨v, r, b, c, h1, h2, h3, h4⟩, e => by
    cases t <;> first | (cases e; done) | skip
    obtain ⟨ds', e1, rfl⟩ := Option.map_eq_some_iff.mp e
    subst h1
    exact ⟨v, r, rfl, h3.2, h4.shs e1⟩
def T.shs : T → Option (List D)
  | .sh (.lst l) => some l
  | .ol l => shsL l
  | _ => none
def T.shsT : T → Option (List D)
  | .sh (.tup l) => some l
  | .ot l => shsL l
  | _ => none
theorem Rt.shs {S H : Hp} {t : T} {v : V} {as : List Addr} {ds : List D} (e : Same S H) (h : Rt S H t v as) (k : t.shs = some ds) : ∃ a xs, v = .ref a ∧ H a = some (.lst xs) ∧ Rpl S ds xs := by
  unfold T.shs at k
  split at k
  · cases k
    obtain ⟨rfl, a, xs, rfl, h1, h2⟩ := h
    exact ⟨a, xs, rfl, e _ _ h1, h2⟩
  · obtain ⟨a, xs, b, rfl, rfl, h1, h2⟩ := h
    exact ⟨a, xs, rfl, h1, h2.shs k⟩
  · cases k
theorem Rt.shsT {S H : Hp} {t : T} {v : V} {as : List Addr} {ds : List D} (e : Same S H) (h : Rt S H t v as) (k : t.shsT = some ds) : ∃ a xs, v = .ref a ∧ H a = some (.tup xs) ∧ Rpl S ds xs := by
  unfold T.shsT at k
  split at k
  · cases k
    obtain ⟨rfl, a, xs, rfl, h1, h2⟩ := h
    exact ⟨a, xs, rfl, e _ _ h1, h2⟩
  · obtain ⟨a, xs, b, rfl, rfl, h1, h2⟩ := h
    exact ⟨a, xs, rfl, h1, h2.shs k⟩
  · cases k
/-- shared data as temporaries -/
theorem G.pushSs (g : G W S0 S H ρ σ tm vm as bs) {ds : List D} {xs : List V} (h : Rpl S ds xs) : GX W S0 ρ σ (ds.map .sh ++ tm) (xs ++ vm) H :=
  ⟨S, as, bs, g.s0, g.sh, g.wh, g.nw, g.re, (h.toRtl (H := H)).append g.rt, g.nd, g.fs, g.fw⟩
/-! ### parts of a slice -/
def SPO (to : TO) (m : Env → Option (Option Int)) : Prop := ∀ ρ σ H, RV H ρ σ → ∀ o, m ρ = some o → ∀ Q : Option Int → Hp → Prop, (∀ H', Same H H' → Q o H') → to σ H Q
def oNo : Env → Option (Option Int) := fun _ => some none
def oYes (p : PM) : Env → Option (Option Int) := fun ρ => (p ρ).bind fun d => d.intO.map some
theorem spo_no : SPO tNoPart oNo := fun ρ σ H g o e Q q => by cases e; exact q H fun _ _ h => h
theorem spo_yes {te : TE} {p : PM} (h : SP te p) : SPO (tPart te) (oYes p) := fun ρ σ H g o e Q q => by
  obtain ⟨d, e1, e⟩ := some_bind e
  obtain ⟨i, e2, rfl⟩ := Option.map_eq_some_iff.mp e
  cases intO_int e2
  exact h ρ σ H g _ e1 _ fun v H1 es r => ⟨i, r, q H1 es⟩
/-- p[lo:hi] of a list at a place -/
def eSl (a : Env → Option T) (lo hi : Env → Option (Option Int)) : EM := fun ρ => optO ((a ρ).bind fun t => t.shs.bind fun ds => (lo ρ).bind fun l => (hi ρ).bind fun h => some (.ol ((cutD ds l h).map .sh))) ρ
theorem se_sl {K : PySem.W.Frag} {ta : TE} {tl th : TO} {a : Env → Option T} {lo hi : Env → Option (Option Int)} (ha : SV ta a) (hl : SPO tl lo) (hh : SPO th hi) : SE ct Wx (tSl (rSlL K) ta tl th) (eSl a lo hi) := fun W S0 ρ σ tm vm H Q g k => by
  obtain ⟨z, e, k⟩ := P_opt k
  obtain ⟨t, e1, e⟩ := some_bind e
  obtain ⟨ds, e2, e⟩ := some_bind e
  obtain ⟨l, e3, e⟩ := some_bind e
  obtain ⟨h, e4, e⟩ := some_bind e
  cases e
  obtain ⟨S, as, bs, g⟩ := g
  refine ha W S0 S ρ σ tm vm H as bs g t e1 _ fun v H1 s1 ⟨cs, c1, c2⟩ => ?_
  have g1 := g.ext s1
  obtain ⟨p, xs, rfl, h1, h2⟩ := c2.shs g1.sh e2
  refine hl ρ σ H1 (GX.rv ⟨S, as, bs, g1⟩) l e3 _ fun H2 s2 => hh ρ σ H2 (GX.rv ⟨S, as, bs, g1.ext s2⟩) h e4 _ fun H3 s3 => ?_
  refine ⟨p, xs, rfl, .of (s3 _ _ (s2 _ _ h1)), fun q hq => k _ _ ?_⟩
  exact (((g1.ext s2).ext s3).pushSs h2.cut).newL (by simp [h2.cut.len]) hq
/-- .. of a list that the expression makes -/
def eSlE (a : EM) (lo hi : Env → Option (Option Int)) : EM := fun ρ => (a ρ).bnd fun t ρ => optO (t.els.bind fun ds => (lo ρ).bind fun l => (hi ρ).bind fun h => some (.ol (cutD ds l h))) ρ
theorem se_slE {K : PySem.W.Frag} {ta : TE} {tl th : TO} {a : EM} {lo hi : Env → Option (Option Int)} (ha : SE ct Wx ta a) (hl : SPO tl lo) (hh : SPO th hi) : SE ct Wx (tSl (rSlL K) ta tl th) (eSlE a lo hi) := fun W S0 ρ σ tm vm H Q g k => by
  refine ha W S0 ρ σ tm vm H _ g ((Out.P_bnd.mp k).mono (fun t ρ1 k1 v H1 g1 => ?_) fun _ _ h => h)
  obtain ⟨z, e, k⟩ := P_opt k1
  obtain ⟨ts, e2, e⟩ := some_bind e
  obtain ⟨l, e3, e⟩ := some_bind e
  obtain ⟨h, e4, e⟩ := some_bind e
  cases e
  refine hl ρ1 σ H1 g1.rv l e3 _ fun H2 s2 => hh ρ1 σ H2 (g1.ext s2).rv h e4 _ fun H3 s3 => ?_
  obtain ⟨p, xs, rfl, h1, h2, g2⟩ := ((g1.ext s2).ext s3).els e2
  refine ⟨p, xs, rfl, .of h1, fun q hq => k _ _ ?_⟩
  have g3 := g2.sub (us := cutD ts l h) (ws := cutV xs l h) h2 fun S H b hb => hb.cut
  exact g3.newL (by unfold cutD cutV; simp [h2]) hq
/-- list(p), p a list or tuple at a place; list(e) -/
def rListU (K : PySem.W.Frag) : List V → Hp → VK → Prop := fun xs H Q => ∃ p ys, xs = [.ref p] ∧ (SqL K H p ys ∨ SqT K H p ys) ∧ ∀ l, H l = none → Q (.ref l) (upd H l (.lst ys))
def T.elsU (t : T) : Option (List T) := match t.els with
  | some l => some l
  | none => t.elsT
def T.shsU (t : T) : Option (List D) := match t.shs with
  | some l => some l
  | none => t.shsT
theorem Rt.shsU {S H : Hp} {K : PySem.W.Frag} {t : T} {v : V} {as : List Addr} {ds : List D} (e : Same S H) (h : Rt S H t v as) (k : t.shsU = some ds) : ∃ a xs, v = .ref a ∧ (SqL K H a xs ∨ SqT K H a xs) ∧ Rpl S ds xs := by
  unfold T.shsU at k
  split at k
  · rename_i l e1
    cases k
    obtain ⟨a, xs, h1, h2, h3⟩ := h.shs e e1
    exact ⟨a, xs, h1, .inl (.of h2), h3⟩
  · obtain ⟨a, xs, h1, h2, h3⟩ := h.shsT e k
    exact ⟨a, xs, h1, .inr (.of h2), h3⟩
def eList (a : Env → Option T) : EM := fun ρ => optO ((a ρ).bind fun t => t.shsU.bind fun ds => some (.ol (ds.map .sh))) ρ
theorem se_list {K : PySem.W.Frag} {ta : TE} {a : Env → Option T} (ha : SV ta a) : SE ct Wx (tCB (rListU K) (tCons ta tNil)) (eList a) := fun W S0 ρ σ tm vm H Q g k => by
  obtain ⟨z, e, k⟩ := P_opt k
  obtain ⟨t, e1, e⟩ := some_bind e
  obtain ⟨ds, e2, e⟩ := some_bind e
  cases e
  obtain ⟨S, as, bs, g⟩ := g
  refine ha W S0 S ρ σ tm vm H as bs g t e1 _ fun v H1 s1 ⟨cs, c1, c2⟩ => ?_
  have g1 := g.ext s1
  obtain ⟨p, xs, rfl, h1, h2⟩ := c2.shsU (K := K) g1.sh e2
  exact ⟨p, xs, rfl, h1, fun q hq => k _ _ ((g1.pushSs h2).newL (by simp [h2.len]) hq)⟩
theorem GX.elsU {K : PySem.W.Frag} (g : GX W S0 ρ σ (t :: tm) (v :: vm) H) (e : t.elsU = some ts) : ∃ a xs, v = .ref a ∧ (SqL K H a xs ∨ SqT K H a xs) ∧ xs.length = ts.length ∧ GX W S0 ρ σ (ts ++ tm) (xs ++ vm) H := by
  unfold T.elsU at e
  split at e
  · rename_i l e1
    cases e
    obtain ⟨a, xs, h1, h2, h3⟩ := g.els e1
    exact ⟨a, xs, h1, .inl (.of h2), h3⟩
  · obtain ⟨a, xs, h1, h2, h3⟩ := g.elsT e
    exact ⟨a, xs, h1, .inr (.of h2), h3⟩
def listT : List T → Option T
  | [t] => t.elsU.map .ol
  | _ => none
theorem ce_list {K : PySem.W.Frag} : CallE (rListU K) listT := fun W S0 ρ σ tm vm H ts vs z Q g e0 e k => by
  match ts, vs, e0, e, g with
  | [t], [v], _, e, g =>
    obtain ⟨us, e1, rfl⟩ := Option.map_eq_some_iff.mp e
    obtain ⟨a, xs, rfl, h1, h2, g1⟩ := GX.elsU (K := K) g e1
    exact ⟨a, xs, rfl, h1, fun q hq => k _ _ (g1.newL h2 hq)⟩
def rTupU (K : PySem.W.Frag) : List V → Hp → VK → Prop := fun xs H Q => ∃ p ys, xs = [.ref p] ∧ ((SqL K H p ys ∧ ∀ l, H l = none → Q (.ref l) (upd H l (.tup ys))) ∨ (SqT K H p ys ∧ Q (.ref p) H))
def tupT : List T → Option T
  | [t] => match t.els with
    | some l => some (.ot l)
    | none => match t.elsT with
      | some _ => some t
      | none => none
  | _ => none
theorem ce_tup {K : PySem.W.Frag} : CallE (rTupU K) tupT := fun W S0 ρ σ tm vm H ts vs z Q g e0 e k => by
  match ts, vs, e0, e, g with
  | [t], [v], _, e, g =>
    unfold tupT at e
    simp only at e
    split at e
    · rename_i l e1
      cases e
      obtain ⟨a, xs, rfl, h1, h2, g1⟩ := g.els e1
      exact ⟨a, xs, rfl, .inl ⟨.of h1, fun q hq => k _ _ (g1.newT h2 hq)⟩⟩
    · split at e
      · rename_i l e1
        cases e
        obtain ⟨a, xs, rfl, h1, h2, g1⟩ := g.elsT e1
        exact ⟨a, xs, rfl, .inr ⟨.of h1, k _ _ g⟩⟩
      · cases e
/-! ### tests and choices -/
def eB (a : EM) : EMb := fun ρ => (a ρ).bnd fun t ρ => optO (t.d.tru) ρ
theorem set_b {te : TE} {a : EM} (ha : SE ct Wx te a) : SET ct Wx (tB te) (eB a) := fun W S0 ρ σ tm vm H Q g k => by
  refine ha W S0 ρ σ tm vm H _ g ((Out.P_bnd.mp k).mono (fun t ρ1 k1 v H1 g1 => ?_) fun _ _ h => h)
  obtain ⟨b, e, k⟩ := P_opt k1
  have := g1.tmp
  rw [tru_bl e] at this
  exact ⟨b, this, k H1 g1.pop1⟩
theorem set_test {te : TE} {a : EM} (ha : SE ct Wx te a) : SET ct Wx (tTest te) (eB a) := fun W S0 ρ σ tm vm H Q g k => by
  refine ha W S0 ρ σ tm vm H _ g ((Out.P_bnd.mp k).mono (fun t ρ1 k1 v H1 g1 => ?_) fun _ _ h => h)
  obtain ⟨b, e, k⟩ := P_opt k1
  have := g1.tmp
  rw [tru_bl e] at this
  exact ⟨b, this, k H1 g1.pop1⟩
def eT (t : TM) : EMb := fun ρ => optO (t ρ) ρ
theorem set_p {tt : TT} {t : TM} (h : SPT tt t) : SET ct Wx tt (eT t) := fun W S0 ρ σ tm vm H Q g k => by
  obtain ⟨b, e, k⟩ := P_opt k
  exact h ρ σ H g.rv b e Q fun H' es => k H' (g.ext es)
def eAnd (a b : EMb) : EMb := fun ρ => (a ρ).bnd fun c ρ => if c = true then b ρ else .ok false ρ
def eOr (a b : EMb) : EMb := fun ρ => (a ρ).bnd fun c ρ => if c = true then .ok true ρ else b ρ
def eNot (a : EMb) : EMb := fun ρ => (a ρ).bnd fun c ρ => .ok (!c) ρ
theorem set_and {ta tb : TT} {a b : EMb} (ha : SET ct Wx ta a) (hb : SET ct Wx tb b) : SET ct Wx (tAnd ta tb) (eAnd a b) := fun W S0 ρ σ tm vm H Q g k => by
  refine ha W S0 ρ σ tm vm H _ g ((Out.P_bnd.mp k).mono (fun c ρ1 k1 H1 g1 => ?_) fun _ _ h => h)
  cases c with
  | true => exact hb W S0 ρ1 σ tm vm H1 Q g1 k1
  | false => exact k1 H1 g1
theorem set_or {ta tb : TT} {a b : EMb} (ha : SET ct Wx ta a) (hb : SET ct Wx tb b) : SET ct Wx (tOr ta tb) (eOr a b) := fun W S0 ρ σ tm vm H Q g k => by
  refine ha W S0 ρ σ tm vm H _ g ((Out.P_bnd.mp k).mono (fun c ρ1 k1 H1 g1 => ?_) fun _ _ h => h)
  cases c with
  | false => exact hb W S0 ρ1 σ tm vm H1 Q g1 k1
  | true => exact k1 H1 g1
theorem set_not {ta : TT} {a : EMb} (ha : SET ct Wx ta a) : SET ct Wx (tNot ta) (eNot a) := fun W S0 ρ σ tm vm H Q g k => by
  refine ha W S0 ρ σ tm vm H _ g ((Out.P_bnd.mp k).mono (fun c ρ1 k1 H1 g1 => k1 H1 g1) fun _ _ h => h)
def eAndV (a b : EM) : EM := fun ρ => (a ρ).bnd fun t ρ => match t.d.tru with
  | some true => b ρ
  | some false => .ok (.sh (.bl false)) ρ
  | none => .bad
def eOrV (a b : EM) : EM := fun ρ => (a ρ).bnd fun t ρ => match t.d.tru with
  | some false => b ρ
  | some true => .ok (.sh (.bl true)) ρ
  | none => .bad
theorem se_andV {ta tb : TE} {a b : EM} (ha : SE ct Wx ta a) (hb : SE ct Wx tb b) : SE ct Wx (tAndV ta tb) (eAndV a b) := fun W S0 ρ σ tm vm H Q g k => by
  refine ha W S0 ρ σ tm vm H _ g ((Out.P_bnd.mp k).mono (fun t ρ1 k1 v H1 g1 => ?_) fun _ _ h => h)
  have q := g1.tmp
  split at k1
  · rename_i e
    rw [tru_bl e] at q
    exact ⟨true, q, hb W S0 ρ1 σ tm vm H1 Q g1.pop1 k1⟩
  · rename_i e
    rw [tru_bl e] at q
    exact ⟨false, q, k1 _ H1 (g1.pop1.pushC (S := H1) rfl rfl)⟩
  · exact k1.elim
theorem se_orV {ta tb : TE} {a b : EM} (ha : SE ct Wx ta a) (hb : SE ct Wx tb b) : SE ct Wx (tOrV ta tb) (eOrV a b) := fun W S0 ρ σ tm vm H Q g k => by
  refine ha W S0 ρ σ tm vm H _ g ((Out.P_bnd.mp k).mono (fun t ρ1 k1 v H1 g1 => ?_) fun _ _ h => h)
  have q := g1.tmp
  split at k1
  · rename_i e
    rw [tru_bl e] at q
    exact ⟨false, q, hb W S0 ρ1 σ tm vm H1 Q g1.pop1 k1⟩
  · rename_i e
    rw [tru_bl e] at q
    exact ⟨true, q, k1 _ H1 (g1.pop1.pushC (S := H1) rfl rfl)⟩
  · exact k1.elim
def eNotV (a : EM) : EM := fun ρ => (a ρ).bnd fun t ρ => optO (t.d.tru.map fun c => .sh (.bl (!c))) ρ
theorem se_notV {ta : TE} {a : EM} (ha : SE ct Wx ta a) : SE ct Wx (tNotV ta) (eNotV a) := fun W S0 ρ σ tm vm H Q g k => by
  refine ha W S0 ρ σ tm vm H _ g ((Out.P_bnd.mp k).mono (fun t ρ1 k1 v H1 g1 => ?_) fun _ _ h => h)
  obtain ⟨z, e, k1⟩ := P_opt k1
  obtain ⟨c, e1, rfl⟩ := Option.map_eq_some_iff.mp e
  have q := g1.tmp
  rw [tru_bl e1] at q
  exact ⟨c, q, k1 _ H1 (g1.pop1.pushC (S := H1) rfl rfl)⟩
def eIf (c : EMb) (a b : EM) : EM := fun ρ => (c ρ).bnd fun k ρ => if k = true then a ρ else b ρ
theorem se_if {tc : TT} {ta tb : TE} {c : EMb} {a b : EM} (hc : SET ct Wx tc c) (ha : SE ct Wx ta a) (hb : SE ct Wx tb b) : SE ct Wx (tIf tc ta tb) (eIf c a b) := fun W S0 ρ σ tm vm H Q g k => by
  refine hc W S0 ρ σ tm vm H _ g ((Out.P_bnd.mp k).mono (fun k ρ1 k1 H1 g1 => ?_) fun _ _ h => h)
  cases k with
  | true => exact ha W S0 ρ1 σ tm vm H1 Q g1 k1
  | false => exact hb W S0 ρ1 σ tm vm H1 Q g1 k1
/-- an item of what an expression makes, at a reckoned place -/
def ixT (t u : T) : Option T := t.kids.bind fun l => u.d.intO.bind fun i => atI l i
theorem oe_ix {K : PySem.W.Frag} : OpE (rIx K) ixT := fun W S0 ρ σ tm vm H t u v w z Q g e k => by
  obtain ⟨l, e1, e⟩ := some_bind e
  obtain ⟨i, e2, e⟩ := some_bind e
  have q := g.tmp
  rw [intO_int e2] at q
  cases q
  obtain ⟨S, as, bs, g⟩ := g.pop1
  obtain ⟨v', r, b, c, h3, rfl, h4, h5⟩ := g.rt
  simp only [List.cons.injEq] at h3
  obtain ⟨rfl, rfl⟩ := h3
  have nd := g.nd
  have fs := g.fs
  have fw := g.fw
  refine h4.kid g.sh e1 e fun x ⟨b', k3, k2, k1⟩ => k x H ?_
  exact ⟨S, as, b' ++ c, g.s0, g.sh, g.wh, g.nw, g.re, ⟨x, vm, b', c, rfl, rfl, k1, h5⟩, by grind, by grind, by grind⟩
end
end Z

namespace Z
noncomputable section
open PySem L2
variable {ct : CT} {Wx : XW} {W S0 S H H' : Hp} {ρ : Env} {σ : St} {t u : T} {ts us tm : List T} {v w : V} {vs ws vm : List V} {as bs : List Addr} {i : Nat} {d : D}
/-! ### defs by what they make of data -/
inductive FOut where
  | bad | ok (t : T) (ts : List T) | ex (x : Exn)
def FOut.P (Φ : T → List T → Prop) (Ψ : Exn → Prop) : FOut → Prop
  | .bad => False
  | .ok t ts => Φ t ts
  | .ex x => Ψ x
abbrev FM := List T → FOut
/-- a def's promise -/
def spM (ct : CT) (n : Nat) (F : FM) : Sp := fun vs H Q E => vs.length = n ∧ ∃ ts W S, GX W S [] [] ts vs H ∧
  (F ts).P (fun t ts' => ts'.length = n ∧ ∀ v H', GX W S [] [] (t :: ts') (v :: vs) H' → Q v H') (fun x => ∀ c d H', GX W S [] [] [] [] H' → XOk ct x c d H' → E c d H')
def T.fz (t : T) : T := .sh t.d
theorem GX.frzs : ∀ {ts tm : List T} {vs vm : List V}, vs.length = ts.length → GX W S0 ρ σ (ts ++ tm) (vs ++ vm) H → GX W S0 ρ σ (ts.map T.fz ++ tm) (vs ++ vm) H
  | [], _, [], _, _, g => g
  | t :: ts, tm, v :: vs, vm, e, g => by
    have g1 : GX W S0 ρ σ (t.fz :: (ts ++ tm)) (v :: (vs ++ vm)) H := g.frz
    have g2 := GX.unrot g1 (by simpa using e)
    have g3 := GX.frzs (ts := ts) (vs := vs) (tm := t.fz :: tm) (vm := v :: vm) (by simpa using e) g2
    have g4 := GX.rot g3 (by simpa using e)
    exact g4
theorem GX.nil_call {ts : List T} {vs : List V} (g : GX W S0 ρ σ (ts ++ tm) (vs ++ vm) H) (e : vs.length = ts.length) {F : FM} {n : Nat} {Q : VK} {E : XK} (hn : ts.length = n)
    (k : (F ts).P (fun t ts' => ts'.length = n ∧ ∀ v H', GX W S0 ρ σ (t :: (ts' ++ tm)) (v :: (vs ++ vm)) H' → Q v H') (fun x => ∀ c d H', GX W S0 ρ σ tm vm H' → XOk ct x c d H' → E c d H')) : spM ct n F vs H Q E := by
  obtain ⟨W', S', g1, back⟩ := g.call e
  refine ⟨e.trans hn, ts, W', S', g1, ?_⟩
  generalize ho : F ts = o
  rw [ho] at k
  cases o with
  | bad => exact k
  | ok t ts' => exact ⟨k.1, fun v H' g2 => k.2 v H' (back (t :: ts') (v :: vs) H' (by simp [k.1, e, hn]) g2)⟩
  | ex x => exact fun c d H' g2 hx => k c d H' (back [] [] H' rfl g2) hx
/-- a call, all arguments handed over as they are read -/
def eCall (n : Nat) (F : FM) (a : EMs) : EM := fun ρ => (a ρ).bnd fun ts ρ => if ts.length = n then match F (ts.map T.fz) with
  | .ok t ts' => if ts'.length = n then .ok t ρ else .bad
  | .ex x => .ex x ρ
  | .bad => .bad else .bad
theorem se_call {n : Nat} {F : FM} {ta : TA} {a : EMs} (ha : SEA ct Wx ta a) : SE ct Wx (tCallS (spM ct n F) (WE Wx) ta) (eCall n F a) := fun W S0 ρ σ tm vm H Q g k => by
  refine ha W S0 ρ σ tm vm H _ g ((Out.P_bnd.mp k).mono (fun ts ρ1 k1 vs H1 e1 g1 => ?_) fun _ _ h => h)
  obtain ⟨hn, k1⟩ := P_ite k1
  refine (g1.frzs e1).nil_call (by simp [e1]) (by simpa using hn) ?_
  generalize F (ts.map T.fz) = o at k1 ⊢
  cases o with
  | bad => exact k1
  | ok t ts' =>
    obtain ⟨hl, k1⟩ := P_ite k1
    refine ⟨hl, fun v H' g2 => k1 v H' ?_⟩
    have g3 : GX W S0 ρ1 σ (ts' ++ t :: tm) (vs ++ v :: vm) H' := GX.unrot g2 (by omega)
    exact g3.pop (by omega)
  | ex x => exact fun c d H' g2 hx => k1 c d H' g2 hx
/-- the same where no exception is let out (in a comprehension) -/
theorem se_call0 {n : Nat} {F : FM} {ta : TA} {a : EMs} (ha : SEA ct (fun _ _ _ _ => False) ta a) : SE ct (fun _ _ _ _ => False) (tCall (spM ct n F) [] E0 ta) (eCall n F a) := fun W S0 ρ σ tm vm H Q g k => by
  have h := se_call (n := n) (F := F) ha W S0 ρ σ tm vm H Q g k
  unfold tCall
  unfold tCallS at h
  simpa using h
/-- .. with a name's value first, that the def may change -/
def eCallI (n i : Nat) (F : FM) (a : EMs) : EM := fun ρ => match ρ[i]? with
  | some (some _) => (a ρ).bnd fun ts ρ => match ρ[i]? with
    | some (some t0) => if ts.length + 1 = n then match F (t0 :: ts.map T.fz) with
      | .ok t (t1 :: ts') => if ts'.length + 1 = n then .ok t (ρ.set i (some t1)) else .bad
      | .ex x => .ex x (ρ.set i none)
      | _ => .bad else .bad
    | _ => .bad
  | _ => .bad
theorem se_callI {n i : Nat} {F : FM} {ta : TA} {a : EMs} (ha : SEA ct Wx ta a) : SE ct Wx (tCallS (spM ct n F) (WE Wx) (tCons (tVar i) ta)) (eCallI n i F a) := fun W S0 ρ σ tm vm H Q g k => by
  unfold eCallI at k
  split at k
  case h_2 => exact k.elim
  rename_i t00 e00
  obtain ⟨v0, hv0, _⟩ := g.take e00
  refine ⟨v0, hv0, ?_⟩
  refine ha W S0 ρ σ tm vm H _ g ((Out.P_bnd.mp k).mono (fun ts ρ1 k1 vs H1 e1 g1 => ?_) fun _ _ h => h)
  split at k1
  case h_2 => exact k1.elim
  rename_i t0 e0
  obtain ⟨hn, k1⟩ := P_ite k1
  obtain ⟨v1, hv1, g2⟩ := g1.take e0
  rw [hv0] at hv1
  cases hv1
  have g3 : GX W S0 (ρ1.set i none) σ (t0 :: (ts.map T.fz ++ tm)) (v0 :: (vs ++ vm)) H1 := by
    have h1 := GX.unrot g2 e1
    have h2 := GX.frzs e1 h1
    exact GX.rot h2 (by simpa using e1)
  refine GX.nil_call (ts := t0 :: ts.map T.fz) (vs := v0 :: vs) g3 (by simp [e1]) (by simpa using hn) ?_
  generalize F (t0 :: ts.map T.fz) = o at k1 ⊢
  cases o with
  | bad => exact k1
  | ok t ts' =>
    cases ts' with
    | nil => exact k1.elim
    | cons t1 ts' =>
      obtain ⟨hl, k1⟩ := P_ite k1
      refine ⟨by simpa using hl, fun v H' g4 => k1 v H' ?_⟩
      have g5 : GX W S0 (ρ1.set i none) σ (t :: t1 :: (ts' ++ tm)) (v :: v0 :: (vs ++ vm)) H' := g4
      have g7 : GX W S0 (ρ1.set i none) σ (t1 :: t :: (ts' ++ tm)) (v0 :: v :: (vs ++ vm)) H' := GX.rot (ts := [t]) (vs := [v]) g5 rfl
      have g8 := g7.back hv0
      rw [List.set_set] at g8
      have g9 : GX W S0 (ρ1.set i (some t1)) σ (ts' ++ t :: tm) (vs ++ v :: vm) H' := GX.unrot g8 (by omega)
      exact g9.pop (by omega)
  | ex x => exact fun c d H' g4 hx => k1 c d H' g4 hx
theorem se_callI0 {n i : Nat} {F : FM} {ta : TA} {a : EMs} (ha : SEA ct (fun _ _ _ _ => False) ta a) : SE ct (fun _ _ _ _ => False) (tCall (spM ct n F) [] E0 (tCons (tVar i) ta)) (eCallI n i F a) := fun W S0 ρ σ tm vm H Q g k => by
  have h := se_callI (n := n) (F := F) ha W S0 ρ σ tm vm H Q g k
  unfold tCall
  unfold tCallS at h
  simpa using h
/-- a call whose answer is read only: arguments are read where they stand -/
def pCall (n : Nat) (F : FM) (a : AM) : PM := fun ρ => (a ρ).bind fun ds => if ds.length = n then match F (ds.map T.sh) with
  | .ok t ts' => if ts'.length = n then some t.d else none
  | _ => none else none
theorem Rpl.gx {S : Hp} {ds : List D} {vs : List V} (h : Rpl S ds vs) : GX S S [] [] (ds.map T.sh) vs S :=
  ⟨S, [], [], fun _ _ h => h, fun _ _ h => h, fun _ _ h => h, fun _ _ h => h, ⟨rfl, rfl⟩, h.toRtl, .nil, by simp, by simp⟩
theorem sp_callG {n : Nat} {F : FM} {E : St → XK} {ta : TA} {a : AM} (ha : SPA ta a) : SP (tCallS (spM ct n F) E ta) (pCall n F a) := fun ρ σ H g d h Q q => by
  obtain ⟨ds, h1, h2⟩ := some_bind h
  obtain ⟨hn, h3⟩ := ite_some h2
  refine ha ρ σ H g ds h1 _ fun vs H1 e1 r1 => ⟨by rw [r1.len]; exact hn, ds.map T.sh, H1, H1, r1.gx, ?_⟩
  generalize hF : F (ds.map T.sh) = o at h3 ⊢
  cases o with
  | bad => cases h3
  | ex x => cases h3
  | ok t ts' =>
    obtain ⟨hl, h4⟩ := ite_some h3
    cases h4
    refine ⟨hl, fun v H' g2 => ?_⟩
    have e2 : Same H1 H' := by obtain ⟨_, _, _, g3⟩ := g2; exact g3.wh
    exact q v H' (e1.trans e2) g2.tmp
theorem sp_call0 {n : Nat} {F : FM} {ta : TA} {a : AM} (ha : SPA ta a) : SP (tCall (spM ct n F) [] E0 ta) (pCall n F a) := fun ρ σ H g d h Q q => by
  have h := sp_callG (ct := ct) (n := n) (F := F) (E := fun _ => E0) ha ρ σ H g d h Q q
  unfold tCall
  unfold tCallS at h
  simpa using h
end
end Z

namespace Z
noncomputable section
open PySem L2
variable {ct : CT} {Wx : XW} {W S0 S H H' : Hp} {ρ : Env} {σ σ0 : St} {t u : T} {ts us tm : List T} {v w : V} {vs ws vm : List V} {as bs : List Addr} {i : Nat} {d : D} {pin : List Nat} {D0 : Ends}
/-! ### statements -/
inductive SOut where
  | bad | nx (ρ : Env) | rt (t : T) (ρ : Env) | bk (ρ : Env) | ct (ρ : Env) | ex (x : Exn) (ρ : Env)
abbrev SM := Env → SOut
def Pin (pin : List Nat) (σ σ' : St) : Prop := ∀ i ∈ pin, σ'[i]? = σ[i]?
theorem Pin.refl : Pin pin σ σ := fun _ _ => rfl
theorem Pin.set {o : Option V} (h : Pin pin σ0 σ) (hi : i ∉ pin) : Pin pin σ0 (σ.set i o) := fun j hj => by
  rw [List.getElem?_set_ne (fun e => hi (by rw [e]; exact hj))]; exact h j hj
/-- what is wanted behind a statement -/
def SK (ct : CT) (Wx : XW) (W S0 : Hp) (pin : List Nat) (σ0 : St) (D : Ends) : SOut → Prop
  | .bad => False
  | .nx ρ => ∀ σ H, GX W S0 ρ σ [] [] H → Pin pin σ0 σ → D.nx σ H
  | .rt t ρ => ∀ v σ H, GX W S0 ρ σ [t] [v] H → Pin pin σ0 σ → D.rt v H
  | .bk ρ => ∀ σ H, GX W S0 ρ σ [] [] H → Pin pin σ0 σ → D.bk σ H
  | .ct ρ => ∀ σ H, GX W S0 ρ σ [] [] H → Pin pin σ0 σ → D.ct σ H
  | .ex x ρ => ∀ c d σ H, GX W S0 ρ σ [] [] H → Pin pin σ0 σ → XOk ct x c d H → Wx c d σ H
def SS (ct : CT) (Wx : XW) (pin : List Nat) (s : TS) (m : SM) : Prop := ∀ W S0 σ0 ρ σ H (D : Ends), GX W S0 ρ σ [] [] H → Pin pin σ0 σ → SK ct Wx W S0 pin σ0 D (m ρ) → s D σ H
def Out.st {α : Type} (o : Out α) (f : α → Env → SOut) : SOut := match o with
  | .bad => .bad
  | .ok a ρ => f a ρ
  | .ex x ρ => .ex x ρ
theorem SK.st {α : Type} {o : Out α} {f : α → Env → SOut} (p : Pin pin σ0 σ) (h : SK ct Wx W S0 pin σ0 D0 (o.st f)) : o.P (fun a ρ => SK ct Wx W S0 pin σ0 D0 (f a ρ)) (XE ct Wx W S0 σ [] []) := by
  cases o with
  | bad => exact h
  | ok a ρ => exact h
  | ex x ρ => exact fun c d H' g k => h c d σ H' g p k
def mSeq (a b : SM) : SM := fun ρ => match a ρ with
  | .nx ρ => b ρ
  | r => r
def mNil : SM := fun ρ => .nx ρ
theorem ss_nil : SS ct Wx pin tNext mNil := fun W S0 σ0 ρ σ H D g p k => k σ H g p
theorem ss_seq {s u : TS} {a b : SM} (ha : SS ct Wx pin s a) (hb : SS ct Wx pin u b) : SS ct Wx pin (tSeq s u) (mSeq a b) := fun W S0 σ0 ρ σ H D g p k => by
  refine ha W S0 σ0 ρ σ H { D with nx := u D } g p ?_
  unfold mSeq at k
  generalize a ρ = o at k ⊢
  cases o with
  | nx ρ' => exact fun σ' H' g' p' => hb W S0 σ0 ρ' σ' H' D g' p' k
  | _ => exact k
theorem GX.putA (g : GX W S0 ρ σ (t :: tm) (v :: vm) H) (i : Nat) : GX W S0 (ρ.set i (some t)) (σ.set i (some v)) tm vm H := by
  by_cases hi : i < ρ.length
  · exact g.put hi
  · rw [List.set_eq_of_length_le (by omega), List.set_eq_of_length_le (by rw [g.lenE]; omega)]; exact g.pop1
def mSet (i : Nat) (e : EM) : SM := fun ρ => (e ρ).st fun t ρ => .nx (ρ.set i (some t))
theorem ss_set {i : Nat} {te : TE} {e : EM} (he : SE ct Wx te e) (hi : i ∉ pin) : SS ct Wx pin (tAsg te (gName i)) (mSet i e) := fun W S0 σ0 ρ σ H D g p k => by
  refine he W S0 ρ σ [] [] H _ g ((SK.st p k).mono (fun t ρ1 k1 v H1 g1 => ?_) fun _ _ h => h)
  exact k1 _ _ (g1.putA i) (p.set hi)
def mDrop (e : EM) : SM := fun ρ => (e ρ).st fun _ ρ => .nx ρ
theorem ss_drop {te : TE} {e : EM} (he : SE ct Wx te e) : SS ct Wx pin (tDrop te) (mDrop e) := fun W S0 σ0 ρ σ H D g p k => by
  refine he W S0 ρ σ [] [] H _ g ((SK.st p k).mono (fun t ρ1 k1 v H1 g1 => ?_) fun _ _ h => h)
  exact k1 _ _ g1.pop1 p
def mRet (e : EM) : SM := fun ρ => (e ρ).st fun t ρ => .rt t ρ
theorem ss_ret {te : TE} {e : EM} (he : SE ct Wx te e) : SS ct Wx pin (tRet te) (mRet e) := fun W S0 σ0 ρ σ H D g p k => by
  refine he W S0 ρ σ [] [] H _ g ((SK.st p k).mono (fun t ρ1 k1 v H1 g1 => ?_) fun _ _ h => h)
  exact k1 v σ H1 g1 p
def mRetN : SM := fun ρ => .rt (.sh .non) ρ
theorem ss_retN : SS ct Wx pin tRetN mRetN := fun W S0 σ0 ρ σ H D g p k => k .non σ H (g.pushC (S := H) rfl rfl) p
def mBk : SM := fun ρ => .bk ρ
def mCt : SM := fun ρ => .ct ρ
theorem ss_bk : SS ct Wx pin tBreak mBk := fun W S0 σ0 ρ σ H D g p k => k σ H g p
theorem ss_ct : SS ct Wx pin tCont mCt := fun W S0 σ0 ρ σ H D g p k => k σ H g p
def mIf (c : EMb) (a b : SM) : SM := fun ρ => (c ρ).st fun k ρ => if k = true then a ρ else b ρ
theorem ss_if {tc : TT} {s u : TS} {c : EMb} {a b : SM} (hc : SET ct Wx tc c) (ha : SS ct Wx pin s a) (hb : SS ct Wx pin u b) : SS ct Wx pin (tIfS tc s u) (mIf c a b) := fun W S0 σ0 ρ σ H D g p k => by
  refine hc W S0 ρ σ [] [] H _ g ((SK.st p k).mono (fun c ρ1 k1 H1 g1 => ?_) fun _ _ h => h)
  cases c with
  | true => exact ha W S0 σ0 ρ1 σ H1 D g1 p k1
  | false => exact hb W S0 σ0 ρ1 σ H1 D g1 p k1
/-- a, b = e1, e2 -/
def mPar (i j : Nat) (a : EMs) : SM := fun ρ => (a ρ).st fun ts ρ => match ts with
  | [t, u] => .nx ((ρ.set i (some t)).set j (some u))
  | _ => .bad
theorem ss_par {i j : Nat} {ta : TA} {a : EMs} (ha : SEA ct Wx ta a) (hi : i ∉ pin) (hj : j ∉ pin) : SS ct Wx pin (tPar i j ta) (mPar i j a) := fun W S0 σ0 ρ σ H D g p k => by
  refine ha W S0 ρ σ [] [] H _ g ((SK.st p k).mono (fun ts ρ1 k1 vs H1 e1 g1 => ?_) fun _ _ h => h)
  match ts, vs, e1, k1, g1 with
  | [t, u], [v, w], _, k1, g1 => exact ⟨v, w, rfl, k1 _ _ ((g1.putA i).putA j) ((p.set hi).set hj)⟩
def mPar3 (i j l : Nat) (a : EMs) : SM := fun ρ => (a ρ).st fun ts ρ => match ts with
  | [t, u, w] => .nx (((ρ.set i (some t)).set j (some u)).set l (some w))
  | _ => .bad
theorem ss_par3 {i j l : Nat} {ta : TA} {a : EMs} (ha : SEA ct Wx ta a) (hi : i ∉ pin) (hj : j ∉ pin) (hl : l ∉ pin) : SS ct Wx pin (tPar3 i j l ta) (mPar3 i j l a) := fun W S0 σ0 ρ σ H D g p k => by
  refine ha W S0 ρ σ [] [] H _ g ((SK.st p k).mono (fun ts ρ1 k1 vs H1 e1 g1 => ?_) fun _ _ h => h)
  match ts, vs, e1, k1, g1 with
  | [t, u, z], [v, w, y], _, k1, g1 => exact ⟨v, w, y, rfl, k1 _ _ (((g1.putA i).putA j).putA l) (((p.set hi).set hj).set hl)⟩

/-! ### targets -/
theorem wipe_get {σ : St} {i : Nat} : ∀ {vs : List Nat}, i ∉ vs → (wipe σ vs)[i]? = σ[i]?
  | [], _ => rfl
  | v :: vs, h => by
    unfold wipe
    rw [List.getElem?_set_ne (fun e => h (by simp [e])), wipe_get (fun k => h (by simp [k]))]
theorem wipe_in {σ : St} {i : Nat} : ∀ {vs : List Nat}, i ∈ vs → i < σ.length → (wipe σ vs)[i]? = some none
  | v :: vs, h, hl => by
    unfold wipe
    by_cases e : v = i
    · subst e
      rw [List.getElem?_set_self (by rw [wipe_length]; exact hl)]
    · rw [List.getElem?_set_ne e]
      exact wipe_in (by rcases List.mem_cons.mp h with h | h; exact absurd h.symm e; exact h) hl
theorem wipe_set {σ : St} {i : Nat} {o : Option V} {vs : List Nat} (h : i ∈ vs) : wipe (σ.set i o) vs = wipe σ vs := by
  apply List.ext_getElem?
  intro j
  by_cases hj : j ∈ vs
  · by_cases hl : j < σ.length
    · rw [wipe_in hj (by simpa using hl), wipe_in hj hl]
    · rw [List.getElem?_eq_none (by rw [wipe_length, List.length_set]; omega), List.getElem?_eq_none (by rw [wipe_length]; omega)]
  · rw [wipe_get hj, wipe_get hj, List.getElem?_set_ne (fun e => hj (by rw [← e]; exact h))]
abbrev BM := T → Env → Option Env
def SG (slots : List Nat) (g : TG) (b : BM) : Prop := ∀ W S0 ρ σ tm vm H t v ρ', GX W S0 ρ σ (t :: tm) (v :: vm) H → b t ρ = some ρ' → ∀ Q : St → Hp → Prop, (∀ σ', GX W S0 ρ' σ' tm vm H → wipe σ' slots = wipe σ slots → Q σ' H) → g v σ H Q
def bName (i : Nat) : BM := fun t ρ => some (ρ.set i (some t))
theorem sg_name {i : Nat} : SG [i] (gName i) (bName i) := fun W S0 ρ σ tm vm H t v ρ' g e Q q => by
  cases e
  exact q _ (g.putA i) (wipe_set (by simp))
def gNames : List Nat → TGs
  | [] => gNil
  | i :: is => gCons (gName i) (gNames is)
def bNames : List Nat → List T → Env → Option Env
  | [], [], ρ => some ρ
  | i :: is, t :: ts, ρ => bNames is ts (ρ.set i (some t))
  | _, _, _ => none
theorem sg_names {slots : List Nat} : ∀ {is : List Nat} {ts : List T} {vs : List V} {ρ ρ' : Env} {σ : St}, (∀ i ∈ is, i ∈ slots) → vs.length = ts.length → GX W S0 ρ σ (ts ++ tm) (vs ++ vm) H → bNames is ts ρ = some ρ' → ∀ Q : St → Hp → Prop, (∀ σ', GX W S0 ρ' σ' tm vm H → wipe σ' slots = wipe σ slots → Q σ' H) → gNames is vs σ H Q
  | [], [], [], ρ, ρ', σ, _, _, g, e, Q, q => by cases e; exact ⟨rfl, q σ g rfl⟩
  | i :: is, t :: ts, v :: vs, ρ, ρ', σ, hs, hl, g, e, Q, q => by
    refine ⟨v, vs, rfl, ?_⟩
    exact sg_names (ρ := ρ.set i (some t)) (σ := σ.set i (some v)) (fun j hj => hs j (by simp [hj])) (by simpa using hl) (GX.putA (tm := ts ++ tm) (vm := vs ++ vm) g i) e Q fun σ' g' k => q σ' g' (k.trans (wipe_set (hs i (by simp))))
  | [], _ :: _, _, _, _, _, _, _, _, e, _, _ => by cases e
  | _ :: _, [], _, _, _, _, _, _, _, e, _, _ => by cases e
  | _, _ :: _, [], _, _, _, _, hl, _, _, _, _ => by simp at hl
  | _, [], _ :: _, _, _, _, _, hl, _, _, _, _ => by simp at hl
def bTup (is : List Nat) : BM := fun t ρ => t.elsT.bind fun ts => bNames is ts ρ
theorem bNames_len : ∀ {is : List Nat} {ts : List T} {ρ ρ' : Env}, bNames is ts ρ = some ρ' → ts.length = is.length
  | [], [], _, _, _ => rfl
  | i :: is, t :: ts, ρ, ρ', e => by
    have := bNames_len (is := is) (ts := ts) (ρ := ρ.set i (some t)) (ρ' := ρ') e
    simp only [List.length_cons]
    omega
  | [], _ :: _, _, _, e => by cases e
  | _ :: _, [], _, _, e => by cases e
theorem sg_tup {K : PySem.W.Frag} {is : List Nat} {n : Nat} (hn : n = is.length) : SG is (gTup K n (gNames is)) (bTup is) := fun W S0 ρ σ tm vm H t v ρ' g e Q q => by
  obtain ⟨ts, e1, e2⟩ := some_bind e
  obtain ⟨a, xs, rfl, h1, h2, g1⟩ := g.elsT e1
  exact ⟨a, xs, rfl, .of h1, by rw [h2, bNames_len e2, hn], sg_names (fun _ h => h) h2 g1 e2 Q q⟩
def mUnp (b : BM) (e : EM) : SM := fun ρ => (e ρ).st fun t ρ => match b t ρ with
  | some ρ => .nx ρ
  | none => .bad
theorem Pin.wipe {slots : List Nat} {σ' : St} (h : Pin pin σ0 σ) (e : L2.wipe σ' slots = L2.wipe σ slots) (hs : ∀ i ∈ slots, i ∉ pin) : Pin pin σ0 σ' := fun j hj => by
  have hn : j ∉ slots := fun k => hs j k hj
  have := congrArg (fun l => l[j]?) e
  simp only [wipe_get hn] at this
  rw [this]; exact h j hj
theorem ss_unp {slots : List Nat} {te : TE} {e : EM} {g : TG} {b : BM} (he : SE ct Wx te e) (hg : SG slots g b) (hs : ∀ i ∈ slots, i ∉ pin) : SS ct Wx pin (tAsg te g) (mUnp b e) := fun W S0 σ0 ρ σ H D gx p k => by
  refine he W S0 ρ σ [] [] H _ gx ((SK.st p k).mono (fun t ρ1 k1 v H1 g1 => ?_) fun _ _ h => h)
  split at k1
  · rename_i ρ' e1
    exact hg W S0 ρ1 σ [] [] H1 t v ρ' g1 e1 _ fun σ' g2 e2 => k1 σ' H1 g2 (p.wipe e2 hs)
  · exact k1.elim
/-! ### owned lists change -/
/-- x[k] = e -/
def mStore (i : Nat) (e : EM) (ix : PM) : SM := fun ρ => (e ρ).st fun t ρ => match ρ[i]?, ix ρ with
  | some (some (.ol ts)), some (.int k) => match ixN ts.length k with
    | some j => .nx (ρ.set i (some (.ol (ts.set j t))))
    | none => .bad
  | _, _ => .bad
theorem ss_store {i : Nat} {te ti : TE} {e : EM} {ix : PM} (he : SE ct Wx te e) (hx : SP ti ix) : SS ct Wx pin (tAsg te (gSub (tVar i) ti rSetL)) (mStore i e ix) := fun W S0 σ0 ρ σ H D g p k => by
  refine he W S0 ρ σ [] [] H _ g ((SK.st p k).mono (fun t ρ1 k1 v H1 g1 => ?_) fun _ _ h => h)
  split at k1
  case h_2 => exact k1.elim
  rename_i ts k e1 e2
  split at k1
  case h_2 => exact k1.elim
  rename_i j e3
  obtain ⟨x, hx1, g2⟩ := g1.take e1
  refine ⟨x, hx1, hx ρ1 σ H1 g1.rv _ e2 _ fun y H2 es r => ?_⟩
  cases r
  obtain ⟨a, xs, rfl, h1, h2, mk⟩ := (g2.ext es).mutL
  refine ⟨a, xs, k, j, rfl, rfl, h1, by rw [h2]; exact e3, ?_⟩
  have hj : j < ts.length := (ixN_seq e3).2.1
  have g3 := mk (ts.set j t) [] (xs.set j v) [] (fun S H b c hb hc => by
    obtain ⟨v', r, c1, c2, h3, rfl, h4, h5⟩ := hc
    cases h3
    obtain ⟨_, rfl⟩ := h5
    obtain ⟨w, b1, d1, d2, k1, rfl, k2, k3⟩ := hb.at (List.getElem?_eq_getElem hj)
    refine ⟨b1 ++ c1 ++ d2, [], k3 S H t v c1 (fun _ _ h => h) (fun _ _ => rfl) h4, ⟨rfl, rfl⟩, by grind, by grind⟩)
  have g4 := g3.back hx1
  rw [List.set_set] at g4
  exact k1 _ _ g4 p
/-- x.append(e) -/
def mApp (i : Nat) (e : EM) : SM := fun ρ => (e ρ).st fun t ρ => match ρ[i]? with
  | some (some (.ol ts)) => if ts.length < lim then .nx (ρ.set i (some (.ol (ts ++ [t])))) else .bad
  | _ => .bad
theorem SK_ite {c : Prop} [Decidable c] {o : SOut} (h : SK ct Wx W S0 pin σ0 D0 (if c then o else .bad)) : c ∧ SK ct Wx W S0 pin σ0 D0 o := by
  by_cases k : c
  · rw [if_pos k] at h; exact ⟨k, h⟩
  · rw [if_neg k] at h; exact h.elim
def mAppG (i : Nat) (e : EM) : SM := fun ρ => match ρ[i]? with
  | some (some (.ol _)) => mApp i e ρ
  | _ => .bad
/-- the list at a name that an expression evaluated ahead of others has read -/
theorem GX.refL (g : GX W S0 ρ σ tm vm H) (e : ρ[i]? = some (some (.ol ts))) : ∃ a xs, σ[i]? = some (some (.ref a)) ∧ H a = some (.lst xs) ∧ xs.length = ts.length := by
  obtain ⟨v, e1, g1⟩ := g.take e
  obtain ⟨a, xs, rfl, h1, h2, _⟩ := g1.mutL
  exact ⟨a, xs, e1, h1, h2⟩
theorem ss_app {K : PySem.W.Frag} {i : Nat} {te : TE} {e : EM} (he : SE ct Wx te e) : SS ct Wx pin (tDrop (tBM K "list" rAppend (tVar i) (tCons te tNil))) (mAppG i e) := fun W S0 σ0 ρ σ H D g p k => by
  unfold mAppG at k
  split at k
  case h_2 => exact k.elim
  rename_i ts0 e0
  obtain ⟨a0, xs0, ea, h0, _⟩ := g.refL e0
  refine ⟨.ref a0, ea, .inl ⟨rfl, xs0, .of h0⟩, ?_⟩
  refine he W S0 ρ σ [] [] H _ g ((SK.st p k).mono (fun t ρ1 k1 v H1 g1 => ?_) fun _ _ h => h)
  split at k1
  case h_2 => exact k1.elim
  rename_i ts e1
  obtain ⟨hz, k1⟩ := SK_ite k1
  obtain ⟨x, hx1, g2⟩ := g1.take e1
  rw [ea] at hx1
  cases hx1
  obtain ⟨a, xs, e5, h1, h2, mk⟩ := g2.mutL
  cases e5
  refine ⟨a0, xs, v, rfl, rfl, h1, lim_lt (by omega), ?_⟩
  have g3 := mk (ts ++ [t]) [] (xs ++ [v]) [] (fun S H b c hb hc => by
    obtain ⟨v', r, c1, c2, h3, rfl, h4, h5⟩ := hc
    cases h3
    obtain ⟨_, rfl⟩ := h5
    have h6 : Rtl S H [t] [v] c1 := ⟨v, [], c1, [], rfl, by simp, h4, rfl, rfl⟩
    exact ⟨b ++ c1, [], hb.append h6, ⟨rfl, rfl⟩, by grind, by grind⟩)
  have g4 := g3.back ea
  rw [List.set_set] at g4
  exact k1 _ _ g4 p
/-- x.extend(e) -/
def mExt (i : Nat) (e : EM) : SM := fun ρ => match ρ[i]? with
  | some (some (.ol _)) => (e ρ).st fun t ρ => match ρ[i]? with
    | some (some (.ol ts)) => match t.els with
      | some us => if ts.length + us.length ≤ lim then .nx (ρ.set i (some (.ol (ts ++ us)))) else .bad
      | none => .bad
    | _ => .bad
  | _ => .bad
theorem ss_ext {K : PySem.W.Frag} {i : Nat} {te : TE} {e : EM} (he : SE ct Wx te e) : SS ct Wx pin (tDrop (tBM K "list" rExtend (tVar i) (tCons te tNil))) (mExt i e) := fun W S0 σ0 ρ σ H D g p k => by
  unfold mExt at k
  split at k
  case h_2 => exact k.elim
  rename_i ts0 e0
  obtain ⟨a0, xs0, ea, h0, _⟩ := g.refL e0
  refine ⟨.ref a0, ea, .inl ⟨rfl, xs0, .of h0⟩, ?_⟩
  refine he W S0 ρ σ [] [] H _ g ((SK.st p k).mono (fun t ρ1 k1 v H1 g1 => ?_) fun _ _ h => h)
  split at k1
  case h_2 => exact k1.elim
  rename_i ts e1
  split at k1
  case h_2 => exact k1.elim
  rename_i us e2
  obtain ⟨hz, k1⟩ := SK_ite k1
  obtain ⟨b, ys, rfl, h3, h4, g1'⟩ := g1.els e2
  obtain ⟨x, hx1, g2⟩ := g1'.take e1
  rw [ea] at hx1
  cases hx1
  obtain ⟨a, xs, e5, h1, h2, mk⟩ := g2.mutL
  cases e5
  refine ⟨a0, b, xs, ys, rfl, rfl, h1, h3, lim_le (by omega), ?_⟩
  have g3 := mk (ts ++ us) [] (xs ++ ys) [] (fun S H b c hb hc => by
    have hc' : Rtl S H us ys c := by simpa using hc
    exact ⟨b ++ c, [], hb.append hc', ⟨rfl, rfl⟩, by grind, by grind⟩)
  have g4 := g3.back ea
  rw [List.set_set] at g4
  exact k1 _ _ g4 p
/-- x.pop() -/
def ePop (i : Nat) : EM := fun ρ => match ρ[i]? with
  | some (some (.ol ts)) => match ts[ts.length - 1]? with
    | some t => .ok t (ρ.set i (some (.ol ts.dropLast)))
    | none => .bad
  | _ => .bad
theorem Rtl.last {S H : Hp} {ts : List T} {vs : List V} {b : List Addr} {t : T} (h : Rtl S H ts vs b) (e : ts[ts.length - 1]? = some t) : ∃ v b' c, vs[vs.length - 1]? = some v ∧ Rtl S H ts.dropLast vs.dropLast b' ∧ Rt S H t v c ∧ b = b' ++ c := by
  have hl := h.len
  have hp : 0 < ts.length := by
    rcases Nat.eq_zero_or_pos ts.length with k | k
    · rw [List.length_eq_zero_iff.mp k] at e; simp at e
    · exact k
  have e1 : ts = ts.dropLast ++ [t] := by
    have := List.dropLast_concat_getLast (l := ts) (by intro k; rw [k] at hp; simp at hp)
    have h2 := (List.getElem?_eq_some_iff.mp e).2
    rw [List.getLast_eq_getElem, h2] at this
    exact this.symm
  have hv : vs ≠ [] := by intro k; rw [k] at hl; simp at hl; omega
  have e2 : vs = vs.dropLast ++ [vs.getLast hv] := (List.dropLast_concat_getLast hv).symm
  rw [e1, e2] at h
  obtain ⟨b', c, rfl, h1, h2⟩ := Rtl.split (by simp [hl]) h
  obtain ⟨w, r, c1, c2, h3, rfl, h4, h5⟩ := h2
  cases h3
  obtain ⟨_, rfl⟩ := h5
  refine ⟨_, b', c1, ?_, h1, h4, by simp⟩
  rw [List.getLast_eq_getElem]
  exact List.getElem?_eq_getElem _
theorem se_pop {K : PySem.W.Frag} {i : Nat} : SE ct Wx (tBM0 K "list" rPop (tVar i)) (ePop i) := fun W S0 ρ σ tm vm H Q g k => by
  unfold ePop at k
  split at k
  case h_2 => exact k.elim
  rename_i ts e1
  split at k
  case h_2 => exact k.elim
  rename_i t e2
  obtain ⟨x, hx1, g2⟩ := g.take e1
  obtain ⟨a, xs, rfl, h1, h2, mk⟩ := g2.mutL
  obtain ⟨y, hy⟩ : ∃ y, xs[xs.length - 1]? = some y := by
    have := (List.getElem?_eq_some_iff.mp e2).1
    exact ⟨_, List.getElem?_eq_getElem (by omega)⟩
  refine ⟨.ref a, hx1, .inl ⟨rfl, xs, .of h1⟩, a, xs, y, rfl, rfl, h1, hy, ?_⟩
  have g3 := mk ts.dropLast (t :: tm) xs.dropLast (y :: vm) (fun S H b c hb hc => by
    obtain ⟨w, b', c', k1, k2, k3, rfl⟩ := hb.last e2
    rw [hy] at k1
    cases k1
    exact ⟨b', c' ++ c, k2, ⟨y, vm, c', c, rfl, rfl, k3, hc⟩, by grind, by grind⟩)
  have g4 := g3.back hx1
  rw [List.set_set] at g4
  exact k y _ g4
/-- x.pop(k) -/
def ePopAt (i : Nat) (e : EM) : EM := fun ρ => match ρ[i]? with
  | some (some (.ol _)) => (e ρ).bnd fun u ρ => match ρ[i]? with
    | some (some (.ol ts)) => match u.d.intO with
      | some k => if InR k then match seqIndex? k ts.length with
        | some j => match ts[j]? with
          | some t => .ok t (ρ.set i (some (.ol (ts.eraseIdx j))))
          | none => .bad
        | none => .bad else .bad
      | none => .bad
    | _ => .bad
  | _ => .bad
theorem Rtl.erase {S H : Hp} : ∀ {ts : List T} {vs : List V} {b : List Addr} {j : Nat} {t : T}, Rtl S H ts vs b → ts[j]? = some t → ∃ v b1 c b2, vs[j]? = some v ∧ b = b1 ++ c ++ b2 ∧ Rt S H t v c ∧ Rtl S H (ts.eraseIdx j) (vs.eraseIdx j) (b1 ++ b2)
  | [], _, _, _, _, _, e => by simp at e
  | u :: l, _, _, 0, t, ⟨v, r, b, c, h1, h2, h3, h4⟩, e => by
    subst h1 h2
    simp at e
    subst e
    exact ⟨v, [], b, c, rfl, rfl, h3, h4⟩
  | u :: l, _, _, j + 1, t, ⟨v, r, b, c, h1, h2, h3, h4⟩, e => by
    subst h1 h2
    simp at e
    obtain ⟨w, b1, c1, b2, e1, rfl, e3, e4⟩ := Rtl.erase h4 e
    exact ⟨w, b ++ b1, c1, b2, by simpa using e1, by simp [List.append_assoc], e3, ⟨v, _, b, b1 ++ b2, rfl, by simp [List.append_assoc], h3, e4⟩⟩
theorem se_popAt {K : PySem.W.Frag} {i : Nat} {te : TE} {e : EM} (he : SE ct Wx te e) : SE ct Wx (tBM K "list" rPopAt (tVar i) (tCons te tNil)) (ePopAt i e) := fun W S0 ρ σ tm vm H Q g k => by
  unfold ePopAt at k
  split at k
  case h_2 => exact k.elim
  rename_i ts0 e0
  obtain ⟨a0, xs0, ea, h0, _⟩ := g.refL e0
  refine ⟨.ref a0, ea, .inl ⟨rfl, xs0, .of h0⟩, ?_⟩
  refine he W S0 ρ σ tm vm H _ g ((Out.P_bnd.mp k).mono (fun u ρ1 k1 v H1 g1 => ?_) fun _ _ h => h)
  split at k1
  case h_2 => exact k1.elim
  rename_i ts e1
  split at k1
  case h_2 => exact k1.elim
  rename_i kk e2
  obtain ⟨hz0, k1⟩ := P_ite k1
  have hz1 : -(2 ^ 63) ≤ kk := by unfold InR at hz0; omega
  have hz2 : kk < 2 ^ 63 := by unfold InR at hz0; omega
  split at k1
  case h_2 => exact k1.elim
  rename_i j e3
  split at k1
  case h_2 => exact k1.elim
  rename_i t e4
  have q := g1.tmp
  rw [intO_int e2] at q
  cases q
  obtain ⟨x, hx1, g2⟩ := g1.pop1.take e1
  rw [ea] at hx1
  cases hx1
  obtain ⟨a, xs, e5, h1, h2, mk⟩ := g2.mutL
  cases e5
  obtain ⟨y, hy⟩ : ∃ y, xs[j]? = some y := by
    have := (List.getElem?_eq_some_iff.mp e4).1
    exact ⟨_, List.getElem?_eq_getElem (by omega)⟩
  refine ⟨a0, xs, kk, j, y, rfl, rfl, h1, hz1, hz2, by rw [h2]; exact e3, hy, ?_⟩
  have g3 := mk (ts.eraseIdx j) (t :: tm) (xs.eraseIdx j) (y :: vm) (fun S H b c hb hc => by
    obtain ⟨w, b1, c', b2, k1, rfl, k3, k4⟩ := hb.erase e4
    rw [hy] at k1
    cases k1
    exact ⟨b1 ++ b2, c' ++ c, k4, ⟨y, vm, c', c, rfl, rfl, k3, hc⟩, by grind, by grind⟩)
  have g4 := g3.back ea
  rw [List.set_set] at g4
  exact k1 y _ g4
/-- x += e, ints -/
def mAug (i : Nat) (f : Int → Int → Int) (e : EM) : SM := fun ρ => match ρ[i]? with
  | some (some (.sh (.int a))) => (e ρ).st fun t ρ => match t.d.intO with
    | some b => .nx (ρ.set i (some (.sh (.int (f a b)))))
    | none => .bad
  | _ => .bad
theorem ss_aug {i : Nat} {te : TE} {e : EM} {f : Int → Int → Int} (he : SE ct Wx te e) (hi : i ∉ pin) : SS ct Wx pin (tAug i te (ipI f)) (mAug i f e) := fun W S0 σ0 ρ σ H D g p k => by
  unfold mAug at k
  split at k
  case h_2 => exact k.elim
  rename_i a e0
  obtain ⟨v0, hv0, r0⟩ := g.rv i _ e0
  cases r0
  refine ⟨_, hv0, he W S0 ρ σ [] [] H _ g ((SK.st p k).mono (fun t ρ1 k1 v H1 g1 => ?_) fun _ _ h => h)⟩
  split at k1
  case h_2 => exact k1.elim
  rename_i b e1
  have q := g1.tmp
  rw [intO_int e1] at q
  refine ⟨a, b, rfl, q, k1 _ _ ?_ (p.set hi)⟩
  exact GX.putA (g1.pop1.pushC (S := H1) (d := .int (f a b)) (v := .int (f a b)) rfl rfl) i
end
end Z

namespace Z
noncomputable section
open PySem L2
variable {ct : CT} {Wx : XW} {W S0 S S1 H H' : Hp} {ρ ρ' : Env} {σ σ0 : St} {t u : T} {ts us tm its : List T} {v w : V} {vs ws vm : List V} {as bs : List Addr} {i : Nat} {d : D} {pin : List Nat} {D0 : Ends} {J : It}
def Up (W S0 S : Hp) : Prop := Same S0 S ∧ ∀ a, W a ≠ none → S a ≠ none → S0 a ≠ none
theorem G.up (g : G W S0 S H ρ σ tm vm as bs) : Up W S0 S ∧ G W S S H ρ σ tm vm as bs := ⟨⟨g.s0, g.nw⟩, fun _ _ h => h, g.sh, g.wh, fun _ _ h => h, g.re, g.rt, g.nd, g.fs, g.fw⟩
theorem Up.trans (a : Up W S0 S) (b : Up W S S1) : Up W S0 S1 := ⟨a.1.trans b.1, fun x h k => a.2 x h (b.2 x h k)⟩
theorem GX.join (e : Up W S0 S) (g : GX W S ρ σ tm vm H) : GX W S0 ρ σ tm vm H := by
  obtain ⟨S1, as, bs, g⟩ := g
  exact ⟨S1, as, bs, e.1.trans g.s0, g.sh, g.wh, fun a h k => e.2 a h (g.nw a h k), g.re, g.rt, g.nd, g.fs, g.fw⟩
theorem GX.up (g : GX W S0 ρ σ tm vm H) : ∃ S as bs, Up W S0 S ∧ G W S S H ρ σ tm vm as bs := by
  obtain ⟨S, as, bs, g⟩ := g
  exact ⟨S, as, bs, g.up.1, g.up.2⟩
theorem GX.under (g : GX W S ρ σ tm vm H) : Same S H := by
  obtain ⟨S1, as, bs, g⟩ := g
  exact fun a o h => g.sh a o (g.s0 a o h)
theorem XE.up {x : Exn} (e : Up W S0 S) (h : XE ct Wx W S0 σ tm vm x ρ) : XE ct Wx W S σ tm vm x ρ := fun c d H' g k => h c d H' (g.join e) k
theorem SK.up {o : SOut} (e : Up W S0 S) (h : SK ct Wx W S0 pin σ0 D0 o) : SK ct Wx W S pin σ0 D0 o := by
  cases o with
  | bad => exact h
  | nx ρ => exact fun σ H g p => h σ H (g.join e) p
  | rt t ρ => exact fun v σ H g p => h v σ H (g.join e) p
  | bk ρ => exact fun σ H g p => h σ H (g.join e) p
  | ct ρ => exact fun σ H g p => h σ H (g.join e) p
  | ex x ρ => exact fun c d σ H g p k => h c d σ H (g.join e) p k

/-! ### what is walked -/
structure JOk (S : Hp) (J : It) (its : List T) : Prop where
  go : ∀ i H, Same S H → i < its.length → J.go i H
  stop : ∀ i H, Same S H → its.length ≤ i → J.stop i H
  yld : ∀ i H x H', Same S H → i < its.length → J.yld i H x H' → ∃ t, its[i]? = some t ∧ ((H' = H ∧ ∃ d, t = .sh d ∧ Rp S d x) ∨ ∃ p es vs, t = .ot (es.map .sh) ∧ x = .ref p ∧ H p = none ∧ H' = upd H p (.tup vs) ∧ Rpl S es vs)
theorem GX.item {x : V} (g : GX W S ρ σ tm vm H) (h : (H' = H ∧ ∃ d, t = .sh d ∧ Rp S d x) ∨ ∃ p es vs, t = .ot (es.map .sh) ∧ x = .ref p ∧ H p = none ∧ H' = upd H p (.tup vs) ∧ Rpl S es vs) : GX W S ρ σ (t :: tm) (x :: vm) H' := by
  obtain ⟨S1, as, bs, g⟩ := g
  rcases h with ⟨rfl, d, rfl, h⟩ | ⟨p, es, vs, rfl, rfl, hp, rfl, h⟩
  · exact g.pushS (h.mono g.s0)
  · exact (g.pushSs (h.mono g.s0)).newT (by simp [h.len]) hp
abbrev IM := Env → Out (List T)
def SI (ct : CT) (Wx : XW) (wi : TI) (m : IM) : Prop := ∀ W S0 ρ σ tm vm H (R : It → Hp → Prop), GX W S0 ρ σ tm vm H → (m ρ).P (fun its ρ' => ∀ J S H', Up W S0 S → GX W S ρ' σ tm vm H' → JOk S J its → R J H') (XE ct Wx W S0 σ tm vm) → wi σ H R
def iSeq (K : PySem.W.Frag) (tl : TE) : TI := fun σ H R => tl σ H fun x H1 => ∃ a, x = .ref a ∧ (((∃ xs, SqL K H1 a xs) ∧ R (Itl K a) H1) ∨ ((∃ xs, SqT K H1 a xs) ∧ R (Itt K a) H1))
theorem pi_seq {X : Cx} {tg l : Expr} {tl : TE} (hl : PE X l tl) : PI X tg l (iSeq X.K tl) := by
  refine ⟨fun pins s σ H R I h => ?_⟩
  refine thn (hl.run pins s σ H _ I h) fun v s1 ⟨x, H1, I1, r1, q1⟩ => ?_
  obtain ⟨a, e, q⟩ := q1
  subst e
  cases r1
  rcases q with ⟨⟨xs, hq⟩, q⟩ | ⟨⟨xs, hq⟩, q⟩
  · obtain ⟨its, rv, p, hz⟩ := I1.list hq
    refine wpAny_pyIter_list p.isList ?_
    refine ⟨s1.heap.objs.size, [s1.heap.objs.size], _, _, H1, rfl, I1.kept (t' := s1.toks) fun b o e => Heap.get?_push_of_some _ e, turn_list a _, ⟨_, Heap.get?_push_size _ rfl, rfl, rfl⟩, fun b hb => ?_, q⟩
    have e : b = s1.heap.objs.size := by simpa using hb
    subst e
    exact I1.fpOk (Nat.le_refl _) (I1.hok.fresh (Nat.le_refl _))
  · obtain ⟨its, rv, p, hz⟩ := I1.tuple hq
    refine wpAny_pyIter_tuple (show s1.heap.IsTuple a its.toArray from p) ?_
    refine ⟨s1.heap.objs.size, [s1.heap.objs.size], _, _, H1, rfl, I1.kept (t' := s1.toks) fun b o e => Heap.get?_push_of_some _ e, turn_tuple a _, ⟨_, Heap.get?_push_size _ rfl, rfl, rfl⟩, fun b hb => ?_, q⟩
    have e : b = s1.heap.objs.size := by simpa using hb
    subst e
    exact I1.fpOk (Nat.le_refl _) (I1.hok.fresh (Nat.le_refl _))
theorem jok_list {K : PySem.W.Frag} {a : Addr} {l : List D} {xs : List V} (h : S a = some (.lst xs)) (r : Rpl S l xs) : JOk S (Itl K a) (l.map .sh) where
  go i H e hi := ⟨xs, xs[i]'(by simpa [r.len] using hi), .of (e _ _ h), List.getElem?_eq_getElem _⟩
  stop i H e hi := ⟨xs, .of (e _ _ h), by simpa [r.len] using hi⟩
  yld i H x H' e hi y := by
    obtain ⟨e1, y⟩ := y
    have hx := y xs (.of (e _ _ h))
    have hl : i < l.length := by simpa using hi
    obtain ⟨v, e2, e3⟩ := r.get (List.getElem?_eq_getElem hl)
    rw [hx] at e2
    cases e2
    exact ⟨.sh l[i], by simp [hl], .inl ⟨e1, _, rfl, e3⟩⟩
theorem jok_tup {K : PySem.W.Frag} {a : Addr} {l : List D} {xs : List V} (h : S a = some (.tup xs)) (r : Rpl S l xs) : JOk S (Itt K a) (l.map .sh) where
  go i H e hi := ⟨xs, xs[i]'(by simpa [r.len] using hi), .of (e _ _ h), List.getElem?_eq_getElem _⟩
  stop i H e hi := ⟨xs, .of (e _ _ h), by simpa [r.len] using hi⟩
  yld i H x H' e hi y := by
    obtain ⟨e1, y⟩ := y
    have hx := y xs (.of (e _ _ h))
    have hl : i < l.length := by simpa using hi
    obtain ⟨v, e2, e3⟩ := r.get (List.getElem?_eq_getElem hl)
    rw [hx] at e2
    cases e2
    exact ⟨.sh l[i], by simp [hl], .inl ⟨e1, _, rfl, e3⟩⟩
def rangeT (lo : Int) (n : Nat) : List T := (List.range n).map fun k : Nat => .sh (.int (lo + (k : Int)))
theorem rangeT_len {lo : Int} {n : Nat} : (rangeT lo n).length = n := by simp [rangeT]
theorem jok_range {lo : Int} {n : Nat} : JOk S (Itr lo n) (rangeT lo n) where
  go i H e hi := by
    show i < n
    simpa [rangeT] using hi
  stop i H e hi := by
    show n ≤ i
    simpa [rangeT] using hi
  yld i H x H' e hi y := by
    obtain ⟨e1, rfl⟩ := y
    have hi' : i < n := by simpa [rangeT] using hi
    exact ⟨.sh (.int (lo + i)), by simp [rangeT, hi'], .inl ⟨e1, _, rfl, rfl⟩⟩
def D.seq : D → Option (List D)
  | .lst l => some l
  | .tup l => some l
  | _ => none
def iE (e : EM) : IM := fun ρ => (e ρ).bnd fun t ρ => optO (t.d.seq.map fun l => l.map .sh) ρ
/-- a frozen temporary -/
theorem GX.frozen (g : GX W S0 ρ σ (t :: tm) (v :: vm) H) : ∃ S, Up W S0 S ∧ Rp S t.d v ∧ GX W S ρ σ tm vm H := by
  obtain ⟨S, as, bs, hu, g⟩ := g.frz.up
  obtain ⟨v', r, b, c, h3, h0, ⟨h4, h4'⟩, h5⟩ := g.rt
  cases h3
  exact ⟨S, hu, h4', GX.pop1 ⟨S, as, bs, g⟩⟩
theorem si_e {K : PySem.W.Frag} {te : TE} {e : EM} (he : SE ct Wx te e) : SI ct Wx (iSeq K te) (iE e) := fun W S0 ρ σ tm vm H R g k => by
  refine he W S0 ρ σ tm vm H _ g ((Out.P_bnd.mp k).mono (fun t ρ1 k1 v H1 g1 => ?_) fun _ _ h => h)
  obtain ⟨its, e1, k1⟩ := P_opt k1
  obtain ⟨l, e2, rfl⟩ := Option.map_eq_some_iff.mp e1
  obtain ⟨S, hu, hr, g2⟩ := g1.frozen
  generalize t.d = d at e2 hr
  cases d <;> first | (cases e2; done) | skip
  · cases e2
    obtain ⟨a, xs, rfl, h1, h2⟩ := hr
    exact ⟨a, rfl, .inl ⟨⟨xs, .of (g2.under _ _ h1)⟩, k1 _ S H1 hu g2 (jok_list h1 h2)⟩⟩
  · cases e2
    obtain ⟨a, xs, rfl, h1, h2⟩ := hr
    exact ⟨a, rfl, .inr ⟨⟨xs, .of (g2.under _ _ h1)⟩, k1 _ S H1 hu g2 (jok_tup h1 h2)⟩⟩
def iR1 (a : EMs) : IM := fun ρ => (a ρ).bnd fun ts ρ => match dl ts with
  | [.int j] => if InR j then .ok (rangeT 0 j.toNat) ρ else .bad
  | _ => .bad
theorem si_r1 {ta : TA} {a : EMs} (ha : SEA ct Wx ta a) : SI ct Wx (iRng1 ta) (iR1 a) := fun W S0 ρ σ tm vm H R g k => by
  refine ha W S0 ρ σ tm vm H _ g ((Out.P_bnd.mp k).mono (fun ts ρ1 k1 vs H1 e1 g1 => ?_) fun _ _ h => h)
  have q := g1.tmps e1
  split at k1
  case h_2 => exact k1.elim
  rename_i j ej
  rw [ej] at q
  obtain ⟨v, rfl, q1⟩ := rpl1 q
  cases q1
  obtain ⟨h0, k1⟩ := P_ite k1
  obtain ⟨h1, h2⟩ := h0.out
  obtain ⟨S, as, bs, hu, g2⟩ := (g1.pop e1).up
  exact ⟨j, rfl, h1, h2, k1 _ S H1 hu ⟨S, as, bs, g2⟩ jok_range⟩
def iR2 (a : EMs) : IM := fun ρ => (a ρ).bnd fun ts ρ => match dl ts with
  | [.int i, .int j] => if InR i ∧ InR j then .ok (rangeT i (j - i).toNat) ρ else .bad
  | _ => .bad
theorem si_r2 {ta : TA} {a : EMs} (ha : SEA ct Wx ta a) : SI ct Wx (iRng2 ta) (iR2 a) := fun W S0 ρ σ tm vm H R g k => by
  refine ha W S0 ρ σ tm vm H _ g ((Out.P_bnd.mp k).mono (fun ts ρ1 k1 vs H1 e1 g1 => ?_) fun _ _ h => h)
  have q := g1.tmps e1
  split at k1
  case h_2 => exact k1.elim
  rename_i i j ej
  rw [ej] at q
  obtain ⟨v, w, rfl, q1, q2⟩ := rpl2 q
  cases q1
  cases q2
  obtain ⟨⟨h1, h2⟩, k1⟩ := P_ite k1
  have h1 : -(2 ^ 62) ≤ i ∧ i < 2 ^ 62 ∧ -(2 ^ 62) ≤ j ∧ j < 2 ^ 62 := ⟨h1.out.1, h1.out.2, h2.out.1, h2.out.2⟩
  obtain ⟨S, as, bs, hu, g2⟩ := (g1.pop e1).up
  exact ⟨i, j, rfl, h1, k1 _ S H1 hu ⟨S, as, bs, g2⟩ jok_range⟩
def enumT : Nat → List D → List T
  | _, [] => []
  | k, d :: l => .ot ([D.int (k : Int), d].map .sh) :: enumT (k + 1) l
theorem enumT_get : ∀ {k : Nat} {l : List D} {i : Nat}, (enumT k l)[i]? = l[i]?.map fun d => .ot ([D.int ((k + i : Nat) : Int), d].map .sh)
  | _, [], _ => by simp [enumT]
  | k, d :: l, 0 => by simp [enumT]
  | k, d :: l, i + 1 => by
    have := enumT_get (k := k + 1) (l := l) (i := i)
    simp only [enumT, List.getElem?_cons_succ, this]
    rw [show k + 1 + i = k + (i + 1) from by omega]
theorem enumT_len : ∀ {k : Nat} {l : List D}, (enumT k l).length = l.length
  | _, [] => rfl
  | k, d :: l => by simp only [enumT, List.length_cons, enumT_len]
theorem jok_enum {K : PySem.W.Frag} {a : Addr} {l : List D} {xs : List V} (h : S a = some (.lst xs)) (r : Rpl S l xs) : JOk S (Ite K a) (enumT 0 l) where
  go i H e hi := ⟨xs, xs[i]'(by simpa [r.len, enumT_len] using hi), .of (e _ _ h), List.getElem?_eq_getElem _⟩
  stop i H e hi := ⟨xs, .of (e _ _ h), by simpa [r.len, enumT_len] using hi⟩
  yld i H x H' e hi y := by
    obtain ⟨p, z, rfl, h1, e1, y⟩ := y
    have hx := y xs (.of (e _ _ h))
    have hl : i < l.length := by simpa [enumT_len] using hi
    obtain ⟨v, e2, e3⟩ := r.get (List.getElem?_eq_getElem hl)
    rw [hx] at e2
    cases e2
    refine ⟨.ot ([D.int (i : Int), l[i]].map .sh), ?_, .inr ⟨p, [D.int (i : Int), l[i]], _, rfl, rfl, h1, e1, ⟨_, _, rfl, rfl, _, _, rfl, e3, rfl⟩⟩⟩
    rw [enumT_get, List.getElem?_eq_getElem hl]
    simp
def D.lstO : D → Option (List D)
  | .lst l => some l
  | _ => none
theorem lstO_some {d : D} {l : List D} (h : d.lstO = some l) : d = .lst l := by
  cases d <;> first | (cases h; rfl) | cases h
def iEn (a : EM) : IM := fun ρ => (a ρ).bnd fun t ρ => optO (t.d.lstO.map fun l => enumT 0 l) ρ
theorem si_en {K : PySem.W.Frag} {te : TE} {e : EM} (he : SE ct Wx te e) : SI ct Wx (iEnum K (tCons te tNil)) (iEn e) := fun W S0 ρ σ tm vm H R g k => by
  refine he W S0 ρ σ tm vm H _ g ((Out.P_bnd.mp k).mono (fun t ρ1 k1 v H1 g1 => ?_) fun _ _ h => h)
  obtain ⟨its, e1, k1⟩ := P_opt k1
  obtain ⟨l, e2, rfl⟩ := Option.map_eq_some_iff.mp e1
  obtain ⟨S, hu, hr, g2⟩ := g1.frozen
  rw [lstO_some e2] at hr
  obtain ⟨a, xs, rfl, h1, h2⟩ := hr
  exact ⟨a, xs, rfl, .of (g2.under _ _ h1), k1 _ S H1 hu g2 (jok_enum h1 h2)⟩
def zipT : List D → List D → List T
  | d :: l, e :: m => .ot ([d, e].map .sh) :: zipT l m
  | _, _ => []
theorem zipT_get : ∀ {l m : List D} {i : Nat} {d e : D}, l[i]? = some d → m[i]? = some e → (zipT l m)[i]? = some (.ot ([d, e].map .sh))
  | [], _, _, _, _, h, _ => by simp at h
  | _ :: _, [], _, _, _, _, h => by simp at h
  | d :: l, e :: m, 0, _, _, h, k => by simp at h k; subst h k; rfl
  | d :: l, e :: m, i + 1, _, _, h, k => by simp at h k; simpa [zipT] using zipT_get h k
theorem zipT_len : ∀ {l m : List D}, (zipT l m).length = min l.length m.length
  | [], _ => by simp [zipT]
  | _ :: _, [] => by simp [zipT]
  | d :: l, e :: m => by simp only [zipT, List.length_cons, zipT_len]; omega
theorem jok_zip {K : PySem.W.Frag} {a b : Addr} {l m : List D} {xs ys : List V} (h : S a = some (.lst xs)) (r : Rpl S l xs) (h' : S b = some (.lst ys)) (r' : Rpl S m ys) : JOk S (Itz K a b) (zipT l m) where
  go i H e hi := by
    rw [zipT_len] at hi
    exact ⟨xs, ys, xs[i]'(by rw [r.len]; omega), ys[i]'(by rw [r'.len]; omega), .of (e _ _ h), .of (e _ _ h'), List.getElem?_eq_getElem _, List.getElem?_eq_getElem _⟩
  stop i H e hi := by
    rw [zipT_len] at hi
    exact ⟨xs, ys, .of (e _ _ h), .of (e _ _ h'), by rw [r.len, r'.len]; omega⟩
  yld i H x H' e hi y := by
    rw [zipT_len] at hi
    obtain ⟨p, z, z', rfl, h1, e1, y, y'⟩ := y
    have hx := y xs (.of (e _ _ h))
    have hx' := y' ys (.of (e _ _ h'))
    have hl : i < l.length := by omega
    have hl' : i < m.length := by omega
    obtain ⟨v, e2, e3⟩ := r.get (List.getElem?_eq_getElem hl)
    obtain ⟨v', e2', e3'⟩ := r'.get (List.getElem?_eq_getElem hl')
    rw [hx] at e2
    cases e2
    rw [hx'] at e2'
    cases e2'
    exact ⟨_, zipT_get (List.getElem?_eq_getElem hl) (List.getElem?_eq_getElem hl'), .inr ⟨p, [l[i], m[i]], _, rfl, rfl, h1, e1, ⟨_, _, rfl, e3, _, _, rfl, e3', rfl⟩⟩⟩
def iZp (a b : EM) : IM := fun ρ => (a ρ).bnd fun t ρ => (b ρ).bnd fun u ρ => optO (t.d.lstO.bind fun l => u.d.lstO.map fun m => zipT l m) ρ
theorem si_zp {K : PySem.W.Frag} {te tf : TE} {e f : EM} (he : SE ct Wx te e) (hf : SE ct Wx tf f) : SI ct Wx (iZip K (tCons te (tCons tf tNil))) (iZp e f) := fun W S0 ρ σ tm vm H R g k => by
  refine he W S0 ρ σ tm vm H _ g ((Out.P_bnd.mp k).mono (fun t ρ1 k1 v H1 g1 => ?_) fun _ _ h => h)
  obtain ⟨S, hu, hr, g2⟩ := g1.frozen
  refine hf W S ρ1 σ tm vm H1 _ g2 ((Out.P_bnd.mp k1).mono (fun u ρ2 k2 w H2 g3 => ?_) fun _ _ h => h.up hu)
  obtain ⟨its, e1, k3⟩ := P_opt k2
  obtain ⟨l, e2, e1⟩ := some_bind e1
  obtain ⟨m, e3, rfl⟩ := Option.map_eq_some_iff.mp e1
  obtain ⟨S', hu', hr', g4⟩ := g3.frozen
  rw [lstO_some e2] at hr
  rw [lstO_some e3] at hr'
  obtain ⟨a, xs, rfl, h1, h2⟩ := hr
  obtain ⟨b, ys, rfl, h3, h4⟩ := hr'
  have h1' := hu'.1 _ _ h1
  exact ⟨a, b, xs, ys, rfl, .of (g4.under _ _ h1'), .of (g4.under _ _ h3), k3 _ S' H2 (hu.trans hu') g4 (jok_zip h1' (h2.mono hu'.1) h3 h4)⟩

/-! ### for -/
theorem for_J {g : TG} {tb : TS} {D : Ends} {σ : St} {H : Hp} (jo : JOk S J its) (Pv : Nat → St → Hp → Prop) (h0 : Pv 0 σ H) (hS : ∀ i σ H, Pv i σ H → Same S H)
    (hs : ∀ i t x σ H H', its[i]? = some t → Pv i σ H → ((H' = H ∧ ∃ d, t = .sh d ∧ Rp S d x) ∨ ∃ p es vs, t = .ot (es.map .sh) ∧ x = .ref p ∧ H p = none ∧ H' = upd H p (.tup vs) ∧ Rpl S es vs) → g x σ H' fun σ2 H2 => tb { D with nx := Pv (i + 1), ct := Pv (i + 1), bk := D.nx } σ2 H2) (hd : ∀ σ H, Pv its.length σ H → D.nx σ H) :
    ∃ W : Nat → Nat → St → Hp → Prop, (∃ m, W 0 m σ H) ∧ ∀ i m σ H, W i m σ H →
      (J.stop i H ∧ D.nx σ H) ∨ (J.go i H ∧ ∃ N : St → Hp → Prop, (∀ σ' H', N σ' H' → ∃ m', m' < m ∧ W (i + 1) m' σ' H') ∧ ∀ x H', J.yld i H x H' → g x σ H' fun σ2 H2 => tb { D with nx := N, ct := N, bk := D.nx } σ2 H2) := by
  refine ⟨fun i m σ H => m = its.length - i ∧ i ≤ its.length ∧ Pv i σ H, ⟨its.length, by simp, Nat.zero_le _, h0⟩, ?_⟩
  rintro i m σ H ⟨rfl, hi, p⟩
  have e := hS i σ H p
  by_cases hlt : i < its.length
  · refine .inr ⟨jo.go i H e hlt, Pv (i + 1), fun σ' H' p' => ⟨its.length - (i + 1), by omega, rfl, hlt, p'⟩, fun x H' y => ?_⟩
    obtain ⟨t, e1, y⟩ := jo.yld i H x H' e hlt y
    exact hs i t x σ H H' e1 p y
  · have e2 : i = its.length := by omega
    subst e2
    exact .inl ⟨jo.stop _ H e (Nat.le_refl _), hd σ H p⟩
def forL (b : BM) (body : SM) : List T → SM
  | [], ρ => .nx ρ
  | t :: ts, ρ => match b t ρ with
    | none => .bad
    | some ρ => match body ρ with
      | .nx ρ => forL b body ts ρ
      | .ct ρ => forL b body ts ρ
      | .bk ρ => .nx ρ
      | r => r
def mFor (src : IM) (b : BM) (body : SM) : SM := fun ρ => (src ρ).st fun its ρ => forL b body its ρ
theorem ss_for {slots : List Nat} {wi : TI} {g : TG} {tb : TS} {src : IM} {b : BM} {body : SM} (hi : SI ct Wx wi src) (hg : SG slots g b) (hs : ∀ i ∈ slots, i ∉ pin) (hb : SS ct Wx pin tb body) : SS ct Wx pin (tFor wi g tb) (mFor src b body) := fun W S0 σ0 ρ σ H D gx p k => by
  refine hi W S0 ρ σ [] [] H _ gx ((SK.st p k).mono (fun its ρ1 k1 J S H1 hu g1 jo => ?_) fun _ _ h => h)
  refine for_J jo (fun i σ' H' => i ≤ its.length ∧ ∃ ρ', GX W S ρ' σ' [] [] H' ∧ Pin pin σ0 σ' ∧ SK ct Wx W S pin σ0 D (forL b body (its.drop i) ρ')) ⟨Nat.zero_le _, ρ1, g1, p, k1.up hu⟩ (fun i σ' H' ⟨_, ρ', g', _⟩ => g'.under) ?_ ?_
  · rintro i t x σ' H' H2 e ⟨hle, ρ', g', p', k'⟩ y
    have hlt := (List.getElem?_eq_some_iff.mp e).1
    rw [List.drop_eq_getElem_cons hlt, (List.getElem?_eq_some_iff.mp e).2] at k'
    unfold forL at k'
    split at k'
    · exact k'.elim
    rename_i ρ2 e2
    refine hg W S ρ' σ' [] [] H2 t x ρ2 (g'.item y) e2 _ fun σ2 g2 ew => ?_
    refine hb W S σ0 ρ2 σ2 H2 _ g2 (p'.wipe ew hs) ?_
    generalize body ρ2 = o at k'
    cases o with
    | bad => exact k'
    | nx ρ3 => exact fun σ3 H3 g3 p3 => ⟨hlt, ρ3, g3, p3, k'⟩
    | ct ρ3 => exact fun σ3 H3 g3 p3 => ⟨hlt, ρ3, g3, p3, k'⟩
    | bk ρ3 => exact k'
    | rt t' ρ3 => exact k'
    | ex x' ρ3 => exact k'
  · rintro σ' H' ⟨_, ρ', g', p', k'⟩
    rw [List.drop_eq_nil_of_le (Nat.le_refl _)] at k'
    exact k' σ' H' g' p'
/-! ### while -/
def whileL (c : EMb) (body : SM) : Nat → SM
  | 0, _ => .bad
  | n + 1, ρ => (c ρ).st fun k ρ => if k = true then match body ρ with
      | .nx ρ => whileL c body n ρ
      | .ct ρ => whileL c body n ρ
      | .bk ρ => .nx ρ
      | r => r else .nx ρ
theorem ss_while {tc : TT} {tb : TS} {c : EMb} {body : SM} (n : Nat) (hc : SET ct Wx tc c) (hb : SS ct Wx pin tb body) : SS ct Wx pin (tWhile tc tb) (whileL c body n) := fun W S0 σ0 ρ σ H D g p k => by
  refine ⟨fun m σ' H' => ∃ ρ', GX W S0 ρ' σ' [] [] H' ∧ Pin pin σ0 σ' ∧ SK ct Wx W S0 pin σ0 D (whileL c body m ρ'), ⟨n, ρ, g, p, k⟩, ?_⟩
  rintro m σ' H' ⟨ρ', g', p', k'⟩
  cases m with
  | zero => exact k'.elim
  | succ m =>
    refine hc W S0 ρ' σ' [] [] H' _ g' ((SK.st p' k').mono (fun b ρ1 k1 H1 g1 => ?_) fun _ _ h => h)
    cases b with
    | false => exact k1 σ' H1 g1 p'
    | true =>
      refine ⟨fun σ2 H2 => ∃ ρ2, GX W S0 ρ2 σ2 [] [] H2 ∧ Pin pin σ0 σ2 ∧ SK ct Wx W S0 pin σ0 D (whileL c body m ρ2), fun σ2 H2 h => ⟨m, Nat.lt_succ_self m, h⟩, ?_⟩
      refine hb W S0 σ0 ρ1 σ' H1 _ g1 p' ?_
      rw [if_pos rfl] at k1
      generalize body ρ1 = o at k1
      cases o with
      | bad => exact k1
      | nx ρ3 => exact fun σ3 H3 g3 p3 => ⟨ρ3, g3, p3, k1⟩
      | ct ρ3 => exact fun σ3 H3 g3 p3 => ⟨ρ3, g3, p3, k1⟩
      | bk ρ3 => exact k1
      | rt t' ρ3 => exact k1
      | ex x' ρ3 => exact k1
/-! ### comprehensions -/
abbrev NoX : XW := fun _ _ _ _ => False
def Out.nox {α : Type} : Out α → Out α
  | .ex _ _ => .bad
  | o => o
theorem P_nox {α : Type} {o : Out α} {Φ : α → Env → Prop} {Ψ Ψ' : Exn → Env → Prop} (h : o.nox.P Φ Ψ) : o.P Φ Ψ' := by
  cases o with
  | bad => exact h
  | ok a ρ => exact h
  | ex x ρ => exact h.elim
def wipeE (ρ : Env) : List Nat → Env
  | [] => ρ
  | i :: is => (wipeE ρ is).set i none
theorem Re.junk {S H : Hp} : ∀ {ρ : Env} {σ : St} {as : List Addr} {i : Nat} {o : Option V}, Re S H ρ σ as → ρ[i]? = some none → Re S H ρ (σ.set i o) as
  | [], _, _, _, _, _, e => by simp at e
  | none :: _, _, _, 0, o, ⟨o', r, h1, h2⟩, _ => by subst h1; exact ⟨o, r, rfl, h2⟩
  | some _ :: _, _, _, 0, _, _, e => by simp at e
  | none :: _, _, _, i + 1, o, ⟨o', r, h1, h2⟩, e => by subst h1; exact ⟨o', _, rfl, Re.junk h2 (by simpa using e)⟩
  | some _ :: _, _, _, i + 1, o, ⟨v, r, b, c, h1, h2, h3, h4⟩, e => by subst h1; exact ⟨v, _, b, c, rfl, h2, h3, Re.junk h4 (by simpa using e)⟩
theorem GX.junk {o : Option V} (g : GX W S0 (ρ.set i none) σ tm vm H) : GX W S0 (ρ.set i none) (σ.set i o) tm vm H := by
  obtain ⟨S, as, bs, g⟩ := g
  by_cases hi : i < ρ.length
  · exact ⟨S, as, bs, g.s0, g.sh, g.wh, g.nw, g.re.junk (by simp [hi]), g.rt, g.nd, g.fs, g.fw⟩
  · have hl := g.re.len
    rw [List.set_eq_of_length_le (l := σ) (by rw [hl]; simp; omega)]
    exact ⟨S, as, bs, g⟩
theorem GX.wipe : ∀ {slots : List Nat}, GX W S0 ρ σ tm vm H → GX W S0 (wipeE ρ slots) (L2.wipe σ slots) tm vm H
  | [], g => g
  | i :: is, g => ((GX.wipe (slots := is) g).forget i).junk
theorem wipe_wipe {σ : St} {slots : List Nat} : wipe (wipe σ slots) slots = wipe σ slots := by
  apply List.ext_getElem?
  intro j
  by_cases hj : j ∈ slots
  · by_cases hl : j < σ.length
    · rw [wipe_in hj (by simpa [wipe_length] using hl), wipe_in hj hl]
    · rw [List.getElem?_eq_none (by rw [wipe_length, wipe_length]; omega), List.getElem?_eq_none (by rw [wipe_length]; omega)]
  · rw [wipe_get hj]
def lcL (slots : List Nat) (b : BM) (tst : EMb) (elt : EM) : List T → List T → Env → Out (List T)
  | [], acc, ρ => .ok acc ρ
  | t :: ts, acc, ρ => match b t ρ with
    | none => .bad
    | some ρ => (tst ρ).bnd fun c ρ => if c = true then (elt ρ).bnd fun u ρ => if acc.length < lim then lcL slots b tst elt ts (acc ++ [u]) (wipeE ρ slots) else .bad
        else lcL slots b tst elt ts acc (wipeE ρ slots)
/-- the block's own names as they were -/
def keepE (ρ1 : Env) : List Nat → Env → Env
  | [], ρ => ρ
  | i :: is, ρ => match ρ1[i]? with
    | some (some (.sh d)) => (keepE ρ1 is ρ).set i (some (.sh d))
    | _ => (keepE ρ1 is ρ).set i none
def eLC (slots : List Nat) (src : IM) (b : BM) (tst : EMb) (elt : EM) : EM := fun ρ => (src ρ).bnd fun its ρ1 => ((lcL slots b tst elt its [] (wipeE ρ1 slots)).nox).bnd fun acc ρ2 => .ok (.ol acc) (keepE ρ1 slots (wipeE ρ2 slots))
theorem GX.keep : ∀ {slots : List Nat} {ρ1 ρ : Env}, GX W S (wipeE ρ slots) (L2.wipe σ slots) tm vm H → (∀ (i : Nat) d, ρ1[i]? = some (some (.sh d)) → ∃ v, σ[i]? = some (some v) ∧ Rp S d v) → GX W S (keepE ρ1 slots (wipeE ρ slots)) σ tm vm H := by
  intro slots ρ1 ρ g hk
  have h0 : ∀ is : List Nat, (∀ i ∈ is, i ∈ slots) → ∃ σ', GX W S (keepE ρ1 is (wipeE ρ slots)) σ' tm vm H ∧ σ'.length = σ.length ∧ ∀ j, (j ∈ is ∨ j ∉ slots) → σ'[j]? = σ[j]? := by
    intro is
    induction is with
    | nil => exact fun _ => ⟨_, g, wipe_length _ _, fun j hj => wipe_get (by rcases hj with h | h; cases h; exact h)⟩
    | cons i is ih =>
      intro hs
      obtain ⟨σ', g', hl, he⟩ := ih fun j hj => hs j (by simp [hj])
      have he2 : ∀ (o : Option V), σ[i]? = some o → ∀ j, (j ∈ i :: is ∨ j ∉ slots) → (σ'.set i o)[j]? = σ[j]? := fun o ho j hj => by
        by_cases e : i = j
        · subst e
          have : i < σ.length := (List.getElem?_eq_some_iff.mp ho).1
          rw [List.getElem?_set_self (by omega), ho]
        · rw [List.getElem?_set_ne e]
          exact he j (by rcases hj with h | h; rcases List.mem_cons.mp h with h | h; exact absurd h.symm e; exact .inl h; exact .inr h)
      unfold keepE
      split
      · rename_i d e
        obtain ⟨v, h1, h2⟩ := hk i d e
        obtain ⟨S1, as, bs, g1⟩ := g'
        exact ⟨σ'.set i (some v), (g1.pushS (h2.mono g1.s0)).putA i, by simp [hl], he2 _ h1⟩
      · cases ho : σ[i]? with
        | none =>
          refine ⟨σ', g'.forget i, hl, fun j hj => ?_⟩
          by_cases e : i = j
          · subst e
            rw [ho, List.getElem?_eq_none]
            rw [List.getElem?_eq_none_iff] at ho
            omega
          · exact he j (by rcases hj with h | h; rcases List.mem_cons.mp h with h | h; exact absurd h.symm e; exact .inl h; exact .inr h)
        | some o => exact ⟨σ'.set i o, (g'.forget i).junk, by simp [hl], he2 o ho⟩
  obtain ⟨σ', g', hl, he⟩ := h0 slots fun _ h => h
  have : σ' = σ := List.ext_getElem? fun j => by
    by_cases hj : j ∈ slots
    · exact he j (.inl hj)
    · exact he j (.inr hj)
  rw [this] at g'
  exact g'
theorem lc_J {g : TG} {tt : TT} {te : TE} {slots : List Nat} {σ : St} {H1 : Hp} {D : Addr} {Qd : Hp → Prop} (jo : JOk S J its) (Pv : Nat → Hp → Prop) (h0 : Pv 0 (upd H1 D (.lst []))) (hS : ∀ i H, Pv i H → Same S H)
    (hs : ∀ i t x H H', its[i]? = some t → Pv i H → ((H' = H ∧ ∃ d, t = .sh d ∧ Rp S d x) ∨ ∃ p es vs, t = .ot (es.map .sh) ∧ x = .ref p ∧ H p = none ∧ H' = upd H p (.tup vs) ∧ Rpl S es vs) → g x (wipe σ slots) H' fun σ2 H2 => wipe σ2 slots = wipe σ slots ∧ tt σ2 H2 fun b H3 =>
      if b = true then te σ2 H3 fun y H4 => ∃ acc, H4 D = some (.lst acc) ∧ acc.length < sizeLine ∧ Pv (i + 1) (upd H4 D (.lst (acc ++ [y]))) else Pv (i + 1) H3) (hd : ∀ H, Pv its.length H → Qd H) :
    ∃ W : Nat → Nat → Hp → Prop, (∃ m, W 0 m (upd H1 D (.lst []))) ∧ ∀ i m H, W i m H →
      (J.stop i H ∧ Qd H) ∨ (J.go i H ∧ ∃ Nx : Hp → Prop, (∀ H', Nx H' → ∃ m', m' < m ∧ W (i + 1) m' H') ∧ ∀ x H', J.yld i H x H' → g x (wipe σ slots) H' fun σ2 H2 => wipe σ2 slots = wipe σ slots ∧ tt σ2 H2 fun b H3 =>
        if b = true then te σ2 H3 fun y H4 => ∃ acc, H4 D = some (.lst acc) ∧ acc.length < sizeLine ∧ Nx (upd H4 D (.lst (acc ++ [y]))) else Nx H3) := by
  refine ⟨fun i m H => m = its.length - i ∧ i ≤ its.length ∧ Pv i H, ⟨its.length, by simp, Nat.zero_le _, h0⟩, ?_⟩
  rintro i m H ⟨rfl, hi, p⟩
  have e := hS i H p
  by_cases hlt : i < its.length
  · refine .inr ⟨jo.go i H e hlt, Pv (i + 1), fun H' p' => ⟨its.length - (i + 1), by omega, rfl, hlt, p'⟩, fun x H' y => ?_⟩
    obtain ⟨t, e1, y⟩ := jo.yld i H x H' e hlt y
    exact hs i t x H H' e1 p y
  · have e2 : i = its.length := by omega
    subst e2
    exact .inl ⟨jo.stop _ H e (Nat.le_refl _), hd H p⟩
theorem se_lc {slots : List Nat} {wi : TI} {g : TG} {tt : TT} {te : TE} {src : IM} {b : BM} {tst : EMb} {elt : EM} (hi : SI ct Wx wi src) (hg : SG slots g b) (ht : SET ct NoX tt tst) (he : SE ct NoX te elt) : SE ct Wx (tLc wi g tt te slots) (eLC slots src b tst elt) := fun W S0 ρ σ tm vm H Q gx k => by
  refine hi W S0 ρ σ tm vm H _ gx ((Out.P_bnd.mp k).mono (fun its ρ1 k1 J S H1 hu g1 jo => ?_) fun _ _ h => h)
  have k2 := P_nox (Ψ' := fun _ _ => False) (Out.P_bnd.mp k1)
  intro D hD
  obtain ⟨S1, as, bs, hu1, g1⟩ := g1.up
  have hk : ∀ (i : Nat) d, ρ1[i]? = some (some (.sh d)) → ∃ v, σ[i]? = some (some v) ∧ Rp S1 d v := fun i d e => by
    obtain ⟨v, b, c, d', e1, _, ⟨_, e3⟩, _⟩ := g1.re.at e
    exact ⟨v, e1, e3⟩
  have g2 : GX W S1 (wipeE ρ1 slots) (wipe σ slots) (.ol [] :: tm) (.ref D :: vm) (upd H1 D (.lst [])) := GX.wipe (GX.newL (ts := []) (vs := []) ⟨S1, as, bs, g1⟩ rfl hD)
  refine lc_J (S := S) jo (fun i H' => i ≤ its.length ∧ ∃ ρ' acc, GX W S1 ρ' (wipe σ slots) (.ol acc :: tm) (.ref D :: vm) H' ∧ (lcL slots b tst elt (its.drop i) acc ρ').P (fun acc ρ2 => ∀ H', GX W S1 (wipeE ρ2 slots) (wipe σ slots) (.ol acc :: tm) (.ref D :: vm) H' → Q (.ref D) H') (fun _ _ => False)) ?_ ?_ ?_ ?_
  · refine ⟨Nat.zero_le _, _, [], g2, k2.mono (fun acc ρ2 k3 H' g3 => ?_) fun _ _ h => h⟩
    exact k3 (.ref D) H' ((GX.keep g3 hk).join (hu.trans hu1))
  · exact fun i H' ⟨_, ρ', acc, g', _⟩ a o h => g'.under a o (hu1.1 a o h)
  · rintro i t x H' H2 e ⟨hle, ρ', acc, g', k'⟩ y
    have hlt := (List.getElem?_eq_some_iff.mp e).1
    rw [List.drop_eq_getElem_cons hlt, (List.getElem?_eq_some_iff.mp e).2] at k'
    unfold lcL at k'
    split at k'
    · exact k'.elim
    rename_i ρ2 e2
    have y' : ((H2 = H' ∧ ∃ d, t = .sh d ∧ Rp S1 d x) ∨ ∃ p es vs, t = .ot (es.map .sh) ∧ x = .ref p ∧ H' p = none ∧ H2 = upd H' p (.tup vs) ∧ Rpl S1 es vs) := by
      rcases y with ⟨h1, d, h2, h3⟩ | ⟨p, es, vs, h1, h2, h3, h4, h5⟩
      · exact .inl ⟨h1, d, h2, h3.mono hu1.1⟩
      · exact .inr ⟨p, es, vs, h1, h2, h3, h4, h5.mono hu1.1⟩
    refine hg W S1 ρ' _ _ _ H2 t x ρ2 (g'.item y') e2 _ fun σ2 g2 ew => ?_
    rw [wipe_wipe] at ew
    refine ⟨ew, ht W S1 ρ2 σ2 _ _ H2 _ g2 ((Out.P_bnd.mp k').mono (fun c ρ3 k3 H3 g3 => ?_) fun _ _ h => h.elim)⟩
    cases c with
    | false =>
      refine ⟨hlt, wipeE ρ3 slots, acc, ?_, k3⟩
      have := GX.wipe (slots := slots) g3
      rw [ew] at this
      exact this
    | true =>
      rw [if_pos rfl] at k3
      refine he W S1 ρ3 σ2 _ _ H3 _ g3 ((Out.P_bnd.mp k3).mono (fun u ρ4 k4 yv H4 g4 => ?_) fun _ _ h => h.elim)
      obtain ⟨hz, k4⟩ := P_ite k4
      have g5 : GX W S1 ρ4 σ2 (.ol acc :: u :: tm) (.ref D :: yv :: vm) H4 := GX.rot (ts := [u]) (vs := [yv]) g4 rfl
      obtain ⟨a, xs, e5, h1, h2, mk⟩ := g5.mutL
      cases e5
      refine ⟨xs, h1, lim_lt (by omega), hlt, wipeE ρ4 slots, acc ++ [u], ?_, k4⟩
      have g6 := mk (acc ++ [u]) tm (xs ++ [yv]) vm (fun S H b c hb hc => by
        obtain ⟨v', r, c1, c2, h3, rfl, h4, h5⟩ := hc
        cases h3
        have h6 : Rtl S H [u] [yv] c1 := ⟨yv, [], c1, [], rfl, by simp, h4, rfl, rfl⟩
        exact ⟨b ++ c1, c2, hb.append h6, h5, by grind, by grind⟩)
      have := GX.wipe (slots := slots) g6
      rw [ew] at this
      exact this
  · rintro H' ⟨_, ρ', acc, g', k'⟩
    rw [List.drop_eq_nil_of_le (Nat.le_refl _)] at k'
    refine k' H' ?_
    have := GX.wipe (slots := slots) g'
    rw [wipe_wipe] at this
    exact this
def tAll : EMb := fun ρ => .ok true ρ
theorem set_yes : SET ct Wx tYes tAll := fun W S0 ρ σ tm vm H Q g k => k H g

/-! ### a def by its body -/
def T.isSh : T → Bool
  | .sh _ => true
  | _ => false
def mFun (n nn : Nat) (body : SM) : FM := fun ts => if ts.length = n ∧ ts.all T.isSh = true then match body (ts.map some ++ List.replicate (nn - n) none) with
  | .nx _ => .ok (.sh .non) ts
  | .rt t _ => .ok t ts
  | .ex x _ => .ex x
  | _ => .bad else .bad
/-- the first argument is the def's to change -/
def mFunI (n nn : Nat) (body : SM) : FM := fun ts => if ts.length = n ∧ ts.tail.all T.isSh = true then match body (ts.map some ++ List.replicate (nn - n) none) with
  | .nx ρ => match ρ[0]? with
    | some (some t0) => .ok (.sh .non) (t0 :: ts.tail)
    | _ => .bad
  | .rt t ρ => match ρ[0]? with
    | some (some t0) => .ok t (t0 :: ts.tail)
    | _ => .bad
  | .ex x _ => .ex x
  | _ => .bad else .bad
theorem re_start {S H : Hp} {k : Nat} : ∀ {ts : List T} {vs : List V} {as : List Addr}, Rtl S H ts vs as → Re S H (ts.map some ++ List.replicate k none) (vs.map some ++ List.replicate k none) as
  | [], _, _, ⟨h1, h2⟩ => by
    subst h1 h2
    induction k with
    | zero => exact ⟨rfl, rfl⟩
    | succ k ih => exact ⟨none, _, rfl, ih⟩
  | t :: ts, _, _, ⟨v, r, b, c, h1, h2, h3, h4⟩ => by subst h1; exact ⟨v, _, b, c, rfl, h2, h3, re_start h4⟩
theorem GX.start {N : List Str} (g : GX W S0 [] [] ts vs H) (hn : vs.length = ts.length) : GX W S0 (ts.map some ++ List.replicate (N.length - ts.length) none) (L2.start N vs) [] [] H := by
  obtain ⟨S, as, bs, g⟩ := g
  have ea : as = [] := g.re.2
  subst ea
  have nd := g.nd
  have fs := g.fs
  have fw := g.fw
  refine ⟨S, bs, [], g.s0, g.sh, g.wh, g.nw, ?_, ⟨rfl, rfl⟩, by grind, by grind, by grind⟩
  have := re_start (k := N.length - ts.length) g.rt
  unfold L2.start
  rw [hn]; exact this
theorem GX.noEnv (g : GX W S0 ρ σ tm vm H) : GX W S0 [] [] tm vm H := by
  obtain ⟨S, as, bs, g⟩ := g
  have nd := g.nd
  have fs := g.fs
  have fw := g.fw
  exact ⟨S, [], bs, g.s0, g.sh, g.wh, g.nw, ⟨rfl, rfl⟩, g.rt, by grind, by grind, by grind⟩
theorem G.endS {ds : List D} {xs : List V} (g : G W S0 S H ρ σ tm vm as bs) (h : Rpl S ds xs) : GX W S0 ρ σ (tm ++ ds.map .sh) (vm ++ xs) H := by
  have hr := (g.rt).append (h.toRtl (H := H))
  rw [List.append_nil] at hr
  exact ⟨S, as, bs, g.s0, g.sh, g.wh, g.nw, g.re, hr, g.nd, g.fs, g.fw⟩
theorem allSh : ∀ {ts : List T}, ts.all T.isSh = true → ∃ ds : List D, ts = ds.map .sh
  | [], _ => ⟨[], rfl⟩
  | t :: ts, h => by
    simp only [List.all_cons, Bool.and_eq_true] at h
    obtain ⟨ds, rfl⟩ := allSh h.2
    cases t <;> first | (simp [T.isSh] at h; done) | skip
    exact ⟨_ :: ds, rfl⟩
theorem Rtl.toRpl' {S H : Hp} : ∀ {ds : List D} {vs : List V} {as : List Addr}, Rtl S H (ds.map .sh) vs as → Rpl S ds vs ∧ as = []
  | [], _, _, h => h
  | d :: ds, _, _, ⟨v, r, b, c, h1, h2, ⟨h3, h5⟩, h4⟩ => by
    subst h1 h2 h3
    have := Rtl.toRpl' h4
    exact ⟨⟨v, r, rfl, h5, this.1⟩, by simp [this.2]⟩
section
open PySem.Spec PyProof.Rows
variable {P : Program} {w : World} {K : PySem.W.Frag} {mg : Str → Option Value} {base : Heap}
theorem fn_mk {x qual : Str} {st : Stmt} {f : Addr} {fd : FuncData} {N ps : List Str} {k : Nat} {m : SM} (F : Fun K x qual st f fd) (Sc : FnScope N ps (defScope st))
    (hbody : ∀ (cdv : Value) (A : Around) (outer : List PySem.Env) (s : Shared) (H : Hp) (E : XK), Room k (A.deeper (envOfC qual (defScope st) s.heap.objs.size f cdv)) →
      ∃ t, PSs (cxOf (L2.CX P w) P w K mg base N qual (defScope st) f cdv A outer s H E) (defBody st) t ∧ SS ct (fun c d _ H => E c d H) [] t m) : FnOk P w K mg base (L2.CX P w) (k + 1) f fd ps (spM ct ps.length (mFun ps.length N.length m)) := by
  refine F.okX Sc (fun vs H Q E h => h.1) fun cdv A outer s H vs Q E hr h => ?_
  obtain ⟨t, ht, hs⟩ := hbody cdv A outer s H E hr
  refine ⟨t, ht, ?_⟩
  obtain ⟨hl, ts, W, S, g, k1⟩ := h
  unfold mFun at k1
  by_cases hc : ts.length = ps.length ∧ ts.all T.isSh = true
  case neg => rw [if_neg hc] at k1; exact k1.elim
  rw [if_pos hc] at k1
  obtain ⟨S1, as, bs, hu, g1⟩ := g.up
  obtain ⟨ds, rfl⟩ := allSh hc.2
  obtain ⟨hr1, rfl⟩ := g1.rt.toRpl'
  have g2 := GX.start (N := N) ⟨S1, as, [], g1⟩ (by rw [hl, hc.1])
  rw [hc.1] at g2
  refine hs W S1 (start N vs) _ _ H _ g2 Pin.refl ?_
  have fin : ∀ (t : T) (v : V) (ρ : Env) (σ : L2.St) (H' : Hp), GX W S1 ρ σ [t] [v] H' → GX W S [] [] (t :: ds.map .sh) (v :: vs) H' := fun t v ρ σ H' g3 => by
    obtain ⟨S2, as2, bs2, g4⟩ := g3.noEnv
    exact (g4.endS (hr1.mono g4.s0)).join hu
  generalize m _ = o at k1 ⊢
  cases o with
  | bad => exact k1
  | nx ρ => exact fun σ' H' g3 _ => k1.2 .non H' (fin (.sh .non) .non ρ σ' H' (g3.pushC (S := H') (d := .non) (v := .non) rfl rfl))
  | rt t ρ => exact fun v σ' H' g3 _ => k1.2 v H' (fin t v ρ σ' H' g3)
  | bk ρ => exact k1.elim
  | ct ρ => exact k1.elim
  | ex x ρ => exact fun c d σ' H' g3 _ hx => k1 c d H' (g3.noEnv.join hu) hx
theorem fn_mkI {x qual : Str} {st : Stmt} {f : Addr} {fd : FuncData} {N ps : List Str} {k : Nat} {m : SM} (F : Fun K x qual st f fd) (Sc : FnScope N ps (defScope st)) (hps : 0 < ps.length)
    (hbody : ∀ (cdv : Value) (A : Around) (outer : List PySem.Env) (s : Shared) (H : Hp) (E : XK), Room k (A.deeper (envOfC qual (defScope st) s.heap.objs.size f cdv)) →
      ∃ t, PSs (cxOf (L2.CX P w) P w K mg base N qual (defScope st) f cdv A outer s H E) (defBody st) t ∧ SS ct (fun c d _ H => E c d H) [0] t m) : FnOk P w K mg base (L2.CX P w) (k + 1) f fd ps (spM ct ps.length (mFunI ps.length N.length m)) := by
  refine F.okX Sc (fun vs H Q E h => h.1) fun cdv A outer s H vs Q E hr h => ?_
  obtain ⟨t, ht, hs⟩ := hbody cdv A outer s H E hr
  refine ⟨t, ht, ?_⟩
  obtain ⟨hl, ts, W, S, g, k1⟩ := h
  unfold mFunI at k1
  by_cases hc : ts.length = ps.length ∧ ts.tail.all T.isSh = true
  case neg => rw [if_neg hc] at k1; exact k1.elim
  rw [if_pos hc] at k1
  match ts, vs, hl, hc with
  | [], _, _, hc => simp at hc; omega
  | _ :: _, [], hl, _ => simp at hl; omega
  | t0 :: ts, v0 :: vs, hl, hc =>
  obtain ⟨ds, hds⟩ := allSh hc.2
  simp only [List.tail_cons] at hds
  subst hds
  obtain ⟨S1, as, bs, hu, g1⟩ := g.up
  have hr1 : Rpl S1 ds vs := by
    obtain ⟨v', r, b, c, h3, _, _, h5⟩ := g1.rt
    cases h3
    exact h5.toRpl'.1
  have g2 := GX.start (N := N) ⟨S1, as, bs, g1⟩ (by rw [hl, hc.1])
  rw [hc.1] at g2
  refine hs W S1 (start N (v0 :: vs)) _ _ H _ g2 Pin.refl ?_
  have hst : (start N (v0 :: vs))[0]? = some (some v0) := rfl
  have fin : ∀ (t : T) (v : V) (ρ : Env) (σ : L2.St) (H' : Hp) (t1 : T), ρ[0]? = some (some t1) → Pin [0] (start N (v0 :: vs)) σ → GX W S1 ρ σ [t] [v] H' → GX W S [] [] (t :: t1 :: ds.map .sh) (v :: v0 :: vs) H' := fun t v ρ σ H' t1 e p g3 => by
    obtain ⟨v1, e1, g4⟩ := g3.take e
    have e2 := p 0 (by simp)
    rw [hst, e1] at e2
    cases e2
    have g5 := GX.rot (ts := [t1]) (vs := [v0]) g4.noEnv rfl
    obtain ⟨S2, as2, bs2, g6⟩ := g5
    exact (g6.endS (hr1.mono g6.s0)).join hu
  generalize m _ = o at k1 ⊢
  cases o with
  | bad => exact k1
  | nx ρ =>
    simp only at k1
    split at k1
    · rename_i t1 e
      exact fun σ' H' g3 p => k1.2 .non H' (fin (.sh .non) .non ρ σ' H' t1 e p (g3.pushC (S := H') (d := .non) (v := .non) rfl rfl))
    · exact k1.elim
  | rt t ρ =>
    simp only at k1
    split at k1
    · rename_i t1 e
      exact fun v σ' H' g3 p => k1.2 v H' (fin t v ρ σ' H' t1 e p g3)
    · exact k1.elim
  | bk ρ => exact k1.elim
  | ct ρ => exact k1.elim
  | ex x ρ => exact fun c d σ' H' g3 _ hx => k1 c d H' (g3.noEnv.join hu) hx
end
end
end Z

namespace Z
noncomputable section
open PySem L2
variable {ct : CT} {Wx : XW} {W S0 S S1 H H' : Hp} {ρ ρ' : Env} {σ σ0 : St} {t u : T} {ts us tm its : List T} {v w : V} {vs ws vm : List V} {as bs : List Addr} {i : Nat} {d : D} {pin : List Nat} {D0 : Ends} {J : It}
/-! ### list(range(..)) -/
theorem rgV_rp {S : Hp} {a b : Int} : Rpl S ((List.range (b - a).toNat).map fun i : Nat => D.int (a + (i : Int))) (rgV a b) := by
  unfold rgV
  generalize List.range (b - a).toNat = l
  induction l with
  | nil => rfl
  | cons x l ih => exact ⟨_, _, rfl, rfl, ih⟩
def rgOk (a b : Int) : Bool := decide (InR a ∧ InR b ∧ (b - a).toNat ≤ lim)
theorem rgOk_of {a b : Int} (h0 : -1000000 ≤ a) (h1 : a ≤ 1000000) (h2 : -1000000 ≤ b) (h3 : b ≤ a + 1000000) : rgOk a b = true := by
  refine decide_eq_true ⟨InR.of (by omega) (by omega), InR.of (by omega) (by omega), ?_⟩
  unfold lim
  omega
theorem rgOk_ok {a b : Int} (h : rgOk a b = true) : RgOk a b := by
  have := of_decide_eq_true h
  exact ⟨this.1.out.1, this.1.out.2, this.2.1.out.1, this.2.1.out.2, Nat.le_trans this.2.2 (by decide)⟩
def eRg1 (p : PM) : EM := fun ρ => match p ρ with
  | some (.int n) => if rgOk 0 n = true then .ok (.ol (rangeT 0 n.toNat)) ρ else .bad
  | _ => .bad
theorem se_rg1 {te : TE} {p : PM} (h : SP te p) : SE ct Wx (tLstRg (tRg1 te)) (eRg1 p) := fun W S0 ρ σ tm vm H Q g k => by
  unfold eRg1 at k
  split at k
  case h_2 => exact k.elim
  rename_i n e
  obtain ⟨hz, k⟩ := P_ite k
  refine h ρ σ H g.rv _ e _ fun v H1 es r => ⟨n, r, rgOk_ok hz, fun q hq => k _ _ ?_⟩
  obtain ⟨S, as, bs, g1⟩ := g.ext es
  have h1 := g1.pushSs (rgV_rp (S := S) (a := 0) (b := n))
  rw [show n - 0 = n from by omega, List.map_map] at h1
  exact h1.newL (by simp [rgV_length]) hq
def eRg2 (p q : PM) : EM := fun ρ => match p ρ, q ρ with
  | some (.int m), some (.int n) => if rgOk m n = true then .ok (.ol (rangeT m (n - m).toNat)) ρ else .bad
  | _, _ => .bad
theorem se_rg2 {te tf : TE} {p q : PM} (h : SP te p) (h' : SP tf q) : SE ct Wx (tLstRg (tRg2 te tf)) (eRg2 p q) := fun W S0 ρ σ tm vm H Q g k => by
  unfold eRg2 at k
  split at k
  case h_2 => exact k.elim
  rename_i m n e e'
  obtain ⟨hz, k⟩ := P_ite k
  refine h ρ σ H g.rv _ e _ fun v H1 es r => h' ρ σ H1 (g.ext es).rv _ e' _ fun w H2 es' r' => ⟨m, n, r, r', rgOk_ok hz, fun q hq => k _ _ ?_⟩
  obtain ⟨S, as, bs, g1⟩ := (g.ext es).ext es'
  have h1 := g1.pushSs (rgV_rp (S := S) (a := m) (b := n))
  rw [List.map_map] at h1
  exact h1.newL (by simp [rgV_length]) hq
/-! ### a list some times over -/
def repT (t u : T) : Option T := t.shs.bind fun l => u.d.intO.bind fun k => if l.length * k.toNat ≤ lim ∧ InR k then some (.ol ((List.replicate k.toNat (l.map .sh)).flatten)) else none
theorem Rpl.rep {S : Hp} {l : List D} {xs : List V} (h : Rpl S l xs) : ∀ n : Nat, Rpl S (List.replicate n l).flatten (List.replicate n xs).flatten
  | 0 => rfl
  | n + 1 => by
    simp only [List.replicate_succ, List.flatten_cons]
    exact h.append (h.rep n)
theorem map_rep {α β : Type} (f : α → β) (l : List α) (n : Nat) : ((List.replicate n l).flatten).map f = (List.replicate n (l.map f)).flatten := by
  simp [List.map_flatten]
theorem oe_rep : OpE rRep repT := fun W S0 ρ σ tm vm H t u v w z Q g e k => by
  obtain ⟨l, e1, e⟩ := some_bind e
  obtain ⟨n, e2, e⟩ := some_bind e
  obtain ⟨⟨hz, hz0⟩, e⟩ := ite_some e
  have hz1 := hz0.out.1
  have hz2 := hz0.out.2
  cases e
  have q := g.tmp
  rw [intO_int e2] at q
  cases q
  obtain ⟨S, as, bs, g1⟩ := g.pop1
  obtain ⟨v', r, b, c, h3, _, h4, h5⟩ := g1.rt
  cases h3
  obtain ⟨a, xs, rfl, h6, h7⟩ := h4.shs g1.sh e1
  refine ⟨a, n, xs, rfl, rfl, h6, by omega, by omega, lim_le (by rw [h7.len]; exact hz), fun p hp => k _ _ ?_⟩
  have hg : G W S0 S H ρ σ tm vm as c := ⟨g1.s0, g1.sh, g1.wh, g1.nw, g1.re, h5, by have := g1.nd; grind, by have := g1.fs; grind, by have := g1.fw; grind⟩
  have h8 := hg.pushSs (h7.rep n.toNat)
  rw [map_rep] at h8
  refine h8.newL ?_ hp
  rw [← map_rep, List.length_map, (h7.rep _).len]
def oMax2 : D → D → Option D := oI0 fun i j => .int (if j > i then j else i)
def oMin2 : D → D → Option D := oI0 fun i j => .int (if j < i then j else i)
def rUMul : R2 := rOr rMulI rRep
section
variable {X : Cx}
theorem u_mul : OpR X (binaryOp .Mult) rUMul := (op_mul.or op_mulW).or op_rep
end
def oMul : D → D → Option D := oI smallM fun i j => .int (i * j)
theorem os_mul : OpS rUMul oMul := fun H dx dy x y d hx hy e Q q => .inl (os_mulI H dx dy x y d hx hy e Q q)
theorem oe_repU : OpE rUMul repT := fun W S0 ρ σ tm vm H t u v w z Q g e k => .inr (oe_rep W S0 ρ σ tm vm H t u v w z Q g e k)
/-! ### -a, truth, in -/
def oNeg : D → Option D
  | .int i => some (.int (-i))
  | _ => none
theorem us_neg : UnS (rU fun i => .int (-i)) oNeg := fun H dx x d hx e Q q => by
  cases dx <;> first | (cases e; done) | skip
  cases e
  cases hx
  exact ⟨_, rfl, q _ H (fun _ _ h => h) rfl⟩
def eUn (o : D → Option D) (a : EM) : EM := fun ρ => (a ρ).bnd fun t ρ => optO (scalO (o t.d)) ρ
theorem se_un {r : V → Hp → VK → Prop} {o : D → Option D} {ta : TE} {a : EM} (hr : UnS r o) (ha : SE ct Wx ta a) : SE ct Wx (tUn r ta) (eUn o a) := fun W S0 ρ σ tm vm H Q g k => by
  refine ha W S0 ρ σ tm vm H _ g ((Out.P_bnd.mp k).mono (fun t ρ1 k1 v H1 g1 => ?_) fun _ _ h => h)
  obtain ⟨z, e, k1⟩ := P_opt k1
  obtain ⟨d, e1, e2, rfl⟩ := scalO_some e
  exact hr H1 t.d v d g1.tmp e1 Q fun w H2 es r => k1 w H2 ((g1.pop1.ext es).pushC e2 r)
def D.truth : D → Option Bool
  | .non => some false
  | .bl b => some b
  | .int i => some (i != 0)
  | .str s => if s.length ≤ lim then some ((s.length : Int) != 0) else none
  | .lst l => some (!l.isEmpty)
  | .tup l => some (!l.isEmpty)
  | .dic ks _ => some (!ks.isEmpty)
theorem truth_V {K : PySem.W.Frag} {v : V} {b : Bool} (h : Rp H d v) (e : d.truth = some b) : TruV K v H b := by
  have hi : ∀ (l : List D) (vs : List V), Rpl H l vs → l.isEmpty = vs.isEmpty := fun l vs r => by
    have := r.len
    cases l <;> cases vs <;> first | rfl | (simp at this)
  cases d with
  | non => cases h; cases e; rfl
  | bl b => cases h; cases e; rfl
  | int b => cases h; cases e; rfl
  | str s => cases h; obtain ⟨hz, e⟩ := ite_some e; cases e; exact ⟨lim_le hz, rfl⟩
  | lst l => cases e; obtain ⟨a, vs, rfl, h1, h2⟩ := h; exact .inl ⟨vs, .of h1, by rw [hi l vs h2]⟩
  | tup l => cases e; obtain ⟨a, vs, rfl, h1, h2⟩ := h; exact .inr (.inl ⟨vs, .of h1, by rw [hi l vs h2]⟩)
  | dic ks l =>
    cases e
    obtain ⟨a, vs, rfl, h1, hk, h2⟩ := h
    refine .inr (.inr ⟨_, h1, ?_⟩)
    have := h2.len
    cases ks <;> cases vs <;> cases l <;> simp_all
def qTru (a : PM) : TM := fun ρ => (a ρ).bind D.truth
theorem st_tru {K : PySem.W.Frag} {ta : TE} {a : PM} (ha : SP ta a) : SPT (fun σ H Q => ta σ H fun x H' => ∃ k, TruV K x H' k ∧ Q k H') (qTru a) := fun ρ σ H g b h Q q => by
  obtain ⟨x, h1, h2⟩ := some_bind h
  exact ha ρ σ H g x h1 _ fun v H1 e1 r1 => ⟨b, truth_V r1 h2, q H1 e1⟩
def eTru (a : EM) : EMb := fun ρ => (a ρ).bnd fun t ρ => optO (t.d.truth) ρ
theorem set_tru {K : PySem.W.Frag} {ta : TE} {a : EM} (ha : SE ct Wx ta a) : SET ct Wx (fun σ H Q => ta σ H fun x H' => ∃ k, TruV K x H' k ∧ Q k H') (eTru a) := fun W S0 ρ σ tm vm H Q g k => by
  refine ha W S0 ρ σ tm vm H _ g ((Out.P_bnd.mp k).mono (fun t ρ1 k1 v H1 g1 => ?_) fun _ _ h => h)
  obtain ⟨b, e, k1⟩ := P_opt k1
  exact ⟨b, truth_V g1.tmp e, k1 H1 g1.pop1⟩
def flatD : D → Bool
  | .lst _ | .tup _ | .dic _ _ => false
  | _ => true
def eqD : D → D → Bool
  | .non, .non => true
  | .bl a, .bl b => a == b
  | .bl a, .int b => (if a then 1 else 0) == b
  | .int a, .bl b => a == (if b then 1 else 0)
  | .int a, .int b => a == b
  | .str a, .str b => a == b
  | _, _ => false
theorem flatD_V {v : V} (h : Rp H d v) (e : flatD d = true) : flatV v = true := by
  cases d <;> first | (cases h; rfl) | (simp [flatD] at e)
theorem eqD_V {d e : D} {v w : V} (h : Rp H d v) (h' : Rp H e w) (k : flatD d = true) (k' : flatD e = true) : eqV v w = eqD d e := by
  cases d <;> cases e <;> first | (simp [flatD] at k k'; done) | (cases h; cases h'; rfl)
theorem inD_V : ∀ {l : List D} {vs : List V} {x : D} {v : V}, Rpl H l vs → Rp H x v → flatD x = true → l.all flatD = true → vs.all flatV = true ∧ inV v vs = l.any fun y => eqD y x
  | [], _, _, _, h, _, _, _ => by rw [show _ = [] from h]; exact ⟨rfl, rfl⟩
  | d :: l, _, x, v, ⟨w, r, h1, h2, h3⟩, hx, kx, k => by
    subst h1
    simp only [List.all_cons, Bool.and_eq_true] at k
    have ih := inD_V h3 hx kx k.2
    refine ⟨by simp only [List.all_cons, Bool.and_eq_true]; exact ⟨flatD_V h2 k.1, ih.1⟩, ?_⟩
    have e2 := ih.2
    unfold inV at e2 ⊢
    simp only [List.any_cons]
    rw [e2, eqD_V h2 hx k.1 kx]
def oInB (neg : Bool) : D → D → Option D := fun x y => match y.seq with
  | some l => if flatD x = true ∧ l.all flatD = true then some (.bl (if neg then !(l.any fun y => eqD y x) else l.any fun y => eqD y x)) else none
  | none => none
theorem os_in {K : PySem.W.Frag} {neg : Bool} : OpS (rIn K neg) (oInB neg) := fun H dx dy x y d hx hy e Q q => by
  unfold oInB at e
  split at e
  case h_2 => cases e
  rename_i l e1
  obtain ⟨⟨k1, k2⟩, e⟩ := ite_some e
  cases e
  cases dy <;> first | (cases e1; done) | skip
  · cases e1
    obtain ⟨a, vs, rfl, h1, h2⟩ := hy
    have := inD_V h2 hx k1 k2
    refine ⟨a, vs, rfl, .inl (.of h1), flatD_V hx k1, this.1, ?_⟩
    rw [this.2]
    exact q _ H (fun _ _ h => h) rfl
  · cases e1
    obtain ⟨a, vs, rfl, h1, h2⟩ := hy
    have := inD_V h2 hx k1 k2
    refine ⟨a, vs, rfl, .inr (.of h1), flatD_V hx k1, this.1, ?_⟩
    rw [this.2]
    exact q _ H (fun _ _ h => h) rfl
def rIsN : R2 := fun x y H Q => y = .non ∧ Q (.bl (decide (x = .non))) H
def rNotN : R2 := fun x y H Q => y = .non ∧ Q (.bl (!decide (x = .non))) H
def D.isNon : D → Bool
  | .non => true
  | _ => false
theorem isNon_V {v : V} (h : Rp H d v) : decide (v = .non) = d.isNon := by
  cases d with
  | non => cases h; rfl
  | bl b => cases h; rfl
  | int b => cases h; rfl
  | str b => cases h; rfl
  | lst l => obtain ⟨a, vs, rfl, _⟩ := h; rfl
  | tup l => obtain ⟨a, vs, rfl, _⟩ := h; rfl
  | dic ks l => obtain ⟨a, vs, rfl, _⟩ := h; rfl
def oIsN (neg : Bool) : D → D → Option D := fun x y => match y with
  | .non => some (.bl (if neg then !x.isNon else x.isNon))
  | _ => none
theorem os_isN : OpS rIsN (oIsN false) := fun H dx dy x y d hx hy e Q q => by
  cases dy <;> first | (cases e; done) | skip
  cases e
  cases hy
  refine ⟨rfl, ?_⟩
  rw [isNon_V hx]
  exact q _ H (fun _ _ h => h) rfl
theorem os_notN : OpS rNotN (oIsN true) := fun H dx dy x y d hx hy e Q q => by
  cases dy <;> first | (cases e; done) | skip
  cases e
  cases hy
  refine ⟨rfl, ?_⟩
  rw [isNon_V hx]
  exact q _ H (fun _ _ h => h) rfl
/-- chains over expressions with effects are not needed: a < b < c is read -/
def eChain (m : PM) : EM := eP m

/-! ### isinstance(x, (T1, T2)) -/
def tys : List Ty → TA
  | [] => tNil
  | t :: l => tCons (tC (.ty t.name)) (tys l)
theorem tys_run : ∀ (l : List Ty) (σ : St) (H : Hp) (Q : List V → Hp → Prop), Q (l.map fun t => V.ty t.name) H → tys l σ H Q
  | [], σ, H, Q, h => h
  | t :: l, σ, H, Q, h => tys_run l σ H _ h
def pIsiM (l : List Ty) (a : PM) : PM := fun ρ => (a ρ).map fun d => .bl (l.any fun t => d.isi t)
theorem isiM_kit {K : PySem.W.Frag} {u : Value} {d : D} (h : ∀ t : Ty, PySem.W.kitOne K u (.type t.name) = some (d.isi t)) : ∀ l : List Ty, PySem.W.kitAny K u (l.map fun t => Value.type t.name) = some (l.any fun t => d.isi t)
  | [] => rfl
  | t :: l => kitAny_cons (h t) (fun e => by rw [isiM_kit h l, List.any_cons, e]; simp) (fun e => by rw [List.any_cons, e]; simp)
theorem sp_isiM {K : PySem.W.Frag} {ta : TE} {tt : TA} {a : PM} (l : List Ty) (hl : tt = tys l) (hz : l.length ≤ 10) (ha : SP ta a) : SP (tCB (rIsiT K) (tCons ta (tCons (tTup tt) tNil))) (pIsiM l a) := fun ρ σ H g d h Q q => by
  obtain ⟨x, h1, rfl⟩ := Option.map_eq_some_iff.mp h
  subst hl
  refine ha ρ σ H g x h1 _ fun v H1 e1 r1 => tys_run l σ H1 _ ⟨lim_le (by rw [List.length_map]; unfold lim; omega), fun p hp => ?_⟩
  have es : Same H1 (upd H1 p (.tup (l.map fun t => V.ty t.name))) := same_new hp
  have kt : ∀ t : Ty, PySem.W.kitOne K (.type x.kd.name) (.type t.name) = some (x.isi t) := fun t => kit_ty (kd_isi t x.kd)
  have ty : TyX K (upd H1 p (.tup (l.map fun t => V.ty t.name))) v (.type x.kd.name) := by
    have r2 := r1.mono es
    cases x with
    | non => cases r2; exact .base .non
    | bl b => cases r2; exact .base (.bl _)
    | int b => cases r2; exact .base (.int _)
    | str b => cases r2; exact .base (.str _)
    | lst l => obtain ⟨a, vs, rfl, h1, _⟩ := r2; exact .base (.lst h1)
    | tup l => obtain ⟨a, vs, rfl, h1, _⟩ := r2; exact .base (.tup h1)
    | dic ks l => obtain ⟨a, vs, rfl, h1, _⟩ := r2; exact .base (.dK h1)
  have pr : ∀ l : List Ty, Paired ClsV (l.map fun t => V.ty t.name) (l.map fun t => Value.type t.name) := fun l => by
    induction l with
    | nil => exact .nil
    | cons t l ih => exact .cons (.ty _) ih
  exact ⟨v, p, _, _, _, _, rfl, upd_same, pr l, ty, isiM_kit kt l, q _ _ (e1.trans es) rfl⟩

/-! ### the script -/
def spSc (ct : CT) (K : PySem.W.Frag) (F : List Int → FOut) : Sp := fun vs H Q E => ∃ a ns, vs = [.ref a] ∧ SqL K H a (ns.map V.int) ∧
  (F ns).P (fun t _ => ∀ v H', GX H (fun _ => none) [] [] [t] [v] H' → Q v H') (fun _ => False)
def SSa (A : Hp → St → Prop) (ct : CT) (Wx : XW) (pin : List Nat) (s : TS) (m : SM) : Prop := ∀ W S0 σ0 ρ σ H (D : Ends), A W σ0 → GX W S0 ρ σ [] [] H → Pin pin σ0 σ → SK ct Wx W S0 pin σ0 D (m ρ) → s D σ H
theorem SS.a {A : Hp → St → Prop} {s : TS} {m : SM} (h : SS ct Wx pin s m) : SSa A ct Wx pin s m := fun W S0 σ0 ρ σ H D _ => h W S0 σ0 ρ σ H D
theorem ssa_seq {A : Hp → St → Prop} {s u : TS} {a b : SM} (ha : SSa A ct Wx pin s a) (hb : SSa A ct Wx pin u b) : SSa A ct Wx pin (tSeq s u) (mSeq a b) := fun W S0 σ0 ρ σ H D x g p k => by
  refine ha W S0 σ0 ρ σ H { D with nx := u D } x g p ?_
  unfold mSeq at k
  generalize a ρ = o at k ⊢
  cases o with
  | nx ρ' => exact fun σ' H' g' p' => hb W S0 σ0 ρ' σ' H' D x g' p' k
  | _ => exact k
/-- the first name holds the script -/
def ScA (K : PySem.W.Frag) (ns : List Int) : Hp → St → Prop := fun W σ => ∃ a, σ[0]? = some (some (.ref a)) ∧ SqL K W a (ns.map V.int)
def mForS (ns : List Int) (b : BM) (body : SM) : SM := fun ρ => forL b body (ns.map fun i => .sh (.int i)) ρ
theorem jok_sc {K : PySem.W.Frag} {a : Addr} {ns : List Int} (h : SqL K W a (ns.map V.int)) (hu : ∀ xs, SqL K W a xs → xs = ns.map V.int) : True := trivial
theorem for_Sc {K : PySem.W.Frag} {ns : List Int} {a : Addr} {g : TG} {tb : TS} {D : Ends} {σ : St} {H : Hp} (Pv : Nat → St → Hp → Prop) (h0 : Pv 0 σ H) (hS : ∀ i σ H, Pv i σ H → SqL K H a (ns.map V.int))
    (hs : ∀ i n σ H, ns[i]? = some n → Pv i σ H → g (.int n) σ H fun σ2 H2 => tb { D with nx := Pv (i + 1), ct := Pv (i + 1), bk := D.nx } σ2 H2) (hd : ∀ σ H, Pv ns.length σ H → D.nx σ H) :
    ∃ W : Nat → Nat → St → Hp → Prop, (∃ m, W 0 m σ H) ∧ ∀ i m σ H, W i m σ H →
      ((Itl K a).stop i H ∧ D.nx σ H) ∨ ((Itl K a).go i H ∧ ∃ N : St → Hp → Prop, (∀ σ' H', N σ' H' → ∃ m', m' < m ∧ W (i + 1) m' σ' H') ∧ ∀ x H', (Itl K a).yld i H x H' → g x σ H' fun σ2 H2 => tb { D with nx := N, ct := N, bk := D.nx } σ2 H2) :=
  for_list (xs := ns.map V.int) Pv h0 (fun i σ H _ p => hS i σ H p) (fun i x σ H e p => by
    rw [List.getElem?_map] at e
    obtain ⟨n, e1, rfl⟩ := Option.map_eq_some_iff.mp e
    exact hs i n σ H e1 p) (fun σ H p => hd σ H (by rw [List.length_map] at p; exact p))
theorem SqL.up {K : PySem.W.Frag} {a : Addr} {xs : List V} (e : Same H H') (h : SqL K H a xs) : SqL K H' a xs := e.seq h
theorem GX.outer (g : GX W S0 ρ σ tm vm H) : Same W H := by
  obtain ⟨S, as, bs, g⟩ := g
  exact g.wh
theorem ssa_forS {K : PySem.W.Frag} {ns : List Int} {slots : List Nat} {g : TG} {tb : TS} {b : BM} {body : SM} (hg : SG slots g b) (hs : ∀ i ∈ slots, i ∉ pin) (hp : 0 ∈ pin) (hb : SS ct Wx pin tb body) : SSa (ScA K ns) ct Wx pin (tFor (iSeq K (tVar 0)) g tb) (mForS ns b body) := fun W S0 σ0 ρ σ H D ⟨a, ea, hA⟩ gx p k => by
  have e0 : σ[0]? = some (some (.ref a)) := (p 0 hp).trans ea
  refine ⟨.ref a, e0, a, rfl, .inl ⟨⟨_, SqL.up gx.outer hA⟩, ?_⟩⟩
  refine for_Sc (ns := ns) (fun i σ' H' => i ≤ ns.length ∧ ∃ ρ', GX W S0 ρ' σ' [] [] H' ∧ Pin pin σ0 σ' ∧ SK ct Wx W S0 pin σ0 D (forL b body ((ns.drop i).map fun i => .sh (.int i)) ρ')) ⟨Nat.zero_le _, ρ, gx, p, k⟩ (fun i σ' H' ⟨_, ρ', g', _⟩ => SqL.up g'.outer hA) ?_ ?_
  · rintro i n σ' H' e ⟨hle, ρ', g', p', k'⟩
    have hlt := (List.getElem?_eq_some_iff.mp e).1
    rw [List.drop_eq_getElem_cons hlt, (List.getElem?_eq_some_iff.mp e).2, List.map_cons] at k'
    unfold forL at k'
    split at k'
    · exact k'.elim
    rename_i ρ2 e2
    refine hg W S0 ρ' σ' [] [] H' _ (.int n) ρ2 (g'.pushC (S := H') (d := .int n) rfl rfl) e2 _ fun σ2 g2 ew => ?_
    refine hb W S0 σ0 ρ2 σ2 H' _ g2 (p'.wipe ew hs) ?_
    generalize body ρ2 = o at k'
    cases o with
    | bad => exact k'
    | nx ρ3 => exact fun σ3 H3 g3 p3 => ⟨hlt, ρ3, g3, p3, k'⟩
    | ct ρ3 => exact fun σ3 H3 g3 p3 => ⟨hlt, ρ3, g3, p3, k'⟩
    | bk ρ3 => exact k'
    | rt t' ρ3 => exact k'
    | ex x' ρ3 => exact k'
  · rintro σ' H' ⟨_, ρ', g', p', k'⟩
    rw [List.drop_eq_nil_of_le (Nat.le_refl _)] at k'
    exact k' σ' H' g' p'
/-- a body over the script: a plain answer -/
def mFunS (nn : Nat) (body : List Int → SM) : List Int → FOut := fun ns => match body ns (List.replicate nn none) with
  | .rt t _ => .ok t []
  | _ => .bad
section
open PySem.Spec PyProof.Rows
variable {P : Program} {w : World} {K : PySem.W.Frag} {mg : Str → Option Value} {base : Heap}
theorem re_none {S H : Hp} : ∀ (σ : L2.St), Re S H (List.replicate σ.length none) σ []
  | [] => ⟨rfl, rfl⟩
  | o :: σ => ⟨o, σ, rfl, re_none σ⟩
theorem fn_mkS {x qual : Str} {st : Stmt} {f : Addr} {fd : FuncData} {N : List Str} {sc : Str} {k : Nat} {m : List Int → SM} (F : Fun K x qual st f fd) (Sc : FnScope N [sc] (defScope st)) (hN : 1 ≤ N.length)
    (hbody : ∀ (cdv : Value) (A : Around) (outer : List PySem.Env) (s : Shared) (H : Hp) (E : XK), Room k (A.deeper (envOfC qual (defScope st) s.heap.objs.size f cdv)) →
      ∃ t, PSs (cxOf (L2.CX P w) P w K mg base N qual (defScope st) f cdv A outer s H E) (defBody st) t ∧ ∀ ns, SSa (ScA K ns) ct (fun c d _ H => E c d H) [0] t (m ns)) : FnOk P w K mg base (L2.CX P w) (k + 1) f fd [sc] (spSc ct K (mFunS N.length m)) := by
  refine F.okX Sc (fun vs H Q E h => by obtain ⟨a, ns, rfl, _⟩ := h; rfl) fun cdv A outer s H vs Q E hr h => ?_
  obtain ⟨t, ht, hs⟩ := hbody cdv A outer s H E hr
  refine ⟨t, ht, ?_⟩
  obtain ⟨a, ns, rfl, hA, k1⟩ := h
  have hl : (start N [.ref a]).length = N.length := by
    simp only [L2.start, List.length_append, List.length_map, List.length_replicate, List.length_cons, List.length_nil]
    omega
  have hr0 : Re (fun _ => none) H (List.replicate N.length none) (start N [.ref a]) [] := by
    have := re_none (S := fun _ => none) (H := H) (start N [.ref a])
    rw [hl] at this
    exact this
  have g : GX H (fun _ => none) (List.replicate N.length none) (start N [.ref a]) [] [] H := ⟨fun _ => none, [], [], fun _ _ h => h, (fun _ _ h => nomatch h), (fun _ _ h => h), (fun _ _ h => h), hr0, ⟨rfl, rfl⟩, by simp, by simp, by simp⟩
  refine hs ns H (fun _ => none) (start N [.ref a]) _ _ H _ ⟨a, rfl, hA⟩ g Pin.refl ?_
  unfold mFunS at k1
  generalize m ns _ = o at k1 ⊢
  cases o with
  | rt t ρ => exact fun v σ' H' g3 _ => k1 v H' g3.noEnv
  | _ => exact k1.elim
end
end
end Z

namespace Z
noncomputable section
open PySem L2
variable {ct : CT} {Wx : XW} {W S0 S S1 H H' : Hp} {ρ ρ' : Env} {σ σ0 : St} {t u : T} {ts us tm its : List T} {v w : V} {vs ws vm : List V} {as bs : List Addr} {i : Nat} {d : D} {pin : List Nat} {D0 : Ends} {K : PySem.W.Frag} {ns : List Int}
theorem GX.addS (e : Same S H) (g : GX H (fun _ => none) [] [] tm vm H') : GX H S [] [] tm vm H' := by
  obtain ⟨S1, as, bs, g⟩ := g
  have ea : as = [] := g.re.2
  subst ea
  have n1 : ∀ a, S1 a ≠ none → H a = none := fun a h => by
    cases q : H a with
    | none => rfl
    | some o => exact absurd rfl (g.nw a (by rw [q]; simp) h)
  let S2 : Hp := fun a => match S a with
    | some o => some o
    | none => S1 a
  have e1 : Same S S2 := fun a o h => by show (match S a with | some o => some o | none => S1 a) = some o; rw [h]
  have e2 : Same S1 S2 := fun a o h => by
    show (match S a with | some o => some o | none => S1 a) = some o
    cases q : S a with
    | none => exact h
    | some o' =>
      have := n1 a (by rw [h]; simp)
      rw [e a o' q] at this; cases this
  refine ⟨S2, [], bs, e1, fun a o h => ?_, g.wh, fun a h1 h2 => ?_, ⟨rfl, rfl⟩, g.rt.mono e2 fun _ _ => rfl, g.nd, fun a ha => ?_, g.fw⟩
  · have h : (match S a with | some o => some o | none => S1 a) = some o := h
    cases q : S a with
    | none => rw [q] at h; exact g.sh a o h
    | some z => rw [q] at h; cases h; exact g.wh a o (e a o q)
  · have h2 : (match S a with | some o => some o | none => S1 a) ≠ none := h2
    cases q : S a with
    | none => rw [q] at h2; exact absurd (n1 a h2) h1
    | some o' => simp
  · have h1 := g.fw a ha
    have h2 := g.fs a ha
    have h3 : S a = none := by
      cases q : S a with
      | none => rfl
      | some z => rw [e a z q] at h1; cases h1
    show (match S a with | some o => some o | none => S1 a) = none
    rw [h3]; exact h2
def SEa (K : PySem.W.Frag) (ns : List Int) (ct : CT) (Wx : XW) (te : TE) (m : EM) : Prop := ∀ W S0 ρ σ tm vm H (Q : VK), ScA K ns W σ → GX W S0 ρ σ tm vm H → (m ρ).P (fun t ρ' => ∀ v H', GX W S0 ρ' σ (t :: tm) (v :: vm) H' → Q v H') (XE ct Wx W S0 σ tm vm) → te σ H Q
def eCallS (F : List Int → FOut) (ns : List Int) : EM := fun ρ => match F ns with
  | .ok t _ => .ok t ρ
  | _ => .bad
theorem sea_callS {F : List Int → FOut} {E : St → XK} : SEa K ns ct Wx (tCallS (spSc ct K F) E (tCons (tVar 0) tNil)) (eCallS F ns) := fun W S0 ρ σ tm vm H Q ⟨a, ea, hA⟩ g k => by
  refine ⟨.ref a, ea, a, ns, rfl, SqL.up g.outer hA, ?_⟩
  unfold eCallS at k
  generalize F ns = o at k ⊢
  cases o with
  | ok t ts =>
    intro v H' g2
    obtain ⟨S, as, bs, g1⟩ := g
    have hw : ∀ x, less H ([] : List Addr) x = H x := fun x => less_out (by simp)
    obtain ⟨W', S', gc, back⟩ := GX.call (ts := []) (vs := []) ⟨S, as, bs, g1⟩ rfl
    refine k v H' ?_
    -- the callee saw nothing of S: what it made is new
    have g3 : GX H S [] [] [t] [v] H' := g2.addS g1.sh
    obtain ⟨S2, as2, bs2, g4⟩ := g3
    have ea2 : as2 = [] := g4.re.2
    subst ea2
    have hnS : ∀ x, H x ≠ none → S x = none → S2 x = none := fun x h1 h2 => by
      cases q : S2 x with
      | none => rfl
      | some o => exact absurd h2 (g4.nw x h1 (by rw [q]; simp))
    have nd := g1.nd
    have fs := g1.fs
    have fw := g1.fw
    have nd4 := g4.nd
    have fs4 := g4.fs
    have fw4 := g4.fw
    have hne : ∀ x ∈ bs2, ∀ y, (y ∈ as ∨ y ∈ bs) → x ≠ y := fun x hx y hy e => by
      subst e
      have h0 := fw4 x (by simpa using hx)
      rcases hy with h | h
      · exact g1.re.there x h h0
      · exact g1.rt.there x h h0
    refine ⟨S2, as, bs2 ++ bs, fun x o h => g4.s0 x o (g1.s0 x o h), g4.sh, fun x o h => g4.wh x o (g1.wh x o h), fun x h1 h2 => ?_, g1.re.mono g4.s0 fun x hx => same_at g4.wh (g1.re.there x hx), ?_, by grind, ?_, ?_⟩
    · refine g1.nw x h1 (g4.nw x ?_ h2)
      cases q : W x with
      | none => exact absurd q h1
      | some o => rw [g1.wh x o q]; simp
    · have := g4.rt.append (g1.rt.mono g4.s0 fun x hx => same_at g4.wh (g1.rt.there x hx))
      exact this
    · intro x hx
      rcases List.mem_append.mp hx with h | h
      · exact hnS x (g1.re.there x h) (fs x (by grind))
      · rcases List.mem_append.mp h with h | h
        · exact fs4 x (by simpa using h)
        · exact hnS x (g1.rt.there x h) (fs x (by grind))
    · intro x hx
      rcases List.mem_append.mp hx with h | h
      · exact fw x (by grind)
      · rcases List.mem_append.mp h with h | h
        · have h0 := fw4 x (by simpa using h)
          cases q : W x with
          | none => rfl
          | some o => rw [g1.wh x o q] at h0; cases h0
        · exact fw x (by grind)
  | _ => exact k.elim
theorem sea_op {r : R2} {o : T → T → Option T} {ta tb : TE} {a b : EM} (hr : OpE r o) (ha : SE ct Wx ta a) (hb : SEa K ns ct Wx tb b) : SEa K ns ct Wx (tOp r ta tb) (eOp o a b) := fun W S0 ρ σ tm vm H Q x g k => by
  refine ha W S0 ρ σ tm vm H _ g ((Out.P_bnd.mp k).mono (fun t ρ1 k1 v H1 g1 => ?_) fun _ _ h => h)
  refine hb W S0 ρ1 σ (t :: tm) (v :: vm) H1 _ x g1 ((Out.P_bnd.mp k1).mono (fun u ρ2 k2 w H2 g2 => ?_) fun _ _ h => XE.pop (ts := [t]) (vs := [v]) h rfl)
  obtain ⟨z, e, k2⟩ := P_opt k2
  exact hr W S0 ρ2 σ tm vm H2 t u v w z Q g2 e k2
theorem sca_pin (x : ScA K ns W σ0) (p : Pin pin σ0 σ) (h : 0 ∈ pin) : ScA K ns W σ := by
  obtain ⟨a, e, q⟩ := x
  exact ⟨a, (p 0 h).trans e, q⟩
theorem ssa_ret {te : TE} {e : EM} (hp : 0 ∈ pin) (he : SEa K ns ct Wx te e) : SSa (ScA K ns) ct Wx pin (tRet te) (mRet e) := fun W S0 σ0 ρ σ H D x g p k => by
  refine he W S0 ρ σ [] [] H _ (sca_pin x p hp) g ((SK.st p k).mono (fun t ρ1 k1 v H1 g1 => ?_) fun _ _ h => h)
  exact k1 v σ H1 g1 p
theorem ssa_set {i : Nat} {te : TE} {e : EM} (hp : 0 ∈ pin) (he : SEa K ns ct Wx te e) (hi : i ∉ pin) : SSa (ScA K ns) ct Wx pin (tAsg te (gName i)) (mSet i e) := fun W S0 σ0 ρ σ H D x g p k => by
  refine he W S0 ρ σ [] [] H _ (sca_pin x p hp) g ((SK.st p k).mono (fun t ρ1 k1 v H1 g1 => ?_) fun _ _ h => h)
  exact k1 _ _ (g1.putA i) (p.set hi)
/-! ### what the top holds -/
section
open PySem.Spec PyProof.Rows
variable {P : Program} {w : World} {mg : Str → Option Value} {base h : Heap}
def Dd (K : PySem.W.Frag) (mg : Str → Option Value) (x : Str) (st : Stmt) (ps : List Str) : Prop := ∃ (f : Addr) (fd : FuncData), Fun K x x st f fd ∧ mg x = some (.ref f) ∧ Binds K fd ps []
def Fn (P : Program) (w : World) (K : PySem.W.Frag) (mg : Str → Option Value) (base : Heap) (x : Str) (k : Nat) (ps : List Str) (sp : Sp) : Prop :=
  ∃ (f : Addr) (fd : FuncData), FnOk P w K mg base (L2.CX P w) k f fd ps sp ∧ mg x = some (.ref f) ∧ PySem.W.keepIn K (.ref f) = true ∧ Binds K fd ps []
theorem dd_mk {x : Str} {st : Stmt} {f : Addr} {oc : Value} {od an : Option Addr} {osl : Array (Option Value)} {kV doc pm cdv ctv : Value} {ps : List Str} (X : K.In h) (G : h.Ns mainGlobals mg)
    (a : PySem.W.nsIn K mainGlobals x = some (some (.ref f))) (l : K.lookup f = some ⟨oc, od, .func (PySem.W.fnOf x x (defArgs st) (defBody st) (defScope st) .none kV doc pm an cdv ctv), osl⟩) (c : PySem.W.codeIn K cdv x = true) (k : PySem.W.keepIn K (.ref f) = true)
    (hb : ∀ (kV doc pm : Value) (an : Option Addr) (cdv ct : Value) (us : List Value), us.length = ps.length → bindArgs (PySem.W.fnOf x x (defArgs st) (defBody st) (defScope st) .none kV doc pm an cdv ct) ⟨us, []⟩ = pure (ps.zip us)) : Dd K mg x st ps :=
  ⟨f, _, fun_mk l c k, PySem.W.mg_of X G a, (fun_mk l c k).binds hb⟩
theorem fn_def {x : Str} {st : Stmt} {N ps : List Str} {k : Nat} {m : SM} (F : Dd K mg x st ps) (Sc : FnScope N ps (defScope st))
    (hbody : ∀ (f : Addr) (cdv : Value) (A : Around) (outer : List PySem.Env) (s : Shared) (H : Hp) (E : XK), Room k (A.deeper (envOfC x (defScope st) s.heap.objs.size f cdv)) →
      ∃ t, PSs (cxOf (L2.CX P w) P w K mg base N x (defScope st) f cdv A outer s H E) (defBody st) t ∧ SS ct (fun c d _ H => E c d H) [] t m) : Fn P w K mg base x (k + 1) ps (spM ct ps.length (mFun ps.length N.length m)) := by
  obtain ⟨f, fd, F, hm, hb⟩ := F
  exact ⟨f, fd, fn_mk F Sc (hbody f), hm, F.kp, hb⟩
theorem fn_defI {x : Str} {st : Stmt} {N ps : List Str} {k : Nat} {m : SM} (F : Dd K mg x st ps) (Sc : FnScope N ps (defScope st)) (hps : 0 < ps.length)
    (hbody : ∀ (f : Addr) (cdv : Value) (A : Around) (outer : List PySem.Env) (s : Shared) (H : Hp) (E : XK), Room k (A.deeper (envOfC x (defScope st) s.heap.objs.size f cdv)) →
      ∃ t, PSs (cxOf (L2.CX P w) P w K mg base N x (defScope st) f cdv A outer s H E) (defBody st) t ∧ SS ct (fun c d _ H => E c d H) [0] t m) : Fn P w K mg base x (k + 1) ps (spM ct ps.length (mFunI ps.length N.length m)) := by
  obtain ⟨f, fd, F, hm, hb⟩ := F
  exact ⟨f, fd, fn_mkI F Sc hps (hbody f), hm, F.kp, hb⟩
theorem fn_defS {x : Str} {st : Stmt} {N : List Str} {sc : Str} {k : Nat} {m : List Int → SM} (F : Dd K mg x st [sc]) (Sc : FnScope N [sc] (defScope st)) (hN : 1 ≤ N.length)
    (hbody : ∀ (f : Addr) (cdv : Value) (A : Around) (outer : List PySem.Env) (s : Shared) (H : Hp) (E : XK), Room k (A.deeper (envOfC x (defScope st) s.heap.objs.size f cdv)) →
      ∃ t, PSs (cxOf (L2.CX P w) P w K mg base N x (defScope st) f cdv A outer s H E) (defBody st) t ∧ ∀ ns, SSa (ScA K ns) ct (fun c d _ H => E c d H) [0] t (m ns)) : Fn P w K mg base x (k + 1) [sc] (spSc ct K (mFunS N.length m)) := by
  obtain ⟨f, fd, F, hm, hb⟩ := F
  exact ⟨f, fd, fn_mkS F Sc hN (hbody f), hm, F.kp, hb⟩
theorem fn_bad {x : Str} {st : Stmt} {k n : Nat} {ps : List Str} (F : Dd K mg x st ps) : Fn P w K mg base x k ps (spM ct n (fun _ => .bad)) := by
  obtain ⟨f, fd, F, hm, hb⟩ := F
  have no : ∀ vs H Q E, ¬ spM ct n (fun _ => .bad) vs H Q E := fun vs H Q E h => by
    obtain ⟨_, _, _, _, _, h⟩ := h
    exact h
  exact ⟨f, fd, ⟨fun vs H Q E h => absurd h (no vs H Q E), fun A outer s H args us vs Q E _ _ _ _ h => absurd h (no vs H Q E)⟩, hm, F.kp, hb⟩
/-- law's own -/
def Fl (P : Program) (w : World) (K : PySem.W.Frag) (mg : Str → Option Value) (base : Heap) (x : Str) (st : Stmt) (k : Nat) (ps : List Str) (sp : Sp) : Prop :=
  ∃ (f : Addr) (fd : FuncData), FnOk P w K mg base (L2.CX P w) k f fd ps sp ∧ Fun K x x st f fd ∧ mg x = some (.ref f)
theorem fn_defL {x : Str} {st : Stmt} {N : List Str} {sc : Str} {k : Nat} {m : List Int → SM} (F : Dd K mg x st [sc]) (Sc : FnScope N [sc] (defScope st)) (hN : 1 ≤ N.length)
    (hbody : ∀ (f : Addr) (cdv : Value) (A : Around) (outer : List PySem.Env) (s : Shared) (H : Hp) (E : XK), Room k (A.deeper (envOfC x (defScope st) s.heap.objs.size f cdv)) →
      ∃ t, PSs (cxOf (L2.CX P w) P w K mg base N x (defScope st) f cdv A outer s H E) (defBody st) t ∧ ∀ ns, SSa (ScA K ns) ct (fun c d _ H => E c d H) [0] t (m ns)) : Fl P w K mg base x st (k + 1) [sc] (spSc ct K (mFunS N.length m)) := by
  obtain ⟨f, fd, F, hm, hb⟩ := F
  exact ⟨f, fd, fn_mkS F Sc hN (hbody f), F, hm⟩
theorem Fn.mono {x : Str} {j k : Nat} {ps : List Str} {sp : Sp} (F : Fn P w K mg base x j ps sp) (h : j ≤ k) : Fn P w K mg base x k ps sp := by
  obtain ⟨f, fd, F, r⟩ := F
  exact ⟨f, fd, F.mono h, r⟩
/-- what law(script) promises -/
def spLaw (K : PySem.W.Frag) : Sp := fun vs H Q _ => ∃ (a : Addr) (ns : List Int), vs = [.ref a] ∧ SqL K H a (ns.map V.int) ∧ ns.length ≤ 63 ∧ ∀ H', Q (.bl true) H'
theorem fn_law {x : Str} {st : Stmt} {sc : Str} {k : Nat} {F : List Int → FOut} (G : Fl P w K mg base x st k [sc] (spSc ct K F)) (hF : ∀ ns : List Int, ns.length ≤ 63 → F ns = .ok (.sh (.bl true)) []) : Fl P w K mg base x st k [sc] (spLaw K) := by
  obtain ⟨f, fd, G, r⟩ := G
  refine ⟨f, fd, G.imp fun vs H Q E h => ?_, r⟩
  obtain ⟨a, ns, rfl, hA, hl, q⟩ := h
  refine ⟨a, ns, rfl, hA, ?_⟩
  rw [hF ns hl]
  intro v H' g
  have := g.tmp
  rw [show v = .bl true from this]
  exact q H'
theorem law_at {fa : Addr} {x sc : Str} {st : Stmt} {f : Addr} {oc : Value} {od an : Option Addr} {osl : Array (Option Value)} {kV doc pm cdv ctv : Value} {k : Nat} {sp : Sp} (X : K.In h) (G : h.Ns mainGlobals mg) (hfa : mg x = some (.ref fa))
    (a : PySem.W.nsIn K mainGlobals x = some (some (.ref f))) (l : K.lookup f = some ⟨oc, od, .func (PySem.W.fnOf x x (defArgs st) (defBody st) (defScope st) .none kV doc pm an cdv ctv), osl⟩)
    (hb : ∀ (kV doc pm : Value) (an : Option Addr) (cdv ct : Value) (us : List Value), us.length = [sc].length → bindArgs (PySem.W.fnOf x x (defArgs st) (defBody st) (defScope st) .none kV doc pm an cdv ct) ⟨us, []⟩ = pure ([sc].zip us))
    (hF : ∀ base : Heap, K.In base → base.Ns mainGlobals mg → ∃ g gd, FnOk P w K mg base (L2.CX P w) k g gd [sc] sp ∧ Fun K x x st g gd ∧ mg x = some (.ref g)) :
    ∃ fd : FuncData, (∀ (s : Shared) (v : Value), BindsTo s fd ⟨[v], []⟩ [(sc, v)]) ∧ ∀ base : Heap, K.In base → base.Ns mainGlobals mg → FnOk P w K mg base (L2.CX P w) k fa fd [sc] sp := by
  have e := hfa.symm.trans (PySem.W.mg_of X G a)
  cases e
  refine ⟨_, fun s v => .of_eq (hb kV doc pm an cdv ctv [v] rfl), fun base b1 b2 => ?_⟩
  obtain ⟨g, gd, h1, h2, h3⟩ := hF base b1 b2
  rw [hfa] at h3
  cases h3
  obtain ⟨oc', od', kV', doc', pm', an', cdv', ct', osl', e1, lk, _⟩ := h2.ex
  rw [l] at lk
  have e2 : PySem.W.fnOf x x (defArgs st) (defBody st) (defScope st) .none kV doc pm an cdv ctv = gd := by
    injection lk with lk
    injection lk with _ _ e3 _
    injection e3
  rw [e2]
  exact h1
theorem cx_none {P : Program} {w : World} {H : Hp} {s : Shared} {e : Value} {s' : Shared} (h : L2.CX P w [] H s (fun _ _ _ => False) e s') : False := by
  obtain ⟨_, _, _, _, _, _, _, _, _, _, _, _, z⟩ := h
  exact z.elim
theorem walk {l : PySem.W.OpenLaw} {q : Program} {loose : List Str} {XP : (Str → Option Value) → Heap → Prop} {YP : World → Heap → Prop} {d : DefRec} {K : Params → PySem.W.Frag} (k : Nat) (hr : Room k callerA) (hn : l.most = some 63) (hdf : d.params.defaults = [])
    (hY : ∀ (w : World) (h : Heap), YP w h → (K w.params).In h)
    (F : ∀ (w : World) (mg : Str → Option Value) (fa : Addr) (h : Heap), (K w.params).In h → h.Ns mainGlobals mg → mg d.name = some (.ref fa) →
      ∃ fd : FuncData, (∀ (s : Shared) (u : Value), BindsTo s fd ⟨[u], []⟩ [("script", u)]) ∧ ∀ base : Heap, (K w.params).In base → base.Ns mainGlobals mg → FnOk l.prog w (K w.params) mg base (L2.CX l.prog w) k fa fd ["script"] (spLaw (K w.params))) :
    PySem.W.WalkO q loose XP YP l.row.toRowW d [] (fun f vs => PySem.call f vs) :=
  L2.walk_of (n := 63) (k := k) (x := "script") (CX := fun w => L2.CX l.prog w) (sp := fun w => spLaw (K w.params)) hn (by decide) hdf hr hY F (fun _ _ a ns hl _ hS => ⟨a, ns, rfl, hS, hl, fun _ => rfl⟩) fun _ _ _ _ _ z => cx_none z
theorem eqU {A : Around} {k : Nat} (hr : Room k A) : A.units + 64 < cLine := by
  have := hr.un
  omega
end
end
end Z

namespace Z
noncomputable section
open PySem L2
variable {ct : CT} {Wx : XW} {W S0 S S1 H H' : Hp} {ρ ρ' : Env} {σ σ0 : St} {t u : T} {ts us tm its : List T} {v w : V} {vs ws vm : List V} {as bs : List Addr} {i : Nat} {d : D} {pin : List Nat} {D0 : Ends} {K : PySem.W.Frag} {ns : List Int}
/-! ### a list at a name is walked; it stays the name's own, its items are shared -/
def also (W H : Hp) (a : Addr) : Hp := fun x => if x = a then H x else W x
theorem also_at {a : Addr} : also W H a a = H a := if_pos rfl
theorem also_ne {a x : Addr} (h : x ≠ a) : also W H a x = W x := if_neg h
theorem Rtl.fzs {S H : Hp} : ∀ {ts : List T} {vs : List V} {b : List Addr} {S' : Hp}, Same S S' → (∀ a ∈ b, ∀ o, H a = some o → S' a = some o) → Rtl S H ts vs b → Rpl S' (ts.map T.d) vs
  | ts, vs, b, S', e, k, h => by rw [← dl_eq]; exact h.toRpl e k
theorem map_fz (ts : List T) : ts.map T.fz = (ts.map T.d).map .sh := by
  rw [List.map_map]; rfl
/-- the name's list set aside: what is walked, and how it is put back -/
theorem GX.aside (g : GX W S0 ρ σ tm vm H) (e : ρ[i]? = some (some (.ol ts))) : ∃ a xs S, σ[i]? = some (some (.ref a)) ∧ H a = some (.lst xs) ∧ Rpl S (ts.map T.d) xs ∧ Up W S0 S ∧ S a = none ∧ W a = none ∧
    GX (also W H a) S (ρ.set i none) σ tm vm H ∧
    (∀ ρ' σ' tm' vm' H', GX (also W H a) S ρ' σ' tm' vm' H' → GX W S0 ρ' σ' tm' vm' H') ∧
    (∀ ρ' σ' tm' vm' H', GX (also W H a) S ρ' σ' tm' vm' H' → σ'[i]? = some (some (.ref a)) → GX W S0 (ρ'.set i (some (.ol (ts.map T.fz)))) σ' tm' vm' H') := by
  obtain ⟨v, e1, g1⟩ := g.take e
  obtain ⟨S, as, bs, g1⟩ := g1
  obtain ⟨v', r, c1, c2, h3, rfl, ⟨a, xs, b, rfl, rfl, h4, h5⟩, h6⟩ := g1.rt
  cases h3
  have nd := g1.nd
  have fs := g1.fs
  have fw := g1.fw
  have eS : Same S (more S H b) := more_same (by grind)
  have hr : Rpl (more S H b) (ts.map T.d) xs := h5.fzs eS fun x hx o h => by rw [more_in hx]; exact h
  have ha : a ∉ b := by grind
  have hSa : S a = none := fs a (by grind)
  have hWa : W a = none := fw a (by grind)
  have hMa : more S H b a = none := by rw [more_out ha]; exact hSa
  have sW : ∀ x, x ≠ a → also W H a x = W x := fun x h => also_ne h
  have wSame : Same W (also W H a) := fun x o h => by
    rw [sW x (by rintro rfl; rw [hWa] at h; cases h)]; exact h
  have hup : Up W S0 (more S H b) := ⟨g1.s0.trans eS, fun x h k => by
    by_cases q : x ∈ b
    · exact absurd (fw x (by grind)) h
    · rw [more_out q] at k; exact g1.nw x h k⟩
  have gN : GX (also W H a) (more S H b) (ρ.set i none) σ tm vm H := by
    refine ⟨more S H b, as, c2, fun _ _ h => h, more_sub g1.sh, fun x o h => ?_, fun _ _ h => h, g1.re.mono eS fun _ _ => rfl, h6.mono eS fun _ _ => rfl, by grind, fun x hx => ?_, fun x hx => ?_⟩
    · by_cases q : x = a
      · subst q; rw [also_at] at h; exact h
      · rw [sW x q] at h; exact g1.wh x o h
    · have q : x ∉ b := by grind
      rw [more_out q]; exact fs x (by grind)
    · rw [sW x (by rintro rfl; grind)]; exact fw x (by grind)
  refine ⟨a, xs, more S H b, e1, h4, hr, hup, hMa, hWa, gN, fun ρ' σ' tm' vm' H' g' => ?_, fun ρ' σ' tm' vm' H' g' es => ?_⟩
  · obtain ⟨S', as', bs', g'⟩ := g'
    refine ⟨S', as', bs', hup.1.trans g'.s0, g'.sh, fun x o h => g'.wh x o (wSame x o h), fun x h k => ?_, g'.re, g'.rt, g'.nd, g'.fs, fun x hx => ?_⟩
    · refine hup.2 x h (g'.nw x ?_ k)
      intro q
      cases hq : W x with
      | none => exact h hq
      | some o => rw [wSame x o hq] at q; cases q
    · have := g'.fw x hx
      cases hq : W x with
      | none => rfl
      | some o => rw [wSame x o hq] at this; cases this
  · obtain ⟨S', as', bs', g'⟩ := g'
    have hHa : H' a = some (.lst xs) := g'.wh a _ (by rw [also_at]; exact h4)
    have hS'a : S' a = none := by
      cases q : S' a with
      | none => rfl
      | some o => exact absurd hMa (g'.nw a (by rw [also_at, h4]; simp) (by rw [q]; simp))
    have nd' := g'.nd
    have fw' := g'.fw
    have fs' := g'.fs
    have hne : ∀ x ∈ as' ++ bs', x ≠ a := fun x hx q => by
      have := fw' x hx
      rw [q, also_at, h4] at this; cases this
    have g2 : GX W S0 ρ' σ' (.ol (ts.map T.fz) :: tm') (.ref a :: vm') H' := by
      refine ⟨S', as', a :: bs', hup.1.trans g'.s0, g'.sh, fun x o h => g'.wh x o (wSame x o h), fun x h k => ?_, g'.re, ⟨.ref a, vm', [a], bs', rfl, rfl, ⟨a, xs, [], rfl, rfl, hHa, ?_⟩, g'.rt⟩, ?_, ?_, ?_⟩
      · refine hup.2 x h (g'.nw x ?_ k)
        intro q
        cases hq : W x with
        | none => exact h hq
        | some o => rw [wSame x o hq] at q; cases q
      · rw [map_fz]; exact (hr.mono g'.s0).toRtl
      · grind
      · grind
      · intro x hx
        by_cases q : x = a
        · rw [q]; exact hWa
        · have := fw' x (by grind)
          rw [sW x q] at this; exact this
    exact g2.back es
def mForB (i : Nat) (b : BM) (body : SM) : SM := fun ρ => match ρ[i]? with
  | some (some (.ol ts)) => match forL b body (ts.map T.fz) (ρ.set i none) with
    | .nx ρ' => .nx (ρ'.set i (some (.ol (ts.map T.fz))))
    | r => r
  | _ => .bad
/-- a stable heap for the walk -/
theorem jok_mono {Z : Hp} {J : It} (h : JOk S J its) (e : Same S Z) : ∀ i H x H', Same Z H → i < its.length → J.yld i H x H' → ∃ t, its[i]? = some t ∧ ((H' = H ∧ ∃ d, t = .sh d ∧ Rp S d x) ∨ ∃ p es vs, t = .ot (es.map .sh) ∧ x = .ref p ∧ H p = none ∧ H' = upd H p (.tup vs) ∧ Rpl S es vs) := fun i H x H' s => h.yld i H x H' (e.trans s)
theorem yld_list {a : Addr} {l : List D} {xs : List V} (hH : H a = some (.lst xs)) (r : Rpl S l xs) {x : V} (hi : i < l.length) (y : (Itl K a).yld i H x H') : ∃ t, (l.map T.sh)[i]? = some t ∧ ((H' = H ∧ ∃ d, t = .sh d ∧ Rp S d x) ∨ ∃ p es vs, t = .ot (es.map .sh) ∧ x = .ref p ∧ H p = none ∧ H' = upd H p (.tup vs) ∧ Rpl S es vs) := by
  obtain ⟨e1, y⟩ := y
  have hx := y xs (.of hH)
  obtain ⟨v, e2, e3⟩ := r.get (List.getElem?_eq_getElem hi)
  rw [hx] at e2
  cases e2
  exact ⟨.sh l[i], by simp [hi], .inl ⟨e1, _, rfl, e3⟩⟩
theorem ss_forB {slots : List Nat} {g : TG} {tb : TS} {b : BM} {body : SM} (hg : SG slots g b) (hs : ∀ j ∈ slots, j ∉ i :: pin) (hb : SS ct Wx (i :: pin) tb body) : SS ct Wx pin (tFor (iSeq K (tVar i)) g tb) (mForB i b body) := fun W S0 σ0 ρ σ H D gx p k => by
  unfold mForB at k
  split at k
  case h_2 => exact k.elim
  rename_i ts e0
  obtain ⟨a, xs, S, ea, hH, hr, hu, hSa, hWa, gN, out1, out2⟩ := gx.aside e0
  have hlen : xs.length = ts.length := by have := hr.len; simpa using this
  refine ⟨.ref a, ea, a, rfl, .inl ⟨⟨xs, .of hH⟩, ?_⟩⟩
  have pinI : ∀ σ', Pin (i :: pin) σ σ' → Pin pin σ0 σ' ∧ σ'[i]? = some (some (.ref a)) := fun σ' q => ⟨fun j hj => (q j (by simp [hj])).trans (p j hj), (q i (by simp)).trans ea⟩
  refine for_list (xs := xs) (fun n σ' H' => ∃ ρ', GX (also W H a) S ρ' σ' [] [] H' ∧ Pin (i :: pin) σ σ' ∧ n ≤ ts.length ∧ (match forL b body ((ts.map T.fz).drop n) ρ' with
      | .nx ρ' => SK ct Wx W S0 pin σ0 D (.nx (ρ'.set i (some (.ol (ts.map T.fz)))))
      | r => SK ct Wx W S0 pin σ0 D r)) ⟨_, gN, Pin.refl, Nat.zero_le _, ?_⟩ ?_ ?_ ?_
  · simp only [List.drop_zero]
    generalize forL b body (ts.map T.fz) (ρ.set i none) = o at k ⊢
    cases o <;> exact k
  · rintro n σ' H' _ ⟨ρ', g', _⟩
    exact .of (g'.outer a _ (by rw [also_at]; exact hH))
  · rintro n x σ' H' hx ⟨ρ', g', p', hn, k'⟩
    have hlt : n < ts.length := by have := (List.getElem?_eq_some_iff.mp hx).1; omega
    have hH' : H' a = some (.lst xs) := g'.outer a _ (by rw [also_at]; exact hH)
    obtain ⟨w, e2, e3⟩ := hr.get (i := n) (d := (ts[n]).d) (by simp [hlt])
    rw [hx] at e2
    cases e2
    rw [List.drop_eq_getElem_cons (by simpa using hlt), List.getElem_map] at k'
    unfold forL at k'
    generalize hbt : b (T.fz ts[n]) ρ' = ob at k'
    cases ob with
    | none => exact k'.elim
    | some ρ2 =>
      simp only at k'
      obtain ⟨S1, as1, bs1, g1⟩ := g'
      refine hg _ S ρ' σ' [] [] H' _ x ρ2 (g1.pushS (e3.mono g1.s0)) hbt _ fun σ2 g2 ew => ?_
      refine hb _ S σ ρ2 σ2 H' _ g2 (p'.wipe ew hs) ?_
      generalize body ρ2 = o at k'
      cases o with
      | bad => exact k'
      | nx ρ3 => exact fun σ3 H3 g3 p3 => ⟨ρ3, g3, p3, hlt, k'⟩
      | ct ρ3 => exact fun σ3 H3 g3 p3 => ⟨ρ3, g3, p3, hlt, k'⟩
      | bk ρ3 => exact fun σ3 H3 g3 p3 => k' σ3 H3 (out2 _ _ _ _ _ g3 (pinI _ p3).2) (pinI _ p3).1
      | rt t' ρ3 => exact fun v3 σ3 H3 g3 p3 => k' v3 σ3 H3 (out1 _ _ _ _ _ g3) (pinI _ p3).1
      | ex x' ρ3 => exact fun c3 d3 σ3 H3 g3 p3 hx3 => k' c3 d3 σ3 H3 (out1 _ _ _ _ _ g3) (pinI _ p3).1 hx3
  · rintro σ' H' ⟨ρ', g', p', hn, k'⟩
    rw [hlen, List.drop_eq_nil_of_le (by simp)] at k'
    exact k' σ' H' (out2 _ _ _ _ _ g' (pinI _ p').2) (pinI _ p').1
def eLCB (slots : List Nat) (i : Nat) (b : BM) (tst : EMb) (elt : EM) : EM := fun ρ => match ρ[i]? with
  | some (some (.ol ts)) => ((lcL slots b tst elt (ts.map T.fz) [] (wipeE (ρ.set i none) slots)).nox).bnd fun acc ρ2 => .ok (.ol acc) ((keepE (ρ.set i none) slots (wipeE ρ2 slots)).set i (some (.ol (ts.map T.fz))))
  | _ => .bad
theorem se_lcB {slots : List Nat} {g : TG} {tt : TT} {te : TE} {b : BM} {tst : EMb} {elt : EM} (hg : SG slots g b) (ht : SET ct NoX tt tst) (he : SE ct NoX te elt) : SE ct Wx (tLc (iSeq K (tVar i)) g tt te slots) (eLCB slots i b tst elt) := fun W S0 ρ σ tm vm H Q gx k => by
  unfold eLCB at k
  split at k
  case h_2 => exact k.elim
  rename_i ts e0
  obtain ⟨a, xs, S, ea, hH, hr, hu, hSa, hWa, gN, out1, out2⟩ := gx.aside e0
  have hlen : xs.length = ts.length := by have := hr.len; simpa using this
  have k2 := P_nox (Ψ' := fun _ _ => False) (Out.P_bnd.mp k)
  refine ⟨.ref a, ea, a, rfl, .inl ⟨⟨xs, .of hH⟩, ?_⟩⟩
  intro D hD
  obtain ⟨S1, as, bs, hu1, g1⟩ := gN.up
  have hk : ∀ (j : Nat) d, (ρ.set i none)[j]? = some (some (.sh d)) → ∃ v, σ[j]? = some (some v) ∧ Rp S1 d v := fun j d e => by
    obtain ⟨v, b, c, d', e1, _, ⟨_, e3⟩, _⟩ := g1.re.at e
    exact ⟨v, e1, e3⟩
  have g2 : GX (also W H a) S1 (wipeE (ρ.set i none) slots) (wipe σ slots) (.ol [] :: tm) (.ref D :: vm) (upd H D (.lst [])) := GX.wipe (GX.newL (ts := []) (vs := []) ⟨S1, as, bs, g1⟩ rfl hD)
  have hr1 := hr.mono hu1.1
  refine lc_list (xs := xs) (fun n H' => n ≤ ts.length ∧ ∃ ρ' acc, GX (also W H a) S1 ρ' (wipe σ slots) (.ol acc :: tm) (.ref D :: vm) H' ∧ (lcL slots b tst elt ((ts.map T.fz).drop n) acc ρ').P (fun acc ρ2 => ∀ H', GX (also W H a) S1 (wipeE ρ2 slots) (wipe σ slots) (.ol acc :: tm) (.ref D :: vm) H' → Q (.ref D) H') (fun _ _ => False)) ?_ ?_ ?_ ?_
  · refine ⟨Nat.zero_le _, _, [], g2, k2.mono (fun acc ρ2 k3 H' g3 => ?_) fun _ _ h => h⟩
    exact k3 (.ref D) H' (out2 _ _ _ _ _ ((GX.keep g3 hk).join hu1) ea)
  · rintro n H' _ ⟨_, ρ', acc, g', _⟩
    exact .of (g'.outer a _ (by rw [also_at]; exact hH))
  · rintro n x H' hx ⟨hle, ρ', acc, g', k'⟩
    have hlt : n < ts.length := by have := (List.getElem?_eq_some_iff.mp hx).1; omega
    obtain ⟨w, e2, e3⟩ := hr1.get (i := n) (d := (ts[n]).d) (by simp [hlt])
    rw [hx] at e2
    cases e2
    rw [List.drop_eq_getElem_cons (by simpa using hlt), List.getElem_map] at k'
    unfold lcL at k'
    generalize hbt : b (T.fz ts[n]) ρ' = ob at k'
    cases ob with
    | none => exact k'.elim
    | some ρ2 =>
    simp only at k'
    obtain ⟨S2, as2, bs2, gg⟩ := g'
    refine hg _ S1 ρ' _ _ _ H' _ x ρ2 (gg.pushS (e3.mono gg.s0)) hbt _ fun σ2 g2 ew => ?_
    rw [wipe_wipe] at ew
    refine ⟨ew, ht _ S1 ρ2 σ2 _ _ H' _ g2 ((Out.P_bnd.mp k').mono (fun c ρ3 k3 H3 g3 => ?_) fun _ _ h => h.elim)⟩
    cases c with
    | false =>
      refine ⟨hlt, wipeE ρ3 slots, acc, ?_, k3⟩
      have := GX.wipe (slots := slots) g3
      rw [ew] at this
      exact this
    | true =>
      rw [if_pos rfl] at k3
      refine he _ S1 ρ3 σ2 _ _ H3 _ g3 ((Out.P_bnd.mp k3).mono (fun u ρ4 k4 yv H4 g4 => ?_) fun _ _ h => h.elim)
      obtain ⟨hz, k4⟩ := P_ite k4
      have g5 : GX (also W H a) S1 ρ4 σ2 (.ol acc :: u :: tm) (.ref D :: yv :: vm) H4 := GX.rot (ts := [u]) (vs := [yv]) g4 rfl
      obtain ⟨a', xs', e5, h1, h2, mk⟩ := g5.mutL
      cases e5
      refine ⟨xs', h1, lim_lt (by omega), hlt, wipeE ρ4 slots, acc ++ [u], ?_, k4⟩
      have g6 := mk (acc ++ [u]) tm (xs' ++ [yv]) vm (fun S H b c hb hc => by
        obtain ⟨v', r, c1, c2, h3, rfl, h4, h5⟩ := hc
        cases h3
        have h6 : Rtl S H [u] [yv] c1 := ⟨yv, [], c1, [], rfl, by simp, h4, rfl, rfl⟩
        exact ⟨b ++ c1, c2, hb.append h6, h5, by grind, by grind⟩)
      have := GX.wipe (slots := slots) g6
      rw [ew] at this
      exact this
  · rintro H' ⟨_, ρ', acc, g', k'⟩
    rw [hlen, List.drop_eq_nil_of_le (by simp)] at k'
    refine k' H' ?_
    have := GX.wipe (slots := slots) g'
    rw [wipe_wipe] at this
    exact this
/-! ### a fresh value shared at once -/
def eFz (m : EM) : EM := fun ρ => (m ρ).bnd fun u ρ => .ok u.fz ρ
theorem se_fz {te : TE} {m : EM} (h : SE ct Wx te m) : SE ct Wx te (eFz m) := fun W S0 ρ σ tm vm H Q g k => h W S0 ρ σ tm vm H Q g ((Out.P_bnd.mp k).mono (fun t ρ1 k1 v H1 g1 => k1 v H1 g1.frz) fun _ _ h => h)
end
end Z

namespace Z
noncomputable section
open PySem L2
/-! ### lists of ints -/
def ig (i : Int) : T := .sh (.int i)
@[simp] theorem ig_app (i : Int) : ig i = .sh (.int i) := rfl
abbrev si (i : Int) : T := .sh (.int i)
abbrev T.ints (l : List Int) : T := .ol (l.map ig)
abbrev D.ints (l : List Int) : D := .lst (l.map .int)
abbrev shi (l : List Int) : T := .sh (D.ints l)
@[simp] theorem dl_nil : dl [] = [] := rfl
@[simp] theorem dl_cons (t : T) (l : List T) : dl (t :: l) = t.d :: dl l := rfl
@[simp] theorem dl_app (l m : List T) : dl (l ++ m) = dl l ++ dl m := by simp [dl_eq]
@[simp] theorem dl_ig (l : List Int) : dl (l.map ig) = l.map D.int := by rw [dl_eq, List.map_map]; rfl
@[simp] theorem dl_set (l : List T) (k : Nat) (t : T) : dl (l.set k t) = (dl l).set k t.d := by simp [dl_eq]
@[simp] theorem sh_d (d : D) : (T.sh d).d = d := rfl
@[simp] theorem ol_d (l : List T) : (T.ol l).d = .lst (dl l) := rfl
@[simp] theorem ot_d (l : List T) : (T.ot l).d = .tup (dl l) := rfl
@[simp] theorem fz_def (t : T) : T.fz t = .sh t.d := rfl
@[simp] theorem els_ol (l : List T) : (T.ol l).els = some l := rfl
@[simp] theorem els_sh (l : List D) : (T.sh (.lst l)).els = some (l.map .sh) := rfl
@[simp] theorem kids_ol (l : List T) : (T.ol l).kids = some l := rfl
@[simp] theorem kids_sh (l : List D) : (T.sh (.lst l)).kids = some (l.map .sh) := rfl
@[simp] theorem shs_sh (l : List D) : (T.sh (.lst l)).shs = some l := rfl
@[simp] theorem shs_ol (l : List T) : (T.ol l).shs = shsL l := rfl
@[simp] theorem shsL_ig (l : List Int) : shsL (l.map ig) = some (l.map .int) := by
  induction l with
  | nil => rfl
  | cons a l ih => simp only [List.map_cons, ig_app, shsL, ih, Option.map_some]
@[simp] theorem shsL_nil : shsL [] = some [] := rfl
@[simp] theorem shsL_cons (d : D) (l : List T) : shsL (.sh d :: l) = (shsL l).map (d :: ·) := rfl
@[simp] theorem shsL_app (l m : List T) : shsL (l ++ m) = (shsL l).bind fun a => (shsL m).map (a ++ ·) := by
  induction l with
  | nil => cases h : shsL m <;> simp [shsL, h]
  | cons t l ih =>
    cases t <;> simp [shsL, ih]
    cases shsL l <;> simp
    cases shsL m <;> simp
@[simp] theorem map_sh_int (l : List Int) : (l.map D.int).map T.sh = l.map ig := by rw [List.map_map]; rfl
@[simp] theorem lst_lst (l : List D) : (D.lst l).lstO = some l := rfl
@[simp] theorem seq_lst (l : List D) : (D.lst l).seq = some l := rfl
@[simp] theorem int_int (i : Int) : (D.int i).intO = some i := rfl
@[simp] theorem tru_bool (b : Bool) : (D.bl b).tru = some b := rfl
@[simp] theorem scal_int (i : Int) : (D.int i).scal = true := rfl
@[simp] theorem scal_bl (i : Bool) : (D.bl i).scal = true := rfl
@[simp] theorem scal_str (i : Str) : (D.str i).scal = true := rfl
@[simp] theorem scal_non : D.non.scal = true := rfl
@[simp] theorem len_lst (l : List D) : oLen (.lst l) = some (.int l.length) := rfl
@[simp] theorem dl_len (l : List T) : (dl l).length = l.length := by simp [dl_eq]
@[simp] theorem int_o (i : Int) : oInt (.int i) = some (.int i) := rfl
@[simp] theorem add_int (i j : Int) : oAdd (.int i) (.int j) = some (.int (i + j)) := rfl
@[simp] theorem sub_int (i j : Int) : oSub (.int i) (.int j) = some (.int (i - j)) := rfl
@[simp] theorem lt_int (i j : Int) : oLt (.int i) (.int j) = some (.bl (decide (i < j))) := rfl
@[simp] theorem le_int (i j : Int) : oLe (.int i) (.int j) = some (.bl (decide (i ≤ j))) := rfl
@[simp] theorem gt_int (i j : Int) : oGt (.int i) (.int j) = some (.bl (decide (j < i))) := rfl
@[simp] theorem ge_int (i j : Int) : oGe (.int i) (.int j) = some (.bl (decide (j ≤ i))) := rfl
@[simp] theorem eq_int (a b : Int) : oEq (.int a) (.int b) = some (.bl (a == b)) := rfl
@[simp] theorem ne_int (a b : Int) : oNe (.int a) (.int b) = some (.bl (!(a == b))) := rfl
@[simp] theorem eq_bl (a b : Bool) : oEq (.bl a) (.bl b) = some (.bl (a == b)) := rfl
@[simp] theorem ne_bl (a b : Bool) : oNe (.bl a) (.bl b) = some (.bl (!(a == b))) := rfl
@[simp] theorem neg_int (a : Int) : oNeg (.int a) = some (.int (-a)) := rfl
@[simp] theorem max_int (i j : Int) : oMax2 (.int i) (.int j) = some (.int (if j > i then j else i)) := rfl
@[simp] theorem min_int (i j : Int) : oMin2 (.int i) (.int j) = some (.int (if j < i then j else i)) := rfl
theorem mod_int {i j : Int} (h : 0 < j) : oMod (.int i) (.int j) = some (.int (i % j)) := by
  show (if 0 < j then some (D.int (i % j)) else none) = _
  rw [if_pos h]
theorem mul_int {i j : Int} (h : smallM i j) : oMul (.int i) (.int j) = some (.int (i * j)) := by
  show (if smallM i j then some (D.int (i * j)) else none) = _
  rw [if_pos h]
theorem small_r {i j : Int} (h : -(2 ^ 64) < j ∧ j < 2 ^ 64) : smallM i j := .inr (.inl h)
theorem small_l {i j : Int} (h : -(2 ^ 64) < i ∧ i < 2 ^ 64) : smallM i j := .inl h
theorem log_lt {j : Int} (h0 : 0 < j) (h1 : j < 2 ^ 60) : j.natAbs.log2 < 9000 := by
  have h2 : j.natAbs < 2 ^ 60 := by omega
  have := (Nat.log2_lt (n := j.natAbs) (k := 60) (by omega)).mpr h2
  omega
theorem div_int {i j : Int} (h : 0 < j) (h1 : j < 2 ^ 60) : oDiv (.int i) (.int j) = some (.int (i / j)) := by
  show (if smallD i j then some (D.int (i / j)) else none) = _
  rw [if_pos ⟨h, log_lt h h1⟩]
theorem atI_ok {α : Type} {l : List α} {i : Int} (h0 : 0 ≤ i) (h1 : i < l.length) : atI l i = l[i.toNat]? := by
  unfold atI ixN
  rw [if_pos h0, if_pos h1]
  rfl
theorem atI_D (l : List Int) {i : Int} (h0 : 0 ≤ i) (h1 : i < l.length) : atI (l.map D.int) i = some (.int (l.getD i.toNat 0)) := by
  rw [atI_ok h0 (by simpa using h1), List.getElem?_map, List.getD_eq_getElem?_getD]
  have : i.toNat < l.length := by omega
  simp [this]
theorem atI_T (l : List Int) {i : Int} (h0 : 0 ≤ i) (h1 : i < l.length) : atI (l.map ig) i = some (.sh (.int (l.getD i.toNat 0))) := by
  rw [atI_ok h0 (by simpa using h1), List.getElem?_map, List.getD_eq_getElem?_getD]
  have : i.toNat < l.length := by omega
  simp [this]
@[simp] theorem oIx_lst (l : List D) (i : Int) : oIx (.lst l) (.int i) = atI l i := rfl
@[simp] theorem oIx_tup (l : List D) (i : Int) : oIx (.tup l) (.int i) = atI l i := rfl
@[simp] theorem atI_zero {α : Type} (a : α) (l : List α) : atI (a :: l) 0 = some a := by
  rw [atI_ok (by omega) (by simp <;> omega)]; rfl
theorem atI_nat {α : Type} (l : List α) (k : Nat) : atI l (k : Int) = l[k]? := by
  by_cases h : k < l.length
  · rw [atI_ok (by omega) (by omega)]; simp
  · unfold atI ixN
    rw [if_pos (by omega), if_neg (by omega), List.getElem?_eq_none (by omega)]
    rfl
theorem ixN_ok {n : Nat} {i : Int} (h0 : 0 ≤ i) (h1 : i < n) : ixN n i = some i.toNat := by
  unfold ixN
  rw [if_pos h0, if_pos h1]
@[simp] theorem ixN_zero {n : Nat} : ixN (n + 1) 0 = some 0 := ixN_ok (by omega) (by omega)
@[simp] theorem cut_map {α β : Type} (f : α → β) (l : List α) (a b : Option Int) : cutD (l.map f) a b = (cutD l a b).map f := by
  unfold cutD
  rw [List.length_map, List.map_take, List.map_drop]
theorem cut_to {α : Type} (l : List α) {i : Int} (h0 : 0 ≤ i) (h1 : i ≤ l.length) : cutD l none (some i) = l.take i.toNat := by
  unfold cutD HT.sIx
  simp only
  rw [if_neg (by omega), Nat.min_eq_left (by omega)]
  simp
theorem cut_from {α : Type} (l : List α) {i : Int} (h0 : 0 ≤ i) (h1 : i ≤ l.length) : cutD l (some i) none = l.drop i.toNat := by
  unfold cutD HT.sIx
  simp only
  rw [if_neg (by omega), Nat.min_eq_left (by omega)]
  rw [List.take_of_length_le (by simp)]
theorem rangeT_get {lo : Int} {n k : Nat} {t : T} (h : (rangeT lo n)[k]? = some t) : k < n ∧ t = si (lo + k) := by
  unfold rangeT at h
  rw [List.getElem?_map] at h
  obtain ⟨j, e, rfl⟩ := Option.map_eq_some_iff.mp h
  have := List.getElem?_eq_some_iff.mp e
  obtain ⟨h1, h2⟩ := this
  simp at h1 h2
  subst h2
  exact ⟨h1, rfl⟩
def iota (n : Nat) : List Int := (List.range n).map fun k : Nat => (k : Int)
@[simp] theorem iota_len (n : Nat) : (iota n).length = n := by simp [iota]
@[simp] theorem rangeT_iota (n : Nat) : rangeT 0 n = (iota n).map ig := by
  unfold rangeT iota
  rw [List.map_map]
  congr 1
  funext k
  simp
theorem iota_get (n k : Nat) (h : k < n) : (iota n)[k]? = some (k : Int) := by simp [iota, h]
theorem iota_getD (n k : Nat) (h : k < n) : (iota n).getD k 0 = (k : Int) := by simp [iota, h]
/-! ### running: what the combinators come to -/
@[simp] theorem bnd_ok {α β : Type} (a : α) (ρ : Env) (f : α → Env → Out β) : (Out.ok a ρ).bnd f = f a ρ := rfl
@[simp] theorem st_ok {α : Type} (a : α) (ρ : Env) (f : α → Env → SOut) : (Out.ok a ρ).st f = f a ρ := rfl
@[simp] theorem optO_some {α : Type} (a : α) (ρ : Env) : optO (some a) ρ = .ok a ρ := rfl
@[simp] theorem nox_ok {α : Type} (a : α) (ρ : Env) : (Out.ok a ρ).nox = .ok a ρ := rfl
/-! ### loops -/
theorem forL_inv {b : BM} {body : SM} : ∀ {its : List T} {ρ : Env} (I : Nat → Env → Prop) (_ : I 0 ρ) (_ : ∀ k t ρ, its[k]? = some t → I k ρ → ∃ ρ1 ρ2, b t ρ = some ρ1 ∧ (body ρ1 = .nx ρ2 ∨ body ρ1 = .ct ρ2) ∧ I (k + 1) ρ2),
    ∃ ρ', forL b body its ρ = .nx ρ' ∧ I its.length ρ'
  | [], ρ, I, h0, _ => ⟨ρ, rfl, h0⟩
  | t :: its, ρ, I, h0, hs => by
    obtain ⟨ρ1, ρ2, e1, e2, h2⟩ := hs 0 t ρ rfl h0
    obtain ⟨ρ', e3, h3⟩ := forL_inv (its := its) (fun k => I (k + 1)) h2 fun k t' ρ' e i => hs (k + 1) t' ρ' (by simpa using e) i
    refine ⟨ρ', ?_, h3⟩
    unfold forL
    rw [e1]
    simp only
    rcases e2 with e2 | e2 <;> rw [e2] <;> exact e3
/-- .. over a name's values -/
theorem forN_inv {i : Nat} {body : SM} {its : List T} {ρ : Env} (I : Nat → Env → Prop) (h0 : I 0 ρ) (hs : ∀ k t ρ, its[k]? = some t → I k ρ → ∃ ρ2, (body (ρ.set i (some t)) = .nx ρ2 ∨ body (ρ.set i (some t)) = .ct ρ2) ∧ I (k + 1) ρ2) :
    ∃ ρ', forL (bName i) body its ρ = .nx ρ' ∧ I its.length ρ' :=
  forL_inv I h0 fun k t ρ e h => by
    obtain ⟨ρ2, h1, h2⟩ := hs k t ρ e h
    exact ⟨_, ρ2, rfl, h1, h2⟩
theorem lcL_inv {slots : List Nat} {b : BM} {tst : EMb} {elt : EM} : ∀ {its acc : List T} {ρ : Env} (I : Nat → List T → Env → Prop) (_ : I 0 acc ρ)
    (_ : ∀ k t acc ρ, its[k]? = some t → I k acc ρ → ∃ ρ1 ρ2, b t ρ = some ρ1 ∧ ((∃ u ρ3, tst ρ1 = .ok true ρ2 ∧ elt ρ2 = .ok u ρ3 ∧ acc.length < lim ∧ I (k + 1) (acc ++ [u]) (wipeE ρ3 slots)) ∨ (tst ρ1 = .ok false ρ2 ∧ I (k + 1) acc (wipeE ρ2 slots)))),
    ∃ acc' ρ', lcL slots b tst elt its acc ρ = .ok acc' ρ' ∧ I its.length acc' ρ'
  | [], acc, ρ, I, h0, _ => ⟨acc, ρ, rfl, h0⟩
  | t :: its, acc, ρ, I, h0, hs => by
    obtain ⟨ρ1, ρ2, e1, e2⟩ := hs 0 t acc ρ rfl h0
    unfold lcL
    rw [e1]
    simp only
    rcases e2 with ⟨u, ρ3, e2, e3, hz, h2⟩ | ⟨e2, h2⟩
    · rw [e2]
      simp only [Out.bnd, if_pos, e3, if_pos hz]
      exact lcL_inv (its := its) (fun k => I (k + 1)) h2 fun k t' acc' ρ' e i => hs (k + 1) t' acc' ρ' (by simpa using e) i
    · rw [e2]
      simp only [Out.bnd]
      exact lcL_inv (its := its) (fun k => I (k + 1)) h2 fun k t' acc' ρ' e i => hs (k + 1) t' acc' ρ' (by simpa using e) i
/-- a comprehension whose items leave all else as it is -/
theorem lcL_map {slots : List Nat} {b : BM} {elt : EM} {ρ : Env} (f : T → T) : ∀ {its acc : List T} (_ : ∀ t ∈ its, ∃ ρ1 ρ2, b t ρ = some ρ1 ∧ elt ρ1 = .ok (f t) ρ2 ∧ wipeE ρ2 slots = ρ) (_ : acc.length + its.length ≤ lim),
    lcL slots b tAll elt its acc ρ = .ok (acc ++ its.map f) ρ
  | [], acc, _, _ => by simp [lcL]
  | t :: its, acc, h, hz => by
    obtain ⟨ρ1, ρ2, e1, e2, e3⟩ := h t (by simp)
    unfold lcL
    simp only [List.length_cons] at hz
    rw [e1]
    simp only [tAll, Out.bnd, if_pos, e2, e3, if_pos (show acc.length < lim by omega)]
    have := lcL_map f (its := its) (acc := acc ++ [f t]) (fun t' h' => h t' (by simp [h'])) (by simp; omega)
    rw [this]
    simp
end
end Z

namespace Z
noncomputable section
open PySem L2
@[simp ↓] theorem pV_run (i : Nat) (ρ : Env) : pV i ρ = (match ρ[i]? with
  | some (some t) => some t.d
  | _ => none) := rfl
@[simp ↓] theorem pC_run (d : D) (ρ : Env) : pC d ρ = (some d) := rfl
@[simp ↓] theorem pOp_run (o : D → D → Option D) (a b : PM) (ρ : Env) : pOp o a b ρ = ((a ρ).bind fun x => (b ρ).bind fun y => o x y) := rfl
@[simp ↓] theorem pUn_run (o : D → Option D) (a : PM) (ρ : Env) : pUn o a ρ = ((a ρ).bind o) := rfl
@[simp ↓] theorem pIf_run (t : TM) (a b : PM) (ρ : Env) : pIf t a b ρ = ((t ρ).bind fun c => if c = true then a ρ else b ρ) := rfl
@[simp ↓] theorem pB_run (a : PM) (ρ : Env) : pB a ρ = ((a ρ).bind D.tru) := rfl
@[simp ↓] theorem qAnd_run (a b : TM) (ρ : Env) : qAnd a b ρ = ((a ρ).bind fun c => if c = true then b ρ else some false) := rfl
@[simp ↓] theorem qOr_run (a b : TM) (ρ : Env) : qOr a b ρ = ((a ρ).bind fun c => if c = true then some true else b ρ) := rfl
@[simp ↓] theorem qNot_run (a : TM) (ρ : Env) : qNot a ρ = ((a ρ).map (!·)) := rfl
@[simp ↓] theorem pAndV_run (a b : PM) (ρ : Env) : pAndV a b ρ = ((a ρ).bind fun x => x.tru.bind fun c => if c = true then b ρ else some (.bl false)) := rfl
@[simp ↓] theorem pOrV_run (a b : PM) (ρ : Env) : pOrV a b ρ = ((a ρ).bind fun x => x.tru.bind fun c => if c = true then some (.bl true) else b ρ) := rfl
@[simp ↓] theorem pNotV_run (a : PM) (ρ : Env) : pNotV a ρ = ((a ρ).bind fun x => x.tru.bind fun c => some (.bl (!c))) := rfl
@[simp ↓] theorem pChain_run (o o' : D → D → Option D) (a b c : PM) (ρ : Env) : pChain o o' a b c ρ = ((a ρ).bind fun x => (b ρ).bind fun y => (o x y).bind fun z => z.tru.bind fun k => if k = true then (c ρ).bind fun w => o' y w else some (.bl false)) := rfl
@[simp ↓] theorem aNil_run (ρ : Env) : aNil  ρ = (some []) := rfl
@[simp ↓] theorem aCons_run (a : PM) (b : AM) (ρ : Env) : aCons a b ρ = ((a ρ).bind fun x => (b ρ).bind fun y => some (x :: y)) := rfl
@[simp ↓] theorem pCB_run (o : List D → Option D) (a : AM) (ρ : Env) : pCB o a ρ = ((a ρ).bind o) := rfl
@[simp ↓] theorem pLst_run (a : AM) (ρ : Env) : pLst a ρ = ((a ρ).bind fun l => if l.length ≤ lim then some (.lst l) else none) := rfl
@[simp ↓] theorem pTup_run (a : AM) (ρ : Env) : pTup a ρ = ((a ρ).bind fun l => if l.length ≤ lim then some (.tup l) else none) := rfl
@[simp ↓] theorem pIsi_run (t : Ty) (a : PM) (ρ : Env) : pIsi t a ρ = ((a ρ).map fun d => .bl (d.isi t)) := rfl
@[simp ↓] theorem eP_run (p : PM) (ρ : Env) : eP p ρ = (match p ρ with
  | some d => if d.scal = true then .ok (.sh d) ρ else .bad
  | none => .bad) := rfl
@[simp ↓] theorem eV_run (i : Nat) (ρ : Env) : eV i ρ = (match ρ[i]? with
  | some (some (.sh d)) => .ok (.sh d) ρ
  | some (some t) => .ok (.sh t.d) (ρ.set i (some (.sh t.d)))
  | _ => .bad) := rfl
@[simp ↓] theorem eM_run (i : Nat) (ρ : Env) : eM i ρ = (match ρ[i]? with
  | some (some t) => .ok t (ρ.set i none)
  | _ => .bad) := rfl
@[simp ↓] theorem eNil_run (ρ : Env) : eNil  ρ = (.ok [] ρ) := rfl
@[simp ↓] theorem eCons_run (a : EM) (b : EMs) (ρ : Env) : eCons a b ρ = ((a ρ).bnd fun t ρ => (b ρ).bnd fun ts ρ => .ok (t :: ts) ρ) := rfl
@[simp ↓] theorem eLst_run (a : EMs) (ρ : Env) : eLst a ρ = ((a ρ).bnd fun ts ρ => if ts.length ≤ lim then .ok (.ol ts) ρ else .bad) := rfl
@[simp ↓] theorem eTup_run (a : EMs) (ρ : Env) : eTup a ρ = ((a ρ).bnd fun ts ρ => if ts.length ≤ lim then .ok (.ot ts) ρ else .bad) := rfl
@[simp ↓] theorem eOp_run (o : T → T → Option T) (a b : EM) (ρ : Env) : eOp o a b ρ = ((a ρ).bnd fun t ρ => (b ρ).bnd fun u ρ => optO (o t u) ρ) := rfl
@[simp ↓] theorem eCB_run (o : List T → Option T) (a : EMs) (ρ : Env) : eCB o a ρ = ((a ρ).bnd fun ts ρ => optO (o ts) ρ) := rfl
@[simp ↓] theorem vV_run (i : Nat) (ρ : Env) : vV i ρ = (match ρ[i]? with
  | some (some t) => some t
  | _ => none) := rfl
@[simp ↓] theorem vIx_run (a : Env → Option T) (p : PM) (ρ : Env) : vIx a p ρ = ((a ρ).bind fun t => (p ρ).bind fun d => d.intO.bind fun i => t.kids.bind fun l => atI l i) := rfl
@[simp ↓] theorem eGet_run (a : Env → Option T) (ρ : Env) : eGet a ρ = (match a ρ with
  | some (.sh d) => .ok (.sh d) ρ
  | _ => .bad) := rfl
@[simp ↓] theorem oNo_run (ρ : Env) : oNo  ρ = (some none) := rfl
@[simp ↓] theorem oYes_run (p : PM) (ρ : Env) : oYes p ρ = ((p ρ).bind fun d => d.intO.map some) := rfl
@[simp ↓] theorem eList_run (a : Env → Option T) (ρ : Env) : eList a ρ = (optO ((a ρ).bind fun t => t.shsU.bind fun ds => some (.ol (ds.map .sh))) ρ) := rfl
@[simp ↓] theorem eB_run (a : EM) (ρ : Env) : eB a ρ = ((a ρ).bnd fun t ρ => optO (t.d.tru) ρ) := rfl
@[simp ↓] theorem eT_run (t : TM) (ρ : Env) : eT t ρ = (optO (t ρ) ρ) := rfl
@[simp ↓] theorem eAnd_run (a b : EMb) (ρ : Env) : eAnd a b ρ = ((a ρ).bnd fun c ρ => if c = true then b ρ else .ok false ρ) := rfl
@[simp ↓] theorem eOr_run (a b : EMb) (ρ : Env) : eOr a b ρ = ((a ρ).bnd fun c ρ => if c = true then .ok true ρ else b ρ) := rfl
@[simp ↓] theorem eNot_run (a : EMb) (ρ : Env) : eNot a ρ = ((a ρ).bnd fun c ρ => .ok (!c) ρ) := rfl
@[simp ↓] theorem eAndV_run (a b : EM) (ρ : Env) : eAndV a b ρ = ((a ρ).bnd fun t ρ => match t.d.tru with
  | some true => b ρ
  | some false => .ok (.sh (.bl false)) ρ
  | none => .bad) := rfl
@[simp ↓] theorem eOrV_run (a b : EM) (ρ : Env) : eOrV a b ρ = ((a ρ).bnd fun t ρ => match t.d.tru with
  | some false => b ρ
  | some true => .ok (.sh (.bl true)) ρ
  | none => .bad) := rfl
@[simp ↓] theorem eNotV_run (a : EM) (ρ : Env) : eNotV a ρ = ((a ρ).bnd fun t ρ => optO (t.d.tru.map fun c => .sh (.bl (!c))) ρ) := rfl
@[simp ↓] theorem eIf_run (c : EMb) (a b : EM) (ρ : Env) : eIf c a b ρ = ((c ρ).bnd fun k ρ => if k = true then a ρ else b ρ) := rfl
@[simp ↓] theorem eCall_run (n : Nat) (F : FM) (a : EMs) (ρ : Env) : eCall n F a ρ = ((a ρ).bnd fun ts ρ => if ts.length = n then match F (ts.map T.fz) with
  | .ok t ts' => if ts'.length = n then .ok t ρ else .bad
  | .ex x => .ex x ρ
  | .bad => .bad else .bad) := rfl
@[simp ↓] theorem eCallI_run (n i : Nat) (F : FM) (a : EMs) (ρ : Env) : eCallI n i F a ρ = (match ρ[i]? with
  | some (some _) => (a ρ).bnd fun ts ρ => match ρ[i]? with
    | some (some t0) => if ts.length + 1 = n then match F (t0 :: ts.map T.fz) with
      | .ok t (t1 :: ts') => if ts'.length + 1 = n then .ok t (ρ.set i (some t1)) else .bad
      | .ex x => .ex x (ρ.set i none)
      | _ => .bad else .bad
    | _ => .bad
  | _ => .bad) := rfl
@[simp ↓] theorem pCall_run (n : Nat) (F : FM) (a : AM) (ρ : Env) : pCall n F a ρ = ((a ρ).bind fun ds => if ds.length = n then match F (ds.map T.sh) with
  | .ok t ts' => if ts'.length = n then some t.d else none
  | _ => none else none) := rfl
@[simp ↓] theorem mSeq_run (a b : SM) (ρ : Env) : mSeq a b ρ = (match a ρ with
  | .nx ρ => b ρ
  | r => r) := rfl
@[simp ↓] theorem mNil_run (ρ : Env) : mNil  ρ = (.nx ρ) := rfl
@[simp ↓] theorem mSet_run (i : Nat) (e : EM) (ρ : Env) : mSet i e ρ = ((e ρ).st fun t ρ => .nx (ρ.set i (some t))) := rfl
@[simp ↓] theorem mDrop_run (e : EM) (ρ : Env) : mDrop e ρ = ((e ρ).st fun _ ρ => .nx ρ) := rfl
@[simp ↓] theorem mRet_run (e : EM) (ρ : Env) : mRet e ρ = ((e ρ).st fun t ρ => .rt t ρ) := rfl
@[simp ↓] theorem mRetN_run (ρ : Env) : mRetN  ρ = (.rt (.sh .non) ρ) := rfl
@[simp ↓] theorem mBk_run (ρ : Env) : mBk  ρ = (.bk ρ) := rfl
@[simp ↓] theorem mCt_run (ρ : Env) : mCt  ρ = (.ct ρ) := rfl
@[simp ↓] theorem mIf_run (c : EMb) (a b : SM) (ρ : Env) : mIf c a b ρ = ((c ρ).st fun k ρ => if k = true then a ρ else b ρ) := rfl
@[simp ↓] theorem mPar_run (i j : Nat) (a : EMs) (ρ : Env) : mPar i j a ρ = ((a ρ).st fun ts ρ => match ts with
  | [t, u] => .nx ((ρ.set i (some t)).set j (some u))
  | _ => .bad) := rfl
@[simp ↓] theorem mPar3_run (i j l : Nat) (a : EMs) (ρ : Env) : mPar3 i j l a ρ = ((a ρ).st fun ts ρ => match ts with
  | [t, u, w] => .nx (((ρ.set i (some t)).set j (some u)).set l (some w))
  | _ => .bad) := rfl
@[simp ↓] theorem mUnp_run (b : BM) (e : EM) (ρ : Env) : mUnp b e ρ = ((e ρ).st fun t ρ => match b t ρ with
  | some ρ => .nx ρ
  | none => .bad) := rfl
@[simp ↓] theorem mStore_run (i : Nat) (e : EM) (ix : PM) (ρ : Env) : mStore i e ix ρ = ((e ρ).st fun t ρ => match ρ[i]?, ix ρ with
  | some (some (.ol ts)), some (.int k) => match ixN ts.length k with
    | some j => .nx (ρ.set i (some (.ol (ts.set j t))))
    | none => .bad
  | _, _ => .bad) := rfl
@[simp ↓] theorem mApp_run (i : Nat) (e : EM) (ρ : Env) : mApp i e ρ = ((e ρ).st fun t ρ => match ρ[i]? with
  | some (some (.ol ts)) => if ts.length < lim then .nx (ρ.set i (some (.ol (ts ++ [t])))) else .bad
  | _ => .bad) := rfl
@[simp ↓] theorem mAppG_run (i : Nat) (e : EM) (ρ : Env) : mAppG i e ρ = (match ρ[i]? with
  | some (some (.ol _)) => mApp i e ρ
  | _ => .bad) := rfl
@[simp ↓] theorem mExt_run (i : Nat) (e : EM) (ρ : Env) : mExt i e ρ = (match ρ[i]? with
  | some (some (.ol _)) => (e ρ).st fun t ρ => match ρ[i]? with
    | some (some (.ol ts)) => match t.els with
      | some us => if ts.length + us.length ≤ lim then .nx (ρ.set i (some (.ol (ts ++ us)))) else .bad
      | none => .bad
    | _ => .bad
  | _ => .bad) := rfl
@[simp ↓] theorem ePop_run (i : Nat) (ρ : Env) : ePop i ρ = (match ρ[i]? with
  | some (some (.ol ts)) => match ts[ts.length - 1]? with
    | some t => .ok t (ρ.set i (some (.ol ts.dropLast)))
    | none => .bad
  | _ => .bad) := rfl
@[simp ↓] theorem ePopAt_run (i : Nat) (e : EM) (ρ : Env) : ePopAt i e ρ = (match ρ[i]? with
  | some (some (.ol _)) => (e ρ).bnd fun u ρ => match ρ[i]? with
    | some (some (.ol ts)) => match u.d.intO with
      | some k => if InR k then match seqIndex? k ts.length with
        | some j => match ts[j]? with
          | some t => .ok t (ρ.set i (some (.ol (ts.eraseIdx j))))
          | none => .bad
        | none => .bad else .bad
      | none => .bad
    | _ => .bad
  | _ => .bad) := rfl
@[simp ↓] theorem mAug_run (i : Nat) (f : Int → Int → Int) (e : EM) (ρ : Env) : mAug i f e ρ = (match ρ[i]? with
  | some (some (.sh (.int a))) => (e ρ).st fun t ρ => match t.d.intO with
    | some b => .nx (ρ.set i (some (.sh (.int (f a b)))))
    | none => .bad
  | _ => .bad) := rfl
@[simp ↓] theorem iE_run (e : EM) (ρ : Env) : iE e ρ = ((e ρ).bnd fun t ρ => optO (t.d.seq.map fun l => l.map .sh) ρ) := rfl
@[simp ↓] theorem iR1_run (a : EMs) (ρ : Env) : iR1 a ρ = ((a ρ).bnd fun ts ρ => match dl ts with
  | [.int j] => if InR j then .ok (rangeT 0 j.toNat) ρ else .bad
  | _ => .bad) := rfl
@[simp ↓] theorem iR2_run (a : EMs) (ρ : Env) : iR2 a ρ = ((a ρ).bnd fun ts ρ => match dl ts with
  | [.int i, .int j] => if InR i ∧ InR j then .ok (rangeT i (j - i).toNat) ρ else .bad
  | _ => .bad) := rfl
@[simp ↓] theorem iEn_run (a : EM) (ρ : Env) : iEn a ρ = ((a ρ).bnd fun t ρ => optO (t.d.lstO.map fun l => enumT 0 l) ρ) := rfl
@[simp ↓] theorem iZp_run (a b : EM) (ρ : Env) : iZp a b ρ = ((a ρ).bnd fun t ρ => (b ρ).bnd fun u ρ => optO (t.d.lstO.bind fun l => u.d.lstO.map fun m => zipT l m) ρ) := rfl
@[simp ↓] theorem mFor_run (src : IM) (b : BM) (body : SM) (ρ : Env) : mFor src b body ρ = ((src ρ).st fun its ρ => forL b body its ρ) := rfl
@[simp ↓] theorem eLC_run (slots : List Nat) (src : IM) (b : BM) (tst : EMb) (elt : EM) (ρ : Env) : eLC slots src b tst elt ρ = ((src ρ).bnd fun its ρ1 => ((lcL slots b tst elt its [] (wipeE ρ1 slots)).nox).bnd fun acc ρ2 => .ok (.ol acc) (keepE ρ1 slots (wipeE ρ2 slots))) := rfl
@[simp ↓] theorem tAll_run (ρ : Env) : tAll  ρ = (.ok true ρ) := rfl
@[simp ↓] theorem mFun_run (n nn : Nat) (body : SM) (ts : List T) : mFun n nn body ts = (if ts.length = n ∧ ts.all T.isSh = true then match body (ts.map some ++ List.replicate (nn - n) none) with
  | .nx _ => .ok (.sh .non) ts
  | .rt t _ => .ok t ts
  | .ex x _ => .ex x
  | _ => .bad else .bad) := rfl
@[simp ↓] theorem mFunI_run (n nn : Nat) (body : SM) (ts : List T) : mFunI n nn body ts = (if ts.length = n ∧ ts.tail.all T.isSh = true then match body (ts.map some ++ List.replicate (nn - n) none) with
  | .nx ρ => match ρ[0]? with
    | some (some t0) => .ok (.sh .non) (t0 :: ts.tail)
    | _ => .bad
  | .rt t ρ => match ρ[0]? with
    | some (some t0) => .ok t (t0 :: ts.tail)
    | _ => .bad
  | .ex x _ => .ex x
  | _ => .bad else .bad) := rfl
@[simp ↓] theorem eRg1_run (p : PM) (ρ : Env) : eRg1 p ρ = (match p ρ with
  | some (.int n) => if rgOk 0 n = true then .ok (.ol (rangeT 0 n.toNat)) ρ else .bad
  | _ => .bad) := rfl
@[simp ↓] theorem eRg2_run (p q : PM) (ρ : Env) : eRg2 p q ρ = (match p ρ, q ρ with
  | some (.int m), some (.int n) => if rgOk m n = true then .ok (.ol (rangeT m (n - m).toNat)) ρ else .bad
  | _, _ => .bad) := rfl
@[simp ↓] theorem eUn_run (o : D → Option D) (a : EM) (ρ : Env) : eUn o a ρ = ((a ρ).bnd fun t ρ => optO (scalO (o t.d)) ρ) := rfl
@[simp ↓] theorem qTru_run (a : PM) (ρ : Env) : qTru a ρ = ((a ρ).bind D.truth) := rfl
@[simp ↓] theorem eTru_run (a : EM) (ρ : Env) : eTru a ρ = ((a ρ).bnd fun t ρ => optO (t.d.truth) ρ) := rfl
@[simp ↓] theorem pIsiM_run (l : List Ty) (a : PM) (ρ : Env) : pIsiM l a ρ = ((a ρ).map fun d => .bl (l.any fun t => d.isi t)) := rfl
@[simp ↓] theorem mForS_run (ns : List Int) (b : BM) (body : SM) (ρ : Env) : mForS ns b body ρ = (forL b body (ns.map fun i => .sh (.int i)) ρ) := rfl
@[simp ↓] theorem eCallS_run (F : List Int → FOut) (ns : List Int) (ρ : Env) : eCallS F ns ρ = (match F ns with
  | .ok t _ => .ok t ρ
  | _ => .bad) := rfl
@[simp ↓] theorem mForB_run (i : Nat) (b : BM) (body : SM) (ρ : Env) : mForB i b body ρ = (match ρ[i]? with
  | some (some (.ol ts)) => match forL b body (ts.map T.fz) (ρ.set i none) with
    | .nx ρ' => .nx (ρ'.set i (some (.ol (ts.map T.fz))))
    | r => r
  | _ => .bad) := rfl
@[simp ↓] theorem eLCB_run (slots : List Nat) (i : Nat) (b : BM) (tst : EMb) (elt : EM) (ρ : Env) : eLCB slots i b tst elt ρ = (match ρ[i]? with
  | some (some (.ol ts)) => ((lcL slots b tst elt (ts.map T.fz) [] (wipeE (ρ.set i none) slots)).nox).bnd fun acc ρ2 => .ok (.ol acc) ((keepE (ρ.set i none) slots (wipeE ρ2 slots)).set i (some (.ol (ts.map T.fz))))
  | _ => .bad) := rfl
@[simp ↓] theorem eFz_run (m : EM) (ρ : Env) : eFz m ρ = ((m ρ).bnd fun u ρ => .ok u.fz ρ) := rfl
@[simp] theorem o1_run (f : D → Option D) (d : D) : o1 f [d] = f d := rfl
@[simp] theorem o2_run (f : D → D → Option D) (d e : D) : o2 f [d, e] = f d e := rfl
@[simp] theorem isSh_sh (d : D) : (T.sh d).isSh = true := rfl
@[simp ↓] theorem bnd_pre {α β : Type} (o : Out α) (f : α → Env → Out β) : o.bnd f = match o with
  | .bad => .bad
  | .ok a ρ => f a ρ
  | .ex x ρ => .ex x ρ := rfl
@[simp ↓] theorem st_pre {α : Type} (o : Out α) (f : α → Env → SOut) : o.st f = match o with
  | .bad => .bad
  | .ok a ρ => f a ρ
  | .ex x ρ => .ex x ρ := rfl
@[simp ↓] theorem bind_pre {α β : Type} (o : Option α) (f : α → Option β) : o.bind f = match o with
  | none => none
  | some a => f a := by cases o <;> rfl
@[simp ↓] theorem optO_pre {α : Type} (o : Option α) (ρ : Env) : optO o ρ = match o with
  | some a => .ok a ρ
  | none => .bad := by cases o <;> rfl
@[simp ↓] theorem nox_pre {α : Type} (o : Out α) : o.nox = match o with
  | .ex _ _ => .bad
  | .bad => .bad
  | .ok a ρ => .ok a ρ := by cases o <;> rfl
@[simp ↓] theorem eSl_run (a : Env → Option T) (lo hi : Env → Option (Option Int)) (ρ : Env) : eSl a lo hi ρ = optO ((a ρ).bind fun t => t.shs.bind fun ds => (lo ρ).bind fun l => (hi ρ).bind fun h => some (.ol ((cutD ds l h).map .sh))) ρ := rfl
@[simp ↓] theorem eSlE_run (a : EM) (lo hi : Env → Option (Option Int)) (ρ : Env) : eSlE a lo hi ρ = (a ρ).bnd fun t ρ => optO (t.els.bind fun ds => (lo ρ).bind fun l => (hi ρ).bind fun h => some (.ol (cutD ds l h))) ρ := rfl
@[simp ↓] theorem bTup_run (is : List Nat) (t : T) (ρ : Env) : bTup is t ρ = t.elsT.bind fun ts => bNames is ts ρ := rfl
@[simp] theorem bNames_nil (ρ : Env) : bNames [] [] ρ = some ρ := rfl
@[simp] theorem bNames_cons (i : Nat) (is : List Nat) (t : T) (ts : List T) (ρ : Env) : bNames (i :: is) (t :: ts) ρ = bNames is ts (ρ.set i (some t)) := rfl
@[simp] theorem elsT_ot (l : List T) : (T.ot l).elsT = some l := rfl
@[simp] theorem elsT_sh (l : List D) : (T.sh (.tup l)).elsT = some (l.map .sh) := rfl
@[simp] theorem ixT_run (t u : T) : ixT t u = t.kids.bind fun l => u.d.intO.bind fun i => atI l i := rfl
@[simp] theorem oS_run (o : D → D → Option D) (t u : T) : oS o t u = match o t.d u.d with
  | some d => if d.scal = true then some (.sh d) else none
  | none => none := by unfold oS scalO; cases o t.d u.d <;> rfl
@[simp] theorem cS_run (o : List D → Option D) (ts : List T) : cS o ts = match o (dl ts) with
  | some d => if d.scal = true then some (.sh d) else none
  | none => none := by unfold cS scalO; cases o (dl ts) <;> rfl
@[simp] theorem scalO_run (o : Option D) : scalO o = match o with
  | some d => if d.scal = true then some (.sh d) else none
  | none => none := by unfold scalO; cases o <;> rfl
@[simp] theorem addT_int (i j : Int) : eAddT (.sh (.int i)) (.sh (.int j)) = some (.sh (.int (i + j))) := rfl
theorem addT_lst {t u : T} {a b : List T} (h1 : t.els = some a) (h2 : u.els = some b) (h : a.length + b.length ≤ lim) : eAddT t u = some (.ol (a ++ b)) := by
  have hc : catT t u = some (.ol (a ++ b)) := by
    unfold catT
    rw [h1, h2]
    exact if_pos h
  unfold eAddT
  have : oS oAdd t u = none := by
    have h3 : ∃ l, t.d = .lst l := by cases t <;> first | (exact ⟨_, rfl⟩) | (rename_i d; cases d <;> first | (cases h1; done) | exact ⟨_, rfl⟩) | (cases h1)
    have h4 : ∃ l, u.d = .lst l := by cases u <;> first | (exact ⟨_, rfl⟩) | (rename_i d; cases d <;> first | (cases h2; done) | exact ⟨_, rfl⟩) | (cases h2)
    obtain ⟨l, e1⟩ := h3
    obtain ⟨m, e2⟩ := h4
    unfold oS
    rw [e1, e2]
    show scalO (oOr _ (oOr oCat oAddS) (.lst l) (.lst m)) = none
    show scalO (match (if l.length + m.length ≤ lim then some (D.lst (l ++ m)) else none) with | some d => some d | none => none) = none
    by_cases q : l.length + m.length ≤ lim
    · rw [if_pos q]; rfl
    · rw [if_neg q]; rfl
  rw [this]
  exact hc
/-- loops that may be left -/
theorem forL_brk {b : BM} {body : SM} : ∀ {its : List T} {ρ : Env} (I : Nat → Env → Prop) (J : Env → Prop) (_ : I 0 ρ) (_ : ∀ k t ρ, its[k]? = some t → I k ρ → ∃ ρ1 ρ2, b t ρ = some ρ1 ∧ (((body ρ1 = .nx ρ2 ∨ body ρ1 = .ct ρ2) ∧ I (k + 1) ρ2) ∨ (body ρ1 = .bk ρ2 ∧ J ρ2))) (_ : ∀ ρ, I its.length ρ → J ρ),
    ∃ ρ', forL b body its ρ = .nx ρ' ∧ J ρ'
  | [], ρ, I, J, h0, _, hd => ⟨ρ, rfl, hd ρ h0⟩
  | t :: its, ρ, I, J, h0, hs, hd => by
    obtain ⟨ρ1, ρ2, e1, e2⟩ := hs 0 t ρ rfl h0
    unfold forL
    rw [e1]
    simp only
    rcases e2 with ⟨e2, h2⟩ | ⟨e2, h2⟩
    · obtain ⟨ρ', e3, h3⟩ := forL_brk (its := its) (fun k => I (k + 1)) J h2 (fun k t' ρ' e i => hs (k + 1) t' ρ' (by simpa using e) i) fun ρ h => hd ρ (by simpa using h)
      refine ⟨ρ', ?_, h3⟩
      rcases e2 with e2 | e2 <;> rw [e2] <;> exact e3
    · rw [e2]; exact ⟨ρ2, rfl, h2⟩
theorem pow_int {i j : Int} (h : smallP i j) : oPow (.int i) (.int j) = some (.int (i ^ j.toNat)) := by
  show (if smallP i j then some (D.int (i ^ j.toNat)) else none) = _
  rw [if_pos h]
@[simp] theorem isi_int_non  : D.isi .int (.non) = false := rfl
@[simp] theorem isi_bool_non  : D.isi .bool (.non) = false := rfl
@[simp] theorem isi_str_non  : D.isi .str (.non) = false := rfl
@[simp] theorem isi_list_non  : D.isi .list (.non) = false := rfl
@[simp] theorem isi_tuple_non  : D.isi .tuple (.non) = false := rfl
@[simp] theorem isNon_non  : D.isNon (.non) = true := rfl
@[simp] theorem isi_int_bl (b : Bool) : D.isi .int (.bl b) = true := rfl
@[simp] theorem isi_bool_bl (b : Bool) : D.isi .bool (.bl b) = true := rfl
@[simp] theorem isi_str_bl (b : Bool) : D.isi .str (.bl b) = false := rfl
@[simp] theorem isi_list_bl (b : Bool) : D.isi .list (.bl b) = false := rfl
@[simp] theorem isi_tuple_bl (b : Bool) : D.isi .tuple (.bl b) = false := rfl
@[simp] theorem isNon_bl (b : Bool) : D.isNon (.bl b) = false := rfl
@[simp] theorem isi_int_int (i : Int) : D.isi .int (.int i) = true := rfl
@[simp] theorem isi_bool_int (i : Int) : D.isi .bool (.int i) = false := rfl
@[simp] theorem isi_str_int (i : Int) : D.isi .str (.int i) = false := rfl
@[simp] theorem isi_list_int (i : Int) : D.isi .list (.int i) = false := rfl
@[simp] theorem isi_tuple_int (i : Int) : D.isi .tuple (.int i) = false := rfl
@[simp] theorem isNon_int (i : Int) : D.isNon (.int i) = false := rfl
@[simp] theorem isi_int_str (s : Str) : D.isi .int (.str s) = false := rfl
@[simp] theorem isi_bool_str (s : Str) : D.isi .bool (.str s) = false := rfl
@[simp] theorem isi_str_str (s : Str) : D.isi .str (.str s) = true := rfl
@[simp] theorem isi_list_str (s : Str) : D.isi .list (.str s) = false := rfl
@[simp] theorem isi_tuple_str (s : Str) : D.isi .tuple (.str s) = false := rfl
@[simp] theorem isNon_str (s : Str) : D.isNon (.str s) = false := rfl
@[simp] theorem isi_int_lst (l : List D) : D.isi .int (.lst l) = false := rfl
@[simp] theorem isi_bool_lst (l : List D) : D.isi .bool (.lst l) = false := rfl
@[simp] theorem isi_str_lst (l : List D) : D.isi .str (.lst l) = false := rfl
@[simp] theorem isi_list_lst (l : List D) : D.isi .list (.lst l) = true := rfl
@[simp] theorem isi_tuple_lst (l : List D) : D.isi .tuple (.lst l) = false := rfl
@[simp] theorem isNon_lst (l : List D) : D.isNon (.lst l) = false := rfl
@[simp] theorem isi_int_tup (l : List D) : D.isi .int (.tup l) = false := rfl
@[simp] theorem isi_bool_tup (l : List D) : D.isi .bool (.tup l) = false := rfl
@[simp] theorem isi_str_tup (l : List D) : D.isi .str (.tup l) = false := rfl
@[simp] theorem isi_list_tup (l : List D) : D.isi .list (.tup l) = false := rfl
@[simp] theorem isi_tuple_tup (l : List D) : D.isi .tuple (.tup l) = true := rfl
@[simp] theorem isNon_tup (l : List D) : D.isNon (.tup l) = false := rfl
@[simp] theorem isi_int_dic (k : List Key) (l : List D) : D.isi .int (.dic k l) = false := rfl
@[simp] theorem isi_bool_dic (k : List Key) (l : List D) : D.isi .bool (.dic k l) = false := rfl
@[simp] theorem isi_str_dic (k : List Key) (l : List D) : D.isi .str (.dic k l) = false := rfl
@[simp] theorem isi_list_dic (k : List Key) (l : List D) : D.isi .list (.dic k l) = false := rfl
@[simp] theorem isi_tuple_dic (k : List Key) (l : List D) : D.isi .tuple (.dic k l) = false := rfl
@[simp] theorem isNon_dic (k : List Key) (l : List D) : D.isNon (.dic k l) = false := rfl
@[simp] theorem isN_run (neg : Bool) (x : D) : oIsN neg x .non = some (.bl (if neg then !x.isNon else x.isNon)) := rfl
@[simp] theorem ints_def (l : List Int) : T.ints l = .ol (l.map ig) := rfl
@[simp] theorem dints_def (l : List Int) : D.ints l = .lst (l.map .int) := rfl
@[simp] theorem shi_def (l : List Int) : shi l = .sh (.lst (l.map .int)) := rfl
@[simp] theorem sh_comp : (T.sh ∘ D.int) = ig := rfl
@[simp] theorem d_comp : (T.d ∘ ig) = D.int := rfl
@[simp] theorem dt_comp : (T.d ∘ T.sh) = id := rfl
@[simp] theorem lim_0 : 0 ≤ lim := by decide
@[simp] theorem lim_1 : 1 ≤ lim := by decide
@[simp] theorem lim_2 : 2 ≤ lim := by decide
@[simp] theorem lim_3 : 3 ≤ lim := by decide
@[simp] theorem lim_4 : 4 ≤ lim := by decide
@[simp] theorem lim_5 : 5 ≤ lim := by decide
@[simp] theorem lim_6 : 6 ≤ lim := by decide
@[simp] theorem lim_7 : 7 ≤ lim := by decide
@[simp] theorem lim_8 : 8 ≤ lim := by decide
@[simp] theorem lim_9 : 9 ≤ lim := by decide
@[simp] theorem lim_10 : 10 ≤ lim := by decide
@[simp] theorem lim_11 : 11 ≤ lim := by decide
@[simp] theorem lim_12 : 12 ≤ lim := by decide
@[simp] theorem lim_13 : 13 ≤ lim := by decide
@[simp] theorem lim_14 : 14 ≤ lim := by decide
@[simp] theorem lim_15 : 15 ≤ lim := by decide
@[simp] theorem lim_16 : 16 ≤ lim := by decide
@[simp] theorem lim_17 : 17 ≤ lim := by decide
@[simp] theorem lim_18 : 18 ≤ lim := by decide
@[simp] theorem lim_19 : 19 ≤ lim := by decide
@[simp] theorem lim_20 : 20 ≤ lim := by decide
@[simp] theorem lim_21 : 21 ≤ lim := by decide
@[simp] theorem lim_22 : 22 ≤ lim := by decide
@[simp] theorem lim_23 : 23 ≤ lim := by decide
@[simp] theorem lim_24 : 24 ≤ lim := by decide
@[simp] theorem lim_25 : 25 ≤ lim := by decide
@[simp] theorem lim_26 : 26 ≤ lim := by decide
@[simp] theorem lim_27 : 27 ≤ lim := by decide
@[simp] theorem lim_28 : 28 ≤ lim := by decide
@[simp] theorem lim_29 : 29 ≤ lim := by decide
@[simp] theorem lim_30 : 30 ≤ lim := by decide
@[simp] theorem lim_31 : 31 ≤ lim := by decide
@[simp] theorem lim_32 : 32 ≤ lim := by decide
@[simp] theorem lim_33 : 33 ≤ lim := by decide
@[simp] theorem lim_34 : 34 ≤ lim := by decide
@[simp] theorem lim_35 : 35 ≤ lim := by decide
@[simp] theorem lim_36 : 36 ≤ lim := by decide
@[simp] theorem lim_37 : 37 ≤ lim := by decide
@[simp] theorem lim_38 : 38 ≤ lim := by decide
@[simp] theorem lim_39 : 39 ≤ lim := by decide
@[simp] theorem lim_40 : 40 ≤ lim := by decide
@[simp] theorem lt_lim_0 : 0 < lim := by decide
@[simp] theorem lt_lim_1 : 1 < lim := by decide
@[simp] theorem lt_lim_2 : 2 < lim := by decide
@[simp] theorem lt_lim_3 : 3 < lim := by decide
@[simp] theorem lt_lim_4 : 4 < lim := by decide
@[simp] theorem lt_lim_5 : 5 < lim := by decide
@[simp] theorem lt_lim_6 : 6 < lim := by decide
@[simp] theorem lt_lim_7 : 7 < lim := by decide
@[simp] theorem lt_lim_8 : 8 < lim := by decide
@[simp] theorem lt_lim_9 : 9 < lim := by decide
@[simp] theorem lt_lim_10 : 10 < lim := by decide
@[simp] theorem lt_lim_11 : 11 < lim := by decide
@[simp] theorem lt_lim_12 : 12 < lim := by decide
@[simp] theorem lt_lim_13 : 13 < lim := by decide
@[simp] theorem lt_lim_14 : 14 < lim := by decide
@[simp] theorem lt_lim_15 : 15 < lim := by decide
@[simp] theorem lt_lim_16 : 16 < lim := by decide
@[simp] theorem lt_lim_17 : 17 < lim := by decide
@[simp] theorem lt_lim_18 : 18 < lim := by decide
@[simp] theorem lt_lim_19 : 19 < lim := by decide
@[simp] theorem lt_lim_20 : 20 < lim := by decide
@[simp] theorem lt_lim_21 : 21 < lim := by decide
@[simp] theorem lt_lim_22 : 22 < lim := by decide
@[simp] theorem lt_lim_23 : 23 < lim := by decide
@[simp] theorem lt_lim_24 : 24 < lim := by decide
@[simp] theorem lt_lim_25 : 25 < lim := by decide
@[simp] theorem lt_lim_26 : 26 < lim := by decide
@[simp] theorem lt_lim_27 : 27 < lim := by decide
@[simp] theorem lt_lim_28 : 28 < lim := by decide
@[simp] theorem lt_lim_29 : 29 < lim := by decide
@[simp] theorem lt_lim_30 : 30 < lim := by decide
@[simp] theorem lt_lim_31 : 31 < lim := by decide
@[simp] theorem lt_lim_32 : 32 < lim := by decide
@[simp] theorem lt_lim_33 : 33 < lim := by decide
@[simp] theorem lt_lim_34 : 34 < lim := by decide
@[simp] theorem lt_lim_35 : 35 < lim := by decide
@[simp] theorem lt_lim_36 : 36 < lim := by decide
@[simp] theorem lt_lim_37 : 37 < lim := by decide
@[simp] theorem lt_lim_38 : 38 < lim := by decide
@[simp] theorem lt_lim_39 : 39 < lim := by decide
@[simp] theorem lt_lim_40 : 40 < lim := by decide
mutual
def D.sm : Nat → D → Bool
  | _, .non => true
  | _, .bl _ => true
  | _, .int _ => true
  | _, .str s => PyData.strOk s
  | n + 1, .lst l => decide (l.length ≤ lim) && sml n l
  | n + 1, .tup l => decide (l.length ≤ lim) && sml n l
  | _, _ => false
def sml : Nat → List D → Bool
  | _, [] => true
  | n, d :: l => d.sm n && sml n l
end
theorem sml_get {n : Nat} : ∀ {l : List D} {k : Nat} {d : D}, sml n l = true → l[k]? = some d → d.sm n = true
  | [], _, _, _, e => by simp at e
  | d :: l, 0, _, h, e => by
    simp only [sml, Bool.and_eq_true] at h
    simp at e
    rw [← e]; exact h.1
  | d :: l, k + 1, _, h, e => by
    simp only [sml, Bool.and_eq_true] at h
    exact sml_get h.2 (by simpa using e)
@[simp] theorem sml_int (n : Nat) (l : List Int) : sml n (l.map .int) = true := by
  induction l with
  | nil => rfl
  | cons a l ih => simp only [List.map_cons, sml, ih, Bool.and_true]; cases n <;> rfl
theorem sm_ints (n : Nat) (l : List Int) (h : l.length ≤ lim) : (D.lst (l.map .int)).sm (n + 1) = true := by simp [D.sm, h]
theorem eq_str_self {s : Str} (h : PyData.strOk s = true) : oEq (.str s) (.str s) = some (.bl true) := by
  unfold oEq
  have hd : (D.str s).dat 60 = true := by simp only [D.dat, h]
  rw [if_pos ⟨hd, hd⟩]
  simp [D.py, PyData.eqv]
def rg (r : List Int) : T := .sh (.lst (r.map .int))
@[simp] theorem rg_app (r : List Int) : rg r = .sh (.lst (r.map .int)) := rfl
@[simp] theorem len_tup (l : List D) : oLen (.tup l) = some (.int l.length) := rfl
@[simp] theorem boolsOf_rep (n : Nat) (b : Bool) : boolsOf (List.replicate n (.bl b)) = some (List.replicate n b) := by
  induction n with
  | zero => rfl
  | succ n ih => simp [List.replicate_succ, boolsOf, ih]
theorem lcL_T {slots : List Nat} {b : BM} {elt : EM} {ρ : Env} (f : Int → T) {p : List Int} (h : ∀ x ∈ p, ∃ ρ1 ρ2, b (si x) ρ = some ρ1 ∧ elt ρ1 = .ok (f x) ρ2 ∧ wipeE ρ2 slots = ρ) (hz : p.length ≤ lim) : lcL slots b tAll elt (p.map ig) [] ρ = .ok (p.map f) ρ := by
  let F : T → T := fun t => match t with
    | .sh (.int x) => f x
    | t => t
  have := lcL_map (slots := slots) (b := b) (elt := elt) (ρ := ρ) F (its := p.map ig) (acc := []) (fun t ht => by
    obtain ⟨x, hx, rfl⟩ := List.mem_map.mp ht
    exact h x hx) (by simpa using hz)
  rw [this, List.map_map]
  rfl
theorem lcL_ints {slots : List Nat} {b : BM} {elt : EM} {ρ : Env} (f : Int → Int) {p : List Int} (h : ∀ x ∈ p, ∃ ρ1 ρ2, b (si x) ρ = some ρ1 ∧ elt ρ1 = .ok (si (f x)) ρ2 ∧ wipeE ρ2 slots = ρ) (hz : p.length ≤ lim) : lcL slots b tAll elt (p.map ig) [] ρ = .ok ((p.map f).map ig) ρ := by
  rw [lcL_T (fun x => si (f x)) h hz, List.map_map]; rfl
theorem mem_iota {n : Nat} {x : Int} : x ∈ iota n ↔ 0 ≤ x ∧ x < n := by
  unfold iota
  rw [List.mem_map]
  constructor
  · rintro ⟨k, hk, rfl⟩
    rw [List.mem_range] at hk
    exact ⟨by omega, by omega⟩
  · rintro ⟨h0, h1⟩
    exact ⟨x.toNat, by rw [List.mem_range]; omega, by omega⟩
/-- items put by place -/
def putN (n : Nat) (f g : Nat → Int) : Nat → List Int
  | 0 => List.replicate n 0
  | k + 1 => (putN n f g k).set (f k).toNat (g k)
@[simp] theorem putN_len {n : Nat} {f g : Nat → Int} : ∀ k, (putN n f g k).length = n
  | 0 => by simp [putN]
  | k + 1 => by simp [putN, putN_len k]
theorem putN_congr {n : Nat} {f g f' g' : Nat → Int} : ∀ {m : Nat}, (∀ k, k < m → f k = f' k ∧ g k = g' k) → putN n f g m = putN n f' g' m
  | 0, _ => rfl
  | m + 1, h => by
    simp only [putN]
    rw [putN_congr (m := m) fun k hk => h k (by omega), (h m (by omega)).1, (h m (by omega)).2]
theorem repT_zero {n : Nat} (h : n ≤ lim) : repT (.ol [.sh (.int 0)]) (.sh (.int n)) = some (T.ints (List.replicate n 0)) := by
  have h2 : (1 : Nat) * (n : Int).toNat ≤ lim ∧ InR (n : Int) := by unfold lim InR at *; omega
  show (if (1 : Nat) * (n : Int).toNat ≤ lim ∧ InR (n : Int) then some (T.ol ((List.replicate (n : Int).toNat [si 0]).flatten)) else none) = _
  rw [if_pos h2]
  congr 2
  simp only [Int.toNat_natCast]
  clear h h2
  induction n with
  | zero => rfl
  | succ n ih => simp only [List.replicate_succ, List.flatten_cons, ih, List.map_cons]; rfl
@[simp] theorem bName_run (i : Nat) (t : T) (ρ : Env) : bName i t ρ = some (ρ.set i (some t)) := rfl
@[simp] theorem wipeE_nil (ρ : Env) : wipeE ρ [] = ρ := rfl
@[simp] theorem wipeE_cons (ρ : Env) (i : Nat) (l : List Nat) : wipeE ρ (i :: l) = (wipeE ρ l).set i none := rfl
@[simp] theorem keepE_nil (ρ1 ρ : Env) : keepE ρ1 [] ρ = ρ := rfl
@[simp] theorem keepE_cons (ρ1 ρ : Env) (i : Nat) (l : List Nat) : keepE ρ1 (i :: l) ρ = match ρ1[i]? with
  | some (some (.sh d)) => (keepE ρ1 l ρ).set i (some (.sh d))
  | _ => (keepE ρ1 l ρ).set i none := rfl
end
end Z

namespace Z
noncomputable section
open PySem L2
/-! ### loops that end early -/
theorem whileL_dec {c : EMb} {body : SM} (I : Nat → Env → Prop) (E : Env → Prop)
    (hs : ∀ m ρ, I m ρ → (∃ ρ', c ρ = .ok false ρ' ∧ E ρ') ∨ (∃ ρ1 ρ2 m', c ρ = .ok true ρ1 ∧ (body ρ1 = .nx ρ2 ∨ body ρ1 = .ct ρ2) ∧ m' < m ∧ I m' ρ2)) :
    ∀ (n m : Nat) (ρ : Env), m < n → I m ρ → ∃ ρ', whileL c body n ρ = .nx ρ' ∧ E ρ'
  | 0, m, ρ, h, _ => by omega
  | n + 1, m, ρ, h, hi => by
    rcases hs m ρ hi with ⟨ρ', e, h1⟩ | ⟨ρ1, ρ2, m', e, h1, h2, h3⟩
    · refine ⟨ρ', ?_, h1⟩
      unfold whileL
      rw [e]
      rfl
    · obtain ⟨ρ', e3, h4⟩ := whileL_dec I E hs n m' ρ2 (by omega) h3
      refine ⟨ρ', ?_, h4⟩
      unfold whileL
      rw [e]
      show (match body ρ1 with | .nx ρ => whileL c body n ρ | .ct ρ => whileL c body n ρ | .bk ρ => .nx ρ | r => r) = _
      rcases h1 with h1 | h1 <;> rw [h1] <;> exact e3
theorem forL_or {b : BM} {body : SM} : ∀ {its : List T} {ρ : Env} (I : Nat → Env → Prop) (R : T → Env → Prop) (_ : I 0 ρ)
    (_ : ∀ k t ρ, its[k]? = some t → I k ρ → ∃ ρ1 ρ2, b t ρ = some ρ1 ∧ (((body ρ1 = .nx ρ2 ∨ body ρ1 = .ct ρ2) ∧ I (k + 1) ρ2) ∨ (∃ u, body ρ1 = .rt u ρ2 ∧ R u ρ2))),
    (∃ ρ', forL b body its ρ = .nx ρ' ∧ I its.length ρ') ∨ (∃ u ρ', forL b body its ρ = .rt u ρ' ∧ R u ρ')
  | [], ρ, I, R, h0, _ => .inl ⟨ρ, rfl, h0⟩
  | t :: its, ρ, I, R, h0, hs => by
    obtain ⟨ρ1, ρ2, e1, e2⟩ := hs 0 t ρ rfl h0
    unfold forL
    rw [e1]
    simp only
    rcases e2 with ⟨e2, h2⟩ | ⟨u, e2, h2⟩
    · have := forL_or (its := its) (ρ := ρ2) (fun k => I (k + 1)) R h2 (fun k t' ρ' e i => hs (k + 1) t' ρ' (by simpa using e) i)
      rcases e2 with e2 | e2 <;> rw [e2] <;> exact this
    · rw [e2]
      exact .inr ⟨u, ρ2, rfl, h2⟩
/-- .. over a name's values -/
theorem forN_or {i : Nat} {body : SM} {its : List T} {ρ : Env} (I : Nat → Env → Prop) (R : T → Env → Prop) (h0 : I 0 ρ)
    (hs : ∀ k t ρ, its[k]? = some t → I k ρ → ∃ ρ2, (((body (ρ.set i (some t)) = .nx ρ2 ∨ body (ρ.set i (some t)) = .ct ρ2) ∧ I (k + 1) ρ2) ∨ (∃ u, body (ρ.set i (some t)) = .rt u ρ2 ∧ R u ρ2))) :
    (∃ ρ', forL (bName i) body its ρ = .nx ρ' ∧ I its.length ρ') ∨ (∃ u ρ', forL (bName i) body its ρ = .rt u ρ' ∧ R u ρ') :=
  forL_or I R h0 fun k t ρ e h => by
    obtain ⟨ρ2, h1⟩ := hs k t ρ e h
    exact ⟨_, ρ2, rfl, h1⟩
@[simp] theorem abs_int (i : Int) : oAbs (.int i) = some (.int i.natAbs) := by
  show some (D.int (if i < 0 then -i else i)) = _
  congr 2
  split <;> omega
theorem mul_ok {i j : Int} (h : i.natAbs.log2 + j.natAbs.log2 < 1000000) : oMul (.int i) (.int j) = some (.int (i * j)) := mul_int (.inr (.inr h))
theorem seqIx_ok {k : Int} {n : Nat} (h0 : 0 ≤ k) (h1 : k < n) : seqIndex? k n = some k.toNat := by
  unfold seqIndex?
  simp [h0, h1]
  try omega
theorem repT_one {d : D} {n : Nat} (h : n ≤ lim) : repT (.ol [.sh d]) (.sh (.int n)) = some (.ol (List.replicate n (.sh d))) := by
  have h2 : (1 : Nat) * (n : Int).toNat ≤ lim ∧ InR (n : Int) := by unfold lim InR at *; omega
  show (if (1 : Nat) * (n : Int).toNat ≤ lim ∧ InR (n : Int) then some (T.ol ((List.replicate (n : Int).toNat [T.sh d]).flatten)) else none) = _
  rw [if_pos h2]
  congr 2
  simp only [Int.toNat_natCast]
  clear h h2
  induction n with
  | zero => rfl
  | succ n ih => simp only [List.replicate_succ, List.flatten_cons, ih]; rfl
@[simp] theorem dl_sh (l : List D) : dl (l.map .sh) = l := by rw [dl_eq, List.map_map]; exact List.map_id'' (fun _ => rfl) l
theorem addT_sl {l : List D} {m : List T} (h : l.length + m.length ≤ lim) : eAddT (.sh (.lst l)) (.ol m) = some (.ol (l.map .sh ++ m)) := addT_lst (els_sh l) (els_ol m) (by simpa using h)
/-! ### lists of tests -/
def bg (b : Bool) : T := .sh (.bl b)
@[simp] theorem bg_app (b : Bool) : bg b = .sh (.bl b) := rfl
@[simp] theorem dl_bg (l : List Bool) : dl (l.map bg) = l.map D.bl := by rw [dl_eq, List.map_map]; rfl
@[simp] theorem dl_rg (l : List (List Int)) : dl (l.map rg) = l.map D.ints := by rw [dl_eq, List.map_map]; rfl
@[simp] theorem map_sh_ints (l : List (List Int)) : (l.map D.ints).map T.sh = l.map rg := by rw [List.map_map]; rfl
@[simp] theorem map_comp_ints (l : List (List Int)) : l.map (T.sh ∘ D.ints) = l.map rg := rfl
theorem atI_B (l : List Bool) {i : Nat} (h1 : i < l.length) : atI (l.map D.bl) (i : Int) = some (.bl (l.getD i false)) := by
  rw [atI_ok (by omega) (by simpa using h1), List.getElem?_map, List.getD_eq_getElem?_getD]
  simp [h1]
theorem getD_setB {l : List Bool} {i j : Nat} {v : Bool} (h : i < l.length) : (l.set i v).getD j false = if i = j then v else l.getD j false := by
  rw [List.getD_eq_getElem?_getD, List.getD_eq_getElem?_getD, List.getElem?_set]
  split
  · simp [h]
  · rfl
theorem count_set {l : List Bool} {i : Nat} (h : i < l.length) (e : l.getD i false = false) : (l.set i true).count false + 1 = l.count false := by
  induction l generalizing i with
  | nil => simp at h
  | cons b l ih =>
    cases i with
    | zero =>
      simp at e
      subst e
      simp
    | succ i =>
      have := ih (i := i) (by simpa using h) (by simpa using e)
      simp only [List.set_cons_succ, List.count_cons]
      omega
@[simp] theorem atI_1 {α : Type} (a b : α) (l : List α) : atI (a :: b :: l) 1 = some b := by
  rw [atI_ok (by omega) (by simp <;> omega)]; rfl
@[simp] theorem atI_2 {α : Type} (a b c : α) (l : List α) : atI (a :: b :: c :: l) 2 = some c := by
  rw [atI_ok (by omega) (by simp <;> omega)]; rfl
@[simp] theorem atI_3 {α : Type} (a b c d : α) (l : List α) : atI (a :: b :: c :: d :: l) 3 = some d := by
  rw [atI_ok (by omega) (by simp <;> omega)]; rfl
@[simp] theorem atI_4 {α : Type} (a b c d e : α) (l : List α) : atI (a :: b :: c :: d :: e :: l) 4 = some e := by
  rw [atI_ok (by omega) (by simp <;> omega)]; rfl
@[simp] theorem atI_5 {α : Type} (a b c d e f : α) (l : List α) : atI (a :: b :: c :: d :: e :: f :: l) 5 = some f := by
  rw [atI_ok (by omega) (by simp <;> omega)]; rfl
/-! ### lists of ints are alike just if they are the same -/
theorem dat_ints {k : Nat} : ∀ l : List Int, datl k (l.map D.int) = true
  | [] => rfl
  | i :: l => by
    simp only [List.map_cons, datl, dat_ints l, Bool.and_true]
    cases k <;> rfl
theorem eqv_ints : ∀ l m : List Int, PyData.eqvAll (pyl (l.map D.int)) (pyl (m.map D.int)) = decide (l = m)
  | [], [] => by simp [pyl, PyData.eqvAll]
  | [], i :: m => by simp [pyl, PyData.eqvAll]
  | i :: l, [] => by simp [pyl, PyData.eqvAll]
  | i :: l, j :: m => by
    have := eqv_ints l m
    simp only [List.map_cons, pyl, D.py, PyData.eqvAll, this]
    by_cases h : i = j <;> by_cases h2 : l = m <;> simp [PyData.eqv, h, h2]
theorem eq_ints (p q : List Int) : oEq (D.lst (p.map .int)) (D.lst (q.map .int)) = some (.bl (decide (p = q))) := by
  unfold oEq
  have hd : ∀ l : List Int, (D.lst (l.map .int)).dat 60 = true := fun l => dat_ints l
  rw [if_pos ⟨hd p, hd q⟩]
  congr 2
  show PyData.eqv (.list (pyl (p.map .int))) (.list (pyl (q.map .int))) = _
  rw [← eqv_ints p q]
  simp [PyData.eqv]
theorem ne_ints (p q : List Int) : oNe (D.lst (p.map .int)) (D.lst (q.map .int)) = some (.bl (!decide (p = q))) := by
  unfold oNe
  have hd : ∀ l : List Int, (D.lst (l.map .int)).dat 60 = true := fun l => dat_ints l
  rw [if_pos ⟨hd p, hd q⟩]
  congr 3
  show PyData.eqv (.list (pyl (p.map .int))) (.list (pyl (q.map .int))) = _
  rw [← eqv_ints p q]
  simp [PyData.eqv]
end
end Z

namespace Z
noncomputable section
open PySem L2
/-! ### repr of data, where no repr is under way -/
section
variable {X : Cx}
def rRepr (K : PySem.W.Frag) : List V → Hp → VK → Prop := fun xs H Q => ∃ (a : Addr) (d : PyData), xs = [.ref a] ∧ Dp K H (.ref a) d ∧ d.showable = true ∧ d.hasDict = false ∧ d.depth ≤ 60 ∧ d.shown.length ≤ sizeLine ∧ Q (.str d.shown) H
theorem call_reprD (hg : X.A.guards = some []) (hu : X.A.units + 64 < cLine) : CallR X (.builtin "repr") (rRepr X.K) := by
  intro pins s σ H xs us Q I r h
  obtain ⟨a, d, rfl, hd, hs, hk, hdp, hz, q⟩ := h
  obtain ⟨u, rfl, ru⟩ := vals1 r
  obtain rfl : u = Value.ref a := ru
  obtain ⟨as, rd⟩ := Dp.reads I d (.ref a) (.ref a) hd rfl
  refine repr_of_reads' (h₀ := s.heap) rd hs (fun e => ?_) hg (by omega) (fun _ _ e => e) (fun h' u tk hk' => ?_) hz
  · rw [hk] at e; cases e
  · exact ⟨.str d.shown, H, I.kept (t' := tk) hk', ⟨u, rfl⟩, q⟩
end
end
end Z

namespace Z
noncomputable section
open PySem L2
@[simp] theorem oRep_dummy : True := trivial
/-- repr of lists and tuples of plain data -/
def oRepr : D → Option D := fun d => match d with
  | .lst l => if d.dat 60 = true ∧ d.py.showable = true ∧ d.py.hasDict = false ∧ d.py.shown.length ≤ sizeLine then some (.str d.py.shown) else none
  | .tup l => if d.dat 60 = true ∧ d.py.showable = true ∧ d.py.hasDict = false ∧ d.py.shown.length ≤ sizeLine then some (.str d.py.shown) else none
  | _ => none
theorem cs_repr {K : PySem.W.Frag} : CallS (rRepr K) (o1 oRepr) := fun H ds vs d h e Q q => by
  obtain ⟨x, rfl, e⟩ := o1_some e
  obtain ⟨v, rfl, hv⟩ := rpl1 h
  clear h
  cases x <;> first | (cases e; done) | skip
  all_goals
    obtain ⟨⟨h1, h2, h3, h4⟩, e⟩ := ite_some e
    cases e
    have hd := hv.dp (K := K) h1
    obtain ⟨a, vs, rfl, _⟩ := hv
    exact ⟨a, _, rfl, hd, h2, h3, (dat_lay h1).2, h4, q _ H (fun _ _ h => h) rfl⟩
def oEqS : D → D → Option D
  | .str a, .str b => some (.bl (decide (a = b)))
  | _, _ => none
theorem os_eqS : OpS rEq oEqS := fun H dx dy x y d hx hy e Q q => by
  cases dx <;> first | (cases e; done) | skip
  cases dy <;> first | (cases e; done) | skip
  cases e
  cases hx
  cases hy
  refine ⟨rfl, ?_⟩
  have := q (.bl (decide (V.str _ = V.str _))) H (fun _ _ h => h) (by simp; rfl)
  exact this
/-! ### a def that is called where no repr is under way -/
section
open PySem.Spec PyProof.Rows
variable {P : Program} {w : World} {mg : Str → Option Value} {base : Heap} {K : PySem.W.Frag}
structure FnG (P : Program) (w : World) (K : PySem.W.Frag) (mg : Str → Option Value) (base : Heap) (CX : CXT) (k : Nat) (f : Addr) (fd : FuncData) (ps : List Str) (sp : Sp) : Prop where
  run : ∀ (A : Around), A.guards = some [] → Room k A → ∀ (outer : List PySem.Env) (s : Shared) (H : Hp), Env0 P w K mg base A outer s H → ∀ (args : Args) (us : List Value) (vs : List V), BindsTo s fd args (ps.zip us) → Vals vs us →
    ∀ (Q : VK) (E : XK), sp vs H Q E → codeAny (model P w) A (.call (.ref f) args) (CR CX outer P w H s Q E) s
theorem fnG_mk {x qual : Str} {st : Stmt} {f : Addr} {fd : FuncData} {N ps : List Str} {k : Nat} {sp : Sp} (F : Fun K x qual st f fd) (S : FnScope N ps (defScope st)) (len : ∀ vs H Q E, sp vs H Q E → vs.length = ps.length)
    (hbody : ∀ (cdv : Value) (A : Around), A.guards = some [] → ∀ (outer : List PySem.Env) (s : Shared) (H : Hp) (vs : List V) (Q : VK) (E : XK), Room k (A.deeper (envOfC qual (defScope st) s.heap.objs.size f cdv)) → sp vs H Q E →
      ∃ t, PSs (cxOf (L2.CX P w) P w K mg base N qual (defScope st) f cdv A outer s H E) (defBody st) t ∧ t { nx := fun _ H' => Q .non H', rt := Q } (start N vs) H) : FnG P w K mg base (L2.CX P w) (k + 1) f fd ps sp := by
  obtain ⟨oc, od, kV, doc, pm, an, cdv, ct, osl, rfl, lk, hcd⟩ := F.ex
  constructor
  intro A hg hr outer s H en args us vs hb rv Q E hsp
  have inS : ∀ b o, base.get? b = some o → s.heap.get? b = some o := fun b o e => (en.bs b o e).1
  have kin := en.mod.kin.keeps inS
  have nolim := en.mod.nolimit.keeps inS
  have kinds : ∀ y ∈ ps.zip us, (defScope st).names.lookup y.1 = some .local ∨ ((defScope st).names.lookup y.1 = some .cell ∧ ((cellsFrom (s.heap.objs.size + 1) (defScope st).names []).lookup y.1).isSome = true) := by
    rintro ⟨n, v⟩ hy
    exact (S.par n (List.of_mem_zip hy).1).imp id fun q => ⟨q, PySem.W.cellsFrom_some _ _ _ (.inl q)⟩
  refine codeAny_call_function hr.depth (kin _ _ lk) rfl S.co S.gen rfl (PySem.W.codeRec_of kin hcd) (hb _ _ _ _ (wpAny_newFunctionEnv_cells S.kind kinds ?_))
  rintro env rfl s1 x
  obtain ⟨t, ht, hq⟩ := hbody cdv A hg outer s H vs Q E (hr.deeper _) hsp
  have inv := inv_start (CX := L2.CX P w) (E := E) (cd := cdv) (qual := qual) (f := f) S hr.hd en (len _ _ _ _ hsp) rv x
  refine ⟨nolim.keeps x.toInCall.keep, codeAny_func (wpAny_mono (ht.run [] s1 _ H _ inv hq) ?_ fun _ _ h => h)⟩
  intro fl s' hs
  cases fl with
  | ret u =>
    obtain ⟨v, σ', H', J, r1, q1⟩ := hs
    exact ⟨v, H', J.os, J.bare, J.base, J.hok, r1, q1⟩
  | next =>
    obtain ⟨σ', H', J, q1⟩ := hs
    exact ⟨.non, H', J.os, J.bare, J.base, J.hok, rfl, q1⟩
  | brk => exact hs.choose_spec.choose_spec.2.elim
  | cont => exact hs.choose_spec.choose_spec.2.elim
/-- the law's def is called where nothing is under way -/
theorem start_at {mb : Str → Option Value} {s : Shared} {H : Hp} {a : Addr} {vs : List Value} (kin : K.In s.heap) (gl : s.heap.Ns mainGlobals mg) (bl : s.heap.Ns builtinsNs mb) (bb : ∀ x : Str, x ≠ "__name__" → mb x = bootBuiltins x) (lim : s.heap.NoLimit) (nog : s.gens = #[])
    (ha : s.heap.get? a = some { cls := .type "list", data := .seq vs.toArray }) (hok : HOk P w H s.heap) (one : ∀ b, H b ≠ none → b = a) (own : H a ≠ none → K.lookup a = none) :
    Env0 P w K mg (hidT s.heap H) callerA [] s H ∧ K.In (hidT s.heap H) ∧ (hidT s.heap H).Ns mainGlobals mg := by
  have dictFree : ∀ {b : Addr} {o : Obj} {es : Array DictEntry} {ep : Nat}, s.heap.get? b = some o → o.data = .dict es ep → H b = none := by
    intro b o es ep e d
    apply Classical.byContradiction
    intro n
    rw [one b n, ha] at e
    cases e
    cases d
  have nsk : ∀ {b : Addr} {m : Str → Option Value}, s.heap.Ns b m → (hidT s.heap H).Ns b m := by
    rintro b m ⟨o, es, ep, e, d, r⟩
    exact ⟨o, es, ep, hidT_get e (dictFree e d), d, r⟩
  have kin' : K.In (hidT s.heap H) := by
    intro b o e
    refine hidT_get (kin b o e) (Classical.byContradiction fun n => ?_)
    have eb := one b n
    subst eb
    rw [own n] at e
    cases e
  obtain ⟨mc, l1, l2⟩ := lim
  exact ⟨⟨rfl, ⟨kin', nsk gl, ⟨mb, nsk bl, bb⟩, ⟨mc, nsk l1, l2⟩⟩, fun b o e => of_hidT e, Nat.le_of_eq (hidT_size _ _), trivial, (fun b z => nomatch z), hok, .of_eq nog⟩, kin', nsk gl⟩
theorem law_callG {mb : Str → Option Value} {k : Nat} {fa a : Addr} {fd : FuncData} {x : Str} {sp : Sp} {s : Shared} {vs : List Value} {ns : List Int} (kin : K.In s.heap) (gl : s.heap.Ns mainGlobals mg) (bl : s.heap.Ns builtinsNs mb) (bb : ∀ x : Str, x ≠ "__name__" → mb x = bootBuiltins x) (lim : s.heap.NoLimit) (nog : s.gens = #[])
    (ha : s.heap.get? a = some { cls := .type "list", data := .seq vs.toArray }) (hi : IntsAre vs ns) (hl : ns.length ≤ sizeLine) (hr : Room k callerA)
    (F : ∀ base : Heap, K.In base → base.Ns mainGlobals mg → FnG P w K mg base (L2.CX P w) k fa fd [x] sp) (hbind : ∀ (s : Shared) (u : Value), BindsTo s fd ⟨[u], []⟩ [(x, u)])
    (hsp : ∀ H : Hp, Only H → SqL K H a (ns.map V.int) → sp [.ref a] H (fun v _ => v = .bl true) fun _ _ _ => False)
    (hCX : ∀ H e s', L2.CX P w [] H s (fun _ _ _ => False) e s' → False) :
    codeAny (model P w) callerA (.call (.ref fa) ⟨[.ref a], []⟩) (fun r s' => r = .ok (.ret (.bool true)) ∧ OldK s.heap s'.heap ∧ s'.os = s.os ∧ AllBare s'.gens) s := by
  have go : ∀ H : Hp, Only H → SqL K H a (ns.map V.int) → HOk P w H s.heap → (∀ b, H b ≠ none → b = a) → (H a ≠ none → K.lookup a = none) →
      codeAny (model P w) callerA (.call (.ref fa) ⟨[.ref a], []⟩) (fun r s' => r = .ok (.ret (.bool true)) ∧ OldK s.heap s'.heap ∧ s'.os = s.os ∧ AllBare s'.gens) s := by
    intro H hO hS hok one own
    obtain ⟨en, k1, k2⟩ := start_at (P := P) (w := w) kin gl bl bb lim nog ha hok one own
    refine codeAny_mono ((F _ k1 k2).run callerA rfl hr [] s H en ⟨[.ref a], []⟩ [.ref a] [.ref a] (hbind s (.ref a)) (.cons rfl .nil) _ _ (hsp H hO hS)) ?_
    intro r s' h
    rcases r with e | fl
    · exact (hCX H e s' h).elim
    cases fl with
    | next => exact False.elim h
    | brk => exact False.elim h
    | cont => exact False.elim h
    | ret u =>
      obtain ⟨v, H', os, bare, un, hok', r', q⟩ := h
      obtain rfl : v = .bl true := q
      obtain rfl : u = Value.bool true := r'
      refine ⟨rfl, OldK.of_keep ?_, os, bare⟩
      intro b o e
      rcases hO b with z | ⟨ob, xs, z⟩
      · exact un.keep b o e z (by intro z; cases z) (by intro z; cases z)
      · obtain ⟨e1, _⟩ := hok b _ z
        obtain ⟨e2, _⟩ := hok' b _ (un.frzs b ob _ z)
        rw [e] at e1
        cases e1
        exact e2
  have rv := vals_ints hi
  have lv := hi.length
  cases hk : K.lookup a with
  | some o =>
    have e := kin a o hk
    rw [ha] at e
    cases e
    exact go (fun _ => none) (fun _ => .inl rfl) (.inr ⟨_, vs.toArray, _, hk, rfl, rfl, rfl, by rw [List.size_toArray, lv]; exact hl, by simpa using rv⟩) (fun b u z => nomatch z) (fun b z => absurd rfl z) fun z => absurd rfl z
  | none =>
    let H : Hp := fun b => if b = a then some (.frz { cls := .type "list", data := .seq vs.toArray } (.lst (ns.map V.int))) else none
    have Ha : H a = some (.frz { cls := .type "list", data := .seq vs.toArray } (.lst (ns.map V.int))) := if_pos rfl
    have Hn : ∀ b, b ≠ a → H b = none := fun b h => if_neg h
    have one : ∀ b, H b ≠ none → b = a := fun b h => Classical.byContradiction fun n => h (Hn b n)
    refine go H (fun b => ?_) (.inl (.inr ⟨_, Ha⟩)) (fun b u z => ?_) one fun _ => hk
    · by_cases hb : b = a
      · rw [hb]; exact .inr ⟨_, _, Ha⟩
      · exact .inl (Hn b hb)
    · have hb := one b (by rw [z]; simp)
      subst hb
      rw [Ha] at z
      cases z
      exact ⟨ha, by rw [List.length_map]; exact hl, vs, _, rv, ha⟩
theorem walkG {l : PySem.W.OpenLaw} {q : Program} {loose : List Str} {XP : (Str → Option Value) → Heap → Prop} {YP : World → Heap → Prop} {d : DefRec} {K : Params → PySem.W.Frag} (k : Nat) (hr : Room k callerA) (hn : l.most = some 63) (hdf : d.params.defaults = [])
    (hY : ∀ (w : World) (h : Heap), YP w h → (K w.params).In h)
    (F : ∀ (w : World) (mg : Str → Option Value) (fa : Addr) (h : Heap), (K w.params).In h → h.Ns mainGlobals mg → mg d.name = some (.ref fa) →
      ∃ fd : FuncData, (∀ (s : Shared) (u : Value), BindsTo s fd ⟨[u], []⟩ [("script", u)]) ∧ ∀ base : Heap, (K w.params).In base → base.Ns mainGlobals mg → FnG l.prog w (K w.params) mg base (L2.CX l.prog w) k fa fd ["script"] (spLaw (K w.params))) :
    PySem.W.WalkO q loose XP YP l.row.toRowW d [] (fun f vs => PySem.call f vs) := by
  refine Att.attach_call hn hdf ?_
  intro w s₀ s₁ mg mb fa o pm cd doc a vs ns G Y _ _ _ hmg hobj hints hlen hg
  have kin := hY w _ Y
  obtain ⟨fd, hb, hF⟩ := F w mg fa _ kin G.T.g hmg
  exact law_callG kin G.T.g G.T.b G.T.builtins G.T.nolimit hg hobj hints (Nat.le_trans hlen (by decide)) hr hF hb (fun H _ hS => ⟨a, ns, rfl, hS, hlen, fun _ => rfl⟩) fun H e s' z => cx_none z
end
end
end Z

namespace Z
noncomputable section
open PySem L2
variable {ct : CT} {Wx : XW} {W S0 S S1 H H' : Hp} {ρ ρ' : Env} {σ σ0 : St} {t u : T} {ts us tm its : List T} {v w : V} {vs ws vm : List V} {as bs : List Addr} {i : Nat} {d : D} {pin : List Nat} {D0 : Ends} {K : PySem.W.Frag} {ns : List Int}
/-! ### {x: True for x in ..}, x whole numbers -/
def addI (ks : List Int) (x : Int) : List Int := if x ∈ ks then ks else ks ++ [x]
def intsT : List T → Option (List Int)
  | [] => some []
  | .sh (.int i) :: l => (intsT l).map (i :: ·)
  | _ => none
def keysI (xs : List Int) : List Int := xs.foldl addI []
def odI (ks : List Int) : T := .od (ks.map Sum.inl) (ks.map fun _ => .sh (.bl true))
def eDcI (j : Nat) (src : IM) : EM := fun ρ => (src ρ).bnd fun its ρ1 => match intsT its with
  | some xs => if xs.length ≤ lim ∧ j < ρ1.length then .ok (odI (keysI xs)) (keepE ρ1 [j] (wipeE ρ1 [j])) else .bad
  | none => .bad
theorem intsT_get : ∀ {l : List T} {xs : List Int} {i : Nat} {t : T}, intsT l = some xs → l[i]? = some t → ∃ x, xs[i]? = some x ∧ t = .sh (.int x)
  | [], _, _, _, _, e => by simp at e
  | .sh (.int x) :: l, xs, i, t, h, e => by
    unfold intsT at h
    obtain ⟨r, hr, rfl⟩ := Option.map_eq_some_iff.mp h
    cases i with
    | zero => cases e; exact ⟨x, rfl, rfl⟩
    | succ i =>
      obtain ⟨y, h1, h2⟩ := intsT_get (i := i) hr (by simpa using e)
      exact ⟨y, by simpa using h1, h2⟩
  | .sh .non :: l, _, _, _, h, _ => by cases h
  | .sh (.bl _) :: l, _, _, _, h, _ => by cases h
  | .sh (.str _) :: l, _, _, _, h, _ => by cases h
  | .sh (.lst _) :: l, _, _, _, h, _ => by cases h
  | .sh (.tup _) :: l, _, _, _, h, _ => by cases h
  | .sh (.dic _ _) :: l, _, _, _, h, _ => by cases h
  | .ol _ :: l, _, _, _, h, _ => by cases h
  | .ot _ :: l, _, _, _, h, _ => by cases h
  | .od _ _ :: l, _, _, _, h, _ => by cases h
theorem intsT_len : ∀ {l : List T} {xs : List Int}, intsT l = some xs → xs.length = l.length
  | [], _, h => by cases h; rfl
  | .sh (.int x) :: l, xs, h => by
    unfold intsT at h
    obtain ⟨r, hr, rfl⟩ := Option.map_eq_some_iff.mp h
    simp [intsT_len hr]
  | .sh .non :: l, _, h => by cases h
  | .sh (.bl _) :: l, _, h => by cases h
  | .sh (.str _) :: l, _, h => by cases h
  | .sh (.lst _) :: l, _, h => by cases h
  | .sh (.tup _) :: l, _, h => by cases h
  | .sh (.dic _ _) :: l, _, h => by cases h
  | .ol _ :: l, _, h => by cases h
  | .ot _ :: l, _, h => by cases h
  | .od _ _ :: l, _, h => by cases h
theorem addI_le (ks : List Int) (x : Int) : (addI ks x).length ≤ ks.length + 1 := by
  unfold addI; split <;> simp
/-- the dict's rows -/
def rowsI (ks : List Int) : List (Key × V) := ks.map fun k => (Sum.inl k, .bl true)
theorem put_rows (ks : List Int) (x : Int) : putK (rowsI ks) (Sum.inl x) (.bl true) = rowsI (addI ks x) := by
  unfold putK addI rowsI
  by_cases h : x ∈ ks
  · have : ((ks.map fun k => ((Sum.inl k : Key), V.bl true)).any fun kv => decide (kv.1 = Sum.inl x)) = true := by
      rw [List.any_map, List.any_eq_true]
      exact ⟨x, h, by simp⟩
    rw [if_pos this, if_pos h, List.map_map]
    apply List.map_congr_left
    intro k _
    show (if (Sum.inl k : Key) = Sum.inl x then (Sum.inl k, V.bl true) else (Sum.inl k, V.bl true)) = _
    split <;> rfl
  · have : ¬ ((ks.map fun k => ((Sum.inl k : Key), V.bl true)).any fun kv => decide (kv.1 = Sum.inl x)) = true := by
      rw [List.any_map, List.any_eq_true]
      rintro ⟨k, hk, e⟩
      have : k = x := by simpa using e
      exact h (this ▸ hk)
    rw [if_neg this, if_neg h, List.map_append]
    rfl
theorem zip_rows : ∀ (ks : List Int) (xs : List V), xs = ks.map (fun _ => V.bl true) → (ks.map (Sum.inl : Int → Key)).zip xs = rowsI ks
  | [], _, h => by subst h; rfl
  | k :: ks, _, h => by
    subst h
    simp only [List.map_cons, List.zip_cons_cons]
    rw [zip_rows ks _ rfl]
    rfl
theorem rtl_true {S H : Hp} : ∀ (ks : List Int), Rtl S H (ks.map fun _ => T.sh (.bl true)) (ks.map fun _ => V.bl true) []
  | [] => ⟨rfl, rfl⟩
  | k :: ks => ⟨_, _, [], [], rfl, rfl, ⟨rfl, rfl⟩, rtl_true ks⟩
theorem rtl_trueE {S H : Hp} : ∀ (ks : List Int) (xs : List V) (b : List Addr), Rtl S H (ks.map fun _ => T.sh (.bl true)) xs b → xs = (ks.map fun _ => V.bl true) ∧ b = []
  | [], _, _, ⟨h1, h2⟩ => ⟨h1, h2⟩
  | k :: ks, _, _, ⟨v, r, b, c, h1, h2, ⟨h3, h4⟩, h5⟩ => by
    subst h1 h2 h3
    obtain ⟨e1, e2⟩ := rtl_trueE ks _ _ h5
    subst e1 e2
    have : v = V.bl true := h4
    subst this
    exact ⟨rfl, rfl⟩
theorem keysI_snoc (xs : List Int) (x : Int) : keysI (xs ++ [x]) = addI (keysI xs) x := by simp [keysI, List.foldl_append]
theorem foldl_addI : ∀ (xs ks : List Int), (xs.foldl addI ks).length ≤ ks.length + xs.length
  | [], ks => by simp
  | x :: xs, ks => by
    have h1 := foldl_addI xs (addI ks x)
    have h2 := addI_le ks x
    simp only [List.foldl_cons, List.length_cons]
    omega
theorem keysI_le (xs : List Int) : (keysI xs).length ≤ xs.length := by
  have := foldl_addI xs []
  simpa [keysI] using this
theorem se_dcI {j : Nat} {wi : TI} {src : IM} (hi : SI ct Wx wi src) : SE ct Wx (tDc wi (gName j) tYes (tVar j) (tC (.bl true)) [j]) (eDcI j src) := fun W S0 ρ σ tm vm H Q gx k => by
  refine hi W S0 ρ σ tm vm H _ gx ((Out.P_bnd.mp k).mono (fun its ρ1 k1 J S H1 hu g1 jo => ?_) fun _ _ h => h)
  cases hx : intsT its with
  | none => rw [hx] at k1; exact k1.elim
  | some xs =>
  rw [hx] at k1
  obtain ⟨⟨hz, hj⟩, k2⟩ := P_ite k1
  have hl := intsT_len hx
  intro D hD
  obtain ⟨S1, as, bs, hu1, g1⟩ := g1.up
  have hk : ∀ (i : Nat) d, ρ1[i]? = some (some (.sh d)) → ∃ v, σ[i]? = some (some v) ∧ Rp S1 d v := fun i d e => by
    obtain ⟨v, b, c, d', e1, _, ⟨_, e3⟩, _⟩ := g1.re.at e
    exact ⟨v, e1, e3⟩
  have g2 : GX W S1 (wipeE ρ1 [j]) (wipe σ [j]) (odI [] :: tm) (.ref D :: vm) (upd H1 D (.dK [])) := GX.wipe (GX.newD (ks := []) (ts := []) (vs := []) ⟨S1, as, bs, g1⟩ rfl rfl hD)
  refine ⟨fun i m H' => m = its.length - i ∧ i ≤ its.length ∧ ∃ ρ', GX W S1 ρ' (wipe σ [j]) (odI (keysI (xs.take i)) :: tm) (.ref D :: vm) H' ∧ wipeE ρ' [j] = wipeE ρ1 [j], ⟨its.length, by simp, Nat.zero_le _, _, g2, by simp⟩, ?_⟩
  rintro i m H' ⟨rfl, hle, ρ', g', ew1⟩
  have eS : Same S H' := fun a o h => g'.under a o (hu1.1 a o h)
  by_cases hlt : i < its.length
  · refine .inr ⟨jo.go i H' eS hlt, fun H' => i + 1 ≤ its.length ∧ ∃ ρ', GX W S1 ρ' (wipe σ [j]) (odI (keysI (xs.take (i + 1))) :: tm) (.ref D :: vm) H' ∧ wipeE ρ' [j] = wipeE ρ1 [j], fun H2 q => ⟨its.length - (i + 1), by omega, rfl, q⟩, fun x H2 y => ?_⟩
    obtain ⟨t, e1, y⟩ := jo.yld i H' x H2 eS hlt y
    obtain ⟨z, e2, rfl⟩ := intsT_get hx e1
    have y' : ((H2 = H' ∧ ∃ d, T.sh (.int z) = .sh d ∧ Rp S1 d x) ∨ ∃ p es vs, T.sh (.int z) = .ot (es.map .sh) ∧ x = .ref p ∧ H' p = none ∧ H2 = upd H' p (.tup vs) ∧ Rpl S1 es vs) := by
      rcases y with ⟨h1, d, h2, h3⟩ | ⟨p, es, vs, h1, h2, h3, h4, h5⟩
      · exact .inl ⟨h1, d, h2, h3.mono hu1.1⟩
      · cases h1
    refine sg_name W S1 ρ' _ _ _ H2 _ x _ (g'.item y') rfl _ fun σ2 g3 ew => ?_
    rw [wipe_wipe] at ew
    refine ⟨ew, ?_⟩
    unfold tYes
    dsimp only
    rw [if_pos rfl]
    have hlen : ρ'.length = ρ1.length := by simpa using congrArg List.length ew1
    obtain ⟨v, e5, g4⟩ := g3.read (i := j) (t := .sh (.int z)) (by simp [hlen, hj])
    have hv : v = .int z := g4.tmp
    subst hv
    have hle2 : (keysI (xs.take i)).length ≤ lim := by
      have h1 := keysI_le (xs.take i)
      rw [List.length_take] at h1
      omega
    refine ⟨.int z, e5, ?_⟩
    obtain ⟨a, ys, e6, h1, h2, h3, mk⟩ := g3.mutD
    cases e6
    have hys : ys = (keysI (xs.take i)).map fun _ => V.bl true := by
      obtain ⟨S', as', bs', gg⟩ := g3
      obtain ⟨v', r, c1, c2, h4, _, ⟨a', ys', b', h5, _, h6, _, h7⟩, _⟩ := gg.rt
      cases h4
      cases h5
      obtain ⟨q1, _⟩ := rtl_trueE _ _ _ h7
      have h8 := h1.symm.trans h6
      injection h8 with h8
      injection h8 with h8
      rw [zip_rows _ _ q1] at h8
      have h9 := congrArg (List.map Prod.snd) h8
      rw [List.map_snd_zip (by simp [h3])] at h9
      rw [h9]
      simp [rowsI]
    rw [zip_rows _ _ hys] at h1
    have et : keysI (xs.take (i + 1)) = addI (keysI (xs.take i)) z := by
      rw [List.take_add_one, e2]
      exact keysI_snoc _ _
    have g6 := mk ((addI (keysI (xs.take i)) z).map Sum.inl) ((addI (keysI (xs.take i)) z).map fun _ => .sh (.bl true)) tm ((addI (keysI (xs.take i)) z).map fun _ => V.bl true) vm (by simp) (fun S H b c hb hc => ⟨[], c, rtl_true _, hc, by
      intro h
      simpa using (List.nodup_append.mp h).2.1, by
      intro x hx
      simp at hx
      simp [hx]⟩)
    rw [zip_rows _ _ rfl, ← put_rows, ← et] at g6
    have g7 := GX.wipe (slots := [j]) g6
    rw [ew] at g7
    refine ⟨rowsI (keysI (xs.take i)), Sum.inl z, rfl, h1, ?_, hlt, _, g7, ?_⟩
    · have : (rowsI (keysI (xs.take i))).length = (keysI (xs.take i)).length := by simp [rowsI]
      rw [this]
      have h1 := keysI_le (xs.take i)
      rw [List.length_take] at h1
      exact lim_lt (by omega)
    · rw [← ew1]
      simp [wipeE]
  · have ei : i = its.length := by omega
    subst ei
    refine .inl ⟨jo.stop _ H' eS (Nat.le_refl _), ?_⟩
    have hw := GX.wipe (slots := [j]) g'
    rw [wipe_wipe, ew1] at hw
    rw [← hl, List.take_length] at hw
    exact k2 (.ref D) H' ((GX.keep hw hk).join (hu.trans hu1))
/-! ### len of a dict, tuple(l), str(i), l.index(x) -/
def rLenD : List V → Hp → VK → Prop := fun xs H Q => ∃ a kvs, xs = [V.ref a] ∧ H a = some (.dK kvs) ∧ Q (.int kvs.length) H
def oLenD : List T → Option T
  | [.od ks _] => some (.sh (.int ks.length))
  | _ => none
theorem ce_lenD : CallE rLenD oLenD := fun W S0 ρ σ tm vm H ts vs z Q g hl e k => by
  unfold oLenD at e
  split at e
  · rename_i ks l
    cases e
    match vs, hl with
    | [v], _ =>
      obtain ⟨a, xs, rfl, h1, h2, h3, _⟩ := GX.mutD (ts := l) (tm := tm) (vm := vm) g
      refine ⟨a, _, rfl, h1, ?_⟩
      have : (ks.zip xs).length = ks.length := by simp [h2, h3]
      rw [this]
      exact k _ H ((GX.pop1 (t := .od ks l) (v := .ref a) g).pushC (S := fun _ => none) (d := .int ks.length) rfl rfl)
  · cases e
def rStrI : List V → Hp → VK → Prop := fun xs H Q => ∃ i : Int, xs = [.int i] ∧ i.natAbs.log2 < 1920 ∧ Q (.str (toString i)) H
def oStrI : D → Option D
  | .int i => if i.natAbs.log2 < 1920 then some (.str (toString i)) else none
  | _ => none
theorem cs_strI : CallS rStrI (o1 oStrI) := fun H ds vs d h e Q q => by
  obtain ⟨x, rfl, e⟩ := o1_some e
  obtain ⟨v, rfl, hv⟩ := rpl1 h
  clear h
  cases x <;> first | (cases e; done) | skip
  obtain ⟨h1, e⟩ := ite_some e
  cases e
  cases hv
  exact ⟨_, rfl, h1, q _ H (fun _ _ h => h) rfl⟩
def oIndex : D → D → Option D
  | .lst l, y => if (D.lst l).dat 60 = true ∧ y.dat 60 = true then ((pyl l).findIdx? fun z => PyData.eqv z y.py).map fun j => .int (j : Nat) else none
  | _, _ => none
def pIndex (p q : PM) : PM := fun ρ => (p ρ).bind fun x => (q ρ).bind fun y => oIndex x y
theorem sp_index {K : PySem.W.Frag} {ta tb : TE} {a b : PM} (ha : SP ta a) (hb : SP tb b) : SP (tBM K "list" (rIndexD K) ta (tCons tb tNil)) (pIndex a b) := fun ρ σ H g d h Q q => by
  obtain ⟨x, h1, h⟩ := some_bind h
  obtain ⟨y, h2, h⟩ := some_bind h
  refine ha ρ σ H g x h1 _ fun v H1 e1 r1 => ?_
  obtain ⟨l, rfl⟩ : ∃ l, x = .lst l := by
    cases x <;> first | (cases h; done) | exact ⟨_, rfl⟩
  obtain ⟨⟨k1, k2⟩, h⟩ := ite_some h
  obtain ⟨j, hj, rfl⟩ := Option.map_eq_some_iff.mp h
  obtain ⟨hlt, hz, hno⟩ := List.findIdx?_eq_some_iff_getElem.mp hj
  have hx := r1
  obtain ⟨p, xs, rfl, hp, _⟩ := hx
  refine ⟨.inl ⟨rfl, xs, .of hp⟩, ?_⟩
  refine hb ρ σ H1 (g.ext e1) y h2 _ fun w H2 e2 r2 => ?_
  have d1 := (r1.mono e2).dp (K := K) k1
  exact ⟨p, w, y.py, pyl l, j, (pyl l)[j], rfl, rfl, d1, r2.dp k2, dat_shaped k1, dat_shaped k2, List.getElem?_eq_getElem hlt, hz, fun m z' hm hz' => by
    obtain ⟨hm2, rfl⟩ := List.getElem?_eq_some_iff.mp hz'
    simpa using hno m hm, q _ H2 (e1.trans e2) rfl⟩
end
end Z

namespace Z
noncomputable section
open PySem L2
open PySem.Spec PyProof.Rows
variable {ct : CT} {P : Program} {w : World} {K : PySem.W.Frag} {mg : Str → Option Value} {base h : Heap}
/-! ### a law that asks repr -/
def FlG (P : Program) (w : World) (K : PySem.W.Frag) (mg : Str → Option Value) (base : Heap) (x : Str) (st : Stmt) (k : Nat) (ps : List Str) (sp : Sp) : Prop :=
  ∃ (f : Addr) (fd : FuncData), FnG P w K mg base (L2.CX P w) k f fd ps sp ∧ Fun K x x st f fd ∧ mg x = some (.ref f)
theorem fnG_defL {x : Str} {st : Stmt} {N : List Str} {sc : Str} {k : Nat} {m : List Int → SM} (F : Dd K mg x st [sc]) (Sc : FnScope N [sc] (defScope st)) (hN : 1 ≤ N.length)
    (hbody : ∀ (f : Addr) (cdv : Value) (A : Around), A.guards = some [] → ∀ (outer : List PySem.Env) (s : Shared) (H : Hp) (E : XK), Room k (A.deeper (envOfC x (defScope st) s.heap.objs.size f cdv)) →
      ∃ t, PSs (cxOf (L2.CX P w) P w K mg base N x (defScope st) f cdv A outer s H E) (defBody st) t ∧ ∀ ns, SSa (ScA K ns) ct (fun c d _ H => E c d H) [0] t (m ns)) : FlG P w K mg base x st (k + 1) [sc] (spSc ct K (mFunS N.length m)) := by
  obtain ⟨f, fd, F, hm, hb⟩ := F
  refine ⟨f, fd, ?_, F, hm⟩
  refine fnG_mk F Sc (fun vs H Q E h => by obtain ⟨a, ns, rfl, _⟩ := h; rfl) fun cdv A hg outer s H vs Q E hr h => ?_
  obtain ⟨t, ht, hs⟩ := hbody f cdv A hg outer s H E hr
  refine ⟨t, ht, ?_⟩
  obtain ⟨a, ns, rfl, hA, k1⟩ := h
  have hl : (start N [.ref a]).length = N.length := by
    simp only [L2.start, List.length_append, List.length_map, List.length_replicate, List.length_cons, List.length_nil]
    omega
  have hr0 : Re (fun _ => none) H (List.replicate N.length none) (start N [.ref a]) [] := by
    have := re_none (S := fun _ => none) (H := H) (start N [.ref a])
    rw [hl] at this
    exact this
  have g : GX H (fun _ => none) (List.replicate N.length none) (start N [.ref a]) [] [] H := ⟨fun _ => none, [], [], fun _ _ h => h, (fun _ _ h => nomatch h), (fun _ _ h => h), (fun _ _ h => h), hr0, ⟨rfl, rfl⟩, by simp, by simp, by simp⟩
  refine hs ns H (fun _ => none) (start N [.ref a]) _ _ H _ ⟨a, rfl, hA⟩ g Pin.refl ?_
  unfold mFunS at k1
  generalize m ns _ = o at k1 ⊢
  cases o with
  | rt t ρ => exact fun v σ' H' g3 _ => k1 v H' g3.noEnv
  | _ => exact k1.elim
theorem fnG_law {x : Str} {st : Stmt} {sc : Str} {k : Nat} {F : List Int → FOut} (G : FlG P w K mg base x st k [sc] (spSc ct K F)) (hF : ∀ ns : List Int, ns.length ≤ 63 → F ns = .ok (.sh (.bl true)) []) : FlG P w K mg base x st k [sc] (spLaw K) := by
  obtain ⟨f, fd, G, r⟩ := G
  refine ⟨f, fd, ⟨fun A hg hr outer s H e args us vs hb hv Q E hsp => G.run A hg hr outer s H e args us vs hb hv Q E ?_⟩, r⟩
  obtain ⟨a, ns, rfl, hA, hl, q⟩ := hsp
  refine ⟨a, ns, rfl, hA, ?_⟩
  rw [hF ns hl]
  intro v H' g
  have := g.tmp
  rw [show v = .bl true from this]
  exact q H'
theorem law_atG {fa : Addr} {x sc : Str} {st : Stmt} {f : Addr} {oc : Value} {od an : Option Addr} {osl : Array (Option Value)} {kV doc pm cdv ctv : Value} {k : Nat} {sp : Sp} (X : K.In h) (G : h.Ns mainGlobals mg) (hfa : mg x = some (.ref fa))
    (a : PySem.W.nsIn K mainGlobals x = some (some (.ref f))) (l : K.lookup f = some ⟨oc, od, .func (PySem.W.fnOf x x (defArgs st) (defBody st) (defScope st) .none kV doc pm an cdv ctv), osl⟩)
    (hb : ∀ (kV doc pm : Value) (an : Option Addr) (cdv ct : Value) (us : List Value), us.length = [sc].length → bindArgs (PySem.W.fnOf x x (defArgs st) (defBody st) (defScope st) .none kV doc pm an cdv ct) ⟨us, []⟩ = pure ([sc].zip us))
    (hF : ∀ base : Heap, K.In base → base.Ns mainGlobals mg → FlG P w K mg base x st k [sc] sp) :
    ∃ fd : FuncData, (∀ (s : Shared) (v : Value), BindsTo s fd ⟨[v], []⟩ [(sc, v)]) ∧ ∀ base : Heap, K.In base → base.Ns mainGlobals mg → FnG P w K mg base (L2.CX P w) k fa fd [sc] sp := by
  have e := hfa.symm.trans (PySem.W.mg_of X G a)
  cases e
  refine ⟨_, fun s v => .of_eq (hb kV doc pm an cdv ctv [v] rfl), fun base b1 b2 => ?_⟩
  obtain ⟨g, gd, h1, h2, h3⟩ := hF base b1 b2
  rw [hfa] at h3
  cases h3
  obtain ⟨oc', od', kV', doc', pm', an', cdv', ct', osl', e1, lk, _⟩ := h2.ex
  rw [l] at lk
  have e2 : PySem.W.fnOf x x (defArgs st) (defBody st) (defScope st) .none kV doc pm an cdv ctv = gd := by
    injection lk with lk
    injection lk with _ _ e3 _
    injection e3
  rw [e2]
  exact h1
theorem eqU65 {A : Around} {k : Nat} (hr : Room k A) : A.units + 65 < cLine := by
  have := hr.un
  omega
@[simp ↓] theorem eDcI_run (j : Nat) (src : IM) (ρ : Env) : eDcI j src ρ = (src ρ).bnd fun its ρ1 => match intsT its with
  | some xs => if xs.length ≤ lim ∧ j < ρ1.length then .ok (odI (keysI xs)) (keepE ρ1 [j] (wipeE ρ1 [j])) else .bad
  | none => .bad := rfl
@[simp] theorem oLenD_odI (ks : List Int) : oLenD [odI ks] = some (.sh (.int ks.length)) := by
  show some (T.sh (.int (ks.map Sum.inl).length)) = _
  rw [List.length_map]
@[simp ↓] theorem pIndex_run (p q : PM) (ρ : Env) : pIndex p q ρ = (p ρ).bind fun x => (q ρ).bind fun y => oIndex x y := rfl
@[simp] theorem eqS_str (a b : Str) : oEqS (.str a) (.str b) = some (.bl (decide (a = b))) := rfl
@[simp] theorem map_fz_ig (l : List Int) : List.map (T.fz ∘ ig) l = l.map ig := rfl
end
end Z

namespace Z
noncomputable section
open PySem L2
/-! ### data whose text is short -/
structure okd (k w : Nat) (d : D) : Prop where
  dat : d.dat k = true
  sho : d.py.showable = true
  lea : d.py.leavesShort 24 = true
  wei : d.py.weight ≤ w
structure okl (k w : Nat) (l : List D) : Prop where
  dat : datl k l = true
  sho : PyData.showableAll (pyl l) = true
  lea : PyData.leavesShortAll 24 (pyl l) = true
  wei : PyData.weightAll (pyl l) ≤ w
theorem okl_nil {k : Nat} : okl k 0 [] := ⟨rfl, rfl, rfl, Nat.le_refl _⟩
theorem okl_cons {k w v : Nat} {d : D} {l : List D} (h : okd k w d) (h' : okl k v l) : okl k (w + 1 + v) (d :: l) := by
  refine ⟨?_, ?_, ?_, ?_⟩
  · simp [datl, h.dat, h'.dat]
  · simp [pyl, PyData.showableAll, h.sho, h'.sho]
  · simp [pyl, PyData.leavesShortAll, h.lea, h'.lea]
  · have := h.wei
    have := h'.wei
    simp only [pyl, PyData.weightAll]
    omega
theorem okl_app {k w v : Nat} : ∀ {l m : List D}, okl k w l → okl k v m → okl k (w + v) (l ++ m)
  | [], m, h, h' => ⟨h'.dat, h'.sho, h'.lea, Nat.le_trans h'.wei (Nat.le_add_left _ _)⟩
  | d :: l, m, h, h' => by
    have hd := h.dat; have hs := h.sho; have hl := h.lea; have hw := h.wei
    simp only [datl, pyl, PyData.showableAll, PyData.leavesShortAll, PyData.weightAll, Bool.and_eq_true] at hd hs hl hw
    have ih := okl_app (w := w - (d.py.weight + 1)) (l := l) (m := m) ⟨hd.2, hs.2, hl.2, by omega⟩ h'
    have := okl_cons (w := d.py.weight) ⟨hd.1, hs.1, hl.1, Nat.le_refl _⟩ ih
    exact ⟨this.dat, this.sho, this.lea, Nat.le_trans this.wei (by omega)⟩
theorem okl.mono {k w v : Nat} {l : List D} (h : okl k w l) (hv : w ≤ v) : okl k v l := ⟨h.dat, h.sho, h.lea, Nat.le_trans h.wei hv⟩
theorem okd.mono {k w v : Nat} {d : D} (h : okd k w d) (hv : w ≤ v) : okd k v d := ⟨h.dat, h.sho, h.lea, Nat.le_trans h.wei hv⟩
theorem okl_all {k w : Nat} : ∀ {l : List D}, (∀ d ∈ l, okd k w d) → okl k (l.length * (w + 1)) l
  | [], _ => by simpa using okl_nil
  | d :: l, h => by
    have := okl_cons (h d List.mem_cons_self) (okl_all fun x hx => h x (List.mem_cons_of_mem _ hx))
    refine this.mono ?_
    rw [List.length_cons, Nat.add_mul]
    omega
mutual
theorem dat_mono : ∀ {d : D} {k j : Nat}, d.dat k = true → k ≤ j → d.dat j = true
  | .non, _, j, _, _ => by cases j <;> rfl
  | .bl _, _, j, _, _ => by cases j <;> rfl
  | .int _, _, j, _, _ => by cases j <;> rfl
  | .str s, k, j, h, _ => by
    have : PyData.strOk s = true := by cases k <;> simpa [D.dat] using h
    cases j <;> simpa [D.dat] using this
  | .lst l, 0, _, h, _ => by simp [D.dat] at h
  | .tup l, 0, _, h, _ => by simp [D.dat] at h
  | .dic _ _, k, _, h, _ => by cases k <;> simp [D.dat] at h
  | .lst l, k + 1, j, h, hj => by
    cases j with
    | zero => omega
    | succ j => simp only [D.dat] at h ⊢; exact datl_mono h (by omega)
  | .tup l, k + 1, j, h, hj => by
    cases j with
    | zero => omega
    | succ j => simp only [D.dat] at h ⊢; exact datl_mono h (by omega)
theorem datl_mono : ∀ {l : List D} {k j : Nat}, datl k l = true → k ≤ j → datl j l = true
  | [], _, _, _, _ => rfl
  | d :: l, k, j, h, hj => by
    simp only [datl, Bool.and_eq_true] at h ⊢
    exact ⟨dat_mono h.1 hj, datl_mono h.2 hj⟩
end
theorem okl.lst {k w : Nat} {l : List D} (h : okl k w l) : okd (k + 1) w (.lst l) := ⟨h.dat, h.sho, h.lea, h.wei⟩
theorem okl.tup {k w : Nat} {l : List D} (h : okl k w l) : okd (k + 1) w (.tup l) := ⟨h.dat, h.sho, h.lea, h.wei⟩
theorem okd.up {k j w : Nat} {d : D} (h : okd k w d) (hj : k ≤ j) : okd j w d := ⟨dat_mono h.dat hj, h.sho, h.lea, h.wei⟩
theorem okl.up {k j w : Nat} {l : List D} (h : okl k w l) (hj : k ≤ j) : okl j w l := ⟨datl_mono h.dat hj, h.sho, h.lea, h.wei⟩
mutual
theorem no_dict : ∀ {d : D} {k : Nat}, d.dat k = true → d.py.hasDict = false
  | .non, _, _ => rfl
  | .bl _, _, _ => rfl
  | .int _, _, _ => rfl
  | .str _, _, _ => rfl
  | .lst l, 0, h => by simp [D.dat] at h
  | .tup l, 0, h => by simp [D.dat] at h
  | .dic _ _, k, h => by cases k <;> simp [D.dat] at h
  | .lst l, k + 1, h => by simp only [D.dat] at h; exact no_dictl h
  | .tup l, k + 1, h => by simp only [D.dat] at h; exact no_dictl h
theorem no_dictl : ∀ {l : List D} {k : Nat}, datl k l = true → PyData.hasDictAll (pyl l) = false
  | [], _, _ => rfl
  | d :: l, k, h => by
    simp only [datl, Bool.and_eq_true] at h
    simp only [pyl, PyData.hasDictAll, no_dict h.1, no_dictl h.2, Bool.or_self]
end
theorem repr_lst {k w : Nat} {l : List D} (h : okl k w l) (hk : k + 1 ≤ 60) (hw : w ≤ 600000) : oRepr (.lst l) = some (.str (D.lst l).py.shown) := by
  have h' := h.lst
  have hs := PyData.shown_le 24 (by decide) (D.lst l).py h'.lea
  have hz : (D.lst l).py.shown.length ≤ sizeLine := by
    have := h'.wei
    rw [sizeLine_eq]
    omega
  exact if_pos ⟨dat_mono h'.dat hk, h'.sho, no_dict h'.dat, hz⟩
theorem repr_tup {k w : Nat} {l : List D} (h : okl k w l) (hk : k + 1 ≤ 60) (hw : w ≤ 600000) : oRepr (.tup l) = some (.str (D.tup l).py.shown) := by
  have h' := h.tup
  have hs := PyData.shown_le 24 (by decide) (D.tup l).py h'.lea
  have hz : (D.tup l).py.shown.length ≤ sizeLine := by
    have := h'.wei
    rw [sizeLine_eq]
    omega
  exact if_pos ⟨dat_mono h'.dat hk, h'.sho, no_dict h'.dat, hz⟩
/-- numbers of a few digits -/
theorem shown_len {i : Int} (h : i.natAbs < 10 ^ 22) : (PyData.shown (.int i)).length ≤ 24 := by
  have e := int_text_length_le10 (k := 22) (by decide) h
  show (Str.ofString (toString i)).length ≤ 24
  rw [show (Str.ofString (toString i)).length = (toString i).length from by first | exact ofString_length _ | exact StrLaws.ofString_length _]
  omega
theorem okd_intw {k e : Nat} {i : Int} (h : i.natAbs < 2 ^ e) (he : e ≤ 70) : okd k e (.int i) := by
  have h22 : i.natAbs < 10 ^ 22 := by
    have : (2 : Nat) ^ e ≤ 2 ^ 70 := Nat.pow_le_pow_right (by decide) he
    have : (2 : Nat) ^ 70 < 10 ^ 22 := by decide
    omega
  have hl : i.natAbs ≠ 0 → i.natAbs.log2 < e := fun q => (Nat.log2_lt q).mpr h
  refine ⟨by cases k <;> rfl, ?_, ?_, ?_⟩
  · show decide (i.natAbs.log2 < 1920) = true
    rw [decide_eq_true_eq]
    by_cases q : i.natAbs = 0
    · rw [q]; decide
    · have := hl q; omega
  · show decide ((PyData.shown (.int i)).length ≤ 24) = true
    rw [decide_eq_true_eq]
    exact shown_len h22
  · show (if i == 0 then 0 else i.natAbs.log2 + 1) ≤ e
    by_cases q : i = 0
    · simp [q]
    · have := hl (by omega)
      simp [q]
      omega
theorem okl_ints {k e : Nat} {p : List Int} (h : ∀ x ∈ p, x.natAbs < 2 ^ e) (he : e ≤ 70) : okl k (p.length * (e + 1)) (p.map .int) := by
  have := okl_all (k := k) (w := e) (l := p.map .int) fun d hd => by
    obtain ⟨x, hx, rfl⟩ := List.mem_map.mp hd
    exact okd_intw (h x hx) he
  rwa [List.length_map] at this
theorem okd_non {k : Nat} : okd k 0 .non := ⟨by cases k <;> rfl, rfl, rfl, Nat.le_refl _⟩
theorem okd_bl {k : Nat} {b : Bool} : okd k 0 (.bl b) := ⟨by cases k <;> rfl, rfl, rfl, Nat.le_refl _⟩
theorem okd_str {k : Nat} {s : Str} (h : PyData.strOk s = true) (hz : s.cps.size ≤ 24) : okd k 24 (.str s) := by
  refine ⟨by cases k <;> simpa [D.dat] using h, rfl, ?_, hz⟩
  show (s.cps.toList.all fun c => decide (c < 16 ^ 8)) = true
  have h' : s.cps.all (· < 0x110000) = true := h
  rw [← Array.all_toList, List.all_eq_true] at h'
  rw [List.all_eq_true]
  intro c hc
  have := h' c hc
  simp only [decide_eq_true_eq] at this ⊢
  omega
theorem str_small {i : Int} (h0 : 0 ≤ i) (h1 : i < 60) : PyData.strOk (Str.ofString (toString i)) = true ∧ (Str.ofString (toString i)).cps.size ≤ 24 := by
  have h : ∀ k : Fin 60, PyData.strOk (Str.ofString (toString ((k : Nat) : Int))) = true ∧ (Str.ofString (toString ((k : Nat) : Int))).cps.size ≤ 24 := by decide +kernel
  have := h ⟨i.toNat, by omega⟩
  simp only [Int.toNat_of_nonneg h0] at this
  exact this
end
end Z

namespace Z
open PySem PySem.W PySem.Calls PyProof.Rows PySem.Spec
open L2 (V St Hp)
/-! ### an own exception whose __init__ says super().__init__(x); self.f = x -/
abbrev exB : List Value := [.type "Exception", .type "BaseException", .type "object"]
def supBody (arg fld : Str) (p0 p1 p2 p3 p4 p5 p6 p7 p8 p9 : Pos) : List Stmt :=
  [.Expr (.Call (.Attribute (.Call (.Name "super" p0) [] [] p1) "__init__" p2) [.Name arg p3] [] p4) p5,
   .Assign [.Attribute (.Name "self" p6) fld p7] (.Name arg p8) p9]
def SupEv (arg : Str) (p0 p1 p2 p3 p4 : Pos) : Prop := ∃ pl : Sem Bool, ∀ env : PySem.Env, eval (.Call (.Attribute (.Call (.Name "super" p0) [] [] p1) "__init__" p2) [.Name arg p3] [] p4) env =
  (do let ov ← attributeBase (.Call (.Name "super" p0) [] [] p1) "__init__" env (eval (.Call (.Name "super" p0) [] [] p1) env)
      standAt p2.atName
      let (f, first) ← holding [ov] (getMethod ov "__init__" pl)
      callWith p4 f first (backTo p4 (starEach [.Name arg p3] env)) [])
/-- what is written of the class and its __init__ -/
structure SupC (prog : Program) (K : Frag) (C f : Addr) (arg fld : Str) : Prop where
  made : excInitIn K C exB "Exception.__new__" = true
  over : excOver K C exB = true
  ini : findIn K (.ref C) "__init__" = some (some (.ref f))
  isf : isFn K (.ref f) = true
  sup : ks_superIn K C C "__init__" = some (some (.builtin "Exception.__init__"))
  subE : subIn K (.ref C) (.type "Exception") = some true
  subB : subIn K (.ref C) (.type "BaseException") = some true
  typ : typeIn K (.ref C) = some (.type "type")
  keep : keepIn K (.ref C) = true
  setA : findIn K (.ref C) "__setattr__" = some (some (.builtin "object.__setattr__"))
  tak : takerIn K C fld = some none
  dic : hasDictIn K C = true
  opq : nsIn K cStatics "thirdparty.any" = some none
  sub0 : mroIn K C (.ref C) = some true
  fn : ∃ oc od osl nm qn params scope bd kV doc pm an cda ct cc p0 p1 p2 p3 p4 p5 p6 p7 p8 p9 ccl cdd vs ccs file tf cl cld csl ar,
    K.lookup f = some ⟨oc, od, .func (ksFn nm qn params bd scope .none kV doc pm an (.ref cda) ct cc), osl⟩ ∧
    codeIn K (.ref cda) qn = true ∧ K.lookup cda = some ⟨ccl, cdd, .fields vs, ccs⟩ ∧ vs[2]? = some (.str file tf) ∧ ((prog.main.file : Str) == file) = true ∧
    K.lookup cc = some ⟨cl, cld, .cell (some (.ref C)), csl⟩ ∧ (params.posonlyargs ++ params.args).head? = some ar ∧ ar.arg = "self" ∧
    (∀ a u : Value, bindArgs (ksFn nm qn params bd scope .none kV doc pm an (.ref cda) ct cc) ⟨[a, u], []⟩ = pure [(("self" : Str), a), (arg, u)]) ∧
    scope.names.lookup ("super" : Str) = some .globalImplicit ∧ scope.names.lookup ("__class__" : Str) = some .free ∧ scope.names.lookup ("self" : Str) = some .local ∧ scope.names.lookup arg = some .local ∧
    (∀ x ∈ scope.names, x.2 ≠ .cell) ∧ scope.isCoroutine = false ∧ scope.isGenerator = false ∧ scope.kind = .function ∧ SupEv arg p0 p1 p2 p3 p4 ∧ bd = supBody arg fld p0 p1 p2 p3 p4 p5 p6 p7 p8 p9
  top : (prog.main.scope.names.lookup ("super" : Str)).isSome = false
  argne : arg ≠ "self"
  argd : (arg == ("__debug__" : Str)) = false
section
variable {prog : Program} {w : World} {A : Around} {s : Shared} {K : Frag} {R : Result → Shared → Prop} {a C f t0 : Addr} {u : Value} {arg fld : Str} {g : Heap} {mg mb : Str → Option Value}
theorem sup_init (T : SupC prog K C f arg fld) (hroom : A.depth < recursionLimit) (X : K.In g) (hg : ∀ b o, g.get? b = some o → s.heap.get? b = some o) (hs : g.objs.size ≤ s.heap.objs.size) (hn : g.get? a = none)
    (hmg : g.Ns mainGlobals mg) (hmb : g.Ns builtinsNs mb) (hsm : mg "super" = none) (hsb : mb "super" = some (.type "super")) (nl : s.heap.NoLimit)
    (ha : s.heap.get? a = some (excObj C t0 none .none))
    (hgb : ∀ b o, b ≠ a → s.heap.get? b = some o → g.get? b = some o)
    (h : ∀ (h' : Heap) (tk : Nat) (dx t1 : Addr), (∀ b o, b ≠ a → s.heap.get? b = some o → h'.get? b = some o) → s.heap.objs.size ≤ dx → h'.get? a = some (excObj C t1 (some dx) .none) →
      h'.Ns1 dx (fun y => if y = fld then some u else none) → R (.ok (.ret .none)) { s with heap := h', toks := tk }) :
    codeAny (model prog w) A (.call (.ref f) ⟨[.ref a, u], []⟩) R s := by
  obtain ⟨oc, od, osl, nm, qn, params, scope, bd, kV, doc, pm, an, cda, ct, cc, p0, p1, p2, p3, p4, p5, p6, p7, p8, p9, ccl, cdd, vs, ccs, file, tf, cl, cld, csl, ar, lf, hcd, lcd, hvs, hfile, lcc, har, hself, hbind, ns, nc, nself, narg, hcell, hco, hgen, hk, ⟨pl, hev⟩, rfl⟩ := T.fn
  have Xs : K.In s.heap := X.keeps hg
  obtain ⟨cd, hcls⟩ : ∃ cd, clsIn K C = some cd := by
    have := T.sub0
    unfold mroIn at this
    cases q : clsIn K C with
    | none => rw [q] at this; cases this
    | some cd => exact ⟨cd, rfl⟩
  refine ks_codeAny_call_defAt (fd := ksFn nm qn params (supBody arg fld p0 p1 p2 p3 p4 p5 p6 p7 p8 p9) scope .none kV doc pm an (.ref cda) ct cc) (body := supBody arg fld p0 p1 p2 p3 p4 p5 p6 p7 p8 p9)
    (binds := [(("self" : Str), .ref a), (arg, u)]) hroom (Xs _ _ lf) rfl nl (codeRec_of Xs hcd) rfl (.of_eq (hbind _ _)) hcell ?_ (fun h₁ hns hk₁ => ?_) hco hgen hk
  · intro y hy
    simp only [List.mem_cons, List.not_mem_nil, or_false] at hy
    rcases hy with rfl | rfl
    · exact nself
    · exact narg
  have e1 : ([(("self" : Str), Value.ref a), (arg, u)] : List (Str × Value)).reverse.lookup arg = some u := by simp [List.lookup]
  have e2 : ([(("self" : Str), Value.ref a), (arg, u)] : List (Str × Value)).reverse.lookup ("self" : Str) = some (.ref a) := by
    have : (("self" : Str) == arg) = false := by simpa using fun q => T.argne q.symm
    simp [List.lookup, this]
  have F1 : Fr g s.heap.objs.size h₁ (fun x => ([(("self" : Str), Value.ref a), (arg, u)] : List (Str × Value)).reverse.lookup x) := ⟨hns, fun b o e => hk₁ b o (hg b o e), hs⟩
  have N1 : News g s.heap.objs.size h₁ [(a, excObj C t0 none .none)] := fun p hp => by
    rcases List.mem_cons.mp hp with rfl | hp
    · exact ⟨hk₁ _ _ ha, Nat.ne_of_lt (Heap.lt_size ha), hn⟩
    · cases hp
  show _root_.PySem.wpAt (model prog w) (A.deeper (ksEnv qn scope s.heap.objs.size f (.ref cda) cc)) (.func (supBody arg fld p0 p1 p2 p3 p4 p5 p6 p7 p8 p9) (ksEnv qn scope s.heap.objs.size f (.ref cda) cc)) (execs (supBody arg fld p0 p1 p2 p3 p4 p5 p6 p7 p8 p9) (ksEnv qn scope s.heap.objs.size f (.ref cda) cc)) _ _ _
  have I1 : InstAt h₁ a (excObj C t0 none .none) C none := .of_exc0 N1 (List.mem_cons_self ..)
  obtain ⟨oD, hD1, hD2⟩ : ∃ oD, h₁.get? C = some oD ∧ oD.data = .cls cd := by
    unfold clsIn at hcls
    split at hcls
    · rename_i c d cd' sl ho
      cases hcls
      exact ⟨_, hk₁ _ _ (Xs _ _ ho), rfl⟩
    · cases hcls
  have X1 : K.In h₁ := Xs.keeps hk₁
  obtain ⟨hh, gg, dd, tt, oo⟩ := s
  refine ks_wpAt_execs_cons (ks_wpAt_Expr_any (ks_wpAt_MethodCall (pl := pl) ?_ (hev _)) (by simp [interactive, hk]))
  refine ks_wpAt_super_base (env := ksEnv qn scope hh.objs.size f (.ref cda) cc) ns nc (by decide) rfl (X1 _ _ lf) rfl har rfl (X1 _ _ lcd) rfl hvs hfile T.top ?_
  refine ks_loadName_global hk ns (loadGlobal_builtin (env := ksEnv qn scope hh.objs.size f (.ref cda) cc) (hmg.keeps F1.keep) hsm (hmb.keeps F1.keep) hsb ⟨rfl, ?_⟩)
  refine wpAny_loadName_free hk nc rfl ⟨_, X1 _ _ lcc, rfl⟩ ?_
  rw [hself]
  refine wpAny_loadName_local hk nself F1.ns e2 ?_
  refine ks_wpAny_isType_cls hD1 hD2 ⟨rfl, ?_⟩
  refine ks_wpAny_call_super hD1 hD2 I1.at_ I1.cls (fun c e => ?_) (looks_mroIn X1 T.sub0) (fun h2 eso k2 => ?_)
  · cases e
  obtain ⟨F2, N2, l2⟩ := ks_newsPush (s := ⟨h₁, gg, dd, tt, oo⟩) F1 N1 rfl eso k2
  refine kxs_method kxs_Exception F2 X N2 (List.mem_cons_self ..) (.of_exc0 N2 (.tail _ (List.mem_cons_self ..))) T.opq T.sup T.subE (by decide) (fun q h3 F3 N3 l3 => ?_)
  refine kxs_callWith1 N3 (List.mem_cons_self ..) ?_
  refine spliced_cons (wpAny_Name (wpAny_loadName_local hk narg F3.ns e1 (spliced_nil ⟨kxs_at N3 (List.mem_cons_self ..), ?_⟩)) T.argd)
  have n1 : h₁.objs.size ≠ a := fun z => by have := l2 (a, _) (List.mem_cons_self ..); rw [← z] at this; exact absurd this (Nat.lt_irrefl _)
  have n2 : q ≠ a := fun z => by have := l3 (a, _) (.tail _ (List.mem_cons_self ..)); rw [← z] at this; exact absurd this (Nat.lt_irrefl _)
  refine kxs_call (x := a) F3 X N3 PySem.F.excBase_Exception T.made (List.mem_cons_self ..) (UpdF.tail n2 (UpdF.tail n1 (UpdF.head (fun _ hp => nomatch hp)))) (by rw [sizeLine_eq]; simp) (fun t4 h4 F4 N4 l4 => ?_)
  refine ks_wpAt_execs_cons (ks_wpAt_Assign_Attr (_root_.PySem.wpAt_of_wpAny ?_))
  refine wpAny_Name (wpAny_loadName_local hk narg F4.ns e1 ?_) T.argd
  refine wpAny_Name (wpAny_loadName_local hk nself F4.ns e2 ?_) (by decide)
  have n4 : t4 ≠ a := fun z => by have := l4 (a, _) (.tail _ (.tail _ (List.mem_cons_self ..))); rw [← z] at this; exact absurd this (Nat.lt_irrefl _)
  refine set_exc0 (x := a) PySem.F.store_Exception F4 X N4 (.tail _ (.tail _ (.tail _ (List.mem_cons_self ..)))) T.setA T.over T.tak T.dic rfl (UpdF.tail n4 (UpdF.tail n2 (UpdF.tail n1 (UpdF.head (fun _ hp => nomatch hp))))) (by simp [putL]) (fun dx h5 F5 N5 l5 => ?_)
  refine _root_.PySem.wpAt_of_wpAny (wpAny_execs_nil ?_)
  have hdx := N5 _ (List.mem_cons_self ..)
  have hlt : hh.objs.size ≤ dx := by
    have q1 := hns.lt
    have q2 := l5 (h₁.objs.size, _) (.tail _ (.tail _ (List.mem_cons_self ..)))
    exact Nat.le_of_lt (Nat.lt_trans q1 q2)
  refine h h5 _ dx t4 (fun b o hb e => F5.keep b o (hgb b o hb e)) hlt (N5 (a, _) (by simp)).1 ?_
  refine ⟨_, _, _, hdx.1, rfl, ?_, ?_, ?_⟩
  · intro e he
    simp only [putL, List.mem_toArray, List.mem_cons, List.not_mem_nil, or_false] at he
    exact ⟨_, _, by rw [he]⟩
  · simp [UniqKeys, putL]
  · intro y
    simp only [putL]
    by_cases q : y = fld
    · subst q
      simp [nsFind, findBy, Value.isStr]
    · have q' : ¬ fld = y := fun z => q z.symm
      simp [nsFind, findBy, Value.isStr, q, q']
end
end Z

namespace Z
open PySem L2
open PySem.W (Frag)
variable {X : Cx}
/-! ### C(e), an own exception with such an __init__ -/
def tMkS (C : Addr) (fld : Str) (te : TE) : St → Hp → XK → Prop := fun σ H Q => te σ H fun v H1 => ∀ d, H1 d = none → Q (.ref C) (some d) (upd H1 d (.xd [(fld, v)]))
theorem upd_un {H : Hp} {a d C : Addr} {fld : Str} {v : V} (ha : H a = none) (hd : d ≠ a) : upd (del (upd (upd (upd H a (exo a C none)) d (exd d [(fld, v)])) a (exo a C (some d))) a) d (.xd [(fld, v)]) = upd H d (.xd [(fld, v)]) := by
  funext b
  by_cases q : b = d
  · subst q; rw [upd_same, upd_same]
  · rw [upd_ne q, upd_ne q]
    by_cases q2 : b = a
    · subst q2; rw [del_same, ha]
    · rw [del_ne q2, upd_ne q2, upd_ne q, upd_ne q2]
theorem pmk_sup {C f : Addr} {x arg fld : Str} {e : Expr} {te : TE} {p pos : Pos} (T : SupC X.prog X.K C f arg fld) (hr : Room 1 X.A) (hsup : X.mg "super" = none) (hg : Gl X x) (hm : X.mg x = some (.ref C)) (he : PE X e te)
    (hdb : (x == ("__debug__" : Str)) = false := by decide) (hs : starEach [e] X.env = (false, eval e X.env) :: starEach [] X.env := by rfl) :
    PMk X (.Call (.Name x p) [e] [] pos) (tMkS C fld te) := by
  intro pins s σ H Q I h
  refine wpAny_Call_Name_kw (ld_glob I hg hm ?_ hdb)
  refine PySem.W.callWith_K (h₀ := X.base) I.ok.mod.kin T.keep ?_ hs (by rfl)
  rw [hs]
  show wpAny _ _ (spliced ((false, eval e X.env) :: backTo pos (starEach [] X.env))) _ _ s
  refine Calls.spliced_cons (thn (he.run pins s σ H _ I h) fun u s1 ⟨v, H1, I1, r1, q1⟩ => ?_)
  refine Calls.spliced_nil ⟨I1.kIn, ?_⟩
  show wpAny _ _ (call (.ref C) [u]) _ _ _
  obtain ⟨nm, N', qn, bs, bm, hdct, sn, sub, ab, col, dd, k0, k1, k2, k3, k5, hC, hT⟩ := PySem.W.excInit_of I1.kIn T.made
  obtain ⟨oI, hoI, hcI⟩ : ∃ oI, s1.heap.get? f = some oI ∧ oI.cls = .type "function" := by
    obtain ⟨o, ho, hc⟩ := Option.map_eq_some_iff.mp (show (X.K.lookup f).map (·.cls) = some (.type "function") from beq_iff_eq.mp T.isf)
    exact ⟨o, I1.kIn _ _ ho, hc⟩
  have hi : PySem.W.Looks (model X.prog X.w) s1.heap (typeLookup (.ref C) "__init__") (some (.ref f)) := PySem.W.looks_findIn I1.kIn T.ini
  obtain ⟨mbb, hmb, hbb⟩ := I1.ok.mod.blt
  obtain ⟨hp, g, dr, tk, os⟩ := s1
  have hsz : hp.objs.size ≤ hp.objs.size + 1 := Nat.le_succ _
  have hn : H1 (hp.objs.size + 1) = none := I1.hok.fresh hsz
  let hp2 : Heap := (hp.push (PySem.W.kdv_tup [u])).push (PySem.HandSPX.excO C hp.objs.size)
  have kk : ∀ b o, hp.get? b = some o → hp2.get? b = some o := fun b o e => Heap.get?_push_of_some _ (Heap.get?_push_of_some _ e)
  have hget : hp2.get? (hp.objs.size + 1) = some (PySem.HandSPX.excO C hp.objs.size) := by heap_get
  have nha : ∀ {b : Addr} {o : Obj}, hp.get? b = some o → b ≠ hp.objs.size + 1 := fun {b o} z => Nat.ne_of_lt (Nat.lt_of_lt_of_le (Heap.lt_size z) hsz)
  have gk : ∀ b o, hp.get? b = some o → (PySem.W.hideAll hp2 [hp.objs.size + 1]).get? b = some o := fun b o z => PySem.W.hideAll_get _ (kk b o z) (by simpa using nha z)
  refine wpAny_call (PySem.PX.call_own PySem.F.excBase_Exception hT hC hi (fun self => PySem.W.exc_bind hoI hcI self) (by rw [sizeLine_eq]; simp) ?_)
  refine sup_init (a := hp.objs.size + 1) (t0 := hp.objs.size) (g := PySem.W.hideAll hp2 [hp.objs.size + 1]) (mg := X.mg) (mb := mbb) T (hr.make C [u] []).depth (I1.kIn.keeps gk) (fun b o z => PySem.W.of_hideAll _ z) (Nat.le_of_eq (PySem.W.hideAll_size _ _)) (PySem.W.hideAll_none _ (by simp))
    ((I1.ok.mod.glob.keeps I1.bk).keeps gk) ((hmb.keeps I1.bk).keeps gk) hsup (by rw [hbb _ (by decide)]; decide +kernel) (I1.nolimit.keeps kk) hget (fun b o hb z => PySem.W.hideAll_get _ z (by simpa using hb)) (fun h2 tk2 dx t1 k2 hlt ha2 hns => ?_)
  have hle : hp.objs.size + 1 < hp2.objs.size := Heap.lt_size hget
  have hlt2 : hp2.objs.size ≤ dx := hlt
  have hndx : hp.objs.size ≤ dx := Nat.le_trans (Nat.le_succ _) (Nat.le_trans (Nat.le_of_lt hle) hlt2)
  have hd1 : H1 dx = none := I1.hok.fresh hndx
  have dne : dx ≠ hp.objs.size + 1 := fun z => absurd (Nat.lt_of_lt_of_le hle hlt2) (by rw [z]; exact Nat.lt_irrefl _)
  have ea : upd H1 (hp.objs.size + 1) (exo (hp.objs.size + 1) C none) (hp.objs.size + 1) = some (exo (hp.objs.size + 1) C none) := upd_same
  have I2 : Inv X pins σ (upd H1 (hp.objs.size + 1) (exo (hp.objs.size + 1) C none)) ⟨hp2, g, dr, tk, os⟩ :=
    I1.laid (t' := tk) (a := hp.objs.size + 1) (o := exo (hp.objs.size + 1) C none) (h' := hp2) kk hsz (exo_ok hget)
  have hd2 : upd H1 (hp.objs.size + 1) (exo (hp.objs.size + 1) C none) dx = none := by rw [upd_ne dne]; exact hd1
  have un : Un (frs X.stack) [] (upd H1 (hp.objs.size + 1) (exo (hp.objs.size + 1) C none)) (upd (upd (upd H1 (hp.objs.size + 1) (exo (hp.objs.size + 1) C none)) dx (exd dx [(fld, v)])) (hp.objs.size + 1) (exo (hp.objs.size + 1) C (some dx))) hp2 h2 := by
    have nd : ∀ {b : Addr} {o : Obj}, hp2.get? b = some o → b ≠ dx := fun {b o} z => Nat.ne_of_lt (Nat.lt_of_lt_of_le (Heap.lt_size z) hlt2)
    have na : ∀ {b : Addr}, upd H1 (hp.objs.size + 1) (exo (hp.objs.size + 1) C none) b = none → b ≠ hp.objs.size + 1 := fun {b} n z => by
      rw [z, ea] at n
      cases n
    exact {
      keep := fun b o z n _ _ => k2 b o (na n) z
      slot := fun b o z n _ _ => ⟨o.slots, k2 b o (na n) z⟩
      free := fun b o z n _ => by rw [upd_ne (na n), upd_ne (nd z)]; exact n
      there := fun b o z _ => by
        by_cases hb : b = hp.objs.size + 1
        · exact ⟨_, by rw [hb]; exact ha2⟩
        · exact ⟨o, k2 b o hb z⟩
      tups := fun b xs z => by rw [upd_ne (at_ne ea z exo_tup), upd_ne (ne_of_none z hd2)]; exact z
      frzs := fun b o w z => by rw [upd_ne (at_ne ea z exo_frz), upd_ne (ne_of_none z hd2)]; exact z
      tbls := fun b ps z => ⟨#[], by rw [upd_ne (at_ne ea z exo_tbl), upd_ne (ne_of_none z hd2), z]; simp⟩ }
  have hok : HOk X.prog X.w (upd (upd (upd H1 (hp.objs.size + 1) (exo (hp.objs.size + 1) C none)) dx (exd dx [(fld, v)])) (hp.objs.size + 1) (exo (hp.objs.size + 1) C (some dx))) h2 := fun b o z => by
    by_cases hb : b = hp.objs.size + 1
    · subst hb
      rw [upd_same] at z
      cases z
      exact exo_ok ha2
    · rw [upd_ne hb] at z
      by_cases hd : b = dx
      · subst hd
        rw [upd_same] at z
        cases z
        exact exd_ok hns (relO_put (fs := []) r1 fun g => True.intro)
      · rw [upd_ne hd] at z
        refine (I2.hok b o z).stay (fun c v hc y => k2 c v ?_ y) (fun c hc => ?_) fun c xs hc => ?_
        · rcases hc with hc | hc
          · rw [hc]; exact hb
          · exact at_ne ea hc exo_own
        · rw [upd_ne (at_ne ea hc exo_own), upd_ne (ne_of_none hc hd2)]; exact hc
        · rw [upd_ne (at_ne ea hc exo_tup), upd_ne (ne_of_none hc hd2)]; exact hc
  refine ⟨rfl, ?_⟩
  show MkP X pins σ Q (.ref (hp.objs.size + 1)) ⟨h2, g, dr, tk2, os⟩
  refine mk_end (fs := [(fld, v)]) (raises_own T.subB T.typ) I1 hsz kk un hok rfl I1.bare upd_same ?_ hd1 ?_
  · rw [upd_ne dne, upd_same]
  · rw [upd_un hn dne]
    exact q1 dx hd1
end Z

namespace Z
noncomputable section
open PySem L2
open PySem.W (Frag)
variable {X : Cx}
/-! ### C(), an own exception without an __init__ -/
theorem pmk_own0 {C : Addr} {bmB : List Value} {B newId initId : String} {x : Str} {p pos : Pos} (F : ExcBaseFacts B newId initId bmB) (q : PySem.W.excIn X.K C bmB newId = true) (gC : X.mg x = some (.ref C))
    (kC : PySem.W.keepIn X.K (.ref C) = true) (r : Raises X (.ref C)) (hg : Gl X x) (hdb : (x == ("__debug__" : Str)) = false := by decide) :
    PMk X (.Call (.Name x p) [] [] pos) (fun _ H Q => Q (.ref C) none H) := by
  intro pins s σ H Q I h
  refine wpAny_Call_Name_kw (ld_glob I hg gC ?_ hdb)
  refine PySem.W.callWith_K0 I.kIn kC ?_
  show wpAny _ _ (call (.ref C) []) _ _ _
  obtain ⟨bm, N, nm, qn, bs, hdct, sn, sub, ab, col, dd, k0, k1, k2, k3, k5, mN, hC, hN, hni, T⟩ := exc_obj I.kIn q
  obtain ⟨hp, g, dr, tk, os⟩ := s
  refine wpAny_call_exc_subT F T hC hN hni (fun h' e hm => ?_) (Nat.zero_le _)
  exact mk_of I hm r h (I.hok.gone hm.new)
/-! ### isinstance(e, C) -/
structure XcC (K : Frag) (D : Addr) : Prop where
  cl : (PySem.W.clsIn K D).isSome = true
  ga : PySem.W.findIn K (.ref D) "__getattribute__" = some (some (.builtin "BaseException.__getattribute__"))
  gg : PySem.W.findIn K (.ref D) "__getattr__" = some none
  sb : PySem.W.subIn K (.ref D) (.type "BaseException") = some true
  hd : PySem.W.hasDictIn K D = true
  ca : PySem.W.findIn K (.ref D) "__class__" = some (some (.builtin "object.__class__"))
  sp : PySem.W.specialIn K (.builtin "object.__class__") "__get__" = some (some (.builtin "getset_descriptor.__get__"))
  tk : PySem.W.takesIn K (.builtin "object.__class__") = some true
  mo : PySem.W.mroIn K D (.type "object") = some true
  ty : PySem.W.typeIn K (.ref D) = some (.type "type")
  kp : PySem.W.keepIn K (.ref D) = true
def xcB (K : Frag) (D : Addr) : Bool :=
  (PySem.W.clsIn K D).isSome && decide (PySem.W.findIn K (.ref D) "__getattribute__" = some (some (.builtin "BaseException.__getattribute__"))) && decide (PySem.W.findIn K (.ref D) "__getattr__" = some none) &&
    decide (PySem.W.subIn K (.ref D) (.type "BaseException") = some true) && PySem.W.hasDictIn K D && decide (PySem.W.findIn K (.ref D) "__class__" = some (some (.builtin "object.__class__"))) &&
    decide (PySem.W.specialIn K (.builtin "object.__class__") "__get__" = some (some (.builtin "getset_descriptor.__get__"))) && decide (PySem.W.takesIn K (.builtin "object.__class__") = some true) &&
    decide (PySem.W.mroIn K D (.type "object") = some true) && decide (PySem.W.typeIn K (.ref D) = some (.type "type")) && PySem.W.keepIn K (.ref D)
theorem xcB_ok {K : Frag} {D : Addr} (h : xcB K D = true) : XcC K D := by
  unfold xcB at h
  simp only [Bool.and_eq_true, decide_eq_true_eq] at h
  obtain ⟨⟨⟨⟨⟨⟨⟨⟨⟨⟨h1, h2⟩, h3⟩, h4⟩, h5⟩, h6⟩, h7⟩, h8⟩, h9⟩, h10⟩, h11⟩ := h
  exact ⟨h1, h2, h3, h4, h5, h6, h7, h8, h9, h10, h11⟩
def rIsX (K : Frag) (cls : Value) (d : Option Addr) (a : Addr) : List V → Hp → VK → Prop := fun xs H Q => ∃ (D : Addr) (c : V) (cv : Value) (b : Bool), cls = .ref D ∧ XcC K D ∧
  (d = none ∨ ∃ dd fs, d = some dd ∧ H dd = some (.xd fs)) ∧ xs = [.ref a, c] ∧ (∀ u, RelV c u → u = cv) ∧ PySem.W.kitOne K (.ref D) cv = some b ∧ Q (.bl b) H
theorem call_isX {a : Addr} {cls : Value} {d : Option Addr} {oe : Obj} {pn : List (Addr × Obj)} (hz : Zc cls d oe) (hf : ∃ vs, oe.data = .fields vs) : CallR (X.suite a ((a, oe) :: pn)) (.builtin "isinstance") (rIsX X.K cls d a) := by
  intro pins s σ H xs us Q I r h
  obtain ⟨D, c, cv, b, rfl, C, hd, rfl, hcv, e, q⟩ := h
  match us, r with
  | [ux, ut], .cons rx (.cons rt .nil) =>
    obtain rfl : ux = Value.ref a := rx
    have ec := hcv _ rt
    subst ec
    obtain ⟨hget, _⟩ := I.pin (a, oe) (List.mem_append.mpr (.inl List.mem_cons_self))
    obtain ⟨vs, hv⟩ := hf
    have nc : PySem.W.notCls oe = true := by unfold PySem.W.notCls; rw [hv]
    rcases hd with rfl | ⟨dd, fs, rfl, hdd⟩
    · have J : PySem.W.InstAt s.heap a oe D none := ⟨hget, hz.1, nc, by rw [hz.2]; trivial⟩
      exact PySem.W.kia_one (PySem.W.kitx_exc C.cl C.ga C.gg C.sb C.ca C.sp C.tk C.mo) I.kIn J e (fun z => nomatch z) fun tk => ⟨.bl b, H, I.kept (t' := tk) fun _ _ z => z, rfl, q⟩
    · have hx : ObjOk X.prog X.w H s.heap dd (.xd fs) := I.hok dd _ hdd
      obtain ⟨mA, hns, hr⟩ := hx
      obtain ⟨od, ho, hl⟩ := lookIn_ns hns
      have J : PySem.W.InstAt s.heap a oe D (some od) := ⟨hget, hz.1, nc, by rw [hz.2]; exact ho⟩
      exact PySem.W.kia_one (PySem.W.kitx_exc C.cl C.ga C.gg C.sb C.ca C.sp C.tk C.mo) I.kIn J e (fun z => nomatch z) fun tk => ⟨.bl b, H, I.kept (t' := tk) fun _ _ z => z, rfl, q⟩
/-! ### raise, over data -/
variable {ct : CT} {Wx : XW} {W S0 S H H' : Hp} {ρ : Env} {σ σ0 : St} {t u : T} {ts us tm : List T} {v w : V} {vs ws vm : List V} {as bs : List Addr} {i : Nat} {d : D} {pin : List Nat} {D0 : Ends}
def mRaise0 (cls : Str) : SM := fun ρ => .ex ⟨cls, []⟩ ρ
theorem ss_raise0 {C : Addr} {cls : Str} (hC : ct cls = some C) : SS ct Wx pin (fun _ σ H => Wx (.ref C) none σ H) (mRaise0 cls) := fun W S0 σ0 ρ σ H D g p k =>
  k (.ref C) none σ H g p ⟨C, hC, rfl, (fun q h => nomatch h), .inl ⟨rfl, rfl⟩⟩
def mRaise1 (cls fld : Str) (e : EM) : SM := fun ρ => (e ρ).st fun t ρ => if t.d.scal = true then .ex ⟨cls, [(fld, t.d)]⟩ ρ else .bad
theorem ss_raise1 {C : Addr} {cls fld : Str} {te : TE} {e : EM} (hC : ct cls = some C) (he : SE ct Wx te e) : SS ct Wx pin (fun _ σ H => tMkS C fld te σ H fun c d H' => Wx c d σ H') (mRaise1 cls fld e) := fun W S0 σ0 ρ σ H D g p k => by
  refine he W S0 ρ σ [] [] H _ g ((SK.st p k).mono (fun t ρ1 k1 v H1 g1 => ?_) fun _ _ h => h)
  obtain ⟨hs, k1⟩ := SK_ite k1
  intro d hd
  have es : Same H1 (upd H1 d (.xd [(fld, v)])) := same_new hd
  refine k1 (.ref C) (some d) σ _ (g1.pop1.ext es) p ⟨C, hC, rfl, fun q hq => ?_, .inr ⟨d, [v], rfl, upd_same, ⟨v, [], rfl, g1.tmp.scal hs, rfl⟩⟩⟩
  rcases List.mem_cons.mp hq with rfl | hq
  · exact hs
  · cases hq
/-! ### try: body, except T as e: suite -/
def relX (a b : Str) : Bool := a == b || b == "TurnError"
def XaA (ct : CT) (x : Exn) (cls : Value) (d : Option Addr) (a : Addr) (i : Nat) : Hp → St → Prop := fun W σ => σ[i]? = some (some (.ref a)) ∧ XOk ct x cls d W
def SOut.drop (i : Nat) : SOut → SOut
  | .nx ρ => .nx (ρ.set i none)
  | .bk ρ => .bk (ρ.set i none)
  | .ct ρ => .ct (ρ.set i none)
  | .rt t ρ => .rt t (ρ.set i none)
  | .ex _ _ => .bad
  | .bad => .bad
def mTry (Tn : Str) (i : Nat) (body : SM) (suite : Exn → SM) : SM := fun ρ => match body ρ with
  | .ex x ρ' => if relX x.cls Tn = true then (if i < ρ'.length then (suite x (ρ'.set i none)).drop i else .bad) else .ex x ρ'
  | r => r
mutual
theorem Rt.nox {S H : Hp} : ∀ {t : T} {v : V} {as : List Addr}, Rt S H t v as → ∀ a ∈ as, ∀ fs, H a ≠ some (.xd fs)
  | .sh _, _, _, ⟨h1, h2⟩, a, ha => by subst h1; cases ha
  | .ol l, _, _, ⟨a, vs, bs, h1, h2, h3, h4⟩, b, hb => by
    subst h2
    rcases List.mem_cons.mp hb with rfl | hb
    · intro fs; rw [h3]; simp
    · exact Rtl.nox h4 b hb
  | .ot l, _, _, ⟨a, vs, bs, h1, h2, h3, h4⟩, b, hb => by
    subst h2
    rcases List.mem_cons.mp hb with rfl | hb
    · intro fs; rw [h3]; simp
    · exact Rtl.nox h4 b hb
  | .od ks l, _, _, ⟨a, vs, bs, h1, h2, h3, h5, h4⟩, b, hb => by
    subst h2
    rcases List.mem_cons.mp hb with rfl | hb
    · intro fs; rw [h3]; simp
    · exact Rtl.nox h4 b hb
theorem Rtl.nox {S H : Hp} : ∀ {t : List T} {v : List V} {as : List Addr}, Rtl S H t v as → ∀ a ∈ as, ∀ fs, H a ≠ some (.xd fs)
  | [], _, _, h, a, ha => by rw [h.2] at ha; cases ha
  | _ :: _, _, _, ⟨v, r, b, c, h1, h2, h3, h4⟩, a, ha => by
    subst h2
    rcases List.mem_append.mp ha with ha | ha
    · exact Rt.nox h3 a ha
    · exact Rtl.nox h4 a ha
end
theorem Re.nox {S H : Hp} : ∀ {ρ : Env} {σ : St} {as : List Addr}, Re S H ρ σ as → ∀ a ∈ as, ∀ fs, H a ≠ some (.xd fs)
  | [], _, _, h, a, ha => by rw [h.2] at ha; cases ha
  | none :: _, _, _, ⟨o, r, h1, h2⟩, a, ha => Re.nox h2 a ha
  | some _ :: _, _, _, ⟨v, r, b, c, h1, h2, h3, h4⟩, a, ha => by
    subst h2
    rcases List.mem_append.mp ha with ha | ha
    · exact h3.nox a ha
    · exact Re.nox h4 a ha
theorem GX.addX {dd : Addr} {fs : List (Str × V)} (g : GX W S0 ρ σ tm vm H) (hd : H dd = some (.xd fs)) : ∃ W' S, W' dd = some (.xd fs) ∧ GX W' S ρ σ tm vm H ∧
    ∀ {ρ' : Env} {σ' : St} {tm' : List T} {vm' : List V} {H' : Hp}, GX W' S ρ' σ' tm' vm' H' → GX W S0 ρ' σ' tm' vm' H' := by
  obtain ⟨S, as, bs, hu, g⟩ := g.up
  have w1 : ∀ a, W a ≠ none → upd W dd (.xd fs) a ≠ none := fun a h => by
    by_cases q : a = dd
    · subst q; rw [upd_same]; simp
    · rw [upd_ne q]; exact h
  refine ⟨upd W dd (.xd fs), S, upd_same, ⟨S, as, bs, g.s0, g.sh, fun a o h => ?_, fun a _ h => h, g.re, g.rt, g.nd, g.fs, fun a ha => ?_⟩, ?_⟩
  · by_cases q : a = dd
    · subst q; rw [upd_same] at h; rw [hd]; exact h
    · rw [upd_ne q] at h; exact g.wh a o h
  · have q : a ≠ dd := by
      rintro rfl
      rcases List.mem_append.mp ha with h | h
      · exact g.re.nox a h fs hd
      · exact g.rt.nox a h fs hd
    rw [upd_ne q]
    exact g.fw a ha
  · intro ρ' σ' tm' vm' H' ⟨S1, as1, bs1, g1⟩
    refine ⟨S1, as1, bs1, hu.1.trans g1.s0, g1.sh, fun a o h => ?_, fun a h k => hu.2 a h (g1.nw a (w1 a h) k), g1.re, g1.rt, g1.nd, g1.fs, fun a ha => ?_⟩
    · by_cases q : a = dd
      · subst q
        have h2 := g.wh a o h
        rw [hd] at h2
        cases h2
        exact g1.wh a _ upd_same
      · exact g1.wh a o (by rw [upd_ne q]; exact h)
    · have h1 := g1.fw a ha
      cases q : W a with
      | none => rfl
      | some o => exact absurd h1 (w1 a (by rw [q]; simp))
theorem XOk.at {x : Exn} {c : Value} {d : Option Addr} {a : Addr} (h : XOk ct x c d H) : (x.fs = [] ∧ d = none) ∨ ∃ dd vs, d = some dd ∧ H dd = some (.xd ((x.fs.map (·.1)).zip vs)) ∧ ∀ W : Hp, W dd = some (.xd ((x.fs.map (·.1)).zip vs)) → XOk ct x c d W := by
  obtain ⟨C, h1, h2, h3, h4⟩ := h
  rcases h4 with h4 | ⟨dd, vs, h5, h6, h7⟩
  · exact .inl h4
  · refine .inr ⟨dd, vs, h5, h6, fun W hW => ⟨C, h1, h2, h3, .inr ⟨dd, vs, h5, hW, ?_⟩⟩⟩
    clear h1 h2 h5 h6 hW
    revert vs
    generalize x.fs = l at h3
    induction l with
    | nil => exact fun vs h => h
    | cons q l ih =>
      rintro vs ⟨v, r, rfl, h8, h9⟩
      exact ⟨v, r, rfl, h8.scal (h3 q List.mem_cons_self), ih (fun y hy => h3 y (List.mem_cons_of_mem _ hy)) r h9⟩
theorem ss_try {K : Frag} {cT : Value} {Tn : Str} {tb : WX → TS} {ts : Addr → Value → Option Addr → TS} {body : SM} {suite : Exn → SM}
    (tab : ∀ x C, ct x = some C → PySem.W.exmOne K (.ref C) cT = some (relX x Tn)) (hb : ∀ W : WX, SS ct W pin (tb W) body)
    (hs : ∀ x a cls d, SSa (XaA ct x cls d a i) ct (fun _ _ _ _ => False) (i :: pin) (ts a cls d) (suite x)) (hi : i ∉ pin) :
    SS ct Wx pin (fun D σ H => tb (wAs K cT i ts Wx D) D σ H) (mTry Tn i body suite) := fun W S0 σ0 ρ σ H D g p k => by
  refine hb (wAs K cT i ts Wx D) W S0 σ0 ρ σ H D g p ?_
  unfold mTry at k
  generalize body ρ = o at k ⊢
  cases o with
  | bad => exact k
  | nx ρ' => exact k
  | rt t ρ' => exact k
  | bk ρ' => exact k
  | ct ρ' => exact k
  | ex x ρ' =>
    intro c d σ1 H1 g1 p1 hx
    obtain ⟨C, hC, rfl, _⟩ := id hx
    refine ⟨relX x.cls Tn, tab _ _ hC, fun hr a ha => ?_, fun hr => ?_⟩
    · simp only [hr, if_true] at k
      obtain ⟨hl, k⟩ := SK_ite k
      have hl1 : i < σ1.length := by rw [g1.lenE]; exact hl
      have g2 : GX W S0 (ρ'.set i none) (σ1.set i (some (.ref a))) [] [] H1 := (g1.forget i).junk
      have key : ∃ W' S, XOk ct x (.ref C) d W' ∧ GX W' S (ρ'.set i none) (σ1.set i (some (.ref a))) [] [] H1 ∧
          ∀ {ρ' : Env} {σ' : St} {tm' : List T} {vm' : List V} {H' : Hp}, GX W' S ρ' σ' tm' vm' H' → GX W S0 ρ' σ' tm' vm' H' := by
        rcases hx.at (a := a) with ⟨h1, h2⟩ | ⟨dd, vs, h1, h2, h3⟩
        · obtain ⟨C', q1, q2, q3, _⟩ := hx
          exact ⟨W, S0, ⟨C', q1, q2, q3, .inl ⟨h1, h2⟩⟩, g2, fun h => h⟩
        · obtain ⟨W', S, q1, q2, q3⟩ := g2.addX h2
          exact ⟨W', S, h3 W' q1, q2, q3⟩
      obtain ⟨W', S, hx', g3, back⟩ := key
      have hA : XaA ct x (.ref C) d a i W' (σ1.set i (some (.ref a))) := ⟨by rw [List.getElem?_set_self hl1], hx'⟩
      refine hs x a (.ref C) d W' S (σ1.set i (some (.ref a))) (ρ'.set i none) (σ1.set i (some (.ref a))) H1 _ hA g3 Pin.refl ?_
      have pp : ∀ {σ2 : St}, Pin (i :: pin) (σ1.set i (some (.ref a))) σ2 → Pin pin σ0 (σ2.set i none) := fun {σ2} h j hj => by
        have hne : i ≠ j := fun z => hi (by rw [z]; exact hj)
        rw [List.getElem?_set_ne hne, h j (List.mem_cons_of_mem _ hj), List.getElem?_set_ne hne]; exact p1 j hj
      generalize suite x (ρ'.set i none) = o at k ⊢
      cases o with
      | bad => exact k
      | nx ρ2 => exact fun σ2 H2 g4 p4 => k _ H2 (back (GX.junk (g4.forget i))) (pp p4)
      | rt t ρ2 => exact fun v σ2 H2 g4 p4 => k v _ H2 (back (GX.junk (g4.forget i))) (pp p4)
      | bk ρ2 => exact fun σ2 H2 g4 p4 => k _ H2 (back (GX.junk (g4.forget i))) (pp p4)
      | ct ρ2 => exact fun σ2 H2 g4 p4 => k _ H2 (back (GX.junk (g4.forget i))) (pp p4)
      | ex x2 ρ2 => exact k.elim
    · simp only [hr, Bool.false_eq_true, if_false] at k
      exact k _ d σ1 H1 g1 p1 hx
/-! ### readings in the suite -/
def SEx (A : Hp → St → Prop) (ct : CT) (Wx : XW) (te : TE) (m : EM) : Prop := ∀ W S0 ρ σ tm vm H (Q : VK), A W σ → GX W S0 ρ σ tm vm H → (m ρ).P (fun t ρ' => ∀ v H', GX W S0 ρ' σ (t :: tm) (v :: vm) H' → Q v H') (XE ct Wx W S0 σ tm vm) → te σ H Q
def SEAx (A : Hp → St → Prop) (ct : CT) (Wx : XW) (ta : TA) (m : EMs) : Prop := ∀ W S0 ρ σ tm vm H (Q : List V → Hp → Prop), A W σ → GX W S0 ρ σ tm vm H → (m ρ).P (fun ts ρ' => ∀ vs H', vs.length = ts.length → GX W S0 ρ' σ (ts ++ tm) (vs ++ vm) H' → Q vs H') (XE ct Wx W S0 σ tm vm) → ta σ H Q
def SETx (A : Hp → St → Prop) (ct : CT) (Wx : XW) (tt : TT) (m : EMb) : Prop := ∀ W S0 ρ σ tm vm H (Q : Bool → Hp → Prop), A W σ → GX W S0 ρ σ tm vm H → (m ρ).P (fun b ρ' => ∀ H', GX W S0 ρ' σ tm vm H' → Q b H') (XE ct Wx W S0 σ tm vm) → tt σ H Q
variable {A : Hp → St → Prop}
theorem xe_up {te : TE} {m : EM} (h : SE ct Wx te m) : SEx A ct Wx te m := fun W S0 ρ σ tm vm H Q _ => h W S0 ρ σ tm vm H Q
theorem xea_up {te : TA} {m : EMs} (h : SEA ct Wx te m) : SEAx A ct Wx te m := fun W S0 ρ σ tm vm H Q _ => h W S0 ρ σ tm vm H Q
theorem xet_up {te : TT} {m : EMb} (h : SET ct Wx te m) : SETx A ct Wx te m := fun W S0 ρ σ tm vm H Q _ => h W S0 ρ σ tm vm H Q
theorem xea_nil : SEAx A ct Wx tNil eNil := xea_up sea_nil
theorem xea_cons {ta : TE} {tr : TA} {a : EM} {b : EMs} (ha : SEx A ct Wx ta a) (hb : SEAx A ct Wx tr b) : SEAx A ct Wx (tCons ta tr) (eCons a b) := fun W S0 ρ σ tm vm H Q x g k => by
  refine ha W S0 ρ σ tm vm H _ x g ((Out.P_bnd.mp k).mono (fun t ρ1 k1 v H1 g1 => ?_) fun _ _ h => h)
  refine hb W S0 ρ1 σ (t :: tm) (v :: vm) H1 _ x g1 ((Out.P_bnd.mp k1).mono (fun ts ρ2 k2 vs H2 e2 g2 => ?_) fun _ _ h => XE.pop (ts := [t]) (vs := [v]) h rfl)
  exact k2 (v :: vs) H2 (by simp [e2]) (g2.rot e2)
theorem xe_lst {ta : TA} {a : EMs} (ha : SEAx A ct Wx ta a) : SEx A ct Wx (tLst ta) (eLst a) := fun W S0 ρ σ tm vm H Q x g k => by
  refine ha W S0 ρ σ tm vm H _ x g ((Out.P_bnd.mp k).mono (fun ts ρ1 k1 vs H1 e1 g1 => ?_) fun _ _ h => h)
  obtain ⟨hz, k1⟩ := P_ite k1
  exact ⟨lim_le (by omega), fun p hp => k1 _ _ (g1.newL e1 hp)⟩
theorem xe_tup {ta : TA} {a : EMs} (ha : SEAx A ct Wx ta a) : SEx A ct Wx (tTup ta) (eTup a) := fun W S0 ρ σ tm vm H Q x g k => by
  refine ha W S0 ρ σ tm vm H _ x g ((Out.P_bnd.mp k).mono (fun ts ρ1 k1 vs H1 e1 g1 => ?_) fun _ _ h => h)
  obtain ⟨hz, k1⟩ := P_ite k1
  exact ⟨lim_le (by omega), fun p hp => k1 _ _ (g1.newT e1 hp)⟩
theorem xe_op {r : R2} {o : T → T → Option T} {ta tb : TE} {a b : EM} (hr : OpE r o) (ha : SEx A ct Wx ta a) (hb : SEx A ct Wx tb b) : SEx A ct Wx (tOp r ta tb) (eOp o a b) := fun W S0 ρ σ tm vm H Q x g k => by
  refine ha W S0 ρ σ tm vm H _ x g ((Out.P_bnd.mp k).mono (fun t ρ1 k1 v H1 g1 => ?_) fun _ _ h => h)
  refine hb W S0 ρ1 σ (t :: tm) (v :: vm) H1 _ x g1 ((Out.P_bnd.mp k1).mono (fun u ρ2 k2 w H2 g2 => ?_) fun _ _ h => XE.pop (ts := [t]) (vs := [v]) h rfl)
  obtain ⟨z, e, k2⟩ := P_opt k2
  exact hr W S0 ρ2 σ tm vm H2 t u v w z Q g2 e k2
theorem xet_b {te : TE} {a : EM} (ha : SEx A ct Wx te a) : SETx A ct Wx (tB te) (eB a) := fun W S0 ρ σ tm vm H Q x g k => by
  refine ha W S0 ρ σ tm vm H _ x g ((Out.P_bnd.mp k).mono (fun t ρ1 k1 v H1 g1 => ?_) fun _ _ h => h)
  obtain ⟨b, e, k⟩ := P_opt k1
  have := g1.tmp
  rw [tru_bl e] at this
  exact ⟨b, this, k H1 g1.pop1⟩
theorem xet_test {te : TE} {a : EM} (ha : SEx A ct Wx te a) : SETx A ct Wx (tTest te) (eB a) := fun W S0 ρ σ tm vm H Q x g k => by
  refine ha W S0 ρ σ tm vm H _ x g ((Out.P_bnd.mp k).mono (fun t ρ1 k1 v H1 g1 => ?_) fun _ _ h => h)
  obtain ⟨b, e, k⟩ := P_opt k1
  have := g1.tmp
  rw [tru_bl e] at this
  exact ⟨b, this, k H1 g1.pop1⟩
theorem xet_and {ta tb : TT} {a b : EMb} (ha : SETx A ct Wx ta a) (hb : SETx A ct Wx tb b) : SETx A ct Wx (tAnd ta tb) (eAnd a b) := fun W S0 ρ σ tm vm H Q x g k => by
  refine ha W S0 ρ σ tm vm H _ x g ((Out.P_bnd.mp k).mono (fun c ρ1 k1 H1 g1 => ?_) fun _ _ h => h)
  cases c with
  | true => exact hb W S0 ρ1 σ tm vm H1 Q x g1 k1
  | false => exact k1 H1 g1
theorem xet_or {ta tb : TT} {a b : EMb} (ha : SETx A ct Wx ta a) (hb : SETx A ct Wx tb b) : SETx A ct Wx (tOr ta tb) (eOr a b) := fun W S0 ρ σ tm vm H Q x g k => by
  refine ha W S0 ρ σ tm vm H _ x g ((Out.P_bnd.mp k).mono (fun c ρ1 k1 H1 g1 => ?_) fun _ _ h => h)
  cases c with
  | false => exact hb W S0 ρ1 σ tm vm H1 Q x g1 k1
  | true => exact k1 H1 g1
theorem xet_not {ta : TT} {a : EMb} (ha : SETx A ct Wx ta a) : SETx A ct Wx (tNot ta) (eNot a) := fun W S0 ρ σ tm vm H Q x g k => by
  refine ha W S0 ρ σ tm vm H _ x g ((Out.P_bnd.mp k).mono (fun c ρ1 k1 H1 g1 => k1 H1 g1) fun _ _ h => h)
theorem xe_andV {ta tb : TE} {a b : EM} (ha : SEx A ct Wx ta a) (hb : SEx A ct Wx tb b) : SEx A ct Wx (tAndV ta tb) (eAndV a b) := fun W S0 ρ σ tm vm H Q x g k => by
  refine ha W S0 ρ σ tm vm H _ x g ((Out.P_bnd.mp k).mono (fun t ρ1 k1 v H1 g1 => ?_) fun _ _ h => h)
  have q := g1.tmp
  split at k1
  · rename_i e
    rw [tru_bl e] at q
    exact ⟨true, q, hb W S0 ρ1 σ tm vm H1 Q x g1.pop1 k1⟩
  · rename_i e
    rw [tru_bl e] at q
    exact ⟨false, q, k1 _ H1 (g1.pop1.pushC (S := H1) rfl rfl)⟩
  · exact k1.elim
theorem xe_orV {ta tb : TE} {a b : EM} (ha : SEx A ct Wx ta a) (hb : SEx A ct Wx tb b) : SEx A ct Wx (tOrV ta tb) (eOrV a b) := fun W S0 ρ σ tm vm H Q x g k => by
  refine ha W S0 ρ σ tm vm H _ x g ((Out.P_bnd.mp k).mono (fun t ρ1 k1 v H1 g1 => ?_) fun _ _ h => h)
  have q := g1.tmp
  split at k1
  · rename_i e
    rw [tru_bl e] at q
    exact ⟨false, q, hb W S0 ρ1 σ tm vm H1 Q x g1.pop1 k1⟩
  · rename_i e
    rw [tru_bl e] at q
    exact ⟨true, q, k1 _ H1 (g1.pop1.pushC (S := H1) rfl rfl)⟩
  · exact k1.elim
theorem xe_notV {ta : TE} {a : EM} (ha : SEx A ct Wx ta a) : SEx A ct Wx (tNotV ta) (eNotV a) := fun W S0 ρ σ tm vm H Q x g k => by
  refine ha W S0 ρ σ tm vm H _ x g ((Out.P_bnd.mp k).mono (fun t ρ1 k1 v H1 g1 => ?_) fun _ _ h => h)
  obtain ⟨z, e, k1⟩ := P_opt k1
  obtain ⟨c, e1, rfl⟩ := Option.map_eq_some_iff.mp e
  have q := g1.tmp
  rw [tru_bl e1] at q
  exact ⟨c, q, k1 _ H1 (g1.pop1.pushC (S := H1) rfl rfl)⟩
/-- isinstance(e, C) -/
def eXis (Tn : Str) (x : Exn) : EM := fun ρ => .ok (.sh (.bl (relX x.cls Tn))) ρ
theorem xe_is {K : Frag} {C a : Addr} {Tn : Str} {x : Exn} {cls : Value} {d : Option Addr} (tab : ∀ y D, ct y = some D → XcC K D ∧ PySem.W.kitOne K (.ref D) (.ref C) = some (relX y Tn)) :
    SEx (XaA ct x cls d a i) ct Wx (tCB (rIsX K cls d a) (tCons (tVar i) (tCons (tC (.ref C)) tNil))) (eXis Tn x) := fun W S0 ρ σ tm vm H Q hA g k => by
  obtain ⟨e1, hx⟩ := hA
  obtain ⟨D, hD, rfl, _, h4⟩ := id hx
  obtain ⟨t1, t2⟩ := tab _ _ hD
  refine ⟨.ref a, e1, D, .ref C, .ref C, relX x.cls Tn, rfl, t1, ?_, rfl, fun u r => ?_, t2, k _ H (g.pushC (S := H) rfl rfl)⟩
  · rcases h4 with ⟨_, h⟩ | ⟨dd, vs, h5, h6, _⟩
    · exact .inl h
    · exact .inr ⟨dd, _, h5, g.outer _ _ h6⟩
  · exact r
/-- e.f -/
def eXfld (Cn f : Str) (x : Exn) : EM := fun ρ => if x.cls = Cn then (match x.fs.lookup f with
  | some d => .ok (.sh d) ρ
  | none => .bad) else .bad
theorem zip_look {f : Str} : ∀ {l : List (Str × D)} {vs : List V} {d : D}, Rpl W (l.map (·.2)) vs → l.lookup f = some d → ∃ v, ((l.map (·.1)).zip vs).lookup f = some v ∧ Rp W d v
  | [], _, _, _, h => by cases h
  | (g, d0) :: l, _, d, ⟨v, r, rfl, h1, h2⟩, h => by
    by_cases e : f = g
    · subst e
      simp [List.lookup] at h
      subst h
      exact ⟨v, by simp [List.lookup], h1⟩
    · have e' : (f == g) = false := by simpa using e
      simp only [List.lookup, e'] at h
      obtain ⟨w, h3, h4⟩ := zip_look h2 h
      exact ⟨w, by simp only [List.map_cons, List.zip_cons_cons, List.lookup, e']; exact h3, h4⟩
theorem xe_fld {C a : Addr} {Cn f : Str} {x : Exn} {cls : Value} {d : Option Addr} (hC : ct Cn = some C) :
    SEx (XaA ct x cls d a i) ct Wx (tXf a cls d C f (tVar i)) (eXfld Cn f x) := fun W S0 ρ σ tm vm H Q hA g k => by
  obtain ⟨e1, hx⟩ := hA
  obtain ⟨D, hD, rfl, h3, h4⟩ := id hx
  unfold eXfld at k
  obtain ⟨hc, k⟩ := P_ite k
  rw [hc, hC] at hD
  cases hD
  split at k
  case h_2 => exact k.elim
  rename_i y ey
  rcases h4 with ⟨h, _⟩ | ⟨dd, vs, h5, h6, h7⟩
  · rw [h] at ey; cases ey
  · obtain ⟨v, q1, q2⟩ := zip_look h7 ey
    refine ⟨.ref a, e1, rfl, rfl, dd, _, v, h5, g.outer _ _ h6, q1, k v H (g.pushC (S := W) ?_ q2)⟩
    have : ∀ {l : List (Str × Z.D)} {d : Z.D}, (∀ q ∈ l, q.2.scal = true) → l.lookup f = some d → d.scal = true := by
      intro l
      induction l with
      | nil => intro d _ h; cases h
      | cons q l ih =>
        intro d h h'
        obtain ⟨g0, d0⟩ := q
        by_cases e : f = g0
        · subst e
          simp [List.lookup] at h'
          subst h'
          exact h (f, d0) List.mem_cons_self
        · have e' : (f == g0) = false := by simpa using e
          simp only [List.lookup, e'] at h'
          exact ih (fun q hq => h q (List.mem_cons_of_mem _ hq)) h'
    exact this h3 ey
/-! ### statements in the suite -/
theorem xa_pin {x : Exn} {cls : Value} {d : Option Addr} {a : Addr} (h : XaA ct x cls d a i W σ0) (p : Pin (i :: pin) σ0 σ) : XaA ct x cls d a i W σ := ⟨(p i List.mem_cons_self).trans h.1, h.2⟩
section
variable {x : Exn} {cls : Value} {dx : Option Addr} {a : Addr}
theorem xss_ret {te : TE} {e : EM} (he : SEx (XaA ct x cls dx a i) ct Wx te e) : SSa (XaA ct x cls dx a i) ct Wx (i :: pin) (tRet te) (mRet e) := fun W S0 σ0 ρ σ H D hA g p k => by
  refine he W S0 ρ σ [] [] H _ (xa_pin hA p) g ((SK.st p k).mono (fun t ρ1 k1 v H1 g1 => ?_) fun _ _ h => h)
  exact k1 v σ H1 g1 p
theorem xss_set {j : Nat} {te : TE} {e : EM} (he : SEx (XaA ct x cls dx a i) ct Wx te e) (hj : j ∉ i :: pin) : SSa (XaA ct x cls dx a i) ct Wx (i :: pin) (tAsg te (gName j)) (mSet j e) := fun W S0 σ0 ρ σ H D hA g p k => by
  refine he W S0 ρ σ [] [] H _ (xa_pin hA p) g ((SK.st p k).mono (fun t ρ1 k1 v H1 g1 => ?_) fun _ _ h => h)
  exact k1 _ _ (g1.putA j) (p.set hj)
theorem xss_if {tc : TT} {s u : TS} {c : EMb} {m n : SM} (hc : SETx (XaA ct x cls dx a i) ct Wx tc c) (ha : SSa (XaA ct x cls dx a i) ct Wx (i :: pin) s m) (hb : SSa (XaA ct x cls dx a i) ct Wx (i :: pin) u n) : SSa (XaA ct x cls dx a i) ct Wx (i :: pin) (tIfS tc s u) (mIf c m n) := fun W S0 σ0 ρ σ H D hA g p k => by
  refine hc W S0 ρ σ [] [] H _ (xa_pin hA p) g ((SK.st p k).mono (fun c ρ1 k1 H1 g1 => ?_) fun _ _ h => h)
  cases c with
  | true => exact ha W S0 σ0 ρ1 σ H1 D hA g1 p k1
  | false => exact hb W S0 σ0 ρ1 σ H1 D hA g1 p k1
theorem xss_app {K : Frag} {j : Nat} {te : TE} {e : EM} (he : SEx (XaA ct x cls dx a i) ct Wx te e) : SSa (XaA ct x cls dx a i) ct Wx (i :: pin) (tDrop (tBM K "list" rAppend (tVar j) (tCons te tNil))) (mAppG j e) := fun W S0 σ0 ρ σ H D hA g p k => by
  unfold mAppG at k
  split at k
  case h_2 => exact k.elim
  rename_i ts0 e0
  obtain ⟨a0, xs0, ea, h0, _⟩ := g.refL e0
  refine ⟨.ref a0, ea, .inl ⟨rfl, xs0, .of h0⟩, ?_⟩
  refine he W S0 ρ σ [] [] H _ (xa_pin hA p) g ((SK.st p k).mono (fun t ρ1 k1 v H1 g1 => ?_) fun _ _ h => h)
  split at k1
  case h_2 => exact k1.elim
  rename_i ts e1
  obtain ⟨hz, k1⟩ := SK_ite k1
  obtain ⟨y, hx1, g2⟩ := g1.take e1
  rw [ea] at hx1
  cases hx1
  obtain ⟨b0, xs, e5, h1, h2, mk⟩ := g2.mutL
  cases e5
  refine ⟨a0, xs, v, rfl, rfl, h1, lim_lt (by omega), ?_⟩
  have g3 := mk (ts ++ [t]) [] (xs ++ [v]) [] (fun S H b c hb hc => by
    obtain ⟨v', r, c1, c2, h3, rfl, h4, h5⟩ := hc
    cases h3
    obtain ⟨_, rfl⟩ := h5
    have h6 : Rtl S H [t] [v] c1 := ⟨v, [], c1, [], rfl, by simp, h4, rfl, rfl⟩
    exact ⟨b ++ c1, [], hb.append h6, ⟨rfl, rfl⟩, by grind, by grind⟩)
  have g4 := g3.back ea
  rw [List.set_set] at g4
  exact k1 _ _ g4 p
end
end
end Z

namespace Z
noncomputable section
open PySem L2
open PySem.W (Frag)
variable {P : Program} {K : Frag} {mg : Str → Option Value} {ct : CT}
/-! ### what is told of a class to those who use it -/
structure Xc (K : Frag) (mg : Str → Option Value) (ct : CT) (n : Str) (C : Addr) : Prop where
  cto : ct n = some C
  mgo : mg n = some (.ref C)
  tab : ∀ y D, ct y = some D → (XcC K D ∧ PySem.W.kitOne K (.ref D) (.ref C) = some (relX y n)) ∧ PySem.W.exmOne K (.ref D) (.ref C) = some (relX y n)
theorem Xc.is {n : Str} {C : Addr} (h : Xc K mg ct n C) : ∀ y D, ct y = some D → XcC K D ∧ PySem.W.kitOne K (.ref D) (.ref C) = some (relX y n) := fun y D e => (h.tab y D e).1
theorem Xc.exm {n : Str} {C : Addr} (h : Xc K mg ct n C) : ∀ y D, ct y = some D → PySem.W.exmOne K (.ref D) (.ref C) = some (relX y n) := fun y D e => (h.tab y D e).2
theorem Xc.own {n : Str} {C : Addr} (h : Xc K mg ct n C) : XcC K C := (h.tab n C h.cto).1.1
theorem XcC.xf {C : Addr} (h : XcC K C) : XfC K C := ⟨h.ga, h.gg, h.sb, h.hd⟩
structure Xc0 (K : Frag) (mg : Str → Option Value) (ct : CT) (n : Str) (C : Addr) : Prop where
  c : Xc K mg ct n C
  ex : PySem.W.excIn K C exB "Exception.__new__" = true
structure Xc1 (P : Program) (K : Frag) (mg : Str → Option Value) (ct : CT) (n : Str) (C f : Addr) (arg fld : Str) : Prop where
  c : Xc K mg ct n C
  sup : SupC P K C f arg fld
  ms : mg "super" = none
theorem pmk_x0 {X : Cx} {C : Addr} {x : Str} {p pos : Pos} {ct : CT} (h : Xc0 X.K X.mg ct x C) (hg : Gl X x) (hdb : (x == ("__debug__" : Str)) = false := by decide) :
    PMk X (.Call (.Name x p) [] [] pos) (fun _ H Q => Q (.ref C) none H) :=
  pmk_own0 PySem.F.excBase_Exception h.ex h.c.mgo h.c.own.kp (raises_own h.c.own.sb h.c.own.ty) hg hdb
theorem pmk_x1 {X : Cx} {C f : Addr} {x arg fld : Str} {e : Expr} {te : TE} {p pos : Pos} {ct : CT} (h : Xc1 X.prog X.K X.mg ct x C f arg fld) (hr : Room 1 X.A) (hg : Gl X x) (he : PE X e te)
    (hdb : (x == ("__debug__" : Str)) = false := by decide) (hs : starEach [e] X.env = (false, eval e X.env) :: starEach [] X.env := by rfl) :
    PMk X (.Call (.Name x p) [e] [] pos) (tMkS C fld te) := pmk_sup h.sup hr h.ms hg h.c.mgo he hdb hs
/-! ### .. and where it comes from -/
def tabB (K : Frag) (L : List (Str × Addr)) : Bool := L.all (fun p => xcB K p.2) && L.all fun p => L.all fun q => (PySem.W.kitOne K (.ref p.2) (.ref q.2) == some (relX p.1 q.1)) && (PySem.W.exmOne K (.ref p.2) (.ref q.2) == some (relX p.1 q.1))
def ctL (L : List (Str × Addr)) : CT := fun n => L.lookup n
theorem look_mem : ∀ {L : List (Str × Addr)} {n : Str} {C : Addr}, L.lookup n = some C → (n, C) ∈ L
  | [], _, _, h => by cases h
  | (m, D) :: L, n, C, h => by
    by_cases e : n = m
    · subst e
      simp [List.lookup] at h
      subst h
      exact List.mem_cons_self
    · have e' : (n == m) = false := by simpa using e
      simp only [List.lookup, e'] at h
      exact List.mem_cons_of_mem _ (look_mem h)
theorem xc_of {L : List (Str × Addr)} {n : Str} {C : Addr} (h : tabB K L = true) (hn : L.lookup n = some C) (hm : mg n = some (.ref C)) : Xc K mg (ctL L) n C := by
  obtain ⟨h1, h2⟩ := Bool.and_eq_true_iff.mp h
  refine ⟨hn, hm, fun y D e => ?_⟩
  have m1 := look_mem (show L.lookup y = some D from e)
  have m2 := look_mem hn
  have h3 := List.all_eq_true.mp (List.all_eq_true.mp h2 _ m1) _ m2
  obtain ⟨h4, h5⟩ := Bool.and_eq_true_iff.mp h3
  have h6 := List.all_eq_true.mp h1 _ m1
  dsimp only at h4 h5 h6
  have h7 := eq_of_beq h4
  have h8 := eq_of_beq h5
  have h9 := xcB_ok h6
  exact ⟨⟨h9, h7⟩, h8⟩
def clsBody : Stmt → List Stmt
  | .ClassDef _ _ _ b .. => b
  | _ => []
def supB (K : Frag) (C f : Addr) (fld : Str) : Bool :=
  PySem.W.excInitIn K C exB "Exception.__new__" && PySem.W.excOver K C exB && decide (PySem.W.findIn K (.ref C) "__init__" = some (some (.ref f))) && PySem.W.isFn K (.ref f) &&
    decide (PySem.W.ks_superIn K C C "__init__" = some (some (.builtin "Exception.__init__"))) && decide (PySem.W.subIn K (.ref C) (.type "Exception") = some true) &&
    decide (PySem.W.findIn K (.ref C) "__setattr__" = some (some (.builtin "object.__setattr__"))) && decide (PySem.W.takerIn K C fld = some none) && decide (PySem.W.nsIn K cStatics "thirdparty.any" = some none) &&
    decide (PySem.W.mroIn K C (.ref C) = some true)
/-- what is written in an __init__ that says super().__init__(arg); self.fld = arg -/
structure SupSt (st : Stmt) (arg fld : Str) : Prop where
  body : ∃ p0 p1 p2 p3 p4 p5 p6 p7 p8 p9, defBody st = supBody arg fld p0 p1 p2 p3 p4 p5 p6 p7 p8 p9 ∧ SupEv arg p0 p1 p2 p3 p4
  head : ∃ ar, ((defArgs st).posonlyargs ++ (defArgs st).args).head? = some ar ∧ ar.arg = "self"
  sc : (defScope st).names.lookup ("super" : Str) = some .globalImplicit ∧ (defScope st).names.lookup ("__class__" : Str) = some .free ∧ (defScope st).names.lookup ("self" : Str) = some .local ∧ (defScope st).names.lookup arg = some .local ∧
    (∀ x ∈ (defScope st).names, x.2 ≠ .cell) ∧ (defScope st).isCoroutine = false ∧ (defScope st).isGenerator = false ∧ (defScope st).kind = .function
  ne : arg ≠ "self"
  nd : (arg == ("__debug__" : Str)) = false
theorem sup_mk {C f cda cc : Addr} {arg fld qn : Str} {st : Stmt} {oc kV doc pm ctv ccl cl : Value} {od an cdd cld : Option Addr} {osl ccs csl : Array (Option Value)} {vs : Array Value} {file : Str} {tf : Tok}
    (lf : K.lookup f = some ⟨oc, od, .func (PySem.W.ksFn "__init__" qn (defArgs st) (defBody st) (defScope st) .none kV doc pm an (.ref cda) ctv cc), osl⟩) (hcd : PySem.W.codeIn K (.ref cda) qn = true)
    (lcd : K.lookup cda = some ⟨ccl, cdd, .fields vs, ccs⟩) (hvs : vs[2]? = some (.str file tf)) (hfile : ((P.main.file : Str) == file) = true) (lcc : K.lookup cc = some ⟨cl, cld, .cell (some (.ref C)), csl⟩)
    (hB : supB K C f fld = true) (hS : SupSt st arg fld)
    (hbind : ∀ (kV doc pm : Value) (an : Option Addr) (cdv ct : Value) (cc : Addr) (a u : Value), bindArgs (PySem.W.ksFn "__init__" qn (defArgs st) (defBody st) (defScope st) .none kV doc pm an cdv ct cc) ⟨[a, u], []⟩ = pure [(("self" : Str), a), (arg, u)])
    (htop : (P.main.scope.names.lookup ("super" : Str)).isSome = false) (hx : XcC K C) : SupC P K C f arg fld := by
  unfold supB at hB
  simp only [Bool.and_eq_true, decide_eq_true_eq] at hB
  obtain ⟨⟨⟨⟨⟨⟨⟨⟨⟨h1, h2⟩, h3⟩, h4⟩, h5⟩, h6⟩, h7⟩, h8⟩, h9⟩, h10⟩ := hB
  obtain ⟨p0, p1, p2, p3, p4, p5, p6, p7, p8, p9, hb, hev⟩ := hS.body
  obtain ⟨ar, har, hself⟩ := hS.head
  obtain ⟨s1, s2, s3, s4, s5, s6, s7, s8⟩ := hS.sc
  refine ⟨h1, h2, h3, h4, h5, h6, hx.sb, hx.ty, hx.kp, h7, h8, hx.hd, h9, h10, ?_, htop, hS.ne, hS.nd⟩
  exact ⟨oc, od, osl, _, qn, _, _, _, kV, doc, pm, an, cda, ctv, cc, p0, p1, p2, p3, p4, p5, p6, p7, p8, p9, ccl, cdd, vs, ccs, file, tf, cl, cld, csl, ar, lf, hcd, lcd, hvs, hfile, lcc, har, hself, fun a u => hbind kV doc pm an (.ref cda) ctv cc a u, s1, s2, s3, s4, s5, s6, s7, s8, hev, hb⟩
/-! ### try, both readings at once -/
def zTS (ct : CT) (Wx : XW) (pin : List Nat) (m : SM) : TS := fun D σ H => ∃ W S0 σ0 ρ, GX W S0 ρ σ [] [] H ∧ Pin pin σ0 σ ∧ SK ct Wx W S0 pin σ0 D (m ρ)
theorem ss_z {ct : CT} {Wx : XW} {pin : List Nat} {m : SM} : SS ct Wx pin (zTS ct Wx pin m) m := fun W S0 σ0 ρ σ H D g p k => ⟨W, S0, σ0, ρ, g, p, k⟩
theorem pss_z {X : Cx} {b : List Stmt} {ct : CT} {Wx : XW} {pin : List Nat} {m : SM} (h : ∃ t, PSs X b t ∧ SS ct Wx pin t m) : PSs X b (zTS ct Wx pin m) := by
  obtain ⟨t, h1, h2⟩ := h
  exact ⟨fun pins s σ H D I ⟨W, S0, σ0, ρ, g, p, k⟩ => h1.run pins s σ H D I (h2 W S0 σ0 ρ σ H D g p k)⟩
def zXS (ct : CT) (pin : List Nat) (i : Nat) (sm : Exn → SM) (a : Addr) (cls : Value) (d : Option Addr) : TS := fun D σ H => ∃ x W S0 σ0 ρ, XaA ct x cls d a i W σ0 ∧ GX W S0 ρ σ [] [] H ∧ Pin (i :: pin) σ0 σ ∧ SK ct (fun _ _ _ _ => False) W S0 (i :: pin) σ0 D (sm x ρ)
theorem ps_tryZ {X : Cx} {x n : Str} {C : Addr} {i : Nat} {body suite : List Stmt} {b₀ : Stmt} {np pos pos' : Pos} {ct : CT} {Wx : XW} {pin : List Nat} {bm : SM} {sm : Exn → SM}
    (hs : X.stack = X.env :: X.outer) (hf : X.env.frame = some X.env.locals) (hN : X.N.Nodup) (hi : X.N[i]? = some n) (hln : X.env.kindOf n = some .local) (hc : Names X x (.ref C)) (tk : Takes X Wx) (hx : Xc X.K X.mg ct x C)
    (hb : ∀ (W : WX) (pn : List (Addr × Obj)) (xe : Value → Shared → Prop), Takes (X.tr pn xe) W → PassesOwn (model X.prog X.w) X.A X.env xe → ∃ t, PSs (X.tr pn xe) body t ∧ SS ct W pin t bm)
    (hsu : ∀ (a : Addr) (oe : Obj) (cls : Value) (d : Option Addr) (pn : List (Addr × Obj)), Zc cls d oe → (∃ vs, oe.data = .fields vs) → ∃ t, PSs (X.suite a ((a, oe) :: pn)) (b₀ :: suite) t ∧ ∀ y, SSa (XaA ct y cls d a i) ct (fun _ _ _ _ => False) (i :: pin) t (sm y)) (hi' : i ∉ pin) :
    PS X (.Try body [.ExceptHandler (some (.Name x np)) (some n) (b₀ :: suite) pos'] [] [] pos) (zTS ct Wx pin (mTry x i bm sm)) := by
  have h1 := ps_try_as (tb := fun W => zTS ct W pin bm) (ts := zXS ct pin i sm) (pos := pos) (pos' := pos') (np := np) hs hf hN hi hln hc tk (fun W pn xe h h' => pss_z (hb W pn xe h h')) (fun a oe cls d pn hz hf' => by
    obtain ⟨t, h2, h3⟩ := hsu a oe cls d pn hz hf'
    exact ⟨fun pins s σ H D I ⟨y, W, S0, σ0, ρ, hA, g, p, k⟩ => h2.run pins s σ H D I (h3 y W S0 σ0 ρ σ H D hA g p k)⟩)
  have h2 : SS ct Wx pin (fun D σ H => zTS ct (wAs X.K (.ref C) i (zXS ct pin i sm) Wx D) pin bm D σ H) (mTry x i bm sm) :=
    ss_try (K := X.K) (tb := fun W => zTS ct W pin bm) (ts := zXS ct pin i sm) hx.exm (fun W => ss_z) (fun y a cls d W S0 σ0 ρ σ H D hA g p k => ⟨y, W, S0, σ0, ρ, hA, g, p, k⟩) hi'
  exact ⟨fun pins s σ H D I ⟨W, S0, σ0, ρ, g, p, k⟩ => h1.run pins s σ H D I (h2 W S0 σ0 ρ σ H D g p k)⟩
end
end Z

namespace Z
noncomputable section
open PySem L2
@[simp ↓] theorem mRaise0_run (cls : Str) (ρ : Env) : mRaise0 cls ρ = .ex ⟨cls, []⟩ ρ := rfl
@[simp ↓] theorem mRaise1_run (cls fld : Str) (e : EM) (ρ : Env) : mRaise1 cls fld e ρ = ((e ρ).st fun t ρ => if t.d.scal = true then .ex ⟨cls, [(fld, t.d)]⟩ ρ else .bad) := rfl
@[simp ↓] theorem mTry_run (Tn : Str) (i : Nat) (body : SM) (suite : Exn → SM) (ρ : Env) : mTry Tn i body suite ρ = (match body ρ with
  | .ex x ρ' => if relX x.cls Tn = true then (if i < ρ'.length then (suite x (ρ'.set i none)).drop i else .bad) else .ex x ρ'
  | r => r) := rfl
@[simp ↓] theorem eXis_run (Tn : Str) (x : Exn) (ρ : Env) : eXis Tn x ρ = .ok (.sh (.bl (relX x.cls Tn))) ρ := rfl
@[simp ↓] theorem eXfld_run (Cn f : Str) (x : Exn) (ρ : Env) : eXfld Cn f x ρ = if x.cls = Cn then (match x.fs.lookup f with
  | some d => .ok (.sh d) ρ
  | none => .bad) else .bad := rfl
@[simp] theorem drop_nx (i : Nat) (ρ : Env) : SOut.drop i (.nx ρ) = .nx (ρ.set i none) := rfl
@[simp] theorem drop_rt (i : Nat) (t : T) (ρ : Env) : SOut.drop i (.rt t ρ) = .rt t (ρ.set i none) := rfl
@[simp] theorem drop_ct (i : Nat) (ρ : Env) : SOut.drop i (.ct ρ) = .ct (ρ.set i none) := rfl
@[simp] theorem drop_bk (i : Nat) (ρ : Env) : SOut.drop i (.bk ρ) = .bk (ρ.set i none) := rfl
@[simp] theorem relX_base (a : Str) : relX a "TurnError" = true := by simp [relX]
end
end Z

namespace Z
noncomputable section
open PySem L2
variable {ct : CT} {Wx : XW} {W S0 S H H' : Hp} {ρ : Env} {σ σ0 : St} {t u : T} {ts us tm : List T} {v w : V} {vs ws vm : List V} {as bs : List Addr} {i : Nat} {d : D} {pin : List Nat} {D0 : Ends}
/-- x[e], x a list that a name owns and keeps, e with effects -/
def eIxN (i : Nat) (e : EM) : EM := fun ρ => match ρ[i]? with
  | some (some (.ol _)) => (e ρ).bnd fun u ρ => match ρ[i]? with
    | some (some (.ol ts)) => match u.d.intO with
      | some k => match atI ts k with
        | some (.sh d) => .ok (.sh d) ρ
        | _ => .bad
      | none => .bad
    | _ => .bad
  | _ => .bad
@[simp ↓] theorem eIxN_run (i : Nat) (e : EM) (ρ : Env) : eIxN i e ρ = (match ρ[i]? with
  | some (some (.ol _)) => (e ρ).bnd fun u ρ => match ρ[i]? with
    | some (some (.ol ts)) => match u.d.intO with
      | some k => match atI ts k with
        | some (.sh d) => .ok (.sh d) ρ
        | _ => .bad
      | none => .bad
    | _ => .bad
  | _ => .bad) := rfl
theorem se_ixN {K : PySem.W.Frag} {i : Nat} {te : TE} {e : EM} (he : SE ct Wx te e) : SE ct Wx (tOp (rIx K) (tVar i) te) (eIxN i e) := fun W S0 ρ σ tm vm H Q g k => by
  unfold eIxN at k
  split at k
  case h_2 => exact k.elim
  rename_i ts0 e0
  obtain ⟨a0, xs0, ea, h0, _⟩ := g.refL e0
  refine ⟨.ref a0, ea, ?_⟩
  refine he W S0 ρ σ tm vm H _ g ((Out.P_bnd.mp k).mono (fun u ρ1 k1 v H1 g1 => ?_) fun _ _ h => h)
  split at k1
  case h_2 => exact k1.elim
  rename_i ts e1
  split at k1
  case h_2 => exact k1.elim
  rename_i kk e2
  split at k1
  case h_2 => exact k1.elim
  rename_i d e3
  have q := g1.tmp
  rw [intO_int e2] at q
  cases q
  obtain ⟨S, as, bs, g2⟩ := g1.pop1
  obtain ⟨w, b, c, d', f1, f2, f3, _⟩ := g2.re.at e1
  rw [ea] at f1
  cases f1
  refine Rt.kid (K := K) g2.sh f3 (l := ts) rfl e3 fun w' ⟨cs, c1, c2, c3⟩ => ?_
  obtain ⟨_, c4⟩ := c3
  exact k1 w' H1 (g2.pushS c4)
def oNeS : D → D → Option D
  | .str a, .str b => some (.bl (!decide (a = b)))
  | _, _ => none
@[simp] theorem neS_str (a b : Str) : oNeS (.str a) (.str b) = some (.bl (!decide (a = b))) := rfl
theorem os_neS : OpS rNe oNeS := fun H dx dy x y d hx hy e Q q => by
  cases dx <;> first | (cases e; done) | skip
  cases dy <;> first | (cases e; done) | skip
  cases e
  cases hx
  cases hy
  refine ⟨rfl, ?_⟩
  have := q (.bl (!decide (V.str _ = V.str _))) H (fun _ _ h => h) (by simp; rfl)
  exact this
end
end Z

namespace Z
noncomputable section
open PySem L2
variable {ct : CT} {Wx : XW} {W S0 S H H' : Hp} {ρ : Env} {σ σ0 : St} {t u : T} {ts us tm : List T} {v w : V} {vs ws vm : List V} {as bs : List Addr} {i : Nat} {d : D} {pin : List Nat} {D0 : Ends}
/-! ### a list within what a name owns changes -/
def T.kidsO : T → Option (List T)
  | .ol l => some l
  | .ot l => some l
  | _ => none
def T.putK : T → Nat → T → T
  | .ol l, j, u => .ol (l.set j u)
  | .ot l, j, u => .ot (l.set j u)
  | t, _, _ => t
/-- the list at a place of an owned list or tuple -/
def T.kidL (t : T) (k : Int) : Option (Nat × List T) := t.kidsO.bind fun l => (ixN l.length k).bind fun j => match l[j]? with
  | some (.ol us) => some (j, us)
  | _ => none
theorem Rt.kidL {K : PySem.W.Frag} {k : Int} {j : Nat} (h : Rt S H t v as) (hn : as.Nodup) (e : t.kidL k = some (j, us)) : ∃ b ys cs, H b = some (.lst ys) ∧ ys.length = us.length ∧ Rtl S H us ys cs ∧ b ∈ as ∧
    (∀ (H1 : Hp) (Q : VK), Same H H1 → Q (.ref b) H1 → rIx K v (.int k) H1 Q) ∧
    (∀ H2 us' ys', (∀ a ∈ as, H2 a = H a) → (∀ H', (∀ a ∈ cs, H' a = H a) → Rtl S H' us' ys' cs) → Rt S (upd H2 b (.lst ys')) (t.putK j (.ol us')) v as) := by
  unfold T.kidL at e
  obtain ⟨l, e1, e⟩ := some_bind e
  obtain ⟨j', e2, e⟩ := some_bind e
  split at e
  case h_2 => cases e
  rename_i us0 e3
  cases e
  cases t with
  | sh d => cases e1
  | od ks l => cases e1
  | ol l0 =>
    cases e1
    obtain ⟨a, xs, c, rfl, rfl, h1, h2⟩ := h
    obtain ⟨w, b1, c1, d1, f1, rfl, f3, f4⟩ := h2.at e3
    obtain ⟨b, ys, cs, rfl, rfl, g1, g2⟩ := f3
    have hne : b ≠ a := by grind
    have hcs : ∀ x ∈ cs, x ≠ b := by grind
    have hbd : ∀ x ∈ b1 ++ d1, x ≠ b := by grind
    refine ⟨b, ys, cs, g1, g2.len, g2, by simp, fun H1 Q es q => ?_, fun H2 us' ys' h2' hr => ?_⟩
    · exact .inl ⟨a, xs, k, .ref b, rfl, rfl, .of (es _ _ h1), by unfold L2.atI; rw [h2.len, e2]; exact f1, q⟩
    · have q1 : Rt S (upd H2 b (.lst ys')) (.ol us') (.ref b) (b :: cs) := ⟨b, ys', cs, rfl, rfl, upd_same, hr _ fun x hx => (upd_ne (hcs x hx)).trans (h2' x (by simp [hx]))⟩
      have q2 := f4 S (upd H2 b (.lst ys')) (.ol us') (.ref b) (b :: cs) (fun _ _ h => h) (fun x hx => (upd_ne (hbd x hx)).trans (h2' x (by simp at hx; rcases hx with z | z <;> simp [z]))) q1
      rw [set_self f1] at q2
      exact ⟨a, xs, _, rfl, by simp, by rw [upd_ne (Ne.symm hne), h2' a (by simp)]; exact h1, q2⟩
  | ot l0 =>
    cases e1
    obtain ⟨a, xs, c, rfl, rfl, h1, h2⟩ := h
    obtain ⟨w, b1, c1, d1, f1, rfl, f3, f4⟩ := h2.at e3
    obtain ⟨b, ys, cs, rfl, rfl, g1, g2⟩ := f3
    have hne : b ≠ a := by grind
    have hcs : ∀ x ∈ cs, x ≠ b := by grind
    have hbd : ∀ x ∈ b1 ++ d1, x ≠ b := by grind
    refine ⟨b, ys, cs, g1, g2.len, g2, by simp, fun H1 Q es q => ?_, fun H2 us' ys' h2' hr => ?_⟩
    · exact .inr (.inl ⟨a, xs, k, .ref b, rfl, rfl, .of (es _ _ h1), by unfold L2.atI; rw [h2.len, e2]; exact f1, q⟩)
    · have q1 : Rt S (upd H2 b (.lst ys')) (.ol us') (.ref b) (b :: cs) := ⟨b, ys', cs, rfl, rfl, upd_same, hr _ fun x hx => (upd_ne (hcs x hx)).trans (h2' x (by simp [hx]))⟩
      have q2 := f4 S (upd H2 b (.lst ys')) (.ol us') (.ref b) (b :: cs) (fun _ _ h => h) (fun x hx => (upd_ne (hbd x hx)).trans (h2' x (by simp at hx; rcases hx with z | z <;> simp [z]))) q1
      rw [set_self f1] at q2
      exact ⟨a, xs, _, rfl, by simp, by rw [upd_ne (Ne.symm hne), h2' a (by simp)]; exact h1, q2⟩
theorem GX.kidL {K : PySem.W.Frag} {k : Int} {j : Nat} (g : GX W S0 ρ σ (t :: tm) (v :: vm) H) (e : t.kidL k = some (j, us)) : ∃ b ys, H b = some (.lst ys) ∧ ys.length = us.length ∧
    (∀ (H1 : Hp) (Q : VK), Same H H1 → Q (.ref b) H1 → rIx K v (.int k) H1 Q) ∧
    (∀ H2 us' ys', Same H H2 → (∀ S H cs, Rtl S H us ys cs → Rtl S H us' ys' cs) → GX W S0 ρ σ (t.putK j (.ol us') :: tm) (v :: vm) (upd H2 b (.lst ys'))) := by
  obtain ⟨S, as, bs, g⟩ := g
  obtain ⟨v', r, c1, c2, h3, rfl, h4, h5⟩ := g.rt
  simp only [List.cons.injEq] at h3
  obtain ⟨rfl, rfl⟩ := h3
  have nd := g.nd
  have fs := g.fs
  have fw := g.fw
  obtain ⟨b, ys, cs, k1, k2, k3, k4, k5, k6⟩ := h4.kidL (K := K) (by grind) e
  refine ⟨b, ys, k1, k2, k5, fun H2 us' ys' es hr => ?_⟩
  have q := k6 H2 us' ys' (fun a ha => same_at es (h4.there a ha)) fun H' hh => hr S H' cs (k3.mono (fun _ _ h => h) hh)
  have hb : S b = none := fs b (by grind)
  have hw : W b = none := fw b (by grind)
  have keep : ∀ x, x ≠ b → H x ≠ none → (upd H2 b (.lst ys')) x = H x := fun x hx hn => (upd_ne hx).trans (same_at es hn)
  refine ⟨S, as, c1 ++ c2, g.s0, fun x o h => ?_, fun x o h => ?_, g.nw, g.re.mono (fun _ _ h => h) fun x hx => keep x (by grind) (g.re.there x hx), ⟨v, vm, c1, c2, rfl, rfl, q, h5.mono (fun _ _ h => h) fun x hx => keep x (by grind) (h5.there x hx)⟩, nd, fs, fw⟩
  · rw [upd_ne (by rintro rfl; rw [hb] at h; cases h)]; exact es _ _ (g.sh x o h)
  · rw [upd_ne (by rintro rfl; rw [hw] at h; cases h)]; exact es _ _ (g.wh x o h)
/-- x[ix].append(e), e a scalar -/
def mApp1 (i : Nat) (ix e : PM) : SM := fun ρ => match ρ[i]?, ix ρ, e ρ with
  | some (some t), some (.int k), some d => match t.kidL k with
    | some (j, us) => if us.length < lim ∧ d.scal = true then .nx (ρ.set i (some (t.putK j (.ol (us ++ [.sh d]))))) else .bad
    | none => .bad
  | _, _, _ => .bad
theorem ss_app1 {K : PySem.W.Frag} {i : Nat} {ti te : TE} {ix e : PM} (hx : SP ti ix) (he : SP te e) : SS ct Wx pin (tDrop (tBM K "list" rAppend (tOp (rIx K) (tVar i) ti) (tCons te tNil))) (mApp1 i ix e) := fun W S0 σ0 ρ σ H D g p k => by
  unfold mApp1 at k
  split at k
  case h_2 => exact k.elim
  rename_i t kk d e1 e2 e3
  split at k
  case h_2 => exact k.elim
  rename_i j us e4
  obtain ⟨⟨hz, hs⟩, k⟩ := SK_ite k
  have rv := g.rv
  obtain ⟨v, hv, g1⟩ := g.take e1
  refine ⟨v, hv, hx ρ σ H rv _ e2 _ fun y H1 es1 r1 => ?_⟩
  cases r1
  obtain ⟨b, ys, k1, k2, k3, k4⟩ := g1.kidL (K := K) e4
  refine k3 H1 _ es1 ⟨.inl ⟨rfl, ys, .of (es1 _ _ k1)⟩, he ρ σ H1 (rv.ext es1) _ e3 _ fun z H2 es2 r2 => ?_⟩
  have es := es1.trans es2
  refine ⟨b, ys, z, rfl, rfl, es _ _ k1, lim_lt (by omega), ?_⟩
  have g3 := k4 H2 (us ++ [.sh d]) (ys ++ [z]) es fun S H cs h => by
    have h6 : Rtl S H [T.sh d] [z] [] := ⟨z, [], [], [], rfl, rfl, ⟨rfl, r2.scal hs⟩, rfl, rfl⟩
    have := h.append h6
    simpa using this
  have g4 := g3.back hv
  rw [List.set_set] at g4
  exact k _ _ g4 p
/-- x[ix][jx] = e, e a scalar in a scalar's place -/
def mStore1 (i : Nat) (ix : PM) (e jx : PM) : SM := fun ρ => match ρ[i]?, ix ρ, e ρ, jx ρ with
  | some (some t), some (.int k), some d, some (.int m) => match t.kidL k with
    | some (j, us) => match ixN us.length m with
      | some l => match us[l]? with
        | some (.sh _) => if d.scal = true then .nx (ρ.set i (some (t.putK j (.ol (us.set l (.sh d)))))) else .bad
        | _ => .bad
      | none => .bad
    | none => .bad
  | _, _, _, _ => .bad
theorem ss_store1 {K : PySem.W.Frag} {i : Nat} {ti te tj : TE} {ix e jx : PM} (hx : SP ti ix) (he : SP te e) (hj : SP tj jx) : SS ct Wx pin (tAsg te (gSub (tOp (rIx K) (tVar i) ti) tj rSetL)) (mStore1 i ix e jx) := fun W S0 σ0 ρ σ H D g p k => by
  unfold mStore1 at k
  split at k
  case h_2 => exact k.elim
  rename_i t kk d m e1 e2 e3 e5
  split at k
  case h_2 => exact k.elim
  rename_i j us e4
  split at k
  case h_2 => exact k.elim
  rename_i l e6
  split at k
  case h_2 => exact k.elim
  rename_i d0 e7
  obtain ⟨hs, k⟩ := SK_ite k
  have rv := g.rv
  obtain ⟨v, hv, g1⟩ := g.take e1
  refine he ρ σ H rv _ e3 _ fun z H0 es0 r0 => ?_
  refine ⟨v, hv, hx ρ σ H0 (rv.ext es0) _ e2 _ fun y H1 es1 r1 => ?_⟩
  cases r1
  obtain ⟨b, ys, k1, k2, k3, k4⟩ := g1.kidL (K := K) e4
  have es01 := es0.trans es1
  refine k3 H1 _ es01 (hj ρ σ H1 (rv.ext es01) _ e5 _ fun y2 H2 es2 r2 => ?_)
  cases r2
  have es := es01.trans es2
  refine ⟨b, ys, m, l, rfl, rfl, es _ _ k1, by rw [k2]; exact e6, ?_⟩
  have g3 := k4 H2 (us.set l (.sh d)) (ys.set l z) es fun S H cs h => by
    obtain ⟨w, b1, c1, d1, f1, rfl, f3, f4⟩ := h.at e7
    obtain ⟨rfl, _⟩ := f3
    exact f4 S H (.sh d) z [] (fun _ _ h => h) (fun _ _ => rfl) ⟨rfl, r0.scal hs⟩
  have g4 := g3.back hv
  rw [List.set_set] at g4
  exact k _ _ g4 p
end
end Z

namespace Z
noncomputable section
open PySem L2
variable {ct : CT} {Wx : XW} {W S0 S H H' : Hp} {ρ : Env} {σ σ0 : St} {t u : T} {ts us tm : List T} {v w : V} {vs ws vm : List V} {as bs : List Addr} {i : Nat} {d : D} {pin : List Nat} {D0 : Ends}
/-- x[lo:hi] at a place, of a list or a tuple -/
def eSlU (a : Env → Option T) (lo hi : Env → Option (Option Int)) : EM := fun ρ => match a ρ with
  | some (.sh (.tup ds)) => optO ((lo ρ).bind fun l => (hi ρ).bind fun h => some (.sh (.tup (cutD ds l h)))) ρ
  | _ => eSl a lo hi ρ
@[simp ↓] theorem eSlU_run (a : Env → Option T) (lo hi : Env → Option (Option Int)) (ρ : Env) : eSlU a lo hi ρ = (match a ρ with
  | some (.sh (.tup ds)) => optO ((lo ρ).bind fun l => (hi ρ).bind fun h => some (.sh (.tup (cutD ds l h)))) ρ
  | _ => eSl a lo hi ρ) := rfl
theorem se_slU {K : PySem.W.Frag} {ta : TE} {tl th : TO} {a : Env → Option T} {lo hi : Env → Option (Option Int)} (ha : SV ta a) (hl : SPO tl lo) (hh : SPO th hi) : SE ct Wx (tSl (fun x lo hi H Q => rSlL K x lo hi H Q ∨ rSlA K x lo hi H Q) ta tl th) (eSlU a lo hi) := fun W S0 ρ σ tm vm H Q g k => by
  unfold eSlU at k
  split at k
  case h_2 =>
    obtain ⟨z, e, k⟩ := P_opt k
    obtain ⟨t, e1, e⟩ := some_bind e
    obtain ⟨ds, e2, e⟩ := some_bind e
    obtain ⟨l, e3, e⟩ := some_bind e
    obtain ⟨h, e4, e⟩ := some_bind e
    cases e
    obtain ⟨S, as, bs, g⟩ := g
    refine ha W S0 S ρ σ tm vm H as bs g t e1 _ fun v H1 s1 ⟨cs, c1, c2⟩ => ?_
    have g1 := g.ext s1
    obtain ⟨p, xs, rfl, h1, h2⟩ := c2.shs g1.sh e2
    refine hl ρ σ H1 (GX.rv ⟨S, as, bs, g1⟩) l e3 _ fun H2 s2 => hh ρ σ H2 (GX.rv ⟨S, as, bs, g1.ext s2⟩) h e4 _ fun H3 s3 => ?_
    exact .inl ⟨p, xs, rfl, .of (s3 _ _ (s2 _ _ h1)), fun q hq => k _ _ ((((g1.ext s2).ext s3).pushSs h2.cut).newL (by simp [h2.cut.len]) hq)⟩
  rename_i ds e1
  obtain ⟨z, e, k⟩ := P_opt k
  obtain ⟨l, e3, e⟩ := some_bind e
  obtain ⟨h, e4, e⟩ := some_bind e
  cases e
  obtain ⟨S, as, bs, g⟩ := g
  refine ha W S0 S ρ σ tm vm H as bs g _ e1 _ fun v H1 s1 ⟨cs, c1, c2⟩ => ?_
  have g1 := g.ext s1
  obtain ⟨_, p, xs, rfl, h1, h2⟩ := c2
  refine hl ρ σ H1 (GX.rv ⟨S, as, bs, g1⟩) l e3 _ fun H2 s2 => hh ρ σ H2 (GX.rv ⟨S, as, bs, g1.ext s2⟩) h e4 _ fun H3 s3 => ?_
  have hx : H3 p = some (.tup xs) := s3 _ _ (s2 _ _ (g1.sh _ _ h1))
  refine .inr ⟨p, xs, rfl, .of hx, fun hw => ?_, fun _ q hq => ?_⟩
  · have hd : cutD ds l h = ds := by
      unfold cutD
      rw [h2.len] at hw
      rw [hw.1, hw.2]
      simp
    rw [hd] at k
    exact k _ _ (((g1.ext s2).ext s3).pushS ⟨p, xs, rfl, h1, h2⟩)
  · have g4 := ((((g1.ext s2).ext s3).pushSs (h2.cut (lo := l) (hi := h))).newT (by simp [h2.cut.len]) hq).frz
    have e5 : (T.ot ((cutD ds l h).map .sh)).d = .tup (cutD ds l h) := by
      show D.tup (dl _) = _
      rw [dl_eq, List.map_map]
      congr 1
      exact List.map_id'' (fun _ => rfl) _
    rw [e5] at g4
    exact k _ _ g4
/-- x[::-1], x a list -/
def eRevL (a : Env → Option T) : EM := fun ρ => optO ((a ρ).bind fun t => t.shs.bind fun ds => some (.ol (ds.reverse.map .sh))) ρ
@[simp ↓] theorem eRevL_run (a : Env → Option T) (ρ : Env) : eRevL a ρ = optO ((a ρ).bind fun t => t.shs.bind fun ds => some (.ol (ds.reverse.map .sh))) ρ := rfl
theorem se_revL {K : PySem.W.Frag} {ta : TE} {a : Env → Option T} (ha : SV ta a) : SE ct Wx (tRevL K ta) (eRevL a) := fun W S0 ρ σ tm vm H Q g k => by
  obtain ⟨z, e, k⟩ := P_opt k
  obtain ⟨t, e1, e⟩ := some_bind e
  obtain ⟨ds, e2, e⟩ := some_bind e
  cases e
  obtain ⟨S, as, bs, g⟩ := g
  refine ha W S0 S ρ σ tm vm H as bs g t e1 _ fun v H1 s1 ⟨cs, c1, c2⟩ => ?_
  have g1 := g.ext s1
  obtain ⟨p, xs, rfl, h1, h2⟩ := c2.shs g1.sh e2
  exact ⟨p, xs, rfl, .of h1, fun q hq => k _ _ ((g1.pushSs h2.rev).newL (by simp [h2.rev.len]) hq)⟩
@[simp ↓] theorem mApp1_run (i : Nat) (ix e : PM) (ρ : Env) : mApp1 i ix e ρ = (match ρ[i]?, ix ρ, e ρ with
  | some (some t), some (.int k), some d => match t.kidL k with
    | some (j, us) => if us.length < lim ∧ d.scal = true then .nx (ρ.set i (some (t.putK j (.ol (us ++ [.sh d]))))) else .bad
    | none => .bad
  | _, _, _ => .bad) := rfl
@[simp ↓] theorem mStore1_run (i : Nat) (ix e jx : PM) (ρ : Env) : mStore1 i ix e jx ρ = (match ρ[i]?, ix ρ, e ρ, jx ρ with
  | some (some t), some (.int k), some d, some (.int m) => match t.kidL k with
    | some (j, us) => match ixN us.length m with
      | some l => match us[l]? with
        | some (.sh _) => if d.scal = true then .nx (ρ.set i (some (t.putK j (.ol (us.set l (.sh d)))))) else .bad
        | _ => .bad
      | none => .bad
    | none => .bad
  | _, _, _, _ => .bad) := rfl
theorem kidL_1 {t0 : T} {us : List T} : (T.ot [t0, .ol us]).kidL 1 = some (1, us) := rfl
theorem putK_1 {t0 u : T} {us : List T} : (T.ot [t0, .ol us]).putK 1 u = .ot [t0, u] := rfl
end
end Z

namespace Z
noncomputable section
open PySem L2
variable {ct : CT} {Wx : XW} {W S0 S H H' : Hp} {ρ : Env} {σ σ0 : St} {t u : T} {ts us tm : List T} {v w : V} {vs ws vm : List V} {as bs : List Addr} {i : Nat} {d : D} {pin : List Nat} {D0 : Ends}
/-! ### a call whose arguments are read where they stand, and whose answer is all new -/
mutual
def T.fresh : T → Bool
  | .sh d => d.scal
  | .ol l => freshL l
  | .ot l => freshL l
  | .od _ l => freshL l
def freshL : List T → Bool
  | [] => true
  | t :: l => t.fresh && freshL l
end
mutual
theorem Rt.fresh {S S' H : Hp} : ∀ {t : T} {v : V} {as : List Addr}, t.fresh = true → Rt S H t v as → Rt S' H t v as
  | .sh d, _, _, e, ⟨h1, h2⟩ => ⟨h1, h2.scal e⟩
  | .ol l, _, _, e, ⟨a, vs, bs, h1, h2, h3, h4⟩ => ⟨a, vs, bs, h1, h2, h3, Rtl.fresh e h4⟩
  | .ot l, _, _, e, ⟨a, vs, bs, h1, h2, h3, h4⟩ => ⟨a, vs, bs, h1, h2, h3, Rtl.fresh e h4⟩
  | .od _ l, _, _, e, ⟨a, vs, bs, h1, h2, h3, h5, h4⟩ => ⟨a, vs, bs, h1, h2, h3, h5, Rtl.fresh e h4⟩
theorem Rtl.fresh {S S' H : Hp} : ∀ {l : List T} {vs : List V} {as : List Addr}, freshL l = true → Rtl S H l vs as → Rtl S' H l vs as
  | [], _, _, _, h => h
  | t :: l, _, _, e, ⟨v, r, b, c, h1, h2, h3, h4⟩ => by
    simp only [freshL, Bool.and_eq_true] at e
    exact ⟨v, r, b, c, h1, h2, Rt.fresh e.1 h3, Rtl.fresh e.2 h4⟩
end
@[simp] theorem fresh_ints (l : List Int) : (T.ol (l.map ig)).fresh = true := by
  have : freshL (l.map ig) = true := by
    induction l with
    | nil => rfl
    | cons a l ih => simp [freshL, T.fresh, ih]
  simpa [T.fresh] using this
def eCallB (n : Nat) (F : FM) (a : AM) : EM := fun ρ => match a ρ with
  | some ds => if ds.length = n then (match F (ds.map T.sh) with
    | .ok t ts' => if ts'.length = n ∧ t.fresh = true then .ok t ρ else .bad
    | _ => .bad) else .bad
  | none => .bad
@[simp ↓] theorem eCallB_run (n : Nat) (F : FM) (a : AM) (ρ : Env) : eCallB n F a ρ = (match a ρ with
  | some ds => if ds.length = n then (match F (ds.map T.sh) with
    | .ok t ts' => if ts'.length = n ∧ t.fresh = true then .ok t ρ else .bad
    | _ => .bad) else .bad
  | none => .bad) := rfl
theorem se_callB {n : Nat} {F : FM} {E : St → XK} {ta : TA} {a : AM} (ha : SPA ta a) : SE ct Wx (tCallS (spM ct n F) E ta) (eCallB n F a) := fun W S0 ρ σ tm vm H Q g k => by
  unfold eCallB at k
  split at k
  case h_2 => exact k.elim
  rename_i ds e0
  obtain ⟨hn, k⟩ := P_ite k
  refine ha ρ σ H g.rv ds e0 _ fun vs H1 e1 r1 => ⟨by rw [r1.len]; exact hn, ds.map T.sh, H1, H1, r1.gx, ?_⟩
  generalize F (ds.map T.sh) = o at k ⊢
  cases o with
  | bad => exact k.elim
  | ex x => exact k.elim
  | ok t ts' =>
    obtain ⟨⟨hl, hf⟩, k⟩ := P_ite k
    refine ⟨hl, fun v H' g2 => k v H' ?_⟩
    obtain ⟨S, as, bs, g⟩ := g
    obtain ⟨S2, as2, bs2, g2⟩ := g2
    have ea : as2 = [] := g2.re.2
    subst ea
    have g1 := g.ext (e1.trans g2.wh)
    obtain ⟨v', r, c1, c2, h3, rfl, h4, h5⟩ := g2.rt
    simp only [List.cons.injEq] at h3
    obtain ⟨rfl, rfl⟩ := h3
    have nd2 := g2.nd
    have fw2 := g2.fw
    have nd := g.nd
    have fs := g.fs
    have fw := g.fw
    have hnone : ∀ a ∈ c1, H a = none := fun a ha => by
      have h0 := fw2 a (by simp [ha])
      cases q : H a with
      | none => rfl
      | some o => rw [e1 a o q] at h0; cases h0
    have hne : ∀ a ∈ c1, ∀ x, (x ∈ as ∨ x ∈ bs) → a ≠ x := fun a ha x hx z => by
      subst z
      have h0 := hnone a ha
      rcases hx with h | h
      · exact g.re.there a h h0
      · exact g.rt.there a h h0
    refine ⟨S, as, c1 ++ bs, g1.s0, g1.sh, g1.wh, g1.nw, g1.re, ⟨v, vm, c1, bs, rfl, rfl, h4.fresh hf, g1.rt⟩, by grind, ?_, ?_⟩
    · intro a ha
      rcases List.mem_append.mp ha with h | h
      · exact fs a (by grind)
      · rcases List.mem_append.mp h with h | h
        · have h0 := hnone a h
          cases q : S a with
          | none => rfl
          | some o => rw [g.sh a o q] at h0; cases h0
        · exact fs a (by grind)
    · intro a ha
      rcases List.mem_append.mp ha with h | h
      · exact fw a (by grind)
      · rcases List.mem_append.mp h with h | h
        · have h0 := hnone a h
          cases q : W a with
          | none => rfl
          | some o => rw [g.wh a o q] at h0; cases h0
        · exact fw a (by grind)
/-- x[lo:], lo with effects -/
def eSlF (a lo : EM) : EM := fun ρ => (a ρ).bnd fun t ρ => (lo ρ).bnd fun u ρ => optO (t.els.bind fun ds => u.d.intO.bind fun k => some (.ol (cutD ds (some k) none))) ρ
@[simp ↓] theorem eSlF_run (a lo : EM) (ρ : Env) : eSlF a lo ρ = ((a ρ).bnd fun t ρ => (lo ρ).bnd fun u ρ => optO (t.els.bind fun ds => u.d.intO.bind fun k => some (.ol (cutD ds (some k) none))) ρ) := rfl
theorem se_slF {K : PySem.W.Frag} {ta tl : TE} {a lo : EM} (ha : SE ct Wx ta a) (hl : SE ct Wx tl lo) : SE ct Wx (tSl (rSlL K) ta (tPart tl) tNoPart) (eSlF a lo) := fun W S0 ρ σ tm vm H Q g k => by
  refine ha W S0 ρ σ tm vm H _ g ((Out.P_bnd.mp k).mono (fun t ρ1 k1 v H1 g1 => ?_) fun _ _ h => h)
  refine hl W S0 ρ1 σ (t :: tm) (v :: vm) H1 _ g1 ((Out.P_bnd.mp k1).mono (fun u ρ2 k2 w H2 g2 => ?_) fun _ _ h => XE.pop (ts := [t]) (vs := [v]) h rfl)
  obtain ⟨z, e, k⟩ := P_opt k2
  obtain ⟨ts, e2, e⟩ := some_bind e
  obtain ⟨i, e3, e⟩ := some_bind e
  cases e
  have q := g2.tmp
  rw [intO_int e3] at q
  cases q
  refine ⟨i, rfl, ?_⟩
  obtain ⟨p, xs, rfl, h1, h2, g3⟩ := g2.pop1.els e2
  refine ⟨p, xs, rfl, .of h1, fun q hq => k _ _ ?_⟩
  have g4 := g3.sub (us := cutD ts (some i) none) (ws := cutV xs (some i) none) h2 fun S H b hb => hb.cut
  exact g4.newL (by unfold cutD cutV; simp [h2]) hq
end
end Z

namespace Z
noncomputable section
open PySem L2
/-! ### repr of whatever is plain data -/
section
variable {X : Cx}
def rReprV (K : PySem.W.Frag) : List V → Hp → VK → Prop := fun xs H Q => rRepr K xs H Q ∨ (∃ i, xs = [.int i] ∧ i.natAbs.log2 < 1920 ∧ Q (.str (toString i)) H) ∨ (∃ b, xs = [.bl b] ∧ Q (.str (if b then "True" else "False")) H) ∨ (xs = [.non] ∧ Q (.str "None") H) ∨ (∃ z, xs = [.str z] ∧ (reprText z).length ≤ sizeLine ∧ Q (.str (reprText z)) H)
theorem call_reprV (hg : X.A.guards = some []) (hu : X.A.units + 64 < cLine) : CallR X (.builtin "repr") (rReprV X.K) := by
  intro pins s σ H xs us Q I r h
  rcases h with h | ⟨i, rfl, hz, q⟩ | ⟨b, rfl, q⟩ | ⟨rfl, q⟩ | ⟨z, rfl, hz, q⟩
  · exact call_reprD hg hu pins s σ H xs us Q I r h
  · obtain ⟨u, rfl, t, rfl⟩ := vals1 r
    exact PySem.P.repr_of_int hz ⟨.str _, H, I.tok _, ⟨_, rfl⟩, q⟩
  · obtain ⟨u, rfl, ru⟩ := vals1 r
    obtain rfl : u = Value.bool b := ru
    exact PySem.P.repr_of_bool ⟨.str _, H, I.tok _, ⟨_, rfl⟩, q⟩
  · obtain ⟨u, rfl, ru⟩ := vals1 r
    obtain rfl : u = Value.none := ru
    exact PySem.P.repr_of_none ⟨.str _, H, I.tok _, ⟨_, rfl⟩, q⟩
  · obtain ⟨u, rfl, t, rfl⟩ := vals1 r
    exact PySem.P.repr_of_str ⟨.str _, H, I.tok _, ⟨_, rfl⟩, q⟩ hz
end
def oReprV : D → Option D := fun d => match d with
  | .int i => if i.natAbs.log2 < 1920 then some (.str (toString i)) else none
  | .bl b => some (.str (if b then "True" else "False"))
  | .non => some (.str "None")
  | .str z => if (reprText z).length ≤ sizeLine then some (.str (reprText z)) else none
  | d => oRepr d
theorem cs_reprV {K : PySem.W.Frag} : CallS (rReprV K) (o1 oReprV) := fun H ds vs d h e Q q => by
  have e' := e
  obtain ⟨x, rfl, e⟩ := o1_some e
  cases x with
  | int i =>
    obtain ⟨v, rfl, hv⟩ := rpl1 h
    obtain ⟨h1, e⟩ := ite_some e
    cases e
    cases hv
    exact .inr (.inl ⟨i, rfl, h1, q _ H (fun _ _ h => h) rfl⟩)
  | bl b =>
    obtain ⟨v, rfl, hv⟩ := rpl1 h
    cases e
    cases hv
    exact .inr (.inr (.inl ⟨b, rfl, q _ H (fun _ _ h => h) rfl⟩))
  | non =>
    obtain ⟨v, rfl, hv⟩ := rpl1 h
    cases e
    cases hv
    exact .inr (.inr (.inr (.inl ⟨rfl, q _ H (fun _ _ h => h) rfl⟩)))
  | str z =>
    obtain ⟨v, rfl, hv⟩ := rpl1 h
    obtain ⟨h1, e⟩ := ite_some e
    cases e
    cases hv
    exact .inr (.inr (.inr (.inr ⟨z, rfl, h1, q _ H (fun _ _ h => h) rfl⟩)))
  | lst l => exact .inl (cs_repr H [.lst l] vs d h e' Q q)
  | tup l => exact .inl (cs_repr H [.tup l] vs d h e' Q q)
  | dic ks l => exact .inl (cs_repr H [.dic ks l] vs d h e' Q q)
end
end Z

namespace Z
noncomputable section
open PySem L2
/-! ### defs that ask repr, called by others -/
section
open PySem.Spec PyProof.Rows
variable {ct : CT} {P : Program} {w : World} {K : PySem.W.Frag} {mg : Str → Option Value} {base : Heap}
theorem fn_mkG {x qual : Str} {st : Stmt} {f : Addr} {fd : FuncData} {N ps : List Str} {k : Nat} {m : SM} (F : Fun K x qual st f fd) (Sc : FnScope N ps (defScope st))
    (hbody : ∀ (cdv : Value) (A : Around), A.guards = some [] → ∀ (outer : List PySem.Env) (s : Shared) (H : Hp) (E : XK), Room k (A.deeper (envOfC qual (defScope st) s.heap.objs.size f cdv)) →
      ∃ t, PSs (cxOf (L2.CX P w) P w K mg base N qual (defScope st) f cdv A outer s H E) (defBody st) t ∧ SS ct (fun c d _ H => E c d H) [] t m) : FnG P w K mg base (L2.CX P w) (k + 1) f fd ps (spM ct ps.length (mFun ps.length N.length m)) := by
  refine fnG_mk F Sc (fun vs H Q E h => h.1) fun cdv A hg outer s H vs Q E hr h => ?_
  obtain ⟨t, ht, hs⟩ := hbody cdv A hg outer s H E hr
  refine ⟨t, ht, ?_⟩
  obtain ⟨hl, ts, W, S, g, k1⟩ := h
  unfold mFun at k1
  by_cases hc : ts.length = ps.length ∧ ts.all T.isSh = true
  case neg => rw [if_neg hc] at k1; exact k1.elim
  rw [if_pos hc] at k1
  obtain ⟨S1, as, bs, hu, g1⟩ := g.up
  obtain ⟨ds, rfl⟩ := allSh hc.2
  obtain ⟨hr1, rfl⟩ := g1.rt.toRpl'
  have g2 := GX.start (N := N) ⟨S1, as, [], g1⟩ (by rw [hl, hc.1])
  rw [hc.1] at g2
  refine hs W S1 (start N vs) _ _ H _ g2 Pin.refl ?_
  have fin : ∀ (t : T) (v : V) (ρ : Env) (σ : L2.St) (H' : Hp), GX W S1 ρ σ [t] [v] H' → GX W S [] [] (t :: ds.map .sh) (v :: vs) H' := fun t v ρ σ H' g3 => by
    obtain ⟨S2, as2, bs2, g4⟩ := g3.noEnv
    exact (g4.endS (hr1.mono g4.s0)).join hu
  generalize m _ = o at k1 ⊢
  cases o with
  | bad => exact k1
  | nx ρ => exact fun σ' H' g3 _ => k1.2 .non H' (fin (.sh .non) .non ρ σ' H' (g3.pushC (S := H') (d := .non) (v := .non) rfl rfl))
  | rt t ρ => exact fun v σ' H' g3 _ => k1.2 v H' (fin t v ρ σ' H' g3)
  | bk ρ => exact k1.elim
  | ct ρ => exact k1.elim
  | ex x ρ => exact fun c d σ' H' g3 _ hx => k1 c d H' (g3.noEnv.join hu) hx
theorem fn_mkGI {x qual : Str} {st : Stmt} {f : Addr} {fd : FuncData} {N ps : List Str} {k : Nat} {m : SM} (F : Fun K x qual st f fd) (Sc : FnScope N ps (defScope st)) (hps : 0 < ps.length)
    (hbody : ∀ (cdv : Value) (A : Around), A.guards = some [] → ∀ (outer : List PySem.Env) (s : Shared) (H : Hp) (E : XK), Room k (A.deeper (envOfC qual (defScope st) s.heap.objs.size f cdv)) →
      ∃ t, PSs (cxOf (L2.CX P w) P w K mg base N qual (defScope st) f cdv A outer s H E) (defBody st) t ∧ SS ct (fun c d _ H => E c d H) [0] t m) : FnG P w K mg base (L2.CX P w) (k + 1) f fd ps (spM ct ps.length (mFunI ps.length N.length m)) := by
  refine fnG_mk F Sc (fun vs H Q E h => h.1) fun cdv A hg outer s H vs Q E hr h => ?_
  obtain ⟨t, ht, hs⟩ := hbody cdv A hg outer s H E hr
  refine ⟨t, ht, ?_⟩
  obtain ⟨hl, ts, W, S, g, k1⟩ := h
  unfold mFunI at k1
  by_cases hc : ts.length = ps.length ∧ ts.tail.all T.isSh = true
  case neg => rw [if_neg hc] at k1; exact k1.elim
  rw [if_pos hc] at k1
  match ts, vs, hl, hc with
  | [], _, _, hc => simp at hc; omega
  | _ :: _, [], hl, _ => simp at hl; omega
  | t0 :: ts, v0 :: vs, hl, hc =>
  obtain ⟨ds, hds⟩ := allSh hc.2
  simp only [List.tail_cons] at hds
  subst hds
  obtain ⟨S1, as, bs, hu, g1⟩ := g.up
  have hr1 : Rpl S1 ds vs := by
    obtain ⟨v', r, b, c, h3, _, _, h5⟩ := g1.rt
    cases h3
    exact h5.toRpl'.1
  have g2 := GX.start (N := N) ⟨S1, as, bs, g1⟩ (by rw [hl, hc.1])
  rw [hc.1] at g2
  refine hs W S1 (start N (v0 :: vs)) _ _ H _ g2 Pin.refl ?_
  have hst : (start N (v0 :: vs))[0]? = some (some v0) := rfl
  have fin : ∀ (t : T) (v : V) (ρ : Env) (σ : L2.St) (H' : Hp) (t1 : T), ρ[0]? = some (some t1) → Pin [0] (start N (v0 :: vs)) σ → GX W S1 ρ σ [t] [v] H' → GX W S [] [] (t :: t1 :: ds.map .sh) (v :: v0 :: vs) H' := fun t v ρ σ H' t1 e p g3 => by
    obtain ⟨v1, e1, g4⟩ := g3.take e
    have e2 := p 0 (by simp)
    rw [hst, e1] at e2
    cases e2
    have g5 := GX.rot (ts := [t1]) (vs := [v0]) g4.noEnv rfl
    obtain ⟨S2, as2, bs2, g6⟩ := g5
    exact (g6.endS (hr1.mono g6.s0)).join hu
  generalize m _ = o at k1 ⊢
  cases o with
  | bad => exact k1
  | nx ρ =>
    simp only at k1
    split at k1
    · rename_i t1 e
      exact fun σ' H' g3 p => k1.2 .non H' (fin (.sh .non) .non ρ σ' H' t1 e p (g3.pushC (S := H') (d := .non) (v := .non) rfl rfl))
    · exact k1.elim
  | rt t ρ =>
    simp only at k1
    split at k1
    · rename_i t1 e
      exact fun v σ' H' g3 p => k1.2 v H' (fin t v ρ σ' H' t1 e p g3)
    · exact k1.elim
  | bk ρ => exact k1.elim
  | ct ρ => exact k1.elim
  | ex x ρ => exact fun c d σ' H' g3 _ hx => k1 c d H' (g3.noEnv.join hu) hx
def FnGd (P : Program) (w : World) (K : PySem.W.Frag) (mg : Str → Option Value) (base : Heap) (x : Str) (k : Nat) (ps : List Str) (sp : Sp) : Prop :=
  ∃ (f : Addr) (fd : FuncData), FnG P w K mg base (L2.CX P w) k f fd ps sp ∧ mg x = some (.ref f) ∧ PySem.W.keepIn K (.ref f) = true ∧ Binds K fd ps []
theorem fnG_def {x : Str} {st : Stmt} {N ps : List Str} {k : Nat} {m : SM} (F : Dd K mg x st ps) (Sc : FnScope N ps (defScope st))
    (hbody : ∀ (f : Addr) (cdv : Value) (A : Around), A.guards = some [] → ∀ (outer : List PySem.Env) (s : Shared) (H : Hp) (E : XK), Room k (A.deeper (envOfC x (defScope st) s.heap.objs.size f cdv)) →
      ∃ t, PSs (cxOf (L2.CX P w) P w K mg base N x (defScope st) f cdv A outer s H E) (defBody st) t ∧ SS ct (fun c d _ H => E c d H) [] t m) : FnGd P w K mg base x (k + 1) ps (spM ct ps.length (mFun ps.length N.length m)) := by
  obtain ⟨f, fd, F, hm, hb⟩ := F
  exact ⟨f, fd, fn_mkG F Sc (hbody f), hm, F.kp, hb⟩
theorem fnG_defI {x : Str} {st : Stmt} {N ps : List Str} {k : Nat} {m : SM} (F : Dd K mg x st ps) (Sc : FnScope N ps (defScope st)) (hps : 0 < ps.length)
    (hbody : ∀ (f : Addr) (cdv : Value) (A : Around), A.guards = some [] → ∀ (outer : List PySem.Env) (s : Shared) (H : Hp) (E : XK), Room k (A.deeper (envOfC x (defScope st) s.heap.objs.size f cdv)) →
      ∃ t, PSs (cxOf (L2.CX P w) P w K mg base N x (defScope st) f cdv A outer s H E) (defBody st) t ∧ SS ct (fun c d _ H => E c d H) [0] t m) : FnGd P w K mg base x (k + 1) ps (spM ct ps.length (mFunI ps.length N.length m)) := by
  obtain ⟨f, fd, F, hm, hb⟩ := F
  exact ⟨f, fd, fn_mkGI F Sc hps (hbody f), hm, F.kp, hb⟩
end
section
open PySem.Spec PyProof.Rows
variable {X : Cx} {CX : CXT} {k : Nat} {f : Addr} {fd : FuncData} {ps : List Str} {sp : Sp} {E : L2.St → XK} {x : Str} {e : Expr} {es : List Expr} {p pos : Pos} {t : TA}
theorem run_fnG {pins : List (Addr × Obj)} {σ : L2.St} {H : Hp} {s : Shared} {Q : VK} {us : List Value} {vs : List V} (F : FnG X.prog X.w X.K X.mg X.base CX k f fd ps sp) (hg : X.A.guards = some []) (hl : us.length = ps.length) (hr : Room k X.A) (hb : Binds X.K fd ps []) (hx : PassesAt CX X σ (E σ))
    (I : Inv X pins σ H s) (r : Vals vs us) (h : sp vs H Q (E σ)) : wpAny (model X.prog X.w) X.A (call (.ref f) us) (EP X pins σ Q) X.xe s := by
  have b := hb s us I.kIn (by rw [List.append_nil]; exact hl)
  rw [List.append_nil] at b
  refine wpAny_call (codeAny_mono (F.run X.A hg hr X.stack s H I.env0 ⟨us, []⟩ us vs b r Q (E σ) h) fun r s' hq => ?_)
  cases r with
  | error e => exact hx pins H s e s' I hq
  | ok fl =>
    cases fl with
    | ret u => exact I.after hq
    | next => exact False.elim hq
    | brk => exact False.elim hq
    | cont => exact False.elim hq
theorem pe_callSG (F : FnG X.prog X.w X.K X.mg X.base CX k f fd ps sp) (hgd : X.A.guards = some []) (hl : ∀ vs H Q E, sp vs H Q E → vs.length = ps.length) (hr : Room k X.A) (hg : Gl X x) (hm : X.mg x = some (.ref f)) (hk : PySem.W.keepIn X.K (.ref f) = true) (hb : Binds X.K fd ps []) (hx : ∀ σ, PassesAt CX X σ (E σ))
    (ha : PA X (e :: es) t) (hdb : (x == ("__debug__" : Str)) = false := by decide) (he : starEach (e :: es) X.env = (false, eval e X.env) :: starEach es X.env := by rfl) (hpl : (backTo pos (starEach es X.env)).any (·.1) = false := by rfl) :
    PE X (.Call (.Name x p) (e :: es) [] pos) (tCallS sp E t) := by
  refine ⟨fun pins s σ H Q I h => ?_⟩
  refine wpAny_Call_Name_kw (ld_glob I hg hm ?_ hdb)
  refine PySem.W.callWith_K (h₀ := X.base) I.ok.mod.kin hk (thn (ha.run pos pins s σ H _ I h) fun us s1 ⟨vs, H1, I1, r, q⟩ => ⟨I1.kIn, ?_⟩) he hpl
  exact run_fnG F hgd (by show us.length = _; rw [← r.length]; exact hl _ _ _ _ q) hr hb (hx σ) I1 r q
end
end
end Z

namespace Z
noncomputable section
open PySem L2
variable {ct : CT} {Wx : XW} {W S0 S H H' : Hp} {ρ : Env} {σ σ0 : St} {t u : T} {ts us tm : List T} {v w : V} {vs ws vm : List V} {as bs : List Addr} {i : Nat} {d : D} {pin : List Nat} {D0 : Ends}
/-- x[:hi], hi with effects -/
def eSlT (a hi : EM) : EM := fun ρ => (a ρ).bnd fun t ρ => (hi ρ).bnd fun u ρ => optO (t.els.bind fun ds => u.d.intO.bind fun k => some (.ol (cutD ds none (some k)))) ρ
@[simp ↓] theorem eSlT_run (a hi : EM) (ρ : Env) : eSlT a hi ρ = ((a ρ).bnd fun t ρ => (hi ρ).bnd fun u ρ => optO (t.els.bind fun ds => u.d.intO.bind fun k => some (.ol (cutD ds none (some k)))) ρ) := rfl
theorem se_slT {K : PySem.W.Frag} {ta tl : TE} {a hi : EM} (ha : SE ct Wx ta a) (hl : SE ct Wx tl hi) : SE ct Wx (tSl (rSlL K) ta tNoPart (tPart tl)) (eSlT a hi) := fun W S0 ρ σ tm vm H Q g k => by
  refine ha W S0 ρ σ tm vm H _ g ((Out.P_bnd.mp k).mono (fun t ρ1 k1 v H1 g1 => ?_) fun _ _ h => h)
  refine hl W S0 ρ1 σ (t :: tm) (v :: vm) H1 _ g1 ((Out.P_bnd.mp k1).mono (fun u ρ2 k2 w H2 g2 => ?_) fun _ _ h => XE.pop (ts := [t]) (vs := [v]) h rfl)
  obtain ⟨z, e, k⟩ := P_opt k2
  obtain ⟨ts, e2, e⟩ := some_bind e
  obtain ⟨i, e3, e⟩ := some_bind e
  cases e
  have q := g2.tmp
  rw [intO_int e3] at q
  cases q
  refine ⟨i, rfl, ?_⟩
  obtain ⟨p, xs, rfl, h1, h2, g3⟩ := g2.pop1.els e2
  refine ⟨p, xs, rfl, .of h1, fun q hq => k _ _ ?_⟩
  have g4 := g3.sub (us := cutD ts none (some i)) (ws := cutV xs none (some i)) h2 fun S H b hb => hb.cut
  exact g4.newL (by unfold cutD cutV; simp [h2]) hq
end
end Z

namespace Z
noncomputable section
open PySem L2 PyProof.Rows
section
variable {X : Cx}
/-- sorted(xs), xs of data that are alike, any length -/
def rSortedD (K : PySem.W.Frag) : List V → Hp → VK → Prop := fun xs H Q => ∃ (a : Addr) (ps : List (V × PyData)), xs = [.ref a] ∧ SqL K H a (ps.map Prod.fst) ∧ (∀ p ∈ ps, Dp K H p.1 p.2) ∧
  PySem.W.AllAlike (ps.map Prod.snd) ∧ PySem.W.Sortable (ps.map Prod.snd) ∧ (∀ p ∈ ps, p.2.depth ≤ 60) ∧ ∀ q : Addr, H q = none → Q (.ref q) (upd H q (.lst ((ps.mergeSort (PySem.W.dataLe false Prod.snd)).map Prod.fst)))
theorem vals_each : ∀ {ps : List (V × PyData)} {us : List Value}, Vals (ps.map Prod.fst) us → PySem.W.EachIs (fun v (p : V × PyData) => RelV p.1 v) us ps
  | [], us, r => by
    rw [List.map_nil] at r
    cases r
    exact .nil
  | p :: ps, us, r => by
    rw [List.map_cons] at r
    cases r with
    | cons h q => exact .cons h (vals_each q)
theorem each_vals : ∀ {ps : List (V × PyData)} {us : List Value}, PySem.W.EachIs (fun v (p : V × PyData) => RelV p.1 v) us ps → Vals (ps.map Prod.fst) us
  | [], _, .nil => .nil
  | _ :: _, _, .cons h q => .cons h (each_vals q)
theorem each_with {α β : Type} {R : α → β → Prop} {P : β → Prop} : ∀ {as : List α} {bs : List β}, PySem.W.EachIs R as bs → (∀ b ∈ bs, P b) → PySem.W.EachIs (fun a b => R a b ∧ P b) as bs
  | _, _, .nil, _ => .nil
  | _, _, .cons h q, k => .cons ⟨h, k _ List.mem_cons_self⟩ (each_with q fun b hb => k b (List.mem_cons_of_mem _ hb))
theorem call_sortedD (hu : X.A.units + 65 < cLine) : CallR X (.builtin "sorted") (rSortedD X.K) := by
  intro pins s σ H vs us Q I r h
  obtain ⟨a, ps, rfl, hs, hd, hal, hsk, hdp, q⟩ := h
  obtain ⟨its, rv, hl, hz⟩ := I.list hs
  rw [Vals.ref1 r]
  have e := vals_each rv
  refine PySem.W.sorted_data (R := fun v (p : V × PyData) => RelV p.1 v) (bs := ps) (enc := Prod.snd) hl.isList e ?_ hal hsk ?_ ?_ fun out h1 h2 => ?_
  · exact (each_with e hd).mono fun v p ⟨h1, h2⟩ => Dp.reads I p.2 p.1 v h2 h1
  · rw [List.length_map] at hz; exact hz
  · intro p hp
    have := hdp p hp
    omega
  · have hv := each_vals h2
    obtain ⟨ep, he'⟩ := PyProof.Rows.sortedAll_at s.heap its out.toArray
    have hlen : ((ps.mergeSort (PySem.W.dataLe false Prod.snd)).map Prod.fst).length ≤ sizeLine := by
      rw [List.length_map, List.length_mergeSort]
      rw [List.length_map] at hz
      exact hz
    exact ⟨.ref _, upd H (s.heap.objs.size + 1) (.lst ((ps.mergeSort (PySem.W.dataLe false Prod.snd)).map Prod.fst)), I.laid (t' := s.toks) (fun _ _ => PyProof.Rows.sortedAll_old) (Nat.le_succ _) ⟨hlen, out, ep, hv, he'⟩, rfl, q _ (I.hok.fresh (Nat.le_succ _))⟩
end
theorem pyl_map : ∀ l : List D, pyl l = l.map D.py
  | [] => rfl
  | d :: l => by simp only [pyl, List.map_cons, pyl_map l]
def srtD (l : List D) : List D := l.mergeSort (PySem.W.dataLe false D.py)
def SrtOk (l : List D) : Prop := datl 59 l = true ∧ PySem.W.AllAlike (l.map D.py) ∧ PySem.W.Sortable (l.map D.py)
instance (l : List D) : Decidable (SrtOk l) := Classical.propDecidable _
def sortT : List T → Option T
  | [t] => match t.d with
    | .lst l => if SrtOk l then some (.ol ((srtD l).map .sh)) else none
    | _ => none
  | _ => none
theorem datl_mem {n : Nat} : ∀ {l : List D} {d : D}, datl n l = true → d ∈ l → d.dat n = true
  | a :: l, d, h, hd => by
    simp only [datl, Bool.and_eq_true] at h
    rcases List.mem_cons.mp hd with rfl | hd
    · exact h.1
    · exact datl_mem h.2 hd
theorem Rpl.zip_of {S : Hp} : ∀ {ps : List (D × V)}, (∀ p ∈ ps, Rp S p.1 p.2) → Rpl S (ps.map Prod.fst) (ps.map Prod.snd)
  | [], _ => by simp [Rpl]
  | p :: ps, h => ⟨p.2, ps.map Prod.snd, rfl, h p List.mem_cons_self, Rpl.zip_of fun q hq => h q (List.mem_cons_of_mem _ hq)⟩
theorem Rpl.zip_mem {S : Hp} : ∀ {l : List D} {vs : List V}, Rpl S l vs → ∀ p ∈ l.zip vs, Rp S p.1 p.2
  | [], _, _, p, h => by simp at h
  | d :: l, _, ⟨v, r, e, h1, h2⟩, p, h => by
    subst e
    rw [List.zip_cons_cons] at h
    rcases List.mem_cons.mp h with rfl | h
    · exact h1
    · exact Rpl.zip_mem h2 p h
theorem Rtl.ofShs {S H : Hp} : ∀ {l : List D} {vs : List V} {b : List Addr}, Rtl S H (l.map .sh) vs b → b = [] ∧ Rpl S l vs
  | [], _, _, ⟨h1, h2⟩ => ⟨h2, h1⟩
  | d :: l, _, _, ⟨v, r, b, c, e1, e2, ⟨e3, h3⟩, h4⟩ => by
    obtain ⟨q1, q2⟩ := Rtl.ofShs h4
    subst e3 q1
    exact ⟨e2, v, r, e1, h3, q2⟩
theorem Rtl.toShs {S H : Hp} : ∀ {l : List D} {vs : List V}, Rpl S l vs → Rtl S H (l.map .sh) vs []
  | [], _, h => ⟨h, rfl⟩
  | d :: l, _, ⟨v, r, e, h1, h2⟩ => ⟨v, r, [], [], e, rfl, ⟨rfl, h1⟩, Rtl.toShs h2⟩
theorem ce_sorted {K : PySem.W.Frag} : CallE (rSortedD K) sortT := fun W S0 ρ σ tm vm H ts vs z Q g e0 e k => by
  match ts, vs, e0, e, g with
  | [t], [v], _, e, g =>
    unfold sortT at e
    simp only at e
    split at e
    case h_2 => cases e
    rename_i l hl
    obtain ⟨⟨h1, h2, h3⟩, e⟩ := ite_some e
    cases e
    have g1 := g.frz
    rw [hl] at g1
    obtain ⟨a, xs, rfl, ha, hlen, g2⟩ := g1.els (ts := l.map .sh) rfl
    have hrp : Rpl H l xs := by
      have := g2.tmps (by simpa using hlen)
      rw [dl_eq, List.map_map] at this
      have q : l.map (T.d ∘ T.sh) = l := List.map_id'' (fun _ => rfl) l
      rwa [q] at this
    rw [List.length_map] at hlen
    obtain ⟨zs, hzs⟩ : ∃ zs, zs = l.zip xs := ⟨_, rfl⟩
    have hz1 : zs.map Prod.fst = l := by rw [hzs]; exact List.map_fst_zip (by omega)
    have hz2 : zs.map Prod.snd = xs := by rw [hzs]; exact List.map_snd_zip (by omega)
    have hzr : ∀ p ∈ zs, Rp H p.1 p.2 := by rw [hzs]; exact hrp.zip_mem
    have hzd : ∀ p ∈ zs, p.1.dat 59 = true := fun p hp => datl_mem h1 (by rw [← hz1]; exact List.mem_map.mpr ⟨p, hp, rfl⟩)
    have e1 : (zs.map fun p => (p.2, p.1.py)).map Prod.fst = xs := by rw [List.map_map]; exact hz2
    have e2 : (zs.map fun p => (p.2, p.1.py)).map Prod.snd = l.map D.py := by rw [List.map_map, ← hz1, List.map_map]; rfl
    refine ⟨a, zs.map fun p => (p.2, p.1.py), rfl, by rw [e1]; exact .of ha, fun p hp => ?_, by rw [e2]; exact h2, by rw [e2]; exact h3, fun p hp => ?_, fun q hq => ?_⟩
    · obtain ⟨p', hp', rfl⟩ := List.mem_map.mp hp
      exact (hzr p' hp').dp (hzd p' hp')
    · obtain ⟨p', hp', rfl⟩ := List.mem_map.mp hp
      have := (dat_lay (hzd p' hp')).2
      show p'.1.py.depth ≤ 60
      omega
    · have m1 : ((zs.map fun p => (p.2, p.1.py)).mergeSort (PySem.W.dataLe false Prod.snd)).map Prod.fst = (zs.mergeSort (PySem.W.dataLe false fun p => p.1.py)).map Prod.snd := by
        rw [← List.map_mergeSort (f := fun p : D × V => (p.2, p.1.py)) (r := PySem.W.dataLe false fun p : D × V => p.1.py) (s := PySem.W.dataLe false Prod.snd) (fun a _ b _ => rfl), List.map_map]
        rfl
      have m2 : srtD l = (zs.mergeSort (PySem.W.dataLe false fun p => p.1.py)).map Prod.fst := by
        unfold srtD
        rw [← hz1, ← List.map_mergeSort (f := (Prod.fst : D × V → D)) (r := PySem.W.dataLe false fun p : D × V => p.1.py) (s := PySem.W.dataLe false D.py) (fun a _ b _ => rfl)]
      rw [m1]
      refine k _ _ ?_
      have g3 := g2.sub (us := (srtD l).map .sh) (ws := (zs.mergeSort (PySem.W.dataLe false fun p => p.1.py)).map Prod.snd) (by simpa using hlen) fun S H' b hb => by
        obtain ⟨rfl, hr⟩ := Rtl.ofShs hb
        refine ⟨[], Rtl.toShs ?_, fun h => h, fun x h => h⟩
        rw [m2]
        refine Rpl.zip_of fun p hp => ?_
        have hp' := List.mem_mergeSort.mp hp
        rw [hzs] at hp'
        exact hr.zip_mem p hp'
      exact g3.newL (by rw [m2]; simp) hq
end
end Z

namespace Z
noncomputable section
open PySem L2 PyProof.Rows
/-! ### x is True, x is False, for any x -/
def rIsB : R2 := fun x y H Q => ∃ b, y = .bl b ∧ Q (.bl (decide (x = .bl b))) H
def rIsNotB : R2 := fun x y H Q => ∃ b, y = .bl b ∧ Q (.bl (!decide (x = .bl b))) H
section
variable {X : Cx}
theorem op_isB : OpR X (compareOp .Is) rIsB := by
  intro pins s σ H x y v u Q I rx ry h
  obtain ⟨b, rfl, q⟩ := h
  cases (show u = Value.bool b from ry)
  have other : plainIs v (.bool b) = true → v ≠ .bool b → x ≠ .bl b → wpAny (model X.prog X.w) X.A (compareOp .Is v (.bool b)) (EP X pins σ Q) X.xe s := fun hp hv hx =>
    wpAny_is_other hp hv ⟨.bl false, H, I, rfl, by simpa [hx] using q⟩
  cases x
  case bl a =>
    cases (show v = Value.bool a from rx)
    by_cases e : a = b
    · subst e
      exact wpAny_is_self rfl ⟨.bl true, H, I, rfl, by simpa using q⟩
    · exact wpAny_is_other rfl (fun z => e (Value.bool.inj z)) ⟨.bl false, H, I, rfl, by simpa [e] using q⟩
  all_goals first
    | (cases rx; exact other rfl (fun z => nomatch z) (fun z => nomatch z))
    | (obtain ⟨t, rfl⟩ := rx; exact other rfl (fun z => nomatch z) (fun z => nomatch z))
theorem op_isNotB : OpR X (compareOp .IsNot) rIsNotB := by
  intro pins s σ H x y v u Q I rx ry h
  obtain ⟨b, rfl, q⟩ := h
  cases (show u = Value.bool b from ry)
  have other : plainIs v (.bool b) = true → v ≠ .bool b → x ≠ .bl b → wpAny (model X.prog X.w) X.A (compareOp .IsNot v (.bool b)) (EP X pins σ Q) X.xe s := fun hp hv hx =>
    wpAny_isNot_other hp hv ⟨.bl true, H, I, rfl, by simpa [hx] using q⟩
  cases x
  case bl a =>
    cases (show v = Value.bool a from rx)
    by_cases e : a = b
    · subst e
      exact wpAny_isNot_self rfl ⟨.bl false, H, I, rfl, by simpa using q⟩
    · exact wpAny_isNot_other rfl (fun z => e (Value.bool.inj z)) ⟨.bl true, H, I, rfl, by simpa [e] using q⟩
  all_goals first
    | (cases rx; exact other rfl (fun z => nomatch z) (fun z => nomatch z))
    | (obtain ⟨t, rfl⟩ := rx; exact other rfl (fun z => nomatch z) (fun z => nomatch z))
end
def D.isBl : D → Bool → Bool
  | .bl a, b => a == b
  | _, _ => false
theorem isBl_V {S : Hp} {d : D} {v : V} {b : Bool} (h : Rp S d v) : decide (v = .bl b) = d.isBl b := by
  cases d with
  | non => cases h; rfl
  | bl a => cases h; cases a <;> cases b <;> rfl
  | int i => cases h; rfl
  | str s => cases h; rfl
  | lst l => obtain ⟨a, vs, rfl, _⟩ := h; rfl
  | tup l => obtain ⟨a, vs, rfl, _⟩ := h; rfl
  | dic ks l => obtain ⟨a, vs, rfl, _⟩ := h; rfl
def oIsB (neg : Bool) : D → D → Option D := fun x y => match y with
  | .bl b => some (.bl (if neg then !x.isBl b else x.isBl b))
  | _ => none
theorem os_isB : OpS rIsB (oIsB false) := fun H dx dy x y d hx hy e Q q => by
  cases dy <;> first | (cases e; done) | skip
  cases e
  cases hy
  refine ⟨_, rfl, ?_⟩
  rw [isBl_V hx]
  exact q _ H (fun _ _ h => h) rfl
theorem os_notB : OpS rIsNotB (oIsB true) := fun H dx dy x y d hx hy e Q q => by
  cases dy <;> first | (cases e; done) | skip
  cases e
  cases hy
  refine ⟨_, rfl, ?_⟩
  rw [isBl_V hx]
  exact q _ H (fun _ _ h => h) rfl
@[simp] theorem isB_run (x : D) (b : Bool) : oIsB false x (.bl b) = some (.bl (x.isBl b)) := rfl
@[simp] theorem isBl_bl (a b : Bool) : (D.bl a).isBl b = (a == b) := rfl
@[simp] theorem isBl_int (i : Int) (b : Bool) : (D.int i).isBl b = false := rfl
@[simp] theorem isBl_str (i : Str) (b : Bool) : (D.str i).isBl b = false := rfl
@[simp] theorem isBl_non (b : Bool) : D.non.isBl b = false := rfl
@[simp] theorem isBl_lst (l : List D) (b : Bool) : (D.lst l).isBl b = false := rfl
@[simp] theorem isBl_tup (l : List D) (b : Bool) : (D.tup l).isBl b = false := rfl
/-! ### < of data that are alike -/
def rLtD (K : PySem.W.Frag) : R2 := fun x y H Q => ∃ d e, Dp K H x d ∧ Dp K H y e ∧ PySem.W.alike d e = true ∧ d ≠ .none ∧ d.depth ≤ 60 ∧ Q (.bl (PySem.W.dataLt d e)) H
theorem op_ltD {X : Cx} (hu : X.A.units + 65 < cLine) : OpR X (compareOp .Lt) (rLtD X.K) := by
  intro pins s σ H x y v u Q I rx ry h
  obtain ⟨d, e, h1, h2, h3, h4, h5, q⟩ := h
  obtain ⟨as, r1⟩ := Dp.reads I d x v h1 rx
  obtain ⟨bs, r2⟩ := Dp.reads I e y u h2 ry
  have R := PySem.W.rcLt_alike d e X.A s v u as bs r1 r2 h3 h4 (by omega)
  exact R X.prog X.w X.xe (EP X pins σ Q) ⟨.bl _, H, I, rfl, q⟩
def LtOk (x y : D) : Prop := x.dat 60 = true ∧ y.dat 60 = true ∧ PySem.W.alike x.py y.py = true ∧ x.py ≠ .none
instance (x y : D) : Decidable (LtOk x y) := Classical.propDecidable _
def oLtD : D → D → Option D := fun x y => if LtOk x y then some (.bl (PySem.W.dataLt x.py y.py)) else none
theorem os_ltD {K : PySem.W.Frag} : OpS (rLtD K) oLtD := fun H dx dy x y d hx hy e Q q => by
  obtain ⟨⟨h1, h2, h3, h4⟩, e⟩ := ite_some e
  cases e
  exact ⟨_, _, hx.dp h1, hy.dp h2, h3, h4, (dat_lay h1).2, q _ H (fun _ _ h => h) rfl⟩
@[simp] theorem ltD_int (a b : Int) : oLtD (.int a) (.int b) = some (.bl (decide (a < b))) := by
  unfold oLtD
  rw [if_pos ⟨rfl, rfl, rfl, by simp [D.py]⟩]
  congr 2
  exact PySem.W.dataLt_int a b
theorem ltD_ints (a b : List Int) : oLtD (.lst (a.map .int)) (.lst (b.map .int)) = some (.bl (decide (a < b))) := by
  have hp : ∀ l : List Int, pyl (l.map D.int) = l.map PyData.int := fun l => by
    rw [pyl_map, List.map_map]; rfl
  have ha : PySem.W.alike (D.lst (a.map .int)).py (D.lst (b.map .int)).py = true := by
    show PySem.W.alikeAll (pyl (a.map D.int)) (pyl (b.map D.int)) = true
    rw [hp, hp]
    exact PySem.W.alike_ints a b
  unfold oLtD
  rw [if_pos ⟨dat_ints a, dat_ints b, ha, by simp [D.py]⟩]
  congr 2
  show PySem.W.dataLt (.list (pyl (a.map D.int))) (.list (pyl (b.map D.int))) = _
  rw [PySem.W.dataLt_list, hp, hp]
  exact PySem.W.dataLt_ints a b
/-! ### sorted ints, sorted rows -/
def isrt (l : List Int) : List Int := l.mergeSort fun a b => decide (a ≤ b)
theorem srt_ints (l : List Int) : srtD (l.map .int) = (isrt l).map .int := by
  unfold srtD isrt
  have := PySem.W.dataLe_int (β := Int) (fun b => b)
  exact (List.map_mergeSort (s := PySem.W.dataLe false D.py) fun a _ b _ => (congrFun (congrFun this a) b).symm).symm
theorem srtOk_ints (l : List Int) : SrtOk (l.map .int) := by
  refine ⟨dat_ints l, ?_, ?_⟩
  · rw [List.map_map]
    exact PySem.W.AllAlike.of fun _ _ => rfl
  · rw [List.map_map]
    exact PySem.W.Sortable.others fun _ => ⟨fun h => (nomatch h), fun _ h => (nomatch h)⟩
def rsrt (l : List (List Int)) : List (List Int) := l.mergeSort fun a b => decide (a ≤ b)
theorem srt_rows (l : List (List Int)) : srtD (l.map D.ints) = (rsrt l).map D.ints := by
  unfold srtD rsrt
  refine (List.map_mergeSort (s := PySem.W.dataLe false D.py) fun a _ b _ => ?_).symm
  have := PySem.W.dataLe_rows (β := List Int) (fun b => b)
  have hp : ∀ l : List Int, pyl (l.map D.int) = l.map PyData.int := fun l => by
    rw [pyl_map, List.map_map]; rfl
  have h2 := congrFun (congrFun this a) b
  rw [← h2]
  show (!PySem.W.dataLt (.list (b.map .int)) (.list (a.map .int))) = !PySem.W.dataLt (.list (pyl (b.map D.int))) (.list (pyl (a.map D.int)))
  rw [hp, hp]
theorem srtOk_rows (l : List (List Int)) : SrtOk (l.map D.ints) := by
  refine ⟨?_, ?_, ?_⟩
  · induction l with
    | nil => rfl
    | cons a l ih =>
      simp only [List.map_cons, datl, ih, Bool.and_true]
      exact dat_ints a
  · rw [List.map_map]
    refine PySem.W.AllAlike.of fun a b => ?_
    show PySem.W.alikeAll (pyl (a.map D.int)) (pyl (b.map D.int)) = true
    rw [pyl_map, pyl_map, List.map_map, List.map_map]
    exact PySem.W.alike_ints a b
  · rw [List.map_map]
    exact PySem.W.Sortable.others fun _ => ⟨fun h => (nomatch h), fun _ h => (nomatch h)⟩
theorem sortT_run (t : T) : sortT [t] = match t.d with
  | .lst l => if SrtOk l then some (.ol ((srtD l).map .sh)) else none
  | _ => none := rfl
@[simp] theorem sortT_ints {t : T} {l : List Int} (h : t.d = .lst (l.map .int)) : sortT [t] = some (.ol ((isrt l).map ig)) := by
  rw [sortT_run, h]
  simp only
  rw [if_pos (srtOk_ints l), srt_ints, map_sh_int]
@[simp] theorem sortT_rows {t : T} {l : List (List Int)} (h : t.d = .lst (l.map D.ints)) : sortT [t] = some (.ol ((rsrt l).map rg)) := by
  rw [sortT_run, h]
  simp only
  rw [if_pos (srtOk_rows l), srt_rows, map_sh_ints]
end
end Z

namespace Z
noncomputable section
open PySem L2
variable {ct : CT} {Wx : XW} {W S0 S H H' : Hp} {ρ : Env} {σ σ0 : St} {t u : T} {ts us tm its : List T} {v w : V} {vs ws vm : List V} {as bs : List Addr} {i : Nat} {d : D} {pin : List Nat} {D0 : Ends} {J : It}
/-! ### comprehensions of two clauses -/
theorem wipe_sub {σ : St} {a b : List Nat} (h : ∀ i ∈ b, i ∈ a) : wipe (wipe σ b) a = wipe σ a := by
  apply List.ext_getElem?
  intro j
  by_cases hj : j ∈ a
  · by_cases hl : j < σ.length
    · rw [wipe_in hj (by simpa [wipe_length] using hl), wipe_in hj hl]
    · rw [List.getElem?_eq_none (by rw [wipe_length, wipe_length]; omega), List.getElem?_eq_none (by rw [wipe_length]; omega)]
  · rw [wipe_get hj, wipe_get hj, wipe_get fun h' => hj (h _ h')]
theorem lc_J1 {g : TG} {tt : TT} {te : TE} {slots : List Nat} {σ : St} {H0 : Hp} {D : Addr} {Qd : Hp → Prop} (jo : JOk S J its) (Pv : Nat → Hp → Prop) (h0 : Pv 0 H0) (hS : ∀ i H, Pv i H → Same S H)
    (hs : ∀ i t x H H', its[i]? = some t → Pv i H → ((H' = H ∧ ∃ d, t = .sh d ∧ Rp S d x) ∨ ∃ p es vs, t = .ot (es.map .sh) ∧ x = .ref p ∧ H p = none ∧ H' = upd H p (.tup vs) ∧ Rpl S es vs) → g x (wipe σ slots) H' fun σ2 H2 => wipe σ2 slots = wipe σ slots ∧ tt σ2 H2 fun b H3 =>
      if b = true then te σ2 H3 fun y H4 => ∃ acc, H4 D = some (.lst acc) ∧ acc.length < sizeLine ∧ Pv (i + 1) (upd H4 D (.lst (acc ++ [y]))) else Pv (i + 1) H3) (hd : ∀ H, Pv its.length H → Qd H) :
    ∃ W : Nat → Nat → Hp → Prop, (∃ m, W 0 m H0) ∧ ∀ i m H, W i m H →
      (J.stop i H ∧ Qd H) ∨ (J.go i H ∧ ∃ Nx : Hp → Prop, (∀ H', Nx H' → ∃ m', m' < m ∧ W (i + 1) m' H') ∧ ∀ x H', J.yld i H x H' → g x (wipe σ slots) H' fun σ2 H2 => wipe σ2 slots = wipe σ slots ∧ tt σ2 H2 fun b H3 =>
        if b = true then te σ2 H3 fun y H4 => ∃ acc, H4 D = some (.lst acc) ∧ acc.length < sizeLine ∧ Nx (upd H4 D (.lst (acc ++ [y]))) else Nx H3) := by
  refine ⟨fun i m H => m = its.length - i ∧ i ≤ its.length ∧ Pv i H, ⟨its.length, by simp, Nat.zero_le _, h0⟩, ?_⟩
  rintro i m H ⟨rfl, hi, p⟩
  have e := hS i H p
  by_cases hlt : i < its.length
  · refine .inr ⟨jo.go i H e hlt, Pv (i + 1), fun H' p' => ⟨its.length - (i + 1), by omega, rfl, hlt, p'⟩, fun x H' y => ?_⟩
    obtain ⟨t, e1, y⟩ := jo.yld i H x H' e hlt y
    exact hs i t x H H' e1 p y
  · have e2 : i = its.length := by omega
    subst e2
    exact .inl ⟨jo.stop _ H e (Nat.le_refl _), hd H p⟩
def lcL2 (slots slots1 : List Nat) (b : BM) (tst : EMb) (src1 : IM) (b1 : BM) (tst1 : EMb) (elt : EM) : List T → List T → Env → Out (List T)
  | [], acc, ρ => .ok acc ρ
  | t :: ts, acc, ρ => match b t ρ with
    | none => .bad
    | some ρ => (tst ρ).bnd fun c ρ => if c = true then (src1 ρ).bnd fun its1 ρ => (lcL slots1 b1 tst1 elt its1 acc (wipeE ρ slots1)).bnd fun acc ρ => lcL2 slots slots1 b tst src1 b1 tst1 elt ts acc (wipeE ρ slots)
        else lcL2 slots slots1 b tst src1 b1 tst1 elt ts acc (wipeE ρ slots)
def eLC2 (slots slots1 : List Nat) (src : IM) (b : BM) (tst : EMb) (src1 : IM) (b1 : BM) (tst1 : EMb) (elt : EM) : EM := fun ρ => (src ρ).bnd fun its ρ1 => ((lcL2 slots slots1 b tst src1 b1 tst1 elt its [] (wipeE ρ1 slots)).nox).bnd fun acc ρ2 => .ok (.ol acc) (keepE ρ1 slots (wipeE ρ2 slots))
@[simp ↓] theorem eLC2_run (slots slots1 : List Nat) (src : IM) (b : BM) (tst : EMb) (src1 : IM) (b1 : BM) (tst1 : EMb) (elt : EM) (ρ : Env) : eLC2 slots slots1 src b tst src1 b1 tst1 elt ρ = ((src ρ).bnd fun its ρ1 => ((lcL2 slots slots1 b tst src1 b1 tst1 elt its [] (wipeE ρ1 slots)).nox).bnd fun acc ρ2 => .ok (.ol acc) (keepE ρ1 slots (wipeE ρ2 slots))) := rfl
theorem se_lc2 {slots slots1 : List Nat} {wi wi1 : TI} {g g1 : TG} {tt tt1 : TT} {te : TE} {src src1 : IM} {b b1 : BM} {tst tst1 : EMb} {elt : EM} (hsub : ∀ i ∈ slots1, i ∈ slots) (hi : SI ct Wx wi src) (hg : SG slots g b) (ht : SET ct NoX tt tst) (hi1 : SI ct NoX wi1 src1) (hg1 : SG slots1 g1 b1) (ht1 : SET ct NoX tt1 tst1) (he : SE ct NoX te elt) :
    SE ct Wx (tLc2 wi g tt wi1 g1 tt1 te slots slots1) (eLC2 slots slots1 src b tst src1 b1 tst1 elt) := fun W S0 ρ σ tm vm H Q gx k => by
  refine hi W S0 ρ σ tm vm H _ gx ((Out.P_bnd.mp k).mono (fun its ρ1 k1 J S H1 hu g1' jo => ?_) fun _ _ h => h)
  have k2 := P_nox (Ψ' := fun _ _ => False) (Out.P_bnd.mp k1)
  intro D hD
  obtain ⟨S1, as, bs, hu1, g1'⟩ := g1'.up
  have hk : ∀ (i : Nat) d, ρ1[i]? = some (some (.sh d)) → ∃ v, σ[i]? = some (some v) ∧ Rp S1 d v := fun i d e => by
    obtain ⟨v, b, c, d', e1, _, ⟨_, e3⟩, _⟩ := g1'.re.at e
    exact ⟨v, e1, e3⟩
  have g2 : GX W S1 (wipeE ρ1 slots) (wipe σ slots) (.ol [] :: tm) (.ref D :: vm) (upd H1 D (.lst [])) := GX.wipe (GX.newL (ts := []) (vs := []) ⟨S1, as, bs, g1'⟩ rfl hD)
  let Pv : Nat → Hp → Prop := fun i H' => i ≤ its.length ∧ ∃ ρ' acc, GX W S1 ρ' (wipe σ slots) (.ol acc :: tm) (.ref D :: vm) H' ∧ (lcL2 slots slots1 b tst src1 b1 tst1 elt (its.drop i) acc ρ').P (fun acc ρ2 => ∀ H', GX W S1 (wipeE ρ2 slots) (wipe σ slots) (.ol acc :: tm) (.ref D :: vm) H' → Q (.ref D) H') (fun _ _ => False)
  have hP0 : Pv 0 (upd H1 D (.lst [])) := ⟨Nat.zero_le _, _, [], g2, k2.mono (fun acc ρ2 k3 H' g3 => k3 (.ref D) H' ((GX.keep g3 hk).join (hu.trans hu1))) fun _ _ h => h⟩
  refine ⟨fun i m H => m = its.length - i ∧ i ≤ its.length ∧ Pv i H, ⟨its.length, by simp, Nat.zero_le _, hP0⟩, ?_⟩
  rintro i m H ⟨rfl, hile, p⟩
  have e : Same S H := fun a o h => by
    obtain ⟨_, ρ', acc, g', _⟩ := p
    exact g'.under a o (hu1.1 a o h)
  by_cases hlt : i < its.length
  · refine .inr ⟨jo.go i H e hlt, Pv (i + 1), fun H' p' => ⟨its.length - (i + 1), by omega, rfl, hlt, p'⟩, fun x H2 y => ?_⟩
    obtain ⟨t, e1, y⟩ := jo.yld i H x H2 e hlt y
    obtain ⟨hle, ρ', acc, g', k'⟩ := p
    rw [List.drop_eq_getElem_cons hlt, (List.getElem?_eq_some_iff.mp e1).2] at k'
    unfold lcL2 at k'
    split at k'
    · exact k'.elim
    rename_i ρ2 e2
    have y' : ((H2 = H ∧ ∃ d, t = .sh d ∧ Rp S1 d x) ∨ ∃ p es vs, t = .ot (es.map .sh) ∧ x = .ref p ∧ H p = none ∧ H2 = upd H p (.tup vs) ∧ Rpl S1 es vs) := by
      rcases y with ⟨h1, d, h2, h3⟩ | ⟨p, es, vs, h1, h2, h3, h4, h5⟩
      · exact .inl ⟨h1, d, h2, h3.mono hu1.1⟩
      · exact .inr ⟨p, es, vs, h1, h2, h3, h4, h5.mono hu1.1⟩
    refine hg W S1 ρ' _ _ _ H2 t x ρ2 (g'.item y') e2 _ fun σ2 g3 ew => ?_
    rw [wipe_wipe] at ew
    refine ⟨ew, ht W S1 ρ2 σ2 _ _ H2 _ g3 ((Out.P_bnd.mp k').mono (fun c ρ3 k3 H3 g4 => ?_) fun _ _ h => h.elim)⟩
    cases c with
    | false =>
      refine ⟨hlt, wipeE ρ3 slots, acc, ?_, k3⟩
      have := GX.wipe (slots := slots) g4
      rw [ew] at this
      exact this
    | true =>
      rw [if_pos rfl] at k3 ⊢
      refine hi1 W S1 ρ3 σ2 _ _ H3 _ g4 ((Out.P_bnd.mp k3).mono (fun its1 ρ4 k4 J1 S2 H4 hu2 g5 jo1 => ?_) fun _ _ h => h.elim)
      obtain ⟨S3, as3, bs3, hu3, g5⟩ := g5.up
      have g6 : GX W S3 (wipeE ρ4 slots1) (wipe σ2 slots1) (.ol acc :: tm) (.ref D :: vm) H4 := GX.wipe ⟨S3, as3, bs3, g5⟩
      refine lc_J1 (S := S2) jo1 (fun j H' => j ≤ its1.length ∧ ∃ ρ' acc, GX W S3 ρ' (wipe σ2 slots1) (.ol acc :: tm) (.ref D :: vm) H' ∧ (lcL slots1 b1 tst1 elt (its1.drop j) acc ρ').P (fun acc ρ2 => ∀ H', GX W S3 ρ2 (wipe σ2 slots1) (.ol acc :: tm) (.ref D :: vm) H' → Pv (i + 1) H') (fun _ _ => False)) ?_ ?_ ?_ ?_
      · refine ⟨Nat.zero_le _, _, acc, g6, (Out.P_bnd.mp k4).mono (fun acc ρ5 k5 H' g7 => ?_) fun _ _ h => h⟩
        refine ⟨hlt, wipeE ρ5 slots, acc, ?_, k5⟩
        have := GX.wipe (slots := slots) g7
        rw [wipe_sub hsub, ew] at this
        exact this.join (hu2.trans hu3)
      · exact fun j H' ⟨_, ρ', acc, g', _⟩ a o h => g'.under a o (hu3.1 a o h)
      · rintro j t x H' H2 e ⟨hle, ρ', acc, g', k'⟩ y
        have hlt := (List.getElem?_eq_some_iff.mp e).1
        rw [List.drop_eq_getElem_cons hlt, (List.getElem?_eq_some_iff.mp e).2] at k'
        unfold lcL at k'
        split at k'
        · exact k'.elim
        rename_i ρ2 e2
        have y' : ((H2 = H' ∧ ∃ d, t = .sh d ∧ Rp S3 d x) ∨ ∃ p es vs, t = .ot (es.map .sh) ∧ x = .ref p ∧ H' p = none ∧ H2 = upd H' p (.tup vs) ∧ Rpl S3 es vs) := by
          rcases y with ⟨h1, d, h2, h3⟩ | ⟨p, es, vs, h1, h2, h3, h4, h5⟩
          · exact .inl ⟨h1, d, h2, h3.mono hu3.1⟩
          · exact .inr ⟨p, es, vs, h1, h2, h3, h4, h5.mono hu3.1⟩
        refine hg1 W S3 ρ' _ _ _ H2 t x ρ2 (g'.item y') e2 _ fun σ3 g2 ew1 => ?_
        rw [wipe_wipe] at ew1
        refine ⟨ew1, ht1 W S3 ρ2 σ3 _ _ H2 _ g2 ((Out.P_bnd.mp k').mono (fun c ρ3 k3 H3 g3 => ?_) fun _ _ h => h.elim)⟩
        cases c with
        | false =>
          refine ⟨hlt, wipeE ρ3 slots1, acc, ?_, k3⟩
          have := GX.wipe (slots := slots1) g3
          rw [ew1] at this
          exact this
        | true =>
          rw [if_pos rfl] at k3
          refine he W S3 ρ3 σ3 _ _ H3 _ g3 ((Out.P_bnd.mp k3).mono (fun u ρ4 k4 yv H4 g4 => ?_) fun _ _ h => h.elim)
          obtain ⟨hz, k4⟩ := P_ite k4
          have g5 : GX W S3 ρ4 σ3 (.ol acc :: u :: tm) (.ref D :: yv :: vm) H4 := GX.rot (ts := [u]) (vs := [yv]) g4 rfl
          obtain ⟨a, xs, e5, h1, h2, mk⟩ := g5.mutL
          cases e5
          refine ⟨xs, h1, lim_lt (by omega), hlt, wipeE ρ4 slots1, acc ++ [u], ?_, k4⟩
          have g6 := mk (acc ++ [u]) tm (xs ++ [yv]) vm (fun S H b c hb hc => by
            obtain ⟨v', r, c1, c2, h3, rfl, h4, h5⟩ := hc
            cases h3
            have h6 : Rtl S H [u] [yv] c1 := ⟨yv, [], c1, [], rfl, by simp, h4, rfl, rfl⟩
            exact ⟨b ++ c1, c2, hb.append h6, h5, by grind, by grind⟩)
          have := GX.wipe (slots := slots1) g6
          rw [ew1] at this
          exact this
      · rintro H' ⟨_, ρ', acc, g', k'⟩
        rw [List.drop_eq_nil_of_le (Nat.le_refl _)] at k'
        exact k' H' g'
  · have e2 : i = its.length := by omega
    subst e2
    refine .inl ⟨jo.stop _ H e (Nat.le_refl _), ?_⟩
    obtain ⟨_, ρ', acc, g', k'⟩ := p
    rw [List.drop_eq_nil_of_le (Nat.le_refl _)] at k'
    refine k' H ?_
    have := GX.wipe (slots := slots) g'
    rw [wipe_wipe] at this
    exact this
end
end Z

namespace Z
noncomputable section
open PySem PySem.W L2
variable {ct : CT} {Wx : XW} {W S0 S H H' : Hp} {ρ : Env} {σ σ0 : St} {t u : T} {ts us tm : List T} {v w : V} {vs ws vm : List V} {as bs : List Addr} {i : Nat} {d : D} {pin : List Nat} {D0 : Ends}
/-! ### isinstance(e, (C, D, ..)) -/
def rIsXT (K : Frag) (cls : Value) (d : Option Addr) (a : Addr) : List V → Hp → VK → Prop := fun xs H Q => ∃ (D tp : Addr) (cs : List V) (us : List Value) (b : Bool), cls = .ref D ∧ XcC K D ∧
  (d = none ∨ ∃ dd fs, d = some dd ∧ H dd = some (.xd fs)) ∧ xs = [.ref a, .ref tp] ∧ H tp = some (.tup cs) ∧ Paired ClsV cs us ∧ PySem.W.kitAny K (.ref D) us = some b ∧ Q (.bl b) H
theorem call_isXT {X : Cx} {a : Addr} {cls : Value} {d : Option Addr} {oe : Obj} {pn : List (Addr × Obj)} (hz : Zc cls d oe) (hf : ∃ vs, oe.data = .fields vs) : CallR (X.suite a ((a, oe) :: pn)) (.builtin "isinstance") (rIsXT X.K cls d a) := by
  intro pins s σ H xs us Q I r h
  obtain ⟨D, tp, cs, ws, b, rfl, C, hd, rfl, hT, kk, e, q⟩ := h
  match us, r with
  | [ux, ut], .cons rx (.cons rt .nil) =>
    obtain rfl : ux = Value.ref a := rx
    obtain rfl : ut = Value.ref tp := rt
    obtain ⟨_, its, rv, o, h1, h2, n, h3⟩ := (show ObjOk X.prog X.w H s.heap tp (.tup cs) from I.hok tp _ hT)
    have e3 := ClsV.all kk rv
    subst e3
    obtain ⟨oc, od', dt, sl⟩ := o
    simp only at h2 h3
    subst h2 h3
    obtain ⟨hget, _⟩ := I.pin (a, oe) (List.mem_append.mpr (.inl List.mem_cons_self))
    obtain ⟨vs, hv⟩ := hf
    have nc : PySem.W.notCls oe = true := by unfold PySem.W.notCls; rw [hv]
    rcases hd with rfl | ⟨dd, fs, rfl, hdd⟩
    · have J : PySem.W.InstAt s.heap a oe D none := ⟨hget, hz.1, nc, by rw [hz.2]; trivial⟩
      exact PySem.W.kia_tup (PySem.W.kitx_exc C.cl C.ga C.gg C.sb C.ca C.sp C.tk C.mo) I.kIn J h1 e (fun z => nomatch z) fun tk => ⟨.bl b, H, I.kept (t' := tk) fun _ _ z => z, rfl, q⟩
    · have hx : ObjOk X.prog X.w H s.heap dd (.xd fs) := I.hok dd _ hdd
      obtain ⟨mA, hns, hr⟩ := hx
      obtain ⟨od, ho, hl⟩ := lookIn_ns hns
      have J : PySem.W.InstAt s.heap a oe D (some od) := ⟨hget, hz.1, nc, by rw [hz.2]; exact ho⟩
      exact PySem.W.kia_tup (PySem.W.kitx_exc C.cl C.ga C.gg C.sb C.ca C.sp C.tk C.mo) I.kIn J h1 e (fun z => nomatch z) fun tk => ⟨.bl b, H, I.kept (t' := tk) fun _ _ z => z, rfl, q⟩
def IsL (K : Frag) (ct : CT) (ns : List Str) (Cs : List Addr) : Prop := ∀ y D, ct y = some D → PySem.W.kitAny K (.ref D) (Cs.map Value.ref) = some (ns.any fun n => relX y n)
theorem isL_nil {K : Frag} {ct : CT} : IsL K ct [] [] := fun _ _ _ => kitAny_nil
theorem isL_cons {K : Frag} {mg : Str → Option Value} {ct : CT} {n : Str} {C : Addr} {ns : List Str} {Cs : List Addr} (h : Xc K mg ct n C) (t : IsL K ct ns Cs) : IsL K ct (n :: ns) (C :: Cs) := fun y D e => by
  rw [List.map_cons, List.any_cons]
  refine kitAny_cons (h.is y D e).2 (fun hb => ?_) fun hb => ?_
  · rw [hb, Bool.false_or]; exact t y D e
  · rw [hb]; rfl
theorem cls_refs : ∀ Cs : List Addr, Paired ClsV (Cs.map V.ref) (Cs.map Value.ref)
  | [] => .nil
  | C :: Cs => .cons (.own C) (cls_refs Cs)
def eXisT (ns : List Str) (x : Exn) : EM := fun ρ => .ok (.sh (.bl (ns.any fun n => relX x.cls n))) ρ
@[simp ↓] theorem eXisT_run (ns : List Str) (x : Exn) (ρ : Env) : eXisT ns x ρ = .ok (.sh (.bl (ns.any fun n => relX x.cls n))) ρ := rfl
theorem xe_isT {K : Frag} {Cs : List Addr} {a : Addr} {ns : List Str} {x : Exn} {cls : Value} {d : Option Addr} {ta : TA} (hl : Cs.length ≤ lim) (hta : ∀ σ H (Q : List V → Hp → Prop), Q (Cs.map V.ref) H → ta σ H Q) (xc : ∀ y D, ct y = some D → XcC K D) (tab : IsL K ct ns Cs) :
    SEx (XaA ct x cls d a i) ct Wx (tCB (rIsXT K cls d a) (tCons (tVar i) (tCons (tTup ta) tNil))) (eXisT ns x) := fun W S0 ρ σ tm vm H Q hA g k => by
  obtain ⟨e1, hx⟩ := hA
  obtain ⟨D, hD, rfl, _, h4⟩ := id hx
  have t1 := xc _ _ hD
  have t2 := tab _ _ hD
  refine ⟨.ref a, e1, hta _ _ _ ⟨lim_le (by simpa using hl), fun p hp => ?_⟩⟩
  have es : Same H (upd H p (.tup (Cs.map V.ref))) := same_new hp
  refine ⟨D, p, Cs.map V.ref, Cs.map Value.ref, ns.any fun n => relX x.cls n, rfl, t1, ?_, rfl, upd_same, cls_refs Cs, t2, k _ _ ((g.ext es).pushC (S := H) rfl rfl)⟩
  rcases h4 with ⟨_, h⟩ | ⟨dd, vs, h5, h6, _⟩
  · exact .inl h
  · exact .inr ⟨dd, _, h5, es _ _ (g.outer _ _ h6)⟩
end
end Z

namespace Z
open PySem PySem.Calls PyProof.Rows
section
variable {prog : Program} {w : World} {A : Around} {E : Value → Shared → Prop} {s : Shared}
/-- list(it), it a fresh walk backwards over a list -/
theorem list_of_rev {r l : Addr} {xs : Array Value} {Q : Value → Shared → Prop} (hh : A.handled = none) (hr : s.heap.IsRevIter r l ((xs.size : Int) - 1)) (hl : s.heap.IsList l xs) (hne : l ≠ r) (hn : xs.size ≤ sizeLine)
    (done : ∀ (h' : Heap) (tk : Nat) (out : Array Value) (c : Nat), (∀ b o, b ≠ r → s.heap.get? b = some o → h'.get? b = some o) → h'.get? s.heap.objs.size = some (seqObj "list" out c) → ItemsOf (fun i v => xs[xs.size - 1 - i]? = some v) out xs.size → Q (.ref s.heap.objs.size) { s with heap := h', toks := tk }) :
    wpAny (model prog w) A (call (.type "list") [.ref r]) Q E s := by
  obtain ⟨N, hN⟩ : ∃ N, N = s.heap.objs.size := ⟨_, rfl⟩
  have walk := (Walks.listRev (prog := prog) (w := w) (A := A.in1.in1) hh r l hne xs).toS
  obtain ⟨o1, ho1, q1⟩ := id hr
  obtain ⟨o2, ho2, q2⟩ := id hl
  have n1 : N ≠ r := by rw [hN]; exact Nat.ne_of_gt (Heap.lt_size ho1)
  have n2 : N ≠ l := by rw [hN]; exact Nat.ne_of_gt (Heap.lt_size ho2)
  have nf : N ∉ [r, l] := by simp [n1, n2]
  refine callType_codes (Q₁ := fun v t => v = .ref N ∧ t = { s with heap := s.heap.push { cls := .type "list", data := .seq #[] } }) F.called_list (F.typeCall_list_1 _) F.entry_list_init (code_list_new _ ⟨by rw [hN], rfl⟩) ?_
  rintro _ _ ⟨rfl, rfl⟩
  have g0 : (s.heap.push { cls := .type "list", data := .seq #[] }).get? N = some { cls := .type "list", data := .seq #[] } := by rw [hN]; exact Heap.get?_push_size _ rfl
  refine ⟨⟨_, g0, rfl⟩, F.args_list_init_2 _ _, ?_⟩
  show wpAny _ A.in1.in1 (Builtin.List.listItems (.ref N) >>= fun old => Builtin.List.listUpdate (.ref N) (fun _ => #[]) >>= fun _ => letGo old.toList.reverse >>= fun _ => Builtin.List.listExtendWith (.ref N) (.ref r) .none) _ _ _
  refine wpAny_bind ?_
  unfold Builtin.List.listItems Builtin.List.listUpdate
  refine wpAny_bind (wpAny_seqItems g0 rfl <| wpAny_pure ?_)
  refine wpAny_bind (wpAny_updateSeq g0 rfl <| wpAny_bind (wpAny_letGo ?_))
  have g1 := Heap.get?_update_self (Obj.mapSeq fun _ : Array Value => (#[] : Array Value)) g0 rfl
  obtain ⟨K, hK⟩ : ∃ K, K = (s.heap.push { cls := .type "list", data := .seq #[] }).update N (Obj.mapSeq fun _ => #[]) := ⟨_, rfl⟩
  have keep : ∀ b o, b ≠ N → (s.heap.get? b = some o) → K.get? b = some o := fun b o hb e => by
    rw [hK, Heap.get?_update_other _ _ (Ne.symm hb)]
    exact Heap.get?_push_of_some _ e
  rw [← hK] at g1 ⊢
  have r1 : K.IsRevIter r l ((xs.size : Int) - 1) := hr.at fun o e => keep _ o (Ne.symm n1) e
  have l1 : K.IsList l xs := by
    obtain ⟨o, e, z⟩ := hl
    exact ⟨o, keep _ o (Ne.symm n2) e, z⟩
  have ty : ({ s with heap := K } : Shared).TypeIs (.ref r) "list_reverseiterator" := Heap.IsRevIter.typeIs (s := { s with heap := K }) r1
  have nsame : Builtin.List.listSameRef (.ref N) (.ref r) = false := by simp [Builtin.List.listSameRef, n1]
  unfold Builtin.List.listExtendWith
  refine wpAny_bind (wpAny_typeOf ty ?_)
  rw [nsame, if_neg (show ¬ _ by decide)]
  refine wpAny_bind (wpAny_pyIter_revIter (s := { s with heap := K }) r1 <| wpAny_bind (wpAny_holding ?_))
  unfold Builtin.List.listLengthHint
  refine wpAny_bind (wpAny_specialOf ty RT.nolen_lri ?_)
  show wpAny _ _ (specialOf (Value.ref r) (Str.ofString "__length_hint__") >>= _) _ _ _
  refine wpAny_bind (wpAny_specialOf ty RT.hint_lri ?_)
  generalize idh : ("list_reverseiterator.__length_hint__" : String) = nm
  wp_delta
  rw [show splitId nm = some ("list_reverseiterator", "__length_hint__") by subst idh; decide +kernel]
  subst idh
  refine wpAny_bind (wpAny_isInstance (b := true) ty (by rw [isSubtype_type]; kernel_rfl) <| wpAny_pure ?_)
  rw [if_neg (show ¬ _ by decide)]
  have z0 : ((xs.size : Nat) : Int) - 1 - ((0 : Nat) : Int) = (xs.size : Int) - 1 := by omega
  refine wpAny_pure ⟨plainId_quiet F.plain_extend_loop _, ?_⟩
  refine codeAny_extend_loopS walk hn _ nf _ xs.size 0 _ _ _ rfl (Nat.zero_le _) ⟨Nat.zero_le _, by rw [z0]; exact r1, l1⟩ g1 (ItemsOf.nil _) ?_
  intro t out c hm ht hi
  refine ⟨rfl, ?_⟩
  rw [Moved.eq_with hm, hN]
  refine done t.heap t.toks out c (fun b o hb e => ?_) (by rw [← hN]; exact ht) hi
  have hbN : b ≠ N := by rw [hN]; exact Nat.ne_of_lt (Heap.lt_size e)
  exact hm.heap b o (by simp [hb, hbN]) (keep b o hbN e)
end
end Z
namespace Z
noncomputable section
open PySem PySem.Calls PySem.Spec L2
open PyProof.Rows (Call_ args_cons args_nil)
/-- list(reversed(a list)) -/
def tListRev (K : PySem.W.Frag) (te : TE) : TE := fun σ H Q => te σ H fun x H1 => ∃ (p : Addr) (ys : List V), x = .ref p ∧ SqL K H1 p ys ∧ ∀ l, H1 l = none → Q (.ref l) (upd H1 l (.lst ys.reverse))
theorem back_vals {ys : List V} {us : List Value} {out : Array Value} (r : Vals ys us) (h : ItemsOf (fun i v => us.toArray[us.toArray.size - 1 - i]? = some v) out us.toArray.size) : Vals ys.reverse out.toList := RT.vals_rev r h
theorem pe_listRev {X : Cx} {e : Expr} {te : TE} {p p2 pos pos2 : Pos} (hc : X.calm = true) (hg : Gl X "list") (hm : X.mg "list" = none) (hg2 : Gl X "reversed") (hm2 : X.mg "reversed" = none) (he : PE X e te) (hs : starEach [e] X.env = (false, eval e X.env) :: starEach [] X.env := by rfl)
    (hs2 : starEach [.Call (.Name "reversed" p2) [e] [] pos2] X.env = (false, eval (.Call (.Name "reversed" p2) [e] [] pos2) X.env) :: starEach [] X.env := by rfl) : PE X (.Call (.Name "list" p) [.Call (.Name "reversed" p2) [e] [] pos2] [] pos) (tListRev X.K te) := by
  constructor
  intro pins s σ H Q I h
  refine Call_ (ld_blt I hg hm (show bootBuiltins "list" = some (.type "list") by decide +kernel) ?_)
  refine PyProof.Rows.callWith_type1 (args_cons (Call_ (ld_blt I hg2 hm2 PyProof.Rows.boot_reversed ?_)) hs2) hs2 rfl
  refine PyProof.Rows.callWith_type1 (args_cons (thn (he.run pins s σ H _ I h) ?_) hs) hs rfl
  rintro u t ⟨v, H1, J, r1, a, ys, rfl, hq, q⟩
  refine args_nil ?_
  obtain rfl : u = Value.ref a := r1
  obtain ⟨us, rv, pl, hz⟩ := J.list hq
  have hl := pl.isList
  obtain ⟨ol, hol, _⟩ := id hl
  have ha : a ≠ t.heap.objs.size := Nat.ne_of_lt (Heap.lt_size hol)
  have hn : us.toArray.size ≤ sizeLine := by rw [List.size_toArray, ← rv.length]; exact hz
  refine call_reversed_list hl (args_nil ?_)
  obtain ⟨B, hB⟩ : ∃ B, B = t.heap.push (revObj a ((us.toArray.size : Int) - 1)) := ⟨_, rfl⟩
  rw [← hB]
  have kB : ∀ b o, t.heap.get? b = some o → B.get? b = some o := fun b o e => by rw [hB]; exact Heap.get?_push_of_some _ e
  have J2 : Inv X pins σ H1 { t with heap := B } := J.kept (t' := t.toks) kB
  have fp := J.fpOk (H' := H1) (b := t.heap.objs.size) (Nat.le_refl _) (J.hok.fresh (Nat.le_refl _))
  have rB : B.IsRevIter t.heap.objs.size a ((us.toArray.size : Int) - 1) := ⟨_, by rw [hB]; exact Heap.get?_push_size _ rfl, rfl, rfl⟩
  have lB : B.IsList a us.toArray := by rw [hB]; exact hl.push _
  refine list_of_rev (s := { t with heap := B }) (J.ok.hd hc) rB lB ha hn fun h' tk out c hk hN hi => ?_
  refine ⟨.ref B.objs.size, upd H1 B.objs.size (.lst ys.reverse), ?_, rfl, q _ (J2.hok.fresh (Nat.le_refl _))⟩
  refine J2.turnedNew (ch := [t.heap.objs.size]) (t' := tk) (fun b o hb e => hk b o (by simpa using hb) e) (fun b hb => ?_) (Nat.le_refl _) ⟨by rw [List.length_reverse]; exact hz, out.toList, c, back_vals rv hi, ?_⟩
  · rw [List.mem_singleton.mp hb]; exact fp
  · rw [Array.toArray_toList]; exact hN
variable {ct : CT} {Wx : XW} {W S0 S H H' : Hp} {ρ : Env} {σ σ0 : St} {t u : T} {ts us tm : List T} {v w : V} {vs ws vm : List V} {as bs : List Addr} {i : Nat} {d : D}
def eListRev (a : EM) : EM := fun ρ => (a ρ).bnd fun t ρ => optO (t.d.lstO.bind fun ds => some (.ol (ds.reverse.map .sh))) ρ
@[simp ↓] theorem eListRev_run (a : EM) (ρ : Env) : eListRev a ρ = (a ρ).bnd fun t ρ => optO (t.d.lstO.bind fun ds => some (.ol (ds.reverse.map .sh))) ρ := rfl
theorem se_listRev {K : PySem.W.Frag} {ta : TE} {a : EM} (ha : SE ct Wx ta a) : SE ct Wx (tListRev K ta) (eListRev a) := fun W S0 ρ σ tm vm H Q g k => by
  refine ha W S0 ρ σ tm vm H _ g ((Out.P_bnd.mp k).mono (fun t ρ1 k1 v H1 g1 => ?_) fun _ _ h => h)
  obtain ⟨z, e, k1⟩ := P_opt k1
  obtain ⟨ds, e1, e⟩ := some_bind e
  cases e
  have g2 := g1.frz
  have e3 : t.d = .lst ds := by
    revert e1
    cases t.d <;> intro e1 <;> first | (cases e1; done) | (cases e1; rfl)
  rw [e3] at g2
  obtain ⟨p, xs, rfl, h1, h2, g3⟩ := g2.els (ts := ds.map .sh) rfl
  refine ⟨p, xs, rfl, .of h1, fun q hq => k1 _ _ ?_⟩
  have g4 := g3.sub (us := ds.reverse.map .sh) (ws := xs.reverse) h2 fun S H' b hb => by
    obtain ⟨rfl, hr⟩ := Rtl.ofShs hb
    exact ⟨[], Rtl.toShs hr.rev, fun h => h, fun x h => h⟩
  exact g4.newL (by simpa using h2) hq
end
end Z

namespace Z
open PySem PySem.SeqAt
open AutoSeq1 (wpAny_loadPart')
open MeetsSeq MeetsSeq2 MeetsSeq3 SeqRoads2
/-- y > x gives k, and nothing changes -/
def Above (A : Around) (s : Shared) (y x : Value) (k : Bool) : Prop := ∀ (prog : Program) (w : World) (E Q : Value → Shared → Prop), Q (.bool k) s → wpAny (model prog w) A (richCompare .Gt y x) Q E s
/-- what the places from i on say: where the items differ the first such place, else the lengths -/
def aboveFrom (e r : Nat → Bool) (fin : Bool) (i m : Nat) : Bool := firstLt e r fin ((List.range m).drop i)
theorem aboveFrom_end {e r : Nat → Bool} {fin : Bool} {i m : Nat} (h : m ≤ i) : aboveFrom e r fin i m = fin := by
  unfold aboveFrom
  rw [List.drop_of_length_le (by simpa using h)]
  rfl
theorem aboveFrom_step {e r : Nat → Bool} {fin : Bool} {i m : Nat} (h : i < m) : aboveFrom e r fin i m = if e i = true then aboveFrom e r fin (i + 1) m else r i := by
  unfold aboveFrom
  have q : (List.range m).drop i = i :: (List.range m).drop (i + 1) := by
    rw [List.drop_eq_getElem_cons (by simpa using h)]
    simp
  rw [q]
  rfl
theorem above_loop (u v : Addr) (xs ys : Array Value) (n m : Nat) (du dv : Option Addr) (su sv : Array (Option Value)) (e r : Nat → Bool) (k : Nat) : ∀ i : Nat, min xs.size ys.size - i = k →
    Meets (Builtin.«list.__eq__.loop» ⟨[.ref u, .ref v, rawInt i, rawInt 4], []⟩) (fun A R s => s.heap.get? u = some { cls := .type "list", dict := du, data := .seq xs n, slots := su } ∧ s.heap.get? v = some { cls := .type "list", dict := dv, data := .seq ys m, slots := sv } ∧
      (∀ j (hx : j < xs.size) (hy : j < ys.size), EqAt A.in1 s xs[j] ys[j] (e j)) ∧ (∀ j (hx : j < xs.size) (hy : j < ys.size), e j = false → Above A.in1 s xs[j] ys[j] (r j)) ∧
      R (.ok (.ret (.bool (aboveFrom e r (decide (ys.size < xs.size)) i (min xs.size ys.size))))) s) := by
  induction k with
  | zero =>
    intro i hk prog w A R s hyp
    obtain ⟨hp, g, d, tk, os⟩ := s
    obtain ⟨hu, hv, he, hr, fin⟩ := hyp
    rw [aboveFrom_end (by omega)] at fin
    wp_walk using wpAny_loadPart' hu, wpAny_loadPart' hv
    by_cases c : xs.size ≤ i
    · have a1 : xs[((i : Nat) : Int).toNat]? = none := by simp; omega
      rw [a1]
      wp_walk using wpAny_loadPart' hu, wpAny_loadPart' hv
      exact fin
    · have a1 : xs[((i : Nat) : Int).toNat]? = some (xs[i]'(by omega)) := by simp [show i < xs.size by omega]
      have a2 : ys[((i : Nat) : Int).toNat]? = none := by simp; omega
      rw [a1, a2]
      wp_walk using wpAny_loadPart' hu, wpAny_loadPart' hv
      exact fin
  | succ k ih =>
    intro i hk prog w A R s hyp
    obtain ⟨hp, g, d, tk, os⟩ := s
    obtain ⟨hu, hv, he, hr, fin⟩ := hyp
    rw [aboveFrom_step (by omega)] at fin
    wp_walk using wpAny_loadPart' hu, wpAny_loadPart' hv
    have c1 : i < xs.size := by omega
    have c2 : i < ys.size := by omega
    have a1 : xs[((i : Nat) : Int).toNat]? = some (xs[i]'c1) := by simp [c1]
    have a2 : ys[((i : Nat) : Int).toNat]? = some (ys[i]'c2) := by simp [c2]
    have up : ((i : Int) + 1) = ((i + 1 : Nat) : Int) := by omega
    rw [a1, a2]
    refine wpAny_bind (he i c1 c2 prog w _ _ ?_)
    cases q : e i with
    | true =>
      rw [q, if_pos rfl] at fin
      wp_walk
      rw [up]
      refine ⟨plainId_quiet plain_eq_loop _, codeAny_builtin entry_eq_loop ?_⟩
      rw [Around.under_plainId plain_eq_loop _]
      exact ih (i + 1) (by omega) prog w A R _ ⟨hu, hv, he, hr, fin⟩
    | false =>
      rw [q, if_neg Bool.false_ne_true] at fin
      have gi := hr i c1 c2 q prog w
      wp_walk using wpAny_loadPart' hu, wpAny_loadPart' hv
      rw [a1, a2]
      wp_walk using gi
      exact fin
theorem above_lists_meets (u v : Addr) (xs ys : Array Value) (n m : Nat) (du dv : Option Addr) (su sv : Array (Option Value)) (e r : Nat → Bool) :
    Meets (Builtin.«list.__gt__» ⟨[.ref u, .ref v], []⟩) (fun A R s => s.heap.get? u = some { cls := .type "list", dict := du, data := .seq xs n, slots := su } ∧ s.heap.get? v = some { cls := .type "list", dict := dv, data := .seq ys m, slots := sv } ∧
      (∀ j (hx : j < xs.size) (hy : j < ys.size), EqAt A.in1 s xs[j] ys[j] (e j)) ∧ (∀ j (hx : j < xs.size) (hy : j < ys.size), e j = false → Above A.in1 s xs[j] ys[j] (r j)) ∧
      R (.ok (.ret (.bool (aboveFrom e r (decide (ys.size < xs.size)) 0 (min xs.size ys.size))))) s) := by
  intro prog w A R s hyp
  obtain ⟨hp, g, d, tk, os⟩ := s
  obtain ⟨hu, hv, he, hr, fin⟩ := hyp
  have isl := AutoSeq1.sub_list_list
  wp_walk using wpAny_loadPart' hu, wpAny_loadPart' hv
  refine ⟨plainId_quiet plain_eq_loop _, codeAny_builtin entry_eq_loop ?_⟩
  rw [Around.under_plainId plain_eq_loop _]
  exact above_loop u v xs ys n m du dv su sv e r _ 0 rfl prog w A R _ ⟨hu, hv, he, hr, fin⟩
theorem Above.lists {A : Around} {s : Shared} {u v : Addr} {xs ys : Array Value} {e r : Nat → Bool} (hu : s.heap.IsList u xs) (hv : s.heap.IsList v ys) (room : A.units < cLine) (he : ∀ j (hx : j < xs.size) (hy : j < ys.size), EqAt A.in1 s xs[j] ys[j] (e j))
    (hr : ∀ j (hx : j < xs.size) (hy : j < ys.size), e j = false → Above A.in1 s xs[j] ys[j] (r j)) : Above A s (.ref u) (.ref v) (aboveFrom e r (decide (ys.size < xs.size)) 0 (min xs.size ys.size)) := fun prog w E Q fin => by
  obtain ⟨⟨c1, d1, x1, s1⟩, o1, k1, n1, b1⟩ := id hu
  obtain ⟨⟨c2, d2, x2, s2⟩, o2, k2, n2, b2⟩ := id hv
  simp only at k1 b1 k2 b2
  subst k1 b1 k2 b2
  refine richCompare_meets_room (op := .Gt) ⟨_, o1, rfl⟩ ⟨_, o2, rfl⟩ F.slot_list_gt F.entry_list_gt ?_ (above_lists_meets u v xs ys n1 n2 d1 d2 s1 s2 e r) ?_ room
  · exact F.args_list_gt_2 _ _
  · exact ⟨o1, o2, he, hr, (fun x => nomatch x), fin⟩
end Z

namespace Z
noncomputable section
open PySem PySem.SeqAt L2
theorem drop_at {α : Type} {l : List α} {i : Nat} (h : i < l.length) : l.drop i = l[i] :: l.drop (i + 1) := List.drop_eq_getElem_cons h
theorem above_ints (ns ms : List Int) : ∀ k i, min ns.length ms.length - i = k → aboveFrom (fun j => decide (ns.getD j 0 = ms.getD j 0)) (fun j => decide (ms.getD j 0 < ns.getD j 0)) (decide (ms.length < ns.length)) i (min ns.length ms.length) = if i ≤ min ns.length ms.length then decide (ms.drop i < ns.drop i) else decide (ms.length < ns.length)
  | 0, i, h => by
    rw [aboveFrom_end (by omega)]
    split
    · have : i = min ns.length ms.length := by omega
      by_cases c : ms.length < ns.length
      · have h1 : ms.drop i = [] := List.drop_of_length_le (by omega)
        have h2 : ([] : List Int) < ns.drop i := by rw [drop_at (l := ns) (i := i) (by omega)]; exact List.nil_lt_cons _ _
        rw [h1]
        simp [c, h2]
      · have h1 : ns.drop i = [] := List.drop_of_length_le (by omega)
        rw [h1]
        simp [c]
    · rfl
  | k + 1, i, h => by
    have c1 : i < ns.length := by omega
    have c2 : i < ms.length := by omega
    have ih := above_ints ns ms k (i + 1) (by omega)
    rw [if_pos (by omega)] at ih
    rw [aboveFrom_step (by omega), ih, if_pos (show i ≤ min ns.length ms.length by omega), drop_at c1, drop_at c2]
    have e1 : ns.getD i 0 = ns[i] := by rw [List.getD_eq_getElem?_getD, List.getElem?_eq_getElem c1]; rfl
    have e2 : ms.getD i 0 = ms[i] := by rw [List.getD_eq_getElem?_getD, List.getElem?_eq_getElem c2]; rfl
    simp only [e1, e2]
    clear ih h e1 e2
    generalize ns[i] = a
    generalize ms[i] = b
    generalize ns.drop (i + 1) = A
    generalize ms.drop (i + 1) = B
    by_cases q : a = b
    · simp [q]
    · have q' : ¬ b = a := fun z => q z.symm
      simp [q, q', List.cons_lt_cons_iff]
def rGtD (K : PySem.W.Frag) : R2 := fun x y H Q => (∃ i j, x = .int i ∧ y = .int j ∧ Q (.bl (decide (j < i))) H) ∨
  ∃ (a b : Addr) (ns ms : List Int), x = .ref a ∧ y = .ref b ∧ SqL K H a (ns.map V.int) ∧ SqL K H b (ms.map V.int) ∧ Q (.bl (decide (ms < ns))) H
theorem int_of_vals {ns : List Int} {us : List Value} (r : Vals (ns.map V.int) us) {j : Nat} (h : j < us.length) : ∃ t, us[j] = Value.int (ns.getD j 0) t := by
  have hl := r.length
  rw [List.length_map] at hl
  obtain ⟨u, e, q⟩ := Vals.get r (i := j) (x := V.int (ns.getD j 0)) (by
    rw [List.getElem?_map, List.getD_eq_getElem?_getD, List.getElem?_eq_getElem (by omega)]; rfl)
  obtain ⟨t, rfl⟩ := q
  exact ⟨t, (List.getElem?_eq_some_iff.mp e).2⟩
theorem op_gtD {X : Cx} (hu : X.A.units + 65 < cLine) : OpR X (compareOp .Gt) (rGtD X.K) := by
  intro pins s σ H x y v u Q I rx ry h
  rcases h with ⟨i, j, rfl, rfl, q⟩ | ⟨a, b, ns, ms, rfl, rfl, ha, hb, q⟩
  · obtain ⟨t, rfl⟩ := rx
    obtain ⟨t', rfl⟩ := ry
    exact PyProof.Rows.gt_int ⟨.bl _, H, I, rfl, q⟩
  · obtain rfl : v = Value.ref a := rx
    obtain rfl : u = Value.ref b := ry
    obtain ⟨us, r1, p1, _⟩ := I.list ha
    obtain ⟨ws, r2, p2, _⟩ := I.list hb
    have l1 := r1.length
    have l2 := r2.length
    rw [List.length_map] at l1 l2
    have R := Above.lists (A := X.A) (s := s) (e := fun j => decide (ns.getD j 0 = ms.getD j 0)) (r := fun j => decide (ms.getD j 0 < ns.getD j 0)) p1.isList p2.isList (by omega) (fun j hx hy => by
      obtain ⟨t, e1⟩ := int_of_vals r1 (j := j) (by simpa using hx)
      obtain ⟨t', e2⟩ := int_of_vals r2 (j := j) (by simpa using hy)
      simp only [List.getElem_toArray, e1, e2]
      have z : (ns.getD j 0 == ms.getD j 0) = decide (ns.getD j 0 = ms.getD j 0) := by rw [Bool.eq_iff_iff]; simp
      rw [← z]
      exact SeqAt.EqAt.int_int _ _ _ _) (fun j hx hy _ => by
      obtain ⟨t, e1⟩ := int_of_vals r1 (j := j) (by simpa using hx)
      obtain ⟨t', e2⟩ := int_of_vals r2 (j := j) (by simpa using hy)
      simp only [List.getElem_toArray, e1, e2]
      exact fun prog w E Q h => PyProof.Rows.gt_int h)
    have z := above_ints ns ms _ 0 rfl
    rw [if_pos (Nat.zero_le _)] at z
    simp only [List.size_toArray, ← l1, ← l2] at R
    rw [z] at R
    exact R X.prog X.w X.xe (EP X pins σ Q) ⟨.bl _, H, I, rfl, by simpa using q⟩
def intsD : List D → Option (List Int)
  | [] => some []
  | .int i :: l => (intsD l).map (i :: ·)
  | _ => none
theorem intsD_map : ∀ l : List Int, intsD (l.map .int) = some l
  | [] => rfl
  | i :: l => by simp only [List.map_cons, intsD, intsD_map l]; rfl
theorem intsD_some : ∀ {l : List D} {is : List Int}, intsD l = some is → l = is.map .int
  | [], _, h => by cases h; rfl
  | d :: l, is, h => by
    cases d <;> first | (cases h; done) | skip
    simp only [intsD] at h
    obtain ⟨js, e, rfl⟩ := Option.map_eq_some_iff.mp h
    rw [intsD_some e]
    rfl
def oGtD : D → D → Option D := fun x y => match x, y with
  | .int i, .int j => some (.bl (decide (j < i)))
  | .lst l, .lst m => (intsD l).bind fun ns => (intsD m).map fun ms => .bl (decide (ms < ns))
  | _, _ => none
theorem rpl_ints {S : Hp} : ∀ {is : List Int} {vs : List V}, Rpl S (is.map D.int) vs → vs = is.map V.int
  | [], _, h => h
  | i :: is, _, ⟨v, r, e, h1, h2⟩ => by
    rw [e, rpl_ints h2]
    cases h1
    rfl
theorem os_gtD {K : PySem.W.Frag} : OpS (rGtD K) oGtD := fun H dx dy x y d hx hy e Q q => by
  cases dx <;> cases dy <;> first | (cases e; done) | skip
  · cases e
    cases hx
    cases hy
    exact .inl ⟨_, _, rfl, rfl, q _ H (fun _ _ h => h) rfl⟩
  · obtain ⟨ns, e1, e⟩ := some_bind e
    obtain ⟨ms, e2, rfl⟩ := Option.map_eq_some_iff.mp e
    obtain ⟨a, vs, rfl, h1, h2⟩ := hx
    obtain ⟨b, ws, rfl, h3, h4⟩ := hy
    rw [intsD_some e1] at h2
    rw [intsD_some e2] at h4
    have := rpl_ints h2
    subst this
    have := rpl_ints h4
    subst this
    exact .inr ⟨a, b, ns, ms, rfl, rfl, .of h1, .of h3, q _ H (fun _ _ h => h) rfl⟩
@[simp] theorem gtD_int (a b : Int) : oGtD (.int a) (.int b) = some (.bl (decide (b < a))) := rfl
theorem gtD_ints (a b : List Int) : oGtD (.lst (a.map .int)) (.lst (b.map .int)) = some (.bl (decide (b < a))) := by
  simp [oGtD, intsD_map]
end
end Z

namespace Z
noncomputable section
open PySem L2
variable {ct : CT} {Wx : XW} {W S0 S H H' : Hp} {ρ : Env} {σ σ0 : St} {t u : T} {ts us tm its : List T} {v w : V} {vs ws vm : List V} {as bs : List Addr} {i : Nat} {d : D} {pin : List Nat} {D0 : Ends} {J : It}
theorem wipe_of_sub {σ σ2 : St} {a b : List Nat} (hs : ∀ i ∈ b, i ∈ a) (h : wipe σ2 b = wipe σ b) : wipe σ2 a = wipe σ a := by
  rw [← wipe_sub (σ := σ2) hs, ← wipe_sub (σ := σ) hs, h]
theorem sg_sub {slots slots0 : List Nat} {g : TG} {b : BM} (hs : ∀ i ∈ slots0, i ∈ slots) (h : SG slots0 g b) : SG slots g b := fun W S0 ρ σ tm vm H t v ρ' gx e Q q => h W S0 ρ σ tm vm H t v ρ' gx e Q fun σ' g' ew => q σ' g' (wipe_of_sub hs ew)
/-! ### a kid of an owned list or tuple, bound to a name of its own for a while -/
theorem GX.openKid {K : PySem.W.Frag} {R N j : Nat} {l : List T} (g : GX W S0 ρ σ tm vm H) (e : ρ[R]? = some (some t)) (ek : t.kidsO = some l) (ej : l[j]? = some u) (hN : R ≠ N) (hNl : N < ρ.length) :
    ∃ v w W1 S1, σ[R]? = some (some v) ∧ (∀ k, ixN l.length k = some j → ∀ (H1 : Hp) (Q : VK), Same H H1 → Q w H1 → rIx K v (.int k) H1 Q) ∧ GX W1 S1 ((ρ.set R none).set N (some u)) (σ.set N (some w)) tm vm H ∧
      ∀ ρ' σ' tm' vm' H' u', GX W1 S1 ρ' σ' tm' vm' H' → ρ'[R]? = some none → σ'[R]? = some (some v) → ρ'[N]? = some (some u') → σ'[N]? = some (some w) → GX W S0 ((ρ'.set N none).set R (some (t.putK j u'))) σ' tm' vm' H' := by
  obtain ⟨S, as, bs, g⟩ := g
  obtain ⟨v, b, c, d, e1, rfl, e3, mk, mk0⟩ := g.re.at e
  have nd := g.nd
  have fs := g.fs
  have fw := g.fw
  -- the list's own object, the kid, and the others
  obtain ⟨a, xs, w, b1, c1, d1, hv, hc, hw, kid, ix, back⟩ : ∃ (a : Addr) (xs : List V) (w : V) (b1 c1 d1 : List Addr), v = .ref a ∧ c = a :: (b1 ++ c1 ++ d1) ∧ xs[j]? = some w ∧ Rt S H u w c1 ∧
      (∀ k, ixN l.length k = some j → ∀ (H1 : Hp) (Q : VK), Same H H1 → Q w H1 → rIx K v (.int k) H1 Q) ∧
      ∀ S' H' u' c', Same S S' → (∀ x ∈ a :: (b1 ++ d1), H' x = H x) → Rt S' H' u' w c' → Rt S' H' (t.putK j u') v (a :: (b1 ++ c' ++ d1)) := by
    cases t with
    | sh d => cases ek
    | od ks l => cases ek
    | ol l0 =>
      cases ek
      obtain ⟨a, xs, c0, rfl, rfl, h1, h2⟩ := e3
      obtain ⟨w, b1, c1, d1, f1, rfl, f3, f4⟩ := h2.at ej
      refine ⟨a, xs, w, b1, c1, d1, rfl, rfl, f1, f3, fun k hk H1 Q es q => ?_, fun S' H' u' c' es hh hu => ?_⟩
      · exact .inl ⟨a, xs, k, w, rfl, rfl, .of (es _ _ h1), by unfold L2.atI; rw [h2.len, hk]; exact f1, q⟩
      · have q2 := f4 S' H' u' w c' es (fun x hx => hh x (by simp at hx ⊢; exact .inr hx)) hu
        rw [set_self f1] at q2
        exact ⟨a, xs, _, rfl, rfl, (hh a (by simp)).trans h1, q2⟩
    | ot l0 =>
      cases ek
      obtain ⟨a, xs, c0, rfl, rfl, h1, h2⟩ := e3
      obtain ⟨w, b1, c1, d1, f1, rfl, f3, f4⟩ := h2.at ej
      refine ⟨a, xs, w, b1, c1, d1, rfl, rfl, f1, f3, fun k hk H1 Q es q => ?_, fun S' H' u' c' es hh hu => ?_⟩
      · exact .inr (.inl ⟨a, xs, k, w, rfl, rfl, .of (es _ _ h1), by unfold L2.atI; rw [h2.len, hk]; exact f1, q⟩)
      · have q2 := f4 S' H' u' w c' es (fun x hx => hh x (by simp at hx ⊢; exact .inr hx)) hu
        rw [set_self f1] at q2
        exact ⟨a, xs, _, rfl, rfl, (hh a (by simp)).trans h1, q2⟩
  subst hv hc
  have hP : ∀ x ∈ a :: (b1 ++ d1), H x ≠ none := by
    have h0 := e3.there
    intro x hx
    exact h0 x (by grind)
  let W1 : Hp := fun x => if x ∈ a :: (b1 ++ d1) then H x else W x
  have w1P : ∀ x ∈ a :: (b1 ++ d1), W1 x = H x := fun x hx => if_pos hx
  have w1N : ∀ x, x ∉ a :: (b1 ++ d1) → W1 x = W x := fun x hx => if_neg hx
  have r1 := mk0 S H (some (.ref a)) (fun _ _ h => h) (fun _ _ => rfl)
  rw [set_self e1] at r1
  have g1 : GX W1 S (ρ.set R none) σ (u :: tm) (w :: vm) H := by
    refine ⟨S, b ++ d, c1 ++ bs, fun _ _ h => h, g.sh, fun x o h => ?_, fun _ _ h => h, r1, ⟨w, vm, c1, bs, rfl, rfl, kid, g.rt⟩, by grind, by grind, fun x hx => ?_⟩
    · by_cases q : x ∈ a :: (b1 ++ d1)
      · rw [← w1P x q]; exact h
      · rw [w1N x q] at h; exact g.wh x o h
    · have q : x ∉ a :: (b1 ++ d1) := by grind
      rw [w1N x q]
      exact fw x (by grind)
  refine ⟨.ref a, w, W1, S, e1, ix, g1.putA N, fun ρ' σ' tm' vm' H' u' g2 f1 f2 f3 f4 => ?_⟩
  obtain ⟨S2, as2, bs2, g2⟩ := g2
  obtain ⟨w', b2, c2, d2, q1, rfl, q3, _, q5⟩ := g2.re.at f3
  rw [f4] at q1
  cases q1
  have nd2 := g2.nd
  have fs2 := g2.fs
  have fw2 := g2.fw
  have keep : ∀ x ∈ a :: (b1 ++ d1), H' x = H x := fun x hx => by
    have := same_at g2.wh (show W1 x ≠ none by rw [w1P x hx]; exact hP x hx)
    rw [this, w1P x hx]
  have nP : ∀ x ∈ a :: (b1 ++ d1), x ∉ b2 ++ c2 ++ d2 ++ bs2 := fun x hx h => by
    have := fw2 x h
    rw [w1P x hx] at this
    exact hP x hx this
  have ndP : (a :: (b1 ++ d1)).Nodup := by grind
  have hB := back S2 H' u' c2 g2.s0 keep q3
  have r2 := q5 S2 H' (some w) (fun _ _ h => h) (fun _ _ => rfl)
  rw [set_self f4] at r2
  have g3 : GX W S0 (ρ'.set N none) σ' (t.putK j u' :: tm') (.ref a :: vm') H' := by
    refine ⟨S2, b2 ++ d2, (a :: (b1 ++ c2 ++ d1)) ++ bs2, fun x o h => g2.s0 x o (g.s0 x o h), g2.sh, fun x o h => ?_, fun x hw hs => ?_, r2, ⟨.ref a, vm', _, bs2, rfl, rfl, hB, g2.rt⟩, ?_, fun x hx => ?_, fun x hx => ?_⟩
    · have q : x ∉ a :: (b1 ++ d1) := fun q => by
        rw [fw x (by grind)] at h; cases h
      exact g2.wh x o (by rw [w1N x q]; exact h)
    · have q : x ∉ a :: (b1 ++ d1) := fun q => hw (fw x (by grind))
      exact g.nw x hw (g2.nw x (by rw [w1N x q]; exact hw) hs)
    · have q : ((a :: (b1 ++ d1)) ++ (b2 ++ c2 ++ d2 ++ bs2)).Nodup := List.nodup_append.mpr ⟨ndP, nd2, fun x hx y hy e => nP x hx (by rw [e]; exact hy)⟩
      refine (List.Perm.nodup_iff (List.perm_iff_count.mpr fun x => ?_)).mp q
      simp only [List.count_append, List.count_cons]
      omega
    · by_cases q : x ∈ a :: (b1 ++ d1)
      · cases z : S2 x with
        | none => rfl
        | some o =>
          have := g2.nw x (by rw [w1P x q]; exact hP x q) (by rw [z]; simp)
          exact absurd (fs x (by grind)) this
      · exact fs2 x (by grind)
    · by_cases q : x ∈ a :: (b1 ++ d1)
      · exact fw x (by grind)
      · rw [← w1N x q]
        exact fw2 x (by grind)
  have hR : σ'[R]? = some (some (.ref a)) := f2
  exact g3.back hR
end
end Z

namespace Z
noncomputable section
open PySem L2
variable {ct : CT} {Wx : XW} {W S0 S H H' : Hp} {ρ : Env} {σ σ0 : St} {t u : T} {ts us tm : List T} {v w : V} {vs ws vm : List V} {as bs : List Addr} {i : Nat} {d : D} {pin : List Nat} {D0 : Ends}
/-! ### r = x[e]; then r changes: the kid is lent to r and put back at the end of the rest -/
def mOpen (R N : Nat) (e : EM) (b : SM) : SM := fun ρ => match ρ[R]? with
  | some (some _) => (e ρ).st fun q ρ1 => match q.d.intO, ρ1[R]? with
    | some k, some (some t) => match t.kidsO with
      | some l => match ixN l.length k with
        | some j => match l[j]? with
          | some u => if N < ρ1.length then (match b ((ρ1.set R none).set N (some u)) with
            | .nx ρ2 => match ρ2[R]?, ρ2[N]? with
              | some none, some (some u') => .nx ((ρ2.set N none).set R (some (t.putK j u')))
              | _, _ => .bad
            | _ => .bad) else .bad
          | none => .bad
        | none => .bad
      | none => .bad
    | _, _ => .bad
  | _ => .bad
theorem ss_open {K : PySem.W.Frag} {R N : Nat} {te : TE} {e : EM} {tb : TS} {b : SM} (he : SE ct Wx te e) (hb : SS ct Wx (R :: N :: pin) tb b) (hR : R ≠ N) (hN : N ∉ pin) : SS ct Wx pin (tSeq (tAsg (tOp (rIx K) (tVar R) te) (gName N)) tb) (mOpen R N e b) := fun W S0 σ0 ρ σ H D g p k => by
  unfold mOpen at k
  split at k
  case h_2 => exact k.elim
  rename_i t0 e0
  obtain ⟨v0, hv0, _⟩ := g.take e0
  refine ⟨v0, hv0, he W S0 ρ σ [] [] H _ g ((SK.st p k).mono (fun q ρ1 k1 y H1 g1 => ?_) fun _ _ h => h)⟩
  split at k1
  case h_2 => exact k1.elim
  rename_i kk t e1 e2
  split at k1
  case h_2 => exact k1.elim
  rename_i l e3
  split at k1
  case h_2 => exact k1.elim
  rename_i j e4
  split at k1
  case h_2 => exact k1.elim
  rename_i u e5
  have r := g1.tmp
  rw [intO_int e1] at r
  cases r
  by_cases hl : N < ρ1.length
  case neg => rw [if_neg hl] at k1; exact k1.elim
  rw [if_pos hl] at k1
  obtain ⟨v, w, W1, S1, f1, f2, f3, f4⟩ := g1.pop1.openKid (K := K) e2 e3 e5 hR hl
  rw [hv0] at f1
  cases f1
  refine f2 kk e4 H1 _ (fun _ _ h => h) ?_
  have hσ : N < σ.length := by rw [g1.lenE]; exact hl
  have hRN : (σ.set N (some w))[R]? = some (some v0) := by rw [List.getElem?_set_ne (fun e => hR e.symm)]; exact hv0
  have hNN : (σ.set N (some w))[N]? = some (some w) := by rw [List.getElem?_set_self hσ]
  refine hb W1 S1 (σ.set N (some w)) _ (σ.set N (some w)) H1 D f3 Pin.refl ?_
  generalize b ((ρ1.set R none).set N (some u)) = o at k1
  cases o with
  | nx ρ2 =>
    simp only at k1
    split at k1
    case h_2 => exact k1.elim
    rename_i u' h1 h2
    intro σ2 H2 g2 p2
    refine k1 σ2 H2 (f4 ρ2 σ2 [] [] H2 u' g2 h1 ((p2 R (by simp)).trans hRN) h2 ((p2 N (by simp)).trans hNN)) fun i hi => ?_
    rw [p2 i (by simp [hi]), List.getElem?_set_ne (fun e => hN (by rw [e]; exact hi))]
    exact p i hi
  | _ => exact k1.elim
/-- x[e] = c, c a scalar read ahead, e with effects -/
def mStoreE (i : Nat) (c : PM) (e : EM) : SM := fun ρ => match c ρ, ρ[i]? with
  | some d, some (some (.ol _)) => if d.scal = true then (e ρ).st fun q ρ1 => match ρ1[i]?, q.d.intO with
    | some (some (.ol ts)), some k => match ixN ts.length k with
      | some j => .nx (ρ1.set i (some (.ol (ts.set j (.sh d)))))
      | none => .bad
    | _, _ => .bad else .bad
  | _, _ => .bad
theorem ss_storeE {i : Nat} {tc te : TE} {c : PM} {e : EM} (hc : SP tc c) (he : SE ct Wx te e) : SS ct Wx pin (tAsg tc (gSub (tVar i) te rSetL)) (mStoreE i c e) := fun W S0 σ0 ρ σ H D g p k => by
  unfold mStoreE at k
  split at k
  case h_2 => exact k.elim
  rename_i d ts0 e1 e0
  obtain ⟨hs, k⟩ := SK_ite k
  refine hc ρ σ H g.rv _ e1 _ fun z H0 es0 r0 => ?_
  have g0 := g.ext es0
  obtain ⟨a0, xs0, ea, h0, _⟩ := g0.refL e0
  refine ⟨.ref a0, ea, he W S0 ρ σ [] [] H0 _ g0 ((SK.st p k).mono (fun q ρ1 k1 y H1 g1 => ?_) fun _ _ h => h)⟩
  split at k1
  case h_2 => exact k1.elim
  rename_i ts kk e2 e3
  split at k1
  case h_2 => exact k1.elim
  rename_i j e4
  have r := g1.tmp
  rw [intO_int e3] at r
  cases r
  obtain ⟨x, hx1, g2⟩ := g1.pop1.take e2
  rw [ea] at hx1
  cases hx1
  obtain ⟨a, xs, q5, h1, h2, mk⟩ := g2.mutL
  cases q5
  refine ⟨a0, xs, kk, j, rfl, rfl, h1, by rw [h2]; exact e4, ?_⟩
  have hj : j < ts.length := (ixN_seq e4).2.1
  have g3 := mk (ts.set j (.sh d)) [] (xs.set j z) [] (fun S H b c hb hc => by
    obtain ⟨h3, rfl⟩ := hc
    obtain ⟨w, b1, d1, d2, q1, rfl, q2, q3⟩ := hb.at (List.getElem?_eq_getElem hj)
    exact ⟨b1 ++ [] ++ d2, [], q3 S H (.sh d) z [] (fun _ _ h => h) (fun _ _ => rfl) ⟨rfl, r0.scal hs⟩, ⟨rfl, rfl⟩, by grind, by grind⟩)
  have g4 := g3.back ea
  rw [List.set_set] at g4
  exact k1 _ _ g4 p
end
end Z

namespace Z
noncomputable section
open PySem L2
variable {ct : CT} {Wx : XW} {W S0 S H H' : Hp} {ρ : Env} {σ σ0 : St} {t u : T} {l ts us tm its : List T} {v w : V} {vs ws vm : List V} {as bs : List Addr} {i : Nat} {d : D} {pin : List Nat} {D0 : Ends} {J : It}
/-! ### walks that lend each kid to a name and take it back -/
theorem GX.swap {A B : List T} {vA vB : List V} (g : GX W S0 ρ σ (A ++ B) (vA ++ vB) H) (e : vA.length = A.length) (f : vB.length = B.length) : GX W S0 ρ σ (B ++ A) (vB ++ vA) H := by
  have g1 : GX W S0 ρ σ ((A ++ B) ++ []) ((vA ++ vB) ++ []) H := by simpa using g
  have g2 := g1.sub (us := B ++ A) (ws := vB ++ vA) (by simp [e, f]) fun S H b hb => by
    obtain ⟨c, d, rfl, h1, h2⟩ := hb.split e
    exact ⟨d ++ c, h2.append h1, by grind, by grind⟩
  simpa using g2
/-- the temporaries are set aside -/
theorem GX.hide (g : GX W S0 ρ σ tm vm H) : ∃ W1 S1, GX W1 S1 ρ σ [] [] H ∧ ∀ ρ' σ' H', GX W1 S1 ρ' σ' [] [] H' → GX W S0 ρ' σ' tm vm H' := by
  obtain ⟨S, as, bs, g⟩ := g
  have nd := g.nd
  have fs := g.fs
  have fw := g.fw
  have hP : ∀ x ∈ bs, H x ≠ none := g.rt.there
  let W1 : Hp := fun x => if x ∈ bs then H x else W x
  have w1P : ∀ x ∈ bs, W1 x = H x := fun x hx => if_pos hx
  have w1N : ∀ x, x ∉ bs → W1 x = W x := fun x hx => if_neg hx
  refine ⟨W1, S, ⟨S, as, [], fun _ _ h => h, g.sh, fun x o h => ?_, fun _ _ h => h, g.re, ⟨rfl, rfl⟩, by grind, by grind, fun x hx => ?_⟩, fun ρ' σ' H' g2 => ?_⟩
  · by_cases q : x ∈ bs
    · rw [← w1P x q]; exact h
    · rw [w1N x q] at h; exact g.wh x o h
  · have q : x ∉ bs := by grind
    rw [w1N x q]
    exact fw x (by grind)
  obtain ⟨S2, as2, bs2, g2⟩ := g2
  obtain ⟨_, rfl⟩ := g2.rt
  have nd2 := g2.nd
  have fs2 := g2.fs
  have fw2 := g2.fw
  rw [List.append_nil] at nd2
  have keep : ∀ x ∈ bs, H' x = H x := fun x hx => by
    have := same_at g2.wh (show W1 x ≠ none by rw [w1P x hx]; exact hP x hx)
    rw [this, w1P x hx]
  have dis : ∀ x ∈ as2, x ∉ bs := fun x hx hb => by
    have := fw2 x (by simp [hx])
    rw [w1P x hb] at this
    exact hP x hb this
  refine ⟨S2, as2, bs, fun x o h => g2.s0 x o (g.s0 x o h), g2.sh, fun x o h => ?_, fun x hw hs => ?_, g2.re, g.rt.mono g2.s0 keep, ?_, fun x hx => ?_, fun x hx => ?_⟩
  · have q : x ∉ bs := fun q => by rw [fw x (by simp [q])] at h; cases h
    exact g2.wh x o (by rw [w1N x q]; exact h)
  · have q : x ∉ bs := fun q => hw (fw x (by simp [q]))
    exact g.nw x hw (g2.nw x (by rw [w1N x q]; exact hw) hs)
  · exact List.nodup_append.mpr ⟨nd2, (List.nodup_append.mp nd).2.1, fun x hx y hy e => dis x hx (by rw [e]; exact hy)⟩
  · by_cases q : x ∈ bs
    · cases z : S2 x with
      | none => rfl
      | some o =>
        have := g2.nw x (by rw [w1P x q]; exact hP x q) (by rw [z]; simp)
        exact absurd (fs x (by simp [q])) this
    · exact fs2 x (by grind)
  · by_cases q : x ∈ bs
    · exact fw x (by simp [q])
    · rw [← w1N x q]
      exact fw2 x (by grind)
def T.setK : T → List T → T
  | .ol _, l => .ol l
  | .ot _, l => .ot l
  | t, _ => t
@[simp] theorem setK_ol (l m : List T) : (T.ol l).setK m = .ol m := rfl
@[simp] theorem setK_ot (l m : List T) : (T.ot l).setK m = .ot m := rfl
/-- the kids of an owned temporary, and how they are gathered again -/
theorem GX.explode (g : GX W S0 ρ σ (t :: tm) (v :: vm) H) (ek : t.kidsO = some l) : ∃ a xs W1 S1, v = .ref a ∧ (H a = some (.lst xs) ∨ H a = some (.tup xs)) ∧ W1 a = H a ∧ xs.length = l.length ∧ GX W1 S1 ρ σ (l ++ tm) (xs ++ vm) H ∧
    ∀ ρ' σ' tm' vm' H' l', l'.length = l.length → GX W1 S1 ρ' σ' (l' ++ tm') (xs ++ vm') H' → GX W S0 ρ' σ' (t.setK l' :: tm') (v :: vm') H' := by
  obtain ⟨S, as, bs, g⟩ := g
  obtain ⟨v', r, c1, c2, h3, rfl, h4, h6⟩ := g.rt
  cases h3
  have nd := g.nd
  have fs := g.fs
  have fw := g.fw
  obtain ⟨a, xs, b, o, rfl, rfl, hH, ho, h5, bk⟩ : ∃ (a : Addr) (xs : List V) (b : List Addr) (o : HO), v = .ref a ∧ c1 = a :: b ∧ H a = some o ∧ (o = .lst xs ∨ o = .tup xs) ∧ Rtl S H l xs b ∧ ∀ S' H' l' b', H' a = some o → Rtl S' H' l' xs b' → Rt S' H' (t.setK l') (.ref a) (a :: b') := by
    cases t with
    | sh d => cases ek
    | od ks l => cases ek
    | ol l0 =>
      cases ek
      obtain ⟨a, xs, b, rfl, rfl, h1, h2⟩ := h4
      exact ⟨a, xs, b, _, rfl, rfl, h1, .inl rfl, h2, fun S' H' l' b' q1 q2 => ⟨a, xs, b', rfl, rfl, q1, q2⟩⟩
    | ot l0 =>
      cases ek
      obtain ⟨a, xs, b, rfl, rfl, h1, h2⟩ := h4
      exact ⟨a, xs, b, _, rfl, rfl, h1, .inr rfl, h2, fun S' H' l' b' q1 q2 => ⟨a, xs, b', rfl, rfl, q1, q2⟩⟩
  have hSa : S a = none := fs a (by simp)
  have hWa : W a = none := fw a (by simp)
  have sW : ∀ x, x ≠ a → also W H a x = W x := fun x h => also_ne h
  have wSame : Same W (also W H a) := fun x o h => by
    rw [sW x (by rintro rfl; rw [hWa] at h; cases h)]; exact h
  refine ⟨a, xs, also W H a, S, rfl, by rcases ho with rfl | rfl; exact .inl hH; exact .inr hH, also_at, h5.len, ?_, fun ρ' σ' tm' vm' H' l' hl' g' => ?_⟩
  · refine ⟨S, as, b ++ c2, fun _ _ h => h, g.sh, fun x o h => ?_, fun _ _ h => h, g.re, h5.append h6, by grind, fun x hx => fs x (by grind), fun x hx => ?_⟩
    · by_cases q : x = a
      · subst q; rw [also_at] at h; exact h
      · rw [sW x q] at h; exact g.wh x o h
    · rw [sW x (by rintro rfl; grind)]; exact fw x (by grind)
  · obtain ⟨S', as', bs', g'⟩ := g'
    obtain ⟨b', c', rfl, q1, q2⟩ := g'.rt.split (show xs.length = l'.length by rw [hl']; exact h5.len)
    have hHa : H' a = some o := g'.wh a _ (by rw [also_at]; exact hH)
    have hS'a : S' a = none := by
      cases q : S' a with
      | none => rfl
      | some o' => exact absurd hSa (g'.nw a (by rw [also_at, hH]; simp) (by rw [q]; simp))
    have nd' := g'.nd
    have fw' := g'.fw
    have fs' := g'.fs
    have hne : ∀ x ∈ as' ++ (b' ++ c'), x ≠ a := fun x hx q => by
      have := fw' x hx
      rw [q, also_at, hH] at this; cases this
    refine ⟨S', as', (a :: b') ++ c', fun x o h => g'.s0 x o (g.s0 x o h), g'.sh, fun x o h => g'.wh x o (wSame x o h), fun x h k => ?_, g'.re, ⟨.ref a, vm', a :: b', c', rfl, rfl, bk S' H' l' b' hHa q1, q2⟩, by grind, by grind, fun x hx => ?_⟩
    · refine g.nw x h (g'.nw x ?_ k)
      intro q
      cases hq : W x with
      | none => exact h hq
      | some o => rw [wSame x o hq] at q; cases q
    · by_cases q : x = a
      · rw [q]; exact hWa
      · have := fw' x (by grind)
        rw [sW x q] at this; exact this
/-- the walk over kids: what they and the names are after it -/
def forM (N : Nat) (body : SM) : List T → Env → Option (List T × Env)
  | [], ρ => some ([], ρ)
  | u :: us, ρ => match body (ρ.set N (some u)) with
    | .nx ρ2 => match ρ2[N]? with
      | some (some u') => (forM N body us (ρ2.set N none)).map fun p => (u' :: p.1, p.2)
      | _ => none
    | _ => none
theorem forM_len {N : Nat} {body : SM} : ∀ {l : List T} {ρ : Env} {p : List T × Env}, forM N body l ρ = some p → p.1.length = l.length
  | [], _, _, e => by cases e; rfl
  | u :: us, ρ, p, e => by
    unfold forM at e
    split at e
    case h_2 => cases e
    split at e
    case h_2 => cases e
    obtain ⟨q, e1, rfl⟩ := Option.map_eq_some_iff.mp e
    simp [forM_len e1]
/-- one state of the walk: kids that were lent already, kids to come -/
def Lent (W1 S1 : Hp) (pin : List Nat) (σ0 : St) (R : Option (Nat × V)) (N : Nat) (body : SM) (l : List T) (xs : List V) (p : List T × Env) (n : Nat) (σ' : St) (H' : Hp) : Prop := ∃ ρ' done l2, n ≤ l.length ∧ done.length = n ∧ GX W1 S1 ρ' σ' (l.drop n ++ done) (xs.drop n ++ xs.take n) H' ∧
  (∀ i v, R = some (i, v) → σ'[i]? = some (some v)) ∧ Pin pin σ0 σ' ∧ N < ρ'.length ∧ forM N body (l.drop n) ρ' = some l2 ∧ p = (done ++ l2.1, l2.2)
theorem lent_step {W1 S1 : Hp} {R : Option (Nat × V)} {pinR : List Nat} {N : Nat} {tb : TS} {body : SM} {xs : List V} {p : List T × Env} {n : Nat} {σ' : St} {H' : Hp} {x : V} {D : Ends} (hb : SS ct Wx (N :: pinR) tb body) (hRp : ∀ i v, R = some (i, v) → i ∈ pinR ∧ i ≠ N) (hpp : ∀ i ∈ pin, i ∈ pinR) (hN : N ∉ pin) (hxl : xs.length = l.length) (hx : xs[n]? = some x) (h : Lent W1 S1 pin σ0 R N body l xs p n σ' H') :
    tb { D with nx := Lent W1 S1 pin σ0 R N body l xs p (n + 1), ct := Lent W1 S1 pin σ0 R N body l xs p (n + 1), bk := D.nx } (σ'.set N (some x)) H' := by
  obtain ⟨ρ', done, l2, hn, hd, g, hR, pp, hNl, e, ep⟩ := h
  have hlt : n < xs.length := (List.getElem?_eq_some_iff.mp hx).1
  have hxe : xs[n] = x := (List.getElem?_eq_some_iff.mp hx).2
  have hll : n < l.length := by omega
  rw [List.drop_eq_getElem_cons hll, List.drop_eq_getElem_cons hlt, hxe] at g
  rw [List.drop_eq_getElem_cons hll] at e
  unfold forM at e
  split at e
  case h_2 => cases e
  rename_i ρ2 e1
  split at e
  case h_2 => cases e
  rename_i u' e2
  obtain ⟨q, e3, rfl⟩ := Option.map_eq_some_iff.mp e
  have g1 : GX W1 S1 ρ' σ' (l[n] :: (l.drop (n + 1) ++ done)) (x :: (xs.drop (n + 1) ++ xs.take n)) H' := g
  have hσl : N < σ'.length := by rw [g1.lenE]; exact hNl
  obtain ⟨W2, S2, g3, back⟩ := (g1.put hNl).hide
  refine hb W2 S2 (σ'.set N (some x)) _ (σ'.set N (some x)) H' _ g3 Pin.refl ?_
  rw [e1]
  intro σ3 H3 g4 p3
  obtain ⟨w, hw, g5⟩ := (back ρ2 σ3 H3 g4).take e2
  have hwx : w = x := by
    have := p3 N (by simp)
    rw [hw, List.getElem?_set_self hσl] at this
    exact Option.some.inj (Option.some.inj this)
  subst hwx
  have hlen := g5.len
  have g6 := GX.swap (A := [u']) (B := l.drop (n + 1) ++ done) (vA := [w]) (vB := xs.drop (n + 1) ++ xs.take n) g5 rfl (by simp; omega)
  have hne : ∀ i ∈ pin, i ≠ N := fun i hi e => hN (by rw [← e]; exact hi)
  refine ⟨ρ2.set N none, done ++ [u'], q, hll, by simp [hd], ?_, fun i v hv => ?_, fun i hi => ?_, ?_, e3, ?_⟩
  · have ht : xs.take (n + 1) = xs.take n ++ [w] := by rw [List.take_add_one, hx]; rfl
    rw [ht]
    simpa using g6
  · obtain ⟨h1, h2⟩ := hRp i v hv
    rw [p3 i (by simp [h1]), List.getElem?_set_ne (Ne.symm h2)]
    exact hR i v hv
  · rw [p3 i (by simp [hpp i hi]), List.getElem?_set_ne (Ne.symm (hne i hi))]
    exact pp i hi
  · have l1 := g4.lenE
    have l2 : N < σ3.length := (List.getElem?_eq_some_iff.mp hw).1
    rw [List.length_set]; omega
  · rw [ep]; simp
def mForM (R N : Nat) (body : SM) : SM := fun ρ => match ρ[R]? with
  | some (some t) => match t.kidsO with
    | some l => if N < ρ.length then (match forM N body l (ρ.set R none) with
      | some p => .nx (p.2.set R (some (t.setK p.1)))
      | none => .bad) else .bad
    | none => .bad
  | _ => .bad
theorem ss_forM {K : PySem.W.Frag} {R N : Nat} {tb : TS} {body : SM} (hb : SS ct Wx (N :: R :: pin) tb body) (hR : R ≠ N) (hN : N ∉ pin) : SS ct Wx pin (tFor (iSeq K (tVar R)) (gName N) tb) (mForM R N body) := fun W S0 σ0 ρ σ H D gx p k => by
  unfold mForM at k
  split at k
  case h_2 => exact k.elim
  rename_i t e0
  split at k
  case h_2 => exact k.elim
  rename_i l ek
  by_cases hNl : N < ρ.length
  case neg => rw [if_neg hNl] at k; exact k.elim
  rw [if_pos hNl] at k
  split at k
  case h_2 => exact k.elim
  rename_i pr ef
  obtain ⟨v, hv, g1⟩ := gx.take e0
  obtain ⟨a, xs, W1, S1, rfl, hH, hW1, hxl, g2, back⟩ := g1.explode ek
  have g2' : GX W1 S1 (ρ.set R none) σ l xs H := by simpa using g2
  have h0 : Lent W1 S1 pin σ0 (some (R, .ref a)) N body l xs pr 0 σ H := ⟨_, [], pr, Nat.zero_le _, rfl, by simpa using g2', fun i v h => by cases h; exact hv, p, by simpa using hNl, ef, by simp⟩
  have hst : ∀ n x σ' H', xs[n]? = some x → Lent W1 S1 pin σ0 (some (R, .ref a)) N body l xs pr n σ' H' → gName N x σ' H' fun σ2 H2 => tb { D with nx := Lent W1 S1 pin σ0 (some (R, .ref a)) N body l xs pr (n + 1), ct := Lent W1 S1 pin σ0 (some (R, .ref a)) N body l xs pr (n + 1), bk := D.nx } σ2 H2 := fun n x σ' H' hx h => lent_step hb (fun i v e => by cases e; exact ⟨by simp, hR⟩) (fun i hi => by simp [hi]) hN hxl hx h
  have hend : ∀ σ' H', Lent W1 S1 pin σ0 (some (R, .ref a)) N body l xs pr xs.length σ' H' → D.nx σ' H' := fun σ' H' ⟨ρ', done, l2, _, hd, g, hRv, pp, _, e, ep⟩ => by
    rw [hxl] at hd
    rw [List.drop_eq_nil_of_le (by omega)] at g e
    rw [List.drop_eq_nil_of_le (by omega), List.take_of_length_le (by omega)] at g
    cases e
    subst ep
    have g3 := back ρ' σ' [] [] H' done hd (by simpa using g)
    have g4 := g3.back (hRv R _ rfl)
    simp only [List.append_nil] at k
    exact k σ' H' g4 pp
  have hl : ∀ n σ' H', Lent W1 S1 pin σ0 (some (R, .ref a)) N body l xs pr n σ' H' → H' a = H a := fun n σ' H' ⟨ρ', done, l2, _, _, g, _⟩ => by
    rw [← hW1]
    refine same_at (fun x o h => g.outer x o h) ?_
    rw [hW1]; rcases hH with h | h <;> rw [h] <;> simp
  refine ⟨.ref a, hv, a, rfl, ?_⟩
  rcases hH with hH | hH
  · exact .inl ⟨⟨xs, .of hH⟩, for_list (xs := xs) _ h0 (fun n σ' H' _ h => .of (by rw [hl n σ' H' h]; exact hH)) hst hend⟩
  · exact .inr ⟨⟨xs, .of hH⟩, for_tup (xs := xs) _ h0 (fun n σ' H' _ h => .of (by rw [hl n σ' H' h]; exact hH)) hst hend⟩
def mForT (N : Nat) (e : EM) (body : SM) : SM := fun ρ => (e ρ).st fun t ρ1 => match t.kidsO with
  | some l => if N < ρ1.length then (match forM N body l ρ1 with
    | some p => .nx p.2
    | none => .bad) else .bad
  | none => .bad
theorem ss_forT {K : PySem.W.Frag} {N : Nat} {te : TE} {e : EM} {tb : TS} {body : SM} (he : SE ct Wx te e) (hb : SS ct Wx (N :: pin) tb body) (hN : N ∉ pin) : SS ct Wx pin (tFor (iSeq K te) (gName N) tb) (mForT N e body) := fun W S0 σ0 ρ σ H D gx p k => by
  refine he W S0 ρ σ [] [] H _ gx ((SK.st p k).mono (fun t ρ1 k1 v H1 g1 => ?_) fun _ _ h => h)
  split at k1
  case h_2 => exact k1.elim
  rename_i l ek
  by_cases hNl : N < ρ1.length
  case neg => rw [if_neg hNl] at k1; exact k1.elim
  rw [if_pos hNl] at k1
  split at k1
  case h_2 => exact k1.elim
  rename_i pr ef
  obtain ⟨a, xs, W1, S1, rfl, hH, hW1, hxl, g2, back⟩ := g1.explode ek
  have g2' : GX W1 S1 ρ1 σ l xs H1 := by simpa using g2
  have h0 : Lent W1 S1 pin σ0 none N body l xs pr 0 σ H1 := ⟨_, [], pr, Nat.zero_le _, rfl, by simpa using g2', fun i v h => (nomatch h), p, hNl, ef, by simp⟩
  have hst : ∀ n x σ' H', xs[n]? = some x → Lent W1 S1 pin σ0 none N body l xs pr n σ' H' → gName N x σ' H' fun σ2 H2 => tb { D with nx := Lent W1 S1 pin σ0 none N body l xs pr (n + 1), ct := Lent W1 S1 pin σ0 none N body l xs pr (n + 1), bk := D.nx } σ2 H2 := fun n x σ' H' hx h => lent_step hb (fun i v e => (nomatch e)) (fun i hi => hi) hN hxl hx h
  have hend : ∀ σ' H', Lent W1 S1 pin σ0 none N body l xs pr xs.length σ' H' → D.nx σ' H' := fun σ' H' ⟨ρ', done, l2, _, hd, g, hRv, pp, _, e, ep⟩ => by
    rw [hxl] at hd
    rw [List.drop_eq_nil_of_le (by omega)] at g e
    rw [List.drop_eq_nil_of_le (by omega), List.take_of_length_le (by omega)] at g
    cases e
    subst ep
    have g3 := back ρ' σ' [] [] H' done hd (by simpa using g)
    exact k1 σ' H' g3.pop1 pp
  have hl : ∀ n σ' H', Lent W1 S1 pin σ0 none N body l xs pr n σ' H' → H' a = H1 a := fun n σ' H' ⟨ρ', done, l2, _, _, g, _⟩ => by
    rw [← hW1]
    refine same_at (fun x o h => g.outer x o h) ?_
    rw [hW1]; rcases hH with h | h <;> rw [h] <;> simp
  refine ⟨a, rfl, ?_⟩
  rcases hH with hH | hH
  · exact .inl ⟨⟨xs, .of hH⟩, for_list (xs := xs) _ h0 (fun n σ' H' _ h => .of (by rw [hl n σ' H' h]; exact hH)) hst hend⟩
  · exact .inr ⟨⟨xs, .of hH⟩, for_tup (xs := xs) _ h0 (fun n σ' H' _ h => .of (by rw [hl n σ' H' h]; exact hH)) hst hend⟩
end
end Z

namespace Z
noncomputable section
open PySem L2 PyProof.Rows
/-! ### sorted, where what is sorted stays owned -/
def srtT (ts : List T) : List T := ts.mergeSort (PySem.W.dataLe false fun t => t.d.py)
def sortO : List T → Option T
  | [t] => t.els.bind fun ts => if SrtOk (dl ts) then some (.ol (srtT ts)) else none
  | _ => none
theorem srtT_d (ts : List T) : dl (srtT ts) = srtD (dl ts) := by
  unfold srtT srtD
  rw [dl_eq, dl_eq]
  exact List.map_mergeSort (f := T.d) (r := PySem.W.dataLe false fun t : T => t.d.py) (s := PySem.W.dataLe false D.py) fun a _ b _ => rfl
theorem srtT_perm (ts : List T) : (srtT ts).Perm ts := List.mergeSort_perm ts _
theorem Rtl.perm {S H : Hp} {ps qs : List (T × V)} (h : ps.Perm qs) : ∀ {b : List Addr}, Rtl S H (ps.map Prod.fst) (ps.map Prod.snd) b → ∃ c, c.Perm b ∧ Rtl S H (qs.map Prod.fst) (qs.map Prod.snd) c := by
  induction h with
  | nil => exact fun {b} k => ⟨b, List.Perm.refl _, k⟩
  | cons p _ ih =>
    rintro b ⟨v, r, c, d, e1, rfl, h3, h4⟩
    cases e1
    obtain ⟨d', q1, q2⟩ := ih h4
    exact ⟨c ++ d', List.Perm.append_left c q1, ⟨_, _, c, d', rfl, rfl, h3, q2⟩⟩
  | swap p q l =>
    rintro b ⟨v, r, c, d, e1, rfl, h3, ⟨v2, r2, c2, d2, e2, rfl, h5, h6⟩⟩
    cases e1
    cases e2
    refine ⟨c2 ++ (c ++ d2), ?_, ⟨_, _, c2, c ++ d2, rfl, rfl, h5, ⟨_, _, c, d2, rfl, rfl, h3, h6⟩⟩⟩
    rw [← List.append_assoc, ← List.append_assoc]
    exact List.Perm.append_right d2 List.perm_append_comm
  | trans _ _ i1 i2 =>
    intro b k
    obtain ⟨c, q1, q2⟩ := i1 k
    obtain ⟨d, q3, q4⟩ := i2 q2
    exact ⟨d, q3.trans q1, q4⟩
theorem ce_sortedO {K : PySem.W.Frag} : CallE (rSortedD K) sortO := fun W S0 ρ σ tm vm H ts vs z Q g e0 e k => by
  match ts, vs, e0, e, g with
  | [t], [v], _, e, g =>
    obtain ⟨us, hu, e⟩ := some_bind e
    obtain ⟨⟨h1, h2, h3⟩, e⟩ := ite_some e
    cases e
    obtain ⟨a, xs, rfl, ha, hlen, g2⟩ := GX.els g hu
    have hrp : Rpl H (dl us) xs := g2.tmps hlen
    obtain ⟨zs, hzs⟩ : ∃ zs, zs = us.zip xs := ⟨_, rfl⟩
    have hz1 : zs.map Prod.fst = us := by rw [hzs]; exact List.map_fst_zip (by omega)
    have hz2 : zs.map Prod.snd = xs := by rw [hzs]; exact List.map_snd_zip (by omega)
    have hzr : ∀ p ∈ zs, Rp H p.1.d p.2 := fun p hp => by
      have h4 : (p.1.d, p.2) ∈ (dl us).zip xs := by
        rw [dl_eq, List.zip_map_left]
        rw [hzs] at hp
        exact List.mem_map.mpr ⟨p, hp, rfl⟩
      exact hrp.zip_mem _ h4
    have hzd : ∀ p ∈ zs, p.1.d.dat 59 = true := fun p hp => datl_mem h1 (by
      rw [dl_eq, ← hz1, List.map_map]
      exact List.mem_map.mpr ⟨p, hp, rfl⟩)
    have e1 : (zs.map fun p => (p.2, p.1.d.py)).map Prod.fst = xs := by rw [List.map_map]; exact hz2
    have e2 : (zs.map fun p => (p.2, p.1.d.py)).map Prod.snd = (dl us).map D.py := by
      rw [dl_eq, List.map_map, ← hz1, List.map_map, List.map_map]; rfl
    refine ⟨a, zs.map fun p => (p.2, p.1.d.py), rfl, by rw [e1]; exact .of ha, fun p hp => ?_, by rw [e2]; exact h2, by rw [e2]; exact h3, fun p hp => ?_, fun q hq => ?_⟩
    · obtain ⟨p', hp', rfl⟩ := List.mem_map.mp hp
      exact (hzr p' hp').dp (hzd p' hp')
    · obtain ⟨p', hp', rfl⟩ := List.mem_map.mp hp
      have := (dat_lay (hzd p' hp')).2
      show p'.1.d.py.depth ≤ 60
      omega
    · obtain ⟨ss, hss⟩ : ∃ ss, ss = zs.mergeSort (PySem.W.dataLe false fun p => p.1.d.py) := ⟨_, rfl⟩
      have m1 : ((zs.map fun p => (p.2, p.1.d.py)).mergeSort (PySem.W.dataLe false Prod.snd)).map Prod.fst = ss.map Prod.snd := by
        rw [hss, ← List.map_mergeSort (f := fun p : T × V => (p.2, p.1.d.py)) (r := PySem.W.dataLe false fun p : T × V => p.1.d.py) (s := PySem.W.dataLe false Prod.snd) (fun a _ b _ => rfl), List.map_map]
        rfl
      have m2 : srtT us = ss.map Prod.fst := by
        unfold srtT
        rw [hss, ← hz1, ← List.map_mergeSort (f := (Prod.fst : T × V → T)) (r := PySem.W.dataLe false fun p : T × V => p.1.d.py) (s := PySem.W.dataLe false fun t : T => t.d.py) (fun a _ b _ => rfl)]
      rw [m1]
      refine k _ _ ?_
      have hp : zs.Perm ss := by rw [hss]; exact (List.mergeSort_perm zs _).symm
      have g3 := g2.sub (us := srtT us) (ws := ss.map Prod.snd) hlen fun S H' b hb => by
        rw [m2]
        have hb' : Rtl S H' (zs.map Prod.fst) (zs.map Prod.snd) b := by rw [hz1, hz2]; exact hb
        obtain ⟨c, q1, q2⟩ := Rtl.perm hp hb'
        exact ⟨c, q2, fun h => q1.nodup_iff.mpr h, fun x hx => q1.mem_iff.mp hx⟩
      exact g3.newL (by rw [m2]; simp) hq
end
end Z

namespace Z
noncomputable section
open PySem L2
variable {ct : CT} {Wx : XW} {pin : List Nat}
/-! ### a kid lent for some statements alone -/
theorem ss_openC1 {K : PySem.W.Frag} {R N : Nat} {te : TE} {e : EM} {s1 rest : TS} {b c : SM} (he : SE ct Wx te e) (hb : SS ct Wx (R :: N :: pin) s1 b) (hc : SS ct Wx pin rest c) (hR : R ≠ N) (hN : N ∉ pin) : SS ct Wx pin (tSeq (tAsg (tOp (rIx K) (tVar R) te) (gName N)) (tSeq s1 rest)) (mSeq (mOpen R N e b) c) :=
  show SS ct Wx pin (tSeq (tSeq (tAsg (tOp (rIx K) (tVar R) te) (gName N)) s1) rest) _ from ss_seq (ss_open he hb hR hN) hc
theorem ss_openC2 {K : PySem.W.Frag} {R N : Nat} {te : TE} {e : EM} {s1 s2 rest : TS} {b c : SM} (he : SE ct Wx te e) (hb : SS ct Wx (R :: N :: pin) (tSeq s1 s2) b) (hc : SS ct Wx pin rest c) (hR : R ≠ N) (hN : N ∉ pin) : SS ct Wx pin (tSeq (tAsg (tOp (rIx K) (tVar R) te) (gName N)) (tSeq s1 (tSeq s2 rest))) (mSeq (mOpen R N e b) c) :=
  show SS ct Wx pin (tSeq (tSeq (tAsg (tOp (rIx K) (tVar R) te) (gName N)) (tSeq s1 s2)) rest) _ from ss_seq (ss_open he hb hR hN) hc
end
end Z

namespace Z
noncomputable section
open PySem L2
variable {ct : CT} {Wx : XW} {W S0 S H H' : Hp} {ρ : Env} {σ σ0 : St} {t u : T} {l ts us tm its : List T} {v w : V} {vs ws vm : List V} {as bs : List Addr} {i : Nat} {d : D} {pin : List Nat} {D0 : Ends}
/-! ### max(xs), xs a list of ints -/
def maxI : List Int → Int
  | [] => 0
  | a :: l => l.foldl max a
theorem foldl_max (l : List Int) : ∀ a : Int, a ≤ l.foldl max a ∧ (∀ y ∈ l, y ≤ l.foldl max a) ∧ (l.foldl max a = a ∨ l.foldl max a ∈ l) := by
  induction l with
  | nil => exact fun a => ⟨Int.le_refl a, fun _ h => (nomatch h), .inl rfl⟩
  | cons b l ih =>
    intro a
    obtain ⟨h1, h2, h3⟩ := ih (max a b)
    rw [List.foldl_cons]
    refine ⟨by omega, fun y hy => ?_, ?_⟩
    · rcases List.mem_cons.mp hy with rfl | hy
      · omega
      · exact h2 y hy
    · rcases h3 with h3 | h3
      · by_cases c : a ≤ b
        · right; rw [h3, Int.max_eq_right c]; exact List.mem_cons_self
        · left; rw [h3]; omega
      · exact .inr (List.mem_cons_of_mem _ h3)
theorem maxI_spec {ns : List Int} {m : Int} (hm : m ∈ ns) (hx : ∀ y ∈ ns, y ≤ m) : maxI ns = m := by
  cases ns with
  | nil => cases hm
  | cons a l =>
    obtain ⟨h1, h2, h3⟩ := foldl_max l a
    show l.foldl max a = m
    have a1 : l.foldl max a ≤ m := by
      rcases h3 with h3 | h3
      · rw [h3]; exact hx a List.mem_cons_self
      · exact hx _ (List.mem_cons_of_mem _ h3)
    have a2 : m ≤ l.foldl max a := by
      rcases List.mem_cons.mp hm with rfl | hm
      · exact h1
      · exact h2 m hm
    omega
def oMaxL : D → Option D
  | .lst l => (intsOf l).bind fun bs => if 0 < bs.length then some (.int (maxI bs)) else none
  | _ => none
theorem cs_maxL {K : PySem.W.Frag} : CallS (rMax K) (o1 oMaxL) := fun H ds vs d h e Q q => by
  obtain ⟨x, rfl, e⟩ := o1_some e
  obtain ⟨v, rfl, hv⟩ := rpl1 h
  clear h
  cases x <;> first | (cases e; done) | skip
  obtain ⟨bs, e1, e⟩ := some_bind e
  obtain ⟨hb, e⟩ := ite_some e
  cases e
  obtain ⟨a, ws, rfl, h1, h2⟩ := hv
  refine ⟨a, bs, rfl, .of (by rw [← intsOf_rp e1 h2]; exact h1), hb, fun m hm hx => ?_⟩
  have := q (.int (maxI bs)) H (fun _ _ h => h) rfl
  rw [maxI_spec hm hx] at this
  exact this
/-! ### dicts that a name owns -/
def keyD : D → Option Key
  | .int i => some (.inl i)
  | .str s => some (.inr s)
  | _ => none
theorem keyD_rp {k : Key} (e : keyD d = some k) (h : Rp H d v) : v = kV k := by
  cases d <;> first | (cases e; done) | skip
  · cases e; exact h
  · cases e; exact h
def hasK (ks : List Key) (k : Key) : Bool := ks.any fun j => decide (j = k)
theorem any_zip {k : Key} : ∀ {ks : List Key} {vs : List V}, ks.length = vs.length → ((ks.zip vs).any fun kv => decide (kv.1 = k)) = hasK ks k
  | [], _, _ => by simp [hasK]
  | a :: ks, [], h => by simp at h
  | a :: ks, v :: vs, h => by
    have ih := any_zip (k := k) (ks := ks) (vs := vs) (by simpa using h)
    rw [List.zip_cons_cons, List.any_cons, ih]
    rfl
/-- x in d -/
def pDIn (neg : Bool) (a b : PM) : PM := fun ρ => match a ρ, b ρ with
  | some x, some (.dic ks _) => (keyD x).map fun k => .bl (if neg then !hasK ks k else hasK ks k)
  | _, _ => none
theorem sp_dIn {ta tb : TE} {a b : PM} (ha : SP ta a) (hb : SP tb b) : SP (tDIn ta tb) (pDIn false a b) := fun ρ σ H g d h Q q => by
  unfold pDIn at h
  split at h
  case h_2 => cases h
  rename_i x ks l e1 e2
  obtain ⟨k, e3, rfl⟩ := Option.map_eq_some_iff.mp h
  refine ha ρ σ H g x e1 _ fun v H1 s1 r1 => hb ρ σ H1 (g.ext s1) _ e2 _ fun w H2 s2 r2 => ?_
  obtain ⟨a, vs, rfl, hH, hl, hr⟩ := r2
  have hk := keyD_rp e3 r1
  subst hk
  refine ⟨a, _, rfl, DGet.k hH, ?_⟩
  rw [← valV_any, any_zip (by rw [hr.len]; exact hl)]
  exact q _ H2 (s1.trans s2) rfl
theorem sp_dNotIn {ta tb : TE} {a b : PM} (ha : SP ta a) (hb : SP tb b) : SP (tDNotIn ta tb) (pDIn true a b) := fun ρ σ H g d h Q q => by
  unfold pDIn at h
  split at h
  case h_2 => cases h
  rename_i x ks l e1 e2
  obtain ⟨k, e3, rfl⟩ := Option.map_eq_some_iff.mp h
  refine ha ρ σ H g x e1 _ fun v H1 s1 r1 => hb ρ σ H1 (g.ext s1) _ e2 _ fun w H2 s2 r2 => ?_
  obtain ⟨a, vs, rfl, hH, hl, hr⟩ := r2
  have hk := keyD_rp e3 r1
  subst hk
  refine ⟨a, _, rfl, DGet.k hH, ?_⟩
  rw [← valV_any, any_zip (by rw [hr.len]; exact hl)]
  exact q _ H2 (s1.trans s2) rfl
/-- {} -/
def eNewD : EM := fun ρ => .ok (.od [] []) ρ
theorem se_newD : SE ct Wx tDNewK eNewD := fun W S0 ρ σ tm vm H Q g k => fun p hp => k (.ref p) _ (GX.newD (ts := []) (vs := []) (ks := []) g rfl rfl hp)
/-- d[k] = c, k new, c a scalar -/
def mPutD (i : Nat) (kx c : PM) : SM := fun ρ => match ρ[i]?, kx ρ, c ρ with
  | some (some (.od ks ts)), some x, some d => match keyD x with
    | some k => if hasK ks k = false ∧ d.scal = true ∧ ts.length < lim then .nx (ρ.set i (some (.od (ks ++ [k]) (ts ++ [.sh d])))) else .bad
    | none => .bad
  | _, _, _ => .bad
theorem ss_putD {i : Nat} {tk tc : TE} {kx c : PM} (hk : SP tk kx) (hc : SP tc c) : SS ct Wx pin (sDPut (tVar i) tk tc) (mPutD i kx c) := fun W S0 σ0 ρ σ H D g p k => by
  unfold mPutD at k
  split at k
  case h_2 => exact k.elim
  rename_i ks ts x d e1 e2 e3
  split at k
  case h_2 => exact k.elim
  rename_i kk e4
  obtain ⟨⟨hn, hs, hz⟩, k⟩ := SK_ite k
  obtain ⟨vd, hv, g1⟩ := g.take e1
  refine hc ρ σ H g.rv _ e3 _ fun z H1 s1 r1 => ⟨vd, hv, ?_⟩
  refine hk ρ σ H1 (g.rv.ext s1) _ e2 _ fun y H2 s2 r2 => ?_
  have hy := keyD_rp e4 r2
  subst hy
  obtain ⟨a, xs, rfl, h1, h2, h3, mk⟩ := ((g1.ext s1).ext s2).mutD
  have hval : valV (ks.zip xs) kk = none := by
    have := valV_any kk (ks.zip xs)
    rw [any_zip (by omega), hn] at this
    cases q : valV (ks.zip xs) kk with
    | none => rfl
    | some _ => rw [q] at this; cases this
  refine ⟨a, _, rfl, DPut.k h1 (lim_lt (by rw [List.length_zip]; omega)), ?_⟩
  rw [putK_new _ hval]
  have g3 := mk (ks ++ [kk]) (ts ++ [.sh d]) [] (xs ++ [z]) [] (by simp [h2]) (fun S H b c hb hc => by
    obtain ⟨h4, rfl⟩ := hc
    have h6 : Rtl S H [T.sh d] [z] [] := ⟨z, [], [], [], rfl, rfl, ⟨rfl, r1.scal hs⟩, rfl, rfl⟩
    exact ⟨b ++ [], [], hb.append h6, ⟨rfl, rfl⟩, by simp, by simp⟩)
  have e5 : (ks ++ [kk]).zip (xs ++ [z]) = ks.zip xs ++ [(kk, z)] := by rw [List.zip_append (by omega)]; rfl
  rw [e5] at g3
  have g4 := g3.back hv
  rw [List.set_set] at g4
  exact k _ _ g4 p
end
end Z

namespace Z
noncomputable section
open PySem L2
variable {ct : CT} {Wx : XW} {W S0 S H H' : Hp} {ρ : Env} {σ σ0 : St} {t u : T} {l ts us tm its : List T} {v w : V} {vs ws vm : List V} {as bs : List Addr} {i : Nat} {d : D} {pin : List Nat} {D0 : Ends} {J : It}
/-- the kids of an owned temporary, and how they are gathered again -/
theorem GX.explode2 (g : GX W S0 ρ σ (t :: tm) (v :: vm) H) (ek : t.kidsO = some l) : ∃ a xs W1 S1, v = .ref a ∧ (H a = some (.lst xs) ∨ H a = some (.tup xs)) ∧ W1 a = H a ∧ xs.length = l.length ∧ GX W1 S1 ρ σ (l ++ tm) (xs ++ vm) H ∧
    (∀ ρ' σ' tm' vm' H' l', l'.length = l.length → GX W1 S1 ρ' σ' (l' ++ tm') (xs ++ vm') H' → GX W S0 ρ' σ' (t.setK l' :: tm') (v :: vm') H') ∧ (∀ ρ' σ' tm' vm' H', GX W1 S1 ρ' σ' tm' vm' H' → GX W S0 ρ' σ' tm' vm' H') := by
  obtain ⟨S, as, bs, g⟩ := g
  obtain ⟨v', r, c1, c2, h3, rfl, h4, h6⟩ := g.rt
  cases h3
  have nd := g.nd
  have fs := g.fs
  have fw := g.fw
  obtain ⟨a, xs, b, o, rfl, rfl, hH, ho, h5, bk⟩ : ∃ (a : Addr) (xs : List V) (b : List Addr) (o : HO), v = .ref a ∧ c1 = a :: b ∧ H a = some o ∧ (o = .lst xs ∨ o = .tup xs) ∧ Rtl S H l xs b ∧ ∀ S' H' l' b', H' a = some o → Rtl S' H' l' xs b' → Rt S' H' (t.setK l') (.ref a) (a :: b') := by
    cases t with
    | sh d => cases ek
    | od ks l => cases ek
    | ol l0 =>
      cases ek
      obtain ⟨a, xs, b, rfl, rfl, h1, h2⟩ := h4
      exact ⟨a, xs, b, _, rfl, rfl, h1, .inl rfl, h2, fun S' H' l' b' q1 q2 => ⟨a, xs, b', rfl, rfl, q1, q2⟩⟩
    | ot l0 =>
      cases ek
      obtain ⟨a, xs, b, rfl, rfl, h1, h2⟩ := h4
      exact ⟨a, xs, b, _, rfl, rfl, h1, .inr rfl, h2, fun S' H' l' b' q1 q2 => ⟨a, xs, b', rfl, rfl, q1, q2⟩⟩
  have hSa : S a = none := fs a (by simp)
  have hWa : W a = none := fw a (by simp)
  have sW : ∀ x, x ≠ a → also W H a x = W x := fun x h => also_ne h
  have wSame : Same W (also W H a) := fun x o h => by
    rw [sW x (by rintro rfl; rw [hWa] at h; cases h)]; exact h
  refine ⟨a, xs, also W H a, S, rfl, by rcases ho with rfl | rfl; exact .inl hH; exact .inr hH, also_at, h5.len, ?_, fun ρ' σ' tm' vm' H' l' hl' g' => ?_, fun ρ' σ' tm' vm' H' g' => ?_⟩
  · refine ⟨S, as, b ++ c2, fun _ _ h => h, g.sh, fun x o h => ?_, fun _ _ h => h, g.re, h5.append h6, by grind, fun x hx => fs x (by grind), fun x hx => ?_⟩
    · by_cases q : x = a
      · subst q; rw [also_at] at h; exact h
      · rw [sW x q] at h; exact g.wh x o h
    · rw [sW x (by rintro rfl; grind)]; exact fw x (by grind)
  · obtain ⟨S', as', bs', g'⟩ := g'
    obtain ⟨b', c', rfl, q1, q2⟩ := g'.rt.split (show xs.length = l'.length by rw [hl']; exact h5.len)
    have hHa : H' a = some o := g'.wh a _ (by rw [also_at]; exact hH)
    have hS'a : S' a = none := by
      cases q : S' a with
      | none => rfl
      | some o' => exact absurd hSa (g'.nw a (by rw [also_at, hH]; simp) (by rw [q]; simp))
    have nd' := g'.nd
    have fw' := g'.fw
    have fs' := g'.fs
    have hne : ∀ x ∈ as' ++ (b' ++ c'), x ≠ a := fun x hx q => by
      have := fw' x hx
      rw [q, also_at, hH] at this; cases this
    refine ⟨S', as', (a :: b') ++ c', fun x o h => g'.s0 x o (g.s0 x o h), g'.sh, fun x o h => g'.wh x o (wSame x o h), fun x h k => ?_, g'.re, ⟨.ref a, vm', a :: b', c', rfl, rfl, bk S' H' l' b' hHa q1, q2⟩, by grind, by grind, fun x hx => ?_⟩
    · refine g.nw x h (g'.nw x ?_ k)
      intro q
      cases hq : W x with
      | none => exact h hq
      | some o => rw [wSame x o hq] at q; cases q
    · by_cases q : x = a
      · rw [q]; exact hWa
      · have := fw' x (by grind)
        rw [sW x q] at this; exact this
  · obtain ⟨S', as', bs', g'⟩ := g'
    refine ⟨S', as', bs', fun x o h => g'.s0 x o (g.s0 x o h), g'.sh, fun x o h => g'.wh x o (wSame x o h), fun x h k => ?_, g'.re, g'.rt, g'.nd, g'.fs, fun x hx => ?_⟩
    · refine g.nw x h (g'.nw x ?_ k)
      intro q
      cases hq : W x with
      | none => exact h hq
      | some o => rw [wSame x o hq] at q; cases q
    · have := g'.fw x hx
      cases hq : W x with
      | none => rfl
      | some o => rw [wSame x o hq] at this; cases this
/-! ### a comprehension over an owned temporary whose kids move -/
def lcM (N : Nat) (tst : EMb) (elt : EM) : List T → List T → Env → Out (List T)
  | [], acc, ρ => .ok acc ρ
  | u :: us, acc, ρ => (tst (ρ.set N (some u))).bnd fun c ρ => if c = true then (elt ρ).bnd fun z ρ => if acc.length < lim ∧ N < ρ.length then lcM N tst elt us (acc ++ [z]) (wipeE ρ [N]) else .bad
      else if N < ρ.length then lcM N tst elt us acc (wipeE ρ [N]) else .bad
def eLCM (N : Nat) (e : EM) (tst : EMb) (elt : EM) : EM := fun ρ => (e ρ).bnd fun t ρ1 => match t with
  | .ol l => if N < ρ1.length then ((lcM N tst elt l [] (wipeE ρ1 [N])).nox).bnd fun acc ρ2 => .ok (.ol acc) (keepE ρ1 [N] (wipeE ρ2 [N])) else .bad
  | _ => .bad
theorem se_lcM {K : PySem.W.Frag} {N : Nat} {te0 : TE} {e : EM} {tt : TT} {te : TE} {tst : EMb} {elt : EM} (h0 : SE ct Wx te0 e) (ht : SET ct NoX tt tst) (he : SE ct NoX te elt) : SE ct Wx (tLc (iSeq K te0) (gName N) tt te [N]) (eLCM N e tst elt) := fun W S0 ρ σ tm vm H Q gx k => by
  refine h0 W S0 ρ σ tm vm H _ gx ((Out.P_bnd.mp k).mono (fun t ρ1 k1 v H1 g1 => ?_) fun _ _ h => h)
  split at k1
  case h_2 => exact k1.elim
  rename_i l
  obtain ⟨hN, k1⟩ := P_ite k1
  have k2 := P_nox (Ψ' := fun _ _ => False) (Out.P_bnd.mp k1)
  obtain ⟨a0, xs0, hva, hH0, _, _⟩ := GX.els g1 (ts := l) rfl
  obtain ⟨a, xs, W1, S1, hvb, hH, hW1, hxl, g2, _, out⟩ := g1.explode2 (l := l) rfl
  have haa : a0 = a := by rw [hva] at hvb; cases hvb; rfl
  subst haa
  have hHl : H1 a0 = some (.lst xs) := by
    rcases hH with h | h
    · exact h
    · rw [h] at hH0; cases hH0
  clear hH
  refine ⟨a0, hvb, .inl ⟨⟨xs, .of hHl⟩, ?_⟩⟩
  intro D hD
  obtain ⟨S2, as, bs, hu1, g3⟩ := g2.up
  have hk : ∀ (j : Nat) d, ρ1[j]? = some (some (.sh d)) → ∃ v, σ[j]? = some (some v) ∧ Rp S2 d v := fun j d e => by
    obtain ⟨v, b, c, d', e1, _, ⟨_, e3⟩, _⟩ := g3.re.at e
    exact ⟨v, e1, e3⟩
  have g4 : GX W1 S2 (wipeE ρ1 [N]) (wipe σ [N]) (.ol [] :: (l ++ tm)) (.ref D :: (xs ++ vm)) (upd H1 D (.lst [])) := GX.wipe (GX.newL (ts := []) (vs := []) ⟨S2, as, bs, g3⟩ rfl hD)
  refine lc_list (xs := xs) (fun n H' => n ≤ l.length ∧ ∃ ρ' acc, GX W1 S2 ρ' (wipe σ [N]) (.ol acc :: (l.drop n ++ tm)) (.ref D :: (xs.drop n ++ vm)) H' ∧ N < ρ'.length ∧ (lcM N tst elt (l.drop n) acc ρ').P (fun acc ρ2 => ∀ H', GX W1 S2 (wipeE ρ2 [N]) (wipe σ [N]) (.ol acc :: tm) (.ref D :: vm) H' → Q (.ref D) H') (fun _ _ => False)) ?_ ?_ ?_ ?_
  · refine ⟨Nat.zero_le _, _, [], by simpa using g4, by show N < ((wipeE ρ1 [N])).length; simpa [wipeE] using hN, k2.mono (fun acc ρ2 k3 H' g5 => ?_) fun _ _ h => h⟩
    exact k3 (.ref D) H' (out _ _ _ _ _ ((GX.keep g5 hk).join hu1))
  · rintro n H' _ ⟨_, ρ', acc, g', _⟩
    refine .of ?_
    have := g'.outer a0 (.lst xs) (by rw [hW1]; exact hHl)
    exact this
  · rintro n x H' hx ⟨hle, ρ', acc, g', hNl, k'⟩
    have hlt : n < xs.length := (List.getElem?_eq_some_iff.mp hx).1
    have hxe : xs[n] = x := (List.getElem?_eq_some_iff.mp hx).2
    have hll : n < l.length := by omega
    rw [List.drop_eq_getElem_cons hll, List.drop_eq_getElem_cons hlt, hxe] at g'
    rw [List.drop_eq_getElem_cons hll] at k'
    unfold lcM at k'
    have g5 : GX W1 S2 ρ' (wipe σ [N]) (l[n] :: ([.ol acc] ++ (l.drop (n + 1) ++ tm))) (x :: ([.ref D] ++ (xs.drop (n + 1) ++ vm))) H' := GX.rot (ts := [.ol acc]) (vs := [.ref D]) g' rfl
    have g6 := g5.put hNl
    have ew : wipe ((wipe σ [N]).set N (some x)) [N] = wipe σ [N] := by rw [wipe_set (by simp), wipe_wipe]
    refine ⟨by rw [ew], ht W1 S2 _ _ _ _ H' _ g6 ((Out.P_bnd.mp k').mono (fun c ρ3 k3 H3 g7 => ?_) fun _ _ h => h.elim)⟩
    cases c with
    | false =>
      obtain ⟨hN3, k3⟩ := P_ite (show (if N < ρ3.length then lcM N tst elt (l.drop (n + 1)) acc (wipeE ρ3 [N]) else .bad).P _ _ from k3)
      refine ⟨hll, wipeE ρ3 [N], acc, ?_, by simpa [wipeE] using hN3, k3⟩
      have := GX.wipe (slots := [N]) g7
      rw [ew] at this
      exact this
    | true =>
      rw [if_pos rfl] at k3 ⊢
      refine he W1 S2 ρ3 _ _ _ H3 _ g7 ((Out.P_bnd.mp k3).mono (fun z ρ4 k4 yv H4 g8 => ?_) fun _ _ h => h.elim)
      obtain ⟨⟨hz, hN4⟩, k4⟩ := P_ite k4
      have g9 : GX W1 S2 ρ4 ((wipe σ [N]).set N (some x)) (.ol acc :: z :: (l.drop (n + 1) ++ tm)) (.ref D :: yv :: (xs.drop (n + 1) ++ vm)) H4 := GX.rot (ts := [z]) (vs := [yv]) g8 rfl
      obtain ⟨a', xs', e5, h1, h2, mk⟩ := g9.mutL
      cases e5
      refine ⟨xs', h1, lim_lt (by omega), hll, wipeE ρ4 [N], acc ++ [z], ?_, by simpa [wipeE] using hN4, k4⟩
      have g10 := mk (acc ++ [z]) (l.drop (n + 1) ++ tm) (xs' ++ [yv]) (xs.drop (n + 1) ++ vm) (fun S H b c hb hc => by
        obtain ⟨v', r, c1, c2, h3, rfl, h4, h5⟩ := hc
        cases h3
        have h6 : Rtl S H [z] [yv] c1 := ⟨yv, [], c1, [], rfl, by simp, h4, rfl, rfl⟩
        exact ⟨b ++ c1, c2, hb.append h6, h5, by grind, by grind⟩)
      have := GX.wipe (slots := [N]) g10
      rw [ew] at this
      exact this
  · rintro H' ⟨_, ρ', acc, g', _, k'⟩
    rw [List.drop_eq_nil_of_le (by omega)] at g' k'
    rw [List.drop_eq_nil_of_le (Nat.le_refl _)] at g'
    refine k' H' ?_
    have := GX.wipe (slots := [N]) g'
    rw [wipe_wipe] at this
    exact this
end
end Z

namespace Z
noncomputable section
open PySem L2
variable {ct : CT} {Wx : XW} {W S0 S H H' : Hp} {ρ : Env} {σ σ0 : St} {t u : T} {l ts us tm its : List T} {v w : V} {vs ws vm : List V} {as bs : List Addr} {i : Nat} {d : D} {pin : List Nat} {D0 : Ends}
/-! ### xs[k] op= e -/
def rGetL (K : PySem.W.Frag) : V → V → Hp → VK → Prop := fun o i H Q => ∃ p xs k v, o = .ref p ∧ i = .int k ∧ SqL K H p xs ∧ atI xs k = some v ∧ Q v H
theorem get_list {X : Cx} : PGet X (rGetL X.K) := by
  intro pins s σ H o i ov iv Q I ro ri h
  obtain ⟨p, xs, k, z, rfl, rfl, hq, he, q⟩ := h
  cases ro
  obtain ⟨t, rfl⟩ := ri
  obtain ⟨its, r, pl, hz⟩ := I.list hq
  obtain ⟨j, h1, h2, h3, h4, h5⟩ := atI_get he
  obtain ⟨w, ew, rw'⟩ := r.get h2
  have hl := r.length
  have hn := line63
  have fin : EP X pins σ Q w s := ⟨z, H, I, rw', q⟩
  by_cases h0 : 0 ≤ k
  · have hj : k.toNat = j := by
      rw [seqIndex_of h0 h5] at h1
      exact Option.some.inj h1
    exact wpAny_getItem_list pl.isList h0 (by omega) (by rw [hj]; simpa using ew) fin
  · have hj : (k + (its.toArray.size : Int)).toNat = j := by
      rw [seqIndex_neg (by omega) h4] at h1
      rw [List.size_toArray, ← hl]
      exact Option.some.inj h1
    exact wpAny_getItem_list_neg pl.isList (by omega) (by rw [List.size_toArray, ← hl]; exact h4) (by omega) (by rw [hj]; simpa using ew) fin
/-- xs[k] += e: xs at a name, ints -/
def mAugS (i : Nat) (kx : PM) (f : Int → Int → Int) (e : PM) : SM := fun ρ => match ρ[i]?, kx ρ, e ρ with
  | some (some (.ol ts)), some (.int k), some (.int y) => match ixN ts.length k with
    | some j => match ts[j]? with
      | some (.sh (.int x)) => .nx (ρ.set i (some (.ol (ts.set j (.sh (.int (f x y)))))))
      | _ => .bad
    | none => .bad
  | _, _, _ => .bad
theorem ss_augS {K : PySem.W.Frag} {i : Nat} {ti te : TE} {kx e : PM} {f : Int → Int → Int} (hx : SP ti kx) (he : SP te e) : SS ct Wx pin (tAugS (tVar i) ti te (rGetL K) (ipI f) rSetL) (mAugS i kx f e) := fun W S0 σ0 ρ σ H D g p k => by
  unfold mAugS at k
  split at k
  case h_2 => exact k.elim
  rename_i ts kk y e1 e2 e3
  split at k
  case h_2 => exact k.elim
  rename_i j e4
  split at k
  case h_2 => exact k.elim
  rename_i x e5
  obtain ⟨v0, hv0, r0⟩ := g.rv i _ e1
  obtain ⟨vd, hv, g1⟩ := g.take e1
  rw [hv0] at hv
  cases hv
  refine ⟨v0, hv0, hx ρ σ H g.rv _ e2 _ fun z H1 s1 r1 => ?_⟩
  cases r1
  obtain ⟨a, xs, rfl, h1, h2, mk⟩ := (g1.ext s1).mutL
  obtain ⟨a', xs', ea, h1', hr⟩ := r0.mono s1
  cases ea
  rw [h1] at h1'
  cases h1'
  have hj : j < ts.length := (ixN_seq e4).2.1
  have hd : (dl ts)[j]? = some (.int x) := by rw [dl_eq, List.getElem?_map, e5]; rfl
  obtain ⟨w, ew, rw'⟩ := hr.get hd
  cases rw'
  refine ⟨a, xs, kk, .int x, rfl, rfl, .of h1, ?_, he ρ σ H1 (g.rv.ext s1) _ e3 _ fun z H2 s2 r2 => ?_⟩
  · unfold atI
    rw [h2, e4]
    exact ew
  cases r2
  obtain ⟨a2, xs2, ea, h12, h22, mk2⟩ := ((g1.ext s1).ext s2).mutL
  cases ea
  refine ⟨x, y, rfl, rfl, a, xs2, kk, j, rfl, rfl, h12, by rw [h22]; exact e4, ?_⟩
  have g3 := mk2 (ts.set j (.sh (.int (f x y)))) [] (xs2.set j (.int (f x y))) [] (fun S H b c hb hc => by
    obtain ⟨_, rfl⟩ := hc
    obtain ⟨w, b1, d1, d2, k1, rfl, k2, k3⟩ := hb.at (List.getElem?_eq_getElem hj)
    refine ⟨b1 ++ [] ++ d2, [], k3 S H (.sh (.int (f x y))) (.int (f x y)) [] (fun _ _ h => h) (fun _ _ => rfl) ⟨rfl, rfl⟩, ⟨rfl, rfl⟩, by grind, by grind⟩)
  have g4 := g3.back hv0
  rw [List.set_set] at g4
  exact k _ _ g4 p
/-- whole numbers, the product not too great -/
def ipM : TIp := fun x y H Q => ∃ i j, x = .int i ∧ y = .int j ∧ smallM i j ∧ Q (.int (i * j)) H
theorem ip_mulM {X : Cx} : PIp X .Mult ipM := by
  intro pins s σ H x y v u Q I r1 r2 h
  obtain ⟨i, j, e1, e2, hs, q⟩ := h
  subst e1; subst e2
  obtain ⟨t, rfl⟩ := r1
  obtain ⟨t', rfl⟩ := r2
  refine PyProof.Rows.imul_int ⟨.int _, H, I.tok _, ⟨_, rfl⟩, q⟩ ?_
  rcases hs with h | h | h
  · exact CMul.ok (.inl h)
  · exact CMul.ok (.inr h)
  · exact CMulW.ok h
/-- x *= e -/
def mAugM (i : Nat) (e : EM) : SM := fun ρ => match ρ[i]? with
  | some (some (.sh (.int a))) => (e ρ).st fun t ρ => match t.d.intO with
    | some b => if smallM a b then .nx (ρ.set i (some (.sh (.int (a * b))))) else .bad
    | none => .bad
  | _ => .bad
theorem ss_augM {i : Nat} {te : TE} {e : EM} (he : SE ct Wx te e) (hi : i ∉ pin) : SS ct Wx pin (tAug i te ipM) (mAugM i e) := fun W S0 σ0 ρ σ H D g p k => by
  unfold mAugM at k
  split at k
  case h_2 => exact k.elim
  rename_i a e0
  obtain ⟨v0, hv0, r0⟩ := g.rv i _ e0
  cases r0
  refine ⟨_, hv0, he W S0 ρ σ [] [] H _ g ((SK.st p k).mono (fun t ρ1 k1 v H1 g1 => ?_) fun _ _ h => h)⟩
  split at k1
  case h_2 => exact k1.elim
  rename_i b e1
  obtain ⟨hs, k1⟩ := SK_ite k1
  have q := g1.tmp
  rw [intO_int e1] at q
  refine ⟨a, b, rfl, q, hs, k1 _ _ ?_ (p.set hi)⟩
  exact GX.putA (g1.pop1.pushC (S := H1) (d := .int (a * b)) (v := .int (a * b)) rfl rfl) i
end
end Z

namespace Z
noncomputable section
open PySem L2
variable {ct : CT} {Wx : XW} {W S0 S H H' : Hp} {ρ : Env} {σ σ0 : St} {t u : T} {l ts us tm its : List T} {v w : V} {vs ws vm : List V} {as bs : List Addr} {i : Nat} {d : D} {pin : List Nat} {D0 : Ends} {K : PySem.W.Frag}
/-! ### d.get(k, x) -/
def valD (ks : List Key) (l : List D) (k : Key) : Option D := ((ks.zip l).find? fun p => decide (p.1 = k)).map (·.2)
theorem valD_rp {k : Key} : ∀ {ks : List Key} {l : List D} {vs : List V}, ks.length = l.length → Rpl H l vs → (valD ks l k = none ∧ valV (ks.zip vs) k = none) ∨ ∃ d v, valD ks l k = some d ∧ valV (ks.zip vs) k = some v ∧ Rp H d v
  | [], [], vs, _, _ => .inl ⟨rfl, by simp [valV]⟩
  | [], _ :: _, _, h, _ => by simp at h
  | _ :: _, [], _, h, _ => by simp at h
  | a :: ks, d :: l, vs, h, r => by
    obtain ⟨v, vs', rfl, r1, r2⟩ := r
    by_cases e : a = k
    · exact .inr ⟨d, v, by simp [valD, e], by simp [valV, e], r1⟩
    · rcases valD_rp (k := k) (by simpa using h) r2 with ⟨h1, h2⟩ | ⟨d', v', h1, h2, h3⟩
      · exact .inl ⟨by simpa [valD, e] using h1, by simpa [valV, e] using h2⟩
      · exact .inr ⟨d', v', by simpa [valD, e] using h1, by simpa [valV, e] using h2, h3⟩
def pDGet2 (a b c : PM) : PM := fun ρ => match a ρ, b ρ, c ρ with
  | some (.dic ks l), some x, some dx => if ks.length = l.length then (keyD x).map fun k => (valD ks l k).getD dx else none
  | _, _, _ => none
theorem sp_dGet2 {ta tb tc : TE} {a b c : PM} (ha : SP ta a) (hb : SP tb b) (hc : SP tc c) : SP (tDGet2 ta tb tc) (pDGet2 a b c) := fun ρ σ H g d h Q q => by
  unfold pDGet2 at h
  split at h
  case h_2 => cases h
  rename_i ks l x dx e1 e2 e3
  obtain ⟨hl0, h⟩ := ite_some h
  obtain ⟨k, e4, rfl⟩ := Option.map_eq_some_iff.mp h
  refine ha ρ σ H g _ e1 _ fun w H1 s1 r1 => ?_
  obtain ⟨p, vs, rfl, hH, hl, hr⟩ := r1
  refine ⟨p, rfl, .inl ⟨_, .inl hH⟩, hb ρ σ H1 (g.ext s1) x e2 _ fun v H2 s2 r2 => hc ρ σ H2 (g.ext (s1.trans s2)) dx e3 _ fun z H3 s3 r3 => ?_⟩
  have hk := keyD_rp e4 r2
  subst hk
  refine ⟨_, DGet.k ((s2.trans s3) _ _ hH), ?_⟩
  rcases valD_rp (k := k) hl0 (hr.mono (s2.trans s3)) with ⟨h1, h2⟩ | ⟨d', v', h1, h2, h3⟩
  · exact q _ H3 ((s1.trans s2).trans s3) (by rw [h1, h2]; exact r3)
  · exact q _ H3 ((s1.trans s2).trans s3) (by rw [h1, h2]; exact h3)
/-! ### d[k] = c, k new or there -/
def putL {α : Type} (ks : List Key) (l : List α) (k : Key) (u : α) : List α := (ks.zip l).map fun p => if p.1 = k then u else p.2
theorem putL_len {α : Type} {ks : List Key} {l : List α} {k : Key} {u : α} (h : ks.length = l.length) : (putL ks l k u).length = l.length := by
  unfold putL
  rw [List.length_map, List.length_zip]
  omega
theorem putL_zip {k : Key} {z : V} : ∀ {ks : List Key} {xs : List V}, ks.length = xs.length → ((ks.zip xs).map fun kv => if kv.1 = k then (kv.1, z) else kv) = ks.zip (putL ks xs k z)
  | [], _, _ => rfl
  | _ :: _, [], h => by simp at h
  | a :: ks, x :: xs, h => by
    have ih := putL_zip (k := k) (z := z) (ks := ks) (xs := xs) (by simpa using h)
    unfold putL at ih ⊢
    simp only [List.zip_cons_cons, List.map_cons, ih]
    by_cases e : a = k <;> simp [e]
theorem Rtl.putS {k : Key} {z : V} (hz : Rp S d z) : ∀ {ks : List Key} {ts : List T} {xs : List V} {b : List Addr}, ks.length = ts.length → ts.all T.isSh = true → Rtl S H ts xs b → b = [] ∧ Rtl S H (putL ks ts k (.sh d)) (putL ks xs k z) []
  | [], [], xs, b, _, _, h => by
    obtain ⟨rfl, rfl⟩ := h
    exact ⟨rfl, rfl, rfl⟩
  | [], _ :: _, _, _, h, _, _ => by simp at h
  | _ :: _, [], _, _, h, _, _ => by simp at h
  | a :: ks, t :: ts, xs, b, h, hs, r => by
    obtain ⟨v, r', c1, c2, rfl, rfl, r1, r2⟩ := r
    simp only [List.all_cons, Bool.and_eq_true] at hs
    obtain ⟨rfl, ih⟩ := Rtl.putS hz (by simpa using h) hs.2 r2
    cases t with
    | sh d' =>
      obtain ⟨rfl, r1⟩ := r1
      refine ⟨rfl, ?_⟩
      show Rtl S H (_ :: _) (_ :: _) _
      refine ⟨_, _, [], [], rfl, rfl, ?_, ih⟩
      by_cases e : a = k
      · simp only [e, if_true]; exact ⟨rfl, hz⟩
      · simp only [e, if_false]; exact ⟨rfl, r1⟩
    | _ => simp [T.isSh] at hs
def mPutG (i : Nat) (kx c : PM) : SM := fun ρ => match ρ[i]?, kx ρ, c ρ with
  | some (some (.od ks ts)), some x, some d => match keyD x with
    | some k => if d.scal = true ∧ ts.length < lim ∧ ks.length = ts.length ∧ ts.all T.isSh = true then (if hasK ks k = true then .nx (ρ.set i (some (.od ks (putL ks ts k (.sh d))))) else .nx (ρ.set i (some (.od (ks ++ [k]) (ts ++ [.sh d]))))) else .bad
    | none => .bad
  | _, _, _ => .bad
theorem ss_putG {i : Nat} {tk tc : TE} {kx c : PM} (hk : SP tk kx) (hc : SP tc c) : SS ct Wx pin (sDPut (tVar i) tk tc) (mPutG i kx c) := fun W S0 σ0 ρ σ H D g p k => by
  by_cases hn : ∀ ks ts, ρ[i]? = some (some (.od ks ts)) → ∀ x kk, kx ρ = some x → keyD x = some kk → hasK ks kk = false
  · refine ss_putD (ct := ct) (Wx := Wx) hk hc W S0 σ0 ρ σ H D g p ?_
    unfold mPutG at k
    split at k
    case h_2 => exact k.elim
    rename_i ks ts x d e1 e2 e3
    split at k
    case h_2 => exact k.elim
    rename_i kk e4
    have h1 := hn ks ts e1 x kk e2 e4
    obtain ⟨⟨hs, hz, _, _⟩, k⟩ := SK_ite k
    rw [if_neg (by rw [h1]; decide)] at k
    have hD : mPutD i kx c ρ = .nx (ρ.set i (some (.od (ks ++ [kk]) (ts ++ [.sh d])))) := by
      unfold mPutD
      rw [e1, e2, e3]
      show (match keyD x with | some k => (if hasK ks k = false ∧ d.scal = true ∧ ts.length < lim then SOut.nx (ρ.set i (some (T.od (ks ++ [k]) (ts ++ [T.sh d])))) else .bad) | none => .bad) = _
      rw [e4]
      exact if_pos ⟨h1, hs, hz⟩
    rw [hD]
    exact k
  · have hex : ∃ ks ts x kk, ρ[i]? = some (some (.od ks ts)) ∧ kx ρ = some x ∧ keyD x = some kk ∧ hasK ks kk = true := by
      apply Classical.byContradiction
      intro q
      apply hn
      intro ks ts e1 x kk e2 e3
      cases e4 : hasK ks kk with
      | false => rfl
      | true => exact absurd ⟨ks, ts, x, kk, e1, e2, e3, e4⟩ q
    obtain ⟨ks0, ts0, x0, kk0, a1, a2, a3, a4⟩ := hex
    unfold mPutG at k
    split at k
    case h_2 => exact k.elim
    rename_i ks ts x d e1 e2 e3
    rw [a1] at e1; cases e1
    rw [a2] at e2; cases e2
    rw [a3] at k
    simp only at k
    obtain ⟨⟨hs, hz, hl, hsh⟩, k⟩ := SK_ite k
    rw [if_pos a4] at k
    obtain ⟨vd, hv, g1⟩ := g.take a1
    refine hc ρ σ H g.rv _ e3 _ fun z H1 s1 r1 => ⟨vd, hv, ?_⟩
    refine hk ρ σ H1 (g.rv.ext s1) _ a2 _ fun y H2 s2 r2 => ?_
    have hy := keyD_rp a3 r2
    subst hy
    obtain ⟨a, xs, rfl, h1, h2, h3, mk⟩ := ((g1.ext s1).ext s2).mutD
    refine ⟨a, _, rfl, DPut.k h1 (lim_lt (by rw [List.length_zip]; omega)), ?_⟩
    have e5 : putK (ks0.zip xs) kk0 z = ks0.zip (putL ks0 xs kk0 z) := by
      unfold putK
      rw [any_zip (by omega), if_pos a4, putL_zip (by omega)]
    rw [e5]
    have g3 := mk ks0 (putL ks0 ts0 kk0 (.sh d)) [] (putL ks0 xs kk0 z) [] (by rw [putL_len hl]; exact hl) (fun S H b c hb hc => by
      obtain ⟨h4, rfl⟩ := hc
      obtain ⟨rfl, h6⟩ := Rtl.putS (k := kk0) (r1.scal hs) hl hsh hb
      exact ⟨[], [], h6, ⟨rfl, rfl⟩, by simp, by simp⟩)
    have g4 := g3.back hv
    rw [List.set_set] at g4
    exact k _ _ g4 p
end
end Z

namespace Z
noncomputable section
open PySem L2
variable {ct : CT} {Wx : XW} {W S0 S H H' : Hp} {ρ : Env} {σ σ0 : St} {t u : T} {l ts us tm its : List T} {v w : V} {vs ws vm : List V} {as bs : List Addr} {i : Nat} {d : D} {pin : List Nat} {D0 : Ends} {K : PySem.W.Frag}
/-! ### for k, v in d.items(): d at a name; behind the loop the name holds nothing -/
theorem GX.asideD {ks : List Key} (g : GX W S0 ρ σ tm vm H) (e : ρ[i]? = some (some (.od ks ts))) : ∃ a xs S, σ[i]? = some (some (.ref a)) ∧ H a = some (.dK (ks.zip xs)) ∧ ks.length = ts.length ∧ xs.length = ts.length ∧ Rpl S (ts.map T.d) xs ∧ Up W S0 S ∧ S a = none ∧ W a = none ∧
    ∀ o : HO, GX (also W (upd H a o) a) S (ρ.set i none) σ tm vm (upd H a o) ∧
    (∀ ρ' σ' tm' vm' H' u', GX (also W (upd H a o) a) S ρ' σ' tm' vm' H' → H' a = some o ∧ GX W S0 ρ' σ' tm' vm' (upd H' a u')) := by
  obtain ⟨v, e1, g1⟩ := g.take e
  obtain ⟨S, as, bs, g1⟩ := g1
  obtain ⟨v', r, c1, c2, h3, rfl, ⟨a, xs, b, rfl, rfl, h4, h7, h5⟩, h6⟩ := g1.rt
  cases h3
  have nd := g1.nd
  have fs := g1.fs
  have fw := g1.fw
  have eS : Same S (more S H b) := more_same (by grind)
  have hr : Rpl (more S H b) (ts.map T.d) xs := h5.fzs eS fun x hx o h => by rw [more_in hx]; exact h
  have ha : a ∉ b := by grind
  have hSa : S a = none := fs a (by grind)
  have hWa : W a = none := fw a (by grind)
  have hMa : more S H b a = none := by rw [more_out ha]; exact hSa
  have hup : Up W S0 (more S H b) := ⟨g1.s0.trans eS, fun x h k => by
    by_cases q : x ∈ b
    · exact absurd (fw x (by grind)) h
    · rw [more_out q] at k; exact g1.nw x h k⟩
  refine ⟨a, xs, more S H b, e1, h4, h7, h5.len, hr, hup, hMa, hWa, fun o => ?_⟩
  have sW : ∀ x, x ≠ a → also W (upd H a o) a x = W x := fun x h => also_ne h
  have wSame : Same W (also W (upd H a o) a) := fun x o' h => by
    rw [sW x (by rintro rfl; rw [hWa] at h; cases h)]; exact h
  have hat : also W (upd H a o) a a = some o := by rw [also_at]; exact if_pos rfl
  have hne : ∀ x, x ≠ a → upd H a o x = H x := fun x h => if_neg h
  refine ⟨?_, fun ρ' σ' tm' vm' H' u' g' => ?_⟩
  · refine ⟨more S H b, as, c2, fun _ _ h => h, fun x o' h => ?_, fun x o' h => ?_, fun _ _ h => h, g1.re.mono eS fun x hx => hne x (by grind), h6.mono eS fun x hx => hne x (by grind), by grind, fun x hx => ?_, fun x hx => ?_⟩
    · rw [hne x (by rintro rfl; rw [hMa] at h; cases h)]
      exact more_sub g1.sh x o' h
    · by_cases q : x = a
      · subst q; rw [hat] at h; cases h; exact if_pos rfl
      · rw [sW x q] at h; rw [hne x q]; exact g1.wh x o' h
    · have q : x ∉ b := by grind
      rw [more_out q]; exact fs x (by grind)
    · rw [sW x (by rintro rfl; grind)]; exact fw x (by grind)
  · obtain ⟨S', as', bs', g'⟩ := g'
    have hHa : H' a = some o := g'.wh a _ hat
    have hS'a : S' a = none := by
      cases q : S' a with
      | none => rfl
      | some o' => exact absurd hMa (g'.nw a (by rw [hat]; simp) (by rw [q]; simp))
    have fw' := g'.fw
    have hnm : ∀ x ∈ as' ++ bs', x ≠ a := fun x hx q => by
      have := fw' x hx
      rw [q, hat] at this; cases this
    have hne' : ∀ x, x ≠ a → upd H' a u' x = H' x := fun x h => if_neg h
    refine ⟨hHa, S', as', bs', hup.1.trans g'.s0, fun x o' h => ?_, fun x o' h => ?_, fun x h k => ?_, g'.re.mono (fun _ _ h => h) fun x hx => hne' x (hnm x (by simp [hx])), g'.rt.mono (fun _ _ h => h) fun x hx => hne' x (hnm x (by simp [hx])), g'.nd, g'.fs, fun x hx => ?_⟩
    · rw [hne' x (by rintro rfl; rw [hS'a] at h; cases h)]
      exact g'.sh x o' h
    · rw [hne' x (by rintro rfl; rw [hWa] at h; cases h)]
      exact g'.wh x o' (wSame x o' h)
    · refine hup.2 x h (g'.nw x ?_ k)
      intro q
      cases hq : W x with
      | none => exact h hq
      | some o => rw [wSame x o hq] at q; cases q
    · have := fw' x hx
      cases hq : W x with
      | none => rfl
      | some o => rw [wSame x o hq] at this; cases this
def kD : Key → D
  | .inl n => .int n
  | .inr s => .str s
def itemsT : List Key → List D → List T
  | k :: ks, d :: ds => .ot [.sh (kD k), .sh d] :: itemsT ks ds
  | _, _ => []
theorem kD_rp (k : Key) : Rp H (kD k) (kV k) := by cases k <;> rfl
theorem itemsT_get : ∀ {ks : List Key} {ds : List D} {n : Nat} {k : Key} {d : D}, ks[n]? = some k → ds[n]? = some d → (itemsT ks ds)[n]? = some (.ot [.sh (kD k), .sh d])
  | k :: ks, d :: ds, 0, _, _, h1, h2 => by
    cases h1; cases h2; rfl
  | k :: ks, d :: ds, n + 1, _, _, h1, h2 => by
    have := itemsT_get (ks := ks) (ds := ds) (n := n) (by simpa using h1) (by simpa using h2)
    simpa [itemsT] using this
  | [], _, _, _, _, h1, _ => by simp at h1
  | _ :: _, [], _, _, _, _, h2 => by simp at h2
theorem itemsT_len : ∀ {ks : List Key} {ds : List D}, ks.length = ds.length → (itemsT ks ds).length = ds.length
  | [], [], _ => rfl
  | k :: ks, d :: ds, h => by
    have := itemsT_len (ks := ks) (ds := ds) (by simpa using h)
    simp [itemsT, this]
  | [], _ :: _, h => by simp at h
  | _ :: _, [], h => by simp at h
def mForI (i : Nat) (b : BM) (body : SM) : SM := fun ρ => match ρ[i]? with
  | some (some (.od ks ts)) => match forL b body (itemsT ks (ts.map T.d)) (ρ.set i none) with
    | .nx ρ' => .nx ρ'
    | _ => .bad
  | _ => .bad
theorem ss_forI {slots : List Nat} {g : TG} {tb : TS} {b : BM} {body : SM} (hg : SG slots g b) (hs : ∀ j ∈ slots, j ∉ pin) (hb : SS ct Wx pin tb body) : SS ct Wx pin (tLock (tFor (iItems (tVar i)) g tb)) (mForI i b body) := fun W S0 σ0 ρ σ H D gx p k => by
  unfold mForI at k
  split at k
  case h_2 => exact k.elim
  rename_i ks ts e0
  obtain ⟨a, xs, S, ea, hH, hl1, hl2, hr, hu, hSa, hWa, as⟩ := gx.asideD e0
  refine ⟨a, _, hH, trivial, fun od => ?_⟩
  obtain ⟨gN, out⟩ := as (.frz od (.dK (ks.zip xs)))
  refine ⟨.ref a, ea, a, od, ks.zip xs, rfl, if_pos rfl, ?_⟩
  have hlen : (ks.zip xs).length = ts.length := by rw [List.length_zip]; omega
  have hil : (itemsT ks (ts.map T.d)).length = ts.length := by rw [itemsT_len (by simpa using hl1), List.length_map]
  refine ⟨fun n m σ' H' => m = ts.length - n ∧ n ≤ ts.length ∧ ∃ ρ', GX (also W (upd H a (.frz od (.dK (ks.zip xs)))) a) S ρ' σ' [] [] H' ∧ Pin pin σ0 σ' ∧ (match forL b body ((itemsT ks (ts.map T.d)).drop n) ρ' with
      | .nx ρ' => SK ct Wx W S0 pin σ0 D (.nx ρ')
      | _ => False), ⟨_, rfl, Nat.zero_le _, _, gN, p, ?_⟩, ?_⟩
  · simp only [List.drop_zero]
    generalize forL b body (itemsT ks (ts.map T.d)) (ρ.set i none) = o at k ⊢
    cases o <;> exact k
  · rintro n m σ' H' ⟨rfl, hn, ρ', g', p', k'⟩
    have hat := (out _ _ _ _ _ (.dK (ks.zip xs)) g').1
    by_cases hlt : n < ts.length
    · refine .inr ⟨⟨hat, by omega⟩, fun σ2 H2 => n + 1 ≤ ts.length ∧ ∃ ρ', GX (also W (upd H a (.frz od (.dK (ks.zip xs)))) a) S ρ' σ2 [] [] H2 ∧ Pin pin σ0 σ2 ∧ (match forL b body ((itemsT ks (ts.map T.d)).drop (n + 1)) ρ' with
          | .nx ρ' => SK ct Wx W S0 pin σ0 D (.nx ρ')
          | _ => False), fun σ2 H2 q => ⟨_, Nat.sub_succ_lt_self _ _ hlt, rfl, q⟩, ?_⟩
      rintro x H2 ⟨q, kk, v, hkv, rfl, hq, rfl⟩
      have hk1 : ks[n]? = some kk ∧ xs[n]? = some v := by
        rw [List.getElem?_zip_eq_some] at hkv
        exact hkv
      obtain ⟨w, e2, e3⟩ := hr.get (i := n) (d := (ts[n]).d) (by simp [hlt])
      rw [hk1.2] at e2
      cases e2
      have hit := itemsT_get hk1.1 (ds := ts.map T.d) (d := (ts[n]).d) (by simp [hlt])
      have hlt' : n < (itemsT ks (ts.map T.d)).length := by omega
      rw [List.drop_eq_getElem_cons hlt', (List.getElem?_eq_some_iff.mp hit).2] at k'
      unfold forL at k'
      generalize hbt : b (.ot [.sh (kD kk), .sh (ts[n]).d]) ρ' = ob at k'
      cases ob with
      | none => exact k'.elim
      | some ρ2 =>
        simp only at k'
        obtain ⟨S1, as1, bs1, g1⟩ := g'
        obtain ⟨S2, as2, bs2, g2⟩ := g1.pushS (e3.mono g1.s0)
        have g3 := g2.pushS (kD_rp (H := S2) kk)
        have g4 := GX.newT (ts := [.sh (kD kk), .sh (ts[n]).d]) (vs := [kV kk, v]) (tm := []) (vm := []) (p := q) g3 rfl hq
        refine hg _ S ρ' σ' [] [] _ _ _ ρ2 g4 hbt _ fun σ2 g5 ew => ?_
        refine hb _ S σ0 ρ2 σ2 _ _ g5 (p'.wipe ew hs) ?_
        generalize body ρ2 = o at k'
        cases o with
        | bad => exact k'
        | nx ρ3 => exact fun σ3 H3 g6 p3 => ⟨hlt, ρ3, g6, p3, k'⟩
        | ct ρ3 => exact fun σ3 H3 g6 p3 => ⟨hlt, ρ3, g6, p3, k'⟩
        | bk ρ3 => exact fun σ3 H3 g6 p3 => ⟨(out _ _ _ _ _ (.dK (ks.zip xs)) g6).1, k' σ3 _ (out _ _ _ _ _ _ g6).2 p3⟩
        | rt t' ρ3 => exact k'.elim
        | ex x' ρ3 => exact k'.elim
    · have hn2 : n = ts.length := by omega
      subst hn2
      refine .inl ⟨⟨hat, by omega⟩, ?_⟩
      rw [List.drop_eq_nil_of_le (by omega)] at k'
      exact ⟨hat, k' σ' _ (out _ _ _ _ _ _ g').2 p'⟩
end
end Z

namespace Cl
noncomputable section
open PySem L2 Z
def b_law_pool_1 : SM := (mSeq (mAppG 1 (eP (pOp oMod (pCB (o1 oInt) (aCons (pV 3) aNil)) (pC (.int 60))))) (mSeq (mSet 3 (eP (pCB (o1 oInt) (aCons (pOp oDiv (pV 3) (pC (.int 60))) aNil)))) (mIf (eT (pB (pOp oEq (pV 3) (pC (.int 0))))) mBk mNil)))
def b_law_pool_2 : SM := (mSeq (mSet 3 (eP (pCB (o1 oInt) (aCons (pV 2) aNil)))) (mIf (eT (pB (pOp oGe (pV 3) (pOp oPow (pC (.int 10)) (pC (.int 18)))))) (mFor (iR1 (eCons (eP (pC (.int 60))) eNil)) (bName 4) b_law_pool_1) (mSet 1 (eOp eAddT (eV 1) (eLst (eCons (eP (pOp oMod (pCB (o1 oInt) (aCons (pV 3) aNil)) (pC (.int 60)))) (eCons (eP (pOp oMod (pCB (o1 oInt) (aCons (pOp oDiv (pV 3) (pC (.int 60))) aNil)) (pC (.int 60)))) eNil)))))))
def b_law_pool_3 : SM := (mSet 5 (eP (pOp oMod (pOp oAdd (pOp oMul (pV 5) (pC (.int 31))) (pCB (o1 oInt) (aCons (pV 2) aNil))) (pC (.int 2147483647)))))
def b_law_pool_4 : SM := (mSeq (mSet 5 (eP (pOp oMod (pOp oAdd (pOp oMul (pV 5) (pC (.int 48271))) (pC (.int 11))) (pC (.int 2147483647))))) (mAppG 1 (eP (pOp oMod (pCB (o1 oInt) (aCons (pOp oDiv (pV 5) (pC (.int 97))) aNil)) (pC (.int 60))))))
def m_law_pool (ns : List Int) : SM := (mSeq (mSet 1 (eLst eNil)) (mSeq (mForS ns (bName 2) b_law_pool_2) (mSeq (mSet 5 (eP (pC (.int 17)))) (mSeq (mForS ns (bName 2) b_law_pool_3) (mSeq (mFor (iR1 (eCons (eP (pC (.int 300))) eNil)) (bName 4) b_law_pool_4) (mRet (eM 1)))))))
def F_law_pool : List Int → FOut := mFunS 6 m_law_pool
def m_law_stream (ns : List Int) : SM := mRet (eOp eAddT (eLst (eCons (eP (pC (.int 1))) eNil)) (eCallS F_law_pool ns))
def F_law_stream : List Int → FOut := mFunS 1 m_law_stream
def m_law_pick : SM := (mSeq (mSet 2 (eGet (vIx (vV 0) (pC (.int 0))))) (mSeq (mStore 0 (eP (pOp oAdd (pV 2) (pC (.int 1)))) (pC (.int 0))) (mSeq (mIf (eT (pB (pOp oEq (pOp oIx (pV 0) (pC (.int 0))) (pCB (o1 oLen) (aCons (pV 0) aNil))))) (mStore 0 (eP (pC (.int 1))) (pC (.int 0))) mNil) (mRet (eP (pOp oMod (pCB (o1 oInt) (aCons (pOp oIx (pV 0) (pV 2)) aNil)) (pV 1)))))))
def F_law_pick : FM := mFunI 2 3 m_law_pick
def b_law_turning_1 : SM := (mSeq (mSet 5 (eCallI 2 0 F_law_pick (eCons (eP (pCB (o1 oLen) (aCons (pV 2) aNil))) eNil))) (mSeq (mAppG 3 (eGet (vIx (vV 2) (pV 5)))) (mSet 2 (eOp eAddT (eSl (vV 2) oNo (oYes (pV 5))) (eSl (vV 2) (oYes (pOp oAdd (pV 5) (pC (.int 1)))) oNo)))))
def m_law_turning : SM := (mSeq (mPar 2 3 (eCons (eRg1 (pV 1)) (eCons (eLst eNil) eNil))) (mSeq (mFor (iR1 (eCons (eV 1) eNil)) (bName 4) b_law_turning_1) (mRet (eM 3))))
def F_law_turning : FM := mFunI 2 6 m_law_turning
/-! ### the pool -/
def Pool (t : T) : Prop := ∃ (c : Int) (r : List Int), t = T.ints (c :: r) ∧ 1 ≤ c ∧ c ≤ r.length ∧ (∀ x ∈ r, 0 ≤ x ∧ x < 60) ∧ r.length ≤ 10000
theorem pick_ok {t : T} {m : Int} (hp : Pool t) (hm : 1 ≤ m) : ∃ t' x, Pool t' ∧ 0 ≤ x ∧ x < m ∧ x < 60 ∧ F_law_pick [t, si m] = .ok (si x) [t', si m] := by
  obtain ⟨c, r, rfl, h1, h2, h3, h4⟩ := hp
  let c' : Int := if c + 1 = (r.length : Int) + 1 then 1 else c + 1
  have hx : ∃ x, (c' :: r).getD c.toNat 0 = x ∧ 0 ≤ x ∧ x < 60 := by
    refine ⟨_, rfl, ?_⟩
    obtain ⟨k, hk⟩ : ∃ k, c.toNat = k + 1 := ⟨c.toNat - 1, by omega⟩
    rw [hk, List.getD_cons_succ]
    have : k < r.length := by omega
    rw [List.getD_eq_getElem?_getD, List.getElem?_eq_getElem this]
    exact h3 _ (List.getElem_mem this)
  obtain ⟨x, ex, hx0, hx1⟩ := hx
  have ea : atI ((c' :: r).map D.int) c = some (.int x) := by rw [atI_D _ (by omega) (by simp; omega), ex]
  refine ⟨T.ints (c' :: r), x % m, ⟨c', r, rfl, ?_, ?_, h3, h4⟩, Int.emod_nonneg _ (by omega), Int.emod_lt_of_pos _ (by omega), ?_, ?_⟩
  · show 1 ≤ if c + 1 = (r.length : Int) + 1 then 1 else c + 1
    split <;> omega
  · show (if c + 1 = (r.length : Int) + 1 then 1 else c + 1) ≤ (r.length : Int)
    split <;> omega
  · have h5 : x % m ≤ x := by
      by_cases q : x < m
      · rw [Int.emod_eq_of_lt hx0 q]; exact Int.le_refl _
      · have := Int.emod_lt_of_pos x (show 0 < m by omega); omega
    omega
  · by_cases hc : c + 1 = (r.length : Int) + 1
    · have e' : c' = 1 := if_pos hc
      rw [e'] at ea ⊢
      simp at ea
      simp [F_law_pick, m_law_pick, hc, ea, mod_int (show 0 < m by omega)]
    · have e' : c' = c + 1 := if_neg hc
      rw [e'] at ea ⊢
      simp at ea
      simp [F_law_pick, m_law_pick, hc, ea, mod_int (show 0 < m by omega)]
theorem inR60 : InR 60 := InR.of (by decide) (by decide)
theorem inR300 : InR 300 := InR.of (by decide) (by decide)
theorem pow18 : oPow (.int 10) (.int 18) = some (.int 1000000000000000000) := pow_int ⟨by decide, by decide, by decide⟩
theorem mod60 (x : Int) : 0 ≤ x % 60 ∧ x % 60 < 60 := ⟨Int.emod_nonneg _ (by decide), Int.emod_lt_of_pos _ (by decide)⟩
def Small (P : List Int) : Prop := ∀ x ∈ P, 0 ≤ x ∧ x < 60
theorem Small.app {P : List Int} {x : Int} (h : Small P) (hx : 0 ≤ x ∧ x < 60) : Small (P ++ [x]) := fun y hy => by
  rcases List.mem_append.mp hy with h1 | h1
  · exact h y h1
  · rw [List.mem_singleton.mp h1]; exact hx
theorem pool_ok (ns : List Int) (hn : ns.length ≤ 63) : ∃ P, Small P ∧ 300 ≤ P.length ∧ P.length ≤ 5000 ∧ F_law_pool ns = .ok (T.ints P) [] := by
  have md : ∀ x : Int, oMod (.int x) (.int 60) = some (.int (x % 60)) := fun x => mod_int (by decide)
  have dv : ∀ x : Int, oDiv (.int x) (.int 60) = some (.int (x / 60)) := fun x => div_int (by decide) (by decide)
  obtain ⟨ρ1, e1, P1, j2, j3, j4, rfl, s1, l1⟩ : ∃ ρ', forL (bName 2) b_law_pool_2 (ns.map ig) [none, some (.ol []), none, none, none, none] = .nx ρ' ∧ ∃ P j2 j3 j4, ρ' = [none, some (.ol (P.map ig)), j2, j3, j4, none] ∧ Small P ∧ P.length ≤ 60 * ns.length := by
    refine (forN_inv (fun k ρ => ∃ P j2 j3 j4, ρ = [none, some (.ol (P.map ig)), j2, j3, j4, none] ∧ Small P ∧ P.length ≤ 60 * k) ⟨[], none, none, none, rfl, fun _ h => (nomatch h), by simp⟩ ?_).imp fun ρ' h => ⟨h.1, by simpa using h.2⟩
    rintro k t ρ e ⟨P, j2, j3, j4, rfl, hs, hl⟩
    rw [List.getElem?_map] at e
    obtain ⟨c, ec, rfl⟩ := Option.map_eq_some_iff.mp e
    have hk : k < ns.length := (List.getElem?_eq_some_iff.mp ec).1
    by_cases hc : 1000000000000000000 ≤ c
    · obtain ⟨ρ2, e2, P2, x3, x4, rfl, hs2, hl2⟩ : ∃ ρ', forL (bName 4) b_law_pool_1 (rangeT 0 60) [none, some (.ol (P.map ig)), some (si c), some (si c), j4, none] = .nx ρ' ∧ ∃ P2 x3 x4, ρ' = [none, some (.ol (P2.map ig)), some (si c), x3, x4, none] ∧ Small P2 ∧ P2.length ≤ 60 * (k + 1) := by
        refine forL_brk (fun j ρ => ∃ P2 y x4, ρ = [none, some (.ol (P2.map ig)), some (si c), some (si y), x4, none] ∧ Small P2 ∧ P2.length ≤ 60 * k + j) (fun ρ' => ∃ P2 x3 x4, ρ' = [none, some (.ol (P2.map ig)), some (si c), x3, x4, none] ∧ Small P2 ∧ P2.length ≤ 60 * (k + 1)) ⟨P, c, j4, rfl, hs, hl⟩ ?_ ?_
        · rintro j t ρ e ⟨P2, y, x4, rfl, hs2, hl2⟩
          obtain ⟨hj, rfl⟩ := rangeT_get e
          have hz : P2.length < lim := by unfold lim; omega
          by_cases hy : y / 60 = 0
          · refine ⟨_, [none, some (.ol ((P2 ++ [y % 60]).map ig)), some (si c), some (si (y / 60)), some (si (0 + j)), none], rfl, .inr ⟨?_, P2 ++ [y % 60], _, _, rfl, hs2.app (mod60 _), by simp; omega⟩⟩
            simp [b_law_pool_1, md, dv, hy, hz]
          · refine ⟨_, [none, some (.ol ((P2 ++ [y % 60]).map ig)), some (si c), some (si (y / 60)), some (si (0 + j)), none], rfl, .inl ⟨.inl ?_, P2 ++ [y % 60], _, _, rfl, hs2.app (mod60 _), by simp; omega⟩⟩
            simp [b_law_pool_1, md, dv, hy, hz]
        · rintro ρ ⟨P2, y, x4, rfl, hs2, hl2⟩
          rw [rangeT_len] at hl2
          exact ⟨P2, _, _, rfl, hs2, by omega⟩
      refine ⟨_, .inl ?_, P2, some (si c), x3, x4, rfl, hs2, hl2⟩
      simp [b_law_pool_2, pow18, hc, inR60, -rangeT_iota, e2]
    · refine ⟨_, .inl ?_, P ++ [c % 60, c / 60 % 60], some (si c), some (si c), j4, rfl, ?_, by simp; omega⟩
      · have hz : P.length + 2 ≤ lim := by unfold lim; omega
        have ha := addT_lst (t := .sh (.lst (P.map .int))) (u := .ol [si (c % 60), si (c / 60 % 60)]) (els_sh _) (els_ol _) (by simpa using hz)
        simp at ha
        simp [b_law_pool_2, pow18, hc, md, dv, ha]
      · have := (hs.app (mod60 c)).app (mod60 (c / 60))
        simpa using this
  obtain ⟨ρ2, e2, s, j2', rfl⟩ : ∃ ρ', forL (bName 2) b_law_pool_3 (ns.map ig) [none, some (.ol (P1.map ig)), j2, j3, j4, some (si 17)] = .nx ρ' ∧ ∃ s j2', ρ' = [none, some (.ol (P1.map ig)), j2', j3, j4, some (si s)] := by
    refine forN_inv (fun k ρ => ∃ s j2', ρ = [none, some (.ol (P1.map ig)), j2', j3, j4, some (si s)]) ⟨17, j2, rfl⟩ ?_
    rintro k t ρ e ⟨s, j2', rfl⟩
    rw [List.getElem?_map] at e
    obtain ⟨c, ec, rfl⟩ := Option.map_eq_some_iff.mp e
    refine ⟨_, .inl ?_, (s * 31 + c) % 2147483647, some (si c), rfl⟩
    simp [b_law_pool_3, mul_int (small_r (i := s) (j := 31) ⟨by decide, by decide⟩), mod_int (i := s * 31 + c) (j := 2147483647) (by decide)]
  obtain ⟨ρ3, e3, P3, s', j4', rfl, s3, l3⟩ : ∃ ρ', forL (bName 4) b_law_pool_4 (rangeT 0 300) [none, some (.ol (P1.map ig)), j2', j3, j4, some (si s)] = .nx ρ' ∧ ∃ P3 s' j4', ρ' = [none, some (.ol (P3.map ig)), j2', j3, j4', some (si s')] ∧ Small P3 ∧ P3.length = P1.length + 300 := by
    refine (forN_inv (fun k ρ => ∃ P3 s' j4', ρ = [none, some (.ol (P3.map ig)), j2', j3, j4', some (si s')] ∧ Small P3 ∧ P3.length = P1.length + k) ⟨P1, s, j4, rfl, s1, rfl⟩ ?_).imp fun ρ' h => ⟨h.1, by simpa [rangeT_len] using h.2⟩
    rintro k t ρ e ⟨P3, s', j4', rfl, s3, l3⟩
    obtain ⟨hk, rfl⟩ := rangeT_get e
    have hz : P3.length < lim := by unfold lim; omega
    refine ⟨_, .inl ?_, P3 ++ [(s' * 48271 + 11) % 2147483647 / 97 % 60], (s' * 48271 + 11) % 2147483647, some (si (0 + k)), rfl, s3.app (mod60 _), by simp; omega⟩
    simp [b_law_pool_4, mul_int (small_r (i := s') (j := 48271) ⟨by decide, by decide⟩), mod_int (i := s' * 48271 + 11) (j := 2147483647) (by decide), md, div_int (i := (s' * 48271 + 11) % 2147483647) (j := 97) (by decide) (by decide), hz]
  refine ⟨P3, s3, by omega, by omega, ?_⟩
  show (match m_law_pool ns (List.replicate 6 none) with | .rt t _ => FOut.ok t [] | _ => .bad) = _
  simp only [m_law_pool]
  have ens : (ns.map fun i => T.sh (.int i)) = ns.map ig := rfl
  simp [ens, e1, e2, inR300, -rangeT_iota, e3]
theorem stream_ok (ns : List Int) (hn : ns.length ≤ 63) : ∃ t, Pool t ∧ F_law_stream ns = .ok t [] := by
  obtain ⟨P, h1, h2, h3, e⟩ := pool_ok ns hn
  refine ⟨T.ints (1 :: P), ⟨1, P, rfl, by omega, by omega, h1, by omega⟩, ?_⟩
  show (match m_law_stream ns (List.replicate 1 none) with | .rt t _ => FOut.ok t [] | _ => .bad) = _
  have ha := addT_lst (t := .ol [si 1]) (u := T.ints P) (els_ol _) (els_ol _) (by simp; unfold lim; omega)
  simp at ha
  simp [m_law_stream, e, ha]
end
end Cl

namespace Cl
noncomputable section
open PySem L2 Z
/-! ### drawn turnings -/
def Turn (n : Nat) (p : List Int) : Prop := p.Perm (iota n)
theorem Turn.len {n : Nat} {p : List Int} (h : Turn n p) : p.length = n := by have := List.Perm.length_eq h; simpa using this
theorem Turn.mem {n : Nat} {p : List Int} (h : Turn n p) {x : Int} : x ∈ p ↔ 0 ≤ x ∧ x < n := by rw [List.Perm.mem_iff h, mem_iota]
theorem Turn.at {n : Nat} {p : List Int} (h : Turn n p) {k : Nat} (hk : k < n) : 0 ≤ p.getD k 0 ∧ p.getD k 0 < n := by
  have hl := h.len
  have : p.getD k 0 ∈ p := by
    rw [List.getD_eq_getElem?_getD, List.getElem?_eq_getElem (by omega)]
    exact List.getElem_mem _
  exact h.mem.mp this
theorem take_drop_perm {l : List Int} {a : Nat} (h : a < l.length) (f : List Int) : ((f ++ [l.getD a 0]) ++ (l.take a ++ l.drop (a + 1))).Perm (f ++ l) := by
  have e : l = l.take a ++ l.getD a 0 :: l.drop (a + 1) := by
    rw [List.getD_eq_getElem?_getD, List.getElem?_eq_getElem h]
    simp
  rw [List.append_assoc]
  refine List.Perm.append_left f ?_
  conv => rhs; rw [e]
  rw [List.singleton_append]
  exact List.perm_middle.symm
theorem turning_loop {t : T} {n : Nat} (hp : Pool t) (hn : n ≤ 1000) : ∃ ρ', forL (bName 4) b_law_turning_1 (rangeT 0 n) [some t, some (si n), some (T.ints (iota n)), some (T.ints []), none, none] = .nx ρ' ∧
      ∃ P fnd jx ja, ρ' = [some P, some (si n), some (T.ints []), some (T.ints fnd), jx, ja] ∧ Pool P ∧ fnd.Perm (iota n) ∧ fnd.length = n := by
    refine (forN_inv (fun k ρ => ∃ P lft fnd jx ja, ρ = [some P, some (si n), some (T.ints lft), some (T.ints fnd), jx, ja] ∧ Pool P ∧ (fnd ++ lft).Perm (iota n) ∧ lft.length + k = n ∧ fnd.length = k) ⟨t, iota n, [], none, none, rfl, hp, List.Perm.refl _, by simp, rfl⟩ ?_).imp fun ρ' h => ⟨h.1, ?_⟩
    · rintro k t ρ e ⟨P, lft, fnd, jx, ja, rfl, hP, hpm, hl, hf⟩
      obtain ⟨hk, rfl⟩ := rangeT_get e
      obtain ⟨P', x, hP', hx0, hx1, hx2, e2⟩ := pick_ok (m := (lft.length : Int)) hP (by omega)
      have hx : x.toNat < lft.length := by omega
      refine ⟨_, .inl ?_, P', lft.take x.toNat ++ lft.drop (x.toNat + 1), fnd ++ [lft.getD x.toNat 0], some (si (0 + k)), some (si x), rfl, hP', (take_drop_perm hx fnd).trans hpm, by simp; omega, by simp; omega⟩
      have ha := addT_lst (t := T.ints (lft.take x.toNat)) (u := T.ints (lft.drop (x.toNat + 1))) (els_ol _) (els_ol _) (by simp [lim]; omega)
      have hz : fnd.length < lim := by unfold lim; omega
      have h4 : (x + 1).toNat = x.toNat + 1 := by omega
      simp at ha
      simp [b_law_turning_1, e2, atI_T lft hx0 hx1, cut_to lft hx0 (by omega), cut_from lft (i := x + 1) (by omega) (by omega), h4, ha, hz]
    · obtain ⟨P, lft, fnd, jx, ja, rfl, hP, hpm, hl, hf⟩ := h.2
      rw [rangeT_len] at hl hf
      have : lft = [] := List.length_eq_zero_iff.mp (by omega)
      subst this
      exact ⟨P, fnd, jx, ja, rfl, hP, by simpa using hpm, hf⟩
theorem turning_ok {t : T} {n : Nat} (hp : Pool t) (hn : n ≤ 1000) : ∃ t' p, Pool t' ∧ Turn n p ∧ F_law_turning [t, si n] = .ok (T.ints p) [t', si n] := by
  obtain ⟨ρ', e1, P, fnd, jx, ja, rfl, hP, hpm, hl⟩ := turning_loop hp hn
  refine ⟨P, fnd, hP, hpm, ?_⟩
  have hr : rgOk 0 (n : Int) = true := rgOk_of (by omega) (by omega) (by omega) (by omega)
  have hb : InR (n : Int) := InR.of (by omega) (by omega)
  simp at e1
  simp [F_law_turning, m_law_turning, hr, hb, e1]
end
end Cl

namespace Cl
noncomputable section
open PySem L2 Z
theorem inR_nat {n : Nat} (h : n ≤ 1000000) : InR (n : Int) := InR.of (by omega) (by omega)
theorem getD_set {l : List Int} {i j : Nat} {v : Int} (h : i < l.length) : (l.set i v).getD j 0 = if i = j then v else l.getD j 0 := by
  rw [List.getD_eq_getElem?_getD, List.getD_eq_getElem?_getD, List.getElem?_set]
  by_cases e : i = j
  · subst e; rw [if_pos rfl, if_pos h, if_pos rfl]; rfl
  · rw [if_neg e, if_neg e]
theorem getD_at {l : List Int} {i : Nat} (h : i < l.length) : l.getD i 0 = l[i] := by
  rw [List.getD_eq_getElem?_getD, List.getElem?_eq_getElem h]; rfl
theorem Turn.nodup {n : Nat} {p : List Int} (h : Turn n p) : p.Nodup := by
  rw [List.Perm.nodup_iff h]
  unfold iota
  rw [List.nodup_iff_pairwise_ne, List.pairwise_map]
  exact List.Pairwise.imp (fun {a b} h e => h (by omega)) (List.nodup_range (n := n))
/-- what stands at the places of a row -/
def via (p f : List Int) : List Int := p.map fun x => f.getD x.toNat 0
@[simp] theorem via_len (p f : List Int) : (via p f).length = p.length := by simp [via]
theorem via_get {p f : List Int} {i : Nat} (h : i < p.length) : (via p f).getD i 0 = f.getD (p.getD i 0).toNat 0 := by
  rw [getD_at (by simpa using h), getD_at h]
  simp [via]
theorem via_set {n : Nat} {p f : List Int} (hp : Turn n p) (hf : f.length = n) {i : Nat} (hi : i < n) (v : Int) : via p (f.set (p.getD i 0).toNat v) = (via p f).set i v := by
  have hl := hp.len
  apply List.ext_getElem
  · simp
  · intro j h1 h2
    simp only [via_len] at h1
    have hi' := hp.at hi
    have hj' := hp.at (show j < n by omega)
    have e1 := getD_at (l := via p (f.set (p.getD i 0).toNat v)) (i := j) (by simpa using h1)
    rw [← e1, via_get h1, getD_set (by omega)]
    rw [List.getElem_set]
    by_cases e : i = j
    · subst e; simp
    · have : (p.getD i 0).toNat ≠ (p.getD j 0).toNat := by
        intro q
        have hnd := hp.nodup
        have hpi : p.getD i 0 = p[i] := getD_at (show i < p.length by omega)
        have hpj : p.getD j 0 = p[j] := getD_at h1
        rw [hpi] at hi' q
        rw [hpj] at hj' q
        have q2 : p[i] = p[j] := by omega
        have hpw := List.pairwise_iff_getElem.mp hnd
        rcases Nat.lt_or_gt_of_ne e with c | c
        · exact hpw i j (by omega) h1 c q2
        · exact hpw j i h1 (by omega) c q2.symm
      rw [if_neg this, if_neg e, ← via_get h1, getD_at (by simpa using h1)]
theorem perm_of_via {n : Nat} {p f R : List Int} (hp : Turn n p) (hf : f.length = n) (e : via p f = R) (hR : R.Perm p) : Turn n f := by
  have h1 : via (iota n) f = f := by
    apply List.ext_getElem
    · simp [hf]
    · intro j h1 h2
      have e1 := getD_at (l := via (iota n) f) (i := j) h1
      rw [← e1, via_get (by simpa using h1), iota_getD n j (by simpa using h1)]
      rw [Int.toNat_natCast]
      exact getD_at h2
  have h2 : (via p f).Perm (via (iota n) f) := List.Perm.map _ hp
  rw [h1, e] at h2
  exact h2.symm.trans (hR.trans hp)
/-- a block turned on by one -/
theorem block_perm {R B Q : List Int} {p : List Int} (h : (R ++ B ++ Q).Perm p) : (R ++ (B.drop 1 ++ B.take 1) ++ Q).Perm p := by
  refine List.Perm.trans ?_ h
  refine List.Perm.append_right Q (List.Perm.append_left R ?_)
  have := List.perm_append_comm (l₁ := B.drop 1) (l₂ := B.take 1)
  rwa [List.take_append_drop] at this
theorem drop_split {p : List Int} {a s : Nat} : p.drop a = (p.drop a).take s ++ p.drop (a + s) := by
  have := List.take_append_drop s (p.drop a)
  rw [List.drop_drop] at this
  exact this.symm
end
end Cl

namespace Cl
noncomputable section
open PySem L2 Z
theorem lc_copy {i : Nat} {p : List Int} (hp : p.length ≤ 1000) {elt : EM} (he : elt = eV i) {ρ : Z.Env} (hl : i < ρ.length) (h : ρ[i]? = some none) : lcL [i] (bName i) tAll elt (p.map ig) [] ρ = .ok (p.map ig) ρ := by
  have := lcL_ints (slots := [i]) (b := bName i) (elt := elt) (ρ := ρ) (fun x => x) (p := p) (fun x hx => ⟨ρ.set i (some (si x)), ρ.set i (some (si x)), rfl, by subst he; simp [hl], by
    show (ρ.set i (some (si x))).set i none = ρ
    rw [List.set_set, set_self h]⟩) (by unfold lim; omega)
  simpa using this
end
end Cl

namespace Cl
noncomputable section
open PySem L2 Z
def Row (n : Nat) (p : List Int) : Prop := p.length = n ∧ ∀ x ∈ p, 0 ≤ x ∧ x < n
theorem Turn.row {n : Nat} {p : List Int} (h : Turn n p) : Row n p := ⟨h.len, fun x hx => h.mem.mp hx⟩
theorem Row.at {n : Nat} {p : List Int} (h : Row n p) {k : Nat} (hk : k < n) : 0 ≤ p.getD k 0 ∧ p.getD k 0 < n := by
  have hl := h.1
  rw [getD_at (by omega)]
  exact h.2 _ (List.getElem_mem _)
theorem Row.ati {n : Nat} {p : List Int} (h : Row n p) {x : Int} (h0 : 0 ≤ x) (h1 : x < n) : atI (p.map ig) x = some (.sh (.int (p.getD x.toNat 0))) := atI_T p h0 (by have := h.1; omega)
theorem Row.atd {n : Nat} {p : List Int} (h : Row n p) {x : Int} (h0 : 0 ≤ x) (h1 : x < n) : atI (p.map D.int) x = some (.int (p.getD x.toNat 0)) := atI_D p h0 (by have := h.1; omega)
theorem row_put {n : Nat} {f g : Nat → Int} (hg : ∀ k, k < n → 0 ≤ g k ∧ g k < n) : ∀ m, m ≤ n → Row n (putN n f g m)
  | 0, _ => ⟨by simp [putN], fun x hx => by
      have h := List.mem_replicate.mp (show x ∈ List.replicate n 0 from hx)
      have := h.1
      have := h.2
      omega⟩
  | m + 1, h => by
    have ih := row_put (f := f) hg m (by omega)
    refine ⟨by simp, fun x hx => ?_⟩
    rcases List.mem_or_eq_of_mem_set (show x ∈ (putN n f g m).set (f m).toNat (g m) from hx) with q | q
    · exact ih.2 x q
    · rw [q]; exact hg m (by omega)
theorem row_iota (n : Nat) : Row n (iota n) := ⟨by simp, fun x hx => mem_iota.mp hx⟩
def thenL (p q : List Int) : List Int := p.map fun x => q.getD x.toNat 0
def bkL (n : Nat) (p : List Int) : List Int := putN n (fun k => p.getD k 0) (fun k => (k : Int)) n
def cjL (n : Nat) (p g : List Int) : List Int := putN n (fun k => g.getD k 0) (fun k => g.getD (p.getD k 0).toNat 0) n
theorem then_row {n : Nat} {p q : List Int} (hp : Row n p) (hq : Row n q) : Row n (thenL p q) := ⟨by simp [thenL, hp.1], fun x hx => by
  obtain ⟨y, hy, rfl⟩ := List.mem_map.mp hx
  have := hp.2 y hy
  exact hq.at (by omega)⟩
theorem bk_row {n : Nat} {p : List Int} : Row n (bkL n p) := row_put (fun k hk => ⟨by omega, by omega⟩) n (Nat.le_refl n)
theorem cj_row {n : Nat} {p g : List Int} (hp : Row n p) (hg : Row n g) : Row n (cjL n p g) := row_put (fun k hk => hg.at (by have := hp.at hk; omega)) n (Nat.le_refl n)
theorem lc_then {n : Nat} {p q : List Int} {elt : EM} (he : elt = eGet (vIx (vV 1) (pV 2))) (hp : Row n p) (hq : Row n q) (hn : n ≤ 1000) : lcL [2] (bName 2) tAll elt (p.map ig) [] [some (shi p), some (shi q), none] = .ok ((thenL p q).map ig) [some (shi p), some (shi q), none] := by
  refine lcL_ints (fun x => q.getD x.toNat 0) (fun x hx => ?_) (by unfold lim; have := hp.1; omega)
  have h := hp.2 x hx
  refine ⟨[some (shi p), some (shi q), some (si x)], [some (shi p), some (shi q), some (si x)], rfl, ?_, rfl⟩
  have := hq.ati h.1 h.2
  subst he
  simp [this]
theorem enumI {p : List Int} {k : Nat} {t : T} (h : (enumT 0 (p.map .int))[k]? = some t) : k < p.length ∧ t = .ot [si k, si (p.getD k 0)] := by
  rw [enumT_get, List.getElem?_map, Option.map_map] at h
  obtain ⟨x, e, rfl⟩ := Option.map_eq_some_iff.mp h
  have h1 := (List.getElem?_eq_some_iff.mp e).1
  have h2 := (List.getElem?_eq_some_iff.mp e).2
  refine ⟨h1, ?_⟩
  rw [getD_at h1, h2]
  simp
theorem rep_ok {n : Nat} (hn : n ≤ 1000) : repT (.ol [.sh (.int 0)]) (.sh (.int n)) = some (T.ints (List.replicate n 0)) := repT_zero (by unfold lim; omega)
end
end Cl

namespace Cl
noncomputable section
open PySem L2 Z
/-! ### turnings as functions -/
def at_ (p : List Int) (k : Nat) : Nat := (p.getD k 0).toNat
theorem Row.at_lt {n : Nat} {p : List Int} (h : Row n p) {k : Nat} (hk : k < n) : at_ p k < n := by
  have := h.at hk
  unfold at_; omega
theorem Row.at_eq {n : Nat} {p : List Int} (h : Row n p) {k : Nat} (hk : k < n) : p.getD k 0 = (at_ p k : Int) := by
  have := h.at hk
  unfold at_; omega
theorem row_ext {n : Nat} {p q : List Int} (hp : Row n p) (hq : Row n q) (h : ∀ k, k < n → at_ p k = at_ q k) : p = q := by
  apply List.ext_getElem
  · rw [hp.1, hq.1]
  · intro k h1 h2
    have hk : k < n := by rw [← hp.1]; exact h1
    rw [← getD_at h1, ← getD_at h2, hp.at_eq hk, hq.at_eq hk, h k hk]
theorem at_then {n : Nat} {p q : List Int} (hp : Row n p) {k : Nat} (hk : k < n) : at_ (thenL p q) k = at_ q (at_ p k) := by
  unfold at_ thenL
  rw [show p.map (fun x => q.getD x.toNat 0) = via p q from rfl, via_get (by rw [hp.1]; exact hk)]
theorem at_iota {n k : Nat} (hk : k < n) : at_ (iota n) k = k := by
  unfold at_
  rw [iota_getD n k hk]
  rfl
theorem then_assoc {n : Nat} {p q r : List Int} (hp : Row n p) (hq : Row n q) (hr : Row n r) : thenL (thenL p q) r = thenL p (thenL q r) :=
  row_ext (then_row (then_row hp hq) hr) (then_row hp (then_row hq hr)) fun k hk => by
    rw [at_then (then_row hp hq) hk, at_then hp hk, at_then hp hk, at_then hq (hp.at_lt hk)]
theorem then_iota {n : Nat} {p : List Int} (hp : Row n p) : thenL p (iota n) = p :=
  row_ext (then_row hp (row_iota n)) hp fun k hk => by rw [at_then hp hk, at_iota (hp.at_lt hk)]
theorem iota_then {n : Nat} {p : List Int} (hp : Row n p) : thenL (iota n) p = p :=
  row_ext (then_row (row_iota n) hp) hp fun k hk => by rw [at_then (row_iota n) hk, at_iota hk]
theorem turn_iota (n : Nat) : Turn n (iota n) := List.Perm.refl _
theorem turn_then {n : Nat} {p q : List Int} (hp : Turn n p) (hq : Turn n q) : Turn n (thenL p q) := by
  have h : (thenL p q).Perm (thenL (iota n) q) := List.Perm.map _ hp
  rw [iota_then hq.row] at h
  exact h.trans hq
theorem at_inj {n : Nat} {p : List Int} (hp : Turn n p) {i j : Nat} (hi : i < n) (hj : j < n) (e : at_ p i = at_ p j) : i = j := by
  have e2 : p.getD i 0 = p.getD j 0 := by rw [hp.row.at_eq hi, hp.row.at_eq hj, e]
  have hl := hp.len
  rw [getD_at (by omega), getD_at (by omega)] at e2
  have hn := List.pairwise_iff_getElem.mp hp.nodup
  rcases Nat.lt_trichotomy i j with q | q | q
  · exact absurd e2 (hn i j (by omega) (by omega) q)
  · exact q
  · exact absurd e2.symm (hn j i (by omega) (by omega) q)
theorem putN_get {n : Nat} {f g : Nat → Int} (hf : ∀ k, k < n → 0 ≤ f k ∧ f k < n) (inj : ∀ i j, i < n → j < n → f i = f j → i = j) : ∀ (m k : Nat), m ≤ n → k < m → (putN n f g m).getD (f k).toNat 0 = g k
  | 0, _, _, h => by omega
  | m + 1, k, hm, hk => by
    have hfm := hf m (by omega)
    have hfk := hf k (by omega)
    show ((putN n f g m).set (f m).toNat (g m)).getD (f k).toNat 0 = g k
    rw [getD_set (by simp; omega)]
    by_cases q : m = k
    · subst q; rw [if_pos rfl]
    · rw [if_neg (fun e => q (inj m k (by omega) (by omega) (by omega)))]
      exact putN_get hf inj m k (by omega) (by omega)
theorem at_bk {n : Nat} {p : List Int} (hp : Turn n p) {k : Nat} (hk : k < n) : at_ (bkL n p) (at_ p k) = k := by
  have := putN_get (n := n) (f := fun k => p.getD k 0) (g := fun k => (k : Int)) (fun k hk => hp.at hk) (fun i j hi hj e => at_inj hp hi hj (by unfold at_; rw [e])) n k (Nat.le_refl n) hk
  show ((bkL n p).getD (p.getD k 0).toNat 0).toNat = k
  unfold bkL
  rw [this]; rfl
theorem then_bk {n : Nat} {p : List Int} (hp : Turn n p) : thenL p (bkL n p) = iota n :=
  row_ext (then_row hp.row bk_row) (row_iota n) fun k hk => by rw [at_then hp.row hk, at_bk hp hk, at_iota hk]
theorem turn_bk {n : Nat} {p : List Int} (hp : Turn n p) : Turn n (bkL n p) :=
  perm_of_via hp (bk_row (p := p)).1 (show via p (bkL n p) = iota n from then_bk hp) hp.symm
theorem bk_then {n : Nat} {p : List Int} (hp : Turn n p) : thenL (bkL n p) p = iota n := by
  have hb := turn_bk hp
  have h1 := then_bk hb
  have h2 := congrArg (thenL p) h1
  rw [then_iota hp.row, ← then_assoc hp.row hb.row (turn_bk hb).row, then_bk hp, iota_then (turn_bk hb).row] at h2
  rw [h2] at h1
  exact h1
theorem bk_uniq {n : Nat} {p q : List Int} (hp : Turn n p) (hq : Row n q) (h : thenL p q = iota n) : q = bkL n p := by
  have h2 := congrArg (thenL (bkL n p)) h
  rw [← then_assoc (turn_bk hp).row hp.row hq, bk_then hp, iota_then hq, then_iota (turn_bk hp).row] at h2
  exact h2
/-! ### powers -/
def itL (n : Nat) (p : List Int) : Nat → List Int
  | 0 => iota n
  | m + 1 => thenL (itL n p m) p
def pwL (n : Nat) (p : List Int) : Int → List Int
  | .ofNat m => itL n p m
  | .negSucc m => itL n (bkL n p) (m + 1)
theorem turn_it {n : Nat} {p : List Int} (hp : Turn n p) : ∀ m, Turn n (itL n p m)
  | 0 => turn_iota n
  | m + 1 => turn_then (turn_it hp m) hp
theorem turn_pw {n : Nat} {p : List Int} (hp : Turn n p) : ∀ z, Turn n (pwL n p z)
  | .ofNat m => turn_it hp m
  | .negSucc m => turn_it (turn_bk hp) (m + 1)
theorem pw_zero (n : Nat) (p : List Int) : pwL n p 0 = iota n := rfl
theorem pw_succ {n : Nat} {p : List Int} (hp : Turn n p) : ∀ z : Int, pwL n p (z + 1) = thenL (pwL n p z) p
  | .ofNat m => rfl
  | .negSucc 0 => by
    show iota n = thenL (thenL (iota n) (bkL n p)) p
    rw [iota_then (turn_bk hp).row, bk_then hp]
  | .negSucc (m + 1) => by
    show itL n (bkL n p) (m + 1) = thenL (thenL (itL n (bkL n p) (m + 1)) (bkL n p)) p
    rw [then_assoc (turn_it (turn_bk hp) _).row (turn_bk hp).row hp.row, bk_then hp, then_iota (turn_it (turn_bk hp) _).row]
theorem pw_pred {n : Nat} {p : List Int} (hp : Turn n p) (z : Int) : pwL n p (z - 1) = thenL (pwL n p z) (bkL n p) := by
  have h := pw_succ hp (z - 1)
  rw [Int.sub_add_cancel] at h
  rw [h, then_assoc (turn_pw hp _).row hp.row (turn_bk hp).row, then_bk hp, then_iota (turn_pw hp _).row]
/-- what goes on by one turning alone is its powers -/
theorem pw_uniq {n : Nat} {p : List Int} (hp : Turn n p) {F : Int → List Int} (hF : ∀ z, Row n (F z)) (h : ∀ z, F (z + 1) = thenL (F z) p) (z : Int) : F z = thenL (F 0) (pwL n p z) := by
  have pos : ∀ m : Nat, F m = thenL (F 0) (pwL n p m) := fun m => by
    induction m with
    | zero => exact (then_iota (hF 0)).symm
    | succ m ih =>
      rw [show ((m + 1 : Nat) : Int) = (m : Int) + 1 by omega, h, ih, pw_succ hp, then_assoc (hF 0) (turn_pw hp _).row hp.row]
  have neg : ∀ m : Nat, F (-(m : Int)) = thenL (F 0) (pwL n p (-(m : Int))) := fun m => by
    induction m with
    | zero => exact (then_iota (hF 0)).symm
    | succ m ih =>
      have e : (-((m + 1 : Nat) : Int)) = -(m : Int) - 1 := by omega
      have h2 := h (-(m : Int) - 1)
      rw [Int.sub_add_cancel] at h2
      have h3 : thenL (F (-(m : Int))) (bkL n p) = thenL (thenL (F (-(m : Int) - 1)) p) (bkL n p) := by rw [h2]
      rw [then_assoc (hF _) hp.row (turn_bk hp).row, then_bk hp, then_iota (hF _)] at h3
      rw [e, ← h3, ih, pw_pred hp, then_assoc (hF 0) (turn_pw hp _).row (turn_bk hp).row]
  by_cases hz : 0 ≤ z
  · have := pos z.toNat
    rwa [Int.toNat_of_nonneg hz] at this
  · have := neg (-z).toNat
    rwa [Int.toNat_of_nonneg (by omega), Int.neg_neg] at this
theorem pw_add {n : Nat} {p : List Int} (hp : Turn n p) (a b : Int) : pwL n p (a + b) = thenL (pwL n p a) (pwL n p b) := by
  have : pwL n p (a + b) = thenL (pwL n p (a + 0)) (pwL n p b) := pw_uniq hp (F := fun b => pwL n p (a + b)) (fun z => (turn_pw hp _).row) (fun z => by rw [← Int.add_assoc, pw_succ hp]) b
  rw [Int.add_zero] at this
  exact this
theorem pw_one {n : Nat} {p : List Int} (hp : Turn n p) : pwL n p 1 = p := iota_then hp.row
theorem pw_neg {n : Nat} {p : List Int} (hp : Turn n p) : pwL n p (-1) = bkL n p := iota_then (turn_bk hp).row
theorem pw_mul {n : Nat} {p : List Int} (hp : Turn n p) (j k : Int) : pwL n (pwL n p j) k = pwL n p (j * k) := by
  have h : pwL n p (j * k) = thenL (pwL n p (j * 0)) (pwL n (pwL n p j) k) := pw_uniq (turn_pw hp j) (F := fun k => pwL n p (j * k)) (fun z => (turn_pw hp _).row) (fun z => by
    rw [Int.mul_add, Int.mul_one, pw_add hp]) k
  rw [Int.mul_zero] at h
  rw [h, pw_zero, iota_then (turn_pw (turn_pw hp j) k).row]
theorem at_add {n : Nat} {p : List Int} (hp : Turn n p) (a b : Int) {k : Nat} (hk : k < n) : at_ (pwL n p (a + b)) k = at_ (pwL n p b) (at_ (pwL n p a) k) := by
  rw [pw_add hp, at_then (turn_pw hp a).row hk]
theorem at_zero {n : Nat} {p : List Int} {k : Nat} (hk : k < n) : at_ (pwL n p 0) k = k := at_iota hk
/-- a place that comes back comes back again and again -/
theorem at_per {n : Nat} {p : List Int} (hp : Turn n p) {k L : Nat} (hk : k < n) (h : at_ (pwL n p L) k = k) (z : Int) : at_ (pwL n p ((L : Int) * z)) k = k := by
  have step : ∀ z : Int, at_ (pwL n p ((L : Int) * (z + 1))) k = at_ (pwL n p ((L : Int) * z)) k := fun z => by
    rw [Int.mul_add, Int.mul_one, Int.add_comm, at_add hp _ _ hk, h]
  have pos : ∀ m : Nat, at_ (pwL n p ((L : Int) * m)) k = k := fun m => by
    induction m with
    | zero => exact at_zero hk
    | succ m ih => rw [show ((m + 1 : Nat) : Int) = (m : Int) + 1 by omega, step, ih]
  have neg : ∀ m : Nat, at_ (pwL n p ((L : Int) * (-(m : Int)))) k = k := fun m => by
    induction m with
    | zero => exact at_zero hk
    | succ m ih =>
      have := step (-((m + 1 : Nat) : Int))
      rw [show -((m + 1 : Nat) : Int) + 1 = -(m : Int) by omega, ih] at this
      exact this.symm
  by_cases hz : 0 ≤ z
  · have := pos z.toNat
    rwa [Int.toNat_of_nonneg hz] at this
  · have := neg (-z).toNat
    rwa [Int.toNat_of_nonneg (by omega), Int.neg_neg] at this
theorem at_mod {n : Nat} {p : List Int} (hp : Turn n p) {k L : Nat} (hk : k < n) (h : at_ (pwL n p L) k = k) (z : Int) : at_ (pwL n p (z % L)) k = at_ (pwL n p z) k := by
  have e : z = (L : Int) * (z / L) + z % L := (Int.mul_ediv_add_emod z L).symm
  have := at_add hp ((L : Int) * (z / L)) (z % L) hk
  rw [← e, at_per hp hk h] at this
  exact this.symm
end
end Cl

namespace Cl
noncomputable section
open PySem L2 Z
def x_law_then_1 : EM := (eGet (vIx (vV 1) (pV 2)))
def m_law_then : SM := (mRet (eLC [2] (iE (eV 0)) (bName 2) tAll x_law_then_1))
def F_law_then : FM := mFun 2 3 m_law_then
def b_law_back_1 : SM := (mStore 1 (eV 2) (pOp oIx (pV 0) (pV 2)))
def m_law_back : SM := (mSeq (mSet 1 (eOp repT (eLst (eCons (eP (pC (.int 0))) eNil)) (eP (pCB (o1 oLen) (aCons (pV 0) aNil))))) (mSeq (mFor (iR1 (eCons (eP (pCB (o1 oLen) (aCons (pV 0) aNil))) eNil)) (bName 2) b_law_back_1) (mRet (eM 1))))
def F_law_back : FM := mFun 1 3 m_law_back
theorem law_then_ok {n : Nat} {p q : List Int} (hp : Row n p) (hq : Row n q) (hn : n ≤ 1000) : F_law_then [shi p, shi q] = .ok (T.ints (thenL p q)) [shi p, shi q] := by
  have h := lc_then (elt := x_law_then_1) rfl hp hq hn
  simp at h
  simp [F_law_then, m_law_then, h]
theorem law_back_ok {n : Nat} {p : List Int} (hp : Row n p) (hn : n ≤ 1000) : F_law_back [shi p] = .ok (T.ints (bkL n p)) [shi p] := by
  have hl := hp.1
  obtain ⟨ρ', e, j2, rfl⟩ := forN_inv (i := 2) (body := b_law_back_1) (its := rangeT 0 n) (ρ := [some (shi p), some (.ol ((List.replicate n 0).map ig)), none])
    (fun k ρ => ∃ j2 : Option T, ρ = [some (shi p), some (.ol ((putN n (fun k => p.getD k 0) (fun k => (k : Int)) k).map ig)), j2]) ⟨none, rfl⟩ (by
      rintro k t ρ e ⟨j2, rfl⟩
      obtain ⟨hk, rfl⟩ := rangeT_get e
      have hb := hp.at hk
      have g := ixN_ok (n := n) hb.1 hb.2
      have g3 := hp.atd (x := (k : Int)) (by omega) (by omega)
      refine ⟨_, .inl ?_, some (si (0 + k)), rfl⟩
      simp at g g3
      simp [b_law_back_1, g, g3, putN])
  have hr := rep_ok hn
  rw [rangeT_len] at e
  simp at hr e
  simp [F_law_back, m_law_back, hr, hl, inR_nat (show n ≤ 1000000 by omega), e, bkL]
end
end Cl

set_option maxHeartbeats 2000000
namespace Cl
noncomputable section
open PySem L2 Z
theorem boolsOf_map : ∀ l : List Bool, boolsOf (l.map D.bl) = some l
  | [] => rfl
  | b :: l => by
    have := boolsOf_map l
    simp [boolsOf, this]
theorem intsT_map : ∀ l : List Int, intsT (l.map ig) = some l
  | [] => rfl
  | i :: l => by
    have := intsT_map l
    simp [intsT, this]
theorem lcL_xs {α : Type} {slots : List Nat} {b : BM} {elt : EM} {ρ : Z.Env} (g f : α → T) : ∀ {xs : List α} {acc : List T}, (∀ x ∈ xs, ∃ ρ1 ρ2, b (g x) ρ = some ρ1 ∧ elt ρ1 = .ok (f x) ρ2 ∧ wipeE ρ2 slots = ρ) → acc.length + xs.length ≤ lim → lcL slots b tAll elt (xs.map g) acc ρ = .ok (acc ++ xs.map f) ρ
  | [], acc, _, _ => by simp [lcL]
  | x :: xs, acc, h, hz => by
    obtain ⟨ρ1, ρ2, e1, e2, e3⟩ := h x List.mem_cons_self
    simp only [List.length_cons] at hz
    have hi : acc.length < lim := by omega
    have ih := lcL_xs g f (xs := xs) (acc := acc ++ [f x]) (fun y hy => h y (List.mem_cons_of_mem _ hy)) (by simp only [List.length_append, List.length_cons, List.length_nil]; omega)
    rw [List.map_cons, lcL, e1]
    simp only [tAll, Out.bnd, if_pos, e2, if_pos hi, e3]
    rw [ih]
    simp
theorem wipe_one {i : Nat} {ρ : Z.Env} {o : Option T} (hn : ρ[i]? = some none) : wipeE (ρ.set i o) [i] = ρ := by
  show (ρ.set i o).set i none = ρ
  rw [List.set_set, set_self hn]
theorem lc_bools {i : Nat} {elt : EM} {ρ : Z.Env} {l : List D} (f : D → Bool) (hn : ρ[i]? = some none) (h : ∀ d ∈ l, elt (ρ.set i (some (.sh d))) = .ok (.sh (.bl (f d))) (ρ.set i (some (.sh d)))) {acc : List T} (hz : acc.length + l.length ≤ lim) : lcL [i] (bName i) tAll elt (l.map .sh) acc ρ = .ok (acc ++ l.map fun d => .sh (.bl (f d))) ρ :=
  lcL_xs T.sh (fun d => .sh (.bl (f d))) (fun d hd => ⟨_, _, rfl, h d hd, wipe_one hn⟩) hz
theorem all_bools {α : Type} (l : List α) (f : α → Bool) : oAll (.lst (dl (l.map fun d => T.sh (.bl (f d))))) = some (.bl (l.all f)) := by
  have h2 : dl (l.map fun d => T.sh (.bl (f d))) = (l.map f).map D.bl := by rw [dl_eq, List.map_map, List.map_map]; rfl
  have h3 := boolsOf_map (l.map f)
  rw [h2]
  simp only [oAll, h3, Option.map_some, List.all_map]
  rfl
theorem sz_lim {n : Nat} (h : n ≤ 100000) : n ≤ lim := by unfold lim; omega
theorem eqN {a b : Nat} : ((a : Int) == (b : Int)) = decide (a = b) := by
  by_cases h : a = b
  · subst h; simp
  · have h' : ¬ (a : Int) = b := by omega
    simp [h, h']
theorem cut_from' {α : Type} (l : List α) {i : Int} (h0 : 0 ≤ i) : cutD l (some i) none = l.drop i.toNat := by
  by_cases h : i ≤ l.length
  · exact cut_from l h0 h
  · rw [List.drop_of_length_le (by omega)]
    unfold cutD HT.sIx
    simp only
    rw [if_neg (by omega), Nat.min_eq_right (by omega)]
    simp
def ascB {α : Type} [LT α] [DecidableLT α] : List α → Bool
  | [] => true
  | [_] => true
  | a :: b :: l => decide (a < b) && ascB (b :: l)
theorem asc_zip {α : Type} [LT α] [DecidableLT α] : ∀ l : List α, ((l.zip (l.drop 1)).all fun p => decide (p.1 < p.2)) = ascB l
  | [] => rfl
  | [_] => rfl
  | a :: b :: l => by
    have := asc_zip (b :: l)
    simp only [List.drop_succ_cons, List.drop_zero] at this
    simp only [List.drop_succ_cons, List.drop_zero, List.zip_cons_cons, List.all_cons, ascB, this]
@[simp ↓] theorem mOpen_run (R N : Nat) (e : EM) (b : SM) (ρ : Z.Env) : mOpen R N e b ρ = (match ρ[R]? with
  | some (some _) => (e ρ).st fun q ρ1 => match q.d.intO, ρ1[R]? with
    | some k, some (some t) => match t.kidsO with
      | some l => match ixN l.length k with
        | some j => match l[j]? with
          | some u => if N < ρ1.length then (match b ((ρ1.set R none).set N (some u)) with
            | .nx ρ2 => match ρ2[R]?, ρ2[N]? with
              | some none, some (some u') => .nx ((ρ2.set N none).set R (some (t.putK j u')))
              | _, _ => .bad
            | _ => .bad) else .bad
          | none => .bad
        | none => .bad
      | none => .bad
    | _, _ => .bad
  | _ => .bad) := rfl
@[simp ↓] theorem mStoreE_run (i : Nat) (c : PM) (e : EM) (ρ : Z.Env) : mStoreE i c e ρ = (match c ρ, ρ[i]? with
  | some d, some (some (.ol _)) => if d.scal = true then (e ρ).st fun q ρ1 => match ρ1[i]?, q.d.intO with
    | some (some (.ol ts)), some k => match ixN ts.length k with
      | some j => .nx (ρ1.set i (some (.ol (ts.set j (.sh d)))))
      | none => .bad
    | _, _ => .bad else .bad
  | _, _ => .bad) := rfl
@[simp] theorem kidsO_ol (l : List T) : (T.ol l).kidsO = some l := rfl
@[simp] theorem putK_ol (l : List T) (j : Nat) (u : T) : (T.ol l).putK j u = .ol (l.set j u) := rfl
theorem draw_lc {α : Type} (Pa : α → Prop) (g : α → T) {i m : Nat} {elt : EM} (E : T → Z.Env) (hn : ∀ t, (E t)[i]? = some none) (h : ∀ t (k : Nat), k < m → Pool t → ∃ t' a, Pool t' ∧ Pa a ∧ elt ((E t).set i (some (si k))) = .ok (g a) ((E t').set i (some (si k)))) (hm : m ≤ 100000) {t : T} (ht : Pool t) :
    ∃ (t' : T) (l : List α), Pool t' ∧ (∀ a ∈ l, Pa a) ∧ l.length = m ∧ lcL [i] (bName i) tAll elt ((iota m).map ig) [] (E t) = .ok (l.map g) (E t') := by
  obtain ⟨acc, ρ', e, t', l, h1, h2, h3, rfl, rfl⟩ := lcL_inv (slots := [i]) (b := bName i) (tst := tAll) (elt := elt) (its := (iota m).map ig) (acc := []) (ρ := E t) (fun k acc ρ => ∃ (t' : T) (l : List α), Pool t' ∧ (∀ a ∈ l, Pa a) ∧ l.length = k ∧ acc = l.map g ∧ ρ = E t')
    ⟨t, [], ht, fun _ h => (nomatch h), rfl, rfl, rfl⟩ (by
      rintro k u acc ρ e ⟨t', l, h1, h2, h3, rfl, rfl⟩
      have hk : k < m := by
        have := (List.getElem?_eq_some_iff.mp e).1
        simpa using this
      have hu : u = si k := by
        rw [List.getElem?_map, iota_get m k hk] at e
        exact (Option.some.inj e).symm
      subst hu
      obtain ⟨t2, a, g2, pa, e2⟩ := h t' k hk h1
      refine ⟨_, _, rfl, .inl ⟨g a, _, rfl, e2, by simp; unfold lim; omega, t2, l ++ [a], g2, fun b hb => ?_, by simp [h3], by simp, wipe_one (hn t2)⟩⟩
      rcases List.mem_append.mp hb with q | q
      · exact h2 b q
      · rw [List.mem_singleton.mp q]; exact pa)
  exact ⟨t', l, h1, h2, by simpa using h3, e⟩
theorem lcL_fl {α : Type} {slots : List Nat} {b : BM} {tst : EMb} {elt : EM} {ρ : Z.Env} (g f : α → T) (p : α → Bool) : ∀ {xs : List α} {acc : List T}, (∀ x ∈ xs, ∃ ρ1, b (g x) ρ = some ρ1 ∧ tst ρ1 = .ok (p x) ρ1 ∧ (p x = true → elt ρ1 = .ok (f x) ρ1) ∧ wipeE ρ1 slots = ρ) → acc.length + xs.length ≤ lim → lcL slots b tst elt (xs.map g) acc ρ = .ok (acc ++ (xs.filter p).map f) ρ
  | [], acc, _, _ => by simp [lcL]
  | x :: xs, acc, h, hz => by
    obtain ⟨ρ1, e1, e2, e3, e4⟩ := h x List.mem_cons_self
    simp only [List.length_cons] at hz
    rw [List.map_cons, lcL, e1]
    simp only [Out.bnd, e2]
    cases c : p x with
    | true =>
      have hi : acc.length < lim := by omega
      have ih := lcL_fl (b := b) (tst := tst) (elt := elt) (slots := slots) (ρ := ρ) g f p (xs := xs) (acc := acc ++ [f x]) (fun y hy => h y (List.mem_cons_of_mem _ hy)) (by simp only [List.length_append, List.length_cons, List.length_nil]; omega)
      simp only [if_true, e3 c, if_pos hi, e4, ih, List.filter_cons, c]
      simp
    | false =>
      have ih := lcL_fl (b := b) (tst := tst) (elt := elt) (slots := slots) (ρ := ρ) g f p (xs := xs) (acc := acc) (fun y hy => h y (List.mem_cons_of_mem _ hy)) (by omega)
      simp only [e4, ih, List.filter_cons, c]
      simp
theorem nd_iota (n : Nat) : (iota n).Nodup := by
  unfold iota
  rw [List.nodup_iff_pairwise_ne, List.pairwise_map]
  exact List.Pairwise.imp (fun {a b} h e => h (by omega)) (List.nodup_range (n := n))
theorem nat_of {z : Int} (h : 0 ≤ z) : ∃ m : Nat, z = m := ⟨z.toNat, by omega⟩
theorem asc_pw {α : Type} [LT α] [DecidableLT α] (htr : ∀ a b c : α, a < b → b < c → a < c) : ∀ {l : List α}, ascB l = true → l.Pairwise (· < ·)
  | [], _ => List.Pairwise.nil
  | [a], _ => by simp
  | a :: b :: l, h => by
    simp only [ascB, Bool.and_eq_true, decide_eq_true_eq] at h
    have ih := asc_pw htr h.2
    refine List.pairwise_cons.mpr ⟨fun c hc => ?_, ih⟩
    rcases List.mem_cons.mp hc with rfl | hc
    · exact h.1
    · exact htr _ _ _ h.1 ((List.pairwise_cons.mp ih).1 c hc)
theorem pw_asc {α : Type} [LT α] [DecidableLT α] : ∀ {l : List α}, l.Pairwise (· < ·) → ascB l = true
  | [], _ => rfl
  | [a], _ => rfl
  | a :: b :: l, h => by
    obtain ⟨h1, h2⟩ := List.pairwise_cons.mp h
    simp only [ascB, Bool.and_eq_true, decide_eq_true_eq]
    exact ⟨h1 b List.mem_cons_self, pw_asc h2⟩
theorem asc_nd {l : List Int} (h : ascB l = true) : l.Nodup := by
  have := asc_pw (α := Int) (fun a b c => Int.lt_trans) h
  exact List.Pairwise.imp (fun {a b} q e => by omega) this
theorem eq_ss {s t : Str} (hs : PyData.strOk s = true) (ht : PyData.strOk t = true) : oEq (.str s) (.str t) = some (.bl (decide (s = t))) := by
  have h1 : (D.str s).dat 60 = true := hs
  have h2 : (D.str t).dat 60 = true := ht
  unfold oEq
  rw [if_pos ⟨h1, h2⟩]
  simp only [D.py, PyData.eqv, Option.some.injEq, D.bl.injEq]
  by_cases h : s = t
  · simp [h]
  · simp [h]
theorem at_all {P : T → Prop} {l : List T} (h : ∀ u ∈ l, P u) {x : Int} (x0 : 0 ≤ x) (x1 : x < l.length) : ∃ u, P u ∧ atI l x = some u := by
  refine ⟨l[x.toNat]'(by omega), h _ (List.getElem_mem _), ?_⟩
  rw [atI_ok x0 x1, List.getElem?_eq_getElem]
theorem dl_sh (l : List D) : dl (l.map T.sh) = l := by rw [dl_eq, List.map_map]; exact List.map_id l
end
end Cl

set_option maxHeartbeats 1000000
namespace Cl
noncomputable section
open PySem L2 Z
/-! ### pairs out of order -/
def less_ (a : Int) (l : List Int) : Nat := (l.filter fun x => decide (x < a)).length
def inv : List Int → Nat
  | [] => 0
  | a :: l => less_ a l + inv l
def cross (u w : List Int) : Nat := (u.map fun x => less_ x w).sum
theorem less_app (a : Int) (u w : List Int) : less_ a (u ++ w) = less_ a u + less_ a w := by simp [less_]
theorem less_perm {a : Int} {u w : List Int} (h : u.Perm w) : less_ a u = less_ a w := (h.filter _).length_eq
theorem inv_app : ∀ u w : List Int, inv (u ++ w) = inv u + inv w + cross u w
  | [], w => by simp [inv, cross]
  | a :: u, w => by
    have ih := inv_app u w
    simp only [List.cons_append, inv, ih, less_app, cross, List.map_cons, List.sum_cons]
    omega
theorem cross_perm {u w w' : List Int} (h : w.Perm w') : cross u w = cross u w' := by
  unfold cross
  congr 1
  apply List.map_congr_left
  intro x _
  exact less_perm h
/-- two that stand side by side change places -/
theorem inv_adj {a b : Int} (h : a ≠ b) (v : List Int) : (inv (a :: b :: v) + inv (b :: a :: v)) % 2 = 1 := by
  have e1 : less_ a (b :: v) = (if b < a then 1 else 0) + less_ a v := by
    unfold less_
    rw [List.filter_cons]
    by_cases c : b < a
    · simp [c]; omega
    · simp [c]
  have e2 : less_ b (a :: v) = (if a < b then 1 else 0) + less_ b v := by
    unfold less_
    rw [List.filter_cons]
    by_cases c : a < b
    · simp [c]; omega
    · simp [c]
  simp only [inv, e1, e2]
  by_cases c : b < a
  · have c2 : ¬ a < b := by omega
    rw [if_pos c, if_neg c2]; omega
  · have c2 : a < b := by omega
    rw [if_neg c, if_pos c2]; omega
theorem inv_pre {w w' : List Int} (u : List Int) (hp : w.Perm w') {r : Nat} (h : (inv w + inv w') % 2 = r % 2) : (inv (u ++ w) + inv (u ++ w')) % 2 = r % 2 := by
  rw [inv_app, inv_app, cross_perm hp]
  omega
/-- one moves behind a row of others -/
theorem inv_move {a : Int} : ∀ {m : List Int} (v : List Int), a ∉ m → (inv (a :: (m ++ v)) + inv (m ++ a :: v)) % 2 = m.length % 2
  | [], v, _ => by simp only [List.nil_append, List.length_nil]; omega
  | b :: m, v, h => by
    have hb : a ≠ b := fun e => h (by rw [e]; exact List.mem_cons_self)
    have hm : a ∉ m := fun q => h (List.mem_cons_of_mem _ q)
    have h1 := inv_adj hb (m ++ v)
    have ih := inv_move (m := m) v hm
    have h2 := inv_pre [b] (w := a :: (m ++ v)) (w' := m ++ a :: v) List.perm_middle.symm ih
    simp only [List.cons_append, List.nil_append, List.length_cons] at h1 h2 ⊢
    omega
/-- two change places -/
theorem inv_swap {a b : Int} {u m v : List Int} (hab : a ≠ b) (ha : a ∉ m) (hb : b ∉ m) : (inv (u ++ a :: (m ++ b :: v)) + inv (u ++ b :: (m ++ a :: v))) % 2 = 1 := by
  have p : (a :: (m ++ b :: v)).Perm (b :: (m ++ a :: v)) := by
    have p1 : (a :: (m ++ b :: v)).Perm (a :: b :: (m ++ v)) := List.Perm.cons a List.perm_middle
    have p2 : (b :: (m ++ a :: v)).Perm (b :: a :: (m ++ v)) := List.Perm.cons b List.perm_middle
    exact p1.trans ((List.Perm.swap b a _).trans p2.symm)
  have h1 := inv_move (b :: v) ha
  have h2 := inv_pre m (w := a :: b :: v) (w' := b :: a :: v) (List.Perm.swap b a v) (r := 1) (inv_adj hab v)
  have h3 := inv_move (a :: v) hb
  have h4 : (inv (a :: (m ++ b :: v)) + inv (b :: (m ++ a :: v))) % 2 = 1 % 2 := by omega
  exact inv_pre u p h4
/-- a list with two of its places changed -/
def swp (l : List Int) (i j : Nat) : List Int := (l.set i (l.getD j 0)).set j (l.getD i 0)
theorem swp_form {l : List Int} {i j : Nat} (hij : i < j) (hj : j < l.length) : l = l.take i ++ l.getD i 0 :: ((l.drop (i + 1)).take (j - i - 1) ++ l.getD j 0 :: l.drop (j + 1)) ∧ swp l i j = l.take i ++ l.getD j 0 :: ((l.drop (i + 1)).take (j - i - 1) ++ l.getD i 0 :: l.drop (j + 1)) := by
  have hi : i < l.length := by omega
  have e1 : l = l.take i ++ l[i] :: l.drop (i + 1) := by simp
  have e2 : l.drop (i + 1) = (l.drop (i + 1)).take (j - i - 1) ++ l[j] :: l.drop (j + 1) := by
    have h1 := List.take_append_drop (j - i - 1) (l.drop (i + 1))
    rw [List.drop_drop, show i + 1 + (j - i - 1) = j by omega, List.drop_eq_getElem_cons hj] at h1
    exact h1.symm
  have form : l = l.take i ++ l.getD i 0 :: ((l.drop (i + 1)).take (j - i - 1) ++ l.getD j 0 :: l.drop (j + 1)) := by
    rw [getD_at hi, getD_at hj, ← e2]
    exact e1
  refine ⟨form, ?_⟩
  have t1 : (l.take i).length = i := by rw [List.length_take]; omega
  have t2 : ((l.drop (i + 1)).take (j - i - 1)).length = j - i - 1 := by rw [List.length_take, List.length_drop]; omega
  unfold swp
  generalize l.getD i 0 = a at *
  generalize l.getD j 0 = b at *
  generalize l.take i = U at *
  generalize (l.drop (i + 1)).take (j - i - 1) = M at *
  generalize l.drop (j + 1) = V at *
  rw [form, List.set_append, if_neg (by omega), t1, Nat.sub_self, List.set_cons_zero, List.set_append, if_neg (by omega), t1]
  obtain ⟨k, hk⟩ : ∃ k, j - i = k + 1 := ⟨j - i - 1, by omega⟩
  rw [hk, List.set_cons_succ, List.set_append, if_neg (by omega), t2, show k - (j - i - 1) = 0 by omega, List.set_cons_zero]
/-- two places change: the pairs out of order change by an odd number -/
theorem inv_swp {l : List Int} (hn : l.Nodup) {i j : Nat} (hij : i < j) (hj : j < l.length) : (inv l + inv (swp l i j)) % 2 = 1 := by
  obtain ⟨f1, f2⟩ := swp_form hij hj
  have hn2 := hn
  rw [f1] at hn2
  rw [f2]
  conv => lhs; arg 1; arg 1; rw [f1]
  have h3 := (List.nodup_append.mp hn2).2.1
  obtain ⟨h4, h5⟩ := List.nodup_cons.mp h3
  obtain ⟨_, h6, h7⟩ := List.nodup_append.mp h5
  refine inv_swap (fun e => h4 ?_) (fun q => h4 (List.mem_append_left _ q)) (fun q => h7 _ q _ List.mem_cons_self rfl)
  rw [e]
  exact List.mem_append_right _ List.mem_cons_self
end
end Cl

set_option maxHeartbeats 1000000
namespace Cl
noncomputable section
open PySem L2 Z
/-! ### a row of places turned by swaps -/
theorem swp_len (l : List Int) (i j : Nat) : (swp l i j).length = l.length := by simp [swp]
theorem swp_get {l : List Int} {i j : Nat} (hi : i < l.length) (hj : j < l.length) (k : Nat) : (swp l i j).getD k 0 = if k = j then l.getD i 0 else if k = i then l.getD j 0 else l.getD k 0 := by
  have e1 := getD_set (l := l.set i (l.getD j 0)) (i := j) (j := k) (v := l.getD i 0) (by simpa using hj)
  have e2 := getD_set (l := l) (i := i) (j := k) (v := l.getD j 0) hi
  show ((l.set i (l.getD j 0)).set j (l.getD i 0)).getD k 0 = _
  rw [e1, e2]
  by_cases h1 : k = j
  · subst h1; simp
  · have h1' : ¬ j = k := fun e => h1 e.symm
    rw [if_neg h1', if_neg h1]
    by_cases h2 : k = i
    · subst h2; simp
    · have h2' : ¬ i = k := fun e => h2 e.symm
      rw [if_neg h2', if_neg h2]
theorem swp_comm {l : List Int} {i j : Nat} (hi : i < l.length) (hj : j < l.length) : swp l i j = swp l j i := by
  apply List.ext_getElem
  · rw [swp_len, swp_len]
  · intro k h1 h2
    rw [← getD_at h1, ← getD_at h2, swp_get hi hj, swp_get hj hi]
    by_cases e1 : k = j <;> by_cases e2 : k = i
    · rw [if_pos e1, if_pos e2, ← e1, ← e2]
    · rw [if_pos e1, if_neg e2, if_pos e1]
    · rw [if_neg e1, if_pos e2, if_pos e2]
    · rw [if_neg e1, if_neg e2, if_neg e2, if_neg e1]
theorem swp_nd {l : List Int} (hn : l.Nodup) {i j : Nat} (hij : i < j) (hj : j < l.length) : (swp l i j).Nodup := by
  obtain ⟨f1, f2⟩ := swp_form hij hj
  have p : (swp l i j).Perm l := by
    rw [f2]
    conv => rhs; rw [f1]
    refine List.Perm.append_left _ ?_
    have p1 : ∀ (a b : Int) (m v : List Int), (a :: (m ++ b :: v)).Perm (a :: b :: (m ++ v)) := fun a b m v => List.Perm.cons a List.perm_middle
    exact (p1 _ _ _ _).trans ((List.Perm.swap _ _ _).trans (p1 _ _ _ _).symm)
  exact p.nodup_iff.mpr hn
/-- any two places -/
theorem swp_any {l : List Int} (hn : l.Nodup) {i j : Nat} (hij : i ≠ j) (hi : i < l.length) (hj : j < l.length) : (inv l + inv (swp l i j)) % 2 = 1 ∧ (swp l i j).Nodup := by
  rcases Nat.lt_or_gt_of_ne hij with h | h
  · exact ⟨inv_swp hn h hj, swp_nd hn h hj⟩
  · rw [swp_comm hi hj]
    exact ⟨inv_swp hn h hi, swp_nd hn h hi⟩
def app : List Nat → List Int → List Int
  | a :: b :: r, l => app (b :: r) (swp l a b)
  | _, l => l
theorem app_len : ∀ (r : List Nat) (l : List Int), (app r l).length = l.length
  | [], _ => rfl
  | [_], _ => rfl
  | a :: b :: r, l => by
    show (app (b :: r) (swp l a b)).length = _
    rw [app_len (b :: r), swp_len]
theorem app_inv : ∀ {r : List Nat} {l : List Int}, l.Nodup → r.Nodup → (∀ x ∈ r, x < l.length) → (inv l + inv (app r l)) % 2 = (r.length - 1) % 2 ∧ (app r l).Nodup
  | [], l, h, _, _ => ⟨by simp [app]; omega, h⟩
  | [_], l, h, _, _ => ⟨by simp [app]; omega, h⟩
  | a :: b :: r, l, h, hr, hx => by
    obtain ⟨h1, h2⟩ := List.nodup_cons.mp hr
    have hab : a ≠ b := fun e => h1 (by rw [e]; exact List.mem_cons_self)
    obtain ⟨s1, s2⟩ := swp_any h hab (hx a List.mem_cons_self) (hx b (List.mem_cons_of_mem _ List.mem_cons_self))
    obtain ⟨t1, t2⟩ := app_inv (r := b :: r) (l := swp l a b) s2 h2 fun x hx' => by rw [swp_len]; exact hx x (List.mem_cons_of_mem _ hx')
    refine ⟨?_, t2⟩
    show (inv l + inv (app (b :: r) (swp l a b))) % 2 = _
    simp only [List.length_cons] at t1 ⊢
    omega
/-- what stands where after it -/
theorem app_out : ∀ {r : List Nat} {l : List Int} {k : Nat}, (∀ x ∈ r, x < l.length) → k ∉ r → (app r l).getD k 0 = l.getD k 0
  | [], _, _, _, _ => rfl
  | [_], _, _, _, _ => rfl
  | a :: b :: r, l, k, hx, hk => by
    show (app (b :: r) (swp l a b)).getD k 0 = _
    rw [app_out (r := b :: r) (l := swp l a b) (fun x hx' => by rw [swp_len]; exact hx x (List.mem_cons_of_mem _ hx')) (fun q => hk (List.mem_cons_of_mem _ q))]
    rw [swp_get (hx a List.mem_cons_self) (hx b (List.mem_cons_of_mem _ List.mem_cons_self))]
    have k1 : k ≠ a := fun e => hk (by rw [e]; exact List.mem_cons_self)
    have k2 : k ≠ b := fun e => hk (by rw [e]; exact List.mem_cons_of_mem _ List.mem_cons_self)
    rw [if_neg k2, if_neg k1]
theorem app_in : ∀ {r : List Nat} {l : List Int} (_ : r.Nodup) (_ : ∀ x ∈ r, x < l.length) {k : Nat} (hk : k < r.length), (app r l).getD r[k] 0 = if h : k + 1 < r.length then l.getD r[k + 1] 0 else l.getD (r[0]'(by omega)) 0
  | [a], l, _, _, k, hk => by
    have : k = 0 := by simp at hk; omega
    subst this
    simp [app]
  | a :: b :: r, l, hr, hx, k, hk => by
    obtain ⟨h1, h2⟩ := List.nodup_cons.mp hr
    have ha := hx a List.mem_cons_self
    have hb := hx b (List.mem_cons_of_mem _ List.mem_cons_self)
    have hx2 : ∀ x ∈ b :: r, x < (swp l a b).length := fun x hx' => by rw [swp_len]; exact hx x (List.mem_cons_of_mem _ hx')
    have hab : a ≠ b := fun e => h1 (by rw [e]; exact List.mem_cons_self)
    show (app (b :: r) (swp l a b)).getD _ 0 = _
    cases k with
    | zero =>
      rw [List.getElem_cons_zero, app_out hx2 h1, swp_get ha hb, if_neg hab, if_pos rfl]
      simp
    | succ k =>
      have hk2 : k < (b :: r).length := by simpa using hk
      have ih := app_in (r := b :: r) (l := swp l a b) h2 hx2 hk2
      rw [List.getElem_cons_succ, ih]
      by_cases c : k + 1 < (b :: r).length
      · have c2 : k + 1 + 1 < (a :: b :: r).length := by simpa using c
        rw [dif_pos c, dif_pos c2, List.getElem_cons_succ]
        have hkr : k < r.length := by simpa using c
        have m : r[k] ∈ r := List.getElem_mem _
        have n1 : r[k] ≠ b := fun e => (List.nodup_cons.mp h2).1 (by rw [← e]; exact m)
        have n2 : r[k] ≠ a := fun e => h1 (by rw [← e]; exact List.mem_cons_of_mem _ m)
        rw [List.getElem_cons_succ, swp_get ha hb, if_neg n1, if_neg n2]
        rfl
      · have c2 : ¬ k + 1 + 1 < (a :: b :: r).length := by simpa using c
        rw [dif_neg c, dif_neg c2]
        rw [List.getElem_cons_zero, swp_get ha hb, if_pos rfl]
        rfl
end
end Cl

set_option maxHeartbeats 1000000
namespace Cl
noncomputable section
open PySem L2 Z
/-! ### the parity of a turning from its rows -/
/-- a row that p goes round -/
def Goes (p : List Int) (r : List Nat) : Prop := ∀ k (hk : k < r.length), p.getD r[k] 0 = if h : k + 1 < r.length then ((r[k + 1] : Nat) : Int) else ((r[0]'(by omega) : Nat) : Int)
def appAll : List (List Nat) → List Int → List Int
  | [], l => l
  | r :: rs, l => appAll rs (app r l)
theorem appAll_ok {n : Nat} {p : List Int} : ∀ {rs : List (List Nat)} {l : List Int}, l.length = n → l.Nodup → rs.flatten.Nodup → (∀ r ∈ rs, ∀ x ∈ r, x < n) → (∀ r ∈ rs, Goes p r) → (∀ v ∈ rs.flatten, l.getD v 0 = (v : Int)) →
    (appAll rs l).length = n ∧ (inv l + inv (appAll rs l)) % 2 = (rs.map fun r => r.length - 1).sum % 2 ∧ (∀ v, v ∉ rs.flatten → (appAll rs l).getD v 0 = l.getD v 0) ∧ ∀ v ∈ rs.flatten, (appAll rs l).getD v 0 = p.getD v 0
  | [], l, hl, _, _, _, _, _ => ⟨hl, by simp [appAll]; omega, fun _ _ => rfl, fun v hv => by simp at hv⟩
  | r :: rs, l, hl, hn, hf, hx, hg, hv => by
    rw [List.flatten_cons] at hf
    obtain ⟨f1, f2, f3⟩ := List.nodup_append.mp hf
    have hxr : ∀ x ∈ r, x < l.length := fun x h => by rw [hl]; exact hx r List.mem_cons_self x h
    obtain ⟨a1, a2⟩ := app_inv hn f1 hxr
    have hsep : ∀ v ∈ rs.flatten, v ∉ r := fun v h1 h2 => f3 v h2 v h1 rfl
    have keep : ∀ v, v ∉ r → (app r l).getD v 0 = l.getD v 0 := fun v h => app_out hxr h
    obtain ⟨b1, b2, b3, b4⟩ := appAll_ok (p := p) (rs := rs) (l := app r l) (by rw [app_len, hl]) a2 f2 (fun q hq => hx q (List.mem_cons_of_mem _ hq)) (fun q hq => hg q (List.mem_cons_of_mem _ hq)) fun v h => by
      rw [keep v (hsep v h)]
      exact hv v (by rw [List.flatten_cons]; exact List.mem_append_right _ h)
    refine ⟨b1, ?_, fun v h => ?_, fun v h => ?_⟩
    · show (inv l + inv (appAll rs (app r l))) % 2 = _
      rw [List.map_cons, List.sum_cons]
      omega
    · rw [List.flatten_cons, List.mem_append, not_or] at h
      show (appAll rs (app r l)).getD v 0 = _
      rw [b3 v h.2, keep v h.1]
    · show (appAll rs (app r l)).getD v 0 = _
      rw [List.flatten_cons, List.mem_append] at h
      by_cases c : v ∈ rs.flatten
      · exact b4 v c
      · have hr := h.resolve_right c
        rw [b3 v c]
        obtain ⟨k, hk, e⟩ := List.mem_iff_getElem.mp hr
        have hself : ∀ j (hj : j < r.length), l.getD r[j] 0 = ((r[j] : Nat) : Int) := fun j hj => hv _ (by rw [List.flatten_cons]; exact List.mem_append_left _ (List.getElem_mem hj))
        have h1 := app_in f1 hxr hk
        have h2 := hg r List.mem_cons_self k hk
        rw [← e, h1, h2]
        by_cases q : k + 1 < r.length
        · rw [dif_pos q, dif_pos q, hself _ q]
        · rw [dif_neg q, dif_neg q, hself 0 (by omega)]
theorem inv_iota (n : Nat) : inv (iota n) = 0 := by
  have key : ∀ (l : List Int), l.Pairwise (· < ·) → inv l = 0 := fun l => by
    induction l with
    | nil => exact fun _ => rfl
    | cons a l ih =>
      intro h
      obtain ⟨h1, h2⟩ := List.pairwise_cons.mp h
      have e : less_ a l = 0 := by
        unfold less_
        rw [List.length_eq_zero_iff, List.filter_eq_nil_iff]
        intro x hx
        have := h1 x hx
        simp; omega
      simp only [inv, e, ih h2]
  refine key _ ?_
  unfold iota
  rw [List.pairwise_map]
  exact List.Pairwise.imp (fun {a b} h => by omega) (List.pairwise_lt_range (n := n))
/-- the rows of a turning: what it goes round, each place once -/
structure Rws (n : Nat) (p : List Int) (rs : List (List Nat)) : Prop where
  perm : rs.flatten.Perm (List.range n)
  ne : ∀ r ∈ rs, r ≠ []
  goes : ∀ r ∈ rs, Goes p r
theorem sum_sub : ∀ {rs : List (List Nat)}, (∀ r ∈ rs, r ≠ []) → (rs.map fun r => r.length - 1).sum + rs.length = rs.flatten.length
  | [], _ => rfl
  | r :: rs, h => by
    have ih := sum_sub (rs := rs) fun q hq => h q (List.mem_cons_of_mem _ hq)
    have h1 : 0 < r.length := List.length_pos_iff.mpr (h r List.mem_cons_self)
    simp only [List.map_cons, List.sum_cons, List.flatten_cons, List.length_append, List.length_cons]
    omega
theorem sign_rows {n : Nat} {p : List Int} (hp : p.length = n) {rs : List (List Nat)} (h : Rws n p rs) : rs.length ≤ n ∧ inv p % 2 = (n - rs.length) % 2 := by
  have hfl := h.perm.length_eq
  rw [List.length_range] at hfl
  have hs := sum_sub h.ne
  have hnd : (iota n).Nodup := by
    unfold iota
    rw [List.nodup_iff_pairwise_ne, List.pairwise_map]
    exact List.Pairwise.imp (fun {a b} h e => h (by omega)) (List.nodup_range (n := n))
  obtain ⟨a1, a2, _, a4⟩ := appAll_ok (p := p) (rs := rs) (l := iota n) (by simp) hnd (h.perm.nodup_iff.mpr List.nodup_range) (fun r hr x hx => List.mem_range.mp (h.perm.mem_iff.mp (List.mem_flatten.mpr ⟨r, hr, hx⟩))) h.goes fun v hv => iota_getD n v (List.mem_range.mp (h.perm.mem_iff.mp hv))
  have e : appAll rs (iota n) = p := by
    apply List.ext_getElem
    · rw [a1, hp]
    · intro k h1 h2
      rw [← getD_at h1, ← getD_at h2]
      exact a4 k (h.perm.mem_iff.mpr (List.mem_range.mpr (by omega)))
  rw [e, inv_iota] at a2
  omega
end
end Cl

set_option maxHeartbeats 1000000
namespace Cl
noncomputable section
open PySem L2 Z
/-! ### the walk that finds a row -/
def nx (p : List Int) (y : Nat) : Nat := (p.getD y 0).toNat
def walk (p : List Int) : Nat → List Bool → Nat → List Nat → List Nat × List Bool
  | 0, met, _, row => (row, met)
  | f + 1, met, y, row => if met.getD y false = true then (row, met) else walk p f (met.set y true) (nx p y) (row ++ [y])
theorem nx_lt {n : Nat} {p : List Int} (hp : Turn n p) {y : Nat} (hy : y < n) : nx p y < n := by
  have := hp.at hy
  unfold nx; omega
theorem nx_eq {n : Nat} {p : List Int} (hp : Turn n p) {y : Nat} (hy : y < n) : p.getD y 0 = (nx p y : Int) := by
  have := hp.at hy
  unfold nx; omega
theorem nx_inj {n : Nat} {p : List Int} (hp : Turn n p) {y z : Nat} (hy : y < n) (hz : z < n) (e : nx p y = nx p z) : y = z := by
  have e2 : p.getD y 0 = p.getD z 0 := by rw [nx_eq hp hy, nx_eq hp hz, e]
  have hl := hp.len
  rw [getD_at (by omega), getD_at (by omega)] at e2
  have hn := List.pairwise_iff_getElem.mp hp.nodup
  rcases Nat.lt_trichotomy y z with q | q | q
  · exact absurd e2 (hn y z (by omega) (by omega) q)
  · exact q
  · exact absurd e2.symm (hn z y (by omega) (by omega) q)
/-- places met ahead: closed backwards -/
def Shut (p : List Int) (F : List Nat) : Prop := ∀ y ∈ F, ∃ z ∈ F, nx p z = y
structure Way (n : Nat) (p : List Int) (F : List Nat) (met : List Bool) (y : Nat) (row : List Nat) : Prop where
  len : met.length = n
  met_ : ∀ v, v < n → (met.getD v false = true ↔ v ∈ F ∨ v ∈ row)
  nd : row.Nodup
  sep : ∀ v ∈ row, v ∉ F
  lt : ∀ v ∈ row, v < n
  chain : ∀ k (h : k + 1 < row.length), nx p (row[k]'(by omega)) = row[k + 1]
  start : row = [] → y ∉ F
  last : ∀ h : row ≠ [], nx p (row.getLast h) = y
  ylt : y < n
theorem walk_ok {n : Nat} {p : List Int} (hp : Turn n p) {F : List Nat} (hF : ∀ v ∈ F, v < n) (hS : Shut p F) : ∀ (f : Nat) {met : List Bool} {y : Nat} {row : List Nat}, Way n p F met y row → met.count false ≤ f →
    ∃ row' met', walk p f met y row = (row', met') ∧ met'.length = n ∧ (∀ v, v < n → (met'.getD v false = true ↔ v ∈ F ∨ v ∈ row')) ∧ row'.Nodup ∧ (∀ v ∈ row', v ∉ F) ∧ (∀ v ∈ row', v < n) ∧ row' ≠ [] ∧ Goes p row' ∧ (∀ v ∈ row, v ∈ row') := by
  have done : ∀ {met : List Bool} {y : Nat} {row : List Nat}, Way n p F met y row → met.getD y false = true → row ≠ [] ∧ Goes p row := fun {met y row} w hy => by
    have hm := (w.met_ y w.ylt).mp hy
    have hne : row ≠ [] := fun e => by
      rcases hm with q | q
      · exact w.start e q
      · rw [e] at q; cases q
    have hl := w.last hne
    have hlast : row.getLast hne ∈ row := List.getLast_mem hne
    have yr : y ∈ row := by
      rcases hm with q | q
      · obtain ⟨z, hz, e⟩ := hS y q
        have := nx_inj hp (hF z hz) (w.lt _ hlast) (e.trans hl.symm)
        exact absurd (this ▸ hz) (w.sep _ hlast)
      · exact q
    have y0 : y = row[0]'(List.length_pos_iff.mpr hne) := by
      obtain ⟨j, hj, e⟩ := List.mem_iff_getElem.mp yr
      cases j with
      | zero => exact e.symm
      | succ i =>
        have c := w.chain i hj
        have hi : row[i] ∈ row := List.getElem_mem _
        have e2 : row[i] = row.getLast hne := nx_inj hp (w.lt _ hi) (w.lt _ hlast) (by rw [c, hl, e])
        rw [List.getLast_eq_getElem] at e2
        have := (List.getElem_inj w.nd).mp e2
        omega
    refine ⟨hne, fun k hk => ?_⟩
    have hkn := w.lt _ (List.getElem_mem hk)
    rw [nx_eq hp hkn]
    by_cases q : k + 1 < row.length
    · rw [dif_pos q, w.chain k q]
    · rw [dif_neg q]
      have : row[k] = row.getLast hne := by
        rw [List.getLast_eq_getElem]
        congr 1
        omega
      rw [this, hl, ← y0]
  intro f
  induction f with
  | zero =>
    intro met y row w hc
    have hy : met.getD y false = true := by
      have h0 : met.count false = 0 := by omega
      have h1 : y < met.length := by rw [w.len]; exact w.ylt
      have h2 : met[y] ≠ false := fun e => by
        have : false ∈ met := by rw [← e]; exact List.getElem_mem _
        exact absurd (List.count_pos_iff.mpr this) (by omega)
      rw [List.getD_eq_getElem?_getD, List.getElem?_eq_getElem h1]
      simpa using h2
    obtain ⟨d1, d2⟩ := done w hy
    exact ⟨row, met, rfl, w.len, w.met_, w.nd, w.sep, w.lt, d1, d2, fun _ h => h⟩
  | succ f ih =>
    intro met y row w hc
    by_cases hy : met.getD y false = true
    · obtain ⟨d1, d2⟩ := done w hy
      exact ⟨row, met, by unfold walk; rw [if_pos hy], w.len, w.met_, w.nd, w.sep, w.lt, d1, d2, fun _ h => h⟩
    · have hyF : ¬ (y ∈ F ∨ y ∈ row) := fun q => hy ((w.met_ y w.ylt).mpr q)
      have hyl : y < met.length := by rw [w.len]; exact w.ylt
      have hcount := count_set hyl (by simpa using hy)
      have w' : Way n p F (met.set y true) (nx p y) (row ++ [y]) := by
        refine ⟨by rw [List.length_set]; exact w.len, fun v hv => ?_, ?_, fun v hv => ?_, fun v hv => ?_, fun k h => ?_, fun e => by simp at e, fun h => by simp, nx_lt hp w.ylt⟩
        · rw [getD_setB hyl]
          by_cases e : y = v
          · subst e; simp
          · rw [if_neg e, w.met_ v hv]
            simp only [List.mem_append, List.mem_singleton]
            exact ⟨fun q => q.imp id .inl, fun q => q.imp id fun z => z.resolve_right fun e2 => e e2.symm⟩
        · exact List.nodup_append.mpr ⟨w.nd, by simp, fun a ha b hb e => hyF (.inr (by rw [List.mem_singleton] at hb; rw [← hb, ← e]; exact ha))⟩
        · rcases List.mem_append.mp hv with q | q
          · exact w.sep v q
          · rw [List.mem_singleton.mp q]; exact fun z => hyF (.inl z)
        · rcases List.mem_append.mp hv with q | q
          · exact w.lt v q
          · rw [List.mem_singleton.mp q]; exact w.ylt
        · have hk : k < row.length := by simpa using h
          rw [List.getElem_append_left hk]
          by_cases q : k + 1 < row.length
          · rw [List.getElem_append_left q]; exact w.chain k q
          · rw [List.getElem_append_right (by omega)]
            have hne : row ≠ [] := fun e => by rw [e] at hk; simp at hk
            have e1 : row[k] = row.getLast hne := by
              rw [List.getLast_eq_getElem]
              congr 1
              omega
            rw [e1, w.last hne]
            simp
      obtain ⟨row', met', e, h1, h2, h3, h4, h5, h6, h7, h8⟩ := ih w' (by omega)
      refine ⟨row', met', by unfold walk; rw [if_neg hy]; exact e, h1, h2, h3, h4, h5, h6, h7, fun v hv => h8 v (List.mem_append_left _ hv)⟩
end
end Cl

set_option maxHeartbeats 1000000
namespace Cl
noncomputable section
open PySem L2 Z
def t_lists_of_1 : EMb := (eT (qNot (pB (pOp oIx (pV 1) (pV 5)))))
def b_lists_of_2 : SM := (mSeq (mStore 1 (eP (pC (.bl true))) (pV 5)) (mSeq (mAppG 4 (eV 5)) (mSet 5 (eGet (vIx (vV 0) (pV 5))))))
def b_lists_of_3 : SM := (mIf (eT (qNot (pB (pOp oIx (pV 1) (pV 3))))) (mSeq (mPar 4 5 (eCons (eLst eNil) (eCons (eV 3) eNil))) (mSeq (whileL t_lists_of_1 b_lists_of_2 1000000) (mAppG 2 (eM 4)))) mNil)
def m_lists_of : SM := (mSeq (mPar 1 2 (eCons (eOp repT (eLst (eCons (eP (pC (.bl false))) eNil)) (eP (pCB (o1 oLen) (aCons (pV 0) aNil)))) (eCons (eLst eNil) eNil))) (mSeq (mFor (iR1 (eCons (eP (pCB (o1 oLen) (aCons (pV 0) aNil))) eNil)) (bName 3) b_lists_of_3) (mRet (eM 2))))
def F_lists_of : FM := mFun 1 6 m_lists_of
/-! ### all rows -/
def outer (p : List Int) : List Nat → List Bool → List (List Nat) → List (List Nat) × List Bool
  | [], met, found => (found, met)
  | x :: xs, met, found => if met.getD x false = true then outer p xs met found else outer p xs (walk p met.length met x []).2 (found ++ [(walk p met.length met x []).1])
theorem shut_of {n : Nat} {p : List Int} (hp : Turn n p) {rs : List (List Nat)} (hlt : ∀ v ∈ rs.flatten, v < n) (hg : ∀ r ∈ rs, Goes p r) : Shut p rs.flatten := by
  intro y hy
  obtain ⟨r, hr, hyr⟩ := List.mem_flatten.mp hy
  obtain ⟨j, hj, e⟩ := List.mem_iff_getElem.mp hyr
  have mem : ∀ z ∈ r, z ∈ rs.flatten := fun z hz => List.mem_flatten.mpr ⟨r, hr, hz⟩
  have go := hg r hr
  have nat : ∀ k (hk : k < r.length), (nx p r[k] : Int) = p.getD r[k] 0 := fun k hk => (nx_eq hp (hlt _ (mem _ (List.getElem_mem hk)))).symm
  cases j with
  | zero =>
    have hl : r.length - 1 < r.length := by omega
    refine ⟨r[r.length - 1], mem _ (List.getElem_mem hl), ?_⟩
    have h1 := go (r.length - 1) hl
    rw [dif_neg (by omega), ← nat _ hl] at h1
    rw [← e]
    omega
  | succ i =>
    have hl : i < r.length := by omega
    refine ⟨r[i], mem _ (List.getElem_mem hl), ?_⟩
    have h1 := go i hl
    rw [dif_pos hj, ← nat _ hl] at h1
    rw [← e]
    omega
structure Mid (n : Nat) (p : List Int) (x : Nat) (met : List Bool) (rs : List (List Nat)) : Prop where
  len : met.length = n
  met_ : ∀ v, v < n → (met.getD v false = true ↔ v ∈ rs.flatten)
  nd : rs.flatten.Nodup
  lt : ∀ v ∈ rs.flatten, v < n
  ne : ∀ r ∈ rs, r ≠ []
  goes : ∀ r ∈ rs, Goes p r
  all : ∀ v, v < x → v ∈ rs.flatten
theorem walk_mid {n : Nat} {p : List Int} (hp : Turn n p) {x : Nat} (hx : x < n) {met : List Bool} {rs : List (List Nat)} (h : Mid n p x met rs) (hm : ¬ met.getD x false = true) : Mid n p (x + 1) (walk p met.length met x []).2 (rs ++ [(walk p met.length met x []).1]) := by
  have hxF : x ∉ rs.flatten := fun q => hm ((h.met_ x hx).mpr q)
  have w0 : Way n p rs.flatten met x [] := ⟨h.len, fun v hv => by rw [h.met_ v hv]; simp, List.nodup_nil, fun v q => by simp at q, fun v q => by simp at q, fun k q => by simp at q, fun _ => hxF, fun q => absurd rfl q, hx⟩
  obtain ⟨row, met', e, h1, h2, h3, h4, h5, h6, h7, _⟩ := walk_ok hp h.lt (shut_of hp h.lt h.goes) met.length w0 List.count_le_length
  rw [e]
  have hfl : (rs ++ [row]).flatten = rs.flatten ++ row := by simp
  have hxr : x ∈ row := by
    -- the walk begins at x
    have hlen : met.length = (met.length - 1) + 1 := by have := h.len; omega
    have w1 : Way n p rs.flatten (met.set x true) (nx p x) ([] ++ [x]) := by
      have hxl : x < met.length := by rw [h.len]; exact hx
      refine ⟨by rw [List.length_set]; exact h.len, fun v hv => ?_, by simp, fun v q => by simp at q; subst q; exact hxF, fun v q => by simp at q; omega, fun k q => by simp at q, fun q => by simp at q, fun _ => by simp, nx_lt hp hx⟩
      rw [getD_setB hxl]
      by_cases c : x = v
      · subst c; simp
      · rw [if_neg c, h.met_ v hv]
        simp only [List.nil_append, List.mem_singleton]
        exact ⟨.inl, fun q => q.resolve_right fun z => c z.symm⟩
    have hxl : x < met.length := by rw [h.len]; exact hx
    have hc := count_set hxl (by simpa using hm)
    have hcl : met.count false ≤ met.length := List.count_le_length
    obtain ⟨row2, met2, e2, _, _, _, _, _, _, _, k8⟩ := walk_ok hp h.lt (shut_of hp h.lt h.goes) (met.length - 1) w1 (by omega)
    have e3 : walk p met.length met x [] = (row2, met2) := by
      rw [hlen]
      unfold walk
      rw [if_neg hm]
      exact e2
    rw [e3] at e
    cases e
    exact k8 x (by simp)
  refine ⟨h1, fun v hv => by rw [hfl, List.mem_append]; exact h2 v hv, ?_, ?_, ?_, ?_, ?_⟩
  · rw [hfl]
    exact List.nodup_append.mpr ⟨h.nd, h3, fun a ha b hb q => h4 b hb (q ▸ ha)⟩
  · intro v hv
    rw [hfl, List.mem_append] at hv
    exact hv.elim (h.lt v) (h5 v)
  · intro r hr
    rcases List.mem_append.mp hr with q | q
    · exact h.ne r q
    · rw [List.mem_singleton.mp q]; exact h6
  · intro r hr
    rcases List.mem_append.mp hr with q | q
    · exact h.goes r q
    · rw [List.mem_singleton.mp q]; exact h7
  · intro v hv
    rw [hfl, List.mem_append]
    by_cases c : v = x
    · exact .inr (c ▸ hxr)
    · exact .inl (h.all v (by omega))
theorem Mid.done {n : Nat} {p : List Int} {met : List Bool} {rs : List (List Nat)} (h : Mid n p n met rs) : Rws n p rs :=
  ⟨(List.perm_ext_iff_of_nodup h.nd List.nodup_range).mpr fun v => by rw [List.mem_range]; exact ⟨h.lt v, h.all v⟩, h.ne, h.goes⟩
theorem mid_zero (n : Nat) (p : List Int) : Mid n p 0 (List.replicate n false) [] :=
  ⟨by simp, fun v hv => by rw [List.getD_eq_getElem?_getD, List.getElem?_replicate, if_pos hv]; simp, by simp, fun v q => by simp at q, fun r q => by simp at q, fun r q => by simp at q, fun v q => by omega⟩
end
end Cl

set_option maxHeartbeats 1000000
namespace Cl
noncomputable section
open PySem L2 Z
def natL (r : List Nat) : List Int := r.map fun k : Nat => (k : Int)
theorem count_none {met : List Bool} (h : met.count false = 0) {y : Nat} (hy : y < met.length) : met.getD y false = true := by
  have h2 : met[y] ≠ false := fun e => by
    have : false ∈ met := by rw [← e]; exact List.getElem_mem _
    exact absurd (List.count_pos_iff.mpr this) (by omega)
  rw [List.getD_eq_getElem?_getD, List.getElem?_eq_getElem hy]
  simpa using h2
theorem while_row {n : Nat} (hn : n ≤ 1000) {p : List Int} (hp : Turn n p) : ∀ (f : Nat) {met : List Bool} {y : Nat} {row : List Nat} {F : Nat} {e2 e3 : Option T}, met.length = n → y < n → met.count false ≤ f → f < F → row.length + f ≤ 5000 →
    ∃ y' : Nat, whileL t_lists_of_1 b_lists_of_2 F [some (shi p), some (.ol (met.map bg)), e2, e3, some (T.ints (natL row)), some (si y)] = .nx [some (shi p), some (.ol ((walk p f met y row).2.map bg)), e2, e3, some (T.ints (natL (walk p f met y row).1)), some (si y')] := by
  have tst : ∀ (met : List Bool) (y : Nat) (row : List Nat) (e2 e3 : Option T), y < met.length → t_lists_of_1 [some (shi p), some (.ol (met.map bg)), e2, e3, some (T.ints (natL row)), some (si y)] = .ok (!met.getD y false) [some (shi p), some (.ol (met.map bg)), e2, e3, some (T.ints (natL row)), some (si y)] := fun met y row e2 e3 h => by
    have ha := atI_B met h
    generalize met.getD y false = c at ha ⊢
    generalize natL row = R at *
    simp [t_lists_of_1, ha]
  intro f
  induction f with
  | zero =>
    intro met y row F e2 e3 hl hy hc hF hz
    obtain ⟨F, rfl⟩ : ∃ F', F = F' + 1 := ⟨F - 1, by omega⟩
    have hm := count_none (by omega) (show y < met.length by omega)
    refine ⟨y, ?_⟩
    unfold Z.whileL
    rw [tst met y row e2 e3 (by omega), hm]
    rfl
  | succ f ih =>
    intro met y row F e2 e3 hl hy hc hF hz
    obtain ⟨F, rfl⟩ : ∃ F', F = F' + 1 := ⟨F - 1, by omega⟩
    by_cases hm : met.getD y false = true
    · refine ⟨y, ?_⟩
      have ew : walk p (f + 1) met y row = (row, met) := by unfold walk; rw [if_pos hm]
      rw [ew]
      unfold Z.whileL
      rw [tst met y row e2 e3 (by omega), hm]
      rfl
    · have hyl : y < met.length := by omega
      have hcs := count_set hyl (by simpa using hm)
      have ew : walk p (f + 1) met y row = walk p f (met.set y true) (nx p y) (row ++ [y]) := by
        conv => lhs; unfold walk
        rw [if_neg hm]
      rw [ew]
      obtain ⟨y', e⟩ := ih (met := met.set y true) (y := nx p y) (row := row ++ [y]) (F := F) (e2 := e2) (e3 := e3) (by rw [List.length_set]; exact hl) (nx_lt hp hy) (by omega) (by omega) (by simp; omega)
      refine ⟨y', ?_⟩
      unfold Z.whileL
      rw [tst met y row e2 e3 hyl]
      have hm' : met.getD y false = false := by simpa using hm
      have hp1 := atI_T p (i := (y : Int)) (by omega) (by rw [hp.len]; omega)
      rw [Int.toNat_natCast, nx_eq hp hy] at hp1
      have ix : ixN met.length (y : Int) = some y := by
        have := ixN_ok (n := met.length) (i := (y : Int)) (by omega) (by omega)
        rwa [Int.toNat_natCast] at this
      have hb : b_lists_of_2 [some (shi p), some (.ol (met.map bg)), e2, e3, some (T.ints (natL row)), some (si y)] = .nx [some (shi p), some (.ol ((met.set y true).map bg)), e2, e3, some (T.ints (natL (row ++ [y]))), some (si (nx p y))] := by
        have hq : (natL row).length < lim := by unfold lim; simp [natL]; omega
        have hnl : natL (row ++ [y]) = natL row ++ [(y : Int)] := by simp [natL]
        rw [hnl]
        generalize natL row = R at *
        generalize nx p y = z at *
        try simp at hp1
        simp [b_lists_of_2, ix, hq, hp1, List.map_set]
      rw [hm']
      simp only [Bool.not_false, Out.st, if_true, hb]
      exact e
end
end Cl

set_option maxHeartbeats 1000000
namespace Cl
noncomputable section
open PySem L2 Z
def rowsOf (n : Nat) (p : List Int) : List (List Nat) := (outer p (List.range n) (List.replicate n false) []).1
def rT (r : List Nat) : T := T.ints (natL r)
theorem outer_mid {n : Nat} {p : List Int} (hp : Turn n p) : ∀ (d k : Nat) {met : List Bool} {rs : List (List Nat)}, k + d = n → Mid n p k met rs → Mid n p n (outer p ((List.range n).drop k) met rs).2 (outer p ((List.range n).drop k) met rs).1
  | 0, k, met, rs, hk, h => by
    have : k = n := by omega
    subst this
    rw [List.drop_of_length_le (by simp)]
    exact h
  | d + 1, k, met, rs, hk, h => by
    have hkn : k < n := by omega
    rw [List.drop_eq_getElem_cons (by simpa using hkn), List.getElem_range]
    unfold outer
    by_cases c : met.getD k false = true
    · rw [if_pos c]
      refine outer_mid hp d (k + 1) (by omega) ⟨h.len, h.met_, h.nd, h.lt, h.ne, h.goes, fun v hv => ?_⟩
      by_cases q : v = k
      · rw [q]; exact (h.met_ k hkn).mp c
      · exact h.all v (by omega)
    · rw [if_neg c]
      exact outer_mid hp d (k + 1) (by omega) (walk_mid hp hkn h c)
theorem rows_rws {n : Nat} {p : List Int} (hp : Turn n p) : Rws n p (rowsOf n p) := by
  have := outer_mid hp n 0 (by omega) (mid_zero n p)
  rw [List.drop_zero] at this
  exact this.done
theorem Rws.len_ {n : Nat} {p : List Int} {rs : List (List Nat)} (h : Rws n p rs) : rs.length ≤ n ∧ ∀ r ∈ rs, r.length ≤ n := by
  have hfl := h.perm.length_eq
  rw [List.length_range] at hfl
  refine ⟨by have := sum_sub h.ne; omega, fun r hr => ?_⟩
  rw [← hfl]
  exact (List.sublist_flatten_of_mem hr).length_le
theorem Mid.len_ {n : Nat} {p : List Int} {x : Nat} {met : List Bool} {rs : List (List Nat)} (h : Mid n p x met rs) : rs.length ≤ n := by
  have h1 : rs.flatten.length ≤ n := by
    have hp : ((List.range n).filter fun v => decide (v ∈ rs.flatten)).Perm rs.flatten := by
      refine (List.perm_ext_iff_of_nodup (List.nodup_range.filter _) h.nd).mpr fun v => ?_
      rw [List.mem_filter, List.mem_range]
      exact ⟨fun q => by simpa using q.2, fun q => ⟨h.lt v q, by simpa using q⟩⟩
    have h2 := List.length_filter_le (fun v => decide (v ∈ rs.flatten)) (List.range n)
    rw [hp.length_eq, List.length_range] at h2
    exact h2
  have := sum_sub h.ne
  omega
theorem lists_ok {n : Nat} (hn : n ≤ 1000) {p : List Int} (hp : Turn n p) : F_lists_of [shi p] = .ok (.ol ((rowsOf n p).map rT)) [shi p] := by
  have hpl := hp.len
  have hi := inR_nat (n := n) (by omega)
  obtain ⟨FIN, hFIN⟩ : ∃ FIN, FIN = outer p (List.range n) (List.replicate n false) [] := ⟨_, rfl⟩
  obtain ⟨ρ', e, met, rs, j3, j4, j5, rfl, h1, h2⟩ := forN_inv (i := 3) (body := b_lists_of_3) (its := rangeT 0 n) (ρ := [some (shi p), some (.ol ((List.replicate n false).map bg)), some (.ol []), none, none, none])
    (fun k ρ => ∃ (met : List Bool) (rs : List (List Nat)) (j3 j4 j5 : Option T), ρ = [some (shi p), some (.ol (met.map bg)), some (.ol (rs.map rT)), j3, j4, j5] ∧ Mid n p k met rs ∧ outer p ((List.range n).drop k) met rs = FIN)
    ⟨_, [], none, none, none, rfl, mid_zero n p, by rw [List.drop_zero, hFIN]⟩ (by
      rintro k t ρ e ⟨met, rs, j3, j4, j5, rfl, h1, h2⟩
      obtain ⟨hk, rfl⟩ := rangeT_get e
      rw [List.drop_eq_getElem_cons (by simpa using hk), List.getElem_range] at h2
      unfold outer at h2
      have ha := atI_B met (i := k) (by rw [h1.len]; exact hk)
      by_cases c : met.getD k false = true
      · rw [if_pos c] at h2
        rw [c] at ha
        refine ⟨[some (shi p), some (.ol (met.map bg)), some (.ol (rs.map rT)), some (si k), j4, j5], .inl ?_, met, rs, some (si k), j4, j5, rfl, ⟨h1.len, h1.met_, h1.nd, h1.lt, h1.ne, h1.goes, fun v hv => ?_⟩, h2⟩
        · simp [b_lists_of_3, ha]
        · by_cases q : v = k
          · rw [q]; exact (h1.met_ k hk).mp c
          · exact h1.all v (by omega)
      · rw [if_neg c] at h2
        have c' : met.getD k false = false := by simpa using c
        rw [c'] at ha
        have hcl : met.count false ≤ met.length := List.count_le_length
        obtain ⟨y', ew⟩ := while_row hn hp met.length (met := met) (y := k) (row := []) (F := 1000000) (e2 := some (.ol (rs.map rT))) (e3 := some (si k)) h1.len hk hcl (by have := h1.len; omega) (by have := h1.len; simp; omega)
        have hm := walk_mid hp hk h1 c
        have hrl := h1.len_
        generalize walk p met.length met k [] = w at ew h2 hm
        have hq : (rs.map rT).length < lim := by unfold lim; simp; omega
        have ew' : whileL t_lists_of_1 b_lists_of_2 1000000 [some (shi p), some (.ol (met.map bg)), some (.ol (rs.map rT)), some (si k), some (.ol []), some (si k)] = .nx [some (shi p), some (.ol (w.2.map bg)), some (.ol (rs.map rT)), some (si k), some (T.ints (natL w.1)), some (si y')] := ew
        refine ⟨[some (shi p), some (.ol (w.2.map bg)), some (.ol ((rs ++ [w.1]).map rT)), some (si k), none, some (si y')], .inl ?_, w.2, rs ++ [w.1], some (si k), none, some (si y'), rfl, hm, h2⟩
        have hmap : (rs ++ [w.1]).map rT = rs.map rT ++ [T.ints (natL w.1)] := by rw [List.map_append]; rfl
        rw [hmap]
        generalize rs.map rT = RS at *
        generalize natL w.1 = NW at *
        generalize w.2 = M2 at *
        simp at ew'
        simp [b_lists_of_3, ha, ew', hq])
  rw [rangeT_len] at h1 h2
  rw [List.drop_of_length_le (by simp)] at h2
  have hrs : rs = rowsOf n p := by
    rw [hFIN] at h2
    exact congrArg Prod.fst h2
  have hrep := repT_one (d := .bl false) (n := n) (by unfold lim; omega)
  have hb : (List.replicate n false).map bg = List.replicate n (T.sh (.bl false)) := by rw [List.map_replicate]; rfl
  rw [hb] at e
  rw [← hrs]
  generalize rs.map rT = RS at *
  simp at hrep e
  simp [F_lists_of, m_lists_of, hpl, hrep, hi, e]
end
end Cl

set_option maxHeartbeats 1000000
namespace Cl
noncomputable section
open PySem L2 Z
def b_law_rows_1 : SM := (mIf (eT (qNot (pB (pOp oIx (pV 2) (pV 5))))) (mSeq (mStore 2 (eP (pC (.bl true))) (pV 5)) (mSeq (mAppG 4 (eV 5)) (mSet 5 (eGet (vIx (vV 0) (pV 5)))))) mNil)
def b_law_rows_2 : SM := (mSeq (mPar 4 5 (eCons (eLst eNil) (eCons (eV 3) eNil))) (mSeq (mFor (iR1 (eCons (eP (pCB (o1 oLen) (aCons (pV 0) aNil))) eNil)) (bName 6) b_law_rows_1) (mIf (eT (pB (pOp oNe (pV 4) (pLst aNil)))) (mAppG 1 (eV 4)) mNil)))
def m_law_rows : SM := (mSeq (mPar 1 2 (eCons (eLst eNil) (eCons (eOp repT (eLst (eCons (eP (pC (.bl false))) eNil)) (eP (pCB (o1 oLen) (aCons (pV 0) aNil)))) eNil))) (mSeq (mFor (iR1 (eCons (eP (pCB (o1 oLen) (aCons (pV 0) aNil))) eNil)) (bName 3) b_law_rows_2) (mRet (eM 1))))
def F_law_rows : FM := mFun 1 7 m_law_rows
theorem step_row {n : Nat} (hn : n ≤ 1000) {p : List Int} (hp : Turn n p) : ∀ (its : List T) {met : List Bool} {y : Nat} {row : List Nat} {e1 e3 e6 : Option T}, met.length = n → y < n → row.length + its.length ≤ 5000 →
    ∃ (y' : Nat) (j6 : Option T), forL (bName 6) b_law_rows_1 its [some (shi p), e1, some (.ol (met.map bg)), e3, some (T.ints (natL row)), some (si y), e6] = .nx [some (shi p), e1, some (.ol ((walk p its.length met y row).2.map bg)), e3, some (T.ints (natL (walk p its.length met y row).1)), some (si y'), j6]
  | [], met, y, row, e1, e3, e6, _, _, _ => ⟨y, e6, rfl⟩
  | t :: its, met, y, row, e1, e3, e6, hl, hy, hz => by
    have hyl : y < met.length := by omega
    have ha := atI_B met hyl
    simp only [List.length_cons] at hz ⊢
    by_cases hm : met.getD y false = true
    · rw [hm] at ha
      have ew : ∀ j, walk p j met y row = (row, met) := fun j => by
        cases j with
        | zero => rfl
        | succ j => unfold walk; rw [if_pos hm]
      obtain ⟨y', j6, e⟩ := step_row hn hp its (met := met) (y := y) (row := row) (e1 := e1) (e3 := e3) (e6 := some t) hl hy (by omega)
      refine ⟨y', j6, ?_⟩
      rw [ew] at e ⊢
      have hb : b_law_rows_1 [some (shi p), e1, some (.ol (met.map bg)), e3, some (T.ints (natL row)), some (si y), some t] = .nx [some (shi p), e1, some (.ol (met.map bg)), e3, some (T.ints (natL row)), some (si y), some t] := by
        generalize natL row = R at *
        simp [b_law_rows_1, ha]
      rw [Z.forL]
      simp only [bName, List.set_cons_succ, List.set_cons_zero, hb]
      exact e
    · have hm' : met.getD y false = false := by simpa using hm
      rw [hm'] at ha
      have ew : walk p (its.length + 1) met y row = walk p its.length (met.set y true) (nx p y) (row ++ [y]) := by
        conv => lhs; unfold walk
        rw [if_neg hm]
      rw [ew]
      obtain ⟨y', j6, e⟩ := step_row hn hp its (met := met.set y true) (y := nx p y) (row := row ++ [y]) (e1 := e1) (e3 := e3) (e6 := some t) (by rw [List.length_set]; exact hl) (nx_lt hp hy) (by simp; omega)
      refine ⟨y', j6, ?_⟩
      have hp1 := atI_T p (i := (y : Int)) (by omega) (by rw [hp.len]; omega)
      rw [Int.toNat_natCast, nx_eq hp hy] at hp1
      have ix : ixN met.length (y : Int) = some y := by
        have := ixN_ok (n := met.length) (i := (y : Int)) (by omega) (by omega)
        rwa [Int.toNat_natCast] at this
      have hb : b_law_rows_1 [some (shi p), e1, some (.ol (met.map bg)), e3, some (T.ints (natL row)), some (si y), some t] = .nx [some (shi p), e1, some (.ol ((met.set y true).map bg)), e3, some (T.ints (natL (row ++ [y]))), some (si (nx p y)), some t] := by
        have hq : (natL row).length < lim := by unfold lim; simp [natL]; omega
        have hnl : natL (row ++ [y]) = natL row ++ [(y : Int)] := by simp [natL]
        rw [hnl]
        generalize natL row = R at *
        generalize nx p y = z at *
        try simp at hp1
        simp [b_law_rows_1, ha, ix, hq, hp1, List.map_set]
      rw [Z.forL]
      simp only [bName, List.set_cons_succ, List.set_cons_zero, hb]
      exact e
def rS (r : List Nat) : T := .sh (D.ints (natL r))
theorem lrows_ok {n : Nat} (hn : n ≤ 1000) {p : List Int} (hp : Turn n p) : F_law_rows [shi p] = .ok (.ol ((rowsOf n p).map rS)) [shi p] := by
  have hpl := hp.len
  have hi := inR_nat (n := n) (by omega)
  obtain ⟨FIN, hFIN⟩ : ∃ FIN, FIN = outer p (List.range n) (List.replicate n false) [] := ⟨_, rfl⟩
  obtain ⟨ρ', e, met, rs, j3, j4, j5, j6, rfl, h1, h2⟩ := forN_inv (i := 3) (body := b_law_rows_2) (its := rangeT 0 n) (ρ := [some (shi p), some (.ol []), some (.ol ((List.replicate n false).map bg)), none, none, none, none])
    (fun k ρ => ∃ (met : List Bool) (rs : List (List Nat)) (j3 j4 j5 j6 : Option T), ρ = [some (shi p), some (.ol (rs.map rS)), some (.ol (met.map bg)), j3, j4, j5, j6] ∧ Mid n p k met rs ∧ outer p ((List.range n).drop k) met rs = FIN)
    ⟨_, [], none, none, none, none, rfl, mid_zero n p, by rw [List.drop_zero, hFIN]⟩ (by
      rintro k t ρ e ⟨met, rs, j3, j4, j5, j6, rfl, h1, h2⟩
      obtain ⟨hk, rfl⟩ := rangeT_get e
      rw [List.drop_eq_getElem_cons (by simpa using hk), List.getElem_range] at h2
      unfold outer at h2
      obtain ⟨y', k6, ew⟩ := step_row hn hp (rangeT 0 n) (met := met) (y := k) (row := []) (e1 := some (.ol (rs.map rS))) (e3 := some (si k)) (e6 := j6) h1.len hk (by rw [rangeT_len]; simp; omega)
      rw [rangeT_len] at ew
      by_cases c : met.getD k false = true
      · rw [if_pos c] at h2
        have e0 : walk p n met k [] = ([], met) := by
          cases n with
          | zero => omega
          | succ n => unfold walk; rw [if_pos c]
        rw [e0] at ew
        have hne := ne_ints [] []
        refine ⟨[some (shi p), some (.ol (rs.map rS)), some (.ol (met.map bg)), some (si k), some (.ol []), some (si y'), k6], .inl ?_, met, rs, some (si k), some (.ol []), some (si y'), k6, rfl, ⟨h1.len, h1.met_, h1.nd, h1.lt, h1.ne, h1.goes, fun v hv => ?_⟩, h2⟩
        · generalize rs.map rS = RS at *
          simp [natL] at ew hne
          simp [b_law_rows_2, hpl, hi, ew, hne]
        · by_cases q : v = k
          · rw [q]; exact (h1.met_ k hk).mp c
          · exact h1.all v (by omega)
      · rw [if_neg c] at h2
        have hm := walk_mid hp hk h1 c
        rw [h1.len] at h2 hm
        have hrl := h1.len_
        have hw1 : (walk p n met k []).1 ≠ [] := hm.ne _ (by simp)
        generalize walk p n met k [] = w at ew h2 hm hw1
        have hq : (rs.map rS).length < lim := by unfold lim; simp; omega
        have hne := ne_ints (natL w.1) []
        have hnn : ¬ natL w.1 = [] := fun q => hw1 (by simpa [natL] using q)
        rw [decide_eq_false hnn] at hne
        refine ⟨[some (shi p), some (.ol ((rs ++ [w.1]).map rS)), some (.ol (w.2.map bg)), some (si k), some (shi (natL w.1)), some (si y'), k6], .inl ?_, w.2, rs ++ [w.1], some (si k), some (shi (natL w.1)), some (si y'), k6, rfl, hm, h2⟩
        have hmap : (rs ++ [w.1]).map rS = rs.map rS ++ [.sh (D.ints (natL w.1))] := by rw [List.map_append]; rfl
        rw [hmap]
        have ew' : forL (bName 6) b_law_rows_1 (rangeT 0 n) [some (shi p), some (.ol (rs.map rS)), some (.ol (met.map bg)), some (si k), some (.ol []), some (si k), j6] = .nx [some (shi p), some (.ol (rs.map rS)), some (.ol (w.2.map bg)), some (si k), some (T.ints (natL w.1)), some (si y'), k6] := ew
        generalize rs.map rS = RS at *
        generalize natL w.1 = NW at *
        generalize w.2 = M2 at *
        simp at ew' hne
        simp [b_law_rows_2, hpl, hi, ew', hne, hq])
  rw [rangeT_len] at h1 h2
  rw [List.drop_of_length_le (by simp)] at h2
  have hrs : rs = rowsOf n p := by
    rw [hFIN] at h2
    exact congrArg Prod.fst h2
  have hrep := repT_one (d := .bl false) (n := n) (by unfold lim; omega)
  have hb : (List.replicate n false).map bg = List.replicate n (T.sh (.bl false)) := by rw [List.map_replicate]; rfl
  rw [hb] at e
  rw [← hrs]
  generalize rs.map rS = RS at *
  simp at hrep e
  simp [F_law_rows, m_law_rows, hpl, hrep, hi, e]
end
end Cl

set_option maxHeartbeats 1000000
namespace Cl
noncomputable section
open PySem L2 Z
/-! ### the order of a turning from its rows -/
theorem at_nx (p : List Int) (y : Nat) : at_ p y = nx p y := rfl
theorem goes_step {n : Nat} {p : List Int} (hp : Turn n p) {r : List Nat} (hg : Goes p r) (hr : ∀ v ∈ r, v < n) {j : Nat} (hj : j < r.length) : nx p r[j] = r[(j + 1) % r.length]'(Nat.mod_lt _ (by omega)) := by
  have h1 := hg j hj
  rw [nx_eq hp (hr _ (List.getElem_mem hj))] at h1
  by_cases q : j + 1 < r.length
  · rw [dif_pos q] at h1
    have : (j + 1) % r.length = j + 1 := Nat.mod_eq_of_lt q
    simp only [this]
    omega
  · rw [dif_neg q] at h1
    have : (j + 1) % r.length = 0 := by
      have : j + 1 = r.length := by omega
      rw [this, Nat.mod_self]
    simp only [this]
    omega
theorem at_pow {n : Nat} {p : List Int} (hp : Turn n p) {r : List Nat} (hg : Goes p r) (hr : ∀ v ∈ r, v < n) : ∀ (k : Nat) {j : Nat} (hj : j < r.length), at_ (itL n p k) r[j] = r[(j + k) % r.length]'(Nat.mod_lt _ (by omega))
  | 0, j, hj => by
    have e : (j + 0) % r.length = j := Nat.mod_eq_of_lt hj
    simp only [e]
    exact at_iota (hr _ (List.getElem_mem hj))
  | k + 1, j, hj => by
    have ih := at_pow hp hg hr k hj
    show at_ (thenL (itL n p k) p) r[j] = _
    rw [at_then (turn_it hp k).row (hr _ (List.getElem_mem hj)), ih, at_nx, goes_step hp hg hr (Nat.mod_lt _ (by omega))]
    congr 1
    rw [Nat.mod_add_mod]
    rfl
theorem pow_iff {n : Nat} {p : List Int} (hp : Turn n p) {rs : List (List Nat)} (h : Rws n p rs) (k : Nat) : itL n p k = iota n ↔ ∀ r ∈ rs, r.length ∣ k := by
  have lt : ∀ r ∈ rs, ∀ v ∈ r, v < n := fun r hr v hv => List.mem_range.mp (h.perm.mem_iff.mp (List.mem_flatten.mpr ⟨r, hr, hv⟩))
  have nd : ∀ r ∈ rs, r.Nodup := fun r hr => (List.sublist_flatten_of_mem hr).nodup (h.perm.nodup_iff.mpr List.nodup_range)
  constructor
  · intro e r hr
    have h0 : 0 < r.length := List.length_pos_iff.mpr (h.ne r hr)
    have a := at_pow hp (h.goes r hr) (lt r hr) k h0
    rw [e, at_iota (lt r hr _ (List.getElem_mem h0))] at a
    have := (List.getElem_inj (nd r hr)).mp a
    rw [Nat.zero_add] at this
    exact Nat.dvd_of_mod_eq_zero this.symm
  · intro hd
    refine row_ext (turn_it hp k).row (row_iota n) fun v hv => ?_
    rw [at_iota hv]
    obtain ⟨r, hr, hvr⟩ := List.mem_flatten.mp (h.perm.mem_iff.mpr (List.mem_range.mpr hv))
    obtain ⟨j, hj, e⟩ := List.mem_iff_getElem.mp hvr
    have a := at_pow hp (h.goes r hr) (lt r hr) k hj
    obtain ⟨c, hc⟩ := hd r hr
    have e2 : (j + k) % r.length = j := by
      rw [hc, Nat.add_mul_mod_self_left]
      exact Nat.mod_eq_of_lt hj
    simp only [e2] at a
    rw [e] at a
    exact a
def lcmL (l : List Nat) : Nat := l.foldl Nat.lcm 1
theorem foldl_lcm : ∀ (l : List Nat) (a k : Nat), l.foldl Nat.lcm a ∣ k ↔ a ∣ k ∧ ∀ x ∈ l, x ∣ k
  | [], a, k => by simp
  | x :: l, a, k => by
    rw [List.foldl_cons, foldl_lcm l, Nat.lcm_dvd_iff]
    simp only [List.mem_cons, forall_eq_or_imp]
    exact and_assoc
theorem pow_lcm {n : Nat} {p : List Int} (hp : Turn n p) {rs : List (List Nat)} (h : Rws n p rs) (k : Nat) : itL n p k = iota n ↔ lcmL (rs.map List.length) ∣ k := by
  rw [pow_iff hp h, lcmL, foldl_lcm]
  simp
end
end Cl

namespace Cl
noncomputable section
open PySem L2 Z
def b_law_lengths_1 : SM := (mIf (eT (pB (pOp oGt (pV 5) (pC (.int 0))))) (mSeq (mSet 8 (eP (pOp oIx (pLst (aCons (pV 3) (aCons (pV 5) (aCons (pOp oIx (pLst (aCons (pC (.int 3)) (aCons (pC (.int 8)) (aCons (pC (.int 5)) (aCons (pC (.int 7)) (aCons (pC (.int 2)) (aCons (pC (.int 11)) (aCons (pC (.int 4)) (aCons (pC (.int 9)) aNil))))))))) (pOp oMod (pCB (o1 oInt) (aCons (pOp oAdd (pV 4) (pV 7)) aNil)) (pC (.int 8)))) (aCons (pC (.int 0)) (aCons (pC (.int 0)) aNil)))))) (pV 2)))) (mSeq (mIf (eT (pB (pOp oGt (pV 2) (pC (.int 2))))) (mSet 8 (eOp eAddT (eP (pC (.int 1))) (eCallI 2 0 F_law_pick (eCons (eP (pOp oIx (pLst (aCons (pV 5) (aCons (pCB (o2 oMin2) (aCons (pV 5) (aCons (pC (.int 3)) aNil))) aNil))) (pOp oSub (pV 2) (pC (.int 3))))) eNil)))) mNil) (mSeq (mAppG 6 (eP (pCB (o2 oMin2) (aCons (pV 8) (aCons (pV 5) aNil))))) (mSet 5 (eP (pOp oSub (pV 5) (pOp oIx (pV 6) (pUn oNeg (pC (.int 1)))))))))) mNil)
def m_law_lengths : SM := (mSeq (mPar3 2 3 4 (eCons (eCallI 2 0 F_law_pick (eCons (eP (pC (.int 5))) eNil)) (eCons (eOp eAddT (eP (pC (.int 1))) (eCallI 2 0 F_law_pick (eCons (eP (pCB (o2 oMax2) (aCons (pC (.int 1)) (aCons (pV 1) aNil)))) eNil))) (eCons (eOp (oS oMul) (eCallI 2 0 F_law_pick (eCons (eP (pC (.int 8))) eNil)) (eCallI 2 0 F_law_pick (eCons (eP (pC (.int 2))) eNil))) eNil)))) (mSeq (mPar 5 6 (eCons (eV 1) (eCons (eLst eNil) eNil))) (mSeq (mFor (iR1 (eCons (eV 1) eNil)) (bName 7) b_law_lengths_1) (mRet (eM 6)))))
def F_law_lengths : FM := mFunI 2 9 m_law_lengths
def b_law_shaped_1 : SM := (mStore 3 (eGet (vIx (vV 2) (pOp oAdd (pV 4) (pOp oMod (pCB (o1 oInt) (aCons (pOp oAdd (pV 6) (pC (.int 1))) aNil)) (pV 5))))) (pOp oIx (pV 2) (pOp oAdd (pV 4) (pV 6))))
def b_law_shaped_2 : SM := (mSeq (mFor (iR1 (eCons (eV 5) eNil)) (bName 6) b_law_shaped_1) (mSet 4 (eP (pOp oAdd (pV 4) (pV 5)))))
def m_law_shaped : SM := (mSeq (mPar3 2 3 4 (eCons (eCallI 2 0 F_law_turning (eCons (eV 1) eNil)) (eCons (eRg1 (pV 1)) (eCons (eP (pC (.int 0))) eNil)))) (mSeq (mFor (iE (eCallI 2 0 F_law_lengths (eCons (eV 1) eNil))) (bName 5) b_law_shaped_2) (mRet (eM 3))))
def F_law_shaped : FM := mFunI 2 7 m_law_shaped
def m_law_any : SM := (mSeq (mIf (eB (eOp (oS oEq) (eCallI 2 0 F_law_pick (eCons (eP (pC (.int 3))) eNil)) (eP (pC (.int 0))))) (mRet (eCallI 2 0 F_law_turning (eCons (eV 1) eNil))) mNil) (mRet (eCallI 2 0 F_law_shaped (eCons (eV 1) eNil))))
def F_law_any : FM := mFunI 2 2 m_law_any
end
end Cl

namespace Cl
noncomputable section
open PySem L2 Z
theorem lit8 {y : Int} (h0 : 0 ≤ y) (h1 : y < 8) : ∃ s : Int, atI ([3, 8, 5, 7, 2, 11, 4, 9].map D.int) y = some (.int s) ∧ 1 ≤ s := by
  rw [atI_D _ h0 (by simpa using h1)]
  refine ⟨_, rfl, ?_⟩
  have h8 : y = 0 ∨ y = 1 ∨ y = 2 ∨ y = 3 ∨ y = 4 ∨ y = 5 ∨ y = 6 ∨ y = 7 := by omega
  rcases h8 with h | h | h | h | h | h | h | h <;> subst h <;> simp
theorem lit5 {a b c d e y : Int} (h0 : 0 ≤ y) (h1 : y < 5) (ha : 1 ≤ a) (hb : 1 ≤ b) (hc : 1 ≤ c) : ∃ s : Int, atI ([a, b, c, d, e].map D.int) y = some (.int s) ∧ (y < 3 → 1 ≤ s) := by
  rw [atI_D _ h0 (by simpa using h1)]
  refine ⟨_, rfl, ?_⟩
  have h8 : y = 0 ∨ y = 1 ∨ y = 2 ∨ y = 3 ∨ y = 4 := by omega
  rcases h8 with h | h | h | h | h <;> subst h <;> simp <;> omega
theorem lit2 {a b y : Int} (h0 : 0 ≤ y) (h1 : y < 2) (ha : 1 ≤ a) (hb : 1 ≤ b) : ∃ s : Int, atI ([a, b].map D.int) y = some (.int s) ∧ 1 ≤ s := by
  rw [atI_D _ h0 (by simpa using h1)]
  refine ⟨_, rfl, ?_⟩
  have h8 : y = 0 ∨ y = 1 := by omega
  rcases h8 with h | h <;> subst h <;> simp <;> omega
theorem atI_last {α : Type} (l : List α) (a : α) : atI (l ++ [a]) (-1) = some a := by
  unfold atI ixN
  rw [if_neg (by omega), if_pos (by simp; omega)]
  have h : (-1 + (((l ++ [a]).length : Nat) : Int)).toNat = l.length := by simp; omega
  show (l ++ [a])[(-1 + (((l ++ [a]).length : Nat) : Int)).toNat]? = some a
  rw [h]
  simp
def LenOk (n : Nat) (L : List Int) : Prop := (∀ x ∈ L, 1 ≤ x) ∧ L.sum ≤ n ∧ L.length ≤ n
theorem lengths_ok {t : T} {n : Nat} (hp : Pool t) (hn : n ≤ 1000) : ∃ t' L, Pool t' ∧ LenOk n L ∧ F_law_lengths [t, si n] = .ok (T.ints L) [t', si n] := by
  obtain ⟨t1, kd, h1, a1, b1, c1, e1⟩ := pick_ok (m := 5) hp (by decide)
  obtain ⟨t2, x2, h2, a2, b2, c2, e2⟩ := pick_ok (m := if (n : Int) > 1 then (n : Int) else 1) h1 (by split <;> omega)
  obtain ⟨t3, x3, h3, a3, b3, c3, e3⟩ := pick_ok (m := 8) h2 (by decide)
  obtain ⟨t4, x4, h4, a4, b4, c4, e4⟩ := pick_ok (m := 2) h3 (by decide)
  have hat : 0 ≤ x3 * x4 := Int.mul_nonneg a3 a4
  have hloop : ∃ ρ', forL (bName 7) b_law_lengths_1 (rangeT 0 n) [some t4, some (si n), some (si kd), some (si (1 + x2)), some (si (x3 * x4)), some (si n), some (.ol []), none, none] = .nx ρ' ∧
      ∃ (P : T) (left : Int) (L : List Int) (j7 j8 : Option T), ρ' = [some P, some (si n), some (si kd), some (si (1 + x2)), some (si (x3 * x4)), some (si left), some (.ol (L.map ig)), j7, j8] ∧ Pool P ∧ 0 ≤ left ∧ L.sum + left = n ∧ (∀ x ∈ L, 1 ≤ x) ∧ L.length ≤ n := by
    refine (forN_inv (fun k ρ => ∃ (P : T) (left : Int) (L : List Int) (j7 j8 : Option T), ρ = [some P, some (si n), some (si kd), some (si (1 + x2)), some (si (x3 * x4)), some (si left), some (.ol (L.map ig)), j7, j8] ∧ Pool P ∧ 0 ≤ left ∧ L.sum + left = n ∧ (∀ x ∈ L, 1 ≤ x) ∧ L.length ≤ k) ⟨t4, n, [], none, none, rfl, h4, by omega, by simp, by simp, by simp⟩ ?_).imp fun ρ' h => ⟨h.1, by simpa [rangeT_len] using h.2⟩
    rintro k t ρ e ⟨P, left, L, j7, j8, rfl, hP, hl0, hs, hL, hk⟩
    obtain ⟨hkn, rfl⟩ := rangeT_get e
    by_cases hlf : ¬ 0 < left
    · refine ⟨_, .inl ?_, P, left, L, some (si (0 + k)), j8, rfl, hP, hl0, hs, hL, by omega⟩
      simp [b_law_lengths_1, hlf]
    · have hlf : 0 < left := by omega
      have hm8 : oMod (.int (x3 * x4 + k)) (.int 8) = some (.int ((x3 * x4 + k) % 8)) := mod_int (by decide)
      obtain ⟨s8, es8, hs8⟩ := lit8 (y := (x3 * x4 + k) % 8) (Int.emod_nonneg _ (by decide)) (Int.emod_lt_of_pos _ (by decide))
      obtain ⟨s0, es0, hs0⟩ := lit5 (a := 1 + x2) (b := left) (c := s8) (d := 0) (e := 0) a1 b1 (by omega) (by omega) hs8
      have fin : ∀ (P' : T) (size : Int), Pool P' → 1 ≤ size → ∃ L' left', L' = L ++ [if left < size then left else size] ∧ left' = left - (if left < size then left else size) ∧ 0 ≤ left' ∧ L'.sum + left' = n ∧ (∀ x ∈ L', 1 ≤ x) ∧ L'.length ≤ k + 1 := by
        intro P' size _ h
        refine ⟨_, _, rfl, rfl, ?_, ?_, ?_, by simp; omega⟩
        · split <;> omega
        · simp; omega
        · intro x hx
          rcases List.mem_append.mp hx with q | q
          · exact hL x q
          · rw [List.mem_singleton.mp q]; split <;> omega
      have hz : L.length < lim := by unfold lim; omega
      simp at es8 es0
      by_cases hkd : ¬ 2 < kd
      · obtain ⟨L', left', eL, el, q1, q2, q3, q4⟩ := fin P s0 hP (hs0 (by omega))
        refine ⟨_, .inl ?_, P, left', L', some (si (0 + k)), some (si s0), rfl, hP, q1, q2, q3, q4⟩
        subst eL el
        simp [b_law_lengths_1, hlf, hm8, es8, es0, hkd, hz, atI_last]
      · have hkd : 2 < kd := by omega
        obtain ⟨s2, es2, hs2⟩ := lit2 (a := left) (b := if (3 : Int) < left then 3 else left) (y := kd - 3) (by omega) (by omega) (by omega) (by split <;> omega)
        obtain ⟨P', y, hP', y0, y1, y2, ey⟩ := pick_ok (m := s2) hP hs2
        obtain ⟨L', left', eL, el, q1, q2, q3, q4⟩ := fin P' (1 + y) hP' (by omega)
        refine ⟨_, .inl ?_, P', left', L', some (si (0 + k)), some (si (1 + y)), rfl, hP', q1, q2, q3, q4⟩
        subst eL el
        simp at es2
        simp [b_law_lengths_1, hlf, hm8, es8, es0, hkd, hz, atI_last, es2, ey]
  obtain ⟨ρ', e5, P, left, L, j7, j8, rfl, hP, q1, q2, q3, q4⟩ := hloop
  refine ⟨P, L, hP, ⟨q3, by omega, q4⟩, ?_⟩
  have hmul : oMul (.int x3) (.int x4) = some (.int (x3 * x4)) := mul_int (small_l ⟨by omega, by omega⟩)
  simp at e5
  have hmx : oMax2 (.int 1) (.int n) = some (.int (if (n : Int) > 1 then (n : Int) else 1)) := rfl
  simp [-max_int, F_law_lengths, m_law_lengths, e1, hmx, e2, e3, e4, hmul, inR_nat (show n ≤ 1000000 by omega), e5]
end
end Cl

namespace Cl
noncomputable section
open PySem L2 Z
theorem shaped_inner {n : Nat} {p found : List Int} {P t2 : T} {a s : Nat} {j5 : Option T} {j6 : Option T} (hn : n ≤ 1000) (hp : Turn n p) (hf : found.length = n) (has : a + s ≤ n) (hs : 1 ≤ s) :
    ∃ ρ' f' j6', forL (bName 6) b_law_shaped_1 (rangeT 0 s) [some P, some (si n), some (.ol (p.map ig)), some (.ol (found.map ig)), some (si a), some (si s), j6] = .nx ρ' ∧ ρ' = [some P, some (si n), some (.ol (p.map ig)), some (.ol (f'.map ig)), some (si a), some (si s), j6'] ∧ f'.length = n ∧
      ∀ i, i < n → (via p f').getD i 0 = if a ≤ i ∧ i < a + s then p.getD (a + (i - a + 1) % s) 0 else (via p found).getD i 0 := by
  have hl := hp.len
  obtain ⟨ρ', e, f', j6', rfl, h1, h2⟩ := forN_inv (i := 6) (body := b_law_shaped_1) (its := rangeT 0 s) (ρ := [some P, some (si n), some (.ol (p.map ig)), some (.ol (found.map ig)), some (si a), some (si s), j6])
    (fun k ρ => ∃ (f' : List Int) (j6' : Option T), ρ = [some P, some (si n), some (.ol (p.map ig)), some (.ol (f'.map ig)), some (si a), some (si s), j6'] ∧ f'.length = n ∧
      ∀ i, i < n → (via p f').getD i 0 = if a ≤ i ∧ i < a + k then p.getD (a + (i - a + 1) % s) 0 else (via p found).getD i 0)
    ⟨found, j6, rfl, hf, fun i hi => by rw [if_neg (by omega)]⟩ (by
      rintro k t ρ e ⟨f', j6', rfl, hf', hv⟩
      obtain ⟨hk, rfl⟩ := rangeT_get e
      have hm : oMod (.int (0 + (k : Int) + 1)) (.int s) = some (.int (((k + 1) % s : Nat) : Int)) := by
        rw [mod_int (by omega), Int.natCast_emod, show (0 + (k : Int) + 1) = ((k + 1 : Nat) : Int) by omega]
      have hb1 := hp.at (show a + k < n by omega)
      have hlt : (k + 1) % s < s := Nat.mod_lt _ (by omega)
      have g1 : atI (p.map D.int) ((a : Int) + (0 + (k : Int))) = some (.int (p.getD (a + k) 0)) := by
        rw [show (a : Int) + (0 + (k : Int)) = ((a + k : Nat) : Int) by omega, atI_D _ (by omega) (by omega)]; rfl
      have g2 : atI (p.map ig) ((a : Int) + (((k + 1) % s : Nat) : Int)) = some (.sh (.int (p.getD (a + (k + 1) % s) 0))) := by
        rw [show (a : Int) + (((k + 1) % s : Nat) : Int) = ((a + (k + 1) % s : Nat) : Int) by omega, atI_T _ (by omega) (by omega)]; rfl
      have g3 : ixN f'.length (p.getD (a + k) 0) = some (p.getD (a + k) 0).toNat := ixN_ok hb1.1 (by omega)
      refine ⟨_, .inl ?_, f'.set (p.getD (a + k) 0).toNat (p.getD (a + (k + 1) % s) 0), some (si (0 + k)), rfl, by simpa using hf', fun i hi => ?_⟩
      · simp at hm g1 g2 g3
        simp [b_law_shaped_1, hm, g1, g2, g3]
      · rw [via_set hp hf' (by omega), getD_set (by simp; omega)]
        by_cases q : a + k = i
        · subst q
          rw [if_pos rfl, if_pos (by omega), show a + k - a = k by omega]
        · rw [if_neg q, hv i hi]
          by_cases q2 : a ≤ i ∧ i < a + k
          · rw [if_pos q2, if_pos (by omega)]
          · rw [if_neg q2, if_neg (by omega)])
  rw [rangeT_len] at h2
  exact ⟨_, f', j6', e, rfl, h1, h2⟩
theorem shaped_ok {t : T} {n : Nat} (hp : Pool t) (hn : n ≤ 1000) : ∃ t' p, Pool t' ∧ Turn n p ∧ F_law_shaped [t, si n] = .ok (T.ints p) [t', si n] := by
  obtain ⟨t1, p, h1, hT, e1⟩ := turning_ok hp hn
  obtain ⟨t2, L, h2, ⟨hL1, hL2, hL3⟩, e2⟩ := lengths_ok h1 hn
  have hl := hT.len
  have hloop : ∃ ρ', forL (bName 5) b_law_shaped_2 (L.map ig) [some t2, some (si n), some (.ol (p.map ig)), some (.ol ((iota n).map ig)), some (si 0), none, none] = .nx ρ' ∧
      ∃ (f : List Int) (j4 j5 j6 : Option T), ρ' = [some t2, some (si n), some (.ol (p.map ig)), some (.ol (f.map ig)), j4, j5, j6] ∧ Turn n f := by
    have hid : via p (iota n) = p := by
      apply List.ext_getElem
      · simp
      · intro j h1 h2
        have e1 := getD_at (l := via p (iota n)) (i := j) h1
        have hj := hT.at (show j < n by omega)
        rw [← e1, via_get h2, iota_getD n _ (by omega), ← getD_at h2]; omega
    obtain ⟨ρ', e, f, R, a, j5, j6, rfl, q1, q2, q3, q4, q5⟩ := forN_inv (i := 5) (body := b_law_shaped_2) (its := L.map ig) (ρ := [some t2, some (si n), some (.ol (p.map ig)), some (.ol ((iota n).map ig)), some (si 0), none, none])
      (fun k ρ => ∃ (f R : List Int) (a : Nat) (j5 j6 : Option T), ρ = [some t2, some (si n), some (.ol (p.map ig)), some (.ol (f.map ig)), some (si a), j5, j6] ∧ f.length = n ∧ (a : Int) = (L.take k).sum ∧ via p f = R ++ p.drop a ∧ R.length = a ∧ (R ++ p.drop a).Perm p)
      ⟨iota n, [], 0, none, none, rfl, by simp, by simp, by simpa using hid, rfl, by simp⟩ (by
        rintro k t ρ e ⟨f, R, a, j5, j6, rfl, hf, ha, hv, hR, hpm⟩
        rw [List.getElem?_map] at e
        obtain ⟨s, es, rfl⟩ := Option.map_eq_some_iff.mp e
        have hkl := (List.getElem?_eq_some_iff.mp es).1
        have hse : L[k] = s := (List.getElem?_eq_some_iff.mp es).2
        have hs1 : 1 ≤ s := hL1 s (List.mem_of_getElem? es)
        have hsum : (L.take (k + 1)).sum = (L.take k).sum + s := by
          rw [List.take_add_one, es]; simp
        have hle : (L.take (k + 1)).sum ≤ L.sum := by
          have h3 : L.sum = (L.take (k + 1)).sum + (L.drop (k + 1)).sum := by
            rw [← List.sum_append, List.take_append_drop]
          have h4 : 0 ≤ (L.drop (k + 1)).sum := by
            have : ∀ M : List Int, (∀ x ∈ M, 1 ≤ x) → 0 ≤ M.sum := by
              intro M hM
              induction M with
              | nil => simp
              | cons x M ih =>
                have h5 := hM x (by simp)
                have h6 := ih fun y hy => hM y (by simp [hy])
                simp only [List.sum_cons]; omega
            exact this _ fun x hx => hL1 x (List.mem_of_mem_drop hx)
          omega
        obtain ⟨S, rfl⟩ : ∃ S : Nat, s = S := ⟨s.toNat, by omega⟩
        obtain ⟨ρ', f', j6', e3, rfl, hf', hv'⟩ := shaped_inner (P := t2) (t2 := t2) (a := a) (s := S) (j5 := j5) (j6 := j6) hn hT hf (by omega) (by omega)
        have hb : InR (S : Int) := inR_nat (by omega)
        refine ⟨_, .inl ?_, f', R ++ (((p.drop a).take S).drop 1 ++ ((p.drop a).take S).take 1), a + S, some (si S), j6', rfl, hf', by rw [hsum]; omega, ?_, ?_, ?_⟩
        · simp at e3
          simp [b_law_shaped_2, hb, e3]
        · have hB : ((p.drop a).take S).length = S := by simp; omega
          apply List.ext_getElem
          · simp; omega
          · intro i h1 h2
            have h1' : i < n := by simpa [hl] using h1
            rw [← getD_at h1, hv' i h1', hv]
            by_cases c1 : i < a
            · rw [if_neg (by omega)]
              have u1 : (R ++ p.drop a).getD i 0 = R.getD i 0 := by
                rw [getD_at (by simp; omega), getD_at (by omega), List.getElem_append_left (by omega)]
              rw [u1, getD_at (by omega), List.getElem_append_left (by simp; omega), List.getElem_append_left (by omega)]
            · by_cases c2 : i < a + S
              · rw [if_pos (by omega)]
                rw [List.getElem_append_left (by simp; omega), List.getElem_append_right (by omega)]
                have hm : (i - a + 1) % S < S := Nat.mod_lt _ (by omega)
                rw [getD_at (by omega)]
                by_cases c3 : i - a + 1 < S
                · rw [List.getElem_append_left (by simp; omega)]
                  simp only [List.getElem_drop, List.getElem_take]
                  congr 1
                  rw [Nat.mod_eq_of_lt c3]; omega
                · rw [List.getElem_append_right (by simp; omega)]
                  simp only [List.getElem_take, List.getElem_drop]
                  congr 1
                  have : i - a + 1 = S := by omega
                  rw [this, Nat.mod_self]
                  simp; omega
              · rw [if_neg (by omega)]
                have u1 : (R ++ p.drop a).getD i 0 = (p.drop a).getD (i - R.length) 0 := by
                  rw [getD_at (by simp; omega), getD_at (by simp; omega), List.getElem_append_right (by omega)]
                rw [u1, getD_at (by simp; omega), List.getElem_append_right (by simp; omega)]
                simp only [List.getElem_drop]
                congr 1
                simp; omega
        · simp; omega
        · refine block_perm ?_
          rw [List.append_assoc, ← drop_split]
          exact hpm)
    exact ⟨_, e, f, some (si a), j5, j6, rfl, perm_of_via hT q1 q3 q5⟩
  obtain ⟨ρ', e3, f, j4, j5, j6, rfl, hf⟩ := hloop
  refine ⟨t2, f, h2, hf, ?_⟩
  have hr : rgOk 0 (n : Int) = true := rgOk_of (by omega) (by omega) (by omega) (by omega)
  simp [F_law_shaped, m_law_shaped, e1, e2, hr, e3]
theorem any_ok {t : T} {n : Nat} (hp : Pool t) (hn : n ≤ 1000) : ∃ t' p, Pool t' ∧ Turn n p ∧ F_law_any [t, si n] = .ok (T.ints p) [t', si n] := by
  obtain ⟨t1, x, h1, a1, b1, c1, e1⟩ := pick_ok (m := 3) hp (by decide)
  obtain ⟨t2, p, h2, hT, e2⟩ := turning_ok h1 hn
  obtain ⟨t3, q, h3, hQ, e3⟩ := shaped_ok h1 hn
  by_cases hx : x = 0
  · refine ⟨t2, p, h2, hT, ?_⟩
    simp [F_law_any, m_law_any, e1, hx, e2]
  · refine ⟨t3, q, h3, hQ, ?_⟩
    simp [F_law_any, m_law_any, e1, hx, e3]
end
end Cl

namespace Cl
noncomputable section
open PySem L2 Z
def x_law_same_1 (F : FM) : EM := (eP (pCall 2 F (aCons (pOp oIx (pV 0) (pV 2)) (aCons (pOp oIx (pV 1) (pV 2)) aNil))))
def m_law_same (F : FM) : SM := (mSeq (mIf (eT (pB (pOp (oIsN false) (pV 1) (pC .non)))) (mRet (eP (pOp (oIsN false) (pV 0) (pC .non)))) mNil) (mSeq (mIf (eT (pB (pIsi Ty.bool (pV 1)))) (mRet (eP (pAndV (pIsi Ty.bool (pV 0)) (pOp oEq (pV 0) (pV 1))))) mNil) (mSeq (mIf (eT (pB (pIsi Ty.int (pV 1)))) (mRet (eP (pAndV (pIsi Ty.int (pV 0)) (pAndV (pNotV (pIsi Ty.bool (pV 0))) (pOp oEq (pV 0) (pV 1)))))) mNil) (mSeq (mIf (eT (pB (pIsi Ty.str (pV 1)))) (mRet (eP (pAndV (pIsi Ty.str (pV 0)) (pOp oEq (pV 0) (pV 1))))) mNil) (mSeq (mIf (eT (qOr (pB (pOp oNe (pIsi Ty.list (pV 0)) (pIsi Ty.list (pV 1)))) (qOr (qNot (pB (pIsiM [.list, .tuple] (pV 0)))) (pB (pOp oNe (pCB (o1 oLen) (aCons (pV 0) aNil)) (pCB (o1 oLen) (aCons (pV 1) aNil))))))) (mRet (eP (pC (.bl false)))) mNil) (mRet (eCB (cS (o1 oAll)) (eCons (eLC [2] (iR1 (eCons (eP (pCB (o1 oLen) (aCons (pV 1) aNil))) eNil)) (bName 2) tAll (x_law_same_1 F)) eNil))))))))
def F_law_same : Nat → FM
  | 0 => fun _ => .bad
  | k + 1 => mFun 2 3 (m_law_same (F_law_same k))
/-! ### a value is the same as itself -/
mutual
def dep : D → Nat
  | .lst l => depl l + 1
  | .tup l => depl l + 1
  | .dic _ _ => 1000
  | _ => 0
def depl : List D → Nat
  | [] => 0
  | d :: l => max (dep d) (depl l)
end
theorem depl_mem : ∀ {l : List D} {d : D}, d ∈ l → dep d ≤ depl l
  | a :: l, d, h => by
    simp only [depl]
    rcases List.mem_cons.mp h with rfl | h
    · omega
    · have := depl_mem h; omega
mutual
def szOk : D → Bool
  | .lst l => decide (l.length ≤ 100000) && szOkl l
  | .tup l => decide (l.length ≤ 100000) && szOkl l
  | .str s => PyData.strOk s
  | .dic _ _ => false
  | _ => true
def szOkl : List D → Bool
  | [] => true
  | d :: l => szOk d && szOkl l
end
theorem szOkl_mem : ∀ {l : List D} {d : D}, szOkl l = true → d ∈ l → szOk d = true
  | a :: l, d, h, hd => by
    simp only [szOkl, Bool.and_eq_true] at h
    rcases List.mem_cons.mp hd with rfl | hd
    · exact h.1
    · exact szOkl_mem h.2 hd
theorem all_true (n : Nat) : oAll (.lst (List.replicate n (.bl true))) = some (.bl true) := by
  have := boolsOf_map (List.replicate n true)
  rw [List.map_replicate] at this
  simp [oAll, this]
theorem same_comp {k : Nat} (ih : ∀ d : D, dep d < k → szOk d = true → F_law_same k [.sh d, .sh d] = .ok (.sh (.bl true)) [.sh d, .sh d]) {D0 : D} {l : List D} (hD : D0 = .lst l ∨ D0 = .tup l) (hl : depl l < k) (hz : l.length ≤ 100000) (hs : szOkl l = true) :
    lcL [2] (bName 2) tAll (x_law_same_1 (F_law_same k)) ((iota l.length).map ig) [] [some (.sh D0), some (.sh D0), none] = .ok ((iota l.length).map fun _ => .sh (.bl true)) [some (.sh D0), some (.sh D0), none] := by
  refine lcL_T (fun _ => .sh (.bl true)) (fun x hx => ?_) (by simp; unfold lim; omega)
  refine ⟨[some (.sh D0), some (.sh D0), some (si x)], [some (.sh D0), some (.sh D0), some (si x)], rfl, ?_, rfl⟩
  have hm := mem_iota.mp hx
  have hlt : x.toNat < l.length := by omega
  have ea : atI l x = some l[x.toNat] := by rw [atI_ok hm.1 hm.2, List.getElem?_eq_getElem hlt]
  have hd := ih l[x.toNat] (by have := depl_mem (List.getElem_mem hlt); omega) (szOkl_mem hs (List.getElem_mem hlt))
  rcases hD with rfl | rfl <;> simp [x_law_same_1, ea, hd]
theorem same_refl : ∀ (k : Nat) (d : D), dep d < k → szOk d = true → F_law_same k [.sh d, .sh d] = .ok (.sh (.bl true)) [.sh d, .sh d]
  | 0, d, h, _ => by omega
  | k + 1, d, h, hz => by
    cases d with
    | non => simp [F_law_same, m_law_same]
    | bl b => cases b <;> simp [F_law_same, m_law_same]
    | int i => simp [F_law_same, m_law_same]
    | str s =>
      have : oEq (.str s) (.str s) = some (.bl true) := by
        have hs : (D.str s).dat 60 = true := by simpa [szOk, D.dat] using hz
        unfold oEq
        rw [if_pos ⟨hs, hs⟩]
        simp [D.py, PyData.eqv]
      simp [F_law_same, m_law_same, this]
    | lst l =>
      simp only [szOk, Bool.and_eq_true, decide_eq_true_eq] at hz
      have hc := same_comp (fun d h1 h2 => same_refl k d h1 h2) (D0 := .lst l) (.inl rfl) (by simp only [dep] at h; omega) hz.1 hz.2
      have ha := all_true l.length
      have hb := inR_nat (n := l.length) (by omega)
      have e : ((iota l.length).map fun _ => T.sh (D.bl true)) = List.replicate l.length (T.sh (.bl true)) := by
        rw [List.map_const']; simp
      rw [e] at hc
      have e2 : dl (List.replicate l.length (T.sh (.bl true))) = List.replicate l.length (.bl true) := by
        rw [dl_eq, List.map_replicate]; rfl
      simp [F_law_same, m_law_same, hb, hc, e2, ha]
    | tup l =>
      simp only [szOk, Bool.and_eq_true, decide_eq_true_eq] at hz
      have hc := same_comp (fun d h1 h2 => same_refl k d h1 h2) (D0 := .tup l) (.inr rfl) (by simp only [dep] at h; omega) hz.1 hz.2
      have ha := all_true l.length
      have hb := inR_nat (n := l.length) (by omega)
      have e : ((iota l.length).map fun _ => T.sh (D.bl true)) = List.replicate l.length (T.sh (.bl true)) := by
        rw [List.map_const']; simp
      rw [e] at hc
      have e2 : dl (List.replicate l.length (T.sh (.bl true))) = List.replicate l.length (.bl true) := by
        rw [dl_eq, List.map_replicate]; rfl
      simp [F_law_same, m_law_same, hb, hc, e2, ha]
    | dic ks l => simp [szOk] at hz
end
end Cl

namespace Cl
noncomputable section
open PySem L2 Z
def x_law_times_2 : EM := (eV 6)
def b_law_times_1 : SM := (mSeq (mIf (eT (pB (pOp oEq (pV 3) (pC (.int 0))))) (mRet (eM 4)) mNil) (mSeq (mIf (eT (pB (pOp oEq (pOp oMod (pCB (o1 oInt) (aCons (pV 3) aNil)) (pC (.int 2))) (pC (.int 1))))) (mSet 4 (eCall 2 F_law_then (eCons (eV 4) (eCons (eV 2) eNil)))) mNil) (mSeq (mSet 2 (eCall 2 F_law_then (eCons (eV 2) (eCons (eV 2) eNil)))) (mSet 3 (eP (pCB (o1 oInt) (aCons (pOp oDiv (pV 3) (pC (.int 2))) aNil)))))))
def m_law_times : SM := (mSeq (mPar3 2 3 4 (eCons (eLC [6] (iE (eV 0)) (bName 6) tAll x_law_times_2) (eCons (eP (pCB (o1 oAbs) (aCons (pV 1) aNil))) (eCons (eRg1 (pCB (o1 oLen) (aCons (pV 0) aNil))) eNil)))) (mSeq (mIf (eT (pB (pOp oLt (pV 1) (pC (.int 0))))) (mSet 2 (eCall 1 F_law_back (eCons (eV 0) eNil))) mNil) (mSeq (mFor (iR1 (eCons (eP (pC (.int 300))) eNil)) (bName 5) b_law_times_1) (mRet (eM 4)))))
def F_law_times : FM := mFun 2 7 m_law_times
/-- doubling and halving -/
theorem times_core {n : Nat} {q : List Int} (hq : Turn n q) (hn : n ≤ 1000) (A : Nat) (hA : A < 2 ^ 299) (e0 e1 : Option T) : ∃ ρ', forL (bName 5) b_law_times_1 (rangeT 0 300) [e0, e1, some (.ol (q.map ig)), some (si (A : Int)), some (.ol ((iota n).map ig)), none, none] = .rt (T.ints (pwL n q A)) ρ' ∧ ρ'[0]? = some e0 ∧ ρ'[1]? = some e1 := by
  have key := forN_or (i := 5) (body := b_law_times_1) (its := rangeT 0 300) (ρ := [e0, e1, some (.ol (q.map ig)), some (si (A : Int)), some (.ol ((iota n).map ig)), none, none])
    (fun k ρ => ∃ (B left : Nat) (j5 : Option T), ρ = [e0, e1, some (T.ints (pwL n q ((2 ^ k : Nat) : Int))), some (si (left : Int)), some (T.ints (pwL n q (B : Int))), j5, none] ∧ B + 2 ^ k * left = A ∧ k < 300)
    (fun u ρ' => u = T.ints (pwL n q A) ∧ ρ'[0]? = some e0 ∧ ρ'[1]? = some e1)
    ⟨0, A, none, by
      rw [show ((2 ^ 0 : Nat) : Int) = 1 from rfl, pw_one hq]; rfl, by omega, by omega⟩ (by
      rintro k t ρ e ⟨B, left, j5, rfl, hs, hk3⟩
      obtain ⟨hk, rfl⟩ := rangeT_get e
      by_cases c0 : left = 0
      · subst c0
        refine ⟨[e0, e1, some (T.ints (pwL n q ((2 ^ k : Nat) : Int))), some (si ((0 : Nat) : Int)), none, some (si (0 + (k : Int))), none], .inr ⟨T.ints (pwL n q (B : Int)), ?_, ?_, rfl, rfl⟩⟩
        · simp [b_law_times_1]
        · rw [← hs]; simp
      · have h1 : (left : Int) ≠ 0 := by omega
        have hk1 : k + 1 < 300 := by
          have h2 : 2 ^ k ≤ A := by
            have : 2 ^ k * 1 ≤ 2 ^ k * left := Nat.mul_le_mul_left _ (by omega)
            omega
          have h3 : (2 : Nat) ^ k < 2 ^ 299 := by omega
          have := (Nat.pow_lt_pow_iff_right (by decide : 1 < 2)).mp h3
          omega
        have g1 := law_then_ok (turn_pw hq ((2 ^ k : Nat) : Int)).row (turn_pw hq ((2 ^ k : Nat) : Int)).row hn
        have g2 := law_then_ok (turn_pw hq (B : Int)).row (turn_pw hq ((2 ^ k : Nat) : Int)).row hn
        have d2 : oDiv (.int (left : Int)) (.int 2) = some (.int (left / 2 : Nat)) := by rw [div_int (by decide) (by decide)]; rfl
        have m2 : oMod (.int (left : Int)) (.int 2) = some (.int (left % 2 : Nat)) := by rw [mod_int (by decide)]; rfl
        have eP : thenL (pwL n q ((2 ^ k : Nat) : Int)) (pwL n q ((2 ^ k : Nat) : Int)) = pwL n q ((2 ^ (k + 1) : Nat) : Int) := by
          rw [← pw_add hq]
          congr 1
          rw [Nat.pow_succ]; omega
        have hp2 : 2 ^ (k + 1) = 2 ^ k * 2 := Nat.pow_succ 2 k
        have hdm := Nat.div_add_mod left 2
        have e2 : 2 ^ k * left = 2 ^ k * 2 * (left / 2) + 2 ^ k * (left % 2) := by
          rw [Nat.mul_assoc, ← Nat.mul_add, hdm]
        by_cases c1 : left % 2 = 1
        · refine ⟨_, .inl ⟨.inl ?_, B + 2 ^ k, left / 2, some (si (0 + (k : Int))), rfl, ?_, hk1⟩⟩
          · have eQ : thenL (pwL n q (B : Int)) (pwL n q ((2 ^ k : Nat) : Int)) = pwL n q ((B + 2 ^ k : Nat) : Int) := by rw [← pw_add hq]; rfl
            rw [eP] at g1
            rw [eQ] at g2
            have c1' : ((left % 2 : Nat) : Int) = 1 := by omega
            simp at g1 g2
            simp [b_law_times_1, c0, d2, m2, c1, g1, g2]
          · rw [hp2]
            rw [c1, Nat.mul_one] at e2
            omega
        · have c1' : left % 2 = 0 := by omega
          refine ⟨_, .inl ⟨.inl ?_, B, left / 2, some (si (0 + (k : Int))), rfl, ?_, hk1⟩⟩
          · rw [eP] at g1
            simp at g1
            simp [b_law_times_1, c0, d2, m2, c1', g1]
          · rw [hp2]
            rw [c1', Nat.mul_zero] at e2
            omega)
  rcases key with ⟨ρ', e, B, left, j5, rfl, hs, hk⟩ | ⟨u, ρ', e, rfl, h1, h2⟩
  · rw [rangeT_len] at hk; omega
  · exact ⟨ρ', e, h1, h2⟩
theorem times_ok {n : Nat} {p : List Int} (hp : Turn n p) (hn : n ≤ 1000) (z : Int) (hz : z.natAbs < 2 ^ 299) : F_law_times [shi p, si z] = .ok (T.ints (pwL n p z)) [shi p, si z] := by
  have hl := hp.len
  have h2 := lc_copy (i := 6) (p := p) (elt := x_law_times_2) (ρ := [some (shi p), some (si z), none, none, none, none, none]) (by omega) rfl (by simp) rfl
  have hr : rgOk 0 (n : Int) = true := rgOk_of (by omega) (by omega) (by omega) (by omega)
  have h3 := law_back_ok hp.row hn
  by_cases c : z < 0
  · obtain ⟨ρ', e, e0, e1⟩ := times_core (turn_bk hp) hn z.natAbs hz (some (shi p)) (some (si z))
    have ez : pwL n (bkL n p) (z.natAbs : Int) = pwL n p z := by
      rw [← pw_neg hp, pw_mul hp]
      congr 1
      omega
    rw [ez] at e
    simp at h2 h3 e
    simp [F_law_times, m_law_times, h2, hl, hr, c, h3, inR300, e, e0, e1]
  · obtain ⟨ρ', e, e0, e1⟩ := times_core hp hn z.natAbs hz (some (shi p)) (some (si z))
    have ez : (z.natAbs : Int) = z := by omega
    rw [ez] at e
    simp at h2 h3 e
    simp [F_law_times, m_law_times, h2, hl, hr, c, inR300, ez, e, e0, e1]
end
end Cl

set_option maxHeartbeats 2000000
namespace Cl
noncomputable section
open PySem L2 Z
def x_kind_of_1 : EM := (eP (pCB (o1 oLen) (aCons (pV 1) aNil)))
def m_kind_of : SM := (mRet (eCB sortT (eCons (eLC [1] (iE (eCall 1 F_lists_of (eCons (eV 0) eNil))) (bName 1) tAll x_kind_of_1) eNil)))
def F_kind_of : FM := mFun 1 2 m_kind_of
theorem kind_ok {n : Nat} (hn : n ≤ 1000) {p : List Int} (hp : Turn n p) : F_kind_of [shi p] = .ok (.ol ((isrt ((rowsOf n p).map fun r => (r.length : Int))).map ig)) [shi p] := by
  have hl := lists_ok hn hp
  have hb := (rows_rws hp).len_
  generalize rowsOf n p = rs at hb hl
  have hlc := lcL_xs (slots := [1]) (b := bName 1) (elt := x_kind_of_1) (ρ := [some (shi p), none]) (fun r => shi (natL r)) (fun r => si (r.length : Int)) (xs := rs) (acc := []) (fun r hr => by
    have := hb.2 r hr
    have hi := inR_nat (n := r.length) (by omega)
    refine ⟨[some (shi p), some (shi (natL r))], [some (shi p), some (shi (natL r))], rfl, ?_, rfl⟩
    simp [x_kind_of_1, natL, hi]) (by simp; unfold lim; omega)
  have hd : (rs.map fun r => shi (natL r)) = (dl (rs.map rT)).map T.sh := by
    rw [dl_eq, List.map_map, List.map_map]
    apply List.map_congr_left
    intro r _
    show shi (natL r) = T.sh (T.ol ((natL r).map ig)).d
    rw [T.d, dl_ig]
  have e0 : (rs.map fun r => si (r.length : Int)) = (rs.map fun r => (r.length : Int)).map ig := by rw [List.map_map]; rfl
  rw [e0, List.nil_append, hd] at hlc
  generalize rs.map rT = Q at hl hlc
  generalize (rs.map fun r => (r.length : Int)) = R at hlc ⊢
  have hs := sortT_ints (t := .ol (R.map ig)) (l := R) (by rw [T.d, dl_ig])
  generalize R.map ig = RR at hlc hs
  generalize (isrt R).map ig = SS at hs ⊢
  have hp0 : shi p = T.sh (D.lst (p.map D.int)) := rfl
  try simp at hlc
  simp [F_kind_of, m_kind_of, hl, hlc, hs]
end
end Cl

set_option maxHeartbeats 2000000
namespace Cl
noncomputable section
open PySem L2 Z
def t_shared_1 : EMb := (eT (qTru (pV 1)))
def b_shared_2 : SM := (mPar 0 1 (eCons (eV 1) (eCons (eP (pOp oMod (pV 0) (pV 1))) eNil)))
def m_shared : SM := (mSeq (whileL t_shared_1 b_shared_2 1000000) (mRet (eM 0)))
def F_shared : FM := mFun 2 2 m_shared
theorem tru_int (i : Int) : (D.int i).truth = some (decide (i ≠ 0)) := by
  first
    | rfl
    | (unfold D.truth; by_cases c : i = 0 <;> simp [c])
theorem while_gcd : ∀ (F a b : Nat), b < F → ∃ y : D, whileL t_shared_1 b_shared_2 F [some (si (a : Int)), some (si (b : Int))] = .nx [some (si (Nat.gcd a b : Nat)), some (.sh y)]
  | F + 1, a, b, h => by
    unfold Z.whileL
    by_cases c : b = 0
    · subst c
      exact ⟨.int 0, by simp [t_shared_1, tru_int]⟩
    · have hm := mod_int (i := (a : Int)) (j := (b : Int)) (by omega)
      have h2 : a % b < b := Nat.mod_lt _ (by omega)
      obtain ⟨y, e⟩ := while_gcd F b (a % b) (by omega)
      refine ⟨y, ?_⟩
      have hg : Nat.gcd a b = Nat.gcd b (a % b) := by rw [Nat.gcd_comm, Nat.gcd_rec, Nat.gcd_comm]
      rw [hg]
      have ec : ((a % b : Nat) : Int) = (a : Int) % (b : Int) := Int.natCast_emod a b
      rw [ec] at e
      have hb : b_shared_2 [some (si (a : Int)), some (si (b : Int))] = .nx [some (si (b : Int)), some (si ((a : Int) % (b : Int)))] := by
        simp [b_shared_2, hm]
      have ht : t_shared_1 [some (si (a : Int)), some (si (b : Int))] = .ok true [some (si (a : Int)), some (si (b : Int))] := by
        simp [t_shared_1, tru_int, c]
      rw [ht]
      show (match b_shared_2 [some (si (a : Int)), some (si (b : Int))] with | .nx ρ => whileL t_shared_1 b_shared_2 F ρ | .ct ρ => whileL t_shared_1 b_shared_2 F ρ | .bk ρ => .nx ρ | r => r) = _
      rw [hb]
      exact e
theorem gcd_ok {a b : Nat} (h : b < 1000000) : F_shared [si (a : Int), si (b : Int)] = .ok (si (Nat.gcd a b : Nat)) [si (a : Int), si (b : Int)] := by
  obtain ⟨y, e⟩ := while_gcd 1000000 a b h
  simp [F_shared, m_shared, e]
theorem isrt_perm (l : List Int) : (isrt l).Perm l := List.mergeSort_perm ..
theorem natC : ∀ {l : List Int}, (∀ x ∈ l, 0 ≤ x) → l = (l.map Int.toNat).map fun x : Nat => (x : Int)
  | [], _ => rfl
  | x :: l, h => by
    rw [List.map_cons, List.map_cons, ← natC fun y hy => h y (List.mem_cons_of_mem _ hy), Int.toNat_of_nonneg (h x List.mem_cons_self)]
theorem le_sumN {x : Nat} : ∀ {l : List Nat}, x ∈ l → x ≤ l.sum
  | y :: l, h => by
    rw [List.sum_cons]
    rcases List.mem_cons.1 h with e | e
    · omega
    · have := le_sumN e
      omega
theorem sortedN (R : List Nat) : ∃ S : List Nat, isrt (R.map fun x : Nat => (x : Int)) = S.map (fun x : Nat => (x : Int)) ∧ S.Perm R := by
  have h := isrt_perm (R.map fun x : Nat => (x : Int))
  refine ⟨(isrt (R.map fun x : Nat => (x : Int))).map Int.toNat, ?_, ?_⟩
  · exact natC fun x hx => by
      obtain ⟨y, _, rfl⟩ := List.mem_map.1 (h.mem_iff.1 hx)
      omega
  · have := h.map Int.toNat
    rw [List.map_map] at this
    have e : (Int.toNat ∘ fun x : Nat => (x : Int)) = id := by funext x; simp
    rwa [e, List.map_id] at this
end
end Cl

set_option maxHeartbeats 2000000
namespace Cl
noncomputable section
open PySem L2 Z
theorem at_cj {n : Nat} {p g : List Int} (hg : Turn n g) {k : Nat} (hk : k < n) : at_ (cjL n p g) (at_ g k) = at_ g (at_ p k) := by
  have := putN_get (n := n) (f := fun k => g.getD k 0) (g := fun k => g.getD (p.getD k 0).toNat 0) (fun k hk => hg.at hk) (fun i j hi hj e => at_inj hg hi hj (by unfold at_; rw [e])) n k (Nat.le_refl n) hk
  show ((cjL n p g).getD (g.getD k 0).toNat 0).toNat = _
  unfold cjL
  rw [this]
  rfl
theorem cj_eq {n : Nat} {p g : List Int} (hp : Row n p) (hg : Turn n g) : cjL n p g = thenL (thenL (bkL n g) p) g := by
  have hb := turn_bk hg
  refine row_ext (cj_row hp hg.row) (then_row (then_row hb.row hp) hg.row) fun k hk => ?_
  have hj := hb.row.at_lt hk
  have e : at_ g (at_ (bkL n g) k) = k := by
    have this : at_ (thenL (bkL n g) g) k = at_ (iota n) k := congrArg (fun l => at_ l k) (bk_then hg)
    rw [at_then hb.row hk, at_iota hk] at this
    exact this
  rw [at_then (then_row hb.row hp) hk, at_then hb.row hk]
  conv => lhs; rw [← e]
  rw [at_cj hg hj]
theorem turn_cj {n : Nat} {p g : List Int} (hp : Turn n p) (hg : Turn n g) : Turn n (cjL n p g) := by
  rw [cj_eq hp.row hg]
  exact turn_then (turn_then (turn_bk hg) hp) hg
end
end Cl

namespace Cl
/-! ### in how many ways cycles are joined: the program's sum and the law's -/
def chJ (total length : Nat) : Nat → Nat
  | 0 => 1
  | s + 1 => chJ total length s * (total - 1 - s) * length
def stJ (length k total j : Nat) (ws : List Nat) : List Nat :=
  if Nat.gcd ((j + 1) * length) k = j + 1 then ws.set total (ws.getD total 0 + chJ total length j * ws.getD (total - (j + 1)) 0) else ws
def inJ (length k total : Nat) (ws : List Nat) : Nat → List Nat
  | 0 => ws
  | j + 1 => stJ length k total j (inJ length k total ws j)
def outJ (length k : Nat) (ws : List Nat) : Nat → List Nat
  | 0 => ws
  | t + 1 => inJ length k (t + 1) (outJ length k ws t) (t + 1)
def waysJ (many length k : Nat) : Nat := (outJ length k (1 :: List.replicate many 0) many).getD many 0
def lfW (length : Nat) : Nat → Nat
  | 0 => 1
  | s + 1 => lfW length s * length
def tmW (u : Nat) (x : Nat) : Nat → Nat
  | 0 => x
  | s + 1 => tmW u x s * (u - s)
def aW (ws : List Nat) (t j lift : Nat) : Nat → Nat × Nat
  | 0 => (0, 1)
  | a + 1 => match aW ws t j lift a with
    | (x, y) => (x + ws.getD (t - a * j) 0 * y, if a < t / j then tmW (t - a * j) y j * lift / (j * (a + 1)) else y)
def moreW (many j lift : Nat) (ws : List Nat) : List Nat := (List.range (many + 1)).map fun t => (aW ws t j lift (t / j + 1)).1
def comW (length k j : Nat) : List Nat := (List.range' 2 (length - 1)).filter fun d => decide (length % d = 0) && decide (k / j % d = 0)
def stW (many length k j : Nat) (ws : List Nat) : List Nat :=
  if k % (j + 1) = 0 ∧ comW length k (j + 1) = [] then moreW many (j + 1) (lfW length j) ws else ws
def jW (many length k : Nat) (ws : List Nat) : Nat → List Nat
  | 0 => ws
  | j + 1 => stW many length k j (jW many length k ws j)
def waysW (many length k : Nat) : Nat := (jW many length k (1 :: List.replicate many 0) many).getD many 0
/-! the same, each number reckoned at once; written for the kernel -/
noncomputable section
def forceN (x : Nat) (f : Nat → Nat) : Nat := Nat.rec (f Nat.zero) (fun n _ => f (Nat.succ n)) x
theorem forceN_eq (x : Nat) (f : Nat → Nat) : forceN x f = f x := by cases x <;> rfl
def forceL (l : List Nat) : (List Nat → Nat) → Nat := List.rec (fun f => f []) (fun x _ ih f => forceN x fun y => ih fun ys => f (y :: ys)) l
theorem forceL_eq : ∀ (l : List Nat) (f : List Nat → Nat), forceL l f = f l
  | [], _ => rfl
  | x :: xs, f => by
    show (forceN x fun y => forceL xs fun ys => f (y :: ys)) = _
    rw [forceN_eq, forceL_eq xs]
def nth (l : List Nat) : Nat → Nat := List.rec (fun _ => Nat.zero) (fun x _ ih i => Nat.rec x (fun i' _ => ih i') i) l
theorem nth_eq : ∀ (l : List Nat) (i : Nat), nth l i = l.getD i 0
  | [], i => rfl
  | x :: l, 0 => rfl
  | x :: l, i + 1 => by
    show nth l i = _
    rw [nth_eq l i]
    rfl
def setK (l : List Nat) : Nat → Nat → List Nat := List.rec (fun _ _ => []) (fun x xs ih i v => Nat.rec (v :: xs) (fun i' _ => x :: ih i' v) i) l
theorem setK_eq : ∀ (l : List Nat) (i v : Nat), setK l i v = l.set i v
  | [], i, v => rfl
  | x :: l, 0, v => rfl
  | x :: l, i + 1, v => by
    show x :: setK l i v = _
    rw [setK_eq l i v]
    rfl
def chK (total length : Nat) (s : Nat) : Nat := Nat.rec (Nat.succ Nat.zero) (fun s c => Nat.mul (Nat.mul c (Nat.sub (Nat.pred total) s)) length) s
theorem chK_eq (total length : Nat) : ∀ s, chK total length s = chJ total length s
  | 0 => rfl
  | s + 1 => by
    show chK total length s * (total - 1 - s) * length = _
    rw [chK_eq total length s]
    rfl
def goJ (length k total : Nat) (f : List Nat → Nat) (r : Nat) : Nat → List Nat → Nat :=
  Nat.rec (fun _ ws => f ws) (fun _ ih j ws => Bool.rec (ih (Nat.succ j) ws) (forceL (setK ws total (Nat.add (nth ws total) (Nat.mul (chK total length j) (nth ws (Nat.sub total (Nat.succ j)))))) fun ws => ih (Nat.succ j) ws) (Nat.beq (Nat.gcd (Nat.mul (Nat.succ j) length) k) (Nat.succ j))) r
theorem goJ_eq {length k total : Nat} {f : List Nat → Nat} {ws : List Nat} : ∀ (r j : Nat), goJ length k total f r j (inJ length k total ws j) = f (inJ length k total ws (j + r))
  | 0, j => rfl
  | r + 1, j => by
    have ih := goJ_eq (length := length) (k := k) (total := total) (f := f) (ws := ws) r (j + 1)
    rw [show j + (r + 1) = j + 1 + r by omega, ← ih]
    show (Bool.rec (goJ length k total f r (j + 1) (inJ length k total ws j)) (forceL (setK (inJ length k total ws j) total (nth (inJ length k total ws j) total + chK total length j * nth (inJ length k total ws j) (total - (j + 1)))) fun ws => goJ length k total f r (j + 1) ws) (Nat.beq (Nat.gcd ((j + 1) * length) k) (j + 1)) : Nat) = _
    rw [forceL_eq, nth_eq, nth_eq, setK_eq, chK_eq]
    rw [inJ]
    by_cases c : Nat.gcd ((j + 1) * length) k = j + 1
    · rw [stJ, if_pos c, show Nat.beq (Nat.gcd ((j + 1) * length) k) (j + 1) = true by rw [c]; exact Nat.beq_refl _]
    · rw [stJ, if_neg c, show Nat.beq (Nat.gcd ((j + 1) * length) k) (j + 1) = false from Bool.eq_false_iff.mpr fun q => c (Nat.eq_of_beq_eq_true q)]
def goT (length k : Nat) (g : List Nat → Nat) (r : Nat) : Nat → List Nat → Nat :=
  Nat.rec (fun _ ws => g ws) (fun _ ih t ws => goJ length k (Nat.succ t) (fun ws => ih (Nat.succ t) ws) (Nat.succ t) Nat.zero ws) r
theorem goT_eq {length k : Nat} {g : List Nat → Nat} {ws : List Nat} : ∀ (r t : Nat), goT length k g r t (outJ length k ws t) = g (outJ length k ws (t + r))
  | 0, t => rfl
  | r + 1, t => by
    have ih := goT_eq (length := length) (k := k) (g := g) (ws := ws) r (t + 1)
    rw [show t + (r + 1) = t + 1 + r by omega, ← ih]
    have := goJ_eq (length := length) (k := k) (total := t + 1) (f := fun ws => goT length k g r (t + 1) ws) (ws := outJ length k ws t) (t + 1) 0
    rw [Nat.zero_add] at this
    exact this
def tmK (u x s : Nat) : Nat := Nat.rec x (fun s c => Nat.mul c (Nat.sub u s)) s
theorem tmK_eq (u x : Nat) : ∀ s, tmK u x s = tmW u x s
  | 0 => rfl
  | s + 1 => by
    show tmK u x s * (u - s) = _
    rw [tmK_eq u x s]
    rfl
def goA (ws : List Nat) (t j lift : Nat) (f : Nat → Nat) (r : Nat) : Nat → Nat → Nat → Nat :=
  Nat.rec (fun _ x _ => f x) (fun _ ih a x y => forceN (Nat.add x (Nat.mul (nth ws (Nat.sub t (Nat.mul a j))) y)) fun x' => Bool.rec (ih (Nat.succ a) x' y) (forceN (Nat.div (Nat.mul (tmK (Nat.sub t (Nat.mul a j)) y j) lift) (Nat.mul j (Nat.succ a))) fun y' => ih (Nat.succ a) x' y') (Nat.ble (Nat.succ a) (Nat.div t j))) r
theorem goA_eq {ws : List Nat} {t j lift : Nat} {f : Nat → Nat} : ∀ (r a : Nat), goA ws t j lift f r a (aW ws t j lift a).1 (aW ws t j lift a).2 = f (aW ws t j lift (a + r)).1
  | 0, a => rfl
  | r + 1, a => by
    have ih := goA_eq (ws := ws) (t := t) (j := j) (lift := lift) (f := f) r (a + 1)
    rw [show a + (r + 1) = a + 1 + r by omega, ← ih]
    generalize hq : aW ws t j lift a = q
    obtain ⟨x, y⟩ := q
    show (forceN (x + nth ws (t - a * j) * y) fun x' => Bool.rec (goA ws t j lift f r (a + 1) x' y) (forceN (tmK (t - a * j) y j * lift / (j * (a + 1))) fun y' => goA ws t j lift f r (a + 1) x' y') (Nat.ble (a + 1) (t / j))) = _
    rw [forceN_eq, forceN_eq, nth_eq, tmK_eq, aW, hq]
    by_cases c : a < t / j
    · rw [show Nat.ble (a + 1) (t / j) = true from Nat.ble_eq.mpr c]
      simp only [if_pos c]
    · rw [show Nat.ble (a + 1) (t / j) = false from Bool.eq_false_iff.mpr fun q => c (Nat.le_of_ble_eq_true q)]
      simp only [if_neg c]
def goM (ws : List Nat) (j lift : Nat) (f : List Nat → Nat) (r : Nat) : List Nat → Nat :=
  Nat.rec (fun acc => f acc) (fun r ih acc => goA ws r j lift (fun x => forceN x fun x' => ih (x' :: acc)) (Nat.succ (Nat.div r j)) Nat.zero Nat.zero (Nat.succ Nat.zero)) r
theorem goM_eq {ws : List Nat} {j lift : Nat} {f : List Nat → Nat} : ∀ (r : Nat) (acc : List Nat), goM ws j lift f r acc = f ((List.range r).map (fun t => (aW ws t j lift (t / j + 1)).1) ++ acc)
  | 0, acc => rfl
  | r + 1, acc => by
    have h := goA_eq (ws := ws) (t := r) (j := j) (lift := lift) (f := fun x => forceN x fun x' => goM ws j lift f r (x' :: acc)) (r / j + 1) 0
    rw [Nat.zero_add, forceN_eq, goM_eq r] at h
    refine Eq.trans h ?_
    rw [List.range_succ]
    simp
def comK (length k j : Nat) : Bool := Nat.rec true (fun d ih => Bool.rec ih (Bool.rec ih false (Nat.beq (Nat.mod (Nat.div k j) (Nat.add d 2)) Nat.zero)) (Nat.beq (Nat.mod length (Nat.add d 2)) Nat.zero)) (Nat.pred length)
theorem comK_eq (length k j : Nat) : comK length k j = decide (comW length k j = []) := by
  have key : ∀ m, (Nat.rec true (fun d ih => Bool.rec ih (Bool.rec ih false (Nat.beq (Nat.mod (Nat.div k j) (Nat.add d 2)) Nat.zero)) (Nat.beq (Nat.mod length (Nat.add d 2)) Nat.zero)) m : Bool) = decide ((List.range' 2 m).filter (fun d => decide (length % d = 0) && decide (k / j % d = 0)) = []) := by
    intro m
    induction m with
    | zero => rfl
    | succ m ih =>
      show (Bool.rec (Nat.rec true (fun d ih => Bool.rec ih (Bool.rec ih false (Nat.beq (Nat.mod (Nat.div k j) (Nat.add d 2)) Nat.zero)) (Nat.beq (Nat.mod length (Nat.add d 2)) Nat.zero)) m : Bool) (Bool.rec (Nat.rec true (fun d ih => Bool.rec ih (Bool.rec ih false (Nat.beq (Nat.mod (Nat.div k j) (Nat.add d 2)) Nat.zero)) (Nat.beq (Nat.mod length (Nat.add d 2)) Nat.zero)) m : Bool) false (Nat.beq (k / j % (m + 2)) 0)) (Nat.beq (length % (m + 2)) 0) : Bool) = _
      rw [ih, List.range'_concat, List.filter_append]
      have e : 2 + 1 * m = m + 2 := by omega
      rw [e]
      by_cases c1 : length % (m + 2) = 0
      · by_cases c2 : k / j % (m + 2) = 0
        · rw [show Nat.beq (length % (m + 2)) 0 = true by rw [c1]; rfl, show Nat.beq (k / j % (m + 2)) 0 = true by rw [c2]; rfl]
          simp [c1, c2]
        · rw [show Nat.beq (length % (m + 2)) 0 = true by rw [c1]; rfl, show Nat.beq (k / j % (m + 2)) 0 = false from Bool.eq_false_iff.mpr fun q => c2 (Nat.eq_of_beq_eq_true q)]
          simp [c1, c2]
      · rw [show Nat.beq (length % (m + 2)) 0 = false from Bool.eq_false_iff.mpr fun q => c1 (Nat.eq_of_beq_eq_true q)]
        simp [c1]
  exact key (length - 1)
def lfK (length s : Nat) : Nat := Nat.rec (Nat.succ Nat.zero) (fun _ c => Nat.mul c length) s
theorem lfK_eq (length : Nat) : ∀ s, lfK length s = lfW length s
  | 0 => rfl
  | s + 1 => by
    show lfK length s * length = _
    rw [lfK_eq length s]
    rfl
def goW (many length k : Nat) (g : List Nat → Nat) (r : Nat) : Nat → List Nat → Nat :=
  Nat.rec (fun _ ws => g ws) (fun _ ih j ws => Bool.rec (ih (Nat.succ j) ws) (Bool.rec (ih (Nat.succ j) ws) (forceN (lfK length j) fun lift => goM ws (Nat.succ j) lift (fun ws' => ih (Nat.succ j) ws') (Nat.succ many) []) (comK length k (Nat.succ j))) (Nat.beq (Nat.mod k (Nat.succ j)) Nat.zero)) r
theorem goW_eq {many length k : Nat} {g : List Nat → Nat} {ws : List Nat} : ∀ (r j : Nat), goW many length k g r j (jW many length k ws j) = g (jW many length k ws (j + r))
  | 0, j => rfl
  | r + 1, j => by
    have ih := goW_eq (many := many) (length := length) (k := k) (g := g) (ws := ws) r (j + 1)
    rw [show j + (r + 1) = j + 1 + r by omega, ← ih]
    show (Bool.rec (goW many length k g r (j + 1) (jW many length k ws j)) (Bool.rec (goW many length k g r (j + 1) (jW many length k ws j)) (forceN (lfK length j) fun lift => goM (jW many length k ws j) (j + 1) lift (fun ws' => goW many length k g r (j + 1) ws') (many + 1) []) (comK length k (j + 1))) (Nat.beq (k % (j + 1)) 0) : Nat) = _
    rw [forceN_eq, goM_eq, List.append_nil, comK_eq, lfK_eq, jW, stW]
    by_cases c1 : k % (j + 1) = 0
    · by_cases c2 : comW length k (j + 1) = []
      · rw [if_pos ⟨c1, c2⟩, show Nat.beq (k % (j + 1)) 0 = true by rw [c1]; rfl, decide_eq_true c2]
        rfl
      · rw [if_neg (fun q => c2 q.2), show Nat.beq (k % (j + 1)) 0 = true by rw [c1]; rfl, decide_eq_false c2]
    · rw [if_neg (fun q => c1 q.1), show Nat.beq (k % (j + 1)) 0 = false from Bool.eq_false_iff.mpr fun q => c1 (Nat.eq_of_beq_eq_true q)]
def onesK (m : Nat) : List Nat := Nat.succ Nat.zero :: Nat.rec [] (fun _ ih => Nat.zero :: ih) m
theorem onesK_eq (m : Nat) : onesK m = 1 :: List.replicate m 0 := by
  have key : ∀ m, (Nat.rec [] (fun _ ih => Nat.zero :: ih) m : List Nat) = List.replicate m 0 := by
    intro m
    induction m with
    | zero => rfl
    | succ m ih => show 0 :: _ = _; rw [ih]; rfl
  unfold onesK
  rw [key]
def bothK (m l k : Nat) : Nat := forceL (onesK m) fun ws => goT l k (fun ws1 => forceN (nth ws1 m) fun x => goW m l k (fun ws2 => Bool.rec Nat.zero (Bool.rec Nat.zero (Nat.succ Nat.zero) (Nat.ble x 1267650600228229401496703205376)) (Nat.beq x (nth ws2 m))) m Nat.zero ws) m Nat.zero ws
theorem bothK_eq (m l k : Nat) : bothK m l k = Bool.rec Nat.zero (Bool.rec Nat.zero (Nat.succ Nat.zero) (Nat.ble (waysJ m l k) 1267650600228229401496703205376)) (Nat.beq (waysJ m l k) (waysW m l k)) := by
  unfold bothK
  rw [forceL_eq, onesK_eq]
  have h1 := goT_eq (length := l) (k := k) (g := fun ws1 => forceN (nth ws1 m) fun x => goW m l k (fun ws2 => Bool.rec Nat.zero (Bool.rec Nat.zero (Nat.succ Nat.zero) (Nat.ble x 1267650600228229401496703205376)) (Nat.beq x (nth ws2 m))) m Nat.zero (1 :: List.replicate m 0)) (ws := 1 :: List.replicate m 0) m 0
  have h2 := goW_eq (many := m) (length := l) (k := k) (g := fun ws2 => Bool.rec Nat.zero (Bool.rec Nat.zero (Nat.succ Nat.zero) (Nat.ble (nth (outJ l k (1 :: List.replicate m 0) m) m) 1267650600228229401496703205376)) (Nat.beq (nth (outJ l k (1 :: List.replicate m 0) m) m) (nth ws2 m))) (ws := 1 :: List.replicate m 0) m 0
  rw [Nat.zero_add] at h1 h2
  refine Eq.trans h1 ((forceN_eq _ _).trans (Eq.trans h2 ?_))
  show (Bool.rec Nat.zero (Bool.rec Nat.zero (Nat.succ Nat.zero) (Nat.ble (nth (outJ l k (1 :: List.replicate m 0) m) m) 1267650600228229401496703205376)) (Nat.beq (nth (outJ l k (1 :: List.replicate m 0) m) m) (nth (jW m l k (1 :: List.replicate m 0) m) m)) : Nat) = _
  rw [nth_eq, nth_eq]
  rfl
theorem bothK_ok {m l k : Nat} (h : Nat.beq (bothK m l k) 1 = true) : waysW m l k = waysJ m l k ∧ waysJ m l k ≤ 2 ^ 100 := by
  have h := Nat.eq_of_beq_eq_true h
  rw [bothK_eq] at h
  generalize waysJ m l k = x at h ⊢
  generalize waysW m l k = y at h ⊢
  cases c1 : Nat.beq x y with
  | false => rw [c1] at h; cases h
  | true =>
    cases c2 : Nat.ble x 1267650600228229401496703205376 with
    | false => rw [c1, c2] at h; cases h
    | true => exact ⟨(Nat.eq_of_beq_eq_true c1).symm, Nat.le_of_ble_eq_true c2⟩
def chkWJ (k : Nat) : Bool := (List.range 24).all fun l => (List.range (24 / (l + 1))).all fun m => Nat.beq (bothK (m + 1) (l + 1) (k + 1)) 1
theorem chk_W0 : (List.range' 0 10).all chkWJ = true := by decide +kernel
theorem chk_W1 : (List.range' 10 10).all chkWJ = true := by decide +kernel
theorem chk_W2 : (List.range' 20 10).all chkWJ = true := by decide +kernel
theorem chk_W3 : (List.range' 30 10).all chkWJ = true := by decide +kernel
theorem chk_W4 : (List.range' 40 10).all chkWJ = true := by decide +kernel
theorem chk_W5 : (List.range' 50 10).all chkWJ = true := by decide +kernel
theorem ways_eq {m l k : Nat} (hm : 1 ≤ m) (hl : 1 ≤ l) (hml : m * l ≤ 24) (hk : 1 ≤ k) (hk2 : k ≤ 60) : waysW m l k = waysJ m l k ∧ waysJ m l k ≤ 2 ^ 100 := by
  have key : chkWJ (k - 1) = true := by
    have h : ∀ i, i < 6 → (List.range' (10 * i) 10).all chkWJ = true := fun i hi => by
      have : i = 0 ∨ i = 1 ∨ i = 2 ∨ i = 3 ∨ i = 4 ∨ i = 5 := by omega
      rcases this with rfl | rfl | rfl | rfl | rfl | rfl
      · exact chk_W0
      · exact chk_W1
      · exact chk_W2
      · exact chk_W3
      · exact chk_W4
      · exact chk_W5
    have h1 := h ((k - 1) / 10) (by omega)
    exact List.all_eq_true.mp h1 (k - 1) (by rw [List.mem_range'_1]; omega)
  have hl2 : l ≤ 24 := Nat.le_trans (Nat.le_mul_of_pos_left l hm) hml
  have hm2 : m ≤ 24 / l := (Nat.le_div_iff_mul_le hl).mpr hml
  have h2 := List.all_eq_true.mp key (l - 1) (by rw [List.mem_range]; omega)
  have h3 := List.all_eq_true.mp h2 (m - 1) (by rw [List.mem_range, Nat.sub_add_cancel hl]; omega)
  rw [Nat.sub_add_cancel hm, Nat.sub_add_cancel hl, Nat.sub_add_cancel hk] at h3
  exact bothK_ok h3
end
end Cl

namespace Cl
noncomputable section
open PySem L2 Z
def b_ways_to_join_1 : SM := (mSet 6 (eP (pOp oMul (pOp oMul (pV 6) (pOp oSub (pOp oSub (pV 4) (pC (.int 1))) (pV 7))) (pV 1))))
def b_ways_to_join_2 : SM := (mIf (eT (pB (pOp oEq (pCall 2 F_shared (aCons (pOp oMul (pV 5) (pV 1)) (aCons (pV 2) aNil))) (pV 5)))) (mSeq (mSet 6 (eP (pC (.int 1)))) (mSeq (mFor (iR1 (eCons (eP (pOp oSub (pV 5) (pC (.int 1)))) eNil)) (bName 7) b_ways_to_join_1) (mAugS 3 (pV 4) (fun i j => i + j) (pOp oMul (pV 6) (pOp oIx (pV 3) (pOp oSub (pV 4) (pV 5))))))) mNil)
def b_ways_to_join_3 : SM := (mFor (iR2 (eCons (eP (pC (.int 1))) (eCons (eP (pOp oAdd (pV 4) (pC (.int 1)))) eNil))) (bName 5) b_ways_to_join_2)
def m_ways_to_join : SM := (mSeq (mSet 3 (eOp eAddT (eLst (eCons (eP (pC (.int 1))) eNil)) (eOp repT (eLst (eCons (eP (pC (.int 0))) eNil)) (eV 0)))) (mSeq (mFor (iR2 (eCons (eP (pC (.int 1))) (eCons (eP (pOp oAdd (pV 0) (pC (.int 1)))) eNil))) (bName 4) b_ways_to_join_3) (mRet (eGet (vIx (vV 3) (pV 0))))))
def F_ways_to_join : FM := mFun 3 8 m_ways_to_join
theorem augS_ok {ρ : Z.Env} {i : Nat} {kx e : PM} {f : Int → Int → Int} {l : List Int} {k y : Int} {j : Nat} (h1 : ρ[i]? = some (some (T.ints l))) (h2 : kx ρ = some (.int k)) (h3 : e ρ = some (.int y)) (h4 : ixN l.length k = some j) (hj : j < l.length) :
    mAugS i kx f e ρ = .nx (ρ.set i (some (T.ints (l.set j (f (l.getD j 0) y))))) := by
  unfold mAugS
  rw [h1, h2, h3]
  have e1 : (l.map ig)[j]? = some (.sh (.int (l.getD j 0))) := by
    rw [List.getElem?_map, List.getElem?_eq_getElem hj, getD_at hj]
    rfl
  have e2 : ixN (l.map ig).length k = some j := by rw [List.length_map]; exact h4
  show (match ixN (l.map ig).length k with | some j => (match (l.map ig)[j]? with | some (.sh (.int x)) => SOut.nx (ρ.set i (some (.ol ((l.map ig).set j (.sh (.int (f x y))))))) | _ => .bad) | none => .bad) = _
  rw [e2]
  simp only
  rw [e1]
  simp only
  congr 4
  rw [List.map_set]
  rfl
/-- numbers below a power of two -/
def BW (ws : List Nat) (b : Nat) : Prop := ∀ x ∈ ws, x ≤ 2 ^ b
theorem BW.at {ws : List Nat} {b : Nat} (h : BW ws b) (i : Nat) : ws.getD i 0 ≤ 2 ^ b := by
  by_cases c : i < ws.length
  · rw [List.getD_eq_getElem?_getD, List.getElem?_eq_getElem c]
    exact h _ (List.getElem_mem _)
  · rw [List.getD_eq_getElem?_getD, List.getElem?_eq_none (by omega)]
    exact Nat.zero_le _
theorem BW.set {ws : List Nat} {b c : Nat} (h : BW ws b) (hb : b ≤ c) {i x : Nat} (hx : x ≤ 2 ^ c) : BW (ws.set i x) c := fun y hy => by
  rcases List.mem_or_eq_of_mem_set hy with q | q
  · exact Nat.le_trans (h y q) (Nat.pow_le_pow_right (by decide) hb)
  · rw [q]; exact hx
theorem sm_of {i j a b : Nat} (hi : i ≤ 2 ^ a) (hj : j ≤ 2 ^ b) (h : a + b ≤ 900000) : smallM (i : Int) (j : Int) := by
  refine .inr (.inr ?_)
  have key : ∀ {x c : Nat}, x ≤ 2 ^ c → x.log2 ≤ c := fun {x c} hx => by
    by_cases q : x = 0
    · subst q; simp
    · have h1 : x < 2 ^ (c + 1) := Nat.lt_of_le_of_lt hx (Nat.pow_lt_pow_right (by decide) (by omega))
      have := (Nat.log2_lt q).mpr h1
      omega
  have h1 := key hi
  have h2 := key hj
  show (i : Int).natAbs.log2 + (j : Int).natAbs.log2 < 1000000
  rw [Int.natAbs_natCast, Int.natAbs_natCast]
  omega
theorem chJ_le {total length : Nat} (ht : total ≤ 24) (hl : length ≤ 24) : ∀ s, chJ total length s ≤ 2 ^ (10 * s)
  | 0 => by simp [chJ]
  | s + 1 => by
    have ih := chJ_le ht hl s
    rw [chJ, Nat.mul_assoc, Nat.mul_add, Nat.pow_add]
    refine Nat.mul_le_mul ih ?_
    have : (total - 1 - s) * length ≤ 24 * 24 := Nat.mul_le_mul (by omega) hl
    omega
theorem stJ_le {length k total j b : Nat} {ws : List Nat} (ht : total ≤ 24) (hl : length ≤ 24) (hj : j < 24) (h : BW ws b) : BW (stJ length k total j ws) (b + 241) := by
  unfold stJ
  split
  · refine h.set (by omega) ?_
    have h1 := h.at total
    have h2 := h.at (total - (j + 1))
    have h3 : chJ total length j ≤ 2 ^ 240 := Nat.le_trans (chJ_le ht hl j) (Nat.pow_le_pow_right (by decide) (by omega))
    have h4 := Nat.mul_le_mul h3 h2
    have e1 : (2 : Nat) ^ (b + 241) = 2 * (2 ^ 240 * 2 ^ b) := by rw [← Nat.pow_add, ← Nat.pow_succ']; congr 1; omega
    have e2 : (2 : Nat) ^ b ≤ 2 ^ 240 * 2 ^ b := Nat.le_mul_of_pos_left _ (Nat.pow_pos (by decide))
    omega
  · exact fun x hx => Nat.le_trans (h x hx) (Nat.pow_le_pow_right (by decide) (by omega))
theorem stJ_len {length k total j : Nat} {ws : List Nat} : (stJ length k total j ws).length = ws.length := by
  unfold stJ
  split <;> simp
theorem ch_loop {e0 e2 e3 e5 e7 : Option T} {length total j : Nat} (ht : 1 ≤ total) (ht2 : total ≤ 24) (hl : length ≤ 24) (hj : j < total) :
    ∃ j7, forL (bName 7) b_ways_to_join_1 (rangeT 0 j) [e0, some (si (length : Int)), e2, e3, some (si (total : Int)), e5, some (si 1), e7] = .nx [e0, some (si (length : Int)), e2, e3, some (si (total : Int)), e5, some (si (chJ total length j : Nat)), j7] := by
  obtain ⟨ρ', e, j7, rfl⟩ := forN_inv (i := 7) (body := b_ways_to_join_1) (its := rangeT 0 j) (ρ := [e0, some (si (length : Int)), e2, e3, some (si (total : Int)), e5, some (si 1), e7])
    (fun s ρ => ∃ j7 : Option T, ρ = [e0, some (si (length : Int)), e2, e3, some (si (total : Int)), e5, some (si (chJ total length s : Nat)), j7]) ⟨e7, rfl⟩ (by
      rintro s t ρ e ⟨j7, rfl⟩
      obtain ⟨hs, rfl⟩ := rangeT_get e
      have e1 : (total : Int) - 1 - (s : Int) = ((total - 1 - s : Nat) : Int) := by omega
      have m1 := mul_int (i := (chJ total length s : Nat)) (j := (total : Int) - 1 - (s : Int)) (small_r ⟨by omega, by omega⟩)
      have m2 := mul_int (i := (chJ total length s : Nat) * ((total : Int) - 1 - (s : Int))) (j := (length : Int)) (small_r ⟨by omega, by omega⟩)
      have e2 : ((chJ total length (s + 1) : Nat) : Int) = (chJ total length s : Nat) * ((total : Int) - 1 - (s : Int)) * (length : Int) := by
        rw [chJ, Int.natCast_mul, Int.natCast_mul, e1]
      refine ⟨_, .inl ?_, some (si (0 + (s : Int))), rfl⟩
      rw [e2]
      generalize (chJ total length s : Nat) = C at *
      simp [b_ways_to_join_1, m1, m2])
  rw [rangeT_len] at e
  exact ⟨j7, e⟩
theorem natL_get (ws : List Nat) (i : Nat) : (natL ws).getD i 0 = ((ws.getD i 0 : Nat) : Int) := by
  unfold natL
  rw [List.getD_eq_getElem?_getD, List.getD_eq_getElem?_getD, List.getElem?_map]
  cases ws[i]? <;> rfl
theorem natL_set (ws : List Nat) (i x : Nat) : (natL ws).set i ((x : Nat) : Int) = natL (ws.set i x) := by
  unfold natL
  rw [List.map_set]
theorem natL_len (ws : List Nat) : (natL ws).length = ws.length := List.length_map ..
theorem join_step {many length k total j b : Nat} {ws : List Nat} {e6 e7 : Option T} (hm : many ≤ 24) (hl : length ≤ 24) (hk : k < 1000000) (h1 : 1 ≤ total) (h2 : total ≤ many) (hj : j < total) (hw : ws.length = many + 1) (hb : BW ws b) (hb2 : b ≤ 600000) :
    ∃ j6 j7, b_ways_to_join_2 [some (si (many : Int)), some (si (length : Int)), some (si (k : Int)), some (T.ints (natL ws)), some (si (total : Int)), some (si (1 + (j : Int))), e6, e7] = .nx [some (si (many : Int)), some (si (length : Int)), some (si (k : Int)), some (T.ints (natL (stJ length k total j ws))), some (si (total : Int)), some (si (1 + (j : Int))), j6, j7] := by
  have m1 := mul_int (i := 1 + (j : Int)) (j := (length : Int)) (small_r ⟨by omega, by omega⟩)
  have hg := gcd_ok (a := (j + 1) * length) (b := k) hk
  have eg : ((((j + 1) * length : Nat)) : Int) = (1 + (j : Int)) * (length : Int) := by rw [Int.natCast_mul]; congr 1; omega
  rw [eg] at hg
  by_cases c : Nat.gcd ((j + 1) * length) k = j + 1
  · obtain ⟨j7, ec⟩ := ch_loop (e0 := some (si (many : Int))) (e2 := some (si (k : Int))) (e3 := some (T.ints (natL ws))) (e5 := some (si (1 + (j : Int)))) (e7 := e7) (length := length) (total := total) (j := j) h1 (by omega) hl hj
    have hch : chJ total length j ≤ 2 ^ 240 := Nat.le_trans (chJ_le (by omega) hl j) (Nat.pow_le_pow_right (by decide) (by omega))
    have hi : ixN (natL ws).length (total : Int) = some total := by
      have := ixN_ok (n := (natL ws).length) (i := (total : Int)) (by omega) (by rw [natL_len]; omega)
      simpa using this
    have ha : atI ((natL ws).map D.int) ((total : Int) - (1 + (j : Int))) = some (.int (ws.getD (total - (j + 1)) 0 : Nat)) := by
      rw [atI_D _ (by omega) (by rw [natL_len]; omega), natL_get, show ((total : Int) - (1 + (j : Int))).toNat = total - (j + 1) by omega]
    have m2 := mul_int (sm_of hch (hb.at (total - (j + 1))) (by omega))
    have haug := augS_ok (ρ := [some (si (many : Int)), some (si (length : Int)), some (si (k : Int)), some (T.ints (natL ws)), some (si (total : Int)), some (si (1 + (j : Int))), some (si (chJ total length j : Nat)), j7]) (i := 3) (kx := pV 4) (e := pOp oMul (pV 6) (pOp oIx (pV 3) (pOp oSub (pV 4) (pV 5)))) (f := fun i j => i + j) (l := natL ws) (k := (total : Int)) (y := (chJ total length j : Nat) * (ws.getD (total - (j + 1)) 0 : Nat)) (j := total) rfl rfl (by
      generalize ws.getD (total - (j + 1)) 0 = W at *
      generalize chJ total length j = C at *
      generalize natL ws = L at *
      simp [ha, m2]) hi (by rw [natL_len]; omega)
    have est : (natL ws).set total ((natL ws).getD total 0 + (chJ total length j : Nat) * (ws.getD (total - (j + 1)) 0 : Nat)) = natL (stJ length k total j ws) := by
      rw [stJ, if_pos c, ← natL_set, natL_get]
      congr 1
    have haug := haug.trans (congrArg (fun l => SOut.nx ([some (si (many : Int)), some (si (length : Int)), some (si (k : Int)), some (T.ints (natL ws)), some (si (total : Int)), some (si (1 + (j : Int))), some (si (chJ total length j : Nat)), j7].set 3 (some (T.ints l)))) est)
    have hb5 : InR (j : Int) := inR_nat (by omega)
    have ej : (1 + (j : Int)) - 1 = j := by omega
    refine ⟨some (si (chJ total length j : Nat)), j7, ?_⟩
    rw [c] at hg
    generalize natL (stJ length k total j ws) = L2 at *
    generalize natL ws = L at *
    generalize chJ total length j = C at *
    have eq : (j : Int) + 1 = 1 + (j : Int) := by omega
    simp at ec haug
    simp [b_ways_to_join_2, m1, hg, eq, ej, hb5, ec, haug]
  · refine ⟨e6, e7, ?_⟩
    rw [stJ, if_neg c]
    have eq : ((Nat.gcd ((j + 1) * length) k : Int) == 1 + (j : Int)) = false := by
      rw [beq_eq_false_iff_ne]
      omega
    generalize natL ws = L at *
    generalize Nat.gcd ((j + 1) * length) k = G at *
    simp [b_ways_to_join_2, m1, hg, eq]
theorem inJ_ok {length k total b : Nat} {ws : List Nat} (ht : total ≤ 24) (hl : length ≤ 24) (h : BW ws b) : ∀ j, j ≤ 24 → (inJ length k total ws j).length = ws.length ∧ BW (inJ length k total ws j) (b + 241 * j)
  | 0, _ => ⟨rfl, h⟩
  | j + 1, hj => by
    obtain ⟨h1, h2⟩ := inJ_ok (k := k) ht hl h j (by omega)
    exact ⟨by rw [inJ, stJ_len, h1], by rw [inJ]; exact (stJ_le ht hl (by omega) h2)⟩
theorem total_step {many length k total b : Nat} {ws : List Nat} {e5 e6 e7 : Option T} (hm : many ≤ 24) (hl : length ≤ 24) (hk : k < 1000000) (h1 : 1 ≤ total) (h2 : total ≤ many) (hw : ws.length = many + 1) (hb : BW ws b) (hb2 : b ≤ 500000) :
    ∃ j5 j6 j7, b_ways_to_join_3 [some (si (many : Int)), some (si (length : Int)), some (si (k : Int)), some (T.ints (natL ws)), some (si (total : Int)), e5, e6, e7] = .nx [some (si (many : Int)), some (si (length : Int)), some (si (k : Int)), some (T.ints (natL (inJ length k total ws total))), some (si (total : Int)), j5, j6, j7] := by
  obtain ⟨ρ', e, j5, j6, j7, rfl⟩ := forN_inv (i := 5) (body := b_ways_to_join_2) (its := rangeT 1 total) (ρ := [some (si (many : Int)), some (si (length : Int)), some (si (k : Int)), some (T.ints (natL ws)), some (si (total : Int)), e5, e6, e7])
    (fun j ρ => ∃ j5 j6 j7 : Option T, ρ = [some (si (many : Int)), some (si (length : Int)), some (si (k : Int)), some (T.ints (natL (inJ length k total ws j))), some (si (total : Int)), j5, j6, j7]) ⟨e5, e6, e7, rfl⟩ (by
      rintro j t ρ e ⟨j5, j6, j7, rfl⟩
      obtain ⟨hj, rfl⟩ := rangeT_get e
      obtain ⟨q1, q2⟩ := inJ_ok (k := k) (total := total) (by omega) hl hb j (by omega)
      obtain ⟨a6, a7, es⟩ := join_step (e6 := j6) (e7 := j7) hm hl hk h1 h2 hj (by omega) q2 (by omega)
      exact ⟨_, .inl es, some (si (1 + (j : Int))), a6, a7, rfl⟩)
  rw [rangeT_len] at e
  have hr : InR 1 := InR.of (by decide) (by decide)
  have hr2 : InR ((total : Int) + 1) := InR.of (by omega) (by omega)
  have ht : ((total : Int) + 1 - 1).toNat = total := by omega
  refine ⟨j5, j6, j7, ?_⟩
  generalize natL (inJ length k total ws total) = L2 at *
  generalize natL ws = L at *
  simp at e
  simp [b_ways_to_join_3, hr, hr2, ht, e]
theorem outJ_ok {many length k b : Nat} {ws : List Nat} (hm : many ≤ 24) (hl : length ≤ 24) (h : BW ws b) : ∀ t, t ≤ many → (outJ length k ws t).length = ws.length ∧ BW (outJ length k ws t) (b + 5784 * t)
  | 0, _ => ⟨rfl, h⟩
  | t + 1, ht => by
    obtain ⟨h1, h2⟩ := outJ_ok (k := k) hm hl h t (by omega)
    obtain ⟨h3, h4⟩ := inJ_ok (k := k) (total := t + 1) (by omega) hl h2 (t + 1) (by omega)
    refine ⟨by rw [outJ, h3, h1], fun x hx => Nat.le_trans (h4 x hx) (Nat.pow_le_pow_right (by decide) (by omega))⟩
theorem join_ok {many length k : Nat} (hm : many ≤ 24) (hl : length ≤ 24) (hk : k < 1000000) : F_ways_to_join [si (many : Int), si (length : Int), si (k : Int)] = .ok (si (waysJ many length k : Nat)) [si (many : Int), si (length : Int), si (k : Int)] := by
  have hb0 : BW (1 :: List.replicate many 0) 0 := fun x hx => by
    rcases List.mem_cons.mp hx with rfl | hx
    · exact Nat.le_refl _
    · rw [(List.mem_replicate.mp hx).2]; exact Nat.zero_le _
  have hl0 : (1 :: List.replicate many 0).length = many + 1 := by simp
  obtain ⟨ρ', e, j4, j5, j6, j7, rfl⟩ := forN_inv (i := 4) (body := b_ways_to_join_3) (its := rangeT 1 many) (ρ := [some (si (many : Int)), some (si (length : Int)), some (si (k : Int)), some (T.ints (natL (1 :: List.replicate many 0))), none, none, none, none])
    (fun t ρ => ∃ j4 j5 j6 j7 : Option T, ρ = [some (si (many : Int)), some (si (length : Int)), some (si (k : Int)), some (T.ints (natL (outJ length k (1 :: List.replicate many 0) t))), j4, j5, j6, j7]) ⟨none, none, none, none, rfl⟩ (by
      rintro t u ρ e ⟨j4, j5, j6, j7, rfl⟩
      obtain ⟨hj, rfl⟩ := rangeT_get e
      obtain ⟨q1, q2⟩ := outJ_ok (k := k) hm hl hb0 t (by omega)
      obtain ⟨a5, a6, a7, es⟩ := total_step (e5 := j5) (e6 := j6) (e7 := j7) hm hl hk (total := t + 1) (by omega) (by omega) (by omega) q2 (by omega)
      have et : (((t + 1 : Nat)) : Int) = 1 + (t : Int) := by omega
      rw [et] at es
      exact ⟨_, .inl es, some (si (1 + (t : Int))), a5, a6, a7, rfl⟩)
  rw [rangeT_len] at e
  obtain ⟨q1, q2⟩ := outJ_ok (k := k) hm hl hb0 many (Nat.le_refl _)
  have ha := atI_T (natL (outJ length k (1 :: List.replicate many 0) many)) (i := (many : Int)) (by omega) (by rw [natL_len]; omega)
  rw [natL_get, Int.toNat_natCast] at ha
  have hr : InR 1 := InR.of (by decide) (by decide)
  have hr2 : InR ((many : Int) + 1) := InR.of (by omega) (by omega)
  have ht : ((many : Int) + 1 - 1).toNat = many := by omega
  have h0 : T.ints (natL (1 :: List.replicate many 0)) = .ol (si 1 :: List.replicate many (si 0)) := by
    simp [natL]
  rw [h0] at e
  have hrep : repT (.ol [si 0]) (si (many : Int)) = some (.ol (List.replicate many (si 0))) := repT_one (by unfold lim; omega)
  have hadd : eAddT (.ol [si 1]) (.ol (List.replicate many (si 0))) = some (.ol (si 1 :: List.replicate many (si 0))) := addT_lst (els_ol _) (els_ol _) (by simp; unfold lim; omega)
  have hw : waysJ many length k = (outJ length k (1 :: List.replicate many 0) many).getD many 0 := rfl
  rw [hw]
  generalize natL (outJ length k (1 :: List.replicate many 0) many) = L2 at *
  generalize (outJ length k (1 :: List.replicate many 0) many).getD many 0 = X at *
  generalize List.replicate many (si 0) = RP at *
  simp at e
  simp [F_ways_to_join, m_ways_to_join, hrep, hadd, hr, hr2, ht, e, ha]
end
end Cl

set_option exponentiation.threshold 10000
namespace Cl
noncomputable section
open PySem L2 Z
def b_law_ways_1 : SM := (mSet 10 (eP (pOp oMul (pV 10) (pOp oSub (pOp oSub (pV 9) (pOp oMul (pV 11) (pV 4))) (pV 12)))))
def b_law_ways_2 : SM := (mSeq (mStore 7 (eP (pOp oAdd (pOp oIx (pV 7) (pV 9)) (pOp oMul (pOp oIx (pV 3) (pOp oSub (pV 9) (pOp oMul (pV 11) (pV 4)))) (pV 10)))) (pV 9)) (mIf (eT (pB (pOp oLt (pV 11) (pCB (o1 oInt) (aCons (pOp oDiv (pV 9) (pV 4)) aNil))))) (mSeq (mFor (iR1 (eCons (eV 4) eNil)) (bName 12) b_law_ways_1) (mSet 10 (eP (pCB (o1 oInt) (aCons (pOp oDiv (pOp oMul (pV 10) (pV 6)) (pOp oMul (pV 4) (pOp oAdd (pV 11) (pC (.int 1))))) aNil))))) mNil))
def b_law_ways_3 : SM := (mSeq (mSet 10 (eP (pC (.int 1)))) (mFor (iR1 (eCons (eP (pOp oAdd (pCB (o1 oInt) (aCons (pOp oDiv (pV 9) (pV 4)) aNil)) (pC (.int 1)))) eNil)) (bName 11) b_law_ways_2))
def b_law_ways_4 : SM := (mSet 6 (eP (pOp oMul (pV 6) (pV 1))))
def t_law_ways_5 : EMb := (eT (qAnd (pB (pOp oEq (pOp oMod (pCB (o1 oInt) (aCons (pV 1) aNil)) (pV 13)) (pC (.int 0)))) (pB (pOp oEq (pOp oMod (pCB (o1 oInt) (aCons (pOp oDiv (pV 2) (pV 4)) aNil)) (pV 13)) (pC (.int 0))))))
def x_law_ways_6 : EM := (eV 13)
def b_law_ways_7 : SM := (mSeq (mSet 5 (eLC [13] (iR2 (eCons (eP (pC (.int 2))) (eCons (eP (pOp oAdd (pV 1) (pC (.int 1)))) eNil))) (bName 13) t_law_ways_5 x_law_ways_6)) (mIf (eT (qAnd (pB (pOp oEq (pOp oMod (pCB (o1 oInt) (aCons (pV 2) aNil)) (pV 4)) (pC (.int 0)))) (pB (pOp oEq (pV 5) (pLst aNil))))) (mSeq (mPar 6 7 (eCons (eP (pC (.int 1))) (eCons (eOp repT (eLst (eCons (eP (pC (.int 0))) eNil)) (eP (pOp oAdd (pV 0) (pC (.int 1))))) eNil))) (mSeq (mFor (iR1 (eCons (eP (pOp oSub (pV 4) (pC (.int 1)))) eNil)) (bName 8) b_law_ways_4) (mSeq (mFor (iR1 (eCons (eP (pOp oAdd (pV 0) (pC (.int 1)))) eNil)) (bName 9) b_law_ways_3) (mSet 3 (eV 7))))) mNil))
def m_law_ways : SM := (mSeq (mSet 3 (eOp eAddT (eLst (eCons (eP (pC (.int 1))) eNil)) (eOp repT (eLst (eCons (eP (pC (.int 0))) eNil)) (eV 0)))) (mSeq (mFor (iR2 (eCons (eP (pC (.int 1))) (eCons (eP (pOp oAdd (pV 0) (pC (.int 1)))) eNil))) (bName 4) b_law_ways_7) (mRet (eGet (vIx (vV 3) (pV 0))))))
def F_law_ways : FM := mFun 3 14 m_law_ways
theorem lf_le {length : Nat} (hl : length ≤ 24) : ∀ s, lfW length s ≤ 2 ^ (5 * s)
  | 0 => by simp [lfW]
  | s + 1 => by
    have ih := lf_le hl s
    rw [lfW, Nat.mul_add, Nat.pow_add]
    exact Nat.mul_le_mul ih (by omega)
theorem tm_le {u y c : Nat} (hu : u ≤ 24) (hy : y ≤ 2 ^ c) : ∀ s, tmW u y s ≤ 2 ^ (c + 5 * s)
  | 0 => hy
  | s + 1 => by
    have ih := tm_le hu hy s
    rw [tmW, Nat.mul_add, ← Nat.add_assoc, Nat.pow_add]
    exact Nat.mul_le_mul ih (by omega)
theorem aW_le {ws : List Nat} {t j lift b : Nat} (ht : t ≤ 24) (hj : j ≤ 24) (hL : lift ≤ 2 ^ 120) (h : BW ws b) : ∀ a, (aW ws t j lift a).1 ≤ 2 ^ (b + 240 * a) ∧ (aW ws t j lift a).2 ≤ 2 ^ (240 * a)
  | 0 => ⟨Nat.zero_le _, Nat.le_refl _⟩
  | a + 1 => by
    obtain ⟨h1, h2⟩ := aW_le ht hj hL h a
    generalize hq : aW ws t j lift a = q at h1 h2
    obtain ⟨x, y⟩ := q
    have e : aW ws t j lift (a + 1) = (x + ws.getD (t - a * j) 0 * y, if a < t / j then tmW (t - a * j) y j * lift / (j * (a + 1)) else y) := by rw [aW, hq]
    rw [e]
    simp only at h1 h2 ⊢
    constructor
    · have h3 := Nat.mul_le_mul (h.at (t - a * j)) h2
      rw [← Nat.pow_add] at h3
      have e1 : (2 : Nat) ^ (b + 240 * (a + 1)) = 2 ^ 240 * 2 ^ (b + 240 * a) := by rw [← Nat.pow_add]; congr 1; omega
      have e2 : 2 * 2 ^ (b + 240 * a) ≤ 2 ^ 240 * 2 ^ (b + 240 * a) := Nat.mul_le_mul_right _ (by decide)
      omega
    · split
      · refine Nat.le_trans (Nat.div_le_self _ _) ?_
        have h3 := Nat.mul_le_mul (tm_le (u := t - a * j) (by omega) h2 j) hL
        rw [← Nat.pow_add] at h3
        exact Nat.le_trans h3 (Nat.pow_le_pow_right (by decide) (by omega))
      · exact Nat.le_trans h2 (Nat.pow_le_pow_right (by decide) (by omega))
theorem more_le {many j lift b : Nat} {ws : List Nat} (hm : many ≤ 24) (hj : j ≤ 24) (hL : lift ≤ 2 ^ 120) (h : BW ws b) : BW (moreW many j lift ws) (b + 6000) := fun x hx => by
  unfold moreW at hx
  obtain ⟨t, ht, rfl⟩ := List.mem_map.mp hx
  rw [List.mem_range] at ht
  have h1 := (aW_le (t := t) (j := j) (lift := lift) (by omega) hj hL h (t / j + 1)).1
  have h2 : t / j ≤ t := Nat.div_le_self _ _
  exact Nat.le_trans h1 (Nat.pow_le_pow_right (by decide) (by omega))
theorem jW_ok {many length k b : Nat} {ws : List Nat} (hm : many ≤ 24) (hl : length ≤ 24) (hw : ws.length = many + 1) (h : BW ws b) : ∀ j, j ≤ 24 → (jW many length k ws j).length = many + 1 ∧ BW (jW many length k ws j) (b + 6000 * j)
  | 0, _ => ⟨hw, h⟩
  | j + 1, hj => by
    obtain ⟨h1, h2⟩ := jW_ok (k := k) hm hl hw h j (by omega)
    rw [jW, stW]
    split
    · refine ⟨by simp [moreW], ?_⟩
      have hL : lfW length j ≤ 2 ^ 120 := Nat.le_trans (lf_le hl j) (Nat.pow_le_pow_right (by decide) (by omega))
      exact more_le hm hj hL h2
    · exact ⟨h1, fun x hx => Nat.le_trans (h2 x hx) (Nat.pow_le_pow_right (by decide) (by omega))⟩
/-! ### the walk -/
theorem tm_loop {e0 e1 e2 e3 e5 e6 e7 e8 e12 e13 : Option T} {t a j y : Nat} (hj : j ≤ 24) (ht : t ≤ 24) (h : a * j + j ≤ t) :
    ∃ j12, forL (bName 12) b_law_ways_1 (rangeT 0 j) [e0, e1, e2, e3, some (si (j : Int)), e5, e6, e7, e8, some (si (t : Int)), some (si (y : Nat)), some (si (a : Int)), e12, e13] = .nx [e0, e1, e2, e3, some (si (j : Int)), e5, e6, e7, e8, some (si (t : Int)), some (si (tmW (t - a * j) y j : Nat)), some (si (a : Int)), j12, e13] := by
  obtain ⟨ρ', e, j12, rfl⟩ := forN_inv (i := 12) (body := b_law_ways_1) (its := rangeT 0 j) (ρ := [e0, e1, e2, e3, some (si (j : Int)), e5, e6, e7, e8, some (si (t : Int)), some (si (y : Nat)), some (si (a : Int)), e12, e13])
    (fun s ρ => ∃ j12 : Option T, ρ = [e0, e1, e2, e3, some (si (j : Int)), e5, e6, e7, e8, some (si (t : Int)), some (si (tmW (t - a * j) y s : Nat)), some (si (a : Int)), j12, e13]) ⟨e12, rfl⟩ (by
      rintro s u ρ e ⟨j12, rfl⟩
      obtain ⟨hs, rfl⟩ := rangeT_get e
      have m0 := mul_int (i := (a : Int)) (j := (j : Int)) (small_r ⟨by omega, by omega⟩)
      have ea : (a : Int) * (j : Int) = ((a * j : Nat) : Int) := by rw [Int.natCast_mul]
      rw [ea] at m0
      generalize a * j = w at *
      have e1 : (t : Int) - (w : Int) - (s : Int) = ((t - w - s : Nat) : Int) := by omega
      have m1 := mul_int (i := (tmW (t - w) y s : Nat)) (j := (t : Int) - (w : Int) - (s : Int)) (small_r ⟨by omega, by omega⟩)
      have e2 : ((tmW (t - w) y (s + 1) : Nat) : Int) = (tmW (t - w) y s : Nat) * ((t : Int) - (w : Int) - (s : Int)) := by
        rw [tmW, Int.natCast_mul, e1]
      refine ⟨_, .inl ?_, some (si (0 + (s : Int))), rfl⟩
      rw [e2]
      generalize (tmW (t - w) y s : Nat) = C at *
      simp [b_law_ways_1, m0, m1])
  rw [rangeT_len] at e
  exact ⟨j12, e⟩
theorem a_step {e0 e1 e2 e5 e8 e12 e13 : Option T} {U : T} {ws M : List Nat} {t a j lift b : Nat} (hU : U.d = D.ints (natL ws)) (hj : j ≤ 24) (hj1 : 1 ≤ j) (ht : t ≤ 24) (hL : lift ≤ 2 ^ 120) (hb : BW ws b) (hb2 : b ≤ 500000) (ha : a ≤ t / j) (hM : t < M.length) (hw : t < ws.length) :
    ∃ j12, b_law_ways_2 [e0, e1, e2, some U, some (si (j : Int)), e5, some (si (lift : Nat)), some (T.ints (natL (M.set t (aW ws t j lift a).1))), e8, some (si (t : Int)), some (si ((aW ws t j lift a).2 : Nat)), some (si (a : Int)), e12, e13] =
      .nx [e0, e1, e2, some U, some (si (j : Int)), e5, some (si (lift : Nat)), some (T.ints (natL (M.set t (aW ws t j lift (a + 1)).1))), e8, some (si (t : Int)), some (si ((aW ws t j lift (a + 1)).2 : Nat)), some (si (a : Int)), j12, e13] := by
  obtain ⟨hx, hy⟩ := aW_le (ws := ws) (t := t) (j := j) (lift := lift) ht hj hL hb a
  have ha2 : a ≤ 24 := Nat.le_trans ha (Nat.le_trans (Nat.div_le_self _ _) ht)
  have haj : a * j ≤ t := (Nat.le_div_iff_mul_le hj1).mp ha
  have e : aW ws t j lift (a + 1) = ((aW ws t j lift a).1 + ws.getD (t - a * j) 0 * (aW ws t j lift a).2, if a < t / j then tmW (t - a * j) (aW ws t j lift a).2 j * lift / (j * (a + 1)) else (aW ws t j lift a).2) := by
    generalize hq : aW ws t j lift a = q
    obtain ⟨x, y⟩ := q
    rw [aW, hq]
  rw [e]
  simp only
  generalize (aW ws t j lift a).1 = x at *
  generalize (aW ws t j lift a).2 = y at *
  have hyb : y ≤ 2 ^ 6000 := Nat.le_trans hy (Nat.pow_le_pow_right (by decide) (by omega))
  have m0 := mul_int (i := (a : Int)) (j := (j : Int)) (small_r ⟨by omega, by omega⟩)
  have ea : (a : Int) * (j : Int) = ((a * j : Nat) : Int) := by rw [Int.natCast_mul]
  rw [ea] at m0
  have g1 : atI ((natL (M.set t x)).map D.int) (t : Int) = some (.int (x : Nat)) := by
    rw [atI_D _ (by omega) (by rw [natL_len, List.length_set]; omega), natL_get, Int.toNat_natCast]
    congr 3
    rw [List.getD_eq_getElem?_getD, List.getElem?_set_self hM]
    rfl
  have g2 : atI ((natL ws).map D.int) ((t : Int) - ((a * j : Nat) : Int)) = some (.int (ws.getD (t - a * j) 0 : Nat)) := by
    rw [atI_D _ (by omega) (by rw [natL_len]; omega), natL_get, show ((t : Int) - ((a * j : Nat) : Int)).toNat = t - a * j by omega]
  have m1 := mul_int (sm_of (hb.at (t - a * j)) hyb (by omega))
  have ix : ixN (natL (M.set t x)).length (t : Int) = some t := by
    have := ixN_ok (n := (natL (M.set t x)).length) (i := (t : Int)) (by omega) (by rw [natL_len, List.length_set]; omega)
    simpa using this
  have est : (natL (M.set t x)).set t ((x : Int) + (ws.getD (t - a * j) 0 : Nat) * (y : Nat)) = natL (M.set t (x + ws.getD (t - a * j) 0 * y)) := by
    have : (x : Int) + (ws.getD (t - a * j) 0 : Nat) * (y : Nat) = ((x + ws.getD (t - a * j) 0 * y : Nat) : Int) := by rw [Int.natCast_add, Int.natCast_mul]
    rw [this, natL_set, List.set_set]
  have estT : ((natL (M.set t x)).map ig).set t (T.sh (.int ((x : Int) + (ws.getD (t - a * j) 0 : Nat) * (y : Nat)))) = (natL (M.set t (x + ws.getD (t - a * j) 0 * y))).map ig := by
    rw [← est, List.map_set]
    rfl
  have d1 := div_int (i := (t : Int)) (j := (j : Int)) (by omega) (by omega)
  have ed : (t : Int) / (j : Int) = ((t / j : Nat) : Int) := by rw [Int.natCast_ediv]
  rw [ed] at d1
  have hUd : U.d = .lst ((natL ws).map D.int) := hU
  by_cases c : a < t / j
  · have hcj : a * j + j ≤ t := by
      have := (Nat.le_div_iff_mul_le hj1).mp (show a + 1 ≤ t / j from c)
      rwa [Nat.add_mul, Nat.one_mul] at this
    obtain ⟨j12, et⟩ := tm_loop (e0 := e0) (e1 := e1) (e2 := e2) (e3 := some U) (e5 := e5) (e6 := some (si (lift : Nat))) (e7 := some (T.ints (natL (M.set t (x + ws.getD (t - a * j) 0 * y))))) (e8 := e8) (e12 := e12) (e13 := e13) (y := y) hj ht hcj
    have hT := tm_le (u := t - a * j) (by omega) hyb j
    have m2 := mul_int (sm_of hT hL (by omega))
    have m3 := mul_int (i := (j : Int)) (j := (a : Int) + 1) (small_r ⟨by omega, by omega⟩)
    have hpos : (0 : Int) < (j : Int) * ((a : Int) + 1) := Int.mul_pos (by omega) (by omega)
    have hlt : (j : Int) * ((a : Int) + 1) < 2 ^ 60 := by
      have h1 : j * (a + 1) ≤ 24 * 25 := Nat.mul_le_mul hj (by omega)
      have h2 : (j : Int) * ((a : Int) + 1) = ((j * (a + 1) : Nat) : Int) := by rw [Int.natCast_mul]; rfl
      rw [h2]
      omega
    have d2 := div_int (i := (tmW (t - a * j) y j : Nat) * (lift : Int)) (j := (j : Int) * ((a : Int) + 1)) hpos hlt
    have e2 : ((tmW (t - a * j) y j : Nat) : Int) * (lift : Int) / ((j : Int) * ((a : Int) + 1)) = ((tmW (t - a * j) y j * lift / (j * (a + 1)) : Nat) : Int) := by
      rw [Int.natCast_ediv, Int.natCast_mul, Int.natCast_mul]; rfl
    rw [e2] at d2
    rw [if_pos c]
    have hbj := inR_nat (n := j) (by omega)
    refine ⟨j12, ?_⟩
    generalize (tmW (t - a * j) y j * lift / (j * (a + 1))) = Y2 at *
    generalize (tmW (t - a * j) y j) = TM at *
    generalize natL (M.set t (x + ws.getD (t - a * j) 0 * y)) = L2 at *
    generalize ws.getD (t - a * j) 0 = W at *
    generalize natL (M.set t x) = L1 at *
    generalize natL ws = LW at *
    generalize a * j = w at *
    generalize t / j = q at *
    simp at et m0 m1 d1 d2 m2 m3
    simp [b_law_ways_2, hUd, m0, g1, g2, m1, ix, estT, d1, c, hbj, et, m2, m3, d2]
  · rw [if_neg c]
    refine ⟨e12, ?_⟩
    generalize natL (M.set t (x + ws.getD (t - a * j) 0 * y)) = L2 at *
    generalize ws.getD (t - a * j) 0 = W at *
    generalize natL (M.set t x) = L1 at *
    generalize natL ws = LW at *
    generalize a * j = w at *
    generalize t / j = q at *
    try simp at m0 m1 d1
    simp [b_law_ways_2, hUd, m0, g1, g2, m1, ix, estT, d1, c]
/-- the counts so far -/
def partW (many j lift : Nat) (ws : List Nat) (t : Nat) : List Nat := ((List.range t).map fun t => (aW ws t j lift (t / j + 1)).1) ++ List.replicate (many + 1 - t) 0
theorem partW_len {many j lift : Nat} {ws : List Nat} {t : Nat} (h : t ≤ many + 1) : (partW many j lift ws t).length = many + 1 := by
  simp [partW]; omega
theorem partW_zero {many j lift : Nat} {ws : List Nat} {t : Nat} (h : t ≤ many) : (partW many j lift ws t).set t 0 = partW many j lift ws t := by
  unfold partW
  apply List.ext_getElem
  · simp
  · intro i h1 h2
    rw [List.getElem_set]
    split
    · rename_i q
      subst q
      rw [List.getElem_append_right (by simp)]
      simp
    · rfl
theorem partW_set {many j lift : Nat} {ws : List Nat} {t : Nat} (h : t ≤ many) : (partW many j lift ws t).set t (aW ws t j lift (t / j + 1)).1 = partW many j lift ws (t + 1) := by
  unfold partW
  rw [List.set_append_right _ _ (by simp), List.length_map, List.length_range, Nat.sub_self, show many + 1 - t = (many - t) + 1 by omega, List.replicate_succ, List.set_cons_zero, List.range_succ, List.map_append, List.append_assoc, show many + 1 - (t + 1) = many - t by omega]
  rfl
theorem t_step {e0 e1 e2 e5 e8 e10 e11 e12 e13 : Option T} {U : T} {ws : List Nat} {many t j lift b : Nat} (hU : U.d = D.ints (natL ws)) (hj : j ≤ 24) (hj1 : 1 ≤ j) (hm : many ≤ 24) (ht : t ≤ many) (hL : lift ≤ 2 ^ 120) (hb : BW ws b) (hb2 : b ≤ 500000) (hw : ws.length = many + 1) :
    ∃ j10 j11 j12, b_law_ways_3 [e0, e1, e2, some U, some (si (j : Int)), e5, some (si (lift : Nat)), some (T.ints (natL (partW many j lift ws t))), e8, some (si (t : Int)), e10, e11, e12, e13] =
      .nx [e0, e1, e2, some U, some (si (j : Int)), e5, some (si (lift : Nat)), some (T.ints (natL (partW many j lift ws (t + 1)))), e8, some (si (t : Int)), j10, j11, j12, e13] := by
  have hpl := partW_len (many := many) (j := j) (lift := lift) (ws := ws) (t := t) (by omega)
  obtain ⟨ρ', e, j11, j12, rfl⟩ := forN_inv (i := 11) (body := b_law_ways_2) (its := rangeT 0 (t / j + 1)) (ρ := [e0, e1, e2, some U, some (si (j : Int)), e5, some (si (lift : Nat)), some (T.ints (natL ((partW many j lift ws t).set t 0))), e8, some (si (t : Int)), some (si 1), e11, e12, e13])
    (fun a ρ => ∃ j11 j12 : Option T, ρ = [e0, e1, e2, some U, some (si (j : Int)), e5, some (si (lift : Nat)), some (T.ints (natL ((partW many j lift ws t).set t (aW ws t j lift a).1))), e8, some (si (t : Int)), some (si ((aW ws t j lift a).2 : Nat)), j11, j12, e13]) ⟨e11, e12, rfl⟩ (by
      rintro a u ρ e ⟨j11, j12, rfl⟩
      obtain ⟨hs, rfl⟩ := rangeT_get e
      obtain ⟨k12, es⟩ := a_step (e0 := e0) (e1 := e1) (e2 := e2) (e5 := e5) (e8 := e8) (e12 := j12) (e13 := e13) (M := partW many j lift ws t) (t := t) (a := a) (lift := lift) hU hj hj1 (by omega) hL hb hb2 (by omega) (by omega) (by omega)
      rw [Int.zero_add]
      exact ⟨_, .inl es, some (si (a : Int)), k12, rfl⟩)
  rw [rangeT_len, partW_zero ht, partW_set ht] at *
  have d1 := div_int (i := (t : Int)) (j := (j : Int)) (by omega) (by omega)
  have ed : (t : Int) / (j : Int) = ((t / j : Nat) : Int) := by rw [Int.natCast_ediv]
  rw [ed] at d1
  have hi := inR_nat (n := t / j + 1) (by have := Nat.div_le_self t j; omega)
  have ei : ((t / j : Nat) : Int) + 1 = ((t / j + 1 : Nat) : Int) := rfl
  refine ⟨some (si ((aW ws t j lift (t / j + 1)).2 : Nat)), j11, j12, ?_⟩
  generalize natL (partW many j lift ws (t + 1)) = L2 at *
  generalize natL (partW many j lift ws t) = L1 at *
  generalize (aW ws t j lift (t / j + 1)).2 = Y at *
  generalize t / j = q at *
  simp at e d1
  rw [← ei] at hi
  have eq2 : ((q : Int) + 1).toNat = q + 1 := by omega
  simp [b_law_ways_3, d1, hi, eq2, e]
end
end Cl

set_option exponentiation.threshold 10000
namespace Cl
noncomputable section
open PySem L2 Z
theorem range2 (n : Nat) : rangeT 2 n = (List.range' 2 n).map fun d : Nat => si (d : Int) := by
  unfold rangeT
  rw [List.range'_eq_map_range, List.map_map]
  apply List.map_congr_left
  intro d _
  show si (2 + (d : Int)) = si (((2 + d : Nat)) : Int)
  rw [Int.natCast_add]
  rfl
theorem com_ok {e0 e3 e5 e6 e7 e8 e9 e10 e11 e12 : Option T} {length k j : Nat} (hl : length ≤ 24) (hj1 : 1 ≤ j) (hj : j ≤ 24) :
    lcL [13] (bName 13) t_law_ways_5 x_law_ways_6 (rangeT 2 (length - 1)) [] [e0, some (si (length : Int)), some (si (k : Int)), e3, some (si (j : Int)), e5, e6, e7, e8, e9, e10, e11, e12, none] = .ok ((comW length k j).map fun d : Nat => si (d : Int)) [e0, some (si (length : Int)), some (si (k : Int)), e3, some (si (j : Int)), e5, e6, e7, e8, e9, e10, e11, e12, none] := by
  rw [range2]
  refine lcL_fl (fun d : Nat => si (d : Int)) (fun d : Nat => si (d : Int)) (fun d => decide (length % d = 0) && decide (k / j % d = 0)) (acc := []) (fun d hd => ?_) (by simp; unfold lim; omega)
  have hd2 : 2 ≤ d := by rw [List.mem_range'_1] at hd; exact hd.1
  refine ⟨[e0, some (si (length : Int)), some (si (k : Int)), e3, some (si (j : Int)), e5, e6, e7, e8, e9, e10, e11, e12, some (si (d : Int))], rfl, ?_, fun _ => by simp [x_law_ways_6], rfl⟩
  have m1 := mod_int (i := (length : Int)) (j := (d : Int)) (by omega)
  have m2 := mod_int (i := ((k / j : Nat) : Int)) (j := (d : Int)) (by omega)
  have d1 := div_int (i := (k : Int)) (j := (j : Int)) (by omega) (by omega)
  have ed : (k : Int) / (j : Int) = ((k / j : Nat) : Int) := by rw [Int.natCast_ediv]
  rw [ed] at d1
  rw [← Int.natCast_emod] at m1 m2
  have q1 : (((length % d : Nat) : Int) == 0) = decide (length % d = 0) := by
    by_cases c : length % d = 0
    · rw [c]; rfl
    · rw [decide_eq_false c, beq_eq_false_iff_ne]; omega
  have q2 : (((k / j % d : Nat) : Int) == 0) = decide (k / j % d = 0) := by
    by_cases c : k / j % d = 0
    · rw [c]; rfl
    · rw [decide_eq_false c, beq_eq_false_iff_ne]; omega
  have k1 : oEq (.int ((length % d : Nat) : Int)) (.int 0) = some (.bl (decide (length % d = 0))) := by rw [← q1]; rfl
  have k2 : oEq (.int ((k / j % d : Nat) : Int)) (.int 0) = some (.bl (decide (k / j % d = 0))) := by rw [← q2]; rfl
  generalize hA : length % d = A at *
  generalize hB : k / j = B at *
  generalize hC : B % d = C at *
  by_cases c1 : A = 0
  · by_cases c2 : C = 0
    · subst c1 c2
      simp at m1 m2 d1 k1 k2
      simp [t_law_ways_5, m1, m2, d1, k1, k2]
    · simp at m1 m2 d1 k1 k2
      simp [t_law_ways_5, m1, m2, d1, k1, k2, c1, c2]
  · simp at m1 m2 d1 k1 k2
    simp [t_law_ways_5, m1, m2, d1, k1, k2, c1]
theorem lf_loop {e0 e2 e3 e4 e5 e7 e8 e9 e10 e11 e12 e13 : Option T} {length j : Nat} (hl : length ≤ 24) (hj : j ≤ 24) :
    ∃ j8, forL (bName 8) b_law_ways_4 (rangeT 0 j) [e0, some (si (length : Int)), e2, e3, e4, e5, some (si 1), e7, e8, e9, e10, e11, e12, e13] = .nx [e0, some (si (length : Int)), e2, e3, e4, e5, some (si (lfW length j : Nat)), e7, j8, e9, e10, e11, e12, e13] := by
  obtain ⟨ρ', e, j8, rfl⟩ := forN_inv (i := 8) (body := b_law_ways_4) (its := rangeT 0 j) (ρ := [e0, some (si (length : Int)), e2, e3, e4, e5, some (si 1), e7, e8, e9, e10, e11, e12, e13])
    (fun s ρ => ∃ j8 : Option T, ρ = [e0, some (si (length : Int)), e2, e3, e4, e5, some (si (lfW length s : Nat)), e7, j8, e9, e10, e11, e12, e13]) ⟨e8, rfl⟩ (by
      rintro s u ρ e ⟨j8, rfl⟩
      obtain ⟨hs, rfl⟩ := rangeT_get e
      have m1 := mul_int (i := (lfW length s : Nat)) (j := (length : Int)) (small_r ⟨by omega, by omega⟩)
      have e2 : ((lfW length (s + 1) : Nat) : Int) = (lfW length s : Nat) * (length : Int) := by rw [lfW, Int.natCast_mul]
      refine ⟨_, .inl ?_, some (si (0 + (s : Int))), rfl⟩
      rw [e2]
      generalize lfW length s = C at *
      simp [b_law_ways_4, m1])
  rw [rangeT_len] at e
  exact ⟨j8, e⟩
theorem partW_all (many j lift : Nat) (ws : List Nat) : partW many j lift ws (many + 1) = moreW many j lift ws := by
  simp [partW, moreW]
theorem t_loop {e0 e1 e2 e5 e8 e9 e10 e11 e12 e13 : Option T} {U : T} {ws : List Nat} {many j lift b : Nat} (hU : U.d = D.ints (natL ws)) (hj : j ≤ 24) (hj1 : 1 ≤ j) (hm : many ≤ 24) (hL : lift ≤ 2 ^ 120) (hb : BW ws b) (hb2 : b ≤ 500000) (hw : ws.length = many + 1) :
    ∃ j9 j10 j11 j12, forL (bName 9) b_law_ways_3 (rangeT 0 (many + 1)) [e0, e1, e2, some U, some (si (j : Int)), e5, some (si (lift : Nat)), some (T.ints (natL (partW many j lift ws 0))), e8, e9, e10, e11, e12, e13] =
      .nx [e0, e1, e2, some U, some (si (j : Int)), e5, some (si (lift : Nat)), some (T.ints (natL (moreW many j lift ws))), e8, j9, j10, j11, j12, e13] := by
  obtain ⟨ρ', e, j9, j10, j11, j12, rfl⟩ := forN_inv (i := 9) (body := b_law_ways_3) (its := rangeT 0 (many + 1)) (ρ := [e0, e1, e2, some U, some (si (j : Int)), e5, some (si (lift : Nat)), some (T.ints (natL (partW many j lift ws 0))), e8, e9, e10, e11, e12, e13])
    (fun t ρ => ∃ j9 j10 j11 j12 : Option T, ρ = [e0, e1, e2, some U, some (si (j : Int)), e5, some (si (lift : Nat)), some (T.ints (natL (partW many j lift ws t))), e8, j9, j10, j11, j12, e13]) ⟨e9, e10, e11, e12, rfl⟩ (by
      rintro t u ρ e ⟨j9, j10, j11, j12, rfl⟩
      obtain ⟨hs, rfl⟩ := rangeT_get e
      obtain ⟨k10, k11, k12, es⟩ := t_step (e0 := e0) (e1 := e1) (e2 := e2) (e5 := e5) (e8 := e8) (e10 := j10) (e11 := j11) (e12 := j12) (e13 := e13) (t := t) hU hj hj1 hm (by omega) hL hb hb2 hw
      rw [Int.zero_add]
      exact ⟨_, .inl es, some (si (t : Int)), k10, k11, k12, rfl⟩)
  rw [rangeT_len, partW_all] at e
  exact ⟨j9, j10, j11, j12, e⟩
theorem j_step {e5 e6 e7 e8 e9 e10 e11 e12 : Option T} {U : T} {ws : List Nat} {many length k j b : Nat} (hU : U.d = D.ints (natL ws)) (hj : j < 24) (hm : many ≤ 24) (hl : length ≤ 24) (hl1 : 1 ≤ length) (hb : BW ws b) (hb2 : b ≤ 500000) (hw : ws.length = many + 1) :
    ∃ (U' : T) (j5 j6 j7 j8 j9 j10 j11 j12 : Option T), U'.d = D.ints (natL (stW many length k j ws)) ∧ (U' = U ∨ ∃ d, U' = .sh d) ∧ b_law_ways_7 [some (si (many : Int)), some (si (length : Int)), some (si (k : Int)), some U, some (si ((j + 1 : Nat) : Int)), e5, e6, e7, e8, e9, e10, e11, e12, none] =
      .nx [some (si (many : Int)), some (si (length : Int)), some (si (k : Int)), some U', some (si ((j + 1 : Nat) : Int)), j5, j6, j7, j8, j9, j10, j11, j12, none] := by
  have hc := com_ok (e0 := some (si (many : Int))) (e3 := some U) (e5 := e5) (e6 := e6) (e7 := e7) (e8 := e8) (e9 := e9) (e10 := e10) (e11 := e11) (e12 := e12) (length := length) (k := k) (j := j + 1) hl (by omega) (by omega)
  have hi2 : InR 2 := InR.of (by decide) (by decide)
  have hil : InR ((length : Int) + 1) := InR.of (by omega) (by omega)
  have hlt : ((length : Int) + 1 - 2).toNat = length - 1 := by omega
  have m1 := mod_int (i := (k : Int)) (j := ((j + 1 : Nat) : Int)) (by omega)
  rw [← Int.natCast_emod] at m1
  have k1 : oEq (.int ((k % (j + 1) : Nat) : Int)) (.int 0) = some (.bl (decide (k % (j + 1) = 0))) := by
    have q1 : (((k % (j + 1) : Nat) : Int) == 0) = decide (k % (j + 1) = 0) := by
      by_cases c : k % (j + 1) = 0
      · rw [c]; rfl
      · rw [decide_eq_false c, beq_eq_false_iff_ne]; omega
    rw [← q1]
    rfl
  have hcm : ((comW length k (j + 1)).map fun d : Nat => si (d : Int)) = (natL (comW length k (j + 1))).map ig := by rw [natL, List.map_map]; rfl
  rw [hcm] at hc
  have k2 : oEq (.lst ((natL (comW length k (j + 1))).map .int)) (.lst []) = some (.bl (decide (comW length k (j + 1) = []))) := by
    have := eq_ints (natL (comW length k (j + 1))) []
    rw [show (([] : List Int).map D.int) = [] from rfl] at this
    rw [this]
    simp [natL]
  by_cases c : k % (j + 1) = 0 ∧ comW length k (j + 1) = []
  · obtain ⟨c1, c2⟩ := c
    have hst : stW many length k j ws = moreW many (j + 1) (lfW length j) ws := by rw [stW, if_pos ⟨c1, c2⟩]
    rw [hst]
    have hL : lfW length j ≤ 2 ^ 120 := Nat.le_trans (lf_le hl j) (Nat.pow_le_pow_right (by decide) (by omega))
    obtain ⟨j8, ef⟩ := lf_loop (e0 := some (si (many : Int))) (e2 := some (si (k : Int))) (e3 := some U) (e4 := some (si ((j + 1 : Nat) : Int))) (e5 := some (.ol [])) (e7 := some (T.ints (natL (partW many (j + 1) (lfW length j) ws 0)))) (e8 := e8) (e9 := e9) (e10 := e10) (e11 := e11) (e12 := e12) (e13 := none) hl (j := j) (by omega)
    obtain ⟨j9, j10, j11, j12, et⟩ := t_loop (e0 := some (si (many : Int))) (e1 := some (si (length : Int))) (e2 := some (si (k : Int))) (e5 := some (.ol [])) (e8 := j8) (e9 := e9) (e10 := e10) (e11 := e11) (e12 := e12) (e13 := none) hU (j := j + 1) (by omega) (by omega) hm hL hb hb2 hw
    have hp0 : T.ints (natL (partW many (j + 1) (lfW length j) ws 0)) = .ol (List.replicate (many + 1) (si 0)) := by
      simp [partW, natL]
    rw [hp0] at ef et
    have hrep : repT (.ol [si 0]) (si ((many : Int) + 1)) = some (.ol (List.replicate (many + 1) (si 0))) := by
      have := repT_one (d := .int 0) (n := many + 1) (by unfold lim; omega)
      exact this
    have hij := inR_nat (n := j) (by omega)
    have him := inR_nat (n := many + 1) (by omega)
    have hjs : ((j + 1 : Nat) : Int) - 1 = (j : Int) := by omega
    have hms : ((many : Int) + 1).toNat = many + 1 := by omega
    refine ⟨shi (natL (moreW many (j + 1) (lfW length j) ws)), some (.ol []), some (si (lfW length j : Nat)), some (shi (natL (moreW many (j + 1) (lfW length j) ws))), j8, j9, j10, j11, j12, rfl, .inr ⟨_, rfl⟩, ?_⟩
    rw [c2] at hc k2
    generalize natL (moreW many (j + 1) (lfW length j) ws) = L2 at *
    generalize lfW length j = LF at *
    generalize hJ : ((j + 1 : Nat) : Int) = J at *
    generalize hRP : List.replicate (many + 1) (si 0) = RP at *
    rw [c1] at m1 k1
    have him' : InR ((many : Int) + 1) := him
    simp [natL] at hc ef et m1 k1 k2
    simp [b_law_ways_7, hi2, hil, hlt, hc, m1, k1, k2, hrep, hij, him', hjs, hms, ef, et]
  · have hst : stW many length k j ws = ws := by rw [stW, if_neg c]
    rw [hst]
    refine ⟨U, some (T.ints (natL (comW length k (j + 1)))), e6, e7, e8, e9, e10, e11, e12, hU, .inl rfl, ?_⟩
    generalize hJ : ((j + 1 : Nat) : Int) = J at *
    generalize hA : k % (j + 1) = A at *
    generalize hB : comW length k (j + 1) = B at *
    by_cases c1 : A = 0
    · have c2 : ¬ B = [] := fun q => c ⟨c1, q⟩
      generalize natL B = LB at *
      simp at hc m1 k1 k2
      simp [b_law_ways_7, hi2, hil, hlt, hc, m1, k1, k2, c1, c2]
    · generalize natL B = LB at *
      simp at hc m1 k1 k2
      simp [b_law_ways_7, hi2, hil, hlt, hc, m1, k1, k2, c1]
theorem law_ways_ok {many length k : Nat} (hm : many ≤ 24) (hl : length ≤ 24) (hl1 : 1 ≤ length) : F_law_ways [si (many : Int), si (length : Int), si (k : Int)] = .ok (si (waysW many length k : Nat)) [si (many : Int), si (length : Int), si (k : Int)] := by
  have hb0 : BW (1 :: List.replicate many 0) 0 := fun x hx => by
    rcases List.mem_cons.mp hx with rfl | hx
    · exact Nat.le_refl _
    · rw [(List.mem_replicate.mp hx).2]; exact Nat.zero_le _
  have hl0 : (1 :: List.replicate many 0).length = many + 1 := by simp
  have h0 : T.ints (natL (1 :: List.replicate many 0)) = .ol (si 1 :: List.replicate many (si 0)) := by
    simp [natL]
  have hd0 : (T.ints (natL (1 :: List.replicate many 0))).d = D.ints (natL (1 :: List.replicate many 0)) := by
    simp
  obtain ⟨ρ', e, U, j4, j5, j6, j7, j8, j9, j10, j11, j12, rfl, hU, hs⟩ := forN_inv (i := 4) (body := b_law_ways_7) (its := rangeT 1 many) (ρ := [some (si (many : Int)), some (si (length : Int)), some (si (k : Int)), some (T.ints (natL (1 :: List.replicate many 0))), none, none, none, none, none, none, none, none, none, none])
    (fun j ρ => ∃ (U : T) (j4 j5 j6 j7 j8 j9 j10 j11 j12 : Option T), ρ = [some (si (many : Int)), some (si (length : Int)), some (si (k : Int)), some U, j4, j5, j6, j7, j8, j9, j10, j11, j12, none] ∧ U.d = D.ints (natL (jW many length k (1 :: List.replicate many 0) j)) ∧ (U = T.ints (natL (jW many length k (1 :: List.replicate many 0) j)) ∨ ∃ d, U = .sh d))
    ⟨_, none, none, none, none, none, none, none, none, none, rfl, hd0, .inl rfl⟩ (by
      rintro j u ρ e ⟨U, j4, j5, j6, j7, j8, j9, j10, j11, j12, rfl, hU, hs⟩
      obtain ⟨hj, rfl⟩ := rangeT_get e
      obtain ⟨q1, q2⟩ := jW_ok (k := k) hm hl hl0 hb0 j (by omega)
      obtain ⟨U', k5, k6, k7, k8, k9, k10, k11, k12, h1, h2, es⟩ := j_step (e5 := j5) (e6 := j6) (e7 := j7) (e8 := j8) (e9 := j9) (e10 := j10) (e11 := j11) (e12 := j12) (length := length) (k := k) (j := j) (many := many) hU (by omega) hm hl hl1 q2 (by omega) q1
      have et : (((j + 1 : Nat)) : Int) = 1 + (j : Int) := by omega
      rw [et] at es
      refine ⟨_, .inl es, U', some (si (1 + (j : Int))), k5, k6, k7, k8, k9, k10, k11, k12, rfl, h1, ?_⟩
      rcases h2 with rfl | h2
      · rcases hs with hs | hs
        · left
          subst hs
          rw [jW]
          have h3 : D.ints (natL (jW many length k (1 :: List.replicate many 0) j)) = D.ints (natL (stW many length k j (jW many length k (1 :: List.replicate many 0) j))) := by rw [← h1, hU]
          have h4 : ∀ {x y : List Int}, D.ints x = D.ints y → x = y := fun {x y} h => by
            have h5 : x.map D.int = y.map D.int := D.lst.inj h
            exact (List.map_inj_right (fun a b h => D.int.inj h)).mp h5
          rw [h4 h3]
        · exact .inr hs
      · exact .inr h2)
  rw [rangeT_len] at hU hs
  obtain ⟨q1, q2⟩ := jW_ok (k := k) hm hl hl0 hb0 many hm
  have hw : waysW many length k = (jW many length k (1 :: List.replicate many 0) many).getD many 0 := rfl
  rw [hw]
  have ha := atI_T (natL (jW many length k (1 :: List.replicate many 0) many)) (i := (many : Int)) (by omega) (by rw [natL_len]; omega)
  have haD := atI_D (natL (jW many length k (1 :: List.replicate many 0) many)) (i := (many : Int)) (by omega) (by rw [natL_len]; omega)
  rw [natL_get, Int.toNat_natCast] at ha haD
  have hr : InR 1 := InR.of (by decide) (by decide)
  have hr2 : InR ((many : Int) + 1) := InR.of (by omega) (by omega)
  have ht : ((many : Int) + 1 - 1).toNat = many := by omega
  have hrep : repT (.ol [si 0]) (si (many : Int)) = some (.ol (List.replicate many (si 0))) := repT_one (by unfold lim; omega)
  have hadd : eAddT (.ol [si 1]) (.ol (List.replicate many (si 0))) = some (.ol (si 1 :: List.replicate many (si 0))) := addT_lst (els_ol _) (els_ol _) (by simp; unfold lim; omega)
  rw [h0] at e
  generalize natL (jW many length k (1 :: List.replicate many 0) many) = L2 at *
  generalize (jW many length k (1 :: List.replicate many 0) many).getD many 0 = X at *
  generalize List.replicate many (si 0) = RP at *
  rcases hs with rfl | ⟨d, rfl⟩
  · simp at e
    simp [F_law_ways, m_law_ways, hrep, hadd, hr, hr2, ht, e, ha]
  · have hU : d = D.ints L2 := hU
    subst hU
    simp at e
    simp [F_law_ways, m_law_ways, hrep, hadd, hr, hr2, ht, e, ha, haD]
end
end Cl

set_option exponentiation.threshold 10000
namespace Cl
noncomputable section
open PySem L2 Z
def b_roots_of_1 : SM := (mAugM 4 (eCall 3 F_ways_to_join (eCons (eV 5) (eCons (eV 3) (eCons (eV 1) eNil)))))
def b_roots_of_2 : SM := (mPutG 2 (pV 3) (pOp oAdd (pDGet2 (pV 2) (pV 3) (pC (.int 0))) (pC (.int 1))))
def m_roots_of : SM := (mSeq (mSet 2 eNewD) (mSeq (mFor (iE (eCall 1 F_kind_of (eCons (eV 0) eNil))) (bName 3) b_roots_of_2) (mSeq (mSet 4 (eP (pC (.int 1)))) (mSeq (mForI 2 (bTup [3, 5]) b_roots_of_1) (mRet (eM 4))))))
def F_roots_of : FM := mFun 2 6 m_roots_of
def t_law_count_1 : EMb := (eT (pB (pOp oEq (pV 6) (pV 4))))
def x_law_count_2 : EM := (eV 6)
def b_law_count_3 : SM := (mSet 3 (eOp (oS oMul) (eV 3) (eCall 3 F_law_ways (eCons (eCB (cS (o1 oLen)) (eCons (eLC [6] (iE (eV 2)) (bName 6) t_law_count_1 x_law_count_2) eNil)) (eCons (eV 4) (eCons (eV 1) eNil))))))
def x_law_count_4 : EM := (eP (pCB (o1 oLen) (aCons (pV 5) aNil)))
def m_law_count : SM := (mSeq (mPar 2 3 (eCons (eLC [5] (iE (eCall 1 F_law_rows (eCons (eV 0) eNil))) (bName 5) tAll x_law_count_4) (eCons (eP (pC (.int 1))) eNil))) (mSeq (mFor (iR2 (eCons (eP (pC (.int 1))) (eCons (eP (pOp oAdd (pCB (o1 oLen) (aCons (pV 0) aNil)) (pC (.int 1)))) eNil))) (bName 4) b_law_count_3) (mRet (eM 3))))
def F_law_count : FM := mFun 2 7 m_law_count
/-! ### products over lengths -/
def prodN (l : List Nat) : Nat := l.foldr (· * ·) 1
theorem prodN_app (a b : List Nat) : prodN (a ++ b) = prodN a * prodN b := by
  induction a with
  | nil => simp [prodN]
  | cons x a ih =>
    show x * prodN (a ++ b) = x * prodN a * prodN b
    rw [ih, Nat.mul_assoc]
theorem prodN_perm {a b : List Nat} (h : a.Perm b) : prodN a = prodN b := by
  induction h with
  | nil => rfl
  | cons x _ ih => show x * prodN _ = x * prodN _; rw [ih]
  | swap x y l => show y * (x * prodN l) = x * (y * prodN l); rw [← Nat.mul_assoc, Nat.mul_comm y x, Nat.mul_assoc]
  | trans _ _ i1 i2 => rw [i1, i2]
theorem prodN_filter {f : Nat → Nat} {p : Nat → Bool} : ∀ {l : List Nat}, (∀ x ∈ l, p x = false → f x = 1) → prodN (l.map f) = prodN ((l.filter p).map f)
  | [], _ => rfl
  | x :: l, h => by
    have ih := prodN_filter (f := f) (p := p) (l := l) fun y hy => h y (List.mem_cons_of_mem _ hy)
    rw [List.filter_cons]
    cases c : p x with
    | true => show f x * prodN (l.map f) = f x * prodN _; rw [ih]
    | false =>
      show f x * prodN (l.map f) = _
      rw [h x List.mem_cons_self c, Nat.one_mul, ih]
      rfl
theorem prodN_le {b : Nat} : ∀ {l : List Nat}, (∀ x ∈ l, x ≤ 2 ^ b) → prodN l ≤ 2 ^ (b * l.length)
  | [], _ => Nat.le_refl _
  | x :: l, h => by
    have ih := prodN_le (l := l) fun y hy => h y (List.mem_cons_of_mem _ hy)
    show x * prodN l ≤ _
    rw [List.length_cons, Nat.mul_add, Nat.mul_one, Nat.add_comm, Nat.pow_add]
    exact Nat.mul_le_mul (h x List.mem_cons_self) ih
/-- the number of roots, by the lengths -/
def rootsN (L : List Nat) (n k : Nat) : Nat := prodN ((List.range n).map fun i => waysJ (L.count (i + 1)) (i + 1) k)
theorem rootsN_perm {L M : List Nat} (h : L.Perm M) (n k : Nat) : rootsN L n k = rootsN M n k := by
  unfold rootsN
  simp only [h.count_eq]
theorem count_mul : ∀ (L : List Nat) (l : Nat), L.count l * l ≤ L.sum
  | [], l => by simp
  | x :: L, l => by
    have ih := count_mul L l
    rw [List.count_cons, List.sum_cons, Nat.add_mul]
    by_cases c : x = l
    · subst c; simp; omega
    · simp [c]; omega
theorem ways_zero (l k : Nat) : waysJ 0 l k = 1 ∧ waysW 0 l k = 1 := ⟨rfl, rfl⟩
theorem ways_len {L : List Nat} (hs : L.sum ≤ 24) {l k : Nat} (hl : 1 ≤ l) (hk : 1 ≤ k) (hk2 : k ≤ 60) : waysW (L.count l) l k = waysJ (L.count l) l k ∧ waysJ (L.count l) l k ≤ 2 ^ 100 := by
  by_cases c : L.count l = 0
  · rw [c]; exact ⟨by rw [(ways_zero l k).1, (ways_zero l k).2], by rw [(ways_zero l k).1]; exact Nat.one_le_two_pow⟩
  · exact ways_eq (by omega) hl (Nat.le_trans (count_mul L l) hs) hk hk2
/-! ### the dict of lengths -/
def kyN (x : Nat) : Key := .inl (x : Int)
theorem kyN_inj {x y : Nat} (h : kyN x = kyN y) : x = y := by
  have : (x : Int) = (y : Int) := by simpa [kyN] using h
  omega
theorem valD_map {f : Nat → D} {l : Nat} : ∀ {kk : List Nat}, valD (kk.map kyN) (kk.map f) (kyN l) = if l ∈ kk then some (f l) else none
  | [] => rfl
  | x :: kk => by
    have ih := valD_map (f := f) (l := l) (kk := kk)
    unfold valD at ih ⊢
    simp only [List.map_cons, List.zip_cons_cons, List.find?_cons, List.mem_cons]
    by_cases c : x = l
    · subst c; simp
    · have c' : ¬ kyN x = kyN l := fun q => c (kyN_inj q)
      have c2 : ¬ l = x := fun q => c q.symm
      simp only [c', decide_false, ih, c2, false_or]
theorem putL_map {f : Nat → T} {l : Nat} {u : T} : ∀ {kk : List Nat}, putL (kk.map kyN) (kk.map f) (kyN l) u = kk.map fun x => if x = l then u else f x
  | [] => rfl
  | x :: kk => by
    have ih := putL_map (f := f) (l := l) (u := u) (kk := kk)
    unfold putL at ih ⊢
    simp only [List.map_cons, List.zip_cons_cons, ih]
    by_cases c : x = l
    · subst c; simp
    · have c' : ¬ kyN x = kyN l := fun q => c (kyN_inj q)
      simp [c, c']
theorem hasK_map {l : Nat} : ∀ {kk : List Nat}, hasK (kk.map kyN) (kyN l) = decide (l ∈ kk)
  | [] => rfl
  | x :: kk => by
    have ih := hasK_map (l := l) (kk := kk)
    unfold hasK at ih ⊢
    rw [List.map_cons, List.any_cons, ih]
    by_cases c : x = l
    · subst c; simp
    · have c' : ¬ kyN x = kyN l := fun q => c (kyN_inj q)
      have c2 : ¬ l = x := fun q => c q.symm
      simp [c', c2]
theorem items_map {f : Nat → D} : ∀ {kk : List Nat}, itemsT (kk.map kyN) (kk.map f) = kk.map fun x : Nat => T.ot [si (x : Int), .sh (f x)]
  | [] => rfl
  | x :: kk => by
    have ih := items_map (f := f) (kk := kk)
    rw [List.map_cons, List.map_cons, itemsT, ih]
    rfl
/-- the dict behind some lengths -/
def dcT (kk P : List Nat) : T := .od (kk.map kyN) (kk.map fun x => si ((P.count x : Nat) : Int))
theorem dc_d (kk P : List Nat) : (dcT kk P).d = .dic (kk.map kyN) (kk.map fun x => D.int ((P.count x : Nat) : Int)) := by
  show D.dic _ (dl _) = _
  rw [dl_eq, List.map_map]
  rfl
theorem dc_step {kk P : List Nat} {l : Nat} {e0 e1 e4 e5 : Option T} (hk : ∀ x, x ∈ kk ↔ x ∈ P) (hn : kk.Nodup) (hz : kk.length ≤ 1000) :
    ∃ kk', kk'.Nodup ∧ (∀ x, x ∈ kk' ↔ x ∈ P ++ [l]) ∧ kk'.length ≤ kk.length + 1 ∧ b_roots_of_2 [e0, e1, some (dcT kk P), some (si (l : Int)), e4, e5] = .nx [e0, e1, some (dcT kk' (P ++ [l])), some (si (l : Int)), e4, e5] := by
  have hget : pDGet2 (pV 2) (pV 3) (pC (.int 0)) [e0, e1, some (dcT kk P), some (si (l : Int)), e4, e5] = some (.int ((P.count l : Nat) : Int)) := by
    unfold pDGet2
    rw [show pV 2 [e0, e1, some (dcT kk P), some (si (l : Int)), e4, e5] = some (dcT kk P).d from rfl, dc_d]
    show (if (kk.map kyN).length = (kk.map fun x => D.int ((P.count x : Nat) : Int)).length then some ((valD (kk.map kyN) (kk.map fun x => D.int ((P.count x : Nat) : Int)) (kyN l)).getD (.int 0)) else none) = _
    rw [if_pos (by simp), valD_map]
    by_cases c : l ∈ kk
    · rw [if_pos c]; rfl
    · rw [if_neg c]
      have : P.count l = 0 := List.count_eq_zero.mpr fun q => c ((hk l).mpr q)
      rw [this]; rfl
  have hadd : pOp oAdd (pDGet2 (pV 2) (pV 3) (pC (.int 0))) (pC (.int 1)) [e0, e1, some (dcT kk P), some (si (l : Int)), e4, e5] = some (.int ((P.count l + 1 : Nat) : Int)) := by
    unfold pOp
    rw [hget]
    rfl
  have hall : (kk.map fun x => si ((P.count x : Nat) : Int)).all T.isSh = true := by
    rw [List.all_map, List.all_eq_true]; intro x _; rfl
  have hlt : (kk.map fun x => si ((P.count x : Nat) : Int)).length < lim := by rw [List.length_map]; unfold lim; omega
  have key : b_roots_of_2 [e0, e1, some (dcT kk P), some (si (l : Int)), e4, e5] = if l ∈ kk then .nx [e0, e1, some (.od (kk.map kyN) (putL (kk.map kyN) (kk.map fun x => si ((P.count x : Nat) : Int)) (kyN l) (si ((P.count l + 1 : Nat) : Int)))), some (si (l : Int)), e4, e5] else .nx [e0, e1, some (.od (kk.map kyN ++ [kyN l]) ((kk.map fun x => si ((P.count x : Nat) : Int)) ++ [si ((P.count l + 1 : Nat) : Int)])), some (si (l : Int)), e4, e5] := by
    unfold b_roots_of_2 mPutG
    rw [hadd]
    show (if _ then (if hasK (kk.map kyN) (kyN l) = true then SOut.nx _ else SOut.nx _) else SOut.bad) = _
    rw [if_pos ⟨rfl, hlt, by simp, hall⟩, hasK_map]
    by_cases c : l ∈ kk
    · rw [if_pos (decide_eq_true c), if_pos c]; rfl
    · rw [if_neg (by simp [c]), if_neg c]; rfl
  rw [key]
  by_cases c : l ∈ kk
  · refine ⟨kk, hn, fun x => ?_, by omega, ?_⟩
    · rw [List.mem_append, List.mem_singleton, ← hk x]
      exact ⟨.inl, fun q => q.elim id fun e => e ▸ c⟩
    · rw [if_pos c, putL_map]
      congr 4
      unfold dcT
      congr 2
      apply List.map_congr_left
      intro x _
      rw [List.count_append, List.count_singleton]
      by_cases q : x = l
      · subst q; simp
      · have q' : ¬ l = x := fun e => q e.symm
        simp [q, q']
  · refine ⟨kk ++ [l], ?_, fun x => ?_, by simp, ?_⟩
    · rw [List.nodup_append]
      refine ⟨hn, by simp, fun a ha b hb => ?_⟩
      rw [List.mem_singleton.mp hb]
      rintro rfl
      exact c ha
    · rw [List.mem_append, List.mem_append, hk x]
    · rw [if_neg c]
      have h0 : P.count l = 0 := List.count_eq_zero.mpr fun q => c ((hk l).mpr q)
      have e1 : (kk.map fun x => si ((P.count x : Nat) : Int)) ++ [si ((P.count l + 1 : Nat) : Int)] = (kk ++ [l]).map fun x => si (((P ++ [l]).count x : Nat) : Int) := by
        rw [List.map_append]
        congr 1
        · apply List.map_congr_left
          intro x hx
          have q' : ¬ l = x := fun e => c (e ▸ hx)
          rw [List.count_append, List.count_singleton]
          simp [q']
        · simp [h0]
      have e2 : kk.map kyN ++ [kyN l] = (kk ++ [l]).map kyN := by rw [List.map_append]; rfl
      rw [e1, e2]
      rfl
end
end Cl

set_option exponentiation.threshold 10000
namespace Cl
noncomputable section
open PySem L2 Z
def lensN (n : Nat) (p : List Int) : List Nat := (rowsOf n p).map List.length
theorem Rws.sum {n : Nat} {p : List Int} {rs : List (List Nat)} (h : Rws n p rs) : (rs.map List.length).sum = n := by
  have := h.perm.length_eq
  rw [List.length_flatten, List.length_range] at this
  exact this
theorem Rws.pos {n : Nat} {p : List Int} {rs : List (List Nat)} (h : Rws n p rs) : ∀ x ∈ rs.map List.length, 1 ≤ x := fun x hx => by
  obtain ⟨r, hr, rfl⟩ := List.mem_map.mp hx
  exact List.length_pos_iff.mpr (h.ne r hr)
theorem le_sum24 {x : Nat} {L : List Nat} (h : x ∈ L) : x ≤ L.sum := le_sumN h
theorem dict_loop {e0 e1 e4 e5 : Option T} : ∀ (S P kk : List Nat) (e3 : Option T), kk.Nodup → (∀ x, x ∈ kk ↔ x ∈ P) → kk.length + S.length ≤ 1000 →
    ∃ (kk' : List Nat) (j3 : Option T), kk'.Nodup ∧ (∀ x, x ∈ kk' ↔ x ∈ P ++ S) ∧ kk'.length ≤ kk.length + S.length ∧ forL (bName 3) b_roots_of_2 (S.map fun x : Nat => si (x : Int)) [e0, e1, some (dcT kk P), e3, e4, e5] = .nx [e0, e1, some (dcT kk' (P ++ S)), j3, e4, e5]
  | [], P, kk, e3, h1, h2, _ => ⟨kk, e3, h1, by simpa using h2, by simp, by rw [List.append_nil]; rfl⟩
  | l :: S, P, kk, e3, h1, h2, hz => by
    simp only [List.length_cons] at hz
    obtain ⟨k1, g1, g2, g3, es⟩ := dc_step (l := l) (e0 := e0) (e1 := e1) (e4 := e4) (e5 := e5) h2 h1 (by omega)
    obtain ⟨k2, j3, f1, f2, f3, ef⟩ := dict_loop (e0 := e0) (e1 := e1) (e4 := e4) (e5 := e5) S (P ++ [l]) k1 (some (si (l : Int))) g1 g2 (by omega)
    rw [List.append_assoc] at f2 ef
    refine ⟨k2, j3, f1, f2, by simp only [List.length_cons]; omega, ?_⟩
    rw [List.map_cons]
    unfold forL
    show (match b_roots_of_2 [e0, e1, some (dcT kk P), some (si (l : Int)), e4, e5] with | .nx ρ => _ | .ct ρ => _ | .bk ρ => _ | r => r) = _
    rw [es]
    exact ef
theorem prod_loop {e0 e2 : Option T} {k : Nat} (hk2 : k < 1000000) {P : List Nat} (hw : ∀ x, 1 ≤ x → waysJ (P.count x) x k ≤ 2 ^ 100) : ∀ (kk : List Nat) (F : Nat) (e3 e5 : Option T) (c : Nat), (∀ x ∈ kk, 1 ≤ x ∧ x ≤ 24 ∧ P.count x ≤ 24) → F ≤ 2 ^ (100 * c) → c + kk.length ≤ 2000 →
    ∃ j3 j5, forL (bTup [3, 5]) b_roots_of_1 (kk.map fun x : Nat => T.ot [si (x : Int), .sh (.int ((P.count x : Nat) : Int))]) [e0, some (si (k : Int)), e2, e3, some (si (F : Nat)), e5] = .nx [e0, some (si (k : Int)), e2, j3, some (si (F * prodN (kk.map fun x => waysJ (P.count x) x k) : Nat)), j5]
  | [], F, e3, e5, c, _, _, _ => ⟨e3, e5, by
      show SOut.nx _ = _
      rw [show prodN (([] : List Nat).map fun x => waysJ (P.count x) x k) = 1 from rfl, Nat.mul_one]⟩
  | x :: kk, F, e3, e5, c, h, hF, hz => by
    simp only [List.length_cons] at hz
    obtain ⟨h1, h2, h3⟩ := h x List.mem_cons_self
    have hj := join_ok (many := P.count x) (length := x) (k := k) h3 h2 hk2
    have hwx := hw x h1
    have hF2 : F * waysJ (P.count x) x k ≤ 2 ^ (100 * (c + 1)) := by
      rw [Nat.mul_add, Nat.pow_add]
      exact Nat.mul_le_mul hF hwx
    obtain ⟨j3, j5, ih⟩ := prod_loop (e0 := e0) (e2 := e2) hk2 hw kk (F * waysJ (P.count x) x k) (some (si (x : Int))) (some (si ((P.count x : Nat) : Int))) (c + 1) (fun y hy => h y (List.mem_cons_of_mem _ hy)) hF2 (by omega)
    refine ⟨j3, j5, ?_⟩
    have hs : smallM (F : Int) ((waysJ (P.count x) x k : Nat) : Int) := sm_of hF hwx (by omega)
    rw [List.map_cons]
    unfold forL
    show (match b_roots_of_1 [e0, some (si (k : Int)), e2, some (si (x : Int)), some (si (F : Nat)), some (si ((P.count x : Nat) : Int))] with | .nx ρ => _ | .ct ρ => _ | .bk ρ => _ | r => r) = _
    have eb : b_roots_of_1 [e0, some (si (k : Int)), e2, some (si (x : Int)), some (si (F : Nat)), some (si ((P.count x : Nat) : Int))] = .nx [e0, some (si (k : Int)), e2, some (si (x : Int)), some (si (F * waysJ (P.count x) x k : Nat)), some (si ((P.count x : Nat) : Int))] := by
      rw [Int.natCast_mul]
      generalize waysJ (P.count x) x k = WJ at *
      generalize P.count x = C at *
      simp [b_roots_of_1, mAugM, hj, hs]
    rw [eb]
    have e : F * waysJ (P.count x) x k * prodN (kk.map fun x => waysJ (P.count x) x k) = F * prodN ((x :: kk).map fun x => waysJ (P.count x) x k) := by
      show _ = F * (waysJ (P.count x) x k * prodN _)
      rw [Nat.mul_assoc]
    rw [e] at ih
    exact ih
theorem roots_prod {L kk : List Nat} {n k : Nat} (hn : kk.Nodup) (hk : ∀ x, x ∈ kk ↔ x ∈ L) (hL : ∀ x ∈ L, 1 ≤ x ∧ x ≤ n) : prodN (kk.map fun x => waysJ (L.count x) x k) = rootsN L n k := by
  have h1 : rootsN L n k = prodN (((List.range n).map (· + 1)).map fun x => waysJ (L.count x) x k) := by
    unfold rootsN
    rw [List.map_map]
    rfl
  rw [h1]
  refine Eq.trans ?_ (prodN_filter (p := fun x => decide (x ∈ kk)) (fun x _ hx => by
    have : L.count x = 0 := List.count_eq_zero.mpr fun q => by
      have := (hk x).mpr q
      simp [this] at hx
    rw [this]
    rfl)).symm
  refine prodN_perm (List.Perm.map _ ?_)
  refine (List.perm_ext_iff_of_nodup hn ?_).mpr fun x => ?_
  · refine List.Pairwise.filter _ ?_
    rw [List.pairwise_map]
    exact List.Pairwise.imp (fun {a b} h e => h (by omega)) (List.nodup_range (n := n))
  · rw [List.mem_filter, List.mem_map]
    constructor
    · intro hx
      have := hL x ((hk x).mp hx)
      exact ⟨⟨x - 1, by rw [List.mem_range]; omega, by omega⟩, by simpa using hx⟩
    · intro hx
      simpa using hx.2
theorem roots_ok {n : Nat} (hn : n ≤ 24) {p : List Int} (hp : Turn n p) {k : Nat} (hk : 1 ≤ k) (hk2 : k ≤ 60) : F_roots_of [shi p, si (k : Int)] = .ok (si (rootsN (lensN n p) n k : Nat)) [shi p, si (k : Int)] := by
  have hkd := kind_ok (n := n) (by omega) hp
  have hR := rows_rws hp
  have hs := hR.sum
  have hpos := hR.pos
  have hle : ∀ x ∈ lensN n p, 1 ≤ x ∧ x ≤ n := fun x hx => ⟨hpos x hx, by rw [← hs]; exact le_sumN hx⟩
  have hS := sortedN (lensN n p)
  have e1 : ((rowsOf n p).map fun r => (r.length : Int)) = (lensN n p).map fun x : Nat => (x : Int) := by
    unfold lensN
    rw [List.map_map]
    rfl
  have hs : (lensN n p).sum ≤ 24 := by unfold lensN; rw [hs]; exact hn
  rw [e1] at hkd
  generalize lensN n p = L at *
  obtain ⟨S, eS, pS⟩ := hS
  rw [eS] at hkd
  have hw : ∀ x, 1 ≤ x → waysJ (S.count x) x k ≤ 2 ^ 100 := fun x hx => by
    rw [pS.count_eq]
    exact (ways_len hs hx hk hk2).2
  have hlen : S.length ≤ 24 := by
    rw [pS.length_eq]
    have : ∀ M : List Nat, (∀ x ∈ M, 1 ≤ x) → M.length ≤ M.sum := by
      intro M hM
      induction M with
      | nil => simp
      | cons a M ih =>
        have h1 := hM a List.mem_cons_self
        have h2 := ih fun y hy => hM y (List.mem_cons_of_mem _ hy)
        simp only [List.length_cons, List.sum_cons]
        omega
    exact Nat.le_trans (this L fun x hx => (hle x hx).1) hs
  obtain ⟨kk, j3, g1, g2, hkl, ed⟩ := dict_loop (e0 := some (shi p)) (e1 := some (si (k : Int))) (e4 := none) (e5 := none) S [] [] none List.nodup_nil (fun x => Iff.rfl) (by simp; omega)
  rw [List.nil_append] at g2 ed
  have g3 : ∀ x, x ∈ kk ↔ x ∈ L := fun x => by rw [g2 x]; exact pS.mem_iff
  have hkk : ∀ x ∈ kk, 1 ≤ x ∧ x ≤ 24 ∧ S.count x ≤ 24 := fun x hx => by
    have h1 := hle x ((g3 x).mp hx)
    exact ⟨h1.1, by omega, Nat.le_trans List.count_le_length hlen⟩
  have hkl : kk.length ≤ 24 := by simp at hkl; omega
  obtain ⟨a3, a5, ep⟩ := prod_loop (e0 := some (shi p)) (e2 := none) (k := k) (by omega) hw kk 1 j3 none 0 hkk (by simp) (by omega)
  have hroot := roots_prod (L := S) (n := n) (k := k) g1 g2 fun x hx => hle x (pS.mem_iff.mp hx)
  rw [hroot, rootsN_perm pS, Nat.one_mul] at ep
  have hfor : mForI 2 (bTup [3, 5]) b_roots_of_1 [some (shi p), some (si (k : Int)), some (dcT kk S), j3, some (si 1), none] = .nx [some (shi p), some (si (k : Int)), none, a3, some (si (rootsN L n k : Nat)), a5] := by
    show (match forL (bTup [3, 5]) b_roots_of_1 (itemsT (kk.map kyN) ((kk.map fun x => si ((S.count x : Nat) : Int)).map T.d)) [some (shi p), some (si (k : Int)), none, j3, some (si 1), none] with | .nx ρ' => SOut.nx ρ' | _ => .bad) = _
    rw [List.map_map, show (T.d ∘ fun x => si ((S.count x : Nat) : Int)) = fun x => D.int ((S.count x : Nat) : Int) from rfl, items_map]
    rw [show ((1 : Nat) : Int) = 1 from rfl] at ep
    rw [ep]
  have hS : (S.map fun x : Nat => (x : Int)).map ig = S.map fun x : Nat => si (x : Int) := by rw [List.map_map]; rfl
  have hD : dcT [] [] = .od [] [] := rfl
  rw [← hS, hD] at ed
  generalize (S.map fun x : Nat => (x : Int)) = SI at *
  generalize dcT kk S = DC at *
  generalize rootsN L n k = RR at *
  simp at ed
  simp [F_roots_of, m_roots_of, hkd, eNewD, ed, hfor]
end
end Cl

set_option exponentiation.threshold 10000
namespace Cl
noncomputable section
open PySem L2 Z
theorem natL_map (L : List Nat) : (natL L).map ig = L.map fun x : Nat => si (x : Int) := by rw [natL, List.map_map]; rfl
theorem eqN_int (x l : Nat) : oEq (.int (x : Int)) (.int (l : Int)) = some (.bl (decide (x = l))) := by
  have q1 : ((x : Int) == (l : Int)) = decide (x = l) := eqN
  rw [← q1]
  rfl
theorem one_count {e0 e1 e2 e3 e5 : Option T} {L : List Nat} {l : Nat} (hL : L.length ≤ 1000) : lcL [6] (bName 6) t_law_count_1 x_law_count_2 ((natL L).map ig) [] [e0, e1, e2, e3, some (si (l : Int)), e5, none] = .ok ((natL (L.filter fun x => decide (x = l))).map ig) [e0, e1, e2, e3, some (si (l : Int)), e5, none] := by
  rw [natL_map, natL_map]
  refine lcL_fl (fun d : Nat => si (d : Int)) (fun d : Nat => si (d : Int)) (fun d => decide (d = l)) (acc := []) (fun d hd => ?_) (by simp; unfold lim; omega)
  refine ⟨[e0, e1, e2, e3, some (si (l : Int)), e5, some (si (d : Int))], rfl, ?_, fun _ => by simp [x_law_count_2], rfl⟩
  have := eqN_int d l
  simp [t_law_count_1, this]
theorem count_filter (L : List Nat) (l : Nat) : (L.filter fun x => decide (x = l)).length = L.count l := by
  rw [List.count, List.countP_eq_length_filter]
  congr 1
theorem count_step {n k l c F : Nat} {e0 e4 e5 : Option T} {U : T} {L : List Nat} (hU : U = T.ints (natL L) ∨ U = shi (natL L)) (hs : L.sum ≤ 24) (hlen : L.length ≤ 24) (hl : 1 ≤ l) (hl2 : l ≤ 24) (hk : 1 ≤ k) (hk2 : k ≤ 60) (hF : F ≤ 2 ^ (100 * c)) (hc : c ≤ 1000) :
    b_law_count_3 [e0, some (si (k : Int)), some U, some (si (F : Nat)), some (si (l : Int)), e5, none] = .nx [e0, some (si (k : Int)), some (shi (natL L)), some (si (F * waysJ (L.count l) l k : Nat)), some (si (l : Int)), e5, none] := by
  have hw := ways_len hs hl hk hk2
  have hwk := law_ways_ok (many := L.count l) (length := l) (k := k) (Nat.le_trans List.count_le_length hlen) hl2 hl
  rw [hw.1] at hwk
  have hoc := one_count (e0 := e0) (e1 := some (si (k : Int))) (e2 := some (shi (natL L))) (e3 := some (si (F : Nat))) (e5 := e5) (L := L) (l := l) (by omega)
  have hfl : (natL (L.filter fun x => decide (x = l))).length = L.count l := by rw [natL_len, count_filter]
  have hm := mul_int (sm_of hF hw.2 (by omega))
  rw [Int.natCast_mul]
  generalize waysJ (L.count l) l k = WJ at *
  generalize natL (L.filter fun x => decide (x = l)) = LF at *
  generalize L.count l = C at *
  generalize natL L = NL at *
  simp at hoc
  rcases hU with rfl | rfl
  · simp [b_law_count_3, hoc, hfl, hwk, hm]
  · simp [b_law_count_3, hoc, hfl, hwk, hm]
theorem count_ok {n : Nat} (hn : n ≤ 24) {p : List Int} (hp : Turn n p) {k : Nat} (hk : 1 ≤ k) (hk2 : k ≤ 60) : F_law_count [shi p, si (k : Int)] = .ok (si (rootsN (lensN n p) n k : Nat)) [shi p, si (k : Int)] := by
  have hpl := hp.len
  have hlr := lrows_ok (n := n) (by omega) hp
  have hR := rows_rws hp
  have hs := hR.sum
  have hb := hR.len_
  have hlc := lcL_xs (slots := [5]) (b := bName 5) (elt := x_law_count_4) (ρ := [some (shi p), some (si (k : Int)), none, none, none, none, none]) (fun r => shi (natL r)) (fun r => si ((r.length : Nat) : Int)) (xs := rowsOf n p) (acc := []) (fun r hr => by
    have := hb.2 r hr
    have hi := inR_nat (n := r.length) (by omega)
    refine ⟨[some (shi p), some (si (k : Int)), none, none, none, some (shi (natL r)), none], [some (shi p), some (si (k : Int)), none, none, none, some (shi (natL r)), none], rfl, ?_, rfl⟩
    simp [x_law_count_4, natL, hi]) (by simp; unfold lim; omega)
  have e2 : ((rowsOf n p).map fun r => si ((r.length : Nat) : Int)) = (natL (lensN n p)).map ig := by
    rw [natL_map, lensN, List.map_map]
    rfl
  have hlen : (lensN n p).length ≤ 24 := by rw [lensN, List.length_map]; omega
  have hs : (lensN n p).sum ≤ 24 := by unfold lensN; rw [hs]; exact hn
  rw [List.nil_append, e2] at hlc
  have e3 : ((rowsOf n p).map fun r => shi (natL r)) = (rowsOf n p).map rS := rfl
  rw [e3] at hlc
  obtain ⟨ρ', ef, U, j4, hU, rfl⟩ := forN_inv (i := 4) (body := b_law_count_3) (its := rangeT 1 n) (ρ := [some (shi p), some (si (k : Int)), some (T.ints (natL (lensN n p))), some (si 1), none, none, none])
    (fun i ρ => ∃ (U : T) (j4 : Option T), (U = T.ints (natL (lensN n p)) ∨ U = shi (natL (lensN n p))) ∧ ρ = [some (shi p), some (si (k : Int)), some U, some (si (prodN ((List.range i).map fun i => waysJ ((lensN n p).count (i + 1)) (i + 1) k) : Nat)), j4, none, none]) ⟨_, none, .inl rfl, rfl⟩ (by
      rintro i t ρ e ⟨U, j4, hU, rfl⟩
      obtain ⟨hi, rfl⟩ := rangeT_get e
      have hF : prodN ((List.range i).map fun i => waysJ ((lensN n p).count (i + 1)) (i + 1) k) ≤ 2 ^ (100 * i) := by
        have := prodN_le (b := 100) (l := (List.range i).map fun i => waysJ ((lensN n p).count (i + 1)) (i + 1) k) fun x hx => by
          obtain ⟨y, _, rfl⟩ := List.mem_map.mp hx
          exact (ways_len hs (by omega) hk hk2).2
        rwa [List.length_map, List.length_range] at this
      have es := count_step (n := n) (l := i + 1) (c := i) (e0 := some (shi p)) (e4 := none) (e5 := none) hU hs hlen (by omega) (by omega) hk hk2 hF (by omega)
      have et : (((i + 1 : Nat)) : Int) = 1 + (i : Int) := by omega
      rw [et] at es
      refine ⟨_, .inl es, _, some (si (1 + (i : Int))), .inr rfl, ?_⟩
      have eq : prodN ((List.range (i + 1)).map fun i => waysJ ((lensN n p).count (i + 1)) (i + 1) k) = prodN ((List.range i).map fun i => waysJ ((lensN n p).count (i + 1)) (i + 1) k) * waysJ ((lensN n p).count (i + 1)) (i + 1) k := by
        rw [List.range_succ, List.map_append, prodN_app]
        show _ * (_ * 1) = _
        rw [Nat.mul_one]
      rw [eq])
  rw [rangeT_len] at ef
  have hr : InR 1 := InR.of (by decide) (by decide)
  have hr2 : InR ((n : Int) + 1) := InR.of (by omega) (by omega)
  have ht : ((n : Int) + 1 - 1).toNat = n := by omega
  have hd : (dl ((rowsOf n p).map rS)).map T.sh = (rowsOf n p).map rS := by
    rw [dl_eq, List.map_map, List.map_map]
    rfl
  have hroot : rootsN (lensN n p) n k = prodN ((List.range n).map fun i => waysJ ((lensN n p).count (i + 1)) (i + 1) k) := rfl
  rw [hroot]
  generalize prodN ((List.range n).map fun i => waysJ ((lensN n p).count (i + 1)) (i + 1) k) = RR at *
  generalize natL (lensN n p) = NL at *
  generalize (rowsOf n p).map rS = RS at *
  simp at hlc ef
  simp [F_law_count, m_law_count, hpl, hlr, hd, hlc, hr, hr2, ht, ef]
end
end Cl

namespace Cl
noncomputable section
/-! ### all turnings of few places, for the kernel -/
def insN (x : Nat) (p : List Nat) : List (List Nat) := (List.range (x + 1)).map fun a => p.take a ++ [x] ++ p.drop a
def evN : Nat → List (List Nat)
  | 0 => [[]]
  | x + 1 => (evN x).flatMap (insN x)
def blkN (a : Nat) : List Nat → List Nat
  | [] => []
  | s :: K => ((List.range s).map fun j => a + (j + 1) % s) ++ blkN (a + s) K
def compN (q r : List Nat) : List Nat := q.map fun x => nth r x
def powN (n : Nat) (q : List Nat) : Nat → List Nat
  | 0 => List.range n
  | k + 1 => compN (powN n q k) q
/-- ascending rows of lengths -/
def partsN : Nat → Nat → Nat → List (List Nat)
  | 0, _, left => if left = 0 then [[]] else []
  | f + 1, least, left => if left = 0 then [[]] else (List.range' least (left + 1 - least)).flatMap fun s => (partsN f s (left - s)).map (s :: ·)
def jK (m l k : Nat) : Nat := forceL (onesK m) fun ws => goT l k (fun ws1 => nth ws1 m) m Nat.zero ws
theorem jK_eq (m l k : Nat) : jK m l k = waysJ m l k := by
  unfold jK
  rw [forceL_eq, onesK_eq]
  have h1 := goT_eq (length := l) (k := k) (g := fun ws1 => nth ws1 m) (ws := 1 :: List.replicate m 0) m 0
  rw [Nat.zero_add] at h1
  refine Eq.trans h1 ?_
  show nth (outJ l k (1 :: List.replicate m 0) m) m = _
  rw [nth_eq]
  rfl
def cntK (L : List Nat) (l : Nat) : Nat := List.rec Nat.zero (fun x _ ih => Bool.rec ih (Nat.succ ih) (Nat.beq x l)) L
theorem cntK_eq (L : List Nat) (l : Nat) : cntK L l = L.count l := by
  induction L with
  | nil => rfl
  | cons x L ih =>
    show (Bool.rec (cntK L l) (Nat.succ (cntK L l)) (Nat.beq x l) : Nat) = _
    rw [ih, List.count_cons]
    by_cases c : x = l
    · subst c; rw [show Nat.beq x x = true from Nat.beq_refl x]; simp
    · rw [show Nat.beq x l = false from Bool.eq_false_iff.mpr fun q => c (Nat.eq_of_beq_eq_true q)]; simp [c]
def rootsK (L : List Nat) : Nat → Nat → Nat
  | 0, _ => 1
  | n + 1, k => rootsK L n k * waysJ (L.count (n + 1)) (n + 1) k
def rtK (L : List Nat) (n k : Nat) : Nat := Nat.rec (Nat.succ Nat.zero) (fun i ih => Nat.mul ih (jK (cntK L (Nat.succ i)) (Nat.succ i) k)) n
def eqK (a : List Nat) : List Nat → Bool := List.rec (fun b => List.rec true (fun _ _ _ => false) b) (fun x _ ih b => List.rec false (fun y b' _ => Bool.rec false (ih b') (Nat.beq x y)) b) a
def manyK (b : List Nat) (P : List (List Nat)) : Nat := List.rec Nat.zero (fun q _ ih => Bool.rec ih (Nat.succ ih) (eqK q b)) P
def mapK (r : List Nat) (q : List Nat) : List Nat := List.rec [] (fun x _ ih => nth r x :: ih) q
/-- the rows, each number reckoned -/
def frcB (x : Nat) (f : Nat → Bool) : Bool := Nat.rec (f Nat.zero) (fun n _ => f (Nat.succ n)) x
def frcL (l : List Nat) : (List Nat → Bool) → Bool := List.rec (fun f => f []) (fun x _ ih f => frcB x fun y => ih fun ys => f (y :: ys)) l
def frcP (l : List (List Nat)) : (List (List Nat) → Bool) → Bool := List.rec (fun f => f []) (fun x _ ih f => frcL x fun y => ih fun ys => f (y :: ys)) l
def zipK (P : List (List Nat)) : List (List Nat) → List (List Nat) := List.rec (fun _ => []) (fun p _ ih E => List.rec [] (fun q E' _ => mapK q p :: ih E') E) P
def oneK (n k : Nat) (P : List (List Nat)) (Ks : List (List Nat)) : Bool := List.rec true (fun K _ ih => Bool.rec false ih (Nat.beq (rtK K n k) (manyK (blkN 0 K) P))) Ks
def goK (n : Nat) (E Ks : List (List Nat)) (r : Nat) : Nat → List (List Nat) → Bool := Nat.rec (fun _ _ => true) (fun _ ih k P => Bool.rec false (frcP (zipK P E) fun P' => ih (Nat.succ k) P') (oneK n k P Ks)) r
theorem frcB_eq (x : Nat) (f : Nat → Bool) : frcB x f = f x := by cases x <;> rfl
theorem frcL_eq : ∀ (l : List Nat) (f : List Nat → Bool), frcL l f = f l
  | [], _ => rfl
  | x :: xs, f => by
    show (frcB x fun y => frcL xs fun ys => f (y :: ys)) = _
    rw [frcB_eq, frcL_eq xs]
theorem frcP_eq : ∀ (l : List (List Nat)) (f : List (List Nat) → Bool), frcP l f = f l
  | [], _ => rfl
  | x :: xs, f => by
    show (frcL x fun y => frcP xs fun ys => f (y :: ys)) = _
    rw [frcL_eq, frcP_eq xs]
theorem rtK_eq (L : List Nat) (k : Nat) : ∀ n, rtK L n k = rootsK L n k
  | 0 => rfl
  | n + 1 => by
    show rtK L n k * jK (cntK L (n + 1)) (n + 1) k = rootsK L n k * _
    rw [rtK_eq L k n, jK_eq, cntK_eq]
theorem eqK_eq : ∀ (a b : List Nat), eqK a b = decide (a = b)
  | [], [] => rfl
  | [], _ :: _ => rfl
  | x :: a, [] => rfl
  | x :: a, y :: b => by
    show (Bool.rec false (eqK a b) (Nat.beq x y) : Bool) = _
    rw [eqK_eq a b]
    by_cases c : x = y
    · subst c; rw [show Nat.beq x x = true from Nat.beq_refl x]; simp
    · rw [show Nat.beq x y = false from Bool.eq_false_iff.mpr fun q => c (Nat.eq_of_beq_eq_true q)]; simp [c]
theorem manyK_eq (b : List Nat) : ∀ P : List (List Nat), manyK b P = P.countP fun q => decide (q = b)
  | [] => rfl
  | q :: P => by
    show (Bool.rec (manyK b P) (Nat.succ (manyK b P)) (eqK q b) : Nat) = _
    rw [manyK_eq b P, eqK_eq, List.countP_cons]
    by_cases c : q = b
    · simp [c]
    · simp [c]
theorem mapK_eq (r : List Nat) : ∀ q : List Nat, mapK r q = compN q r
  | [] => rfl
  | x :: q => by
    show nth r x :: mapK r q = _
    rw [mapK_eq r q]
    rfl
theorem zipK_eq (f : List Nat → List Nat) : ∀ E : List (List Nat), zipK (E.map f) E = E.map fun q => compN (f q) q
  | [] => rfl
  | q :: E => by
    show mapK q (f q) :: zipK (E.map f) E = _
    rw [mapK_eq, zipK_eq f E]
    rfl
theorem oneK_ok {n k : Nat} {P : List (List Nat)} : ∀ {Ks : List (List Nat)}, oneK n k P Ks = true → ∀ K ∈ Ks, rootsK K n k = P.countP fun q => decide (q = blkN 0 K)
  | [], _, K, h => by cases h
  | J :: Ks, h, K, hK => by
    have h' : (Bool.rec false (oneK n k P Ks) (Nat.beq (rtK J n k) (manyK (blkN 0 J) P)) : Bool) = true := h
    cases c : Nat.beq (rtK J n k) (manyK (blkN 0 J) P) with
    | false => rw [c] at h'; cases h'
    | true =>
      rw [c] at h'
      rcases List.mem_cons.mp hK with rfl | hK
      · have := Nat.eq_of_beq_eq_true c
        rw [rtK_eq, manyK_eq] at this
        exact this
      · exact oneK_ok h' K hK
theorem goK_ok {n : Nat} {E Ks : List (List Nat)} : ∀ (r k : Nat), goK n E Ks r k (E.map fun q => powN n q k) = true → ∀ i, i < r → ∀ K ∈ Ks, rootsK K n (k + i) = (E.map fun q => powN n q (k + i)).countP fun q => decide (q = blkN 0 K)
  | 0, _, _, i, hi, _, _ => by omega
  | r + 1, k, h, i, hi, K, hK => by
    have h' : (Bool.rec false (frcP (zipK (E.map fun q => powN n q k) E) fun P' => goK n E Ks r (k + 1) P') (oneK n k (E.map fun q => powN n q k) Ks) : Bool) = true := h
    rw [frcP_eq, zipK_eq] at h'
    cases c : oneK n k (E.map fun q => powN n q k) Ks with
    | false => rw [c] at h'; cases h'
    | true =>
      rw [c] at h'
      by_cases q : i = 0
      · subst q; exact oneK_ok c K hK
      · have := goK_ok r (k + 1) h' (i - 1) (by omega) K hK
        rw [show k + 1 + (i - 1) = k + i by omega] at this
        exact this
theorem nth_range {q : List Nat} : (List.range q.length).map (fun x => nth q x) = q := by
  apply List.ext_getElem
  · simp
  · intro i h1 h2
    rw [List.getElem_map, List.getElem_range, nth_eq, List.getD_eq_getElem?_getD, List.getElem?_eq_getElem h2]
    rfl
def chkN (n : Nat) : Bool := frcP (evN n) fun E => frcP (partsN n 1 n) fun Ks => goK n E Ks 60 1 E
theorem chk_0 : chkN 0 = true := by decide +kernel
theorem chk_1 : chkN 1 = true := by decide +kernel
theorem chk_2 : chkN 2 = true := by decide +kernel
theorem chk_3 : chkN 3 = true := by decide +kernel
theorem chk_4 : chkN 4 = true := by decide +kernel
theorem chk_5 : chkN 5 = true := by decide +kernel
theorem chk_6 : chkN 6 = true := by decide +kernel
/-! ### what is in evN -/
theorem ins_perm {x : Nat} {p r : List Nat} (h : r ∈ insN x p) : r.Perm (x :: p) := by
  obtain ⟨a, _, rfl⟩ := List.mem_map.mp h
  rw [List.append_assoc, List.singleton_append]
  refine List.perm_middle.trans ?_
  rw [List.take_append_drop]
theorem ev_perm : ∀ {n : Nat} {q : List Nat}, q ∈ evN n → q.Perm (List.range n)
  | 0, q, h => by
    rw [List.mem_singleton.mp h]
    exact List.Perm.refl _
  | n + 1, q, h => by
    obtain ⟨p, hp, hq⟩ := List.mem_flatMap.mp h
    refine (ins_perm hq).trans ?_
    rw [List.range_succ]
    exact ((ev_perm hp).cons n).trans (List.perm_append_singleton n _).symm
theorem ev_all : ∀ {n : Nat} {q : List Nat}, q.Perm (List.range n) → q ∈ evN n
  | 0, q, h => by
    rw [List.range_zero, List.perm_nil] at h
    exact List.mem_singleton.mpr h
  | n + 1, q, h => by
    have hn : n ∈ q := h.mem_iff.mpr (by simp)
    obtain ⟨u, v, rfl⟩ := List.append_of_mem hn
    have h2 : (u ++ v).Perm (List.range n) := by
      have h3 : (n :: (u ++ v)).Perm (n :: List.range n) := by
        refine List.perm_middle.symm.trans (h.trans ?_)
        rw [List.range_succ]
        exact List.perm_append_singleton n _
      exact (List.perm_cons n).mp h3
    refine List.mem_flatMap.mpr ⟨u ++ v, ev_all h2, List.mem_map.mpr ⟨u.length, ?_, ?_⟩⟩
    · have := h2.length_eq
      simp at this
      rw [List.mem_range]
      omega
    · simp
theorem ins_filter {x : Nat} {p r : List Nat} (hx : x ∉ p) (h : r ∈ insN x p) : r.filter (fun y => decide (y ≠ x)) = p := by
  obtain ⟨a, _, rfl⟩ := List.mem_map.mp h
  have h1 : ∀ {l : List Nat}, x ∉ l → l.filter (fun y => decide (y ≠ x)) = l := fun {l} hl => List.filter_eq_self.mpr fun y hy => by
    simp only [decide_eq_true_eq]
    rintro rfl
    exact hl hy
  rw [List.filter_append, List.filter_append, h1 fun q => hx (List.mem_of_mem_take q), h1 fun q => hx (List.mem_of_mem_drop q)]
  simp
theorem ev_nodup : ∀ n : Nat, (evN n).Nodup
  | 0 => by simp [evN]
  | n + 1 => by
    show List.Pairwise (· ≠ ·) ((evN n).flatMap (insN n))
    rw [List.pairwise_flatMap]
    have hni : ∀ p ∈ evN n, n ∉ p := fun p hp q => by
      have := (ev_perm hp).mem_iff.mp q
      simp at this
    constructor
    · intro p hp
      unfold insN
      rw [List.pairwise_map]
      have hl := (ev_perm hp).length_eq
      rw [List.length_range] at hl
      refine List.Pairwise.imp_of_mem ?_ (List.pairwise_lt_range (n := n + 1))
      intro a b ha hb hab e
      rw [List.mem_range] at ha hb
      have h1 : (p.take a ++ [n] ++ p.drop a)[a]? = (p.take b ++ [n] ++ p.drop b)[a]? := by rw [e]
      have hl1 : (p.take a ++ [n] ++ p.drop a)[a]? = some n := by
        rw [List.append_assoc, List.getElem?_append_right (by simp; omega), List.length_take, Nat.min_eq_left (by omega), Nat.sub_self]
        rfl
      have hl2 : (p.take b ++ [n] ++ p.drop b)[a]? = (p.take b)[a]? := by
        rw [List.append_assoc, List.getElem?_append_left (by simp; omega)]
      rw [hl1, hl2] at h1
      have h2 : n ∈ p := List.mem_of_mem_take (List.mem_of_getElem? h1.symm)
      exact hni p hp h2
    · refine List.Pairwise.imp_of_mem ?_ (ev_nodup n)
      intro p p' hp hp' hne r hr r' hr' e
      subst e
      exact hne ((ins_filter (hni p hp) hr).symm.trans (ins_filter (hni p' hp') hr'))
theorem small_eq {n : Nat} (hn : n ≤ 6) {k : Nat} (hk : 1 ≤ k) (hk2 : k ≤ 60) {K : List Nat} (hK : K ∈ partsN n 1 n) : rootsK K n k = (evN n).countP fun q => decide (powN n q k = blkN 0 K) := by
  have h : chkN n = true := by
    have : n = 0 ∨ n = 1 ∨ n = 2 ∨ n = 3 ∨ n = 4 ∨ n = 5 ∨ n = 6 := by omega
    rcases this with rfl | rfl | rfl | rfl | rfl | rfl | rfl
    · exact chk_0
    · exact chk_1
    · exact chk_2
    · exact chk_3
    · exact chk_4
    · exact chk_5
    · exact chk_6
  unfold chkN at h
  rw [frcP_eq, frcP_eq] at h
  have hE : (evN n).map (fun q => powN n q 1) = evN n := by
    refine (List.map_congr_left fun q hq => ?_).trans (List.map_id _)
    have hl := (ev_perm hq).length_eq
    rw [List.length_range] at hl
    show (List.range n).map (fun x => nth q x) = q
    rw [← hl]
    exact nth_range
  rw [← hE] at h
  have := goK_ok (E := (evN n).map fun q => powN n q 1) 60 1 (by
    rw [hE] at h ⊢
    rw [hE]
    exact h) (k - 1) (by omega) K hK
  rw [hE, show 1 + (k - 1) = k by omega, List.countP_map] at this
  exact this
end
end Cl

set_option exponentiation.threshold 10000
namespace Cl
noncomputable section
open PySem L2 Z
theorem rootsK_eq (L : List Nat) (k : Nat) : ∀ n, rootsK L n k = rootsN L n k
  | 0 => rfl
  | n + 1 => by
    rw [rootsK, rootsK_eq L k n]
    unfold rootsN
    rw [List.range_succ, List.map_append, prodN_app]
    show _ = _ * (_ * 1)
    rw [Nat.mul_one]
theorem Rws.permR {n : Nat} {p : List Int} {rs rs' : List (List Nat)} (h : Rws n p rs) (hp : rs'.Perm rs) : Rws n p rs' :=
  ⟨hp.flatten.trans h.perm, fun r hr => h.ne r (hp.mem_iff.mp hr), fun r hr => h.goes r (hp.mem_iff.mp hr)⟩
theorem getD_app {α : Type} (a b : List α) (d : α) (i : Nat) : (a ++ b).getD i d = if i < a.length then a.getD i d else b.getD (i - a.length) d := by
  by_cases c : i < a.length
  · rw [if_pos c, List.getD_eq_getElem?_getD, List.getD_eq_getElem?_getD, List.getElem?_append_left c]
  · rw [if_neg c, List.getD_eq_getElem?_getD, List.getD_eq_getElem?_getD, List.getElem?_append_right (by omega)]
theorem getN_at {l : List Nat} {i : Nat} (h : i < l.length) : l.getD i 0 = l[i] := by rw [List.getD_eq_getElem?_getD, List.getElem?_eq_getElem h]; rfl
theorem blk_goes {n : Nat} {p : List Int} (hp : Turn n p) : ∀ (rs : List (List Nat)) (c0 : List Nat), (∀ r ∈ rs, Goes p r) → (∀ r ∈ rs, ∀ v ∈ r, v < n) → ∀ i, i < rs.flatten.length → nx p (rs.flatten.getD i 0) = (c0 ++ rs.flatten).getD ((blkN c0.length (rs.map List.length)).getD i 0) 0
  | [], _, _, _, i, hi => by simp at hi
  | r :: rs, c0, hg, hv, i, hi => by
    have hB : ((List.range r.length).map fun j => c0.length + (j + 1) % r.length).length = r.length := by simp
    rw [List.flatten_cons, List.map_cons, blkN, getD_app, getD_app ((List.range r.length).map _), hB]
    by_cases c : i < r.length
    · rw [if_pos c, if_pos c]
      have h1 := goes_step hp (hg r List.mem_cons_self) (hv r List.mem_cons_self) c
      have e1 : r.getD i 0 = r[i] := getN_at c
      have e2 : ((List.range r.length).map fun j => c0.length + (j + 1) % r.length).getD i 0 = c0.length + (i + 1) % r.length := by
        rw [getN_at (by simpa using c), List.getElem_map, List.getElem_range]
      have hm : (i + 1) % r.length < r.length := Nat.mod_lt _ (by omega)
      rw [e1, h1, e2, getD_app, if_neg (by omega), Nat.add_sub_cancel_left, getD_app, if_pos hm, getN_at hm]
    · rw [if_neg c, if_neg c]
      have hi' : i - r.length < rs.flatten.length := by
        rw [List.flatten_cons, List.length_append] at hi
        omega
      have ih := blk_goes hp rs (c0 ++ r) (fun q hq => hg q (List.mem_cons_of_mem _ hq)) (fun q hq => hv q (List.mem_cons_of_mem _ hq)) (i - r.length) hi'
      rw [ih, List.append_assoc, List.length_append]
theorem parts_all : ∀ (f : Nat) {least left : Nat} {K : List Nat}, K.Pairwise (· ≤ ·) → (∀ x ∈ K, least ≤ x) → 1 ≤ least → K.sum = left → K.length ≤ f → K ∈ partsN f least left
  | 0, least, left, K, _, _, _, hs, hf => by
    have : K = [] := List.length_eq_zero_iff.mp (by omega)
    subst this
    subst hs
    exact List.mem_singleton.mpr rfl
  | f + 1, least, left, [], _, _, _, hs, _ => by
    subst hs
    show [] ∈ [[]]
    exact List.mem_singleton.mpr rfl
  | f + 1, least, left, s :: K, hp, hl, h1, hs, hf => by
    have hs1 := hl s List.mem_cons_self
    rw [List.sum_cons] at hs
    have hne : ¬ left = 0 := by omega
    rw [partsN, if_neg hne]
    obtain ⟨p1, p2⟩ := List.pairwise_cons.mp hp
    refine List.mem_flatMap.mpr ⟨s, ?_, List.mem_map.mpr ⟨K, ?_, rfl⟩⟩
    · rw [List.mem_range'_1]
      omega
    · exact parts_all f p2 p1 (by omega) (by omega) (by simp at hf; omega)
/-- rows, the short ones first -/
theorem rows_sorted {n : Nat} {p : List Int} (hp : Turn n p) : ∃ rs, Rws n p rs ∧ rs.Perm (rowsOf n p) ∧ (rs.map List.length).Pairwise (· ≤ ·) := by
  refine ⟨(rowsOf n p).mergeSort fun a b => decide (a.length ≤ b.length), (rows_rws hp).permR (List.mergeSort_perm _ _), List.mergeSort_perm _ _, ?_⟩
  rw [List.pairwise_map]
  have := List.pairwise_mergeSort (le := fun a b : List Nat => decide (a.length ≤ b.length)) (fun a b c h1 h2 => by simp at *; omega) (fun a b => by simp; omega) (rowsOf n p)
  exact List.Pairwise.imp (fun {a b} h => by simpa using h) this
theorem natL_turn {n : Nat} {c : List Nat} (h : c.Perm (List.range n)) : Turn n (natL c) := by
  unfold Turn natL iota
  exact h.map _
theorem at_natL {c : List Nat} {i : Nat} : at_ (natL c) i = c.getD i 0 := by
  unfold at_
  rw [natL_get, Int.toNat_natCast]
theorem blk_lt : ∀ (K : List Nat) (a : Nat), (∀ x ∈ K, 1 ≤ x) → (blkN a K).length = K.sum ∧ ∀ x ∈ blkN a K, a ≤ x ∧ x < a + K.sum
  | [], a, _ => ⟨rfl, fun x hx => (nomatch hx)⟩
  | s :: K, a, h => by
    obtain ⟨h1, h2⟩ := blk_lt K (a + s) fun x hx => h x (List.mem_cons_of_mem _ hx)
    have hs := h s List.mem_cons_self
    refine ⟨by simp [blkN, h1], fun x hx => ?_⟩
    rw [List.sum_cons]
    rcases List.mem_append.mp hx with q | q
    · obtain ⟨j, _, rfl⟩ := List.mem_map.mp q
      have := Nat.mod_lt (j + 1) (show 0 < s by omega)
      omega
    · have := h2 x q
      omega
/-- a turning is one of blocks, renamed -/
theorem turn_blk {n : Nat} {p : List Int} (hp : Turn n p) {rs : List (List Nat)} (h : Rws n p rs) : p = cjL n (natL (blkN 0 (rs.map List.length))) (natL rs.flatten) := by
  have hc := natL_turn h.perm
  have hl := h.perm.length_eq
  rw [List.length_range] at hl
  obtain ⟨b1, b2⟩ := blk_lt (rs.map List.length) 0 h.pos
  rw [h.sum] at b1 b2
  have hb : Row n (natL (blkN 0 (rs.map List.length))) := ⟨by rw [natL_len, b1], fun x hx => by
    obtain ⟨y, hy, rfl⟩ := List.mem_map.mp hx
    have := b2 y hy
    omega⟩
  have hbc := turn_bk hc
  refine row_ext hp.row (cj_row hb hc.row) fun k hk => ?_
  have hj := hbc.row.at_lt hk
  have e : at_ (natL rs.flatten) (at_ (bkL n (natL rs.flatten)) k) = k := by
    have this : at_ (thenL (bkL n (natL rs.flatten)) (natL rs.flatten)) k = at_ (iota n) k := congrArg (fun l => at_ l k) (bk_then hc)
    rw [at_then hbc.row hk, at_iota hk] at this
    exact this
  generalize at_ (bkL n (natL rs.flatten)) k = j at hj e
  rw [← e, at_cj hc hj]
  have h1 := blk_goes hp rs [] h.goes (fun r hr v hv => by
    have := h.perm.mem_iff.mp (List.mem_flatten.mpr ⟨r, hr, hv⟩)
    simpa using this) j (by omega)
  rw [List.nil_append] at h1
  rw [at_natL, at_natL, at_natL]
  exact h1
end
end Cl

set_option exponentiation.threshold 10000
namespace Cl
noncomputable section
open PySem L2 Z
theorem natL_inj {a b : List Nat} (h : natL a = natL b) : a = b := (List.map_inj_right (fun a b h => by omega)).mp h
theorem turn_natL {n : Nat} {p : List Int} (hp : Turn n p) : ∃ q : List Nat, q.Perm (List.range n) ∧ natL q = p := by
  refine ⟨p.map Int.toNat, ?_, ?_⟩
  · have := List.Perm.map Int.toNat hp
    unfold iota at this
    rw [List.map_map] at this
    have e : (Int.toNat ∘ fun k : Nat => (k : Int)) = id := by funext x; simp
    rwa [e, List.map_id] at this
  · unfold natL
    rw [List.map_map]
    refine (List.map_congr_left fun x hx => ?_).trans (List.map_id _)
    have := hp.mem.mp hx
    show ((x.toNat : Nat) : Int) = x
    omega
/-- all turnings -/
def evL (n : Nat) : List (List Int) := (evN n).map natL
theorem ev_mem {n : Nat} {p : List Int} : p ∈ evL n ↔ Turn n p := by
  constructor
  · intro h
    obtain ⟨q, hq, rfl⟩ := List.mem_map.mp h
    exact natL_turn (ev_perm hq)
  · intro h
    obtain ⟨q, hq, rfl⟩ := turn_natL h
    exact List.mem_map.mpr ⟨q, ev_all hq, rfl⟩
theorem ev_nd (n : Nat) : (evL n).Nodup := by
  unfold evL
  show List.Pairwise (· ≠ ·) _
  rw [List.pairwise_map]
  exact List.Pairwise.imp (fun {a b} h e => h (natL_inj e)) (ev_nodup n)
theorem cj_then {n : Nat} {a b g : List Int} (ha : Turn n a) (hb : Turn n b) (hg : Turn n g) : cjL n (thenL a b) g = thenL (cjL n a g) (cjL n b g) := by
  have hk := turn_bk hg
  rw [cj_eq (turn_then ha hb).row hg, cj_eq ha.row hg, cj_eq hb.row hg]
  have e1 : thenL (thenL (thenL (bkL n g) a) g) (thenL (thenL (bkL n g) b) g) = thenL (thenL (thenL (bkL n g) a) (thenL g (thenL (bkL n g) b))) g := by
    rw [then_assoc (then_row hk.row ha.row) hg.row (then_row (then_row hk.row hb.row) hg.row), then_assoc (then_row hk.row ha.row) (then_row hg.row (then_row hk.row hb.row)) hg.row]
    congr 1
    rw [← then_assoc hg.row (then_row hk.row hb.row) hg.row]
  rw [e1, ← then_assoc hg.row hk.row hb.row, then_bk hg, iota_then hb.row, then_assoc hk.row ha.row hb.row]
theorem cj_iota {n : Nat} {g : List Int} (hg : Turn n g) : cjL n (iota n) g = iota n := by
  rw [cj_eq (turn_iota n).row hg, then_iota (turn_bk hg).row, bk_then hg]
theorem cj_it {n : Nat} {q g : List Int} (hq : Turn n q) (hg : Turn n g) : ∀ k, itL n (cjL n q g) k = cjL n (itL n q k) g
  | 0 => (cj_iota hg).symm
  | k + 1 => by
    show thenL (itL n (cjL n q g) k) (cjL n q g) = cjL n (thenL (itL n q k) q) g
    rw [cj_it hq hg k, cj_then (turn_it hq k) hq hg]
theorem cj_inj {n : Nat} {a b g : List Int} (ha : Turn n a) (hb : Turn n b) (hg : Turn n g) (h : cjL n a g = cjL n b g) : a = b := by
  refine row_ext ha.row hb.row fun k hk => ?_
  have h1 := at_cj (p := a) hg hk
  have h2 := at_cj (p := b) hg hk
  rw [h, h2] at h1
  exact (at_inj hg (ha.row.at_lt hk) (hb.row.at_lt hk) h1.symm)
theorem ev_cj {n : Nat} {g : List Int} (hg : Turn n g) : ((evL n).map fun q => cjL n q g).Perm (evL n) := by
  have hgb := turn_bk hg
  refine (List.perm_ext_iff_of_nodup ?_ (ev_nd n)).mpr fun x => ?_
  · show List.Pairwise (· ≠ ·) _
    rw [List.pairwise_map]
    exact List.Pairwise.imp_of_mem (fun {a b} ha hb h e => h (cj_inj (ev_mem.mp ha) (ev_mem.mp hb) hg e)) (ev_nd n)
  · rw [List.mem_map, ev_mem]
    constructor
    · rintro ⟨q, hq, rfl⟩
      exact turn_cj (ev_mem.mp hq) hg
    · intro hx
      refine ⟨cjL n x (bkL n g), ev_mem.mpr (turn_cj hx hgb), ?_⟩
      refine row_ext (turn_cj (turn_cj hx hgb) hg).row hx.row fun k hk => ?_
      have hj := hgb.row.at_lt hk
      have e : at_ g (at_ (bkL n g) k) = k := by
        have this : at_ (thenL (bkL n g) g) k = at_ (iota n) k := congrArg (fun l => at_ l k) (bk_then hg)
        rw [at_then hgb.row hk, at_iota hk] at this
        exact this
      have hxk := hx.row.at_lt hk
      have e2 : at_ g (at_ (bkL n g) (at_ x k)) = at_ x k := by
        have this : at_ (thenL (bkL n g) g) (at_ x k) = at_ (iota n) (at_ x k) := congrArg (fun l => at_ l (at_ x k)) (bk_then hg)
        rw [at_then hgb.row hxk, at_iota hxk] at this
        exact this
      conv => lhs; rw [← e]
      rw [at_cj hg hj, at_cj hgb hk, e2]
/-- in how many ways a turning is another one told k times: alike for renamed ones -/
def manyL (n k : Nat) (p : List Int) : Nat := (evL n).countP fun q => decide (itL n q k = p)
theorem many_cj {n k : Nat} {b g : List Int} (hb : Turn n b) (hg : Turn n g) : manyL n k (cjL n b g) = manyL n k b := by
  unfold manyL
  rw [← (ev_cj hg).countP_eq, List.countP_map]
  refine List.countP_congr fun q hq => ?_
  have hqt := ev_mem.mp hq
  simp only [Function.comp, decide_eq_true_eq]
  rw [cj_it hqt hg]
  exact ⟨fun h => cj_inj (turn_it hqt k) hb hg h, fun h => by rw [h]⟩
theorem pow_natL {n : Nat} {q : List Nat} (hq : q.Perm (List.range n)) : ∀ k, natL (powN n q k) = itL n (natL q) k
  | 0 => rfl
  | k + 1 => by
    show natL (compN (powN n q k) q) = thenL (itL n (natL q) k) (natL q)
    rw [← pow_natL hq k]
    unfold compN thenL natL
    rw [List.map_map, List.map_map]
    apply List.map_congr_left
    intro x _
    show ((nth q x : Nat) : Int) = (natL q).getD ((x : Int)).toNat 0
    rw [Int.toNat_natCast, natL_get, nth_eq]
theorem small_ok {n : Nat} (hn : n ≤ 6) {p : List Int} (hp : Turn n p) {k : Nat} (hk : 1 ≤ k) (hk2 : k ≤ 60) : rootsN (lensN n p) n k = manyL n k p := by
  obtain ⟨rs, hR, hperm, hsort⟩ := rows_sorted hp
  have e1 := turn_blk hp hR
  have hc := natL_turn hR.perm
  have hK : rs.map List.length ∈ partsN n 1 n := by
    refine parts_all n hsort hR.pos (Nat.le_refl 1) hR.sum ?_
    rw [List.length_map]
    exact hR.len_.1
  have h1 := small_eq hn hk hk2 hK
  rw [rootsK_eq] at h1
  have h2 : rootsN (lensN n p) n k = rootsN (rs.map List.length) n k := rootsN_perm (hperm.symm.map _) n k
  have hb : Turn n (natL (blkN 0 (rs.map List.length))) := by
    have hcb := turn_bk hc
    have hb : Row n (natL (blkN 0 (rs.map List.length))) := by
      obtain ⟨b1, b2⟩ := blk_lt (rs.map List.length) 0 hR.pos
      rw [hR.sum] at b1 b2
      exact ⟨by rw [natL_len, b1], fun x hx => by
        obtain ⟨y, hy, rfl⟩ := List.mem_map.mp hx
        have := b2 y hy
        omega⟩
    have e : natL (blkN 0 (rs.map List.length)) = cjL n p (bkL n (natL rs.flatten)) := by
      refine row_ext hb (turn_cj hp hcb).row fun k hk => ?_
      have h1 := at_cj (p := p) hcb (hc.row.at_lt hk)
      rw [at_bk hc hk] at h1
      rw [h1]
      conv => rhs; rw [e1]
      rw [at_cj hc hk, at_bk hc (hb.at_lt hk)]
    rw [e]
    exact turn_cj hp hcb
  rw [h2, h1, e1, many_cj hb hc]
  unfold manyL evL
  rw [List.countP_map]
  refine List.countP_congr fun q hq => ?_
  simp only [Function.comp, decide_eq_true_eq]
  rw [← pow_natL (ev_perm hq)]
  exact ⟨fun h => by rw [h], fun h => natL_inj h⟩
end
end Cl

set_option exponentiation.threshold 10000
namespace Cl
noncomputable section
open PySem L2 Z
def b_law_everyone_1 : SM := (mAppG 3 (eOp eAddT (eOp eAddT (eSl (vV 4) oNo (oYes (pV 5))) (eLst (eCons (eV 2) eNil))) (eSl (vV 4) (oYes (pV 5)) oNo)))
def b_law_everyone_2 : SM := (mFor (iR1 (eCons (eP (pOp oAdd (pV 2) (pC (.int 1)))) eNil)) (bName 5) b_law_everyone_1)
def b_law_everyone_3 : SM := (mSeq (mSet 3 (eLst eNil)) (mSeq (mFor (iE (eV 1)) (bName 4) b_law_everyone_2) (mSet 1 (eV 3))))
def m_law_everyone : SM := (mSeq (mSet 1 (eLst (eCons (eLst eNil) eNil))) (mSeq (mFor (iR1 (eCons (eV 0) eNil)) (bName 2) b_law_everyone_3) (mRet (eM 1))))
def F_law_everyone : FM := mFun 1 6 m_law_everyone
def x_law_asked_1 : EM := (eV 4)
def m_law_asked : SM := (mSeq (mSet 3 (eLC [4] (iE (eV 0)) (bName 4) tAll x_law_asked_1)) (mRet (eP (pAndV (pCall 2 (F_law_same 6) (aCons (pCall 2 F_roots_of (aCons (pV 0) (aCons (pV 1) aNil))) (aCons (pV 2) aNil))) (pAndV (pCall 2 (F_law_same 6) (aCons (pV 0) (aCons (pV 3) aNil))) (pCall 2 (F_law_same 6) (aCons (pCall 2 F_roots_of (aCons (pV 0) (aCons (pV 1) aNil))) (aCons (pV 2) aNil))))))))
def F_law_asked : FM := mFun 3 5 m_law_asked
def rQ (r : List Nat) : T := T.ints (natL r)
theorem at_loop {x : Nat} {p : List Nat} (hp : p.length = x) (hx : x ≤ 100) {e0 e1 : Option T} : ∀ (m a : Nat) (M : List T) (e5 : Option T), a + m ≤ x + 1 → M.length + m ≤ 5000 →
    ∃ j5, forL (bName 5) b_law_everyone_1 ((List.range' a m).map fun a : Nat => si (a : Int)) [e0, e1, some (si (x : Int)), some (.ol M), some (shi (natL p)), e5] = .nx [e0, e1, some (si (x : Int)), some (.ol (M ++ ((List.range' a m).map fun a => p.take a ++ [x] ++ p.drop a).map rQ)), some (shi (natL p)), j5]
  | 0, a, M, e5, _, _ => ⟨e5, by simp [forL]⟩
  | m + 1, a, M, e5, h, hz => by
    have hc : (natL p).length = x := by rw [natL_len, hp]
    have ct := cut_to (natL p) (i := (a : Int)) (by omega) (by omega)
    have cf := cut_from (natL p) (i := (a : Int)) (by omega) (by omega)
    rw [Int.toNat_natCast] at ct cf
    have h2 : ∀ u v : List T, u.length + v.length ≤ 300 → eAddT (.ol u) (.ol v) = some (.ol (u ++ v)) := fun u v h => addT_lst (els_ol u) (els_ol v) (by unfold lim; omega)
    have a1 := h2 (((natL p).take a).map ig) [si (x : Int)] (by simp; omega)
    have a2 := h2 (((natL p).take a).map ig ++ [si (x : Int)]) (((natL p).drop a).map ig) (by simp; omega)
    have er : ((natL p).take a).map ig ++ [si (x : Int)] ++ ((natL p).drop a).map ig = (natL (p.take a ++ [x] ++ p.drop a)).map ig := by
      unfold natL
      simp [List.map_take, List.map_drop]
    rw [er] at a2
    have hlt : M.length < lim := by unfold lim; omega
    obtain ⟨j5, ih⟩ := at_loop hp hx (e0 := e0) (e1 := e1) m (a + 1) (M ++ [rQ (p.take a ++ [x] ++ p.drop a)]) (some (si (a : Int))) (by omega) (by simp; omega)
    refine ⟨j5, ?_⟩
    rw [List.range'_succ, List.map_cons, List.map_cons, List.map_cons]
    have es : b_law_everyone_1 [e0, e1, some (si (x : Int)), some (.ol M), some (shi (natL p)), some (si (a : Int))] = .nx [e0, e1, some (si (x : Int)), some (.ol (M ++ [rQ (p.take a ++ [x] ++ p.drop a)])), some (shi (natL p)), some (si (a : Int))] := by
      unfold rQ
      generalize natL (p.take a ++ [x] ++ p.drop a) = NR at *
      generalize natL p = NP at *
      simp at a1 a2
      simp [b_law_everyone_1, ct, cf, a1, a2, hlt]
    unfold forL
    show (match b_law_everyone_1 [e0, e1, some (si (x : Int)), some (.ol M), some (shi (natL p)), some (si (a : Int))] with | .nx ρ => _ | .ct ρ => _ | .bk ρ => _ | r => r) = _
    rw [es]
    refine ih.trans ?_
    rw [List.append_assoc]
    rfl
theorem ins_len (x : Nat) (p : List Nat) : (insN x p).length = x + 1 := by simp [insN]
theorem p_loop {x : Nat} (hx : x ≤ 100) {e0 e1 : Option T} : ∀ (ps : List (List Nat)) (M : List T) (e4 e5 : Option T), (∀ p ∈ ps, p.length = x) → M.length + ps.length * (x + 1) ≤ 5000 →
    ∃ j4 j5, forL (bName 4) b_law_everyone_2 (ps.map fun p => shi (natL p)) [e0, e1, some (si (x : Int)), some (.ol M), e4, e5] = .nx [e0, e1, some (si (x : Int)), some (.ol (M ++ (ps.flatMap (insN x)).map rQ)), j4, j5]
  | [], M, e4, e5, _, _ => ⟨e4, e5, by simp [forL]⟩
  | p :: ps, M, e4, e5, h, hz => by
    have hz' : M.length + (x + 1) + ps.length * (x + 1) ≤ 5000 := by
      rw [List.length_cons, Nat.add_mul, Nat.one_mul] at hz
      omega
    obtain ⟨k5, ea⟩ := at_loop (h p List.mem_cons_self) hx (e0 := e0) (e1 := e1) (x + 1) 0 M e5 (by omega) (by omega)
    rw [← List.range_eq_range'] at ea
    have ei : ((List.range (x + 1)).map fun a : Nat => si (a : Int)) = rangeT 0 (x + 1) := by
      unfold rangeT
      apply List.map_congr_left
      intro a _
      rw [Int.zero_add]
    rw [ei] at ea
    have hM2 : (M ++ (insN x p).map rQ).length = M.length + (x + 1) := by rw [List.length_append, List.length_map, ins_len]
    obtain ⟨j4, j5, ih⟩ := p_loop hx (e0 := e0) (e1 := e1) ps (M ++ (insN x p).map rQ) (some (shi (natL p))) k5 (fun q hq => h q (List.mem_cons_of_mem _ hq)) (by rw [hM2]; exact hz')
    refine ⟨j4, j5, ?_⟩
    rw [List.map_cons]
    have es : b_law_everyone_2 [e0, e1, some (si (x : Int)), some (.ol M), some (shi (natL p)), e5] = .nx [e0, e1, some (si (x : Int)), some (.ol (M ++ (insN x p).map rQ)), some (shi (natL p)), k5] := by
      have hi := inR_nat (n := x + 1) (by omega)
      have hi' : InR ((x : Int) + 1) := hi
      have ex : ((x : Int) + 1).toNat = x + 1 := by omega
      have ea' : forL (bName 5) b_law_everyone_1 (rangeT 0 (x + 1)) [e0, e1, some (si (x : Int)), some (.ol M), some (shi (natL p)), e5] = .nx [e0, e1, some (si (x : Int)), some (.ol (M ++ (insN x p).map rQ)), some (shi (natL p)), k5] := ea
      generalize (insN x p).map rQ = IP at *
      generalize natL p = NP at *
      simp at ea'
      simp [b_law_everyone_2, hi', ex, ea']
    unfold forL
    show (match b_law_everyone_2 [e0, e1, some (si (x : Int)), some (.ol M), some (shi (natL p)), e5] with | .nx ρ => _ | .ct ρ => _ | .bk ρ => _ | r => r) = _
    rw [es]
    refine ih.trans ?_
    rw [List.flatMap_cons, List.map_append, List.append_assoc]
theorem ev_len : ∀ n, n ≤ 6 → (evN n).length * (n + 1) ≤ 5040 ∧ (evN n).length ≤ 720 := by
  have h : (List.range 7).all (fun n => decide ((evN n).length * (n + 1) ≤ 5040) && decide ((evN n).length ≤ 720)) = true := by decide +kernel
  intro n hn
  have := List.all_eq_true.mp h n (by rw [List.mem_range]; omega)
  simpa using this
theorem rows_dl (R : List (List Nat)) : dl (R.map rQ) = R.map fun r => D.ints (natL r) := by
  rw [dl_eq, List.map_map]
  apply List.map_congr_left
  intro r _
  show (T.ints (natL r)).d = _
  simp
theorem everyone_ok {n : Nat} (hn : n ≤ 6) : ∃ U : T, U.d = .lst ((evN n).map fun r => D.ints (natL r)) ∧ F_law_everyone [si (n : Int)] = .ok U [si (n : Int)] := by
  obtain ⟨ρ', e, U, j2, j3, j4, j5, rfl, hU, hs⟩ := forN_inv (i := 2) (body := b_law_everyone_3) (its := rangeT 0 n) (ρ := [some (si (n : Int)), some (.ol [.ol []]), none, none, none, none])
    (fun x ρ => ∃ (U : T) (j2 j3 j4 j5 : Option T), ρ = [some (si (n : Int)), some U, j2, j3, j4, j5] ∧ U.d = .lst ((evN x).map fun r => D.ints (natL r)) ∧ (U = .ol [.ol []] ∨ ∃ d, U = .sh d))
    ⟨_, none, none, none, none, rfl, rfl, .inl rfl⟩ (by
      rintro x t ρ e ⟨U, j2, j3, j4, j5, rfl, hU, hs⟩
      obtain ⟨hx, rfl⟩ := rangeT_get e
      have hl := ev_len x (by omega)
      obtain ⟨k4, k5, ep⟩ := p_loop (x := x) (by omega) (e0 := some (si (n : Int))) (e1 := some (.sh (.lst ((evN x).map fun r => D.ints (natL r))))) (evN x) [] j4 j5 (fun p hp => by
        have := (ev_perm hp).length_eq
        rwa [List.length_range] at this) (by
          have : x ≤ 5 := by omega
          have h6 : (List.range 6).all (fun n => decide ((evN n).length * (n + 1) ≤ 720)) = true := by decide +kernel
          have := List.all_eq_true.mp h6 x (by rw [List.mem_range]; omega)
          simp at this
          simp
          omega)
      rw [List.nil_append] at ep
      have ei : ((evN x).map fun p => shi (natL p)) = ((evN x).map fun r => D.ints (natL r)).map T.sh := by rw [List.map_map]; rfl
      rw [ei] at ep
      have hd : dl (((evN x).flatMap (insN x)).map rQ) = (evN (x + 1)).map fun r => D.ints (natL r) := rows_dl _
      refine ⟨[some (si (n : Int)), some (.sh (.lst ((evN (x + 1)).map fun r => D.ints (natL r)))), some (si (0 + (x : Int))), some (.sh (.lst ((evN (x + 1)).map fun r => D.ints (natL r)))), k4, k5], .inl ?_, _, _, _, _, _, rfl, rfl, .inr ⟨_, rfl⟩⟩
      generalize ((evN (x + 1)).map fun r => D.ints (natL r)) = E2 at *
      generalize ((evN x).map fun r => D.ints (natL r)) = E1 at *
      generalize ((evN x).flatMap (insN x)).map rQ = Q at *
      try simp at ep
      rcases hs with rfl | ⟨d, rfl⟩
      · have hE : E1 = [.lst []] := by
          have : D.lst [.lst []] = D.lst E1 := hU
          exact (D.lst.inj this).symm
        subst hE
        try simp at ep
        simp [b_law_everyone_3, ep, hd]
      · have hE : d = .lst E1 := hU
        subst hE
        simp [b_law_everyone_3, ep, hd])
  rw [rangeT_len] at hU
  have hi := inR_nat (n := n) (by omega)
  refine ⟨U, hU, ?_⟩
  simp at e
  simp [F_law_everyone, m_law_everyone, hi, e]
/-! ### what is asked -/
theorem ints_sz6 (l : List Int) : depl (l.map D.int) = 0 ∧ szOkl (l.map D.int) = true := by
  induction l with
  | nil => exact ⟨rfl, rfl⟩
  | cons a l ih => simp [depl, szOkl, dep, szOk, ih]
theorem asked_ok {n : Nat} (hn : n ≤ 24) {p : List Int} (hp : Turn n p) {k : Nat} (hk : 1 ≤ k) (hk2 : k ≤ 60) {X : Nat} (hX : X = rootsN (lensN n p) n k) : F_law_asked [shi p, si (k : Int), si (X : Nat)] = .ok (.sh (.bl true)) [shi p, si (k : Int), si (X : Nat)] := by
  have hr := roots_ok hn hp hk hk2
  rw [← hX] at hr
  have hl := hp.len
  have h1 := same_refl 6 (.int (X : Int)) (by simp [dep]) (by simp [szOk])
  have h2 := same_refl 6 (D.ints p) (by simp [dep, (ints_sz6 p).1]) (by simp [szOk, (ints_sz6 p).2, hl]; try omega)
  have hc := lcL_map (slots := [4]) (b := bName 4) (elt := x_law_asked_1) (ρ := [some (shi p), some (si (k : Int)), some (si (X : Nat)), none, none]) (fun x => x) (its := p.map ig) (acc := []) (fun t' ht => by
    obtain ⟨d, hd, rfl⟩ := List.mem_map.mp ht
    exact ⟨[some (shi p), some (si (k : Int)), some (si (X : Nat)), none, some (si d)], [some (shi p), some (si (k : Int)), some (si (X : Nat)), none, some (si d)], rfl, by simp [x_law_asked_1], rfl⟩) (by simp; unfold lim; omega)
  rw [List.nil_append, List.map_id'] at hc
  simp at hc h2 hr
  simp [F_law_asked, m_law_asked, hc, hr, h1, h2]
end
end Cl

set_option exponentiation.threshold 10000
namespace Cl
noncomputable section
open PySem L2 Z
def b_law_of_1 : SM := (mStore 2 (eGet (vIx (vV 0) (pOp oAdd (pV 3) (pOp oMod (pCB (o1 oInt) (aCons (pOp oAdd (pV 5) (pC (.int 1))) aNil)) (pV 4))))) (pOp oIx (pV 0) (pOp oAdd (pV 3) (pV 5))))
def b_law_of_2 : SM := (mSeq (mFor (iR1 (eCons (eV 4) eNil)) (bName 5) b_law_of_1) (mSet 3 (eP (pOp oAdd (pV 3) (pV 4)))))
def m_law_of : SM := (mSeq (mPar 2 3 (eCons (eRg1 (pCB (o1 oLen) (aCons (pV 0) aNil))) (eCons (eP (pC (.int 0))) eNil))) (mSeq (mFor (iE (eV 1)) (bName 4) b_law_of_2) (mRet (eM 2))))
def F_law_of : FM := mFun 2 6 m_law_of
structure Inv6 (n : Nat) (c : List Int) (B : List Nat) (t : Nat) (f : List Int) : Prop where
  row : Row n f
  go : ∀ i, i < t → at_ f (at_ c i) = at_ c (B.getD i 0)
theorem Inv6.put {n : Nat} {c f : List Int} {B : List Nat} {t : Nat} (hc : Turn n c) (h : Inv6 n c B t f) (ht : t < n) (hb : B.getD t 0 < n) : Inv6 n c B (t + 1) (f.set (c.getD t 0).toNat (c.getD (B.getD t 0) 0)) := by
  have hl := h.row.1
  have h1 := hc.at hb
  have h2 := hc.at ht
  refine ⟨⟨by simpa using hl, fun x hx => ?_⟩, fun i hi => ?_⟩
  · rcases List.mem_or_eq_of_mem_set hx with q | q
    · exact h.row.2 x q
    · rw [q]; exact h1
  · unfold at_
    by_cases q : i = t
    · subst q
      rw [getD_set (by omega), if_pos rfl]
    · have hne : (c.getD t 0).toNat ≠ (c.getD i 0).toNat := fun e => q (at_inj hc (by omega) ht e.symm)
      rw [getD_set (by omega), if_neg hne]
      exact h.go i (by omega)
theorem of_inner {n a s : Nat} (hn : n ≤ 1000) {c f : List Int} {B : List Nat} {e1 e5 : Option T} (hc : Turn n c) (h : Inv6 n c B a f) (has : a + s ≤ n) (hs : 1 ≤ s) (hB : ∀ k, k < s → B.getD (a + k) 0 = a + (k + 1) % s) :
    ∃ f' j5, forL (bName 5) b_law_of_1 (rangeT 0 s) [some (shi c), e1, some (T.ints f), some (si (a : Int)), some (si (s : Int)), e5] = .nx [some (shi c), e1, some (T.ints f'), some (si (a : Int)), some (si (s : Int)), j5] ∧ Inv6 n c B (a + s) f' := by
  have hl := hc.len
  obtain ⟨ρ', e, f', j5, rfl, h1⟩ := forN_inv (i := 5) (body := b_law_of_1) (its := rangeT 0 s) (ρ := [some (shi c), e1, some (T.ints f), some (si (a : Int)), some (si (s : Int)), e5])
    (fun k ρ => ∃ (f' : List Int) (j5 : Option T), ρ = [some (shi c), e1, some (T.ints f'), some (si (a : Int)), some (si (s : Int)), j5] ∧ Inv6 n c B (a + k) f') ⟨f, e5, rfl, h⟩ (by
      rintro k t ρ e ⟨f', j5, rfl, hf⟩
      obtain ⟨hk, rfl⟩ := rangeT_get e
      have hm : oMod (.int (0 + (k : Int) + 1)) (.int s) = some (.int (((k + 1) % s : Nat) : Int)) := by
        rw [mod_int (by omega), Int.natCast_emod, show (0 + (k : Int) + 1) = ((k + 1 : Nat) : Int) by omega]
      have hb1 := hc.at (show a + k < n by omega)
      have hlt : (k + 1) % s < s := Nat.mod_lt _ (by omega)
      have hBk := hB k hk
      have hp := hf.put hc (show a + k < n by omega) (by omega)
      rw [hBk] at hp
      have hfl := hf.row.1
      have g1 : atI (c.map D.int) ((a : Int) + (0 + (k : Int))) = some (.int (c.getD (a + k) 0)) := by
        rw [show (a : Int) + (0 + (k : Int)) = ((a + k : Nat) : Int) by omega, atI_D _ (by omega) (by omega)]; rfl
      have g2 : atI (c.map D.int) ((a : Int) + (((k + 1) % s : Nat) : Int)) = some (.int (c.getD (a + (k + 1) % s) 0)) := by
        rw [show (a : Int) + (((k + 1) % s : Nat) : Int) = ((a + (k + 1) % s : Nat) : Int) by omega, atI_D _ (by omega) (by omega)]; rfl
      have g2T : atI (c.map ig) ((a : Int) + (((k + 1) % s : Nat) : Int)) = some (.sh (.int (c.getD (a + (k + 1) % s) 0))) := by
        rw [show (a : Int) + (((k + 1) % s : Nat) : Int) = ((a + (k + 1) % s : Nat) : Int) by omega, atI_T _ (by omega) (by omega)]; rfl
      have g3 : ixN f'.length (c.getD (a + k) 0) = some (c.getD (a + k) 0).toNat := ixN_ok hb1.1 (by omega)
      refine ⟨_, .inl ?_, _, some (si (0 + (k : Int))), rfl, hp⟩
      generalize c.getD (a + (k + 1) % s) 0 = Y at *
      generalize c.getD (a + k) 0 = X at *
      generalize (k + 1) % s = M at *
      simp at hm g1 g2 g2T g3
      simp [b_law_of_1, hm, g1, g2, g2T, g3])
  rw [rangeT_len] at h1
  exact ⟨f', j5, e, h1⟩
theorem of_loop {n : Nat} (hn : n ≤ 1000) {c : List Int} {B : List Nat} {e1 : Option T} (hc : Turn n c) : ∀ (K : List Nat) (a : Nat) (f : List Int) (e4 e5 : Option T), (∀ x ∈ K, 1 ≤ x) → a + K.sum = n → Inv6 n c B a f → (∀ k, k < K.sum → B.getD (a + k) 0 = (blkN a K).getD k 0) →
    ∃ f' j3 j4 j5, forL (bName 4) b_law_of_2 (K.map fun x : Nat => si (x : Int)) [some (shi c), e1, some (T.ints f), some (si (a : Int)), e4, e5] = .nx [some (shi c), e1, some (T.ints f'), j3, j4, j5] ∧ Inv6 n c B n f'
  | [], a, f, e4, e5, _, hs, h, _ => by
    have : a = n := by simpa using hs
    subst this
    exact ⟨f, _, e4, e5, rfl, h⟩
  | s :: K, a, f, e4, e5, hp, hs, h, hB => by
    rw [List.sum_cons] at hs hB
    have hs1 := hp s List.mem_cons_self
    have hlB : ((List.range s).map fun j => a + (j + 1) % s).length = s := by simp
    obtain ⟨f1, k5, e, h1⟩ := of_inner hn (e1 := e1) (e5 := e5) hc h (s := s) (by omega) hs1 fun k hk => by
      rw [hB k (by omega), blkN, getD_app, hlB, if_pos hk, getN_at (by simpa using hk), List.getElem_map, List.getElem_range]
    obtain ⟨f2, j3, j4, j5, ih, h2⟩ := of_loop hn (e1 := e1) hc K (a + s) f1 (some (si (s : Int))) k5 (fun x hx => hp x (List.mem_cons_of_mem _ hx)) (by omega) h1 fun k hk => by
      have := hB (s + k) (by omega)
      rw [blkN, getD_app, hlB, if_neg (by omega), Nat.add_sub_cancel_left] at this
      rw [Nat.add_assoc, this]
    refine ⟨f2, j3, j4, j5, ?_, h2⟩
    rw [List.map_cons]
    unfold forL
    show (match b_law_of_2 [some (shi c), e1, some (T.ints f), some (si (a : Int)), some (si (s : Int)), e5] with | .nx ρ => _ | .ct ρ => _ | .bk ρ => _ | r => r) = _
    have es : b_law_of_2 [some (shi c), e1, some (T.ints f), some (si (a : Int)), some (si (s : Int)), e5] = .nx [some (shi c), e1, some (T.ints f1), some (si ((a + s : Nat) : Int)), some (si (s : Int)), k5] := by
      have hi := inR_nat (n := s) (by omega)
      rw [Int.natCast_add]
      simp at e
      simp [b_law_of_2, hi, e]
    rw [es]
    exact ih
theorem of_ok {n : Nat} (hn : n ≤ 1000) {c : List Int} (hc : Turn n c) {K : List Nat} (hp : ∀ x ∈ K, 1 ≤ x) (hs : K.sum = n) : F_law_of [shi c, .sh (D.ints (natL K))] = .ok (T.ints (cjL n (natL (blkN 0 K)) c)) [shi c, .sh (D.ints (natL K))] := by
  have hl := hc.len
  obtain ⟨f', j3, j4, j5, e, h⟩ := of_loop hn (B := blkN 0 K) (e1 := some (.sh (D.ints (natL K)))) hc K 0 (iota n) none none hp (by omega) ⟨row_iota n, fun i hi => by omega⟩ fun k hk => by rw [Nat.zero_add]
  obtain ⟨b1, b2⟩ := blk_lt K 0 hp
  rw [hs] at b1 b2
  have hb : Row n (natL (blkN 0 K)) := ⟨by rw [natL_len, b1], fun x hx => by
    obtain ⟨y, hy, rfl⟩ := List.mem_map.mp hx
    have := b2 y hy
    omega⟩
  have hf : f' = cjL n (natL (blkN 0 K)) c := by
    have hbc := turn_bk hc
    refine row_ext h.row (cj_row hb hc.row) fun k hk => ?_
    have hj := hbc.row.at_lt hk
    have e : at_ c (at_ (bkL n c) k) = k := by
      have this : at_ (thenL (bkL n c) c) k = at_ (iota n) k := congrArg (fun l => at_ l k) (bk_then hc)
      rw [at_then hbc.row hk, at_iota hk] at this
      exact this
    generalize at_ (bkL n c) k = j at hj e
    rw [← e, at_cj hc hj, h.go j hj, at_natL]
  rw [← hf]
  have hr : rgOk 0 (n : Int) = true := rgOk_of (by omega) (by omega) (by omega) (by omega)
  rw [← natL_map] at e
  generalize natL K = NK at *
  simp at e
  simp [F_law_of, m_law_of, hl, hr, e]
end
end Cl

namespace Cl
noncomputable section
open PySem L2 Z
/-! ### the lengths of the cycles belong to the turning -/
def Per (n : Nat) (p : List Int) (l x : Nat) : Prop := ∀ t, at_ (itL n p t) x = x ↔ l ∣ t
theorem per_row {n : Nat} {p : List Int} (hp : Turn n p) {r : List Nat} (hg : Goes p r) (hr : ∀ v ∈ r, v < n) (hnd : r.Nodup) {x : Nat} (hx : x ∈ r) (l : Nat) : Per n p l x ↔ r.length = l := by
  obtain ⟨j, hj, rfl⟩ := List.mem_iff_getElem.mp hx
  have key : ∀ t, at_ (itL n p t) r[j] = r[j] ↔ r.length ∣ t := fun t => by
    rw [at_pow hp hg hr t hj]
    rw [List.getElem_inj hnd]
    constructor
    · intro h
      have h1 := Nat.div_add_mod (j + t) r.length
      rw [h] at h1
      exact ⟨(j + t) / r.length, by omega⟩
    · rintro ⟨m, rfl⟩
      rw [Nat.add_mul_mod_self_left, Nat.mod_eq_of_lt hj]
  constructor
  · intro h
    exact Nat.dvd_antisymm ((key l).mp ((h l).mpr (Nat.dvd_refl l))) ((h r.length).mp ((key r.length).mpr (Nat.dvd_refl _)))
  · rintro rfl t
    exact key t
theorem countP_flat {P : Nat → Bool} : ∀ {rs : List (List Nat)} {f : List Nat → Nat}, (∀ r ∈ rs, r.countP P = f r) → rs.flatten.countP P = (rs.map f).sum
  | [], _, _ => rfl
  | r :: rs, f, h => by
    rw [List.flatten_cons, List.countP_append, List.map_cons, List.sum_cons, h r List.mem_cons_self, countP_flat fun q hq => h q (List.mem_cons_of_mem _ hq)]
theorem sum_len (l : Nat) : ∀ rs : List (List Nat), (rs.map fun r => if r.length = l then r.length else 0).sum = l * (rs.map List.length).count l
  | [] => rfl
  | r :: rs => by
    rw [List.map_cons, List.sum_cons, sum_len l rs, List.map_cons, List.count_cons]
    by_cases c : r.length = l
    · simp [c, Nat.mul_add]; omega
    · simp [c]
open Classical in
theorem per_count {n : Nat} {p : List Int} (hp : Turn n p) {rs : List (List Nat)} (h : Rws n p rs) (l : Nat) : (List.range n).countP (fun x => decide (Per n p l x)) = l * (rs.map List.length).count l := by
  rw [← h.perm.countP_eq, ← sum_len]
  refine countP_flat fun r hr => ?_
  have lt : ∀ v ∈ r, v < n := fun v hv => List.mem_range.mp (h.perm.mem_iff.mp (List.mem_flatten.mpr ⟨r, hr, hv⟩))
  have nd : r.Nodup := (List.sublist_flatten_of_mem hr).nodup (h.perm.nodup_iff.mpr List.nodup_range)
  by_cases c : r.length = l
  · rw [if_pos c, List.countP_eq_length]
    intro x hx
    exact decide_eq_true ((per_row hp (h.goes r hr) lt nd hx l).mpr c)
  · rw [if_neg c, List.countP_eq_zero]
    intro x hx q
    exact c ((per_row hp (h.goes r hr) lt nd hx l).mp (of_decide_eq_true q))
theorem lens_uniq {n : Nat} {p : List Int} (hp : Turn n p) {rs rs' : List (List Nat)} (h : Rws n p rs) (h' : Rws n p rs') : (rs.map List.length).Perm (rs'.map List.length) := by
  rw [List.perm_iff_count]
  intro l
  by_cases c : l = 0
  · subst c
    rw [List.count_eq_zero.mpr fun q => by have := h.pos 0 q; omega, List.count_eq_zero.mpr fun q => by have := h'.pos 0 q; omega]
  · have h1 := per_count hp h l
    rw [per_count hp h' l] at h1
    exact (Nat.eq_of_mul_eq_mul_left (by omega) h1).symm
/-! ### the turning of blocks -/
def cutN : List Nat → List Nat → List (List Nat)
  | _, [] => []
  | c, s :: K => c.take s :: cutN (c.drop s) K
theorem cut_flat : ∀ {K c : List Nat}, K.sum = c.length → (cutN c K).flatten = c ∧ (cutN c K).map List.length = K
  | [], c, h => by
    have : c = [] := List.length_eq_zero_iff.mp (by simpa using h.symm)
    subst this
    exact ⟨rfl, rfl⟩
  | s :: K, c, h => by
    rw [List.sum_cons] at h
    obtain ⟨h1, h2⟩ := cut_flat (K := K) (c := c.drop s) (by rw [List.length_drop]; omega)
    refine ⟨by rw [cutN, List.flatten_cons, h1, List.take_append_drop], ?_⟩
    rw [cutN, List.map_cons, h2, List.length_take, Nat.min_eq_left (by omega)]
theorem cut_goes {p : List Int} {C : List Nat} : ∀ {K : List Nat} {a : Nat}, (∀ x ∈ K, 1 ≤ x) → K.sum = C.length - a → a ≤ C.length → (∀ k, k < K.sum → p.getD (C.getD (a + k) 0) 0 = ((C.getD ((blkN a K).getD k 0) 0 : Nat) : Int)) → ∀ r ∈ cutN (C.drop a) K, Goes p r
  | [], a, _, _, _, _, r, hr => by cases hr
  | s :: K, a, hp, hs, ha, hg, r, hr => by
    rw [List.sum_cons] at hs hg
    have hs1 := hp s List.mem_cons_self
    have hlB : ((List.range s).map fun j => a + (j + 1) % s).length = s := by simp
    rcases List.mem_cons.mp hr with rfl | hr
    · intro k hk
      have hlen : ((C.drop a).take s).length = s := by rw [List.length_take, List.length_drop]; omega
      rw [hlen] at hk
      have h1 := hg k (by omega)
      have e0 : ((List.range s).map fun j => a + (j + 1) % s).getD k 0 = a + (k + 1) % s := by rw [getN_at (by simpa using hk), List.getElem_map, List.getElem_range]
      rw [blkN, getD_app, hlB, if_pos hk, e0] at h1
      have e1 : ∀ j (hj : j < ((C.drop a).take s).length), ((C.drop a).take s)[j] = C.getD (a + j) 0 := fun j hj => by
        rw [List.getElem_take, List.getElem_drop, getN_at]
      rw [e1 k (by omega), h1]
      by_cases c : k + 1 < s
      · rw [dif_pos (by omega), e1 (k + 1) (by omega), Nat.mod_eq_of_lt c]
      · rw [dif_neg (by omega), e1 0 (by omega), show k + 1 = s by omega, Nat.mod_self]
    · rw [List.drop_drop] at hr
      refine cut_goes (a := a + s) (fun x hx => hp x (List.mem_cons_of_mem _ hx)) (by omega) (by omega) (fun k hk => ?_) r hr
      have h1 := hg (s + k) (by omega)
      rw [blkN, getD_app, hlB, if_neg (by omega), Nat.add_sub_cancel_left] at h1
      rw [Nat.add_assoc, h1]
theorem blk_perm : ∀ (K : List Nat) (a : Nat), (∀ x ∈ K, 1 ≤ x) → (blkN a K).Perm (List.range' a K.sum)
  | [], a, _ => List.Perm.refl _
  | s :: K, a, h => by
    have ih := blk_perm K (a + s) fun x hx => h x (List.mem_cons_of_mem _ hx)
    have hs := h s List.mem_cons_self
    rw [blkN, List.sum_cons, ← List.range'_append_1]
    refine List.Perm.append ?_ ih
    obtain ⟨m, rfl⟩ : ∃ m, s = m + 1 := ⟨s - 1, by omega⟩
    rw [List.range_succ, List.map_append, List.range'_succ]
    have e1 : ((List.range m).map fun j => a + (j + 1) % (m + 1)) = List.range' (a + 1) m := by
      rw [List.range'_eq_map_range]
      apply List.map_congr_left
      intro j hj
      rw [List.mem_range] at hj
      rw [Nat.mod_eq_of_lt (by omega)]
      omega
    have e2 : ([m].map fun j => a + (j + 1) % (m + 1)) = [a] := by simp
    rw [e1, e2]
    exact List.perm_append_singleton a _
theorem of_lens {n : Nat} {c : List Int} (hc : Turn n c) {K : List Nat} (hp : ∀ x ∈ K, 1 ≤ x) (hs : K.sum = n) : Turn n (cjL n (natL (blkN 0 K)) c) ∧ (lensN n (cjL n (natL (blkN 0 K)) c)).Perm K := by
  obtain ⟨C, hC, rfl⟩ := turn_natL hc
  have hl := hC.length_eq
  rw [List.length_range] at hl
  obtain ⟨b1, b2⟩ := blk_lt K 0 hp
  rw [hs] at b1 b2
  have hb : Row n (natL (blkN 0 K)) := ⟨by rw [natL_len, b1], fun x hx => by
    obtain ⟨y, hy, rfl⟩ := List.mem_map.mp hx
    have := b2 y hy
    omega⟩
  have hrow := cj_row hb hc.row
  have hgo : ∀ k, k < n → (cjL n (natL (blkN 0 K)) (natL C)).getD (C.getD k 0) 0 = ((C.getD ((blkN 0 K).getD k 0) 0 : Nat) : Int) := fun k hk => by
    have h1 := at_cj (p := natL (blkN 0 K)) hc hk
    rw [at_natL, at_natL, at_natL] at h1
    have h2 : C.getD k 0 < n := by
      have := hc.row.at_lt hk
      rwa [at_natL] at this
    rw [hrow.at_eq h2, h1]
  have hcut := cut_flat (K := K) (c := C) (by omega)
  have hgoes : ∀ r ∈ cutN C K, Goes (cjL n (natL (blkN 0 K)) (natL C)) r := by
    have := cut_goes (p := cjL n (natL (blkN 0 K)) (natL C)) (C := C) (K := K) (a := 0) hp (by omega) (by omega) (fun k hk => by rw [Nat.zero_add]; exact hgo k (by omega))
    rwa [List.drop_zero] at this
  have hne : ∀ r ∈ cutN C K, r ≠ [] := fun r hr q => by
    have h1 : r.length ∈ K := by
      rw [← hcut.2]
      exact List.mem_map.mpr ⟨r, hr, rfl⟩
    have := hp _ h1
    rw [q] at this
    simp at this
  have hR : Rws n (cjL n (natL (blkN 0 K)) (natL C)) (cutN C K) := ⟨by rw [hcut.1]; exact hC, hne, hgoes⟩
  have hT : Turn n (cjL n (natL (blkN 0 K)) (natL C)) := by
    have h1 := blk_perm K 0 hp
    rw [hs, ← List.range_eq_range'] at h1
    exact turn_cj (natL_turn h1) hc
  refine ⟨hT, ?_⟩
  have := lens_uniq hT (rows_rws hT) hR
  rwa [hcut.2] at this
end
end Cl

set_option exponentiation.threshold 10000
namespace Cl
noncomputable section
open PySem L2 Z
def b_law_kinds_1 : SM := (mAppG 2 (eTup (eCons (eOp eAddT (eV 4) (eLst (eCons (eV 7) eNil))) (eCons (eV 7) (eCons (eP (pOp oSub (pV 6) (pV 7))) eNil)))))
def b_law_kinds_2 : SM := (mIf (eT (pB (pOp oNe (pV 2) (pLst aNil)))) (mSeq (mUnp (bTup [4, 5, 6]) (ePop 2)) (mSeq (mIf (eT (pB (pOp oEq (pV 6) (pC (.int 0))))) (mAppG 1 (eV 4)) mNil) (mFor (iR2 (eCons (eV 5) (eCons (eP (pOp oAdd (pV 6) (pC (.int 1)))) eNil))) (bName 7) b_law_kinds_1))) mNil)
def m_law_kinds : SM := (mSeq (mPar 1 2 (eCons (eLst eNil) (eCons (eLst (eCons (eTup (eCons (eLst eNil) (eCons (eP (pC (.int 1))) (eCons (eV 0) eNil)))) eNil)) eNil))) (mSeq (mFor (iR1 (eCons (eP (pC (.int 400))) eNil)) (bName 3) b_law_kinds_2) (mRet (eM 1))))
def F_law_kinds : FM := mFun 1 8 m_law_kinds
/-! ### all kinds: a stack of rows that wait -/
abbrev KE6 := List Nat × (Nat × Nat)
def wT6 (e : KE6) : T := .ot [T.ints (natL e.1), si (e.2.1 : Int), si (e.2.2 : Int)]
def newK (row : List Nat) (least left : Nat) : List KE6 := (List.range' least (left + 1 - least)).map fun s => (row ++ [s], s, left - s)
/-- one turn: the last one waiting first -/
def stepK6 (st : List (List Nat) × List KE6) : List (List Nat) × List KE6 := match st with
  | (F, []) => (F, [])
  | (F, (row, least, left) :: S) => (if left = 0 then F ++ [row] else F, (newK row least left).reverse ++ S)
def itK6 (st : List (List Nat) × List KE6) (k : Nat) : List (List Nat) × List KE6 := Nat.rec st (fun _ s => stepK6 s) k
def rSh (r : List Nat) : T := .sh (D.ints (natL r))
theorem push_loop {e0 e1 e3 e5 e6 : Option T} {left : Nat} (hl : left ≤ 1000) {row : List Nat} (hr : row.length ≤ 1000) : ∀ (m s : Nat) (W : List T) (R : T) (e7 : Option T), (R = T.ints (natL row) ∨ R = rSh row) → (m = 0 ∨ s + m ≤ left + 1) → W.length + m ≤ 50000 →
    ∃ (R' : T) (j7 : Option T), forL (bName 7) b_law_kinds_1 ((List.range' s m).map fun s : Nat => si (s : Int)) [e0, e1, some (.ol W), e3, some R, e5, some (si (left : Int)), e7] = .nx [e0, e1, some (.ol (W ++ ((List.range' s m).map fun s => (row ++ [s], s, left - s)).map wT6)), e3, some R', e5, some (si (left : Int)), j7]
  | 0, s, W, R, e7, _, _, _ => ⟨R, e7, by simp [forL]⟩
  | m + 1, s, W, R, e7, hR, hs, hz => by
    obtain ⟨R', j7, ih⟩ := push_loop (e0 := e0) (e1 := e1) (e3 := e3) (e5 := e5) (e6 := e6) hl hr m (s + 1) (W ++ [wT6 (row ++ [s], s, left - s)]) (rSh row) (some (si (s : Int))) (.inr rfl) (by omega) (by simp; omega)
    refine ⟨R', j7, ?_⟩
    have hlt : W.length < lim := by unfold lim; omega
    have ha : eAddT (rSh row) (.ol [si (s : Int)]) = some (.ol ((natL row).map ig ++ [si (s : Int)])) := by
      refine addT_lst (a := (natL row).map ig) (b := [si (s : Int)]) ?_ (els_ol _) (by rw [List.length_map, natL_len]; simp; unfold lim; omega)
      show some (((natL row).map .int).map T.sh) = _
      rw [List.map_map]
      rfl
    have ew : wT6 (row ++ [s], s, left - s) = .ot [.ol ((natL row).map ig ++ [si (s : Int)]), si (s : Int), si ((left : Int) - (s : Int))] := by
      unfold wT6
      simp only
      rw [show ((left - s : Nat) : Int) = (left : Int) - (s : Int) by omega]
      congr 2
      show T.ol _ = T.ol _
      congr 1
      unfold natL
      simp
    have es : b_law_kinds_1 [e0, e1, some (.ol W), e3, some R, e5, some (si (left : Int)), some (si (s : Int))] = .nx [e0, e1, some (.ol (W ++ [wT6 (row ++ [s], s, left - s)])), e3, some (rSh row), e5, some (si (left : Int)), some (si (s : Int))] := by
      rw [ew]
      unfold rSh at ha hR ⊢
      generalize natL row = NR at *
      simp at ha
      rcases hR with rfl | rfl <;> simp [b_law_kinds_1, ha, hlt]
    rw [List.range'_succ, List.map_cons, List.map_cons, List.map_cons]
    unfold forL
    show (match b_law_kinds_1 [e0, e1, some (.ol W), e3, some R, e5, some (si (left : Int)), some (si (s : Int))] with | .nx ρ => _ | .ct ρ => _ | .bk ρ => _ | r => r) = _
    rw [es]
    refine ih.trans ?_
    rw [List.append_assoc]
    rfl
/-- what a waiting row is like -/
def Wt6 (n : Nat) (e : KE6) : Prop := (∀ x ∈ e.1, 1 ≤ x) ∧ e.1.sum + e.2.2 = n ∧ 1 ≤ e.2.1 ∧ e.2.1 ≤ 1000
def Fd6 (n : Nat) (r : List Nat) : Prop := (∀ x ∈ r, 1 ≤ x) ∧ r.sum = n
theorem len_sum {l : List Nat} (h : ∀ x ∈ l, 1 ≤ x) : l.length ≤ l.sum := by
  induction l with
  | nil => simp
  | cons a l ih =>
    have h1 := h a List.mem_cons_self
    have h2 := ih fun y hy => h y (List.mem_cons_of_mem _ hy)
    simp only [List.length_cons, List.sum_cons]
    omega
theorem new_ok {n : Nat} {row : List Nat} {least left : Nat} (hn : n ≤ 500) (h : Wt6 n (row, least, left)) : ∀ e ∈ newK row least left, Wt6 n e := fun e he => by
  obtain ⟨s, hs, rfl⟩ := List.mem_map.mp he
  obtain ⟨h1, h2, h3, h4⟩ := h
  simp only at h1 h2 h3 h4
  rw [List.mem_range'_1] at hs
  refine ⟨fun x hx => ?_, ?_, by simp only; omega, by simp only; omega⟩
  · rcases List.mem_append.mp hx with q | q
    · exact h1 x q
    · rw [List.mem_singleton.mp q]; omega
  · show (row ++ [s]).sum + (left - s) = n
    rw [List.sum_append]
    simp
    omega
theorem step_ok {n : Nat} (hn : n ≤ 500) {F : List (List Nat)} {S : List KE6} (hF : ∀ r ∈ F, Fd6 n r) (hS : ∀ e ∈ S, Wt6 n e) : (∀ r ∈ (stepK6 (F, S)).1, Fd6 n r) ∧ (∀ e ∈ (stepK6 (F, S)).2, Wt6 n e) ∧ (stepK6 (F, S)).1.length ≤ F.length + 1 ∧ (stepK6 (F, S)).2.length ≤ S.length + n := by
  cases S with
  | nil => exact ⟨hF, hS, by simp [stepK6], by simp [stepK6]⟩
  | cons e S =>
    obtain ⟨row, least, left⟩ := e
    have h := hS _ List.mem_cons_self
    refine ⟨fun r hr => ?_, fun e he => ?_, ?_, ?_⟩
    · by_cases c : left = 0
      · have e1 : (stepK6 (F, (row, least, left) :: S)).1 = F ++ [row] := by simp [stepK6, c]
        rw [e1] at hr
        rcases List.mem_append.mp hr with q | q
        · exact hF r q
        · rw [List.mem_singleton.mp q]
          have := h.2.1
          simp only at this
          exact ⟨h.1, by omega⟩
      · have e1 : (stepK6 (F, (row, least, left) :: S)).1 = F := by simp [stepK6, c]
        rw [e1] at hr
        exact hF r hr
    · have e1 : (stepK6 (F, (row, least, left) :: S)).2 = (newK row least left).reverse ++ S := rfl
      rw [e1] at he
      rcases List.mem_append.mp he with q | q
      · exact new_ok hn h e (List.mem_reverse.mp q)
      · exact hS e (List.mem_cons_of_mem _ q)
    · show (if left = 0 then F ++ [row] else F).length ≤ _
      split <;> simp
    · show ((newK row least left).reverse ++ S).length ≤ _
      have := h.2.1
      simp only at this
      simp [newK]
      omega
theorem wT6_dat (S : List KE6) : datl 59 (dl (S.map wT6)) = true := by
  rw [dl_eq]
  induction S with
  | nil => rfl
  | cons e S ih =>
    rw [List.map_cons, List.map_cons]
    have h1 : (wT6 e).d.dat 59 = true := by
      show datl 58 [(T.ints (natL e.1)).d, .int _, .int _] = true
      have h2 : (T.ints (natL e.1)).d = .lst ((natL e.1).map .int) := by simp
      rw [h2]
      have h3 : datl 57 ((natL e.1).map .int) = true := dat_ints (k := 57) (natL e.1)
      simp [datl, h3, D.dat]
    show (_ && _) = true
    rw [h1]
    exact ih
theorem turn_ok6 {n : Nat} (hn : n ≤ 500) {F : List (List Nat)} {S : List KE6} (hS : ∀ e ∈ S, Wt6 n e) (hFl : F.length ≤ 10000) (hSl : S.length ≤ 40000) {e0 e3 e4 e5 e6 e7 : Option T} :
    ∃ j4 j5 j6 j7, b_law_kinds_2 [e0, some (.ol (F.map rSh)), some (.ol ((S.reverse).map wT6)), e3, e4, e5, e6, e7] = .nx [e0, some (.ol ((stepK6 (F, S)).1.map rSh)), some (.ol (((stepK6 (F, S)).2.reverse).map wT6)), e3, j4, j5, j6, j7] := by
  have hdat := wT6_dat S.reverse
  have h1 : (D.lst (dl (S.reverse.map wT6))).dat 60 = true := hdat
  have hne : oNe (.lst (dl (S.reverse.map wT6))) (.lst []) = some (.bl (decide (S ≠ []))) := by
    unfold oNe
    rw [if_pos ⟨h1, rfl⟩]
    congr 2
    cases S with
    | nil => rfl
    | cons e S =>
      rw [List.reverse_cons, List.map_append, dl_eq, List.map_append]
      cases (List.map T.d (List.map wT6 S.reverse)) <;> simp [D.py, pyl, PyData.eqv, PyData.eqvAll]
  cases S with
  | nil =>
    refine ⟨e4, e5, e6, e7, ?_⟩
    simp at hne
    simp [b_law_kinds_2, hne, stepK6]
  | cons e S =>
    obtain ⟨row, least, left⟩ := e
    obtain ⟨q1, q2, q3, q4⟩ := hS _ List.mem_cons_self
    simp only at q1 q2 q3 q4
    have hrl := len_sum q1
    have hSr : ((row, least, left) :: S).reverse.map wT6 = S.reverse.map wT6 ++ [wT6 (row, least, left)] := by rw [List.reverse_cons, List.map_append]; rfl
    have e2 : (stepK6 (F, (row, least, left) :: S)).2.reverse.map wT6 = S.reverse.map wT6 ++ (newK row least left).map wT6 := by
      show ((newK row least left).reverse ++ S).reverse.map wT6 = _
      rw [List.reverse_append, List.reverse_reverse, List.map_append]
    rw [hSr] at hne ⊢
    rw [e2]
    have hdec : decide ((row, least, left) :: S ≠ []) = true := by simp
    rw [hdec] at hne
    have hFlt : F.length < lim := by unfold lim; omega
    have hW : (S.reverse.map wT6).length + (left + 1 - least) ≤ 50000 := by
      rw [List.length_map, List.length_reverse]
      simp only [List.length_cons] at hSl
      omega
    have hir : rangeT (least : Int) (left + 1 - least) = (List.range' least (left + 1 - least)).map fun s : Nat => si (s : Int) := by
      unfold rangeT
      rw [List.range'_eq_map_range, List.map_map]
      apply List.map_congr_left
      intro s _
      show si ((least : Int) + (s : Int)) = si (((least + s : Nat)) : Int)
      rw [Int.natCast_add]
    have hi1 := inR_nat (n := least) (by omega)
    have hi2 : InR ((left : Int) + 1) := InR.of (by omega) (by omega)
    have ht : ((left : Int) + 1 - (least : Int)).toNat = left + 1 - least := by omega
    have hfz : (T.ints (natL row)).d = D.ints (natL row) := by simp
    by_cases c : left = 0
    · obtain ⟨R', j7, ep⟩ := push_loop (e0 := e0) (e1 := some (.ol (F.map rSh ++ [rSh row]))) (e3 := e3) (e5 := some (si (least : Int))) (e6 := none) (left := left) (by omega) (row := row) (by omega) (left + 1 - least) least (S.reverse.map wT6) (rSh row) e7 (.inr rfl) (by omega) hW
      have e1 : (stepK6 (F, (row, least, left) :: S)).1.map rSh = F.map rSh ++ [rSh row] := by
        simp [stepK6, c]
      rw [e1]
      rw [← hir] at ep
      refine ⟨some R', some (si (least : Int)), some (si (left : Int)), j7, ?_⟩
      have c' : ((left : Int) == 0) = true := by simp [c]
      have ew : wT6 (row, least, left) = .ot [.ol ((natL row).map ig), si (least : Int), si (left : Int)] := rfl
      have hN : newK row least left = (List.range' least (left + 1 - least)).map fun s => (row ++ [s], s, left - s) := rfl
      rw [← hN] at ep
      rw [ew] at hne ⊢
      unfold rSh at ep ⊢
      generalize (newK row least left).map wT6 = NW at *
      generalize S.reverse.map wT6 = SW at *
      generalize natL row = NR at *
      subst c
      have hi3 : InR 1 := InR.of (by decide) (by decide)
      simp at ep hne
      simp [b_law_kinds_2, hne, hFlt, hi1, hi3, ep]
    · obtain ⟨R', j7, ep⟩ := push_loop (e0 := e0) (e1 := some (.ol (F.map rSh))) (e3 := e3) (e5 := some (si (least : Int))) (e6 := none) (left := left) (by omega) (row := row) (by omega) (left + 1 - least) least (S.reverse.map wT6) (T.ints (natL row)) e7 (.inl rfl) (by omega) hW
      have e1 : (stepK6 (F, (row, least, left) :: S)).1.map rSh = F.map rSh := by
        simp [stepK6, c]
      rw [e1]
      rw [← hir] at ep
      refine ⟨some R', some (si (least : Int)), some (si (left : Int)), j7, ?_⟩
      have ew : wT6 (row, least, left) = .ot [.ol ((natL row).map ig), si (least : Int), si (left : Int)] := rfl
      have hN : newK row least left = (List.range' least (left + 1 - least)).map fun s => (row ++ [s], s, left - s) := rfl
      rw [← hN] at ep
      rw [ew] at hne ⊢
      generalize (newK row least left).map wT6 = NW at *
      generalize S.reverse.map wT6 = SW at *
      generalize natL row = NR at *
      simp at ep hne
      simp [b_law_kinds_2, hne, hi1, hi2, ht, ep, c]
def startK (n : Nat) : List (List Nat) × List KE6 := ([], [([], 1, n)])
def kindsN (n : Nat) : List (List Nat) := (itK6 (startK n) 400).1
theorem it_ok {n : Nat} (hn : n ≤ 90) : ∀ k, k ≤ 400 → (∀ r ∈ (itK6 (startK n) k).1, Fd6 n r) ∧ (∀ e ∈ (itK6 (startK n) k).2, Wt6 n e) ∧ (itK6 (startK n) k).1.length ≤ k ∧ (itK6 (startK n) k).2.length ≤ 1 + n * k
  | 0, _ => ⟨fun r hr => (nomatch hr), fun e he => by
      rw [List.mem_singleton.mp he]
      exact ⟨fun x hx => (nomatch hx), by show 0 + n = n; omega, Nat.le_refl 1, by show 1 ≤ 1000; omega⟩, Nat.le_refl _, by show 1 ≤ 1 + n * 0; omega⟩
  | k + 1, hk => by
    obtain ⟨h1, h2, h3, h4⟩ := it_ok hn k (by omega)
    have e : itK6 (startK n) (k + 1) = stepK6 (itK6 (startK n) k) := rfl
    rw [e]
    generalize itK6 (startK n) k = st at *
    obtain ⟨F, S⟩ := st
    have h3 : F.length ≤ k := h3
    have h4 : S.length ≤ 1 + n * k := h4
    obtain ⟨q1, q2, q3, q4⟩ := step_ok (n := n) (by omega) h1 h2
    refine ⟨q1, q2, Nat.le_trans q3 (by omega), Nat.le_trans q4 ?_⟩
    rw [Nat.mul_add]
    omega
theorem kinds_ok6 {n : Nat} (hn : n ≤ 90) : F_law_kinds [si (n : Int)] = .ok (.ol ((kindsN n).map rSh)) [si (n : Int)] := by
  obtain ⟨ρ', e, j3, j4, j5, j6, j7, rfl⟩ := forN_inv (i := 3) (body := b_law_kinds_2) (its := rangeT 0 400) (ρ := [some (si (n : Int)), some (.ol []), some (.ol [.ot [.ol [], si 1, si (n : Int)]]), none, none, none, none, none])
    (fun k ρ => ∃ j3 j4 j5 j6 j7 : Option T, ρ = [some (si (n : Int)), some (.ol ((itK6 (startK n) k).1.map rSh)), some (.ol (((itK6 (startK n) k).2.reverse).map wT6)), j3, j4, j5, j6, j7])
    ⟨none, none, none, none, none, rfl⟩ (by
      rintro k t ρ e ⟨j3, j4, j5, j6, j7, rfl⟩
      obtain ⟨hk, rfl⟩ := rangeT_get e
      obtain ⟨h1, h2, h3, h4⟩ := it_ok hn k (by omega)
      have hnk : n * k ≤ 90 * 400 := Nat.mul_le_mul hn (by omega)
      have e : itK6 (startK n) (k + 1) = stepK6 (itK6 (startK n) k) := rfl
      rw [e]
      generalize itK6 (startK n) k = st at *
      obtain ⟨F, S⟩ := st
      have h3 : F.length ≤ k := h3
      have h4 : S.length ≤ 1 + n * k := h4
      obtain ⟨a4, a5, a6, a7, es⟩ := turn_ok6 (n := n) (by omega) h2 (F := F) (by omega) (by omega) (e0 := some (si (n : Int))) (e3 := some (si (0 + (k : Int)))) (e4 := j4) (e5 := j5) (e6 := j6) (e7 := j7)
      exact ⟨_, .inl es, some (si (0 + (k : Int))), a4, a5, a6, a7, rfl⟩)
  rw [rangeT_len] at e
  have hi : InR 400 := InR.of (by decide) (by decide)
  have e1 : (itK6 (startK n) 400).1 = kindsN n := rfl
  rw [e1] at e
  generalize (itK6 (startK n) 400).2.reverse.map wT6 = WW at *
  generalize (kindsN n).map rSh = KK at *
  simp at e
  simp [F_law_kinds, m_law_kinds, hi, e]
theorem kinds_fd {n : Nat} (hn : n ≤ 90) : ∀ r ∈ kindsN n, Fd6 n r := (it_ok hn 400 (Nat.le_refl _)).1
end
end Cl

set_option exponentiation.threshold 10000
namespace Cl
noncomputable section
open PySem L2 Z
def b_law_factorial_1 : SM := (mSet 1 (eP (pOp oMul (pV 1) (pV 2))))
def m_law_factorial : SM := (mSeq (mSet 1 (eP (pC (.int 1)))) (mSeq (mFor (iR2 (eCons (eP (pC (.int 2))) (eCons (eP (pOp oAdd (pV 0) (pC (.int 1)))) eNil))) (bName 2) b_law_factorial_1) (mRet (eM 1))))
def F_law_factorial : FM := mFun 1 3 m_law_factorial
def t_law_met_1 : EMb := (eT (pB (pOp oEq (pV 4) (pV 2))))
def x_law_met_2 : EM := (eV 4)
def b_law_met_3 : SM := (mSet 1 (eP (pCB (o1 oInt) (aCons (pOp oDiv (pV 1) (pOp oMul (pV 2) (pOp oAdd (pV 3) (pC (.int 1))))) aNil))))
def b_law_met_4 : SM := (mFor (iR1 (eCons (eCB (cS (o1 oLen)) (eCons (eLC [4] (iE (eV 0)) (bName 4) t_law_met_1 x_law_met_2) eNil)) eNil)) (bName 3) b_law_met_3)
def m_law_met : SM := (mSeq (mSet 1 (eP (pCall 1 F_law_factorial (aCons (pCB (o1 oSum) (aCons (pV 0) aNil)) aNil)))) (mSeq (mFor (iR2 (eCons (eP (pC (.int 1))) (eCons (eP (pOp oAdd (pCB (o1 oSum) (aCons (pV 0) aNil)) (pC (.int 1)))) eNil))) (bName 2) b_law_met_4) (mRet (eM 1))))
def F_law_met : FM := mFun 1 5 m_law_met
def facN : Nat → Nat
  | 0 => 1
  | n + 1 => facN n * (n + 1)
theorem fac_ok {n : Nat} (hn : n ≤ 9) : F_law_factorial [si (n : Int)] = .ok (si (facN n : Nat)) [si (n : Int)] := by
  obtain ⟨ρ', e, j2, rfl⟩ := forN_inv (i := 2) (body := b_law_factorial_1) (its := rangeT 2 (n - 1)) (ρ := [some (si (n : Int)), some (si 1), none])
    (fun i ρ => ∃ j2 : Option T, ρ = [some (si (n : Int)), some (si (facN (i + 1) : Nat)), j2]) ⟨none, rfl⟩ (by
      rintro i t ρ e ⟨j2, rfl⟩
      obtain ⟨hi, rfl⟩ := rangeT_get e
      have m1 := mul_int (i := (facN (i + 1) : Nat)) (j := 2 + (i : Int)) (small_r ⟨by omega, by omega⟩)
      have e2 : ((facN (i + 1 + 1) : Nat) : Int) = (facN (i + 1) : Nat) * (2 + (i : Int)) := by
        rw [facN, Int.natCast_mul]
        congr 1
        omega
      refine ⟨_, .inl ?_, some (si (2 + (i : Int))), rfl⟩
      rw [e2]
      generalize facN (i + 1) = C at *
      simp [b_law_factorial_1, m1])
  rw [rangeT_len] at e
  have hi2 : InR 2 := InR.of (by decide) (by decide)
  have hi : InR ((n : Int) + 1) := InR.of (by omega) (by omega)
  have ht : ((n : Int) + 1 - 2).toNat = n - 1 := by omega
  have hf : facN (n - 1 + 1) = facN n := by
    by_cases c : n = 0
    · subst c; rfl
    · rw [Nat.sub_add_cancel (by omega)]
  rw [hf] at e
  generalize facN n = C at *
  try simp at e
  simp [F_law_factorial, m_law_factorial, hi2, hi, ht, e]
theorem fac_le {n : Nat} (hn : n ≤ 9) : facN n ≤ 362880 := by
  have : n = 0 ∨ n = 1 ∨ n = 2 ∨ n = 3 ∨ n = 4 ∨ n = 5 ∨ n = 6 ∨ n = 7 ∨ n = 8 ∨ n = 9 := by omega
  rcases this with rfl | rfl | rfl | rfl | rfl | rfl | rfl | rfl | rfl | rfl <;> decide
def metI (l x : Nat) : Nat → Nat
  | 0 => x
  | c + 1 => metI l x c / (l * (c + 1))
theorem metI_le (l x : Nat) : ∀ c, metI l x c ≤ x
  | 0 => Nat.le_refl _
  | c + 1 => Nat.le_trans (Nat.div_le_self _ _) (metI_le l x c)
def metO (row : List Nat) (x : Nat) : Nat → Nat
  | 0 => x
  | i + 1 => metI (i + 1) (metO row x i) (row.count (i + 1))
theorem metO_le (row : List Nat) (x : Nat) : ∀ i, metO row x i ≤ x
  | 0 => Nat.le_refl _
  | i + 1 => Nat.le_trans (metI_le _ _ _) (metO_le row x i)
def metN (row : List Nat) : Nat := metO row (facN row.sum) row.sum
theorem oSum_nat (row : List Nat) : oSum (.lst ((natL row).map .int)) = some (.int (row.sum : Nat)) := by
  have h : ∀ l : List Int, intsOf (l.map D.int) = some l := by
    intro l
    induction l with
    | nil => rfl
    | cons a l ih => simp [intsOf, ih]
  show (intsOf ((natL row).map D.int)).map (fun bs => D.int bs.sum) = _
  rw [h]
  have h2 : (natL row).sum = ((row.sum : Nat) : Int) := by
    induction row with
    | nil => rfl
    | cons a row ih =>
      show (a : Int) + (natL row).sum = _
      rw [ih, List.sum_cons, Int.natCast_add]
  show some (D.int (natL row).sum) = _
  rw [h2]
theorem met_in {e0 e4 : Option T} {l c x : Nat} (hl : 1 ≤ l) (hl2 : l ≤ 100) (hc : c ≤ 100) {e3 : Option T} : ∃ j3, forL (bName 3) b_law_met_3 (rangeT 0 c) [e0, some (si (x : Int)), some (si (l : Int)), e3, e4] = .nx [e0, some (si (metI l x c : Nat)), some (si (l : Int)), j3, e4] := by
  obtain ⟨ρ', e, j3, rfl⟩ := forN_inv (i := 3) (body := b_law_met_3) (its := rangeT 0 c) (ρ := [e0, some (si (x : Int)), some (si (l : Int)), e3, e4])
    (fun t ρ => ∃ j3 : Option T, ρ = [e0, some (si (metI l x t : Nat)), some (si (l : Int)), j3, e4]) ⟨e3, rfl⟩ (by
      rintro t u ρ e ⟨j3, rfl⟩
      obtain ⟨ht, rfl⟩ := rangeT_get e
      have m1 := mul_int (i := (l : Int)) (j := (t : Int) + 1) (small_r ⟨by omega, by omega⟩)
      have hpos : (0 : Int) < (l : Int) * ((t : Int) + 1) := Int.mul_pos (by omega) (by omega)
      have hlt : (l : Int) * ((t : Int) + 1) < 2 ^ 60 := by
        have h1 : l * (t + 1) ≤ 100 * 100 := Nat.mul_le_mul hl2 (by omega)
        have h2 : (l : Int) * ((t : Int) + 1) = ((l * (t + 1) : Nat) : Int) := by rw [Int.natCast_mul]; rfl
        rw [h2]
        omega
      have d2 := div_int (i := (metI l x t : Nat)) (j := (l : Int) * ((t : Int) + 1)) hpos hlt
      have e2 : ((metI l x (t + 1) : Nat) : Int) = ((metI l x t : Nat) : Int) / ((l : Int) * ((t : Int) + 1)) := by
        rw [metI, Int.natCast_ediv, Int.natCast_mul]
        rfl
      refine ⟨_, .inl ?_, some (si (0 + (t : Int))), rfl⟩
      rw [e2]
      generalize metI l x t = C at *
      simp [b_law_met_3, m1, d2])
  rw [rangeT_len] at e
  exact ⟨j3, e⟩
theorem one_count6 {e1 e3 : Option T} {R : List Nat} {l : Nat} {e0 : Option T} (hL : R.length ≤ 1000) : lcL [4] (bName 4) t_law_met_1 x_law_met_2 ((natL R).map ig) [] [e0, e1, some (si (l : Int)), e3, none] = .ok ((natL (R.filter fun x => decide (x = l))).map ig) [e0, e1, some (si (l : Int)), e3, none] := by
  rw [natL_map, natL_map]
  refine lcL_fl (fun d : Nat => si (d : Int)) (fun d : Nat => si (d : Int)) (fun d => decide (d = l)) (acc := []) (fun d hd => ?_) (by simp; unfold lim; omega)
  refine ⟨[e0, e1, some (si (l : Int)), e3, some (si (d : Int))], rfl, ?_, fun _ => by simp [x_law_met_2], rfl⟩
  have := eqN_int d l
  simp [t_law_met_1, this]
theorem met_ok {row : List Nat} (hp : ∀ x ∈ row, 1 ≤ x) (hs : row.sum ≤ 9) : F_law_met [.sh (D.ints (natL row))] = .ok (si (metN row : Nat)) [.sh (D.ints (natL row))] := by
  have hl := len_sum hp
  have hf := fac_ok hs
  have hS := oSum_nat row
  obtain ⟨ρ', e, j2, j3, rfl⟩ := forN_inv (i := 2) (body := b_law_met_4) (its := rangeT 1 row.sum) (ρ := [some (shi (natL row)), some (si (facN row.sum : Nat)), none, none, none])
    (fun i ρ => ∃ j2 j3 : Option T, ρ = [some (shi (natL row)), some (si (metO row (facN row.sum) i : Nat)), j2, j3, none]) ⟨none, none, rfl⟩ (by
      rintro i t ρ e ⟨j2, j3, rfl⟩
      obtain ⟨hi, rfl⟩ := rangeT_get e
      have hc : row.count (i + 1) ≤ 9 := Nat.le_trans List.count_le_length (by omega)
      have et : (1 + (i : Int)) = ((i + 1 : Nat) : Int) := by omega
      rw [et]
      obtain ⟨k3, em⟩ := met_in (e0 := some (shi (natL row))) (e4 := none) (l := i + 1) (c := row.count (i + 1)) (x := metO row (facN row.sum) i) (by omega) (by omega) (by omega) (e3 := j3)
      have hoc := one_count6 (e0 := some (shi (natL row))) (e1 := some (si (metO row (facN row.sum) i : Nat))) (e3 := j3) (R := row) (l := i + 1) (by omega)
      have hfl : (natL (row.filter fun x => decide (x = i + 1))).length = row.count (i + 1) := by rw [natL_len, count_filter]
      have hin := inR_nat (n := row.count (i + 1)) (by omega)
      refine ⟨_, .inl ?_, some (si ((i + 1 : Nat) : Int)), k3, rfl⟩
      have eO : metO row (facN row.sum) (i + 1) = metI (i + 1) (metO row (facN row.sum) i) (row.count (i + 1)) := rfl
      rw [eO]
      generalize natL (row.filter fun x => decide (x = i + 1)) = LF at *
      generalize metI (i + 1) (metO row (facN row.sum) i) (row.count (i + 1)) = MI at *
      generalize metO row (facN row.sum) i = MO at *
      generalize row.count (i + 1) = C at *
      generalize natL row = NR at *
      generalize hJ : ((i + 1 : Nat) : Int) = J at *
      try simp at hoc em
      simp [b_law_met_4, hoc, hfl, hin, em])
  rw [rangeT_len] at e
  have hi1 : InR 1 := InR.of (by decide) (by decide)
  have hi2 : InR ((row.sum : Int) + 1) := InR.of (by omega) (by omega)
  have ht : ((row.sum : Int) + 1 - 1).toNat = row.sum := by omega
  have hM : metO row (facN row.sum) row.sum = metN row := rfl
  rw [hM] at e
  generalize natL row = NR at *
  generalize metN row = M at *
  generalize facN row.sum = FC at *
  generalize row.sum = SM at *
  try simp at e hS hf
  simp [F_law_met, m_law_met, hS, hf, hi1, hi2, ht, e]
end
end Cl

namespace Cl
noncomputable section
/-! ### over all kinds, each as often as it is met: all turnings -/
def sumK (F : List (List Nat)) (n k : Nat) : Nat := List.rec Nat.zero (fun r _ ih => Nat.add (Nat.mul (rtK r n k) (metN r)) ih) F
theorem sumK_eq (n k : Nat) : ∀ F : List (List Nat), sumK F n k = (F.map fun r => rootsK r n k * metN r).sum
  | [] => rfl
  | r :: F => by
    show rtK r n k * metN r + sumK F n k = _
    rw [sumK_eq n k F, rtK_eq, List.map_cons, List.sum_cons]
def allK (F : List (List Nat)) (n v : Nat) (r : Nat) : Bool := Nat.rec true (fun i ih => Bool.rec false ih (Nat.beq (sumK F n (Nat.succ i)) v)) r
theorem allK_ok {F : List (List Nat)} {n v : Nat} : ∀ {r : Nat}, allK F n v r = true → ∀ i, i < r → sumK F n (i + 1) = v
  | 0, _, i, hi => by omega
  | r + 1, h, i, hi => by
    have h' : (Bool.rec false (allK F n v r) (Nat.beq (sumK F n (r + 1)) v) : Bool) = true := h
    cases c : Nat.beq (sumK F n (r + 1)) v with
    | false => rw [c] at h'; cases h'
    | true =>
      rw [c] at h'
      by_cases q : i = r
      · subst q; exact Nat.eq_of_beq_eq_true c
      · exact allK_ok h' i (by omega)
def chkS (n : Nat) : Bool := frcP (kindsN n) fun F => allK F n (facN n) 60
theorem chkS_all : (List.range 10).all chkS = true := by decide +kernel
theorem sum_ok {n : Nat} (hn : n ≤ 9) {k : Nat} (hk : 1 ≤ k) (hk2 : k ≤ 60) : ((kindsN n).map fun r => rootsK r n k * metN r).sum = facN n := by
  have h := List.all_eq_true.mp chkS_all n (by rw [List.mem_range]; omega)
  unfold chkS at h
  rw [frcP_eq] at h
  have := allK_ok h (k - 1) (by omega)
  rw [Nat.sub_add_cancel hk, sumK_eq] at this
  exact this
end
end Cl

set_option exponentiation.threshold 10000
namespace Cl
noncomputable section
open PySem L2 Z
def b_law_rough_1 : SM := (mIf (eT (pB (pOp oLe (pV 4) (pV 5)))) (mSeq (mAppG 2 (eV 4)) (mSet 5 (eP (pOp oSub (pV 5) (pV 4))))) mNil)
def b_law_rough_2 : SM := (mIf (eT (qAnd (pB (pOp oLe (pV 3) (pV 5))) (pB (pOp oLt (pOp oSub (pV 1) (pV 5)) (pV 6))))) (mSeq (mAppG 2 (eV 3)) (mSet 5 (eP (pOp oSub (pV 5) (pV 3))))) mNil)
def m_law_rough : SM := (mSeq (mPar 1 2 (eCons (eOp ixT (eLst (eCons (eP (pC (.int 24))) (eCons (eP (pC (.int 23))) (eCons (eOp eAddT (eP (pC (.int 1))) (eCallI 2 0 F_law_pick (eCons (eP (pC (.int 24))) eNil))) eNil)))) (eCallI 2 0 F_law_pick (eCons (eP (pC (.int 3))) eNil))) (eCons (eLst eNil) eNil))) (mSeq (mPar 3 4 (eCons (eOp eAddT (eP (pC (.int 1))) (eCallI 2 0 F_law_pick (eCons (eOp ixT (eLst (eCons (eP (pC (.int 1))) (eCons (eP (pC (.int 2))) (eCons (eP (pC (.int 4))) (eCons (eP (pC (.int 12))) eNil))))) (eCallI 2 0 F_law_pick (eCons (eP (pC (.int 4))) eNil))) eNil))) (eCons (eOp eAddT (eP (pC (.int 1))) (eCallI 2 0 F_law_pick (eCons (eP (pC (.int 6))) eNil))) eNil))) (mSeq (mPar 5 6 (eCons (eV 1) (eCons (eCallI 2 0 F_law_pick (eCons (eP (pC (.int 25))) eNil)) eNil))) (mSeq (mFor (iR1 (eCons (eP (pC (.int 24))) eNil)) (bName 7) b_law_rough_2) (mSeq (mFor (iR1 (eCons (eP (pC (.int 24))) eNil)) (bName 7) b_law_rough_1) (mRet (eCall 2 F_law_of (eCons (eCallI 2 0 F_law_turning (eCons (eV 1) eNil)) (eCons (eOp eAddT (eV 2) (eOp repT (eLst (eCons (eP (pC (.int 1))) eNil)) (eV 5))) eNil)))))))))
def F_law_rough : FM := mFunI 1 8 m_law_rough
def Rg6 (n : Nat) (R : List Nat) (left : Nat) : Prop := (∀ x ∈ R, 1 ≤ x) ∧ R.sum + left = n
theorem Rg6.put {n left a : Nat} {R : List Nat} (h : Rg6 n R left) (ha : 1 ≤ a) (hl : a ≤ left) : Rg6 n (R ++ [a]) (left - a) := by
  refine ⟨fun x hx => ?_, ?_⟩
  · rcases List.mem_append.mp hx with q | q
    · exact h.1 x q
    · rw [List.mem_singleton.mp q]; exact ha
  · have := h.2
    rw [List.sum_append]
    simp
    omega
theorem natL_snoc (R : List Nat) (a : Nat) : natL (R ++ [a]) = natL R ++ [(a : Int)] := by simp [natL]
theorem rough_a {n : Nat} (hn : n ≤ 24) {e0 e4 : Option T} {one : Nat} (h1 : 1 ≤ one) {share : Int} {R : List Nat} {left : Nat} (h : Rg6 n R left) {e7 : Option T} :
    ∃ (R' : List Nat) (left' : Nat) (j7 : Option T), Rg6 n R' left' ∧ forL (bName 7) b_law_rough_2 (rangeT 0 24) [e0, some (si (n : Int)), some (T.ints (natL R)), some (si (one : Int)), e4, some (si (left : Int)), some (si share), e7] = .nx [e0, some (si (n : Int)), some (T.ints (natL R')), some (si (one : Int)), e4, some (si (left' : Int)), some (si share), j7] := by
  obtain ⟨ρ', e, R', left', j7, h', rfl⟩ := forN_inv (i := 7) (body := b_law_rough_2) (its := rangeT 0 24) (ρ := [e0, some (si (n : Int)), some (T.ints (natL R)), some (si (one : Int)), e4, some (si (left : Int)), some (si share), e7])
    (fun _ ρ => ∃ (R' : List Nat) (left' : Nat) (j7 : Option T), Rg6 n R' left' ∧ ρ = [e0, some (si (n : Int)), some (T.ints (natL R')), some (si (one : Int)), e4, some (si (left' : Int)), some (si share), j7]) ⟨R, left, e7, h, rfl⟩ (by
      rintro k t ρ e ⟨R', left', j7, h', rfl⟩
      obtain ⟨hk, rfl⟩ := rangeT_get e
      have hl := len_sum h'.1
      have h2 := h'.2
      have hz : (natL R').length < lim := by rw [natL_len]; unfold lim; omega
      by_cases c1 : one ≤ left'
      · by_cases c2 : (n : Int) - (left' : Int) < share
        · refine ⟨[e0, some (si (n : Int)), some (T.ints (natL (R' ++ [one]))), some (si (one : Int)), e4, some (si ((left' - one : Nat) : Int)), some (si share), some (si (0 + (k : Int)))], .inl ?_, R' ++ [one], left' - one, _, h'.put h1 c1, rfl⟩
          rw [natL_snoc, show ((left' - one : Nat) : Int) = (left' : Int) - (one : Int) by omega]
          have c1' : (one : Int) ≤ (left' : Int) := by omega
          generalize natL R' = NR at *
          simp [b_law_rough_2, c1, c2, hz]
        · refine ⟨_, .inl ?_, R', left', some (si (0 + (k : Int))), h', rfl⟩
          generalize natL R' = NR at *
          simp [b_law_rough_2, c1, c2]
      · refine ⟨_, .inl ?_, R', left', some (si (0 + (k : Int))), h', rfl⟩
        generalize natL R' = NR at *
        simp [b_law_rough_2, c1])
  exact ⟨R', left', j7, h', e⟩
theorem rough_b {n : Nat} (hn : n ≤ 24) {e0 e3 e6 : Option T} {other : Nat} (h1 : 1 ≤ other) {R : List Nat} {left : Nat} (h : Rg6 n R left) {e7 : Option T} :
    ∃ (R' : List Nat) (left' : Nat) (j7 : Option T), Rg6 n R' left' ∧ forL (bName 7) b_law_rough_1 (rangeT 0 24) [e0, some (si (n : Int)), some (T.ints (natL R)), e3, some (si (other : Int)), some (si (left : Int)), e6, e7] = .nx [e0, some (si (n : Int)), some (T.ints (natL R')), e3, some (si (other : Int)), some (si (left' : Int)), e6, j7] := by
  obtain ⟨ρ', e, R', left', j7, h', rfl⟩ := forN_inv (i := 7) (body := b_law_rough_1) (its := rangeT 0 24) (ρ := [e0, some (si (n : Int)), some (T.ints (natL R)), e3, some (si (other : Int)), some (si (left : Int)), e6, e7])
    (fun _ ρ => ∃ (R' : List Nat) (left' : Nat) (j7 : Option T), Rg6 n R' left' ∧ ρ = [e0, some (si (n : Int)), some (T.ints (natL R')), e3, some (si (other : Int)), some (si (left' : Int)), e6, j7]) ⟨R, left, e7, h, rfl⟩ (by
      rintro k t ρ e ⟨R', left', j7, h', rfl⟩
      obtain ⟨hk, rfl⟩ := rangeT_get e
      have hl := len_sum h'.1
      have h2 := h'.2
      have hz : (natL R').length < lim := by rw [natL_len]; unfold lim; omega
      by_cases c1 : other ≤ left'
      · refine ⟨[e0, some (si (n : Int)), some (T.ints (natL (R' ++ [other]))), e3, some (si (other : Int)), some (si ((left' - other : Nat) : Int)), e6, some (si (0 + (k : Int)))], .inl ?_, R' ++ [other], left' - other, _, h'.put h1 c1, rfl⟩
        rw [natL_snoc, show ((left' - other : Nat) : Int) = (left' : Int) - (other : Int) by omega]
        generalize natL R' = NR at *
        simp [b_law_rough_1, c1, hz]
      · refine ⟨_, .inl ?_, R', left', some (si (0 + (k : Int))), h', rfl⟩
        generalize natL R' = NR at *
        simp [b_law_rough_1, c1])
  exact ⟨R', left', j7, h', e⟩
theorem rough_ok {t : T} (hp : Pool t) : ∃ (t' : T) (n : Nat) (q : List Int), Pool t' ∧ n ≤ 24 ∧ Turn n q ∧ F_law_rough [t] = .ok (T.ints q) [t'] := by
  obtain ⟨t1, y1, h1, a1, b1, _, e1⟩ := pick_ok (m := 24) hp (by decide)
  obtain ⟨t2, y2, h2, a2, b2, _, e2⟩ := pick_ok (m := 3) h1 (by decide)
  obtain ⟨t3, y3, h3, a3, b3, _, e3⟩ := pick_ok (m := 4) h2 (by decide)
  have hn : ∃ n : Nat, n ≤ 24 ∧ atI [si 24, si 23, si (1 + y1)] y2 = some (si (n : Int)) := by
    rw [show [si 24, si 23, si (1 + y1)] = [24, 23, 1 + y1].map ig from rfl, atI_T _ a2 (by simpa using b2)]
    have : y2 = 0 ∨ y2 = 1 ∨ y2 = 2 := by omega
    rcases this with h | h | h <;> subst h
    · exact ⟨24, by omega, rfl⟩
    · exact ⟨23, by omega, rfl⟩
    · refine ⟨(1 + y1).toNat, by omega, ?_⟩
      simp
      omega
  have hm : ∃ m : Int, 1 ≤ m ∧ m ≤ 12 ∧ atI [si 1, si 2, si 4, si 12] y3 = some (si m) := by
    rw [show [si 1, si 2, si 4, si 12] = [1, 2, 4, 12].map ig from rfl, atI_T _ a3 (by simpa using b3)]
    have : y3 = 0 ∨ y3 = 1 ∨ y3 = 2 ∨ y3 = 3 := by omega
    rcases this with h | h | h | h <;> subst h <;> exact ⟨_, by decide, by decide, rfl⟩
  obtain ⟨n, hn, en⟩ := hn
  obtain ⟨m, hm1, hm2, em⟩ := hm
  obtain ⟨t4, y4, h4, a4, b4, _, e4⟩ := pick_ok (m := m) h3 hm1
  obtain ⟨t5, y5, h5, a5, b5, _, e5⟩ := pick_ok (m := 6) h4 (by decide)
  obtain ⟨t6, y6, h6, a6, b6, _, e6⟩ := pick_ok (m := 25) h5 (by decide)
  obtain ⟨one, ho⟩ : ∃ one : Nat, (one : Int) = 1 + y4 := ⟨(1 + y4).toNat, by omega⟩
  obtain ⟨other, ho2⟩ : ∃ other : Nat, (other : Int) = 1 + y5 := ⟨(1 + y5).toNat, by omega⟩
  obtain ⟨R1, l1, k7, g1, f1⟩ := rough_a hn (e0 := some t6) (e4 := some (si (other : Int))) (one := one) (by omega) (share := y6) (R := []) (left := n) ⟨fun x hx => (nomatch hx), by simp⟩ (e7 := none)
  obtain ⟨R2, l2, k8, g2, f2⟩ := rough_b hn (e0 := some t6) (e3 := some (si (one : Int))) (e6 := some (si y6)) (other := other) (by omega) g1 (e7 := k7)
  obtain ⟨t7, c, h7, hc, e7⟩ := turning_ok h6 (n := n) (by omega)
  have hK : (∀ x ∈ R2 ++ List.replicate l2 1, 1 ≤ x) ∧ (R2 ++ List.replicate l2 1).sum = n := by
    refine ⟨fun x hx => ?_, ?_⟩
    · rcases List.mem_append.mp hx with q | q
      · exact g2.1 x q
      · rw [(List.mem_replicate.mp q).2]; exact Nat.le_refl 1
    · have hr : ∀ m : Nat, (List.replicate m 1).sum = m := by
        intro m
        induction m with
        | zero => rfl
        | succ m ih => rw [List.replicate_succ, List.sum_cons, ih]; omega
      rw [List.sum_append, hr]
      exact g2.2
  have hof := of_ok (by omega) hc hK.1 hK.2
  obtain ⟨hT, _⟩ := of_lens hc hK.1 hK.2
  refine ⟨t7, n, _, h7, hn, hT, ?_⟩
  have hl2 : l2 ≤ 24 := by have := g2.2; omega
  have hR2 : R2.length ≤ 24 := by have := len_sum g2.1; have := g2.2; omega
  have hrep : repT (.ol [si 1]) (si (l2 : Int)) = some (.ol (List.replicate l2 (si 1))) := repT_one (by unfold lim; omega)
  have hadd : eAddT (.sh (D.ints (natL R2))) (.ol (List.replicate l2 (si 1))) = some (.ol ((natL (R2 ++ List.replicate l2 1)).map ig)) := by
    have e1 : (natL (R2 ++ List.replicate l2 1)).map ig = (natL R2).map ig ++ List.replicate l2 (si 1) := by
      rw [natL_map, natL_map, List.map_append]
      simp
    rw [e1]
    refine addT_lst (a := (natL R2).map ig) ?_ (els_ol _) (by rw [List.length_map, natL_len]; simp; unfold lim; omega)
    show some (((natL R2).map .int).map T.sh) = _
    rw [List.map_map]
    rfl
  have hi : InR 24 := InR.of (by decide) (by decide)
  rw [ho] at f1 f2
  rw [ho2] at f1 f2
  have h0 : T.ints (natL []) = .ol [] := rfl
  rw [h0] at f1
  generalize cjL n (natL (blkN 0 (R2 ++ List.replicate l2 1))) c = Q at *
  generalize natL (R2 ++ List.replicate l2 1) = NK at *
  generalize natL R2 = N2 at *
  generalize natL R1 = N1 at *
  generalize List.replicate l2 (si 1) = RP at *
  try simp at f1 f2 hof hadd e7
  simp [F_law_rough, m_law_rough, e1, e2, e3, e4, e5, e6, e7, en, em, hi, f1, f2, hrep, hadd, hof]
end
end Cl

set_option exponentiation.threshold 10000
namespace Cl
noncomputable section
open PySem L2 Z
def b_law_1 : SM := (mSeq (mSet 5 (eCall 2 F_law_of (eCons (eV 8) (eCons (eV 9) eNil)))) (mSeq (mSet 10 (eP (pCall 2 F_roots_of (aCons (pV 5) (aCons (pV 3) aNil))))) (mSeq (mIf (eT (qNot (pB (pCall 2 (F_law_same 6) (aCons (pV 10) (aCons (pCall 2 F_law_count (aCons (pV 5) (aCons (pV 3) aNil))) aNil)))))) (mRet (eP (pC (.bl false)))) mNil) (mSet 7 (eP (pOp oAdd (pV 7) (pOp oMul (pV 10) (pCall 1 F_law_met (aCons (pV 9) aNil)))))))))
def t_law_2 : EMb := (eT (pB (pOp oEq (pCall 2 F_law_times (aCons (pV 11) (aCons (pV 2) aNil))) (pV 5))))
def x_law_3 : EM := (eV 11)
def m_lawR : SM := (mSeq (mUnp (bTup [2, 3]) (eTup (eCons (eOp eAddT (eP (pC (.int 1))) (eCallI 2 1 F_law_pick (eCons (eP (pC (.int 60))) eNil))) (eCons (eOp eAddT (eP (pC (.int 1))) (eCallI 2 1 F_law_pick (eCons (eP (pC (.int 60))) eNil))) eNil)))) (mSeq (mSet 4 (eOp ixT (eLst (eCons (eCallI 2 1 F_law_pick (eCons (eP (pC (.int 6))) eNil)) (eCons (eP (pC (.int 6))) eNil))) (eCB (cS (o1 oInt)) (eCons (eOp (oS oEq) (eCallI 2 1 F_law_pick (eCons (eP (pC (.int 20))) eNil)) (eP (pC (.int 7)))) eNil)))) (mSeq (mUnp (bTup [5, 6]) (eTup (eCons (eCallI 2 1 F_law_any (eCons (eV 4) eNil)) (eCons (eCallI 1 1 F_law_rough eNil) eNil)))) (mSeq (mIf (eNot (eB (eCall 3 F_law_asked (eCons (eV 5) (eCons (eV 2) (eCons (eCB (cS (o1 oLen)) (eCons (eLC [11] (iE (eCall 1 F_law_everyone (eCons (eV 4) eNil))) (bName 11) t_law_2 x_law_3) eNil)) eNil)))))) (mRet (eP (pC (.bl false)))) mNil) (mSeq (mIf (eT (qOr (qNot (pB (pCall 3 F_law_asked (aCons (pV 6) (aCons (pV 2) (aCons (pCall 2 F_law_count (aCons (pV 6) (aCons (pV 2) aNil))) aNil)))))) (qNot (pB (pCall 3 F_law_asked (aCons (pV 6) (aCons (pV 3) (aCons (pCall 2 F_law_count (aCons (pV 6) (aCons (pV 3) aNil))) aNil)))))))) (mRet (eP (pC (.bl false)))) mNil) (mSeq (mIf (eB (eOp (oS oGt) (eCallI 2 1 F_law_pick (eCons (eP (pC (.int 3))) eNil)) (eP (pC (.int 0))))) (mRet (eP (pCall 3 F_law_asked (aCons (pV 6) (aCons (pV 2) (aCons (pCall 2 F_law_count (aCons (pV 6) (aCons (pV 2) aNil))) aNil)))))) mNil) (mSeq (mPar 4 7 (eCons (eCallI 2 1 F_law_pick (eCons (eP (pC (.int 10))) eNil)) (eCons (eP (pC (.int 0))) eNil))) (mSeq (mSet 8 (eCallI 2 1 F_law_turning (eCons (eV 4) eNil))) (mSeq (mFor (iE (eCall 1 F_law_kinds (eCons (eV 4) eNil))) (bName 9) b_law_1) (mRet (eP (pOp oEq (pV 7) (pCall 1 F_law_factorial (aCons (pV 4) aNil))))))))))))))
def m_law (ns : List Int) : SM := mSeq (mSet 1 (eCallS F_law_stream ns)) m_lawR
def F_law : List Int → FOut := mFunS 12 m_law
theorem many_lc {n k : Nat} (hn : n ≤ 6) (hk2 : k ≤ 60) {p : List Int} {e0 e1 e3 e4 e6 e7 e8 e9 e10 : Option T} :
    ∃ L : List T, L.length = manyL n k p ∧ lcL [11] (bName 11) t_law_2 x_law_3 (((evN n).map fun r => D.ints (natL r)).map T.sh) [] [e0, e1, some (si (k : Int)), e3, e4, some (shi p), e6, e7, e8, e9, e10, none] = .ok L [e0, e1, some (si (k : Int)), e3, e4, some (shi p), e6, e7, e8, e9, e10, none] := by
  refine ⟨((evN n).filter fun q => decide (itL n (natL q) k = p)).map fun q => shi (natL q), ?_, ?_⟩
  · rw [List.length_map]
    unfold manyL evL
    rw [List.countP_map, List.countP_eq_length_filter]
    rfl
  · rw [List.map_map]
    refine lcL_fl (fun q : List Nat => shi (natL q)) (fun q : List Nat => shi (natL q)) (fun q => decide (itL n (natL q) k = p)) (acc := []) (fun q hq => ?_) (by
      have := (ev_len n hn).2
      simp
      unfold lim
      omega)
    have hT := natL_turn (ev_perm hq)
    have ht := times_ok hT (by omega) (k : Int) (by
      have h1 : k < 2 ^ 299 := Nat.lt_of_le_of_lt hk2 (by decide)
      rw [Int.natAbs_natCast]
      exact h1)
    have hpw : pwL n (natL q) (k : Int) = itL n (natL q) k := rfl
    rw [hpw] at ht
    have he := eq_ints (itL n (natL q) k) p
    refine ⟨[e0, e1, some (si (k : Int)), e3, e4, some (shi p), e6, e7, e8, e9, e10, some (shi (natL q))], rfl, ?_, fun _ => by simp [x_law_3], rfl⟩
    generalize itL n (natL q) k = IT at *
    generalize natL q = NQ at *
    try simp at ht he
    simp [t_law_2, ht, he]
theorem kinds_loop6 {n other : Nat} (hn : n ≤ 9) (hk : 1 ≤ other) (hk2 : other ≤ 60) {c : List Int} (hc : Turn n c) {e0 e1 e2 e4 e6 : Option T} : ∀ (F : List (List Nat)) (tot : Nat) (U : T) (e5 e9 e10 : Option T), (∀ r ∈ F, Fd6 n r) → (U = T.ints c ∨ U = shi c) →
    ∃ (U' : T) (j5 j9 j10 : Option T), forL (bName 9) b_law_1 (F.map rSh) [e0, e1, e2, some (si (other : Int)), e4, e5, e6, some (si (tot : Nat)), some U, e9, e10, none] = .nx [e0, e1, e2, some (si (other : Int)), e4, j5, e6, some (si (tot + (F.map fun r => rootsK r n other * metN r).sum : Nat)), some U', j9, j10, none]
  | [], tot, U, e5, e9, e10, _, _ => ⟨U, e5, e9, e10, by simp [forL]⟩
  | r :: F, tot, U, e5, e9, e10, hF, hU => by
    obtain ⟨hr1, hr2⟩ := hF r List.mem_cons_self
    obtain ⟨U', j5, j9, j10, ih⟩ := kinds_loop6 hn hk hk2 hc (e0 := e0) (e1 := e1) (e2 := e2) (e4 := e4) (e6 := e6) F (tot + rootsK r n other * metN r) (shi c) (some (T.ints (cjL n (natL (blkN 0 r)) c))) (some (rSh r)) (some (si (rootsK r n other : Nat))) (fun q hq => hF q (List.mem_cons_of_mem _ hq)) (.inr rfl)
    refine ⟨U', j5, j9, j10, ?_⟩
    have hof := of_ok (n := n) (by omega) hc hr1 hr2
    obtain ⟨hT, hL⟩ := of_lens hc hr1 hr2
    have hro := roots_ok (n := n) (by omega) hT hk hk2
    have hco := count_ok (n := n) (by omega) hT hk hk2
    have hmt := met_ok (row := r) hr1 (by omega)
    rw [rootsN_perm hL, ← rootsK_eq] at hro hco
    have hsm := same_refl 6 (.int ((rootsK r n other : Nat) : Int)) (by simp [dep]) (by simp [szOk])
    have hml : metN r ≤ 362880 := Nat.le_trans (metO_le r (facN r.sum) r.sum) (fac_le (by omega))
    have hmul := mul_int (i := (rootsK r n other : Nat)) (j := (metN r : Nat)) (small_r ⟨by omega, by omega⟩)
    have es : b_law_1 [e0, e1, e2, some (si (other : Int)), e4, e5, e6, some (si (tot : Nat)), some U, some (rSh r), e10, none] = .nx [e0, e1, e2, some (si (other : Int)), e4, some (T.ints (cjL n (natL (blkN 0 r)) c)), e6, some (si (tot + rootsK r n other * metN r : Nat)), some (shi c), some (rSh r), some (si (rootsK r n other : Nat)), none] := by
      rw [Int.natCast_add, Int.natCast_mul]
      unfold rSh
      generalize rootsK r n other = RK at *
      generalize metN r = ME at *
      generalize cjL n (natL (blkN 0 r)) c = Q at *
      generalize natL r = NR at *
      try simp at hof hro hco hmt
      rcases hU with rfl | rfl <;> simp [b_law_1, hof, hro, hco, hmt, hsm, hmul]
    rw [List.map_cons]
    unfold forL
    show (match b_law_1 [e0, e1, e2, some (si (other : Int)), e4, e5, e6, some (si (tot : Nat)), some U, some (rSh r), e10, none] with | .nx ρ => _ | .ct ρ => _ | .bk ρ => _ | r => r) = _
    rw [es]
    refine ih.trans ?_
    rw [List.map_cons, List.sum_cons, Nat.add_assoc]
theorem law_true : ∀ ns : List Int, ns.length ≤ 63 → F_law ns = .ok (.sh (.bl true)) [] := by
  intro ns hns
  obtain ⟨t0, h0, e0⟩ := stream_ok ns hns
  obtain ⟨t1, x1, h1, a1, b1, _, e1⟩ := pick_ok (m := 60) h0 (by decide)
  obtain ⟨t2, x2, h2, a2, b2, _, e2⟩ := pick_ok (m := 60) h1 (by decide)
  obtain ⟨k, hk⟩ : ∃ k : Nat, (k : Int) = 1 + x1 := ⟨(1 + x1).toNat, by omega⟩
  obtain ⟨other, ho⟩ : ∃ other : Nat, (other : Int) = 1 + x2 := ⟨(1 + x2).toNat, by omega⟩
  obtain ⟨t3, x3, h3, a3, b3, _, e3⟩ := pick_ok (m := 6) h2 (by decide)
  obtain ⟨t4, x4, h4, a4, b4, _, e4⟩ := pick_ok (m := 20) h3 (by decide)
  have hn : ∃ n : Nat, n ≤ 6 ∧ atI [si x3, si 6] (if x4 = 7 then 1 else 0) = some (si (n : Int)) := by
    by_cases c : x4 = 7
    · rw [if_pos c]
      exact ⟨6, by omega, rfl⟩
    · rw [if_neg c]
      refine ⟨x3.toNat, by omega, ?_⟩
      rw [show ((x3.toNat : Nat) : Int) = x3 by omega]
      rfl
  obtain ⟨n, hn, en⟩ := hn
  obtain ⟨t5, p, h5, hp, e5⟩ := any_ok h4 (n := n) (by omega)
  obtain ⟨t6, nq, q, h6, hnq, hq, e6⟩ := rough_ok h5
  obtain ⟨U, hU, e7⟩ := everyone_ok hn
  obtain ⟨L, hL, e8⟩ := many_lc (n := n) (k := k) hn (by omega) (p := p) (e0 := none) (e1 := some t6) (e3 := some (si (other : Int))) (e4 := some (si (n : Int))) (e6 := some (T.ints q)) (e7 := none) (e8 := none) (e9 := none) (e10 := none)
  have e9 := asked_ok (n := n) (by omega) hp (k := k) (by omega) (by omega) (X := manyL n k p) (small_ok hn hp (by omega) (by omega)).symm
  rw [← hL] at e9
  have ea1 := asked_ok (n := nq) hnq hq (k := k) (by omega) (by omega) rfl
  have ea2 := asked_ok (n := nq) hnq hq (k := other) (by omega) (by omega) rfl
  have ec1 := count_ok hnq hq (k := k) (by omega) (by omega)
  have ec2 := count_ok hnq hq (k := other) (by omega) (by omega)
  obtain ⟨t7, x7, h7, a7, b7, _, e10⟩ := pick_ok (m := 3) h6 (by decide)
  obtain ⟨t8, x8, h8, a8, b8, _, e11⟩ := pick_ok (m := 10) h7 (by decide)
  obtain ⟨m, hm⟩ : ∃ m : Nat, (m : Int) = x8 := ⟨x8.toNat, by omega⟩
  obtain ⟨t9, c, h9, hc, e12⟩ := turning_ok h8 (n := m) (by omega)
  have e13 := kinds_ok6 (n := m) (by omega)
  have e14 := fac_ok (n := m) (by omega)
  obtain ⟨U', j5, j9, j10, e15⟩ := kinds_loop6 (n := m) (other := other) (by omega) (by omega) (by omega) hc (e0 := none) (e1 := some t9) (e2 := some (si (k : Int))) (e4 := some (si (m : Int))) (e6 := some (T.ints q)) (kindsN m) 0 (T.ints c) (some (shi p)) none none (kinds_fd (by omega)) (.inl rfl)
  rw [sum_ok (by omega) (by omega) (by omega), Nat.zero_add] at e15
  have hdk : (dl ((kindsN m).map rSh)).map T.sh = (kindsN m).map rSh := by
    rw [dl_eq, List.map_map, List.map_map]
    rfl
  show (match m_law ns (List.replicate 12 none) with | .rt t _ => FOut.ok t [] | _ => .bad) = _
  rw [hk] at e8 e9 ea1 ec1
  rw [hk] at e15
  rw [ho] at ea2 ec2 e8 e15
  rw [hm] at e12 e13 e14 e15
  generalize (kindsN m).map rSh = KK at *
  generalize ((evN n).map fun r => D.ints (natL r)) = EV at *
  generalize rootsN (lensN nq q) nq k = R1 at *
  generalize rootsN (lensN nq q) nq other = R2 at *
  generalize facN m = FM at *
  try simp at e5 e6 e8 e9 e12 e13 e15
  by_cases c4 : x4 = 7
  · have hn6 : (6 : Int) = n := by simpa [c4] using en
    have hn7 : n = 6 := by omega
    subst hn7
    clear en hn6
    have c6 : oInt (.bl true) = some (.int 1) := rfl
    have c8 : atI [si x3, T.sh (D.int 6)] 1 = some (T.sh (D.int 6)) := rfl
    try simp at e5
    try simp at e7
    try simp at e8
    try simp at e9
    by_cases c7 : 0 < x7
    · simp [m_law, m_lawR, e0, e1, e2, e3, e4, c4, c6, c8, e5, e6, e7, hU, e8, e9, ec1, ec2, ea1, ea2, e10, c7]
    · simp [m_law, m_lawR, e0, e1, e2, e3, e4, c4, c6, c8, e5, e6, e7, hU, e8, e9, ec1, ec2, ea1, ea2, e10, c7, e11, e12, e13, hdk, e15, e14]
  · have c5 : (x4 == 7) = false := by simp [c4]
    have c6 : oInt (.bl false) = some (.int 0) := rfl
    by_cases c7 : 0 < x7
    · simp [c4] at en
      simp [m_law, m_lawR, e0, e1, e2, e3, e4, c4, c5, c6, en, e5, e6, e7, hU, e8, e9, ec1, ec2, ea1, ea2, e10, c7]
    · simp [c4] at en
      simp [m_law, m_lawR, e0, e1, e2, e3, e4, c4, c5, c6, en, e5, e6, e7, hU, e8, e9, ec1, ec2, ea1, ea2, e10, c7, e11, e12, e13, hdk, e15, e14]
end
end Cl

namespace Cl
open PySem L2 Z
def top (i : Nat) : Stmt := PySem.Challenge.pw_siftyard_k06_whole_roots.main.body.getD i (.Pass ⟨0, 0, 0, 0⟩)
abbrev s_lists_of : Stmt := top 1
abbrev s_kind_of : Stmt := top 2
abbrev s_shared : Stmt := top 3
abbrev s_ways_to_join : Stmt := top 4
abbrev s_roots_of : Stmt := top 5
abbrev s_law_pool : Stmt := top 7
abbrev s_law_stream : Stmt := top 8
abbrev s_law_pick : Stmt := top 9
abbrev s_law_then : Stmt := top 10
abbrev s_law_back : Stmt := top 11
abbrev s_law_turning : Stmt := top 12
abbrev s_law_factorial : Stmt := top 13
abbrev s_law_same : Stmt := top 14
abbrev s_law_lengths : Stmt := top 15
abbrev s_law_shaped : Stmt := top 16
abbrev s_law_any : Stmt := top 17
abbrev s_law_times : Stmt := top 18
abbrev s_law_rows : Stmt := top 19
abbrev s_law_everyone : Stmt := top 20
abbrev s_law_ways : Stmt := top 21
abbrev s_law_count : Stmt := top 22
abbrev s_law_kinds : Stmt := top 23
abbrev s_law_of : Stmt := top 24
abbrev s_law_met : Stmt := top 25
abbrev s_law_rough : Stmt := top 26
abbrev s_law_asked : Stmt := top 27
abbrev s_law : Stmt := top 28
section
variable {P : Program} {w : World} {K : PySem.W.Frag} {mg : Str → Option Value} {base : Heap} {ct : CT}
/-! lists_of: 0 p, 1 met, 2 found, 3 x, 4 row, 5 y -/
theorem sc_lists_of : FnScope ["p", "met", "found", "x", "row", "y"] ["p"] (defScope s_lists_of) := ⟨rfl, rfl, rfl, by decide +kernel, rfl, by decide +kernel, by decide +kernel⟩
theorem ok_lists_of (dd : Dd K mg "lists_of" s_lists_of ["p"]) (b_len : mg "len" = none) (b_range : mg "range" = none) :
    Fn P w K mg base "lists_of" (1) ["p"] (spM ct 1 F_lists_of) := by
  have sc := sc_lists_of
  refine fn_def (k := 0) dd sc_lists_of fun f cdv A outer s H E hr => ?_
  exact ⟨_, (pss_cons (ps_par (by rfl) sc.nd rfl rfl (by decide) rfl rfl (pa_cons (pe_op u_mul (pe_lst (pa_cons pe_bl pa_nil)) (pe_callB call_len (by rfl) b_len (by decide +kernel) (pa_cons (pv 0) pa_nil))) (pa_cons (pe_lst pa_nil) pa_nil)) (by rfl)) (pss_cons (ps_for (passes_of rfl) rfl (pi_range1 (by rfl) b_range (pa_cons (pe_callB call_len (by rfl) b_len (by decide +kernel) (pa_cons (pv 0) pa_nil)) pa_nil)) (pg_name (i := 3) sc.nd rfl (Or.inl rfl)) (pss_one (ps_if (pt_not (pt_val (pe_ix ix_seq (pv 1) (pv 3) (fun _ _ => rfl)))) (pss_cons (ps_par (by rfl) sc.nd rfl rfl (by decide) rfl rfl (pa_cons (pe_lst pa_nil) (pa_cons (pv 3) pa_nil)) (by rfl)) (pss_cons (ps_while (passes_of rfl) (pt_not (pt_val (pe_ix ix_seq (pv 1) (pv 5) (fun _ _ => rfl)))) (pss_cons (ps_asg pe_bl (pg_sub (pv 1) (pv 5) set_list)) (pss_cons (ps_expr (pe_bm PySem.F.plainAttrs_list PySem.F.slot_list_append PySem.F.type_list_append mt_append (pv 4) (pa_cons (pv 5) pa_nil))) (pss_one (ps_set (i := 5) sc.nd rfl (Or.inl rfl) (pe_ix ix_seq (pv 0) (pv 5) (fun _ _ => rfl))))))) (pss_one (ps_expr (pe_bm PySem.F.plainAttrs_list PySem.F.slot_list_append PySem.F.type_list_append mt_append (pv 2) (pa_cons (pv 4) pa_nil)))))) pss_nil))) (pss_one (ps_ret (pv 2))))),
    (ss_seq (ss_par (sea_cons (se_op oe_repU (se_lst (sea_cons (se_p sp_bl) sea_nil)) (se_p (sp_cb cs_len (sa_cons sp_var sa_nil)))) (sea_cons (se_lst sea_nil) sea_nil)) (by decide) (by decide)) (ss_seq (ss_for (slots := [3]) (si_r1 (sea_cons (se_p (sp_cb cs_len (sa_cons sp_var sa_nil))) sea_nil)) sg_name (by decide) (ss_if (set_p (st_not (sp_b (sp_op os_ix sp_var sp_var)))) (ss_seq (ss_par (sea_cons (se_lst sea_nil) (sea_cons se_var sea_nil)) (by decide) (by decide)) (ss_seq (ss_while 1000000 (set_p (st_not (sp_b (sp_op os_ix sp_var sp_var)))) (ss_seq (ss_store (se_p sp_bl) sp_var) (ss_seq (ss_app se_var) (ss_set (se_get (sv_ix sv_var sp_var)) (by decide))))) (ss_app se_mv))) ss_nil)) (ss_ret se_mv)))⟩
/-! kind_of: 0 p, 1 row -/
theorem sc_kind_of : FnScope ["p", "row"] ["p"] (defScope s_kind_of) := ⟨rfl, rfl, rfl, by decide +kernel, rfl, by decide +kernel, by decide +kernel⟩
theorem ok_kind_of (dd : Dd K mg "kind_of" s_kind_of ["p"]) (b_len : mg "len" = none) (b_sorted : mg "sorted" = none) (g_lists_of : Fn P w K mg base "lists_of" 1 ["p"] (spM ct 1 F_lists_of)) :
    Fn P w K mg base "kind_of" (2) ["p"] (spM ct 1 F_kind_of) := by
  obtain ⟨_, _, G_lists_of, m_lists_of, k_lists_of, d_lists_of⟩ := g_lists_of
  have sc := sc_kind_of
  refine fn_def (k := 1) dd sc_kind_of fun f cdv A outer s H E hr => ?_
  exact ⟨_, (pss_one (ps_ret (pe_callB (call_sortedD (eqU65 hr)) (by rfl) b_sorted (by decide +kernel) (pa_cons (pe_lc (own := [("row", 1)]) rfl sc.nd (pi_seq (pe_callS G_lists_of (hr.mono (by omega)) (by rfl) m_lists_of k_lists_of d_lists_of (fun σ => passAt (takes_of rfl rfl rfl rfl) σ) (pa_cons (pv 0) pa_nil))) (blkOk_by (N := ["p", "row"]) (sc := defScope s_kind_of) (by decide +kernel)) (fun _ _ _ _ _ => (pg_name (i := 1) sc.nd rfl (by first | exact Or.inl rfl | exact Or.inr rfl))) (fun _ _ _ _ _ => pts_nil) (fun _ _ _ _ _ => (pe_callB call_len (by rfl) b_len (by decide +kernel) (pa_cons (pv 1) pa_nil)))) pa_nil)))),
    (ss_ret (se_cb ce_sorted (sea_cons (se_lc (slots := [1]) (si_e (se_call (sea_cons se_var sea_nil))) sg_name set_yes (se_p (sp_cb cs_len (sa_cons sp_var sa_nil)))) sea_nil)))⟩
/-! shared: 0 one, 1 other -/
theorem sc_shared : FnScope ["one", "other"] ["one", "other"] (defScope s_shared) := ⟨rfl, rfl, rfl, by decide +kernel, rfl, by decide +kernel, by decide +kernel⟩
theorem ok_shared (dd : Dd K mg "shared" s_shared ["one", "other"]) :
    Fn P w K mg base "shared" (1) ["one", "other"] (spM ct 2 F_shared) := by
  have sc := sc_shared
  refine fn_def (k := 0) dd sc_shared fun f cdv A outer s H E hr => ?_
  exact ⟨_, (pss_cons (ps_while (passes_of rfl) (pt_truth (pv 1) (by intro _; rfl)) (pss_one (ps_par (by rfl) sc.nd rfl rfl (by decide) rfl rfl (pa_cons (pv 1) (pa_cons (pe_op u_mod (pv 0) (pv 1)) pa_nil)) (by rfl)))) (pss_one (ps_ret (pv 0)))),
    (ss_seq (ss_while 1000000 (set_p (st_tru sp_var)) (ss_par (sea_cons se_var (sea_cons (se_p (sp_op os_mod sp_var sp_var)) sea_nil)) (by decide) (by decide))) (ss_ret se_mv))⟩
/-! ways_to_join: 0 many, 1 length, 2 k, 3 ways, 4 total, 5 joined, 6 choices, 7 step -/
theorem sc_ways_to_join : FnScope ["many", "length", "k", "ways", "total", "joined", "choices", "step"] ["many", "length", "k"] (defScope s_ways_to_join) := ⟨rfl, rfl, rfl, by decide +kernel, rfl, by decide +kernel, by decide +kernel⟩
theorem ok_ways_to_join (dd : Dd K mg "ways_to_join" s_ways_to_join ["many", "length", "k"]) (b_range : mg "range" = none) (g_shared : Fn P w K mg base "shared" 1 ["one", "other"] (spM ct 2 F_shared)) :
    Fn P w K mg base "ways_to_join" (2) ["many", "length", "k"] (spM ct 3 F_ways_to_join) := by
  obtain ⟨_, _, G_shared, m_shared, k_shared, d_shared⟩ := g_shared
  have sc := sc_ways_to_join
  refine fn_def (k := 1) dd sc_ways_to_join fun f cdv A outer s H E hr => ?_
  exact ⟨_, (pss_cons (ps_set (i := 3) sc.nd rfl (Or.inl rfl) (pe_op u_add (pe_lst (pa_cons pe_int pa_nil)) (pe_op u_mul (pe_lst (pa_cons pe_int pa_nil)) (pv 0)))) (pss_cons (ps_for (passes_of rfl) rfl (pi_range2 (by rfl) b_range (pa_cons pe_int (pa_cons (pe_op u_add (pv 0) pe_int) pa_nil))) (pg_name (i := 4) sc.nd rfl (Or.inl rfl)) (pss_one (ps_for (passes_of rfl) rfl (pi_range2 (by rfl) b_range (pa_cons pe_int (pa_cons (pe_op u_add (pv 4) pe_int) pa_nil))) (pg_name (i := 5) sc.nd rfl (Or.inl rfl)) (pss_one (ps_if (pt_cmpR (op_eqD (eqU hr)) (pe_callS G_shared (hr.mono (by omega)) (by rfl) m_shared k_shared d_shared (fun σ => passAt (takes_of rfl rfl rfl rfl) σ) (pa_cons (pe_op u_mul (pv 5) (pv 1)) (pa_cons (pv 2) pa_nil))) (pv 5) (nomark _)) (pss_cons (ps_set (i := 6) sc.nd rfl (Or.inl rfl) pe_int) (pss_cons (ps_for (passes_of rfl) rfl (pi_range1 (by rfl) b_range (pa_cons (pe_op u_sub (pv 5) pe_int) pa_nil)) (pg_name (i := 7) sc.nd rfl (Or.inl rfl)) (pss_one (ps_set (i := 6) sc.nd rfl (Or.inl rfl) (pe_op u_mul (pe_op u_mul (pv 6) (pe_op u_sub (pe_op u_sub (pv 4) pe_int) (pv 7))) (pv 1))))) (pss_one (ps_augS (pv 3) (pv 4) get_list (pe_op u_mul (pv 6) (pe_ix ix_seq (pv 3) (pe_op u_sub (pv 4) (pv 5)) (fun _ _ => rfl))) ip_add set_list)))) pss_nil))))) (pss_one (ps_ret (pe_ix ix_seq (pv 3) (pv 0) (fun _ _ => rfl)))))),
    (ss_seq (ss_set (se_op oe_add (se_lst (sea_cons (se_p sp_int) sea_nil)) (se_op oe_repU (se_lst (sea_cons (se_p sp_int) sea_nil)) se_var)) (by decide)) (ss_seq (ss_for (slots := [4]) (si_r2 (sea_cons (se_p sp_int) (sea_cons (se_p (sp_op os_add sp_var sp_int)) sea_nil))) sg_name (by decide) (ss_for (slots := [5]) (si_r2 (sea_cons (se_p sp_int) (sea_cons (se_p (sp_op os_add sp_var sp_int)) sea_nil))) sg_name (by decide) (ss_if (set_p (sp_test (sp_op os_eq (sp_callG (sa_cons (sp_op os_mul sp_var sp_var) (sa_cons sp_var sa_nil))) sp_var))) (ss_seq (ss_set (se_p sp_int) (by decide)) (ss_seq (ss_for (slots := [7]) (si_r1 (sea_cons (se_p (sp_op os_sub sp_var sp_int)) sea_nil)) sg_name (by decide) (ss_set (se_p (sp_op os_mul (sp_op os_mul sp_var (sp_op os_sub (sp_op os_sub sp_var sp_int) sp_var)) sp_var)) (by decide))) (ss_augS sp_var (sp_op os_mul sp_var (sp_op os_ix sp_var (sp_op os_sub sp_var sp_var)))))) ss_nil))) (ss_ret (se_get (sv_ix sv_var sp_var)))))⟩
/-! roots_of: 0 p, 1 k, 2 kinds, 3 length, 4 found, 5 many -/
theorem sc_roots_of : FnScope ["p", "k", "kinds", "length", "found", "many"] ["p", "k"] (defScope s_roots_of) := ⟨rfl, rfl, rfl, by decide +kernel, rfl, by decide +kernel, by decide +kernel⟩
theorem ok_roots_of (dd : Dd K mg "roots_of" s_roots_of ["p", "k"]) (g_ways_to_join : Fn P w K mg base "ways_to_join" 2 ["many", "length", "k"] (spM ct 3 F_ways_to_join)) (g_kind_of : Fn P w K mg base "kind_of" 2 ["p"] (spM ct 1 F_kind_of)) :
    Fn P w K mg base "roots_of" (3) ["p", "k"] (spM ct 2 F_roots_of) := by
  obtain ⟨_, _, G_ways_to_join, m_ways_to_join, k_ways_to_join, d_ways_to_join⟩ := g_ways_to_join
  obtain ⟨_, _, G_kind_of, m_kind_of, k_kind_of, d_kind_of⟩ := g_kind_of
  have sc := sc_roots_of
  refine fn_def (k := 2) dd sc_roots_of fun f cdv A outer s H E hr => ?_
  exact ⟨_, (pss_cons (ps_set (i := 2) sc.nd rfl (Or.inl rfl) pe_dnewK) (pss_cons (ps_for (passes_of rfl) rfl (pi_seq (pe_callS G_kind_of (hr.mono (by omega)) (by rfl) m_kind_of k_kind_of d_kind_of (fun σ => passAt (takes_of rfl rfl rfl rfl) σ) (pa_cons (pv 0) pa_nil))) (pg_name (i := 3) sc.nd rfl (Or.inl rfl)) (pss_one (ps_dput (Nat.lt_of_le_of_lt (Nat.add_le_add_left (show 1 ≤ 65 by decide) _) (eqU65 hr)) (pv 2) (pv 3) (pe_op u_add (pe_dget2 (Nat.lt_of_le_of_lt (Nat.add_le_add_left (show 1 ≤ 65 by decide) _) (eqU65 hr)) (pv 2) (pv 3) pe_int ⟨by rfl, by rfl, by rfl, by rfl⟩) pe_int) (by rfl)))) (pss_cons (ps_set (i := 4) sc.nd rfl (Or.inl rfl) pe_int) (pss_cons (ps_lock (ps_for (passes_of rfl) rfl (pi_items (pv 2)) (pg_tup (by rfl) (pgs_cons (pg_name (i := 3) sc.nd rfl (Or.inl rfl)) (pgs_cons (pg_name (i := 5) sc.nd rfl (Or.inl rfl)) pgs_nil))) (pss_one (ps_aug (i := 4) sc.nd rfl (Or.inl rfl) (pe_callS G_ways_to_join (hr.mono (by omega)) (by rfl) m_ways_to_join k_ways_to_join d_ways_to_join (fun σ => passAt (takes_of rfl rfl rfl rfl) σ) (pa_cons (pv 5) (pa_cons (pv 3) (pa_cons (pv 1) pa_nil)))) ip_mulM)))) (pss_one (ps_ret (pv 4))))))),
    (ss_seq (ss_set se_newD (by decide)) (ss_seq (ss_for (slots := [3]) (si_e (se_call (sea_cons se_var sea_nil))) sg_name (by decide) (ss_putG sp_var (sp_op os_add (sp_dGet2 sp_var sp_var sp_int) sp_int))) (ss_seq (ss_set (se_p sp_int) (by decide)) (ss_seq (ss_forI (i := 2) (slots := [3, 5]) (sg_tup (is := [3, 5]) rfl) (by decide) (ss_augM (se_call (sea_cons se_var (sea_cons se_var (sea_cons se_var sea_nil)))) (by decide))) (ss_ret se_mv)))))⟩
/-! the pool and the stream: the same in all laws -/
theorem sc_law_pool : FnScope ["script", "pool", "cell", "rest", "k", "state"] ["script"] (defScope s_law_pool) := ⟨rfl, rfl, rfl, by decide +kernel, rfl, by decide +kernel, by decide +kernel⟩
theorem ok_law_pool (dd : Dd K mg "_law_pool" s_law_pool ["script"]) (b_int : mg "int" = none) (b_range : mg "range" = none) : Fn P w K mg base "_law_pool" 1 ["script"] (spSc ct K F_law_pool) := by
  have sc := sc_law_pool
  refine fn_defS (k := 0) dd sc_law_pool (by decide) fun f cdv A outer s H E hr => ?_
  exact ⟨_, (pss_cons (ps_set (i := 1) sc.nd rfl (Or.inl rfl) (pe_lst pa_nil)) (pss_cons (ps_for (passes_of rfl) rfl (pi_seq (pv 0)) (pg_name (i := 2) sc.nd rfl (Or.inl rfl)) (pss_cons (ps_set (i := 3) sc.nd rfl (Or.inl rfl) (pe_callTy call_int1 (by rfl) b_int (by decide +kernel) (pa_cons (pv 2) pa_nil))) (pss_one (ps_if (pt_cmpR u_ge (pv 3) (pe_op u_pow pe_int pe_int) (nomark _)) (pss_one (ps_for (passes_of rfl) rfl (pi_range1 (by rfl) b_range (pa_cons pe_int pa_nil)) (pg_name (i := 4) sc.nd rfl (Or.inl rfl)) (pss_cons (ps_expr (pe_bm PySem.F.plainAttrs_list PySem.F.slot_list_append PySem.F.type_list_append mt_append (pv 1) (pa_cons (pe_op u_mod (pe_callTy call_int1 (by rfl) b_int (by decide +kernel) (pa_cons (pv 3) pa_nil)) pe_int) pa_nil))) (pss_cons (ps_set (i := 3) sc.nd rfl (Or.inl rfl) (pe_callTy call_int1 (by rfl) b_int (by decide +kernel) (pa_cons (pe_op u_div (pv 3) pe_int) pa_nil))) (pss_one (ps_if (pt_cmpR (op_eqD (eqU hr)) (pv 3) pe_int (nomark _)) (pss_one ps_break) pss_nil)))))) (pss_one (ps_set (i := 1) sc.nd rfl (Or.inl rfl) (pe_op u_add (pv 1) (pe_lst (pa_cons (pe_op u_mod (pe_callTy call_int1 (by rfl) b_int (by decide +kernel) (pa_cons (pv 3) pa_nil)) pe_int) (pa_cons (pe_op u_mod (pe_callTy call_int1 (by rfl) b_int (by decide +kernel) (pa_cons (pe_op u_div (pv 3) pe_int) pa_nil)) pe_int) pa_nil)))))))))) (pss_cons (ps_set (i := 5) sc.nd rfl (Or.inl rfl) pe_int) (pss_cons (ps_for (passes_of rfl) rfl (pi_seq (pv 0)) (pg_name (i := 2) sc.nd rfl (Or.inl rfl)) (pss_one (ps_set (i := 5) sc.nd rfl (Or.inl rfl) (pe_op u_mod (pe_op u_add (pe_op u_mul (pv 5) pe_int) (pe_callTy call_int1 (by rfl) b_int (by decide +kernel) (pa_cons (pv 2) pa_nil))) pe_int)))) (pss_cons (ps_for (passes_of rfl) rfl (pi_range1 (by rfl) b_range (pa_cons pe_int pa_nil)) (pg_name (i := 4) sc.nd rfl (Or.inl rfl)) (pss_cons (ps_set (i := 5) sc.nd rfl (Or.inl rfl) (pe_op u_mod (pe_op u_add (pe_op u_mul (pv 5) pe_int) pe_int) pe_int)) (pss_one (ps_expr (pe_bm PySem.F.plainAttrs_list PySem.F.slot_list_append PySem.F.type_list_append mt_append (pv 1) (pa_cons (pe_op u_mod (pe_callTy call_int1 (by rfl) b_int (by decide +kernel) (pa_cons (pe_op u_div (pv 5) pe_int) pa_nil)) pe_int) pa_nil)))))) (pss_one (ps_ret (pv 1)))))))),
    fun ns => (ssa_seq (SS.a (ss_set (se_lst sea_nil) (by decide))) (ssa_seq (ssa_forS (slots := [2]) sg_name (by decide) (by decide) (ss_seq (ss_set (se_p (sp_cb cs_int (sa_cons sp_var sa_nil))) (by decide)) (ss_if (set_p (sp_test (sp_op os_ge sp_var (sp_op os_pow sp_int sp_int)))) (ss_for (slots := [4]) (si_r1 (sea_cons (se_p sp_int) sea_nil)) sg_name (by decide) (ss_seq (ss_app (se_p (sp_op os_mod (sp_cb cs_int (sa_cons sp_var sa_nil)) sp_int))) (ss_seq (ss_set (se_p (sp_cb cs_int (sa_cons (sp_op os_div sp_var sp_int) sa_nil))) (by decide)) (ss_if (set_p (sp_test (sp_op os_eq sp_var sp_int))) ss_bk ss_nil)))) (ss_set (se_op oe_add se_var (se_lst (sea_cons (se_p (sp_op os_mod (sp_cb cs_int (sa_cons sp_var sa_nil)) sp_int)) (sea_cons (se_p (sp_op os_mod (sp_cb cs_int (sa_cons (sp_op os_div sp_var sp_int) sa_nil)) sp_int)) sea_nil)))) (by decide))))) (ssa_seq (SS.a (ss_set (se_p sp_int) (by decide))) (ssa_seq (ssa_forS (slots := [2]) sg_name (by decide) (by decide) (ss_set (se_p (sp_op os_mod (sp_op os_add (sp_op os_mul sp_var sp_int) (sp_cb cs_int (sa_cons sp_var sa_nil))) sp_int)) (by decide))) (ssa_seq (SS.a (ss_for (slots := [4]) (si_r1 (sea_cons (se_p sp_int) sea_nil)) sg_name (by decide) (ss_seq (ss_set (se_p (sp_op os_mod (sp_op os_add (sp_op os_mul sp_var sp_int) sp_int) sp_int)) (by decide)) (ss_app (se_p (sp_op os_mod (sp_cb cs_int (sa_cons (sp_op os_div sp_var sp_int) sa_nil)) sp_int)))))) (SS.a (ss_ret se_mv)))))))⟩
theorem sc_law_stream : FnScope ["script"] ["script"] (defScope s_law_stream) := ⟨rfl, rfl, rfl, by decide +kernel, rfl, by decide +kernel, by decide +kernel⟩
theorem ok_law_stream (dd : Dd K mg "_law_stream" s_law_stream ["script"]) (g_law_pool : Fn P w K mg base "_law_pool" 1 ["script"] (spSc ct K F_law_pool)) : Fn P w K mg base "_law_stream" 2 ["script"] (spSc ct K F_law_stream) := by
  obtain ⟨_, _, G_law_pool, m_law_pool, k_law_pool, d_law_pool⟩ := g_law_pool
  have sc := sc_law_stream
  refine fn_defS (k := 1) dd sc_law_stream (by decide) fun f cdv A outer s H E hr => ?_
  exact ⟨_, (pss_one (ps_ret (pe_op u_add (pe_lst (pa_cons pe_int pa_nil)) (pe_callS G_law_pool (hr.mono (by omega)) (by rfl) m_law_pool k_law_pool d_law_pool (fun σ => passAt (takes_of rfl rfl rfl rfl) σ) (pa_cons (pv 0) pa_nil))))),
    fun ns => ssa_ret (by decide) (sea_op oe_add (se_lst (sea_cons (se_p sp_int) sea_nil)) sea_callS)⟩
/-! law_pick: 0 pool, 1 many, 2 place -/
theorem sc_law_pick : FnScope ["pool", "many", "place"] ["pool", "many"] (defScope s_law_pick) := ⟨rfl, rfl, rfl, by decide +kernel, rfl, by decide +kernel, by decide +kernel⟩
theorem ok_law_pick (dd : Dd K mg "_law_pick" s_law_pick ["pool", "many"]) (b_int : mg "int" = none) (b_len : mg "len" = none) :
    Fn P w K mg base "_law_pick" (1) ["pool", "many"] (spM ct 2 F_law_pick) := by
  have sc := sc_law_pick
  refine fn_defI (k := 0) dd sc_law_pick (by decide) fun f cdv A outer s H E hr => ?_
  exact ⟨_, (pss_cons (ps_set (i := 2) sc.nd rfl (Or.inl rfl) (pe_ix ix_seq (pv 0) pe_int (fun _ _ => rfl))) (pss_cons (ps_asg (pe_op u_add (pv 2) pe_int) (pg_sub (pv 0) pe_int set_list)) (pss_cons (ps_if (pt_cmpR (op_eqD (eqU hr)) (pe_ix ix_seq (pv 0) pe_int (fun _ _ => rfl)) (pe_callB call_len (by rfl) b_len (by decide +kernel) (pa_cons (pv 0) pa_nil)) (nomark _)) (pss_one (ps_asg pe_int (pg_sub (pv 0) pe_int set_list))) pss_nil) (pss_one (ps_ret (pe_op u_mod (pe_callTy call_int1 (by rfl) b_int (by decide +kernel) (pa_cons (pe_ix ix_seq (pv 0) (pv 2) (fun _ _ => rfl)) pa_nil)) (pv 1))))))),
    (ss_seq (ss_set (se_get (sv_ix sv_var sp_int)) (by decide)) (ss_seq (ss_store (se_p (sp_op os_add sp_var sp_int)) sp_int) (ss_seq (ss_if (set_p (sp_test (sp_op os_eq (sp_op os_ix sp_var sp_int) (sp_cb cs_len (sa_cons sp_var sa_nil))))) (ss_store (se_p sp_int) sp_int) ss_nil) (ss_ret (se_p (sp_op os_mod (sp_cb cs_int (sa_cons (sp_op os_ix sp_var sp_var) sa_nil)) sp_var))))))⟩
/-! law_then: 0 p, 1 q, 2 x -/
theorem sc_law_then : FnScope ["p", "q", "x"] ["p", "q"] (defScope s_law_then) := ⟨rfl, rfl, rfl, by decide +kernel, rfl, by decide +kernel, by decide +kernel⟩
theorem ok_law_then (dd : Dd K mg "_law_then" s_law_then ["p", "q"]) :
    Fn P w K mg base "_law_then" (1) ["p", "q"] (spM ct 2 F_law_then) := by
  have sc := sc_law_then
  refine fn_def (k := 0) dd sc_law_then fun f cdv A outer s H E hr => ?_
  exact ⟨_, (pss_one (ps_ret (pe_lc (own := [("x", 2)]) rfl sc.nd (pi_seq (pv 0)) (blkOk_by (N := ["p", "q", "x"]) (sc := defScope s_law_then) (by decide +kernel)) (fun _ _ _ _ _ => (pg_name (i := 2) sc.nd rfl (by first | exact Or.inl rfl | exact Or.inr rfl))) (fun _ _ _ _ _ => pts_nil) (fun _ _ _ _ _ => (pe_ix ix_seq (pv 1) (pv 2) (fun _ _ => rfl)))))),
    (ss_ret (se_lc (slots := [2]) (si_e se_var) sg_name set_yes (se_get (sv_ix sv_var sp_var))))⟩
/-! law_back: 0 p, 1 found, 2 x -/
theorem sc_law_back : FnScope ["p", "found", "x"] ["p"] (defScope s_law_back) := ⟨rfl, rfl, rfl, by decide +kernel, rfl, by decide +kernel, by decide +kernel⟩
theorem ok_law_back (dd : Dd K mg "_law_back" s_law_back ["p"]) (b_len : mg "len" = none) (b_range : mg "range" = none) :
    Fn P w K mg base "_law_back" (1) ["p"] (spM ct 1 F_law_back) := by
  have sc := sc_law_back
  refine fn_def (k := 0) dd sc_law_back fun f cdv A outer s H E hr => ?_
  exact ⟨_, (pss_cons (ps_set (i := 1) sc.nd rfl (Or.inl rfl) (pe_op u_mul (pe_lst (pa_cons pe_int pa_nil)) (pe_callB call_len (by rfl) b_len (by decide +kernel) (pa_cons (pv 0) pa_nil)))) (pss_cons (ps_for (passes_of rfl) rfl (pi_range1 (by rfl) b_range (pa_cons (pe_callB call_len (by rfl) b_len (by decide +kernel) (pa_cons (pv 0) pa_nil)) pa_nil)) (pg_name (i := 2) sc.nd rfl (Or.inl rfl)) (pss_one (ps_asg (pv 2) (pg_sub (pv 1) (pe_ix ix_seq (pv 0) (pv 2) (fun _ _ => rfl)) set_list)))) (pss_one (ps_ret (pv 1))))),
    (ss_seq (ss_set (se_op oe_repU (se_lst (sea_cons (se_p sp_int) sea_nil)) (se_p (sp_cb cs_len (sa_cons sp_var sa_nil)))) (by decide)) (ss_seq (ss_for (slots := [2]) (si_r1 (sea_cons (se_p (sp_cb cs_len (sa_cons sp_var sa_nil))) sea_nil)) sg_name (by decide) (ss_store se_var (sp_op os_ix sp_var sp_var))) (ss_ret se_mv)))⟩
/-! law_turning: 0 pool, 1 n, 2 left, 3 found, 4 x, 5 at -/
theorem sc_law_turning : FnScope ["pool", "n", "left", "found", "x", "at"] ["pool", "n"] (defScope s_law_turning) := ⟨rfl, rfl, rfl, by decide +kernel, rfl, by decide +kernel, by decide +kernel⟩
theorem ok_law_turning (dd : Dd K mg "_law_turning" s_law_turning ["pool", "n"]) (b_len : mg "len" = none) (b_list : mg "list" = none) (b_range : mg "range" = none) (g_law_pick : Fn P w K mg base "_law_pick" 1 ["pool", "many"] (spM ct 2 F_law_pick)) :
    Fn P w K mg base "_law_turning" (2) ["pool", "n"] (spM ct 2 F_law_turning) := by
  obtain ⟨_, _, G_law_pick, m_law_pick, k_law_pick, d_law_pick⟩ := g_law_pick
  have sc := sc_law_turning
  refine fn_defI (k := 1) dd sc_law_turning (by decide) fun f cdv A outer s H E hr => ?_
  exact ⟨_, (pss_cons (ps_par (by rfl) sc.nd rfl rfl (by decide) rfl rfl (pa_cons (pe_listRg rfl (by rfl) b_list (prg_1 (by rfl) b_range (pv 1))) (pa_cons (pe_lst pa_nil) pa_nil)) (by rfl)) (pss_cons (ps_for (passes_of rfl) rfl (pi_range1 (by rfl) b_range (pa_cons (pv 1) pa_nil)) (pg_name (i := 4) sc.nd rfl (Or.inl rfl)) (pss_cons (ps_set (i := 5) sc.nd rfl (Or.inl rfl) (pe_callS G_law_pick (hr.mono (by omega)) (by rfl) m_law_pick k_law_pick d_law_pick (fun σ => passAt (takes_of rfl rfl rfl rfl) σ) (pa_cons (pv 0) (pa_cons (pe_callB call_len (by rfl) b_len (by decide +kernel) (pa_cons (pv 2) pa_nil)) pa_nil)))) (pss_cons (ps_expr (pe_bm PySem.F.plainAttrs_list PySem.F.slot_list_append PySem.F.type_list_append mt_append (pv 3) (pa_cons (pe_ix ix_seq (pv 2) (pv 5) (fun _ _ => rfl)) pa_nil))) (pss_one (ps_set (i := 2) sc.nd rfl (Or.inl rfl) (pe_op u_add (pe_slice sl_list (pv 2) po_none (po_some (pv 5))) (pe_slice sl_list (pv 2) (po_some (pe_op u_add (pv 5) pe_int)) po_none))))))) (pss_one (ps_ret (pv 3))))),
    (ss_seq (ss_par (sea_cons (se_rg1 sp_var) (sea_cons (se_lst sea_nil) sea_nil)) (by decide) (by decide)) (ss_seq (ss_for (slots := [4]) (si_r1 (sea_cons se_var sea_nil)) sg_name (by decide) (ss_seq (ss_set (se_callI (sea_cons (se_p (sp_cb cs_len (sa_cons sp_var sa_nil))) sea_nil)) (by decide)) (ss_seq (ss_app (se_get (sv_ix sv_var sp_var))) (ss_set (se_op oe_add (se_sl sv_var spo_no (spo_yes sp_var)) (se_sl sv_var (spo_yes (sp_op os_add sp_var sp_int)) spo_no)) (by decide))))) (ss_ret se_mv)))⟩
/-! law_factorial: 0 n, 1 found, 2 k -/
theorem sc_law_factorial : FnScope ["n", "found", "k"] ["n"] (defScope s_law_factorial) := ⟨rfl, rfl, rfl, by decide +kernel, rfl, by decide +kernel, by decide +kernel⟩
theorem ok_law_factorial (dd : Dd K mg "_law_factorial" s_law_factorial ["n"]) (b_range : mg "range" = none) :
    Fn P w K mg base "_law_factorial" (1) ["n"] (spM ct 1 F_law_factorial) := by
  have sc := sc_law_factorial
  refine fn_def (k := 0) dd sc_law_factorial fun f cdv A outer s H E hr => ?_
  exact ⟨_, (pss_cons (ps_set (i := 1) sc.nd rfl (Or.inl rfl) pe_int) (pss_cons (ps_for (passes_of rfl) rfl (pi_range2 (by rfl) b_range (pa_cons pe_int (pa_cons (pe_op u_add (pv 0) pe_int) pa_nil))) (pg_name (i := 2) sc.nd rfl (Or.inl rfl)) (pss_one (ps_set (i := 1) sc.nd rfl (Or.inl rfl) (pe_op u_mul (pv 1) (pv 2))))) (pss_one (ps_ret (pv 1))))),
    (ss_seq (ss_set (se_p sp_int) (by decide)) (ss_seq (ss_for (slots := [2]) (si_r2 (sea_cons (se_p sp_int) (sea_cons (se_p (sp_op os_add sp_var sp_int)) sea_nil))) sg_name (by decide) (ss_set (se_p (sp_op os_mul sp_var sp_var)) (by decide))) (ss_ret se_mv)))⟩
/-! law_same: 0 one, 1 other, 2 k -/
theorem sc_law_same : FnScope ["one", "other", "k"] ["one", "other"] (defScope s_law_same) := ⟨rfl, rfl, rfl, by decide +kernel, rfl, by decide +kernel, by decide +kernel⟩
theorem ok_law_same (dd : Dd K mg "_law_same" s_law_same ["one", "other"]) (b_all : mg "all" = none) (b_bool : mg "bool" = none) (b_int : mg "int" = none) (b_isinstance : mg "isinstance" = none) (b_len : mg "len" = none) (b_list : mg "list" = none) (b_range : mg "range" = none) (b_str : mg "str" = none) (b_tuple : mg "tuple" = none) {F : FM} {lv : Nat} (hlv : 1 ≤ lv + 1) (g_law_same : Fn P w K mg base "_law_same" lv ["one", "other"] (spM ct 2 F)) :
    Fn P w K mg base "_law_same" (lv + 1) ["one", "other"] (spM ct 2 (mFun 2 3 (m_law_same F))) := by
  obtain ⟨_, _, G_law_same, m_law_same, k_law_same, d_law_same⟩ := g_law_same
  have sc := sc_law_same
  refine fn_def (k := lv) dd sc_law_same fun f cdv A outer s H E hr => ?_
  exact ⟨_, (pss_cons (ps_if (pt_cmpR op_isN (pv 1) pe_non (nomark _)) (pss_one (ps_ret (pe_cmpR op_isN (pv 0) pe_non (nomark _)))) pss_nil) (pss_cons (ps_if (pt_val (pe_callB call_isi (by rfl) b_isinstance (by decide +kernel) (pa_cons (pv 1) (pa_cons (pe_bltn (v := .ty "bool") (by rfl) b_bool (by decide +kernel) rfl) pa_nil)))) (pss_one (ps_ret (pe_and (pe_callB call_isi (by rfl) b_isinstance (by decide +kernel) (pa_cons (pv 0) (pa_cons (pe_bltn (v := .ty "bool") (by rfl) b_bool (by decide +kernel) rfl) pa_nil))) (pe_one (pe_cmpR (op_eqD (eqU hr)) (pv 0) (pv 1) (nomark _)))))) pss_nil) (pss_cons (ps_if (pt_val (pe_callB call_isi (by rfl) b_isinstance (by decide +kernel) (pa_cons (pv 1) (pa_cons (pe_bltn (v := .ty "int") (by rfl) b_int (by decide +kernel) rfl) pa_nil)))) (pss_one (ps_ret (pe_and (pe_callB call_isi (by rfl) b_isinstance (by decide +kernel) (pa_cons (pv 0) (pa_cons (pe_bltn (v := .ty "int") (by rfl) b_int (by decide +kernel) rfl) pa_nil))) (pe_and (pe_not (pe_callB call_isi (by rfl) b_isinstance (by decide +kernel) (pa_cons (pv 0) (pa_cons (pe_bltn (v := .ty "bool") (by rfl) b_bool (by decide +kernel) rfl) pa_nil)))) (pe_one (pe_cmpR (op_eqD (eqU hr)) (pv 0) (pv 1) (nomark _))))))) pss_nil) (pss_cons (ps_if (pt_val (pe_callB call_isi (by rfl) b_isinstance (by decide +kernel) (pa_cons (pv 1) (pa_cons (pe_bltn (v := .ty "str") (by rfl) b_str (by decide +kernel) rfl) pa_nil)))) (pss_one (ps_ret (pe_and (pe_callB call_isi (by rfl) b_isinstance (by decide +kernel) (pa_cons (pv 0) (pa_cons (pe_bltn (v := .ty "str") (by rfl) b_str (by decide +kernel) rfl) pa_nil))) (pe_one (pe_cmpR (op_eqD (eqU hr)) (pv 0) (pv 1) (nomark _)))))) pss_nil) (pss_cons (ps_if (PW.pt (pw_or (pt_cmpR (op_neD (eqU hr)) (pe_callB call_isi (by rfl) b_isinstance (by decide +kernel) (pa_cons (pv 0) (pa_cons (pe_bltn (v := .ty "list") (by rfl) b_list (by decide +kernel) rfl) pa_nil))) (pe_callB call_isi (by rfl) b_isinstance (by decide +kernel) (pa_cons (pv 1) (pa_cons (pe_bltn (v := .ty "list") (by rfl) b_list (by decide +kernel) rfl) pa_nil))) (nomark _)) (pw_or (pt_not (pt_val (pe_callB call_isiT (by rfl) b_isinstance (by decide +kernel) (pa_cons (pv 0) (pa_cons (pe_tup (pa_cons (pe_bltn (v := .ty "list") (by rfl) b_list (by decide +kernel) rfl) (pa_cons (pe_bltn (v := .ty "tuple") (by rfl) b_tuple (by decide +kernel) rfl) pa_nil))) pa_nil))))) (pw_or1 (pt_cmpR (op_neD (eqU hr)) (pe_callB call_len (by rfl) b_len (by decide +kernel) (pa_cons (pv 0) pa_nil)) (pe_callB call_len (by rfl) b_len (by decide +kernel) (pa_cons (pv 1) pa_nil)) (nomark _)))))) (pss_one (ps_ret pe_bl)) pss_nil) (pss_one (ps_ret (pe_callB (cr_all rfl) (by rfl) b_all (by decide +kernel) (pa_cons (pe_lc (own := [("k", 2)]) rfl sc.nd (pi_range1 (by rfl) b_range (pa_cons (pe_callB call_len (by rfl) b_len (by decide +kernel) (pa_cons (pv 1) pa_nil)) pa_nil)) (blkOk_by (N := ["one", "other", "k"]) (sc := defScope s_law_same) (by decide +kernel)) (fun _ _ _ _ _ => (pg_name (i := 2) sc.nd rfl (by first | exact Or.inl rfl | exact Or.inr rfl))) (fun _ _ _ _ _ => pts_nil) (fun _ _ _ _ _ => (pe_call G_law_same (hr.mono (by omega)) (by rfl) m_law_same k_law_same d_law_same .nil passL (pa_cons (pe_ix ix_seq (pv 0) (pv 2) (fun _ _ => rfl)) (pa_cons (pe_ix ix_seq (pv 1) (pv 2) (fun _ _ => rfl)) pa_nil))))) pa_nil))))))))),
    (ss_seq (ss_if (set_p (sp_test (sp_op os_isN sp_var sp_non))) (ss_ret (se_p (sp_op os_isN sp_var sp_non))) ss_nil) (ss_seq (ss_if (set_p (sp_b (sp_isi Ty.bool rfl sp_var))) (ss_ret (se_p (sp_andV (sp_isi Ty.bool rfl sp_var) (sp_op os_eq sp_var sp_var)))) ss_nil) (ss_seq (ss_if (set_p (sp_b (sp_isi Ty.int rfl sp_var))) (ss_ret (se_p (sp_andV (sp_isi Ty.int rfl sp_var) (sp_andV (sp_notV (sp_isi Ty.bool rfl sp_var)) (sp_op os_eq sp_var sp_var))))) ss_nil) (ss_seq (ss_if (set_p (sp_b (sp_isi Ty.str rfl sp_var))) (ss_ret (se_p (sp_andV (sp_isi Ty.str rfl sp_var) (sp_op os_eq sp_var sp_var)))) ss_nil) (ss_seq (ss_if (set_p (st_or (sp_test (sp_op os_ne (sp_isi Ty.list rfl sp_var) (sp_isi Ty.list rfl sp_var))) (st_or (st_not (sp_b (sp_isiM [.list, .tuple] rfl (by decide) sp_var))) (sp_test (sp_op os_ne (sp_cb cs_len (sa_cons sp_var sa_nil)) (sp_cb cs_len (sa_cons sp_var sa_nil))))))) (ss_ret (se_p sp_bl)) ss_nil) (ss_ret (se_cb (ce_s cs_all) (sea_cons (se_lc (slots := [2]) (si_r1 (sea_cons (se_p (sp_cb cs_len (sa_cons sp_var sa_nil))) sea_nil)) sg_name set_yes (se_p (sp_call0 (sa_cons (sp_op os_ix sp_var sp_var) (sa_cons (sp_op os_ix sp_var sp_var) sa_nil))))) sea_nil))))))))⟩
theorem all_law_same (dd : Dd K mg "_law_same" s_law_same ["one", "other"]) (b_all : mg "all" = none) (b_bool : mg "bool" = none) (b_int : mg "int" = none) (b_isinstance : mg "isinstance" = none) (b_len : mg "len" = none) (b_list : mg "list" = none) (b_range : mg "range" = none) (b_str : mg "str" = none) (b_tuple : mg "tuple" = none) : ∀ k : Nat, Fn P w K mg base "_law_same" (0 + k) ["one", "other"] (spM ct 2 (F_law_same k))
  | 0 => fn_bad dd
  | k + 1 => ok_law_same dd b_all b_bool b_int b_isinstance b_len b_list b_range b_str b_tuple (by omega) (all_law_same dd b_all b_bool b_int b_isinstance b_len b_list b_range b_str b_tuple k)
/-! law_lengths: 0 pool, 1 n, 2 kind, 3 alike, 4 at, 5 left, 6 found, 7 turn, 8 size -/
theorem sc_law_lengths : FnScope ["pool", "n", "kind", "alike", "at", "left", "found", "turn", "size"] ["pool", "n"] (defScope s_law_lengths) := ⟨rfl, rfl, rfl, by decide +kernel, rfl, by decide +kernel, by decide +kernel⟩
theorem ok_law_lengths (dd : Dd K mg "_law_lengths" s_law_lengths ["pool", "n"]) (b_int : mg "int" = none) (b_max : mg "max" = none) (b_min : mg "min" = none) (b_range : mg "range" = none) (g_law_pick : Fn P w K mg base "_law_pick" 1 ["pool", "many"] (spM ct 2 F_law_pick)) :
    Fn P w K mg base "_law_lengths" (2) ["pool", "n"] (spM ct 2 F_law_lengths) := by
  obtain ⟨_, _, G_law_pick, m_law_pick, k_law_pick, d_law_pick⟩ := g_law_pick
  have sc := sc_law_lengths
  refine fn_defI (k := 1) dd sc_law_lengths (by decide) fun f cdv A outer s H E hr => ?_
  exact ⟨_, (pss_cons (ps_par3 (by rfl) sc.nd rfl rfl rfl (by decide) (by decide) (by decide) rfl rfl rfl (pa_cons (pe_callS G_law_pick (hr.mono (by omega)) (by rfl) m_law_pick k_law_pick d_law_pick (fun σ => passAt (takes_of rfl rfl rfl rfl) σ) (pa_cons (pv 0) (pa_cons pe_int pa_nil))) (pa_cons (pe_op u_add pe_int (pe_callS G_law_pick (hr.mono (by omega)) (by rfl) m_law_pick k_law_pick d_law_pick (fun σ => passAt (takes_of rfl rfl rfl rfl) σ) (pa_cons (pv 0) (pa_cons (pe_callB (call_max2 rfl) (by rfl) b_max (by decide +kernel) (pa_cons pe_int (pa_cons (pv 1) pa_nil))) pa_nil)))) (pa_cons (pe_op u_mul (pe_callS G_law_pick (hr.mono (by omega)) (by rfl) m_law_pick k_law_pick d_law_pick (fun σ => passAt (takes_of rfl rfl rfl rfl) σ) (pa_cons (pv 0) (pa_cons pe_int pa_nil))) (pe_callS G_law_pick (hr.mono (by omega)) (by rfl) m_law_pick k_law_pick d_law_pick (fun σ => passAt (takes_of rfl rfl rfl rfl) σ) (pa_cons (pv 0) (pa_cons pe_int pa_nil)))) pa_nil))) (by rfl)) (pss_cons (ps_par (by rfl) sc.nd rfl rfl (by decide) rfl rfl (pa_cons (pv 1) (pa_cons (pe_lst pa_nil) pa_nil)) (by rfl)) (pss_cons (ps_for (passes_of rfl) rfl (pi_range1 (by rfl) b_range (pa_cons (pv 1) pa_nil)) (pg_name (i := 7) sc.nd rfl (Or.inl rfl)) (pss_one (ps_if (pt_cmpR u_gt (pv 5) pe_int (nomark _)) (pss_cons (ps_set (i := 8) sc.nd rfl (Or.inl rfl) (pe_ix ix_seq (pe_lst (pa_cons (pv 3) (pa_cons (pv 5) (pa_cons (pe_ix ix_seq (pe_lst (pa_cons pe_int (pa_cons pe_int (pa_cons pe_int (pa_cons pe_int (pa_cons pe_int (pa_cons pe_int (pa_cons pe_int (pa_cons pe_int pa_nil))))))))) (pe_op u_mod (pe_callTy call_int1 (by rfl) b_int (by decide +kernel) (pa_cons (pe_op u_add (pv 4) (pv 7)) pa_nil)) pe_int) (fun _ _ => rfl)) (pa_cons pe_int (pa_cons pe_int pa_nil)))))) (pv 2) (fun _ _ => rfl))) (pss_cons (ps_if (pt_cmpR u_gt (pv 2) pe_int (nomark _)) (pss_one (ps_set (i := 8) sc.nd rfl (Or.inl rfl) (pe_op u_add pe_int (pe_callS G_law_pick (hr.mono (by omega)) (by rfl) m_law_pick k_law_pick d_law_pick (fun σ => passAt (takes_of rfl rfl rfl rfl) σ) (pa_cons (pv 0) (pa_cons (pe_ix ix_seq (pe_lst (pa_cons (pv 5) (pa_cons (pe_callB (call_min2 rfl) (by rfl) b_min (by decide +kernel) (pa_cons (pv 5) (pa_cons pe_int pa_nil))) pa_nil))) (pe_op u_sub (pv 2) pe_int) (fun _ _ => rfl)) pa_nil)))))) pss_nil) (pss_cons (ps_expr (pe_bm PySem.F.plainAttrs_list PySem.F.slot_list_append PySem.F.type_list_append mt_append (pv 6) (pa_cons (pe_callB (call_min2 rfl) (by rfl) b_min (by decide +kernel) (pa_cons (pv 8) (pa_cons (pv 5) pa_nil))) pa_nil))) (pss_one (ps_set (i := 5) sc.nd rfl (Or.inl rfl) (pe_op u_sub (pv 5) (pe_ix ix_seq (pv 6) (pe_un un_neg pe_int) (fun _ _ => rfl)))))))) pss_nil))) (pss_one (ps_ret (pv 6)))))),
    (ss_seq (ss_par3 (sea_cons (se_callI (sea_cons (se_p sp_int) sea_nil)) (sea_cons (se_op oe_add (se_p sp_int) (se_callI (sea_cons (se_p (sp_cb cs_max2 (sa_cons sp_int (sa_cons sp_var sa_nil)))) sea_nil))) (sea_cons (se_op (oe_s os_mul) (se_callI (sea_cons (se_p sp_int) sea_nil)) (se_callI (sea_cons (se_p sp_int) sea_nil))) sea_nil))) (by decide) (by decide) (by decide)) (ss_seq (ss_par (sea_cons se_var (sea_cons (se_lst sea_nil) sea_nil)) (by decide) (by decide)) (ss_seq (ss_for (slots := [7]) (si_r1 (sea_cons se_var sea_nil)) sg_name (by decide) (ss_if (set_p (sp_test (sp_op os_gt sp_var sp_int))) (ss_seq (ss_set (se_p (sp_op os_ix (sp_lst (sa_cons sp_var (sa_cons sp_var (sa_cons (sp_op os_ix (sp_lst (sa_cons sp_int (sa_cons sp_int (sa_cons sp_int (sa_cons sp_int (sa_cons sp_int (sa_cons sp_int (sa_cons sp_int (sa_cons sp_int sa_nil))))))))) (sp_op os_mod (sp_cb cs_int (sa_cons (sp_op os_add sp_var sp_var) sa_nil)) sp_int)) (sa_cons sp_int (sa_cons sp_int sa_nil)))))) sp_var)) (by decide)) (ss_seq (ss_if (set_p (sp_test (sp_op os_gt sp_var sp_int))) (ss_set (se_op oe_add (se_p sp_int) (se_callI (sea_cons (se_p (sp_op os_ix (sp_lst (sa_cons sp_var (sa_cons (sp_cb cs_min2 (sa_cons sp_var (sa_cons sp_int sa_nil))) sa_nil))) (sp_op os_sub sp_var sp_int))) sea_nil))) (by decide)) ss_nil) (ss_seq (ss_app (se_p (sp_cb cs_min2 (sa_cons sp_var (sa_cons sp_var sa_nil))))) (ss_set (se_p (sp_op os_sub sp_var (sp_op os_ix sp_var (sp_un us_neg sp_int)))) (by decide))))) ss_nil)) (ss_ret se_mv))))⟩
/-! law_shaped: 0 pool, 1 n, 2 places, 3 found, 4 at, 5 size, 6 k -/
theorem sc_law_shaped : FnScope ["pool", "n", "places", "found", "at", "size", "k"] ["pool", "n"] (defScope s_law_shaped) := ⟨rfl, rfl, rfl, by decide +kernel, rfl, by decide +kernel, by decide +kernel⟩
theorem ok_law_shaped (dd : Dd K mg "_law_shaped" s_law_shaped ["pool", "n"]) (b_int : mg "int" = none) (b_list : mg "list" = none) (b_range : mg "range" = none) (g_law_lengths : Fn P w K mg base "_law_lengths" 2 ["pool", "n"] (spM ct 2 F_law_lengths)) (g_law_turning : Fn P w K mg base "_law_turning" 2 ["pool", "n"] (spM ct 2 F_law_turning)) :
    Fn P w K mg base "_law_shaped" (3) ["pool", "n"] (spM ct 2 F_law_shaped) := by
  obtain ⟨_, _, G_law_lengths, m_law_lengths, k_law_lengths, d_law_lengths⟩ := g_law_lengths
  obtain ⟨_, _, G_law_turning, m_law_turning, k_law_turning, d_law_turning⟩ := g_law_turning
  have sc := sc_law_shaped
  refine fn_defI (k := 2) dd sc_law_shaped (by decide) fun f cdv A outer s H E hr => ?_
  exact ⟨_, (pss_cons (ps_par3 (by rfl) sc.nd rfl rfl rfl (by decide) (by decide) (by decide) rfl rfl rfl (pa_cons (pe_callS G_law_turning (hr.mono (by omega)) (by rfl) m_law_turning k_law_turning d_law_turning (fun σ => passAt (takes_of rfl rfl rfl rfl) σ) (pa_cons (pv 0) (pa_cons (pv 1) pa_nil))) (pa_cons (pe_listRg rfl (by rfl) b_list (prg_1 (by rfl) b_range (pv 1))) (pa_cons pe_int pa_nil))) (by rfl)) (pss_cons (ps_for (passes_of rfl) rfl (pi_seq (pe_callS G_law_lengths (hr.mono (by omega)) (by rfl) m_law_lengths k_law_lengths d_law_lengths (fun σ => passAt (takes_of rfl rfl rfl rfl) σ) (pa_cons (pv 0) (pa_cons (pv 1) pa_nil)))) (pg_name (i := 5) sc.nd rfl (Or.inl rfl)) (pss_cons (ps_for (passes_of rfl) rfl (pi_range1 (by rfl) b_range (pa_cons (pv 5) pa_nil)) (pg_name (i := 6) sc.nd rfl (Or.inl rfl)) (pss_one (ps_asg (pe_ix ix_seq (pv 2) (pe_op u_add (pv 4) (pe_op u_mod (pe_callTy call_int1 (by rfl) b_int (by decide +kernel) (pa_cons (pe_op u_add (pv 6) pe_int) pa_nil)) (pv 5))) (fun _ _ => rfl)) (pg_sub (pv 3) (pe_ix ix_seq (pv 2) (pe_op u_add (pv 4) (pv 6)) (fun _ _ => rfl)) set_list)))) (pss_one (ps_set (i := 4) sc.nd rfl (Or.inl rfl) (pe_op u_add (pv 4) (pv 5)))))) (pss_one (ps_ret (pv 3))))),
    (ss_seq (ss_par3 (sea_cons (se_callI (sea_cons se_var sea_nil)) (sea_cons (se_rg1 sp_var) (sea_cons (se_p sp_int) sea_nil))) (by decide) (by decide) (by decide)) (ss_seq (ss_for (slots := [5]) (si_e (se_callI (sea_cons se_var sea_nil))) sg_name (by decide) (ss_seq (ss_for (slots := [6]) (si_r1 (sea_cons se_var sea_nil)) sg_name (by decide) (ss_store (se_get (sv_ix sv_var (sp_op os_add sp_var (sp_op os_mod (sp_cb cs_int (sa_cons (sp_op os_add sp_var sp_int) sa_nil)) sp_var)))) (sp_op os_ix sp_var (sp_op os_add sp_var sp_var)))) (ss_set (se_p (sp_op os_add sp_var sp_var)) (by decide)))) (ss_ret se_mv)))⟩
/-! law_any: 0 pool, 1 n -/
theorem sc_law_any : FnScope ["pool", "n"] ["pool", "n"] (defScope s_law_any) := ⟨rfl, rfl, rfl, by decide +kernel, rfl, by decide +kernel, by decide +kernel⟩
theorem ok_law_any (dd : Dd K mg "_law_any" s_law_any ["pool", "n"]) (g_law_shaped : Fn P w K mg base "_law_shaped" 3 ["pool", "n"] (spM ct 2 F_law_shaped)) (g_law_turning : Fn P w K mg base "_law_turning" 2 ["pool", "n"] (spM ct 2 F_law_turning)) (g_law_pick : Fn P w K mg base "_law_pick" 1 ["pool", "many"] (spM ct 2 F_law_pick)) :
    Fn P w K mg base "_law_any" (4) ["pool", "n"] (spM ct 2 F_law_any) := by
  obtain ⟨_, _, G_law_shaped, m_law_shaped, k_law_shaped, d_law_shaped⟩ := g_law_shaped
  obtain ⟨_, _, G_law_turning, m_law_turning, k_law_turning, d_law_turning⟩ := g_law_turning
  obtain ⟨_, _, G_law_pick, m_law_pick, k_law_pick, d_law_pick⟩ := g_law_pick
  have sc := sc_law_any
  refine fn_defI (k := 3) dd sc_law_any (by decide) fun f cdv A outer s H E hr => ?_
  exact ⟨_, (pss_cons (ps_if (pt_cmpR (op_eqD (eqU hr)) (pe_callS G_law_pick (hr.mono (by omega)) (by rfl) m_law_pick k_law_pick d_law_pick (fun σ => passAt (takes_of rfl rfl rfl rfl) σ) (pa_cons (pv 0) (pa_cons pe_int pa_nil))) pe_int (nomark _)) (pss_one (ps_ret (pe_callS G_law_turning (hr.mono (by omega)) (by rfl) m_law_turning k_law_turning d_law_turning (fun σ => passAt (takes_of rfl rfl rfl rfl) σ) (pa_cons (pv 0) (pa_cons (pv 1) pa_nil))))) pss_nil) (pss_one (ps_ret (pe_callS G_law_shaped (hr.mono (by omega)) (by rfl) m_law_shaped k_law_shaped d_law_shaped (fun σ => passAt (takes_of rfl rfl rfl rfl) σ) (pa_cons (pv 0) (pa_cons (pv 1) pa_nil)))))),
    (ss_seq (ss_if (set_test (se_op (oe_s os_eq) (se_callI (sea_cons (se_p sp_int) sea_nil)) (se_p sp_int))) (ss_ret (se_callI (sea_cons se_var sea_nil))) ss_nil) (ss_ret (se_callI (sea_cons se_var sea_nil))))⟩
/-! law_times: 0 p, 1 k, 2 base, 3 left, 4 found, 5 turn, 6 x -/
theorem sc_law_times : FnScope ["p", "k", "base", "left", "found", "turn", "x"] ["p", "k"] (defScope s_law_times) := ⟨rfl, rfl, rfl, by decide +kernel, rfl, by decide +kernel, by decide +kernel⟩
theorem ok_law_times (dd : Dd K mg "_law_times" s_law_times ["p", "k"]) (b_abs : mg "abs" = none) (b_int : mg "int" = none) (b_len : mg "len" = none) (b_list : mg "list" = none) (b_range : mg "range" = none) (g_law_then : Fn P w K mg base "_law_then" 1 ["p", "q"] (spM ct 2 F_law_then)) (g_law_back : Fn P w K mg base "_law_back" 1 ["p"] (spM ct 1 F_law_back)) :
    Fn P w K mg base "_law_times" (2) ["p", "k"] (spM ct 2 F_law_times) := by
  obtain ⟨_, _, G_law_then, m_law_then, k_law_then, d_law_then⟩ := g_law_then
  obtain ⟨_, _, G_law_back, m_law_back, k_law_back, d_law_back⟩ := g_law_back
  have sc := sc_law_times
  refine fn_def (k := 1) dd sc_law_times fun f cdv A outer s H E hr => ?_
  exact ⟨_, (pss_cons (ps_par3 (by rfl) sc.nd rfl rfl rfl (by decide) (by decide) (by decide) rfl rfl rfl (pa_cons (pe_lc (own := [("x", 6)]) rfl sc.nd (pi_seq (pv 0)) (blkOk_by (N := ["p", "k", "base", "left", "found", "turn", "x"]) (sc := defScope s_law_times) (by decide +kernel)) (fun _ _ _ _ _ => (pg_name (i := 6) sc.nd rfl (by first | exact Or.inl rfl | exact Or.inr rfl))) (fun _ _ _ _ _ => pts_nil) (fun _ _ _ _ _ => (pv 6))) (pa_cons (pe_callB call_abs (by rfl) b_abs (by decide +kernel) (pa_cons (pv 1) pa_nil)) (pa_cons (pe_listRg rfl (by rfl) b_list (prg_1 (by rfl) b_range (pe_callB call_len (by rfl) b_len (by decide +kernel) (pa_cons (pv 0) pa_nil)))) pa_nil))) (by rfl)) (pss_cons (ps_if (pt_cmpR u_lt (pv 1) pe_int (nomark _)) (pss_one (ps_set (i := 2) sc.nd rfl (Or.inl rfl) (pe_callS G_law_back (hr.mono (by omega)) (by rfl) m_law_back k_law_back d_law_back (fun σ => passAt (takes_of rfl rfl rfl rfl) σ) (pa_cons (pv 0) pa_nil)))) pss_nil) (pss_cons (ps_for (passes_of rfl) rfl (pi_range1 (by rfl) b_range (pa_cons pe_int pa_nil)) (pg_name (i := 5) sc.nd rfl (Or.inl rfl)) (pss_cons (ps_if (pt_cmpR (op_eqD (eqU hr)) (pv 3) pe_int (nomark _)) (pss_one (ps_ret (pv 4))) pss_nil) (pss_cons (ps_if (pt_cmpR (op_eqD (eqU hr)) (pe_op u_mod (pe_callTy call_int1 (by rfl) b_int (by decide +kernel) (pa_cons (pv 3) pa_nil)) pe_int) pe_int (nomark _)) (pss_one (ps_set (i := 4) sc.nd rfl (Or.inl rfl) (pe_callS G_law_then (hr.mono (by omega)) (by rfl) m_law_then k_law_then d_law_then (fun σ => passAt (takes_of rfl rfl rfl rfl) σ) (pa_cons (pv 4) (pa_cons (pv 2) pa_nil))))) pss_nil) (pss_cons (ps_set (i := 2) sc.nd rfl (Or.inl rfl) (pe_callS G_law_then (hr.mono (by omega)) (by rfl) m_law_then k_law_then d_law_then (fun σ => passAt (takes_of rfl rfl rfl rfl) σ) (pa_cons (pv 2) (pa_cons (pv 2) pa_nil)))) (pss_one (ps_set (i := 3) sc.nd rfl (Or.inl rfl) (pe_callTy call_int1 (by rfl) b_int (by decide +kernel) (pa_cons (pe_op u_div (pv 3) pe_int) pa_nil)))))))) (pss_one (ps_ret (pv 4)))))),
    (ss_seq (ss_par3 (sea_cons (se_lc (slots := [6]) (si_e se_var) sg_name set_yes se_var) (sea_cons (se_p (sp_cb cs_abs (sa_cons sp_var sa_nil))) (sea_cons (se_rg1 (sp_cb cs_len (sa_cons sp_var sa_nil))) sea_nil))) (by decide) (by decide) (by decide)) (ss_seq (ss_if (set_p (sp_test (sp_op os_lt sp_var sp_int))) (ss_set (se_call (sea_cons se_var sea_nil)) (by decide)) ss_nil) (ss_seq (ss_for (slots := [5]) (si_r1 (sea_cons (se_p sp_int) sea_nil)) sg_name (by decide) (ss_seq (ss_if (set_p (sp_test (sp_op os_eq sp_var sp_int))) (ss_ret se_mv) ss_nil) (ss_seq (ss_if (set_p (sp_test (sp_op os_eq (sp_op os_mod (sp_cb cs_int (sa_cons sp_var sa_nil)) sp_int) sp_int))) (ss_set (se_call (sea_cons se_var (sea_cons se_var sea_nil))) (by decide)) ss_nil) (ss_seq (ss_set (se_call (sea_cons se_var (sea_cons se_var sea_nil))) (by decide)) (ss_set (se_p (sp_cb cs_int (sa_cons (sp_op os_div sp_var sp_int) sa_nil))) (by decide)))))) (ss_ret se_mv))))⟩
/-! law_rows: 0 p, 1 found, 2 met, 3 x, 4 row, 5 y, 6 step -/
theorem sc_law_rows : FnScope ["p", "found", "met", "x", "row", "y", "step"] ["p"] (defScope s_law_rows) := ⟨rfl, rfl, rfl, by decide +kernel, rfl, by decide +kernel, by decide +kernel⟩
theorem ok_law_rows (dd : Dd K mg "_law_rows" s_law_rows ["p"]) (b_len : mg "len" = none) (b_range : mg "range" = none) :
    Fn P w K mg base "_law_rows" (1) ["p"] (spM ct 1 F_law_rows) := by
  have sc := sc_law_rows
  refine fn_def (k := 0) dd sc_law_rows fun f cdv A outer s H E hr => ?_
  exact ⟨_, (pss_cons (ps_par (by rfl) sc.nd rfl rfl (by decide) rfl rfl (pa_cons (pe_lst pa_nil) (pa_cons (pe_op u_mul (pe_lst (pa_cons pe_bl pa_nil)) (pe_callB call_len (by rfl) b_len (by decide +kernel) (pa_cons (pv 0) pa_nil))) pa_nil)) (by rfl)) (pss_cons (ps_for (passes_of rfl) rfl (pi_range1 (by rfl) b_range (pa_cons (pe_callB call_len (by rfl) b_len (by decide +kernel) (pa_cons (pv 0) pa_nil)) pa_nil)) (pg_name (i := 3) sc.nd rfl (Or.inl rfl)) (pss_cons (ps_par (by rfl) sc.nd rfl rfl (by decide) rfl rfl (pa_cons (pe_lst pa_nil) (pa_cons (pv 3) pa_nil)) (by rfl)) (pss_cons (ps_for (passes_of rfl) rfl (pi_range1 (by rfl) b_range (pa_cons (pe_callB call_len (by rfl) b_len (by decide +kernel) (pa_cons (pv 0) pa_nil)) pa_nil)) (pg_name (i := 6) sc.nd rfl (Or.inl rfl)) (pss_one (ps_if (pt_not (pt_val (pe_ix ix_seq (pv 2) (pv 5) (fun _ _ => rfl)))) (pss_cons (ps_asg pe_bl (pg_sub (pv 2) (pv 5) set_list)) (pss_cons (ps_expr (pe_bm PySem.F.plainAttrs_list PySem.F.slot_list_append PySem.F.type_list_append mt_append (pv 4) (pa_cons (pv 5) pa_nil))) (pss_one (ps_set (i := 5) sc.nd rfl (Or.inl rfl) (pe_ix ix_seq (pv 0) (pv 5) (fun _ _ => rfl)))))) pss_nil))) (pss_one (ps_if (pt_cmpR (op_neD (eqU hr)) (pv 4) (pe_lst pa_nil) (nomark _)) (pss_one (ps_expr (pe_bm PySem.F.plainAttrs_list PySem.F.slot_list_append PySem.F.type_list_append mt_append (pv 1) (pa_cons (pv 4) pa_nil)))) pss_nil))))) (pss_one (ps_ret (pv 1))))),
    (ss_seq (ss_par (sea_cons (se_lst sea_nil) (sea_cons (se_op oe_repU (se_lst (sea_cons (se_p sp_bl) sea_nil)) (se_p (sp_cb cs_len (sa_cons sp_var sa_nil)))) sea_nil)) (by decide) (by decide)) (ss_seq (ss_for (slots := [3]) (si_r1 (sea_cons (se_p (sp_cb cs_len (sa_cons sp_var sa_nil))) sea_nil)) sg_name (by decide) (ss_seq (ss_par (sea_cons (se_lst sea_nil) (sea_cons se_var sea_nil)) (by decide) (by decide)) (ss_seq (ss_for (slots := [6]) (si_r1 (sea_cons (se_p (sp_cb cs_len (sa_cons sp_var sa_nil))) sea_nil)) sg_name (by decide) (ss_if (set_p (st_not (sp_b (sp_op os_ix sp_var sp_var)))) (ss_seq (ss_store (se_p sp_bl) sp_var) (ss_seq (ss_app se_var) (ss_set (se_get (sv_ix sv_var sp_var)) (by decide)))) ss_nil)) (ss_if (set_p (sp_test (sp_op os_ne sp_var (sp_lst sa_nil)))) (ss_app se_var) ss_nil)))) (ss_ret se_mv)))⟩
/-! law_everyone: 0 n, 1 found, 2 x, 3 more, 4 p, 5 at -/
theorem sc_law_everyone : FnScope ["n", "found", "x", "more", "p", "at"] ["n"] (defScope s_law_everyone) := ⟨rfl, rfl, rfl, by decide +kernel, rfl, by decide +kernel, by decide +kernel⟩
theorem ok_law_everyone (dd : Dd K mg "_law_everyone" s_law_everyone ["n"]) (b_range : mg "range" = none) :
    Fn P w K mg base "_law_everyone" (1) ["n"] (spM ct 1 F_law_everyone) := by
  have sc := sc_law_everyone
  refine fn_def (k := 0) dd sc_law_everyone fun f cdv A outer s H E hr => ?_
  exact ⟨_, (pss_cons (ps_set (i := 1) sc.nd rfl (Or.inl rfl) (pe_lst (pa_cons (pe_lst pa_nil) pa_nil))) (pss_cons (ps_for (passes_of rfl) rfl (pi_range1 (by rfl) b_range (pa_cons (pv 0) pa_nil)) (pg_name (i := 2) sc.nd rfl (Or.inl rfl)) (pss_cons (ps_set (i := 3) sc.nd rfl (Or.inl rfl) (pe_lst pa_nil)) (pss_cons (ps_for (passes_of rfl) rfl (pi_seq (pv 1)) (pg_name (i := 4) sc.nd rfl (Or.inl rfl)) (pss_one (ps_for (passes_of rfl) rfl (pi_range1 (by rfl) b_range (pa_cons (pe_op u_add (pv 2) pe_int) pa_nil)) (pg_name (i := 5) sc.nd rfl (Or.inl rfl)) (pss_one (ps_expr (pe_bm PySem.F.plainAttrs_list PySem.F.slot_list_append PySem.F.type_list_append mt_append (pv 3) (pa_cons (pe_op u_add (pe_op u_add (pe_slice sl_list (pv 4) po_none (po_some (pv 5))) (pe_lst (pa_cons (pv 2) pa_nil))) (pe_slice sl_list (pv 4) (po_some (pv 5)) po_none)) pa_nil))))))) (pss_one (ps_set (i := 1) sc.nd rfl (Or.inl rfl) (pv 3)))))) (pss_one (ps_ret (pv 1))))),
    (ss_seq (ss_set (se_lst (sea_cons (se_lst sea_nil) sea_nil)) (by decide)) (ss_seq (ss_for (slots := [2]) (si_r1 (sea_cons se_var sea_nil)) sg_name (by decide) (ss_seq (ss_set (se_lst sea_nil) (by decide)) (ss_seq (ss_for (slots := [4]) (si_e se_var) sg_name (by decide) (ss_for (slots := [5]) (si_r1 (sea_cons (se_p (sp_op os_add sp_var sp_int)) sea_nil)) sg_name (by decide) (ss_app (se_op oe_add (se_op oe_add (se_sl sv_var spo_no (spo_yes sp_var)) (se_lst (sea_cons se_var sea_nil))) (se_sl sv_var (spo_yes sp_var) spo_no))))) (ss_set se_var (by decide))))) (ss_ret se_mv)))⟩
/-! law_ways: 0 many, 1 length, 2 k, 3 ways, 4 j, 5 common, 6 lift, 7 more, 8 turn, 9 t, 10 term, 11 a, 12 s, 13 d -/
theorem sc_law_ways : FnScope ["many", "length", "k", "ways", "j", "common", "lift", "more", "turn", "t", "term", "a", "s", "d"] ["many", "length", "k"] (defScope s_law_ways) := ⟨rfl, rfl, rfl, by decide +kernel, rfl, by decide +kernel, by decide +kernel⟩
theorem ok_law_ways (dd : Dd K mg "_law_ways" s_law_ways ["many", "length", "k"]) (b_int : mg "int" = none) (b_range : mg "range" = none) :
    Fn P w K mg base "_law_ways" (1) ["many", "length", "k"] (spM ct 3 F_law_ways) := by
  have sc := sc_law_ways
  refine fn_def (k := 0) dd sc_law_ways fun f cdv A outer s H E hr => ?_
  exact ⟨_, (pss_cons (ps_set (i := 3) sc.nd rfl (Or.inl rfl) (pe_op u_add (pe_lst (pa_cons pe_int pa_nil)) (pe_op u_mul (pe_lst (pa_cons pe_int pa_nil)) (pv 0)))) (pss_cons (ps_for (passes_of rfl) rfl (pi_range2 (by rfl) b_range (pa_cons pe_int (pa_cons (pe_op u_add (pv 0) pe_int) pa_nil))) (pg_name (i := 4) sc.nd rfl (Or.inr rfl)) (pss_cons (ps_setLc (i := 5) (own := [("d", 13)]) rfl sc.nd rfl rfl (sw_true rfl rfl rfl (by decide +kernel)) (pi_range2 (by rfl) b_range (pa_cons pe_int (pa_cons (pe_op u_add (pv 1) pe_int) pa_nil))) (blkOk_by (N := ["many", "length", "k", "ways", "j", "common", "lift", "more", "turn", "t", "term", "a", "s", "d"]) (sc := defScope s_law_ways) (by decide +kernel)) (fun _ _ _ _ _ => (pg_name (i := 13) sc.nd rfl (by first | exact Or.inl rfl | exact Or.inr rfl))) (fun _ _ _ _ _ => (pts_one (PW.pt (pw_and (pt_cmpR (op_eqD (eqU hr)) (pe_op u_mod (pe_callTy call_int1 (by rfl) b_int (by decide +kernel) (pa_cons (pv 1) pa_nil)) (pv 13)) pe_int (nomark _)) (pw_and1 (pt_cmpR (op_eqD (eqU hr)) (pe_op u_mod (pe_callTy call_int1 (by rfl) b_int (by decide +kernel) (pa_cons (pe_op u_div (pv 2) (pv 4)) pa_nil)) (pv 13)) pe_int (nomark _))))))) (fun _ _ _ _ _ => (pv 13))) (pss_one (ps_if (PW.pt (pw_and (pt_cmpR (op_eqD (eqU hr)) (pe_op u_mod (pe_callTy call_int1 (by rfl) b_int (by decide +kernel) (pa_cons (pv 2) pa_nil)) (pv 4)) pe_int (nomark _)) (pw_and1 (pt_cmpR (op_eqD (eqU hr)) (pv 5) (pe_lst pa_nil) (nomark _))))) (pss_cons (ps_par (by rfl) sc.nd rfl rfl (by decide) rfl rfl (pa_cons pe_int (pa_cons (pe_op u_mul (pe_lst (pa_cons pe_int pa_nil)) (pe_op u_add (pv 0) pe_int)) pa_nil)) (by rfl)) (pss_cons (ps_for (passes_of rfl) rfl (pi_range1 (by rfl) b_range (pa_cons (pe_op u_sub (pv 4) pe_int) pa_nil)) (pg_name (i := 8) sc.nd rfl (Or.inl rfl)) (pss_one (ps_set (i := 6) sc.nd rfl (Or.inl rfl) (pe_op u_mul (pv 6) (pv 1))))) (pss_cons (ps_for (passes_of rfl) rfl (pi_range1 (by rfl) b_range (pa_cons (pe_op u_add (pv 0) pe_int) pa_nil)) (pg_name (i := 9) sc.nd rfl (Or.inl rfl)) (pss_cons (ps_set (i := 10) sc.nd rfl (Or.inl rfl) pe_int) (pss_one (ps_for (passes_of rfl) rfl (pi_range1 (by rfl) b_range (pa_cons (pe_op u_add (pe_callTy call_int1 (by rfl) b_int (by decide +kernel) (pa_cons (pe_op u_div (pv 9) (pv 4)) pa_nil)) pe_int) pa_nil)) (pg_name (i := 11) sc.nd rfl (Or.inl rfl)) (pss_cons (ps_asg (pe_op u_add (pe_ix ix_seq (pv 7) (pv 9) (fun _ _ => rfl)) (pe_op u_mul (pe_ix ix_seq (pv 3) (pe_op u_sub (pv 9) (pe_op u_mul (pv 11) (pv 4))) (fun _ _ => rfl)) (pv 10))) (pg_sub (pv 7) (pv 9) set_list)) (pss_one (ps_if (pt_cmpR u_lt (pv 11) (pe_callTy call_int1 (by rfl) b_int (by decide +kernel) (pa_cons (pe_op u_div (pv 9) (pv 4)) pa_nil)) (nomark _)) (pss_cons (ps_for (passes_of rfl) rfl (pi_range1 (by rfl) b_range (pa_cons (pv 4) pa_nil)) (pg_name (i := 12) sc.nd rfl (Or.inl rfl)) (pss_one (ps_set (i := 10) sc.nd rfl (Or.inl rfl) (pe_op u_mul (pv 10) (pe_op u_sub (pe_op u_sub (pv 9) (pe_op u_mul (pv 11) (pv 4))) (pv 12)))))) (pss_one (ps_set (i := 10) sc.nd rfl (Or.inl rfl) (pe_callTy call_int1 (by rfl) b_int (by decide +kernel) (pa_cons (pe_op u_div (pe_op u_mul (pv 10) (pv 6)) (pe_op u_mul (pv 4) (pe_op u_add (pv 11) pe_int))) pa_nil))))) pss_nil))))))) (pss_one (ps_set (i := 3) sc.nd rfl (Or.inl rfl) (pv 7)))))) pss_nil)))) (pss_one (ps_ret (pe_ix ix_seq (pv 3) (pv 0) (fun _ _ => rfl)))))),
    (ss_seq (ss_set (se_op oe_add (se_lst (sea_cons (se_p sp_int) sea_nil)) (se_op oe_repU (se_lst (sea_cons (se_p sp_int) sea_nil)) se_var)) (by decide)) (ss_seq (ss_for (slots := [4]) (si_r2 (sea_cons (se_p sp_int) (sea_cons (se_p (sp_op os_add sp_var sp_int)) sea_nil))) sg_name (by decide) (ss_seq (ss_set (se_lc (slots := [13]) (si_r2 (sea_cons (se_p sp_int) (sea_cons (se_p (sp_op os_add sp_var sp_int)) sea_nil))) sg_name (set_p (st_and (sp_test (sp_op os_eq (sp_op os_mod (sp_cb cs_int (sa_cons sp_var sa_nil)) sp_var) sp_int)) (sp_test (sp_op os_eq (sp_op os_mod (sp_cb cs_int (sa_cons (sp_op os_div sp_var sp_var) sa_nil)) sp_var) sp_int)))) se_var) (by decide)) (ss_if (set_p (st_and (sp_test (sp_op os_eq (sp_op os_mod (sp_cb cs_int (sa_cons sp_var sa_nil)) sp_var) sp_int)) (sp_test (sp_op os_eq sp_var (sp_lst sa_nil))))) (ss_seq (ss_par (sea_cons (se_p sp_int) (sea_cons (se_op oe_repU (se_lst (sea_cons (se_p sp_int) sea_nil)) (se_p (sp_op os_add sp_var sp_int))) sea_nil)) (by decide) (by decide)) (ss_seq (ss_for (slots := [8]) (si_r1 (sea_cons (se_p (sp_op os_sub sp_var sp_int)) sea_nil)) sg_name (by decide) (ss_set (se_p (sp_op os_mul sp_var sp_var)) (by decide))) (ss_seq (ss_for (slots := [9]) (si_r1 (sea_cons (se_p (sp_op os_add sp_var sp_int)) sea_nil)) sg_name (by decide) (ss_seq (ss_set (se_p sp_int) (by decide)) (ss_for (slots := [11]) (si_r1 (sea_cons (se_p (sp_op os_add (sp_cb cs_int (sa_cons (sp_op os_div sp_var sp_var) sa_nil)) sp_int)) sea_nil)) sg_name (by decide) (ss_seq (ss_store (se_p (sp_op os_add (sp_op os_ix sp_var sp_var) (sp_op os_mul (sp_op os_ix sp_var (sp_op os_sub sp_var (sp_op os_mul sp_var sp_var))) sp_var))) sp_var) (ss_if (set_p (sp_test (sp_op os_lt sp_var (sp_cb cs_int (sa_cons (sp_op os_div sp_var sp_var) sa_nil))))) (ss_seq (ss_for (slots := [12]) (si_r1 (sea_cons se_var sea_nil)) sg_name (by decide) (ss_set (se_p (sp_op os_mul sp_var (sp_op os_sub (sp_op os_sub sp_var (sp_op os_mul sp_var sp_var)) sp_var))) (by decide))) (ss_set (se_p (sp_cb cs_int (sa_cons (sp_op os_div (sp_op os_mul sp_var sp_var) (sp_op os_mul sp_var (sp_op os_add sp_var sp_int))) sa_nil))) (by decide))) ss_nil))))) (ss_set se_var (by decide))))) ss_nil))) (ss_ret (se_get (sv_ix sv_var sp_var)))))⟩
/-! law_count: 0 p, 1 k, 2 lengths, 3 found, 4 length, 5 row, 6 one -/
theorem sc_law_count : FnScope ["p", "k", "lengths", "found", "length", "row", "one"] ["p", "k"] (defScope s_law_count) := ⟨rfl, rfl, rfl, by decide +kernel, rfl, by decide +kernel, by decide +kernel⟩
theorem ok_law_count (dd : Dd K mg "_law_count" s_law_count ["p", "k"]) (b_len : mg "len" = none) (b_range : mg "range" = none) (g_law_ways : Fn P w K mg base "_law_ways" 1 ["many", "length", "k"] (spM ct 3 F_law_ways)) (g_law_rows : Fn P w K mg base "_law_rows" 1 ["p"] (spM ct 1 F_law_rows)) :
    Fn P w K mg base "_law_count" (2) ["p", "k"] (spM ct 2 F_law_count) := by
  obtain ⟨_, _, G_law_ways, m_law_ways, k_law_ways, d_law_ways⟩ := g_law_ways
  obtain ⟨_, _, G_law_rows, m_law_rows, k_law_rows, d_law_rows⟩ := g_law_rows
  have sc := sc_law_count
  refine fn_def (k := 1) dd sc_law_count fun f cdv A outer s H E hr => ?_
  exact ⟨_, (pss_cons (ps_par (by rfl) sc.nd rfl rfl (by decide) rfl rfl (pa_cons (pe_lc (own := [("row", 5)]) rfl sc.nd (pi_seq (pe_callS G_law_rows (hr.mono (by omega)) (by rfl) m_law_rows k_law_rows d_law_rows (fun σ => passAt (takes_of rfl rfl rfl rfl) σ) (pa_cons (pv 0) pa_nil))) (blkOk_by (N := ["p", "k", "lengths", "found", "length", "row", "one"]) (sc := defScope s_law_count) (by decide +kernel)) (fun _ _ _ _ _ => (pg_name (i := 5) sc.nd rfl (by first | exact Or.inl rfl | exact Or.inr rfl))) (fun _ _ _ _ _ => pts_nil) (fun _ _ _ _ _ => (pe_callB call_len (by rfl) b_len (by decide +kernel) (pa_cons (pv 5) pa_nil)))) (pa_cons pe_int pa_nil)) (by rfl)) (pss_cons (ps_for (passes_of rfl) rfl (pi_range2 (by rfl) b_range (pa_cons pe_int (pa_cons (pe_op u_add (pe_callB call_len (by rfl) b_len (by decide +kernel) (pa_cons (pv 0) pa_nil)) pe_int) pa_nil))) (pg_name (i := 4) sc.nd rfl (Or.inr rfl)) (pss_one (ps_set (i := 3) sc.nd rfl (Or.inl rfl) (pe_op u_mul (pv 3) (pe_callS G_law_ways (hr.mono (by omega)) (by rfl) m_law_ways k_law_ways d_law_ways (fun σ => passAt (takes_of rfl rfl rfl rfl) σ) (pa_cons (pe_callB call_len (by rfl) b_len (by decide +kernel) (pa_cons (pe_lc (own := [("one", 6)]) rfl sc.nd (pi_seq (pv 2)) (blkOk_by (N := ["p", "k", "lengths", "found", "length", "row", "one"]) (sc := defScope s_law_count) (by decide +kernel)) (fun _ _ _ _ _ => (pg_name (i := 6) sc.nd rfl (by first | exact Or.inl rfl | exact Or.inr rfl))) (fun _ _ _ _ _ => (pts_one (pt_cmpR (op_eqD (eqU hr)) (pv 6) (pv 4) (nomark _)))) (fun _ _ _ _ _ => (pv 6))) pa_nil)) (pa_cons (pv 4) (pa_cons (pv 1) pa_nil)))))))) (pss_one (ps_ret (pv 3))))),
    (ss_seq (ss_par (sea_cons (se_lc (slots := [5]) (si_e (se_call (sea_cons se_var sea_nil))) sg_name set_yes (se_p (sp_cb cs_len (sa_cons sp_var sa_nil)))) (sea_cons (se_p sp_int) sea_nil)) (by decide) (by decide)) (ss_seq (ss_for (slots := [4]) (si_r2 (sea_cons (se_p sp_int) (sea_cons (se_p (sp_op os_add (sp_cb cs_len (sa_cons sp_var sa_nil)) sp_int)) sea_nil))) sg_name (by decide) (ss_set (se_op (oe_s os_mul) se_var (se_call (sea_cons (se_cb (ce_s cs_len) (sea_cons (se_lc (slots := [6]) (si_e se_var) sg_name (set_p (sp_test (sp_op os_eq sp_var sp_var))) se_var) sea_nil)) (sea_cons se_var (sea_cons se_var sea_nil))))) (by decide))) (ss_ret se_mv)))⟩
/-! law_kinds: 0 n, 1 found, 2 waiting, 3 turn, 4 row, 5 least, 6 left, 7 size -/
theorem sc_law_kinds : FnScope ["n", "found", "waiting", "turn", "row", "least", "left", "size"] ["n"] (defScope s_law_kinds) := ⟨rfl, rfl, rfl, by decide +kernel, rfl, by decide +kernel, by decide +kernel⟩
theorem ok_law_kinds (dd : Dd K mg "_law_kinds" s_law_kinds ["n"]) (b_range : mg "range" = none) :
    Fn P w K mg base "_law_kinds" (1) ["n"] (spM ct 1 F_law_kinds) := by
  have sc := sc_law_kinds
  refine fn_def (k := 0) dd sc_law_kinds fun f cdv A outer s H E hr => ?_
  exact ⟨_, (pss_cons (ps_par (by rfl) sc.nd rfl rfl (by decide) rfl rfl (pa_cons (pe_lst pa_nil) (pa_cons (pe_lst (pa_cons (pe_tup (pa_cons (pe_lst pa_nil) (pa_cons pe_int (pa_cons (pv 0) pa_nil)))) pa_nil)) pa_nil)) (by rfl)) (pss_cons (ps_for (passes_of rfl) rfl (pi_range1 (by rfl) b_range (pa_cons pe_int pa_nil)) (pg_name (i := 3) sc.nd rfl (Or.inl rfl)) (pss_one (ps_if (pt_cmpR (op_neD (eqU hr)) (pv 2) (pe_lst pa_nil) (nomark _)) (pss_cons (ps_asg (pe_bm0 PySem.F.plainAttrs_list PySem.F.slot_list_pop PySem.F.type_list_pop mt_pop (pv 2)) (pg_tup (by rfl) (pgs_cons (pg_name (i := 4) sc.nd rfl (Or.inl rfl)) (pgs_cons (pg_name (i := 5) sc.nd rfl (Or.inl rfl)) (pgs_cons (pg_name (i := 6) sc.nd rfl (Or.inl rfl)) pgs_nil))))) (pss_cons (ps_if (pt_cmpR (op_eqD (eqU hr)) (pv 6) pe_int (nomark _)) (pss_one (ps_expr (pe_bm PySem.F.plainAttrs_list PySem.F.slot_list_append PySem.F.type_list_append mt_append (pv 1) (pa_cons (pv 4) pa_nil)))) pss_nil) (pss_one (ps_for (passes_of rfl) rfl (pi_range2 (by rfl) b_range (pa_cons (pv 5) (pa_cons (pe_op u_add (pv 6) pe_int) pa_nil))) (pg_name (i := 7) sc.nd rfl (Or.inl rfl)) (pss_one (ps_expr (pe_bm PySem.F.plainAttrs_list PySem.F.slot_list_append PySem.F.type_list_append mt_append (pv 2) (pa_cons (pe_tup (pa_cons (pe_op u_add (pv 4) (pe_lst (pa_cons (pv 7) pa_nil))) (pa_cons (pv 7) (pa_cons (pe_op u_sub (pv 6) (pv 7)) pa_nil)))) pa_nil)))))))) pss_nil))) (pss_one (ps_ret (pv 1))))),
    (ss_seq (ss_par (sea_cons (se_lst sea_nil) (sea_cons (se_lst (sea_cons (se_tup (sea_cons (se_lst sea_nil) (sea_cons (se_p sp_int) (sea_cons se_var sea_nil)))) sea_nil)) sea_nil)) (by decide) (by decide)) (ss_seq (ss_for (slots := [3]) (si_r1 (sea_cons (se_p sp_int) sea_nil)) sg_name (by decide) (ss_if (set_p (sp_test (sp_op os_ne sp_var (sp_lst sa_nil)))) (ss_seq (ss_unp se_pop (sg_tup (is := [4, 5, 6]) rfl) (by decide)) (ss_seq (ss_if (set_p (sp_test (sp_op os_eq sp_var sp_int))) (ss_app se_var) ss_nil) (ss_for (slots := [7]) (si_r2 (sea_cons se_var (sea_cons (se_p (sp_op os_add sp_var sp_int)) sea_nil))) sg_name (by decide) (ss_app (se_tup (sea_cons (se_op oe_add se_var (se_lst (sea_cons se_var sea_nil))) (sea_cons se_var (sea_cons (se_p (sp_op os_sub sp_var sp_var)) sea_nil)))))))) ss_nil)) (ss_ret se_mv)))⟩
/-! law_of: 0 places, 1 row, 2 found, 3 at, 4 size, 5 k -/
theorem sc_law_of : FnScope ["places", "row", "found", "at", "size", "k"] ["places", "row"] (defScope s_law_of) := ⟨rfl, rfl, rfl, by decide +kernel, rfl, by decide +kernel, by decide +kernel⟩
theorem ok_law_of (dd : Dd K mg "_law_of" s_law_of ["places", "row"]) (b_int : mg "int" = none) (b_len : mg "len" = none) (b_list : mg "list" = none) (b_range : mg "range" = none) :
    Fn P w K mg base "_law_of" (1) ["places", "row"] (spM ct 2 F_law_of) := by
  have sc := sc_law_of
  refine fn_def (k := 0) dd sc_law_of fun f cdv A outer s H E hr => ?_
  exact ⟨_, (pss_cons (ps_par (by rfl) sc.nd rfl rfl (by decide) rfl rfl (pa_cons (pe_listRg rfl (by rfl) b_list (prg_1 (by rfl) b_range (pe_callB call_len (by rfl) b_len (by decide +kernel) (pa_cons (pv 0) pa_nil)))) (pa_cons pe_int pa_nil)) (by rfl)) (pss_cons (ps_for (passes_of rfl) rfl (pi_seq (pv 1)) (pg_name (i := 4) sc.nd rfl (Or.inl rfl)) (pss_cons (ps_for (passes_of rfl) rfl (pi_range1 (by rfl) b_range (pa_cons (pv 4) pa_nil)) (pg_name (i := 5) sc.nd rfl (Or.inl rfl)) (pss_one (ps_asg (pe_ix ix_seq (pv 0) (pe_op u_add (pv 3) (pe_op u_mod (pe_callTy call_int1 (by rfl) b_int (by decide +kernel) (pa_cons (pe_op u_add (pv 5) pe_int) pa_nil)) (pv 4))) (fun _ _ => rfl)) (pg_sub (pv 2) (pe_ix ix_seq (pv 0) (pe_op u_add (pv 3) (pv 5)) (fun _ _ => rfl)) set_list)))) (pss_one (ps_set (i := 3) sc.nd rfl (Or.inl rfl) (pe_op u_add (pv 3) (pv 4)))))) (pss_one (ps_ret (pv 2))))),
    (ss_seq (ss_par (sea_cons (se_rg1 (sp_cb cs_len (sa_cons sp_var sa_nil))) (sea_cons (se_p sp_int) sea_nil)) (by decide) (by decide)) (ss_seq (ss_for (slots := [4]) (si_e se_var) sg_name (by decide) (ss_seq (ss_for (slots := [5]) (si_r1 (sea_cons se_var sea_nil)) sg_name (by decide) (ss_store (se_get (sv_ix sv_var (sp_op os_add sp_var (sp_op os_mod (sp_cb cs_int (sa_cons (sp_op os_add sp_var sp_int) sa_nil)) sp_var)))) (sp_op os_ix sp_var (sp_op os_add sp_var sp_var)))) (ss_set (se_p (sp_op os_add sp_var sp_var)) (by decide)))) (ss_ret se_mv)))⟩
/-! law_met: 0 row, 1 found, 2 length, 3 turn, 4 one -/
theorem sc_law_met : FnScope ["row", "found", "length", "turn", "one"] ["row"] (defScope s_law_met) := ⟨rfl, rfl, rfl, by decide +kernel, rfl, by decide +kernel, by decide +kernel⟩
theorem ok_law_met (dd : Dd K mg "_law_met" s_law_met ["row"]) (b_int : mg "int" = none) (b_len : mg "len" = none) (b_range : mg "range" = none) (b_sum : mg "sum" = none) (g_law_factorial : Fn P w K mg base "_law_factorial" 1 ["n"] (spM ct 1 F_law_factorial)) :
    Fn P w K mg base "_law_met" (2) ["row"] (spM ct 1 F_law_met) := by
  obtain ⟨_, _, G_law_factorial, m_law_factorial, k_law_factorial, d_law_factorial⟩ := g_law_factorial
  have sc := sc_law_met
  refine fn_def (k := 1) dd sc_law_met fun f cdv A outer s H E hr => ?_
  exact ⟨_, (pss_cons (ps_set (i := 1) sc.nd rfl (Or.inl rfl) (pe_callS G_law_factorial (hr.mono (by omega)) (by rfl) m_law_factorial k_law_factorial d_law_factorial (fun σ => passAt (takes_of rfl rfl rfl rfl) σ) (pa_cons (pe_callB (cr_sum rfl) (by rfl) b_sum (by decide +kernel) (pa_cons (pv 0) pa_nil)) pa_nil))) (pss_cons (ps_for (passes_of rfl) rfl (pi_range2 (by rfl) b_range (pa_cons pe_int (pa_cons (pe_op u_add (pe_callB (cr_sum rfl) (by rfl) b_sum (by decide +kernel) (pa_cons (pv 0) pa_nil)) pe_int) pa_nil))) (pg_name (i := 2) sc.nd rfl (Or.inr rfl)) (pss_one (ps_for (passes_of rfl) rfl (pi_range1 (by rfl) b_range (pa_cons (pe_callB call_len (by rfl) b_len (by decide +kernel) (pa_cons (pe_lc (own := [("one", 4)]) rfl sc.nd (pi_seq (pv 0)) (blkOk_by (N := ["row", "found", "length", "turn", "one"]) (sc := defScope s_law_met) (by decide +kernel)) (fun _ _ _ _ _ => (pg_name (i := 4) sc.nd rfl (by first | exact Or.inl rfl | exact Or.inr rfl))) (fun _ _ _ _ _ => (pts_one (pt_cmpR (op_eqD (eqU hr)) (pv 4) (pv 2) (nomark _)))) (fun _ _ _ _ _ => (pv 4))) pa_nil)) pa_nil)) (pg_name (i := 3) sc.nd rfl (Or.inl rfl)) (pss_one (ps_set (i := 1) sc.nd rfl (Or.inl rfl) (pe_callTy call_int1 (by rfl) b_int (by decide +kernel) (pa_cons (pe_op u_div (pv 1) (pe_op u_mul (pv 2) (pe_op u_add (pv 3) pe_int))) pa_nil))))))) (pss_one (ps_ret (pv 1))))),
    (ss_seq (ss_set (se_p (sp_callG (sa_cons (sp_cb cs_sum (sa_cons sp_var sa_nil)) sa_nil))) (by decide)) (ss_seq (ss_for (slots := [2]) (si_r2 (sea_cons (se_p sp_int) (sea_cons (se_p (sp_op os_add (sp_cb cs_sum (sa_cons sp_var sa_nil)) sp_int)) sea_nil))) sg_name (by decide) (ss_for (slots := [3]) (si_r1 (sea_cons (se_cb (ce_s cs_len) (sea_cons (se_lc (slots := [4]) (si_e se_var) sg_name (set_p (sp_test (sp_op os_eq sp_var sp_var))) se_var) sea_nil)) sea_nil)) sg_name (by decide) (ss_set (se_p (sp_cb cs_int (sa_cons (sp_op os_div sp_var (sp_op os_mul sp_var (sp_op os_add sp_var sp_int))) sa_nil))) (by decide)))) (ss_ret se_mv)))⟩
/-! law_rough: 0 pool, 1 n, 2 row, 3 one, 4 other, 5 left, 6 share, 7 turn -/
theorem sc_law_rough : FnScope ["pool", "n", "row", "one", "other", "left", "share", "turn"] ["pool"] (defScope s_law_rough) := ⟨rfl, rfl, rfl, by decide +kernel, rfl, by decide +kernel, by decide +kernel⟩
theorem ok_law_rough (dd : Dd K mg "_law_rough" s_law_rough ["pool"]) (b_range : mg "range" = none) (g_law_of : Fn P w K mg base "_law_of" 1 ["places", "row"] (spM ct 2 F_law_of)) (g_law_turning : Fn P w K mg base "_law_turning" 2 ["pool", "n"] (spM ct 2 F_law_turning)) (g_law_pick : Fn P w K mg base "_law_pick" 1 ["pool", "many"] (spM ct 2 F_law_pick)) :
    Fn P w K mg base "_law_rough" (3) ["pool"] (spM ct 1 F_law_rough) := by
  obtain ⟨_, _, G_law_of, m_law_of, k_law_of, d_law_of⟩ := g_law_of
  obtain ⟨_, _, G_law_turning, m_law_turning, k_law_turning, d_law_turning⟩ := g_law_turning
  obtain ⟨_, _, G_law_pick, m_law_pick, k_law_pick, d_law_pick⟩ := g_law_pick
  have sc := sc_law_rough
  refine fn_defI (k := 2) dd sc_law_rough (by decide) fun f cdv A outer s H E hr => ?_
  exact ⟨_, (pss_cons (ps_par (by rfl) sc.nd rfl rfl (by decide) rfl rfl (pa_cons (pe_ix ix_seq (pe_lst (pa_cons pe_int (pa_cons pe_int (pa_cons (pe_op u_add pe_int (pe_callS G_law_pick (hr.mono (by omega)) (by rfl) m_law_pick k_law_pick d_law_pick (fun σ => passAt (takes_of rfl rfl rfl rfl) σ) (pa_cons (pv 0) (pa_cons pe_int pa_nil)))) pa_nil)))) (pe_callS G_law_pick (hr.mono (by omega)) (by rfl) m_law_pick k_law_pick d_law_pick (fun σ => passAt (takes_of rfl rfl rfl rfl) σ) (pa_cons (pv 0) (pa_cons pe_int pa_nil))) (fun _ _ => rfl)) (pa_cons (pe_lst pa_nil) pa_nil)) (by rfl)) (pss_cons (ps_par (by rfl) sc.nd rfl rfl (by decide) rfl rfl (pa_cons (pe_op u_add pe_int (pe_callS G_law_pick (hr.mono (by omega)) (by rfl) m_law_pick k_law_pick d_law_pick (fun σ => passAt (takes_of rfl rfl rfl rfl) σ) (pa_cons (pv 0) (pa_cons (pe_ix ix_seq (pe_lst (pa_cons pe_int (pa_cons pe_int (pa_cons pe_int (pa_cons pe_int pa_nil))))) (pe_callS G_law_pick (hr.mono (by omega)) (by rfl) m_law_pick k_law_pick d_law_pick (fun σ => passAt (takes_of rfl rfl rfl rfl) σ) (pa_cons (pv 0) (pa_cons pe_int pa_nil))) (fun _ _ => rfl)) pa_nil)))) (pa_cons (pe_op u_add pe_int (pe_callS G_law_pick (hr.mono (by omega)) (by rfl) m_law_pick k_law_pick d_law_pick (fun σ => passAt (takes_of rfl rfl rfl rfl) σ) (pa_cons (pv 0) (pa_cons pe_int pa_nil)))) pa_nil)) (by rfl)) (pss_cons (ps_par (by rfl) sc.nd rfl rfl (by decide) rfl rfl (pa_cons (pv 1) (pa_cons (pe_callS G_law_pick (hr.mono (by omega)) (by rfl) m_law_pick k_law_pick d_law_pick (fun σ => passAt (takes_of rfl rfl rfl rfl) σ) (pa_cons (pv 0) (pa_cons pe_int pa_nil))) pa_nil)) (by rfl)) (pss_cons (ps_for (passes_of rfl) rfl (pi_range1 (by rfl) b_range (pa_cons pe_int pa_nil)) (pg_name (i := 7) sc.nd rfl (Or.inl rfl)) (pss_one (ps_if (PW.pt (pw_and (pt_cmpR u_le (pv 3) (pv 5) (nomark _)) (pw_and1 (pt_cmpR u_lt (pe_op u_sub (pv 1) (pv 5)) (pv 6) (nomark _))))) (pss_cons (ps_expr (pe_bm PySem.F.plainAttrs_list PySem.F.slot_list_append PySem.F.type_list_append mt_append (pv 2) (pa_cons (pv 3) pa_nil))) (pss_one (ps_set (i := 5) sc.nd rfl (Or.inl rfl) (pe_op u_sub (pv 5) (pv 3))))) pss_nil))) (pss_cons (ps_for (passes_of rfl) rfl (pi_range1 (by rfl) b_range (pa_cons pe_int pa_nil)) (pg_name (i := 7) sc.nd rfl (Or.inl rfl)) (pss_one (ps_if (pt_cmpR u_le (pv 4) (pv 5) (nomark _)) (pss_cons (ps_expr (pe_bm PySem.F.plainAttrs_list PySem.F.slot_list_append PySem.F.type_list_append mt_append (pv 2) (pa_cons (pv 4) pa_nil))) (pss_one (ps_set (i := 5) sc.nd rfl (Or.inl rfl) (pe_op u_sub (pv 5) (pv 4))))) pss_nil))) (pss_one (ps_ret (pe_callS G_law_of (hr.mono (by omega)) (by rfl) m_law_of k_law_of d_law_of (fun σ => passAt (takes_of rfl rfl rfl rfl) σ) (pa_cons (pe_callS G_law_turning (hr.mono (by omega)) (by rfl) m_law_turning k_law_turning d_law_turning (fun σ => passAt (takes_of rfl rfl rfl rfl) σ) (pa_cons (pv 0) (pa_cons (pv 1) pa_nil))) (pa_cons (pe_op u_add (pv 2) (pe_op u_mul (pe_lst (pa_cons pe_int pa_nil)) (pv 5))) pa_nil)))))))))),
    (ss_seq (ss_par (sea_cons (se_op oe_ix (se_lst (sea_cons (se_p sp_int) (sea_cons (se_p sp_int) (sea_cons (se_op oe_add (se_p sp_int) (se_callI (sea_cons (se_p sp_int) sea_nil))) sea_nil)))) (se_callI (sea_cons (se_p sp_int) sea_nil))) (sea_cons (se_lst sea_nil) sea_nil)) (by decide) (by decide)) (ss_seq (ss_par (sea_cons (se_op oe_add (se_p sp_int) (se_callI (sea_cons (se_op oe_ix (se_lst (sea_cons (se_p sp_int) (sea_cons (se_p sp_int) (sea_cons (se_p sp_int) (sea_cons (se_p sp_int) sea_nil))))) (se_callI (sea_cons (se_p sp_int) sea_nil))) sea_nil))) (sea_cons (se_op oe_add (se_p sp_int) (se_callI (sea_cons (se_p sp_int) sea_nil))) sea_nil)) (by decide) (by decide)) (ss_seq (ss_par (sea_cons se_var (sea_cons (se_callI (sea_cons (se_p sp_int) sea_nil)) sea_nil)) (by decide) (by decide)) (ss_seq (ss_for (slots := [7]) (si_r1 (sea_cons (se_p sp_int) sea_nil)) sg_name (by decide) (ss_if (set_p (st_and (sp_test (sp_op os_le sp_var sp_var)) (sp_test (sp_op os_lt (sp_op os_sub sp_var sp_var) sp_var)))) (ss_seq (ss_app se_var) (ss_set (se_p (sp_op os_sub sp_var sp_var)) (by decide))) ss_nil)) (ss_seq (ss_for (slots := [7]) (si_r1 (sea_cons (se_p sp_int) sea_nil)) sg_name (by decide) (ss_if (set_p (sp_test (sp_op os_le sp_var sp_var))) (ss_seq (ss_app se_var) (ss_set (se_p (sp_op os_sub sp_var sp_var)) (by decide))) ss_nil)) (ss_ret (se_call (sea_cons (se_callI (sea_cons se_var sea_nil)) (sea_cons (se_op oe_add se_var (se_op oe_repU (se_lst (sea_cons (se_p sp_int) sea_nil)) se_var)) sea_nil)))))))))⟩
/-! law_asked: 0 p, 1 k, 2 due, 3 kept, 4 x -/
theorem sc_law_asked : FnScope ["p", "k", "due", "kept", "x"] ["p", "k", "due"] (defScope s_law_asked) := ⟨rfl, rfl, rfl, by decide +kernel, rfl, by decide +kernel, by decide +kernel⟩
theorem ok_law_asked (dd : Dd K mg "_law_asked" s_law_asked ["p", "k", "due"]) (g_law_same : Fn P w K mg base "_law_same" 6 ["one", "other"] (spM ct 2 (F_law_same 6))) (g_roots_of : Fn P w K mg base "roots_of" 3 ["p", "k"] (spM ct 2 F_roots_of)) :
    Fn P w K mg base "_law_asked" (7) ["p", "k", "due"] (spM ct 3 F_law_asked) := by
  obtain ⟨_, _, G_law_same, m_law_same, k_law_same, d_law_same⟩ := g_law_same
  obtain ⟨_, _, G_roots_of, m_roots_of, k_roots_of, d_roots_of⟩ := g_roots_of
  have sc := sc_law_asked
  refine fn_def (k := 6) dd sc_law_asked fun f cdv A outer s H E hr => ?_
  exact ⟨_, (pss_cons (ps_setLc (i := 3) (own := [("x", 4)]) rfl sc.nd rfl rfl (sw_true rfl rfl rfl (by decide +kernel)) (pi_seq (pv 0)) (blkOk_by (N := ["p", "k", "due", "kept", "x"]) (sc := defScope s_law_asked) (by decide +kernel)) (fun _ _ _ _ _ => (pg_name (i := 4) sc.nd rfl (by first | exact Or.inl rfl | exact Or.inr rfl))) (fun _ _ _ _ _ => pts_nil) (fun _ _ _ _ _ => (pv 4))) (pss_one (ps_ret (pe_and (pe_callS G_law_same (hr.mono (by omega)) (by rfl) m_law_same k_law_same d_law_same (fun σ => passAt (takes_of rfl rfl rfl rfl) σ) (pa_cons (pe_callS G_roots_of (hr.mono (by omega)) (by rfl) m_roots_of k_roots_of d_roots_of (fun σ => passAt (takes_of rfl rfl rfl rfl) σ) (pa_cons (pv 0) (pa_cons (pv 1) pa_nil))) (pa_cons (pv 2) pa_nil))) (pe_and (pe_callS G_law_same (hr.mono (by omega)) (by rfl) m_law_same k_law_same d_law_same (fun σ => passAt (takes_of rfl rfl rfl rfl) σ) (pa_cons (pv 0) (pa_cons (pv 3) pa_nil))) (pe_one (pe_callS G_law_same (hr.mono (by omega)) (by rfl) m_law_same k_law_same d_law_same (fun σ => passAt (takes_of rfl rfl rfl rfl) σ) (pa_cons (pe_callS G_roots_of (hr.mono (by omega)) (by rfl) m_roots_of k_roots_of d_roots_of (fun σ => passAt (takes_of rfl rfl rfl rfl) σ) (pa_cons (pv 0) (pa_cons (pv 1) pa_nil))) (pa_cons (pv 2) pa_nil))))))))),
    (ss_seq (ss_set (se_lc (slots := [4]) (si_e se_var) sg_name set_yes se_var) (by decide)) (ss_ret (se_p (sp_andV (sp_callG (sa_cons (sp_callG (sa_cons sp_var (sa_cons sp_var sa_nil))) (sa_cons sp_var sa_nil))) (sp_andV (sp_callG (sa_cons sp_var (sa_cons sp_var sa_nil))) (sp_callG (sa_cons (sp_callG (sa_cons sp_var (sa_cons sp_var sa_nil))) (sa_cons sp_var sa_nil))))))))⟩
/-! law: 0 script, 1 pool, 2 k, 3 other, 4 n, 5 p, 6 q, 7 total, 8 places, 9 row, 10 told, 11 one -/
theorem sc_law : FnScope ["script", "pool", "k", "other", "n", "p", "q", "total", "places", "row", "told", "one"] ["script"] (defScope s_law) := ⟨rfl, rfl, rfl, by decide +kernel, rfl, by decide +kernel, by decide +kernel⟩
theorem ok_law (dd : Dd K mg "law" s_law ["script"]) (b_int : mg "int" = none) (b_len : mg "len" = none) (g_law_stream : Fn P w K mg base "_law_stream" 2 ["script"] (spSc ct K F_law_stream)) (g_law_factorial : Fn P w K mg base "_law_factorial" 1 ["n"] (spM ct 1 F_law_factorial)) (g_law_met : Fn P w K mg base "_law_met" 2 ["row"] (spM ct 1 F_law_met)) (g_law_same : Fn P w K mg base "_law_same" 6 ["one", "other"] (spM ct 2 (F_law_same 6))) (g_law_count : Fn P w K mg base "_law_count" 2 ["p", "k"] (spM ct 2 F_law_count)) (g_roots_of : Fn P w K mg base "roots_of" 3 ["p", "k"] (spM ct 2 F_roots_of)) (g_law_of : Fn P w K mg base "_law_of" 1 ["places", "row"] (spM ct 2 F_law_of)) (g_law_kinds : Fn P w K mg base "_law_kinds" 1 ["n"] (spM ct 1 F_law_kinds)) (g_law_turning : Fn P w K mg base "_law_turning" 2 ["pool", "n"] (spM ct 2 F_law_turning)) (g_law_pick : Fn P w K mg base "_law_pick" 1 ["pool", "many"] (spM ct 2 F_law_pick)) (g_law_asked : Fn P w K mg base "_law_asked" 7 ["p", "k", "due"] (spM ct 3 F_law_asked)) (g_law_everyone : Fn P w K mg base "_law_everyone" 1 ["n"] (spM ct 1 F_law_everyone)) (g_law_times : Fn P w K mg base "_law_times" 2 ["p", "k"] (spM ct 2 F_law_times)) (g_law_rough : Fn P w K mg base "_law_rough" 3 ["pool"] (spM ct 1 F_law_rough)) (g_law_any : Fn P w K mg base "_law_any" 4 ["pool", "n"] (spM ct 2 F_law_any)) :
    Fl P w K mg base "law" s_law 8 ["script"] (spSc ct K F_law) := by
  obtain ⟨_, _, G_law_stream, m_law_stream, k_law_stream, d_law_stream⟩ := g_law_stream
  obtain ⟨_, _, G_law_factorial, m_law_factorial, k_law_factorial, d_law_factorial⟩ := g_law_factorial
  obtain ⟨_, _, G_law_met, m_law_met, k_law_met, d_law_met⟩ := g_law_met
  obtain ⟨_, _, G_law_same, m_law_same, k_law_same, d_law_same⟩ := g_law_same
  obtain ⟨_, _, G_law_count, m_law_count, k_law_count, d_law_count⟩ := g_law_count
  obtain ⟨_, _, G_roots_of, m_roots_of, k_roots_of, d_roots_of⟩ := g_roots_of
  obtain ⟨_, _, G_law_of, m_law_of, k_law_of, d_law_of⟩ := g_law_of
  obtain ⟨_, _, G_law_kinds, m_law_kinds, k_law_kinds, d_law_kinds⟩ := g_law_kinds
  obtain ⟨_, _, G_law_turning, m_law_turning, k_law_turning, d_law_turning⟩ := g_law_turning
  obtain ⟨_, _, G_law_pick, m_law_pick, k_law_pick, d_law_pick⟩ := g_law_pick
  obtain ⟨_, _, G_law_asked, m_law_asked, k_law_asked, d_law_asked⟩ := g_law_asked
  obtain ⟨_, _, G_law_everyone, m_law_everyone, k_law_everyone, d_law_everyone⟩ := g_law_everyone
  obtain ⟨_, _, G_law_times, m_law_times, k_law_times, d_law_times⟩ := g_law_times
  obtain ⟨_, _, G_law_rough, m_law_rough, k_law_rough, d_law_rough⟩ := g_law_rough
  obtain ⟨_, _, G_law_any, m_law_any, k_law_any, d_law_any⟩ := g_law_any
  have sc := sc_law
  refine fn_defL (k := 7) dd sc_law (by decide) fun f cdv A outer s H E hr => ?_
  exact ⟨_, (pss_cons (ps_set (i := 1) sc.nd rfl (Or.inl rfl) (pe_callS G_law_stream (hr.mono (by omega)) (by rfl) m_law_stream k_law_stream d_law_stream (fun σ => passAt (takes_of rfl rfl rfl rfl) σ) (pa_cons (pv 0) pa_nil))) (pss_cons (ps_asg (pe_tup (pa_cons (pe_op u_add pe_int (pe_callS G_law_pick (hr.mono (by omega)) (by rfl) m_law_pick k_law_pick d_law_pick (fun σ => passAt (takes_of rfl rfl rfl rfl) σ) (pa_cons (pv 1) (pa_cons pe_int pa_nil)))) (pa_cons (pe_op u_add pe_int (pe_callS G_law_pick (hr.mono (by omega)) (by rfl) m_law_pick k_law_pick d_law_pick (fun σ => passAt (takes_of rfl rfl rfl rfl) σ) (pa_cons (pv 1) (pa_cons pe_int pa_nil)))) pa_nil))) (pg_tup (by rfl) (pgs_cons (pg_name (i := 2) sc.nd rfl (Or.inr rfl)) (pgs_cons (pg_name (i := 3) sc.nd rfl (Or.inl rfl)) pgs_nil)))) (pss_cons (ps_set (i := 4) sc.nd rfl (Or.inl rfl) (pe_ix ix_seq (pe_lst (pa_cons (pe_callS G_law_pick (hr.mono (by omega)) (by rfl) m_law_pick k_law_pick d_law_pick (fun σ => passAt (takes_of rfl rfl rfl rfl) σ) (pa_cons (pv 1) (pa_cons pe_int pa_nil))) (pa_cons pe_int pa_nil))) (pe_callTy call_int1 (by rfl) b_int (by decide +kernel) (pa_cons (pe_cmpR (op_eqD (eqU hr)) (pe_callS G_law_pick (hr.mono (by omega)) (by rfl) m_law_pick k_law_pick d_law_pick (fun σ => passAt (takes_of rfl rfl rfl rfl) σ) (pa_cons (pv 1) (pa_cons pe_int pa_nil))) pe_int (nomark _)) pa_nil)) (fun _ _ => rfl))) (pss_cons (ps_asg (pe_tup (pa_cons (pe_callS G_law_any (hr.mono (by omega)) (by rfl) m_law_any k_law_any d_law_any (fun σ => passAt (takes_of rfl rfl rfl rfl) σ) (pa_cons (pv 1) (pa_cons (pv 4) pa_nil))) (pa_cons (pe_callS G_law_rough (hr.mono (by omega)) (by rfl) m_law_rough k_law_rough d_law_rough (fun σ => passAt (takes_of rfl rfl rfl rfl) σ) (pa_cons (pv 1) pa_nil)) pa_nil))) (pg_tup (by rfl) (pgs_cons (pg_name (i := 5) sc.nd rfl (Or.inr rfl)) (pgs_cons (pg_name (i := 6) sc.nd rfl (Or.inl rfl)) pgs_nil)))) (pss_cons (ps_if (pt_not (pt_val (pe_callS G_law_asked (hr.mono (by omega)) (by rfl) m_law_asked k_law_asked d_law_asked (fun σ => passAt (takes_of rfl rfl rfl rfl) σ) (pa_cons (pv 5) (pa_cons (pv 2) (pa_cons (pe_callB call_len (by rfl) b_len (by decide +kernel) (pa_cons (pe_lc (own := [("one", 11)]) rfl sc.nd (pi_seq (pe_callS G_law_everyone (hr.mono (by omega)) (by rfl) m_law_everyone k_law_everyone d_law_everyone (fun σ => passAt (takes_of rfl rfl rfl rfl) σ) (pa_cons (pv 4) pa_nil))) (blkOk_by (N := ["script", "pool", "k", "other", "n", "p", "q", "total", "places", "row", "told", "one"]) (sc := defScope s_law) (by decide +kernel)) (fun _ _ _ _ _ => (pg_name (i := 11) sc.nd rfl (by first | exact Or.inl rfl | exact Or.inr rfl))) (fun _ _ _ _ _ => (pts_one (pt_cmpR (op_eqD (eqU hr)) (pe_call G_law_times (hr.mono (by omega)) (by rfl) m_law_times k_law_times d_law_times .nil passL (pa_cons (pv 11) (pa_cons (pv 2) pa_nil))) (pv 5) (nomark _)))) (fun _ _ _ _ _ => (pv 11))) pa_nil)) pa_nil)))))) (pss_one (ps_ret pe_bl)) pss_nil) (pss_cons (ps_if (PW.pt (pw_or (pt_not (pt_val (pe_callS G_law_asked (hr.mono (by omega)) (by rfl) m_law_asked k_law_asked d_law_asked (fun σ => passAt (takes_of rfl rfl rfl rfl) σ) (pa_cons (pv 6) (pa_cons (pv 2) (pa_cons (pe_callS G_law_count (hr.mono (by omega)) (by rfl) m_law_count k_law_count d_law_count (fun σ => passAt (takes_of rfl rfl rfl rfl) σ) (pa_cons (pv 6) (pa_cons (pv 2) pa_nil))) pa_nil)))))) (pw_or1 (pt_not (pt_val (pe_callS G_law_asked (hr.mono (by omega)) (by rfl) m_law_asked k_law_asked d_law_asked (fun σ => passAt (takes_of rfl rfl rfl rfl) σ) (pa_cons (pv 6) (pa_cons (pv 3) (pa_cons (pe_callS G_law_count (hr.mono (by omega)) (by rfl) m_law_count k_law_count d_law_count (fun σ => passAt (takes_of rfl rfl rfl rfl) σ) (pa_cons (pv 6) (pa_cons (pv 3) pa_nil))) pa_nil))))))))) (pss_one (ps_ret pe_bl)) pss_nil) (pss_cons (ps_if (pt_cmpR u_gt (pe_callS G_law_pick (hr.mono (by omega)) (by rfl) m_law_pick k_law_pick d_law_pick (fun σ => passAt (takes_of rfl rfl rfl rfl) σ) (pa_cons (pv 1) (pa_cons pe_int pa_nil))) pe_int (nomark _)) (pss_one (ps_ret (pe_callS G_law_asked (hr.mono (by omega)) (by rfl) m_law_asked k_law_asked d_law_asked (fun σ => passAt (takes_of rfl rfl rfl rfl) σ) (pa_cons (pv 6) (pa_cons (pv 2) (pa_cons (pe_callS G_law_count (hr.mono (by omega)) (by rfl) m_law_count k_law_count d_law_count (fun σ => passAt (takes_of rfl rfl rfl rfl) σ) (pa_cons (pv 6) (pa_cons (pv 2) pa_nil))) pa_nil)))))) pss_nil) (pss_cons (ps_par (by rfl) sc.nd rfl rfl (by decide) rfl rfl (pa_cons (pe_callS G_law_pick (hr.mono (by omega)) (by rfl) m_law_pick k_law_pick d_law_pick (fun σ => passAt (takes_of rfl rfl rfl rfl) σ) (pa_cons (pv 1) (pa_cons pe_int pa_nil))) (pa_cons pe_int pa_nil)) (by rfl)) (pss_cons (ps_set (i := 8) sc.nd rfl (Or.inl rfl) (pe_callS G_law_turning (hr.mono (by omega)) (by rfl) m_law_turning k_law_turning d_law_turning (fun σ => passAt (takes_of rfl rfl rfl rfl) σ) (pa_cons (pv 1) (pa_cons (pv 4) pa_nil)))) (pss_cons (ps_for (passes_of rfl) rfl (pi_seq (pe_callS G_law_kinds (hr.mono (by omega)) (by rfl) m_law_kinds k_law_kinds d_law_kinds (fun σ => passAt (takes_of rfl rfl rfl rfl) σ) (pa_cons (pv 4) pa_nil))) (pg_name (i := 9) sc.nd rfl (Or.inl rfl)) (pss_cons (ps_set (i := 5) sc.nd rfl (Or.inr rfl) (pe_callS G_law_of (hr.mono (by omega)) (by rfl) m_law_of k_law_of d_law_of (fun σ => passAt (takes_of rfl rfl rfl rfl) σ) (pa_cons (pv 8) (pa_cons (pv 9) pa_nil)))) (pss_cons (ps_set (i := 10) sc.nd rfl (Or.inl rfl) (pe_callS G_roots_of (hr.mono (by omega)) (by rfl) m_roots_of k_roots_of d_roots_of (fun σ => passAt (takes_of rfl rfl rfl rfl) σ) (pa_cons (pv 5) (pa_cons (pv 3) pa_nil)))) (pss_cons (ps_if (pt_not (pt_val (pe_callS G_law_same (hr.mono (by omega)) (by rfl) m_law_same k_law_same d_law_same (fun σ => passAt (takes_of rfl rfl rfl rfl) σ) (pa_cons (pv 10) (pa_cons (pe_callS G_law_count (hr.mono (by omega)) (by rfl) m_law_count k_law_count d_law_count (fun σ => passAt (takes_of rfl rfl rfl rfl) σ) (pa_cons (pv 5) (pa_cons (pv 3) pa_nil))) pa_nil))))) (pss_one (ps_ret pe_bl)) pss_nil) (pss_one (ps_set (i := 7) sc.nd rfl (Or.inl rfl) (pe_op u_add (pv 7) (pe_op u_mul (pv 10) (pe_callS G_law_met (hr.mono (by omega)) (by rfl) m_law_met k_law_met d_law_met (fun σ => passAt (takes_of rfl rfl rfl rfl) σ) (pa_cons (pv 9) pa_nil)))))))))) (pss_one (ps_ret (pe_cmpR (op_eqD (eqU hr)) (pv 7) (pe_callS G_law_factorial (hr.mono (by omega)) (by rfl) m_law_factorial k_law_factorial d_law_factorial (fun σ => passAt (takes_of rfl rfl rfl rfl) σ) (pa_cons (pv 4) pa_nil)) (nomark _)))))))))))))),
    fun ns => ssa_seq (ssa_set (by decide) sea_callS (by decide)) (SS.a (ss_seq (ss_unp (se_tup (sea_cons (se_op oe_add (se_p sp_int) (se_callI (sea_cons (se_p sp_int) sea_nil))) (sea_cons (se_op oe_add (se_p sp_int) (se_callI (sea_cons (se_p sp_int) sea_nil))) sea_nil))) (sg_tup (is := [2, 3]) rfl) (by decide)) (ss_seq (ss_set (se_op oe_ix (se_lst (sea_cons (se_callI (sea_cons (se_p sp_int) sea_nil)) (sea_cons (se_p sp_int) sea_nil))) (se_cb (ce_s cs_int) (sea_cons (se_op (oe_s os_eq) (se_callI (sea_cons (se_p sp_int) sea_nil)) (se_p sp_int)) sea_nil))) (by decide)) (ss_seq (ss_unp (se_tup (sea_cons (se_callI (sea_cons se_var sea_nil)) (sea_cons (se_callI sea_nil) sea_nil))) (sg_tup (is := [5, 6]) rfl) (by decide)) (ss_seq (ss_if (set_not (set_b (se_call (sea_cons se_var (sea_cons se_var (sea_cons (se_cb (ce_s cs_len) (sea_cons (se_lc (slots := [11]) (si_e (se_call (sea_cons se_var sea_nil))) sg_name (set_p (sp_test (sp_op os_eq (sp_call0 (sa_cons sp_var (sa_cons sp_var sa_nil))) sp_var))) se_var) sea_nil)) sea_nil)))))) (ss_ret (se_p sp_bl)) ss_nil) (ss_seq (ss_if (set_p (st_or (st_not (sp_b (sp_callG (sa_cons sp_var (sa_cons sp_var (sa_cons (sp_callG (sa_cons sp_var (sa_cons sp_var sa_nil))) sa_nil)))))) (st_not (sp_b (sp_callG (sa_cons sp_var (sa_cons sp_var (sa_cons (sp_callG (sa_cons sp_var (sa_cons sp_var sa_nil))) sa_nil)))))))) (ss_ret (se_p sp_bl)) ss_nil) (ss_seq (ss_if (set_test (se_op (oe_s os_gt) (se_callI (sea_cons (se_p sp_int) sea_nil)) (se_p sp_int))) (ss_ret (se_p (sp_callG (sa_cons sp_var (sa_cons sp_var (sa_cons (sp_callG (sa_cons sp_var (sa_cons sp_var sa_nil))) sa_nil)))))) ss_nil) (ss_seq (ss_par (sea_cons (se_callI (sea_cons (se_p sp_int) sea_nil)) (sea_cons (se_p sp_int) sea_nil)) (by decide) (by decide)) (ss_seq (ss_set (se_callI (sea_cons se_var sea_nil)) (by decide)) (ss_seq (ss_for (slots := [9]) (si_e (se_call (sea_cons se_var sea_nil))) sg_name (by decide) (ss_seq (ss_set (se_call (sea_cons se_var (sea_cons se_var sea_nil))) (by decide)) (ss_seq (ss_set (se_p (sp_callG (sa_cons sp_var (sa_cons sp_var sa_nil)))) (by decide)) (ss_seq (ss_if (set_p (st_not (sp_b (sp_callG (sa_cons sp_var (sa_cons (sp_callG (sa_cons sp_var (sa_cons sp_var sa_nil))) sa_nil)))))) (ss_ret (se_p sp_bl)) ss_nil) (ss_set (se_p (sp_op os_add sp_var (sp_op os_mul sp_var (sp_callG (sa_cons sp_var sa_nil))))) (by decide)))))) (ss_ret (se_p (sp_op os_eq sp_var (sp_callG (sa_cons sp_var sa_nil)))))))))))))))⟩
end
theorem all_mk {l : PySem.W.OpenLaw} {w : World} {K : PySem.W.Frag} {h : Heap} {mg : Str → Option Value} {fa : Addr} (X : K.In h) (G : h.Ns mainGlobals mg) (hfa : mg "law" = some (.ref fa))
    {f0 : Addr} {od0 an0 : Option Addr} {sl0 : Array (Option Value)} {oc0 kV0 dc0 pm0 cd0 ct0 : Value}
    {f1 : Addr} {od1 an1 : Option Addr} {sl1 : Array (Option Value)} {oc1 kV1 dc1 pm1 cd1 ct1 : Value}
    {f2 : Addr} {od2 an2 : Option Addr} {sl2 : Array (Option Value)} {oc2 kV2 dc2 pm2 cd2 ct2 : Value}
    {f3 : Addr} {od3 an3 : Option Addr} {sl3 : Array (Option Value)} {oc3 kV3 dc3 pm3 cd3 ct3 : Value}
    {f4 : Addr} {od4 an4 : Option Addr} {sl4 : Array (Option Value)} {oc4 kV4 dc4 pm4 cd4 ct4 : Value}
    {f5 : Addr} {od5 an5 : Option Addr} {sl5 : Array (Option Value)} {oc5 kV5 dc5 pm5 cd5 ct5 : Value}
    {f6 : Addr} {od6 an6 : Option Addr} {sl6 : Array (Option Value)} {oc6 kV6 dc6 pm6 cd6 ct6 : Value}
    {f7 : Addr} {od7 an7 : Option Addr} {sl7 : Array (Option Value)} {oc7 kV7 dc7 pm7 cd7 ct7 : Value}
    {f8 : Addr} {od8 an8 : Option Addr} {sl8 : Array (Option Value)} {oc8 kV8 dc8 pm8 cd8 ct8 : Value}
    {f9 : Addr} {od9 an9 : Option Addr} {sl9 : Array (Option Value)} {oc9 kV9 dc9 pm9 cd9 ct9 : Value}
    {f10 : Addr} {od10 an10 : Option Addr} {sl10 : Array (Option Value)} {oc10 kV10 dc10 pm10 cd10 ct10 : Value}
    {f11 : Addr} {od11 an11 : Option Addr} {sl11 : Array (Option Value)} {oc11 kV11 dc11 pm11 cd11 ct11 : Value}
    {f12 : Addr} {od12 an12 : Option Addr} {sl12 : Array (Option Value)} {oc12 kV12 dc12 pm12 cd12 ct12 : Value}
    {f13 : Addr} {od13 an13 : Option Addr} {sl13 : Array (Option Value)} {oc13 kV13 dc13 pm13 cd13 ct13 : Value}
    {f14 : Addr} {od14 an14 : Option Addr} {sl14 : Array (Option Value)} {oc14 kV14 dc14 pm14 cd14 ct14 : Value}
    {f15 : Addr} {od15 an15 : Option Addr} {sl15 : Array (Option Value)} {oc15 kV15 dc15 pm15 cd15 ct15 : Value}
    {f16 : Addr} {od16 an16 : Option Addr} {sl16 : Array (Option Value)} {oc16 kV16 dc16 pm16 cd16 ct16 : Value}
    {f17 : Addr} {od17 an17 : Option Addr} {sl17 : Array (Option Value)} {oc17 kV17 dc17 pm17 cd17 ct17 : Value}
    {f18 : Addr} {od18 an18 : Option Addr} {sl18 : Array (Option Value)} {oc18 kV18 dc18 pm18 cd18 ct18 : Value}
    {f19 : Addr} {od19 an19 : Option Addr} {sl19 : Array (Option Value)} {oc19 kV19 dc19 pm19 cd19 ct19 : Value}
    {f20 : Addr} {od20 an20 : Option Addr} {sl20 : Array (Option Value)} {oc20 kV20 dc20 pm20 cd20 ct20 : Value}
    {f21 : Addr} {od21 an21 : Option Addr} {sl21 : Array (Option Value)} {oc21 kV21 dc21 pm21 cd21 ct21 : Value}
    {f22 : Addr} {od22 an22 : Option Addr} {sl22 : Array (Option Value)} {oc22 kV22 dc22 pm22 cd22 ct22 : Value}
    {f23 : Addr} {od23 an23 : Option Addr} {sl23 : Array (Option Value)} {oc23 kV23 dc23 pm23 cd23 ct23 : Value}
    {f24 : Addr} {od24 an24 : Option Addr} {sl24 : Array (Option Value)} {oc24 kV24 dc24 pm24 cd24 ct24 : Value}
    {f25 : Addr} {od25 an25 : Option Addr} {sl25 : Array (Option Value)} {oc25 kV25 dc25 pm25 cd25 ct25 : Value}
    {f26 : Addr} {od26 an26 : Option Addr} {sl26 : Array (Option Value)} {oc26 kV26 dc26 pm26 cd26 ct26 : Value}
    (a0 : PySem.W.nsIn K mainGlobals "lists_of" = some (some (.ref f0))) (l0 : K.lookup f0 = some ⟨oc0, od0, .func (PySem.W.fnOf "lists_of" "lists_of" (defArgs s_lists_of) (defBody s_lists_of) (defScope s_lists_of) .none kV0 dc0 pm0 an0 cd0 ct0), sl0⟩) (c0 : PySem.W.codeIn K cd0 "lists_of" = true) (k0 : PySem.W.keepIn K (.ref f0) = true)
    (a1 : PySem.W.nsIn K mainGlobals "kind_of" = some (some (.ref f1))) (l1 : K.lookup f1 = some ⟨oc1, od1, .func (PySem.W.fnOf "kind_of" "kind_of" (defArgs s_kind_of) (defBody s_kind_of) (defScope s_kind_of) .none kV1 dc1 pm1 an1 cd1 ct1), sl1⟩) (c1 : PySem.W.codeIn K cd1 "kind_of" = true) (k1 : PySem.W.keepIn K (.ref f1) = true)
    (a2 : PySem.W.nsIn K mainGlobals "shared" = some (some (.ref f2))) (l2 : K.lookup f2 = some ⟨oc2, od2, .func (PySem.W.fnOf "shared" "shared" (defArgs s_shared) (defBody s_shared) (defScope s_shared) .none kV2 dc2 pm2 an2 cd2 ct2), sl2⟩) (c2 : PySem.W.codeIn K cd2 "shared" = true) (k2 : PySem.W.keepIn K (.ref f2) = true)
    (a3 : PySem.W.nsIn K mainGlobals "ways_to_join" = some (some (.ref f3))) (l3 : K.lookup f3 = some ⟨oc3, od3, .func (PySem.W.fnOf "ways_to_join" "ways_to_join" (defArgs s_ways_to_join) (defBody s_ways_to_join) (defScope s_ways_to_join) .none kV3 dc3 pm3 an3 cd3 ct3), sl3⟩) (c3 : PySem.W.codeIn K cd3 "ways_to_join" = true) (k3 : PySem.W.keepIn K (.ref f3) = true)
    (a4 : PySem.W.nsIn K mainGlobals "roots_of" = some (some (.ref f4))) (l4 : K.lookup f4 = some ⟨oc4, od4, .func (PySem.W.fnOf "roots_of" "roots_of" (defArgs s_roots_of) (defBody s_roots_of) (defScope s_roots_of) .none kV4 dc4 pm4 an4 cd4 ct4), sl4⟩) (c4 : PySem.W.codeIn K cd4 "roots_of" = true) (k4 : PySem.W.keepIn K (.ref f4) = true)
    (a5 : PySem.W.nsIn K mainGlobals "_law_pool" = some (some (.ref f5))) (l5 : K.lookup f5 = some ⟨oc5, od5, .func (PySem.W.fnOf "_law_pool" "_law_pool" (defArgs s_law_pool) (defBody s_law_pool) (defScope s_law_pool) .none kV5 dc5 pm5 an5 cd5 ct5), sl5⟩) (c5 : PySem.W.codeIn K cd5 "_law_pool" = true) (k5 : PySem.W.keepIn K (.ref f5) = true)
    (a6 : PySem.W.nsIn K mainGlobals "_law_stream" = some (some (.ref f6))) (l6 : K.lookup f6 = some ⟨oc6, od6, .func (PySem.W.fnOf "_law_stream" "_law_stream" (defArgs s_law_stream) (defBody s_law_stream) (defScope s_law_stream) .none kV6 dc6 pm6 an6 cd6 ct6), sl6⟩) (c6 : PySem.W.codeIn K cd6 "_law_stream" = true) (k6 : PySem.W.keepIn K (.ref f6) = true)
    (a7 : PySem.W.nsIn K mainGlobals "_law_pick" = some (some (.ref f7))) (l7 : K.lookup f7 = some ⟨oc7, od7, .func (PySem.W.fnOf "_law_pick" "_law_pick" (defArgs s_law_pick) (defBody s_law_pick) (defScope s_law_pick) .none kV7 dc7 pm7 an7 cd7 ct7), sl7⟩) (c7 : PySem.W.codeIn K cd7 "_law_pick" = true) (k7 : PySem.W.keepIn K (.ref f7) = true)
    (a8 : PySem.W.nsIn K mainGlobals "_law_then" = some (some (.ref f8))) (l8 : K.lookup f8 = some ⟨oc8, od8, .func (PySem.W.fnOf "_law_then" "_law_then" (defArgs s_law_then) (defBody s_law_then) (defScope s_law_then) .none kV8 dc8 pm8 an8 cd8 ct8), sl8⟩) (c8 : PySem.W.codeIn K cd8 "_law_then" = true) (k8 : PySem.W.keepIn K (.ref f8) = true)
    (a9 : PySem.W.nsIn K mainGlobals "_law_back" = some (some (.ref f9))) (l9 : K.lookup f9 = some ⟨oc9, od9, .func (PySem.W.fnOf "_law_back" "_law_back" (defArgs s_law_back) (defBody s_law_back) (defScope s_law_back) .none kV9 dc9 pm9 an9 cd9 ct9), sl9⟩) (c9 : PySem.W.codeIn K cd9 "_law_back" = true) (k9 : PySem.W.keepIn K (.ref f9) = true)
    (a10 : PySem.W.nsIn K mainGlobals "_law_turning" = some (some (.ref f10))) (l10 : K.lookup f10 = some ⟨oc10, od10, .func (PySem.W.fnOf "_law_turning" "_law_turning" (defArgs s_law_turning) (defBody s_law_turning) (defScope s_law_turning) .none kV10 dc10 pm10 an10 cd10 ct10), sl10⟩) (c10 : PySem.W.codeIn K cd10 "_law_turning" = true) (k10 : PySem.W.keepIn K (.ref f10) = true)
    (a11 : PySem.W.nsIn K mainGlobals "_law_factorial" = some (some (.ref f11))) (l11 : K.lookup f11 = some ⟨oc11, od11, .func (PySem.W.fnOf "_law_factorial" "_law_factorial" (defArgs s_law_factorial) (defBody s_law_factorial) (defScope s_law_factorial) .none kV11 dc11 pm11 an11 cd11 ct11), sl11⟩) (c11 : PySem.W.codeIn K cd11 "_law_factorial" = true) (k11 : PySem.W.keepIn K (.ref f11) = true)
    (a12 : PySem.W.nsIn K mainGlobals "_law_same" = some (some (.ref f12))) (l12 : K.lookup f12 = some ⟨oc12, od12, .func (PySem.W.fnOf "_law_same" "_law_same" (defArgs s_law_same) (defBody s_law_same) (defScope s_law_same) .none kV12 dc12 pm12 an12 cd12 ct12), sl12⟩) (c12 : PySem.W.codeIn K cd12 "_law_same" = true) (k12 : PySem.W.keepIn K (.ref f12) = true)
    (a13 : PySem.W.nsIn K mainGlobals "_law_lengths" = some (some (.ref f13))) (l13 : K.lookup f13 = some ⟨oc13, od13, .func (PySem.W.fnOf "_law_lengths" "_law_lengths" (defArgs s_law_lengths) (defBody s_law_lengths) (defScope s_law_lengths) .none kV13 dc13 pm13 an13 cd13 ct13), sl13⟩) (c13 : PySem.W.codeIn K cd13 "_law_lengths" = true) (k13 : PySem.W.keepIn K (.ref f13) = true)
    (a14 : PySem.W.nsIn K mainGlobals "_law_shaped" = some (some (.ref f14))) (l14 : K.lookup f14 = some ⟨oc14, od14, .func (PySem.W.fnOf "_law_shaped" "_law_shaped" (defArgs s_law_shaped) (defBody s_law_shaped) (defScope s_law_shaped) .none kV14 dc14 pm14 an14 cd14 ct14), sl14⟩) (c14 : PySem.W.codeIn K cd14 "_law_shaped" = true) (k14 : PySem.W.keepIn K (.ref f14) = true)
    (a15 : PySem.W.nsIn K mainGlobals "_law_any" = some (some (.ref f15))) (l15 : K.lookup f15 = some ⟨oc15, od15, .func (PySem.W.fnOf "_law_any" "_law_any" (defArgs s_law_any) (defBody s_law_any) (defScope s_law_any) .none kV15 dc15 pm15 an15 cd15 ct15), sl15⟩) (c15 : PySem.W.codeIn K cd15 "_law_any" = true) (k15 : PySem.W.keepIn K (.ref f15) = true)
    (a16 : PySem.W.nsIn K mainGlobals "_law_times" = some (some (.ref f16))) (l16 : K.lookup f16 = some ⟨oc16, od16, .func (PySem.W.fnOf "_law_times" "_law_times" (defArgs s_law_times) (defBody s_law_times) (defScope s_law_times) .none kV16 dc16 pm16 an16 cd16 ct16), sl16⟩) (c16 : PySem.W.codeIn K cd16 "_law_times" = true) (k16 : PySem.W.keepIn K (.ref f16) = true)
    (a17 : PySem.W.nsIn K mainGlobals "_law_rows" = some (some (.ref f17))) (l17 : K.lookup f17 = some ⟨oc17, od17, .func (PySem.W.fnOf "_law_rows" "_law_rows" (defArgs s_law_rows) (defBody s_law_rows) (defScope s_law_rows) .none kV17 dc17 pm17 an17 cd17 ct17), sl17⟩) (c17 : PySem.W.codeIn K cd17 "_law_rows" = true) (k17 : PySem.W.keepIn K (.ref f17) = true)
    (a18 : PySem.W.nsIn K mainGlobals "_law_everyone" = some (some (.ref f18))) (l18 : K.lookup f18 = some ⟨oc18, od18, .func (PySem.W.fnOf "_law_everyone" "_law_everyone" (defArgs s_law_everyone) (defBody s_law_everyone) (defScope s_law_everyone) .none kV18 dc18 pm18 an18 cd18 ct18), sl18⟩) (c18 : PySem.W.codeIn K cd18 "_law_everyone" = true) (k18 : PySem.W.keepIn K (.ref f18) = true)
    (a19 : PySem.W.nsIn K mainGlobals "_law_ways" = some (some (.ref f19))) (l19 : K.lookup f19 = some ⟨oc19, od19, .func (PySem.W.fnOf "_law_ways" "_law_ways" (defArgs s_law_ways) (defBody s_law_ways) (defScope s_law_ways) .none kV19 dc19 pm19 an19 cd19 ct19), sl19⟩) (c19 : PySem.W.codeIn K cd19 "_law_ways" = true) (k19 : PySem.W.keepIn K (.ref f19) = true)
    (a20 : PySem.W.nsIn K mainGlobals "_law_count" = some (some (.ref f20))) (l20 : K.lookup f20 = some ⟨oc20, od20, .func (PySem.W.fnOf "_law_count" "_law_count" (defArgs s_law_count) (defBody s_law_count) (defScope s_law_count) .none kV20 dc20 pm20 an20 cd20 ct20), sl20⟩) (c20 : PySem.W.codeIn K cd20 "_law_count" = true) (k20 : PySem.W.keepIn K (.ref f20) = true)
    (a21 : PySem.W.nsIn K mainGlobals "_law_kinds" = some (some (.ref f21))) (l21 : K.lookup f21 = some ⟨oc21, od21, .func (PySem.W.fnOf "_law_kinds" "_law_kinds" (defArgs s_law_kinds) (defBody s_law_kinds) (defScope s_law_kinds) .none kV21 dc21 pm21 an21 cd21 ct21), sl21⟩) (c21 : PySem.W.codeIn K cd21 "_law_kinds" = true) (k21 : PySem.W.keepIn K (.ref f21) = true)
    (a22 : PySem.W.nsIn K mainGlobals "_law_of" = some (some (.ref f22))) (l22 : K.lookup f22 = some ⟨oc22, od22, .func (PySem.W.fnOf "_law_of" "_law_of" (defArgs s_law_of) (defBody s_law_of) (defScope s_law_of) .none kV22 dc22 pm22 an22 cd22 ct22), sl22⟩) (c22 : PySem.W.codeIn K cd22 "_law_of" = true) (k22 : PySem.W.keepIn K (.ref f22) = true)
    (a23 : PySem.W.nsIn K mainGlobals "_law_met" = some (some (.ref f23))) (l23 : K.lookup f23 = some ⟨oc23, od23, .func (PySem.W.fnOf "_law_met" "_law_met" (defArgs s_law_met) (defBody s_law_met) (defScope s_law_met) .none kV23 dc23 pm23 an23 cd23 ct23), sl23⟩) (c23 : PySem.W.codeIn K cd23 "_law_met" = true) (k23 : PySem.W.keepIn K (.ref f23) = true)
    (a24 : PySem.W.nsIn K mainGlobals "_law_rough" = some (some (.ref f24))) (l24 : K.lookup f24 = some ⟨oc24, od24, .func (PySem.W.fnOf "_law_rough" "_law_rough" (defArgs s_law_rough) (defBody s_law_rough) (defScope s_law_rough) .none kV24 dc24 pm24 an24 cd24 ct24), sl24⟩) (c24 : PySem.W.codeIn K cd24 "_law_rough" = true) (k24 : PySem.W.keepIn K (.ref f24) = true)
    (a25 : PySem.W.nsIn K mainGlobals "_law_asked" = some (some (.ref f25))) (l25 : K.lookup f25 = some ⟨oc25, od25, .func (PySem.W.fnOf "_law_asked" "_law_asked" (defArgs s_law_asked) (defBody s_law_asked) (defScope s_law_asked) .none kV25 dc25 pm25 an25 cd25 ct25), sl25⟩) (c25 : PySem.W.codeIn K cd25 "_law_asked" = true) (k25 : PySem.W.keepIn K (.ref f25) = true)
    (a26 : PySem.W.nsIn K mainGlobals "law" = some (some (.ref f26))) (l26 : K.lookup f26 = some ⟨oc26, od26, .func (PySem.W.fnOf "law" "law" (defArgs s_law) (defBody s_law) (defScope s_law) .none kV26 dc26 pm26 an26 cd26 ct26), sl26⟩) (c26 : PySem.W.codeIn K cd26 "law" = true) (k26 : PySem.W.keepIn K (.ref f26) = true)
    (z_abs : PySem.W.nsIn K mainGlobals "abs" = some none)
    (z_all : PySem.W.nsIn K mainGlobals "all" = some none)
    (z_bool : PySem.W.nsIn K mainGlobals "bool" = some none)
    (z_int : PySem.W.nsIn K mainGlobals "int" = some none)
    (z_isinstance : PySem.W.nsIn K mainGlobals "isinstance" = some none)
    (z_len : PySem.W.nsIn K mainGlobals "len" = some none)
    (z_list : PySem.W.nsIn K mainGlobals "list" = some none)
    (z_max : PySem.W.nsIn K mainGlobals "max" = some none)
    (z_min : PySem.W.nsIn K mainGlobals "min" = some none)
    (z_range : PySem.W.nsIn K mainGlobals "range" = some none)
    (z_sorted : PySem.W.nsIn K mainGlobals "sorted" = some none)
    (z_str : PySem.W.nsIn K mainGlobals "str" = some none)
    (z_sum : PySem.W.nsIn K mainGlobals "sum" = some none)
    (z_tuple : PySem.W.nsIn K mainGlobals "tuple" = some none)
    (hlaw : ∀ ns : List Int, ns.length ≤ 63 → F_law ns = .ok (.sh (.bl true)) []) :
    ∃ fd : FuncData, (∀ (s : Shared) (v : Value), BindsTo s fd ⟨[v], []⟩ [("script", v)]) ∧ ∀ base : Heap, K.In base → base.Ns mainGlobals mg → FnOk l.prog w K mg base (L2.CX l.prog w) 8 fa fd ["script"] (Z.spLaw K) := by
  have dd_lists_of : Dd K mg "lists_of" s_lists_of ["p"] := dd_mk X G a0 l0 c0 k0 fun _ _ _ _ _ _ us hl => match us, hl with | [_], _ => rfl
  have dd_kind_of : Dd K mg "kind_of" s_kind_of ["p"] := dd_mk X G a1 l1 c1 k1 fun _ _ _ _ _ _ us hl => match us, hl with | [_], _ => rfl
  have dd_shared : Dd K mg "shared" s_shared ["one", "other"] := dd_mk X G a2 l2 c2 k2 fun _ _ _ _ _ _ us hl => match us, hl with | [_, _], _ => rfl
  have dd_ways_to_join : Dd K mg "ways_to_join" s_ways_to_join ["many", "length", "k"] := dd_mk X G a3 l3 c3 k3 fun _ _ _ _ _ _ us hl => match us, hl with | [_, _, _], _ => rfl
  have dd_roots_of : Dd K mg "roots_of" s_roots_of ["p", "k"] := dd_mk X G a4 l4 c4 k4 fun _ _ _ _ _ _ us hl => match us, hl with | [_, _], _ => rfl
  have dd_law_pool : Dd K mg "_law_pool" s_law_pool ["script"] := dd_mk X G a5 l5 c5 k5 fun _ _ _ _ _ _ us hl => match us, hl with | [_], _ => rfl
  have dd_law_stream : Dd K mg "_law_stream" s_law_stream ["script"] := dd_mk X G a6 l6 c6 k6 fun _ _ _ _ _ _ us hl => match us, hl with | [_], _ => rfl
  have dd_law_pick : Dd K mg "_law_pick" s_law_pick ["pool", "many"] := dd_mk X G a7 l7 c7 k7 fun _ _ _ _ _ _ us hl => match us, hl with | [_, _], _ => rfl
  have dd_law_then : Dd K mg "_law_then" s_law_then ["p", "q"] := dd_mk X G a8 l8 c8 k8 fun _ _ _ _ _ _ us hl => match us, hl with | [_, _], _ => rfl
  have dd_law_back : Dd K mg "_law_back" s_law_back ["p"] := dd_mk X G a9 l9 c9 k9 fun _ _ _ _ _ _ us hl => match us, hl with | [_], _ => rfl
  have dd_law_turning : Dd K mg "_law_turning" s_law_turning ["pool", "n"] := dd_mk X G a10 l10 c10 k10 fun _ _ _ _ _ _ us hl => match us, hl with | [_, _], _ => rfl
  have dd_law_factorial : Dd K mg "_law_factorial" s_law_factorial ["n"] := dd_mk X G a11 l11 c11 k11 fun _ _ _ _ _ _ us hl => match us, hl with | [_], _ => rfl
  have dd_law_same : Dd K mg "_law_same" s_law_same ["one", "other"] := dd_mk X G a12 l12 c12 k12 fun _ _ _ _ _ _ us hl => match us, hl with | [_, _], _ => rfl
  have dd_law_lengths : Dd K mg "_law_lengths" s_law_lengths ["pool", "n"] := dd_mk X G a13 l13 c13 k13 fun _ _ _ _ _ _ us hl => match us, hl with | [_, _], _ => rfl
  have dd_law_shaped : Dd K mg "_law_shaped" s_law_shaped ["pool", "n"] := dd_mk X G a14 l14 c14 k14 fun _ _ _ _ _ _ us hl => match us, hl with | [_, _], _ => rfl
  have dd_law_any : Dd K mg "_law_any" s_law_any ["pool", "n"] := dd_mk X G a15 l15 c15 k15 fun _ _ _ _ _ _ us hl => match us, hl with | [_, _], _ => rfl
  have dd_law_times : Dd K mg "_law_times" s_law_times ["p", "k"] := dd_mk X G a16 l16 c16 k16 fun _ _ _ _ _ _ us hl => match us, hl with | [_, _], _ => rfl
  have dd_law_rows : Dd K mg "_law_rows" s_law_rows ["p"] := dd_mk X G a17 l17 c17 k17 fun _ _ _ _ _ _ us hl => match us, hl with | [_], _ => rfl
  have dd_law_everyone : Dd K mg "_law_everyone" s_law_everyone ["n"] := dd_mk X G a18 l18 c18 k18 fun _ _ _ _ _ _ us hl => match us, hl with | [_], _ => rfl
  have dd_law_ways : Dd K mg "_law_ways" s_law_ways ["many", "length", "k"] := dd_mk X G a19 l19 c19 k19 fun _ _ _ _ _ _ us hl => match us, hl with | [_, _, _], _ => rfl
  have dd_law_count : Dd K mg "_law_count" s_law_count ["p", "k"] := dd_mk X G a20 l20 c20 k20 fun _ _ _ _ _ _ us hl => match us, hl with | [_, _], _ => rfl
  have dd_law_kinds : Dd K mg "_law_kinds" s_law_kinds ["n"] := dd_mk X G a21 l21 c21 k21 fun _ _ _ _ _ _ us hl => match us, hl with | [_], _ => rfl
  have dd_law_of : Dd K mg "_law_of" s_law_of ["places", "row"] := dd_mk X G a22 l22 c22 k22 fun _ _ _ _ _ _ us hl => match us, hl with | [_, _], _ => rfl
  have dd_law_met : Dd K mg "_law_met" s_law_met ["row"] := dd_mk X G a23 l23 c23 k23 fun _ _ _ _ _ _ us hl => match us, hl with | [_], _ => rfl
  have dd_law_rough : Dd K mg "_law_rough" s_law_rough ["pool"] := dd_mk X G a24 l24 c24 k24 fun _ _ _ _ _ _ us hl => match us, hl with | [_], _ => rfl
  have dd_law_asked : Dd K mg "_law_asked" s_law_asked ["p", "k", "due"] := dd_mk X G a25 l25 c25 k25 fun _ _ _ _ _ _ us hl => match us, hl with | [_, _, _], _ => rfl
  have dd_law : Dd K mg "law" s_law ["script"] := dd_mk X G a26 l26 c26 k26 fun _ _ _ _ _ _ us hl => match us, hl with | [_], _ => rfl
  have b_abs := PySem.W.mg_none_of X G z_abs
  have b_all := PySem.W.mg_none_of X G z_all
  have b_bool := PySem.W.mg_none_of X G z_bool
  have b_int := PySem.W.mg_none_of X G z_int
  have b_isinstance := PySem.W.mg_none_of X G z_isinstance
  have b_len := PySem.W.mg_none_of X G z_len
  have b_list := PySem.W.mg_none_of X G z_list
  have b_max := PySem.W.mg_none_of X G z_max
  have b_min := PySem.W.mg_none_of X G z_min
  have b_range := PySem.W.mg_none_of X G z_range
  have b_sorted := PySem.W.mg_none_of X G z_sorted
  have b_str := PySem.W.mg_none_of X G z_str
  have b_sum := PySem.W.mg_none_of X G z_sum
  have b_tuple := PySem.W.mg_none_of X G z_tuple
  refine law_at (st := s_law) X G hfa a26 l26 (fun _ _ _ _ _ _ us hl => match us, hl with | [_], _ => rfl) fun base _ _ => ?_
  have g_lists_of : Fn l.prog w K mg base "lists_of" 1 ["p"] (spM (fun _ => none) 1 F_lists_of) := ok_lists_of dd_lists_of b_len b_range
  have g_kind_of : Fn l.prog w K mg base "kind_of" 2 ["p"] (spM (fun _ => none) 1 F_kind_of) := ok_kind_of dd_kind_of b_len b_sorted g_lists_of
  have g_shared : Fn l.prog w K mg base "shared" 1 ["one", "other"] (spM (fun _ => none) 2 F_shared) := ok_shared dd_shared 
  have g_ways_to_join : Fn l.prog w K mg base "ways_to_join" 2 ["many", "length", "k"] (spM (fun _ => none) 3 F_ways_to_join) := ok_ways_to_join dd_ways_to_join b_range g_shared
  have g_roots_of : Fn l.prog w K mg base "roots_of" 3 ["p", "k"] (spM (fun _ => none) 2 F_roots_of) := ok_roots_of dd_roots_of g_ways_to_join g_kind_of
  have g_law_pool : Fn l.prog w K mg base "_law_pool" 1 ["script"] (spSc (fun _ => none) K F_law_pool) := ok_law_pool dd_law_pool b_int b_range
  have g_law_stream := ok_law_stream dd_law_stream g_law_pool
  have g_law_pick : Fn l.prog w K mg base "_law_pick" 1 ["pool", "many"] (spM (fun _ => none) 2 F_law_pick) := ok_law_pick dd_law_pick b_int b_len
  have g_law_then : Fn l.prog w K mg base "_law_then" 1 ["p", "q"] (spM (fun _ => none) 2 F_law_then) := ok_law_then dd_law_then 
  have g_law_back : Fn l.prog w K mg base "_law_back" 1 ["p"] (spM (fun _ => none) 1 F_law_back) := ok_law_back dd_law_back b_len b_range
  have g_law_turning : Fn l.prog w K mg base "_law_turning" 2 ["pool", "n"] (spM (fun _ => none) 2 F_law_turning) := ok_law_turning dd_law_turning b_len b_list b_range g_law_pick
  have g_law_factorial : Fn l.prog w K mg base "_law_factorial" 1 ["n"] (spM (fun _ => none) 1 F_law_factorial) := ok_law_factorial dd_law_factorial b_range
  have g_law_same : Fn l.prog w K mg base "_law_same" 6 ["one", "other"] (spM (fun _ => none) 2 (F_law_same 6)) := all_law_same dd_law_same b_all b_bool b_int b_isinstance b_len b_list b_range b_str b_tuple 6
  have g_law_lengths : Fn l.prog w K mg base "_law_lengths" 2 ["pool", "n"] (spM (fun _ => none) 2 F_law_lengths) := ok_law_lengths dd_law_lengths b_int b_max b_min b_range g_law_pick
  have g_law_shaped : Fn l.prog w K mg base "_law_shaped" 3 ["pool", "n"] (spM (fun _ => none) 2 F_law_shaped) := ok_law_shaped dd_law_shaped b_int b_list b_range g_law_lengths g_law_turning
  have g_law_any : Fn l.prog w K mg base "_law_any" 4 ["pool", "n"] (spM (fun _ => none) 2 F_law_any) := ok_law_any dd_law_any g_law_shaped g_law_turning g_law_pick
  have g_law_times : Fn l.prog w K mg base "_law_times" 2 ["p", "k"] (spM (fun _ => none) 2 F_law_times) := ok_law_times dd_law_times b_abs b_int b_len b_list b_range g_law_then g_law_back
  have g_law_rows : Fn l.prog w K mg base "_law_rows" 1 ["p"] (spM (fun _ => none) 1 F_law_rows) := ok_law_rows dd_law_rows b_len b_range
  have g_law_everyone : Fn l.prog w K mg base "_law_everyone" 1 ["n"] (spM (fun _ => none) 1 F_law_everyone) := ok_law_everyone dd_law_everyone b_range
  have g_law_ways : Fn l.prog w K mg base "_law_ways" 1 ["many", "length", "k"] (spM (fun _ => none) 3 F_law_ways) := ok_law_ways dd_law_ways b_int b_range
  have g_law_count : Fn l.prog w K mg base "_law_count" 2 ["p", "k"] (spM (fun _ => none) 2 F_law_count) := ok_law_count dd_law_count b_len b_range g_law_ways g_law_rows
  have g_law_kinds : Fn l.prog w K mg base "_law_kinds" 1 ["n"] (spM (fun _ => none) 1 F_law_kinds) := ok_law_kinds dd_law_kinds b_range
  have g_law_of : Fn l.prog w K mg base "_law_of" 1 ["places", "row"] (spM (fun _ => none) 2 F_law_of) := ok_law_of dd_law_of b_int b_len b_list b_range
  have g_law_met : Fn l.prog w K mg base "_law_met" 2 ["row"] (spM (fun _ => none) 1 F_law_met) := ok_law_met dd_law_met b_int b_len b_range b_sum g_law_factorial
  have g_law_rough : Fn l.prog w K mg base "_law_rough" 3 ["pool"] (spM (fun _ => none) 1 F_law_rough) := ok_law_rough dd_law_rough b_range g_law_of g_law_turning g_law_pick
  have g_law_asked : Fn l.prog w K mg base "_law_asked" 7 ["p", "k", "due"] (spM (fun _ => none) 3 F_law_asked) := ok_law_asked dd_law_asked g_law_same g_roots_of
  exact fn_law (ok_law dd_law b_int b_len g_law_stream g_law_factorial g_law_met g_law_same g_law_count g_roots_of g_law_of g_law_kinds g_law_turning g_law_pick g_law_asked g_law_everyone g_law_times g_law_rough g_law_any) hlaw
end Cl

open PySem PySem.W PyProof.Rows
set_option maxRecDepth 100000 in
set_option maxHeartbeats 0 in
theorem PySem.Challenge.cw_siftyard_k06_whole_roots_holds : PySem.Challenge.rw_siftyard_k06_whole_roots.Holds := by
  w_on; o_law; k_head; (case hw => w_witness2)
  k_fill
  refine Z.walk (l := PySem.Challenge.rw_siftyard_k06_whole_roots) 8 ⟨rfl, by decide, by decide⟩ rfl rfl (fun w h Y => PySem.W.kIn_of Y) ?F
  case F =>
    intro w mg fa h KX G hmg
    refine' Cl.all_mk KX G hmg ?a0 ?l0 ?c0 ?k0 ?a1 ?l1 ?c1 ?k1 ?a2 ?l2 ?c2 ?k2 ?a3 ?l3 ?c3 ?k3 ?a4 ?l4 ?c4 ?k4 ?a5 ?l5 ?c5 ?k5 ?a6 ?l6 ?c6 ?k6 ?a7 ?l7 ?c7 ?k7 ?a8 ?l8 ?c8 ?k8 ?a9 ?l9 ?c9 ?k9 ?a10 ?l10 ?c10 ?k10 ?a11 ?l11 ?c11 ?k11 ?a12 ?l12 ?c12 ?k12 ?a13 ?l13 ?c13 ?k13 ?a14 ?l14 ?c14 ?k14 ?a15 ?l15 ?c15 ?k15 ?a16 ?l16 ?c16 ?k16 ?a17 ?l17 ?c17 ?k17 ?a18 ?l18 ?c18 ?k18 ?a19 ?l19 ?c19 ?k19 ?a20 ?l20 ?c20 ?k20 ?a21 ?l21 ?c21 ?k21 ?a22 ?l22 ?c22 ?k22 ?a23 ?l23 ?c23 ?k23 ?a24 ?l24 ?c24 ?k24 ?a25 ?l25 ?c25 ?k25 ?a26 ?l26 ?c26 ?k26  ?z_abs ?z_all ?z_bool ?z_int ?z_isinstance ?z_len ?z_list ?z_max ?z_min ?z_range ?z_sorted ?z_str ?z_sum ?z_tuple  Cl.law_true
    (case a0 => k_is); (case l0 => k_is); (case c0 => k_is); (case k0 => k_is)
    (case a1 => k_is); (case l1 => k_is); (case c1 => k_is); (case k1 => k_is)
    (case a2 => k_is); (case l2 => k_is); (case c2 => k_is); (case k2 => k_is)
    (case a3 => k_is); (case l3 => k_is); (case c3 => k_is); (case k3 => k_is)
    (case a4 => k_is); (case l4 => k_is); (case c4 => k_is); (case k4 => k_is)
    (case a5 => k_is); (case l5 => k_is); (case c5 => k_is); (case k5 => k_is)
    (case a6 => k_is); (case l6 => k_is); (case c6 => k_is); (case k6 => k_is)
    (case a7 => k_is); (case l7 => k_is); (case c7 => k_is); (case k7 => k_is)
    (case a8 => k_is); (case l8 => k_is); (case c8 => k_is); (case k8 => k_is)
    (case a9 => k_is); (case l9 => k_is); (case c9 => k_is); (case k9 => k_is)
    (case a10 => k_is); (case l10 => k_is); (case c10 => k_is); (case k10 => k_is)
    (case a11 => k_is); (case l11 => k_is); (case c11 => k_is); (case k11 => k_is)
    (case a12 => k_is); (case l12 => k_is); (case c12 => k_is); (case k12 => k_is)
    (case a13 => k_is); (case l13 => k_is); (case c13 => k_is); (case k13 => k_is)
    (case a14 => k_is); (case l14 => k_is); (case c14 => k_is); (case k14 => k_is)
    (case a15 => k_is); (case l15 => k_is); (case c15 => k_is); (case k15 => k_is)
    (case a16 => k_is); (case l16 => k_is); (case c16 => k_is); (case k16 => k_is)
    (case a17 => k_is); (case l17 => k_is); (case c17 => k_is); (case k17 => k_is)
    (case a18 => k_is); (case l18 => k_is); (case c18 => k_is); (case k18 => k_is)
    (case a19 => k_is); (case l19 => k_is); (case c19 => k_is); (case k19 => k_is)
    (case a20 => k_is); (case l20 => k_is); (case c20 => k_is); (case k20 => k_is)
    (case a21 => k_is); (case l21 => k_is); (case c21 => k_is); (case k21 => k_is)
    (case a22 => k_is); (case l22 => k_is); (case c22 => k_is); (case k22 => k_is)
    (case a23 => k_is); (case l23 => k_is); (case c23 => k_is); (case k23 => k_is)
    (case a24 => k_is); (case l24 => k_is); (case c24 => k_is); (case k24 => k_is)
    (case a25 => k_is); (case l25 => k_is); (case c25 => k_is); (case k25 => k_is)
    (case a26 => k_is); (case l26 => k_is); (case c26 => k_is); (case k26 => k_is)

    (case z_abs => k_is)
    (case z_all => k_is)
    (case z_bool => k_is)
    (case z_int => k_is)
    (case z_isinstance => k_is)
    (case z_len => k_is)
    (case z_list => k_is)
    (case z_max => k_is)
    (case z_min => k_is)
    (case z_range => k_is)
    (case z_sorted => k_is)
    (case z_str => k_is)
    (case z_sum => k_is)
    (case z_tuple => k_is)
