import PyProof.Rows.All
import Wide.All
import OpenK.AllK
import Wide.FinOn
import HandS.ForMost
import HandS.ForExc
import HandS.TryMany
import HandS.IsInst
import HandS.Wide
import HandS.Deep
import HandS.Conv
import HandS.Flow
import HandS.TupAny
import HandS.TupLen
import HandS.Strs
import HandS.Style
import HandS.ClsMeth
import HandS.SortInts
import HandS.WordsExc
import KE.DataMinMax
import KE.SortData
import PySem.Challenge.RW_roundshome_k17_shortest_texts_of_touches
import HandS.Ends
import HandS.ExcIs
set_option Elab.async false
set_option maxRecDepth 100000
set_option linter.all false
set_option maxHeartbeats 4000000
/-! DV: values without a heap. D: frozen data; SV: frozen data, or a thing that one name alone holds. -/
namespace DV
open PySem L2

inductive D where
  | non | bl (b : Bool) | int (i : Int) | str (x : Str)
  | lst (ds : List D) | tup (ds : List D)
  | dK (ks : List Key) (vs : List D)
  | dT (ks : List (List Key)) (vs : List D)
  | ins (c : Nat) (ns : List Str) (vs : List D)
  | scr (ns : List Int)

inductive SV where
  | im (d : D) | ol (ds : List D) | ok (ks : List Key) (vs : List D) | ot (ks : List (List Key)) (vs : List D)
  | oi (c : Nat) (ns : List Str) (vs : List SV)

mutual
def frz : SV → D
  | .im d => d
  | .ol ds => .lst ds
  | .ok ks vs => .dK ks vs
  | .ot ks vs => .dT ks vs
  | .oi c ns vs => .ins c ns (frzL vs)
def frzL : List SV → List D
  | [] => []
  | s :: ss => frz s :: frzL ss
end

/-- the written part, and where the classes stand -/
structure Cy where
  K : PySem.W.Frag
  cls : Nat → Addr

mutual
def Rp (C : Cy) (G : Hp) : D → V → Prop
  | .non, v => v = .non
  | .bl b, v => v = .bl b
  | .int i, v => v = .int i
  | .str x, v => v = .str x
  | .lst ds, v => ∃ a xs, v = .ref a ∧ G a = some (.lst xs) ∧ RpL C G ds xs
  | .tup ds, v => ∃ a xs, v = .ref a ∧ G a = some (.tup xs) ∧ RpL C G ds xs
  | .dK ks vs, v => ∃ a kvs, v = .ref a ∧ G a = some (.dK kvs) ∧ kvs.map (·.1) = ks ∧ RpL C G vs (kvs.map (·.2))
  | .dT ks vs, v => ∃ a kvs, v = .ref a ∧ G a = some (.dT kvs) ∧ kvs.map (·.1) = ks ∧ RpL C G vs (kvs.map (·.2))
  | .ins c ns vs, v => ∃ a dx fs, v = .ref a ∧ G a = some (.ins (C.cls c) dx fs) ∧ fs.map (·.1) = ns ∧ RpL C G vs (fs.map (·.2))
  | .scr ns, v => ∃ a, v = .ref a ∧ SqL C.K G a (ns.map V.int)
def RpL (C : Cy) (G : Hp) : List D → List V → Prop
  | [], xs => xs = []
  | d :: ds, xs => ∃ x r, xs = x :: r ∧ Rp C G d x ∧ RpL C G ds r
end

theorem Same.seqT {K : PySem.W.Frag} {H H' : Hp} {a : Addr} {xs : List V} (e : Same H H') (h : SqT K H a xs) : SqT K H' a xs := by
  rcases h with (h | ⟨o, h⟩) | h
  · exact .inl (.inl (e _ _ h))
  · exact .inl (.inr ⟨o, e _ _ h⟩)
  · exact .inr h

mutual
theorem Rp.mono {C : Cy} {G G' : Hp} (e : Same G G') : ∀ {d : D} {v : V}, Rp C G d v → Rp C G' d v
  | .non, _, h => by simpa [Rp] using h
  | .bl _, _, h => by simpa [Rp] using h
  | .int _, _, h => by simpa [Rp] using h
  | .str _, _, h => by simpa [Rp] using h
  | .lst ds, _, h => by
    simp only [Rp] at h ⊢
    obtain ⟨a, xs, h1, h2, h3⟩ := h
    exact ⟨a, xs, h1, e _ _ h2, RpL.mono e h3⟩
  | .tup ds, _, h => by
    simp only [Rp] at h ⊢
    obtain ⟨a, xs, h1, h2, h3⟩ := h
    exact ⟨a, xs, h1, e _ _ h2, RpL.mono e h3⟩
  | .dK ks vs, _, h => by
    simp only [Rp] at h ⊢
    obtain ⟨a, xs, h1, h2, h3, h4⟩ := h
    exact ⟨a, xs, h1, e _ _ h2, h3, RpL.mono e h4⟩
  | .dT ks vs, _, h => by
    simp only [Rp] at h ⊢
    obtain ⟨a, xs, h1, h2, h3, h4⟩ := h
    exact ⟨a, xs, h1, e _ _ h2, h3, RpL.mono e h4⟩
  | .ins c ns vs, _, h => by
    simp only [Rp] at h ⊢
    obtain ⟨a, dx, xs, h1, h2, h3, h4⟩ := h
    exact ⟨a, dx, xs, h1, e _ _ h2, h3, RpL.mono e h4⟩
  | .scr ns, _, h => by
    simp only [Rp] at h ⊢
    obtain ⟨a, h1, h2⟩ := h
    exact ⟨a, h1, e.seq h2⟩
theorem RpL.mono {C : Cy} {G G' : Hp} (e : Same G G') : ∀ {ds : List D} {vs : List V}, RpL C G ds vs → RpL C G' ds vs
  | [], _, h => by simpa [RpL] using h
  | d :: ds, _, h => by
    simp only [RpL] at h ⊢
    obtain ⟨x, r, h1, h2, h3⟩ := h
    exact ⟨x, r, h1, Rp.mono e h2, RpL.mono e h3⟩
end
theorem RpL.len {C : Cy} {G : Hp} : ∀ {ds : List D} {vs : List V}, RpL C G ds vs → vs.length = ds.length
  | [], _, h => by simp only [RpL] at h; subst h; rfl
  | d :: ds, _, h => by
    simp only [RpL] at h
    obtain ⟨x, r, rfl, _, h3⟩ := h
    simp [RpL.len h3]
theorem RpL.app {C : Cy} {G : Hp} : ∀ {ds es : List D} {vs ws : List V}, RpL C G ds vs → RpL C G es ws → RpL C G (ds ++ es) (vs ++ ws)
  | [], _, _, _, h, k => by simp only [RpL] at h; subst h; exact k
  | d :: ds, _, _, _, h, k => by
    simp only [RpL] at h
    obtain ⟨x, r, rfl, h2, h3⟩ := h
    simp only [List.cons_append, RpL]
    exact ⟨x, _, rfl, h2, RpL.app h3 k⟩
theorem RpL.get {C : Cy} {G : Hp} : ∀ {ds : List D} {vs : List V} {i : Nat} {d : D}, RpL C G ds vs → ds[i]? = some d → ∃ v, vs[i]? = some v ∧ Rp C G d v
  | [], _, _, _, _, k => by simp at k
  | d :: ds, _, 0, _, h, k => by
    simp only [RpL] at h
    obtain ⟨x, r, rfl, h2, h3⟩ := h
    simp at k; subst k
    exact ⟨x, rfl, h2⟩
  | d :: ds, _, i + 1, _, h, k => by
    simp only [RpL] at h
    obtain ⟨x, r, rfl, h2, h3⟩ := h
    obtain ⟨v, e, q⟩ := RpL.get (i := i) h3 (by simpa using k)
    exact ⟨v, by simpa using e, q⟩
theorem RpL.getV {C : Cy} {G : Hp} {ds : List D} {vs : List V} {i : Nat} {v : V} (h : RpL C G ds vs) (k : vs[i]? = some v) : ∃ d, ds[i]? = some d ∧ Rp C G d v := by
  have hl := h.len
  have : i < ds.length := by have := (List.getElem?_eq_some_iff.mp k).1; omega
  obtain ⟨w, e, q⟩ := h.get (List.getElem?_eq_getElem this)
  rw [k] at e; cases e
  exact ⟨_, List.getElem?_eq_getElem this, q⟩
theorem RpL.take {C : Cy} {G : Hp} : ∀ (n : Nat) {ds : List D} {vs : List V}, RpL C G ds vs → RpL C G (ds.take n) (vs.take n)
  | 0, _, _, _ => by simp [RpL]
  | n + 1, [], _, h => by simp only [RpL] at h; subst h; simp [RpL]
  | n + 1, d :: ds, _, h => by
    simp only [RpL] at h
    obtain ⟨x, r, rfl, h2, h3⟩ := h
    simp only [List.take_succ_cons, RpL]
    exact ⟨x, _, rfl, h2, RpL.take n h3⟩
theorem RpL.drop {C : Cy} {G : Hp} : ∀ (n : Nat) {ds : List D} {vs : List V}, RpL C G ds vs → RpL C G (ds.drop n) (vs.drop n)
  | 0, _, _, h => h
  | n + 1, [], _, h => by simp only [RpL] at h; subst h; simp [RpL]
  | n + 1, d :: ds, _, h => by
    simp only [RpL] at h
    obtain ⟨x, r, rfl, h2, h3⟩ := h
    simpa using RpL.drop n h3
theorem RpL.set {C : Cy} {G : Hp} {d : D} {v : V} (q : Rp C G d v) : ∀ (n : Nat) {ds : List D} {vs : List V}, RpL C G ds vs → RpL C G (ds.set n d) (vs.set n v)
  | _, [], _, h => by simp only [RpL] at h; subst h; simp [RpL]
  | 0, d' :: ds, _, h => by
    simp only [RpL] at h
    obtain ⟨x, r, rfl, h2, h3⟩ := h
    simp only [List.set_cons_zero, RpL]
    exact ⟨v, _, rfl, q, h3⟩
  | n + 1, d' :: ds, _, h => by
    simp only [RpL] at h
    obtain ⟨x, r, rfl, h2, h3⟩ := h
    simp only [List.set_cons_succ, RpL]
    exact ⟨x, _, rfl, h2, RpL.set q n h3⟩
theorem RpL.rep {C : Cy} {G : Hp} {ds : List D} {vs : List V} (h : RpL C G ds vs) : ∀ n : Nat, RpL C G (List.replicate n ds).flatten (List.replicate n vs).flatten
  | 0 => by simp [RpL]
  | n + 1 => by
    simp only [List.replicate_succ, List.flatten_cons]
    exact h.app (RpL.rep h n)
theorem RpL.rev {C : Cy} {G : Hp} : ∀ {ds : List D} {vs : List V}, RpL C G ds vs → RpL C G ds.reverse vs.reverse
  | [], _, h => by simp only [RpL] at h; subst h; simp [RpL]
  | d :: ds, _, h => by
    simp only [RpL] at h
    obtain ⟨x, r, rfl, h2, h3⟩ := h
    simp only [List.reverse_cons]
    exact (RpL.rev h3).app (by simp only [RpL]; exact ⟨x, [], rfl, h2, rfl⟩)
theorem RpL.dropLast {C : Cy} {G : Hp} {ds : List D} {vs : List V} (h : RpL C G ds vs) : RpL C G ds.dropLast vs.dropLast := by
  rw [List.dropLast_eq_take, List.dropLast_eq_take, h.len]
  exact h.take _

/-! ### what is owned -/
mutual
def Ow (C : Cy) (G H : Hp) : SV → V → List Addr → Prop
  | .im d, v, L => L = [] ∧ Rp C G d v
  | .ol ds, v, L => ∃ p xs, v = .ref p ∧ L = [p] ∧ G p = none ∧ H p = some (.lst xs) ∧ RpL C G ds xs
  | .ok ks vs, v, L => ∃ p kvs, v = .ref p ∧ L = [p] ∧ G p = none ∧ H p = some (.dK kvs) ∧ kvs.map (·.1) = ks ∧ RpL C G vs (kvs.map (·.2))
  | .ot ks vs, v, L => ∃ p kvs, v = .ref p ∧ L = [p] ∧ G p = none ∧ H p = some (.dT kvs) ∧ kvs.map (·.1) = ks ∧ RpL C G vs (kvs.map (·.2))
  | .oi c ns vs, v, L => ∃ p dx fs L', v = .ref p ∧ L = p :: L' ∧ G p = none ∧ H p = some (.ins (C.cls c) dx fs) ∧ fs.map (·.1) = ns ∧ OwL C G H vs (fs.map (·.2)) L'
def OwL (C : Cy) (G H : Hp) : List SV → List V → List Addr → Prop
  | [], xs, L => xs = [] ∧ L = []
  | s :: ss, xs, L => ∃ x r L1 L2, xs = x :: r ∧ L = L1 ++ L2 ∧ Ow C G H s x L1 ∧ OwL C G H ss r L2
end
mutual
theorem Ow.frame {C : Cy} {G H G' H' : Hp} (e : Same G G') : ∀ {sv : SV} {v : V} {L : List Addr}, Ow C G H sv v L → (∀ a ∈ L, H' a = H a ∧ G' a = none) → Ow C G' H' sv v L
  | .im d, v, L, h, k => by
    simp only [Ow] at h ⊢
    exact ⟨h.1, h.2.mono e⟩
  | .ol ds, v, L, h, k => by
    simp only [Ow] at h ⊢
    obtain ⟨p, xs, rfl, rfl, g, hp, r⟩ := h
    obtain ⟨k1, k2⟩ := k p (by simp)
    exact ⟨p, xs, rfl, rfl, k2, k1.trans hp, r.mono e⟩
  | .ok ks vs, v, L, h, k => by
    simp only [Ow] at h ⊢
    obtain ⟨p, xs, rfl, rfl, g, hp, z, r⟩ := h
    obtain ⟨k1, k2⟩ := k p (by simp)
    exact ⟨p, xs, rfl, rfl, k2, k1.trans hp, z, r.mono e⟩
  | .ot ks vs, v, L, h, k => by
    simp only [Ow] at h ⊢
    obtain ⟨p, xs, rfl, rfl, g, hp, z, r⟩ := h
    obtain ⟨k1, k2⟩ := k p (by simp)
    exact ⟨p, xs, rfl, rfl, k2, k1.trans hp, z, r.mono e⟩
  | .oi c ns vs, v, L, h, k => by
    simp only [Ow] at h ⊢
    obtain ⟨p, dx, fs, L', rfl, rfl, g, hp, z, r⟩ := h
    obtain ⟨k1, k2⟩ := k p (by simp)
    exact ⟨p, dx, fs, L', rfl, rfl, k2, k1.trans hp, z, OwL.frame e r fun a ha => k a (List.mem_cons_of_mem _ ha)⟩
theorem OwL.frame {C : Cy} {G H G' H' : Hp} (e : Same G G') : ∀ {ss : List SV} {vs : List V} {L : List Addr}, OwL C G H ss vs L → (∀ a ∈ L, H' a = H a ∧ G' a = none) → OwL C G' H' ss vs L
  | [], vs, L, h, k => by simpa [OwL] using h
  | s :: ss, vs, L, h, k => by
    simp only [OwL] at h ⊢
    obtain ⟨x, r, L1, L2, rfl, rfl, h1, h2⟩ := h
    exact ⟨x, r, L1, L2, rfl, rfl, Ow.frame e h1 fun a ha => k a (List.mem_append_left _ ha), OwL.frame e h2 fun a ha => k a (List.mem_append_right _ ha)⟩
end
mutual
theorem Ow.there {C : Cy} {G H : Hp} : ∀ {sv : SV} {v : V} {L : List Addr}, Ow C G H sv v L → ∀ a ∈ L, H a ≠ none ∧ G a = none
  | .im d, v, L, h, a, k => by simp only [Ow] at h; rw [h.1] at k; simp at k
  | .ol ds, v, L, h, a, k => by
    simp only [Ow] at h
    obtain ⟨p, xs, rfl, rfl, g, hp, r⟩ := h
    obtain rfl : a = p := by simpa using k
    exact ⟨by rw [hp]; simp, g⟩
  | .ok ks vs, v, L, h, a, k => by
    simp only [Ow] at h
    obtain ⟨p, xs, rfl, rfl, g, hp, z, r⟩ := h
    obtain rfl : a = p := by simpa using k
    exact ⟨by rw [hp]; simp, g⟩
  | .ot ks vs, v, L, h, a, k => by
    simp only [Ow] at h
    obtain ⟨p, xs, rfl, rfl, g, hp, z, r⟩ := h
    obtain rfl : a = p := by simpa using k
    exact ⟨by rw [hp]; simp, g⟩
  | .oi c ns vs, v, L, h, a, k => by
    simp only [Ow] at h
    obtain ⟨p, dx, fs, L', rfl, rfl, g, hp, z, r⟩ := h
    rcases List.mem_cons.mp k with rfl | k
    · exact ⟨by rw [hp]; simp, g⟩
    · exact OwL.there r a k
theorem OwL.there {C : Cy} {G H : Hp} : ∀ {ss : List SV} {vs : List V} {L : List Addr}, OwL C G H ss vs L → ∀ a ∈ L, H a ≠ none ∧ G a = none
  | [], vs, L, h, a, k => by simp only [OwL] at h; rw [h.2] at k; simp at k
  | s :: ss, vs, L, h, a, k => by
    simp only [OwL] at h
    obtain ⟨x, r, L1, L2, rfl, rfl, h1, h2⟩ := h
    rcases List.mem_append.mp k with k | k
    · exact Ow.there h1 a k
    · exact OwL.there h2 a k
end
theorem OwL.len {C : Cy} {G H : Hp} : ∀ {ss : List SV} {vs : List V} {L : List Addr}, OwL C G H ss vs L → vs.length = ss.length
  | [], vs, L, h => by simp only [OwL] at h; rw [h.1]; rfl
  | s :: ss, vs, L, h => by
    simp only [OwL] at h
    obtain ⟨x, r, L1, L2, rfl, rfl, h1, h2⟩ := h
    simp [OwL.len h2]

/-- G, and H at L -/
def addG (G H : Hp) (L : List Addr) : Hp := fun a => if a ∈ L then H a else G a
theorem addG_in {G H : Hp} {L : List Addr} {a : Addr} (h : a ∈ L) : addG G H L a = H a := if_pos h
theorem addG_out {G H : Hp} {L : List Addr} {a : Addr} (h : a ∉ L) : addG G H L a = G a := if_neg h
theorem addG_up {G H : Hp} {L : List Addr} (e : Same G H) : Same G (addG G H L) := fun a o h => by
  by_cases k : a ∈ L
  · rw [addG_in k]; exact e a o h
  · rw [addG_out k]; exact h
theorem addG_dn {G H : Hp} {L : List Addr} (e : Same G H) : Same (addG G H L) H := fun a o h => by
  by_cases k : a ∈ L
  · rw [addG_in k] at h; exact h
  · rw [addG_out k] at h; exact e a o h
theorem addG_mono {G H : Hp} {L L' : List Addr} (e : Same G H) (s : ∀ a ∈ L, a ∈ L') : Same (addG G H L) (addG G H L') := fun a o h => by
  by_cases k : a ∈ L'
  · rw [addG_in k]; exact addG_dn e a o h
  · rw [addG_out k]; rw [addG_out fun z => k (s a z)] at h; exact h
mutual
theorem Ow.frz {C : Cy} {G H : Hp} (e : Same G H) : ∀ {sv : SV} {v : V} {L : List Addr}, Ow C G H sv v L → Rp C (addG G H L) (frz sv) v
  | .im d, v, L, h => by
    simp only [Ow] at h
    exact h.2.mono (addG_up e)
  | .ol ds, v, L, h => by
    simp only [Ow] at h
    obtain ⟨p, xs, rfl, rfl, g, hp, r⟩ := h
    simp only [DV.frz, Rp]
    exact ⟨p, xs, rfl, (by rw [addG_in (by simp)]; exact hp), r.mono (addG_up e)⟩
  | .ok ks vs, v, L, h => by
    simp only [Ow] at h
    obtain ⟨p, xs, rfl, rfl, g, hp, z, r⟩ := h
    simp only [DV.frz, Rp]
    exact ⟨p, xs, rfl, by rw [addG_in (by simp)]; exact hp, z, r.mono (addG_up e)⟩
  | .ot ks vs, v, L, h => by
    simp only [Ow] at h
    obtain ⟨p, xs, rfl, rfl, g, hp, z, r⟩ := h
    simp only [DV.frz, Rp]
    exact ⟨p, xs, rfl, by rw [addG_in (by simp)]; exact hp, z, r.mono (addG_up e)⟩
  | .oi c ns vs, v, L, h => by
    simp only [Ow] at h
    obtain ⟨p, dx, fs, L', rfl, rfl, g, hp, z, r⟩ := h
    simp only [DV.frz, Rp]
    exact ⟨p, dx, fs, rfl, by rw [addG_in (by simp)]; exact hp, z, (OwL.frz e r).mono (addG_mono e fun a ha => List.mem_cons_of_mem _ ha)⟩
theorem OwL.frz {C : Cy} {G H : Hp} (e : Same G H) : ∀ {ss : List SV} {vs : List V} {L : List Addr}, OwL C G H ss vs L → RpL C (addG G H L) (frzL ss) vs
  | [], vs, L, h => by simp only [OwL] at h; simp only [frzL, RpL]; exact h.1
  | s :: ss, vs, L, h => by
    simp only [OwL] at h
    obtain ⟨x, r, L1, L2, rfl, rfl, h1, h2⟩ := h
    simp only [frzL, RpL]
    exact ⟨x, r, rfl, (Ow.frz e h1).mono (addG_mono e fun a ha => List.mem_append_left _ ha), (OwL.frz e h2).mono (addG_mono e fun a ha => List.mem_append_right _ ha)⟩
end

/-! ### slots -/
structure Sl where
  pr : Bool
  v : Option SV
abbrev S := List Sl
def OwO (C : Cy) (G H : Hp) : Option SV → Option V → List Addr → Prop
  | none, _, L => L = []
  | some sv, o, L => ∃ v, o = some v ∧ Ow C G H sv v L
def OwS (C : Cy) (G H : Hp) : S → St → List Addr → Prop
  | [], [], L => L = []
  | s :: ss, o :: os, L => ∃ L1 L2, L = L1 ++ L2 ∧ OwO C G H s.v o L1 ∧ OwS C G H ss os L2
  | _, _, _ => False
theorem OwO.frame {C : Cy} {G H G' H' : Hp} (e : Same G G') {sv : Option SV} {v : Option V} {L : List Addr} (h : OwO C G H sv v L) (k : ∀ a ∈ L, H' a = H a ∧ G' a = none) : OwO C G' H' sv v L := by
  cases sv with
  | none => exact h
  | some sv =>
    obtain ⟨v, rfl, q⟩ := h
    exact ⟨v, rfl, q.frame e k⟩
theorem OwO.there {C : Cy} {G H : Hp} {sv : Option SV} {v : Option V} {L : List Addr} (h : OwO C G H sv v L) : ∀ a ∈ L, H a ≠ none ∧ G a = none := by
  cases sv with
  | none => intro a ha; have h' : L = [] := h; subst h'; simp at ha
  | some sv =>
    obtain ⟨v, rfl, q⟩ := h
    exact q.there
theorem OwS.frame {C : Cy} {G H G' H' : Hp} (e : Same G G') : ∀ {st : S} {σ : St} {L : List Addr}, OwS C G H st σ L → (∀ a ∈ L, H' a = H a ∧ G' a = none) → OwS C G' H' st σ L
  | [], [], L, h, k => h
  | [], _ :: _, L, h, k => h.elim
  | _ :: _, [], L, h, k => h.elim
  | s :: ss, o :: os, L, h, k => by
    obtain ⟨L1, L2, rfl, h1, h2⟩ := h
    exact ⟨L1, L2, rfl, h1.frame e fun a ha => k a (List.mem_append_left _ ha), OwS.frame e h2 fun a ha => k a (List.mem_append_right _ ha)⟩
theorem OwS.there {C : Cy} {G H : Hp} : ∀ {st : S} {σ : St} {L : List Addr}, OwS C G H st σ L → ∀ a ∈ L, H a ≠ none ∧ G a = none
  | [], [], L, h, a, k => by have h' : L = [] := h; subst h'; simp at k
  | [], _ :: _, L, h, a, k => h.elim
  | _ :: _, [], L, h, a, k => h.elim
  | s :: ss, o :: os, L, h, a, k => by
    obtain ⟨L1, L2, rfl, h1, h2⟩ := h
    rcases List.mem_append.mp k with k | k
    · exact h1.there a k
    · exact OwS.there h2 a k
theorem OwS.len {C : Cy} {G H : Hp} : ∀ {st : S} {σ : St} {L : List Addr}, OwS C G H st σ L → σ.length = st.length
  | [], [], L, h => rfl
  | [], _ :: _, L, h => h.elim
  | _ :: _, [], L, h => h.elim
  | s :: ss, o :: os, L, h => by
    obtain ⟨L1, L2, rfl, h1, h2⟩ := h
    simp [OwS.len h2]
/-- one slot taken out, and put back -/
theorem OwS.focus {C : Cy} {G H : Hp} : ∀ {st : S} {σ : St} {L : List Addr} {i : Nat} {s : Sl}, OwS C G H st σ L → st[i]? = some s →
    ∃ o A Li B, σ[i]? = some o ∧ L = A ++ (Li ++ B) ∧ OwO C G H s.v o Li ∧
      ∀ (G' H' : Hp), Same G G' → (∀ a ∈ A ++ B, H' a = H a ∧ G' a = none) → ∀ (s' : Sl) (o' : Option V) (Li' : List Addr), OwO C G' H' s'.v o' Li' → OwS C G' H' (st.set i s') (σ.set i o') (A ++ (Li' ++ B))
  | [], _, _, _, _, _, k => by simp at k
  | _ :: _, [], _, _, _, h, _ => h.elim
  | s0 :: ss, o :: os, L, 0, s, h, k => by
    obtain ⟨L1, L2, rfl, h1, h2⟩ := h
    simp at k; subst k
    refine ⟨o, [], L1, L2, rfl, rfl, h1, fun G' H' e f s' o' Li' q => ?_⟩
    exact ⟨Li', L2, rfl, q, h2.frame e fun a ha => f a (by simpa using ha)⟩
  | s0 :: ss, o :: os, L, i + 1, s, h, k => by
    obtain ⟨L1, L2, rfl, h1, h2⟩ := h
    obtain ⟨o1, A, Li, B, e1, rfl, h3, h4⟩ := OwS.focus (i := i) h2 (by simpa using k)
    refine ⟨o1, L1 ++ A, Li, B, by simpa using e1, by simp, h3, fun G' H' e f s' o' Li' q => ?_⟩
    refine ⟨L1, A ++ (Li' ++ B), by simp, h1.frame e fun a ha => f a (by simp [ha]), ?_⟩
    exact h4 G' H' e (fun a ha => f a (by simp at ha ⊢; rcases ha with z | z <;> simp [z])) s' o' Li' q

/-! ### the state, and how it moves -/
/-- a body's entry: its slots, and which of them are parameters that keep what they hold -/
structure Z where
  s : St
  f : List Bool
structure R (C : Cy) (σ0 : Z) (G H : Hp) (σ : St) (st : S) (L : List Addr) : Prop where
  gh : Same G H
  ow : OwS C G H st σ L
  nd : L.Nodup
  pr : ∀ (i : Nat) (s : Sl), st[i]? = some s → s.pr = true → σ[i]? = σ0.s[i]?
  fl : st.map (·.pr) = σ0.f
structure Mv (q : Bool) (L : List Addr) (G H G' H' : Hp) (L' : List Addr) : Prop where
  gg : Same G G'
  hh : ∀ b o, H b = some o → b ∉ L → H' b = some o
  fr : ∀ a, H a ≠ none → a ∉ L → G' a = G a
  ll : ∀ a ∈ L', a ∈ L ∨ H a = none
  ob : q = true → ∀ p c dx fs, H p = some (.ins c dx fs) → H' p = some (.ins c dx fs)
theorem Mv.refl {q : Bool} {L : List Addr} {G H : Hp} : Mv q L G H G H L := ⟨Same.refl _, fun _ _ h _ => h, fun _ _ _ => rfl, fun _ h => .inl h, fun _ _ _ _ _ h => h⟩
theorem Mv.low {q : Bool} {L L' : List Addr} {G H G' H' : Hp} (m : Mv q L G H G' H' L') : Mv false L G H G' H' L' := ⟨m.gg, m.hh, m.fr, m.ll, fun h => by cases h⟩
theorem Mv.old {q : Bool} {L L1 : List Addr} {G H G1 H1 : Hp} (m : Mv q L G H G1 H1 L1) {a : Addr} (h : a ∈ L1 ∨ H1 a = none) : a ∈ L ∨ H a = none := by
  rcases h with h | h
  · exact m.ll a h
  · by_cases k : a ∈ L
    · exact .inl k
    · right
      cases q : H a with
      | none => rfl
      | some o => rw [m.hh a o q k] at h; cases h
theorem Mv.trans {q : Bool} {L L1 L2 : List Addr} {G H G1 H1 G2 H2 : Hp} (m : Mv q L G H G1 H1 L1) (n : Mv q L1 G1 H1 G2 H2 L2) : Mv q L G H G2 H2 L2 := by
  have out : ∀ b, H b ≠ none → b ∉ L → b ∉ L1 := fun b h k z => by
    rcases m.ll b z with z | z
    · exact k z
    · exact h z
  refine ⟨m.gg.trans n.gg, fun b o h k => ?_, fun a h k => ?_, fun a h => m.old (n.ll a h), fun z p c dx fs h => n.ob z p c dx fs (m.ob z p c dx fs h)⟩
  · exact n.hh b o (m.hh b o h k) (out b (by rw [h]; simp) k)
  · cases q : H a with
    | none => exact absurd q h
    | some o => rw [n.fr a (by rw [m.hh a o q k]; simp) (out a h k), m.fr a h k]
/-- the owned things of others stand -/
theorem Mv.keep {q : Bool} {L L1 : List Addr} {G H G1 H1 : Hp} (m : Mv q L G H G1 H1 L1) {a : Addr} (h : H a ≠ none ∧ G a = none) (k : a ∉ L) : H1 a = H a ∧ G1 a = none := by
  refine ⟨?_, by rw [m.fr a h.1 k]; exact h.2⟩
  cases q : H a with
  | none => exact absurd q h.1
  | some o => exact m.hh a o q k
/-- more frozen things, the owned ones as they were -/
theorem R.up {C : Cy} {σ0 : Z} {G H G' H' : Hp} {σ : St} {st : S} {L : List Addr} (r : R C σ0 G H σ st L) (e : Same G G') (e1 : Same G' H') (e2 : Same H H') (f : ∀ a, H a ≠ none → G' a = G a) : R C σ0 G' H' σ st L := by
  refine ⟨e1, r.ow.frame e fun a ha => ?_, r.nd, r.pr, r.fl⟩
  obtain ⟨h1, h2⟩ := r.ow.there a ha
  refine ⟨?_, (f a h1).trans h2⟩
  cases q : H a with
  | none => exact absurd q h1
  | some o => exact e2 a o q
theorem Mv.up {q : Bool} {L : List Addr} {G H G' H' : Hp} (e : Same G G') (e2 : Same H H') (f : ∀ a, H a ≠ none → G' a = G a) : Mv q L G H G' H' L :=
  ⟨e, fun b o h _ => e2 b o h, fun a h _ => f a h, fun _ h => .inl h, fun _ _ _ _ _ h => e2 _ _ h⟩

/-- a result: a value and a state, an exception of a class, or nothing that this layer speaks of -/
inductive Rs (α : Type) where
  | ok (a : α) (s : S) | ex (c : Nat) (s : S) | bad
def Rs.bind {α β : Type} (r : Rs α) (f : α → S → Rs β) : Rs β := match r with
  | .ok a s => f a s
  | .ex c s => .ex c s
  | .bad => .bad

end DV
namespace DV
open PySem L2

abbrev cy (X : Cx) (cls : Nat → Addr) : Cy := ⟨X.K, cls⟩

/-! ### what is wanted of a result -/
def PostV (q : Bool) (C : Cy) (σ0 : Z) (W : WX) (σ : St) (L : List Addr) (G H : Hp) (Q : VK) : Rs SV → Prop
  | .ok sv st => ∀ v G' H' Lv L', Mv q L G H G' H' L' → R C σ0 G' H' σ st L' → Ow C G' H' sv v Lv → (∀ a ∈ Lv, a ∈ L ∨ H a = none) → (L' ++ Lv).Nodup → Q v H'
  | .ex c st => ∀ d G' H' L', Mv q L G H G' H' L' → R C σ0 G' H' σ st L' → W (.ref (C.cls c)) d σ H'
  | .bad => False
def PostD (q : Bool) (C : Cy) (σ0 : Z) (W : WX) (σ : St) (L : List Addr) (G H : Hp) (Q : VK) : Rs D → Prop
  | .ok d st => ∀ v G' H' L', Mv q L G H G' H' L' → R C σ0 G' H' σ st L' → Rp C G' d v → Q v H'
  | .ex c st => ∀ d G' H' L', Mv q L G H G' H' L' → R C σ0 G' H' σ st L' → W (.ref (C.cls c)) d σ H'
  | .bad => False
def PostB (q : Bool) (C : Cy) (σ0 : Z) (W : WX) (σ : St) (L : List Addr) (G H : Hp) (Q : Bool → Hp → Prop) : Rs Bool → Prop
  | .ok b st => ∀ G' H' L', Mv q L G H G' H' L' → R C σ0 G' H' σ st L' → Q b H'
  | .ex c st => ∀ d G' H' L', Mv q L G H G' H' L' → R C σ0 G' H' σ st L' → W (.ref (C.cls c)) d σ H'
  | .bad => False

structure IX (q : Bool) (X : Cx) (cls : Nat → Addr) (σ0 : Z) (W : WX) (e : Expr) (f : S → Rs SV) : Prop where
  ex : ∃ t, PE X e t ∧ ∀ σ G H st L Q, R (cy X cls) σ0 G H σ st L → PostV q (cy X cls) σ0 W σ L G H Q (f st) → t σ H Q
structure IV (q : Bool) (X : Cx) (cls : Nat → Addr) (σ0 : Z) (W : WX) (e : Expr) (f : S → Rs D) : Prop where
  ex : ∃ t, PE X e t ∧ ∀ σ G H st L Q, R (cy X cls) σ0 G H σ st L → PostD q (cy X cls) σ0 W σ L G H Q (f st) → t σ H Q
structure IT (q : Bool) (X : Cx) (cls : Nat → Addr) (σ0 : Z) (W : WX) (e : Expr) (f : S → Rs Bool) : Prop where
  ex : ∃ t, PT X e t ∧ ∀ σ G H st L Q, R (cy X cls) σ0 G H σ st L → PostB q (cy X cls) σ0 W σ L G H Q (f st) → t σ H Q
structure IW (q : Bool) (X : Cx) (cls : Nat → Addr) (σ0 : Z) (W : WX) (e : Expr) (f : S → Rs Bool) : Prop where
  ex : ∃ t, PW X e t ∧ ∀ σ G H st L Q, R (cy X cls) σ0 G H σ st L → PostB q (cy X cls) σ0 W σ L G H Q (f st) → t σ H Q

section
variable {q : Bool} {C : Cy} {σ0 : Z} {W : WX} {σ : St} {L L1 : List Addr} {G H G1 H1 : Hp}
theorem PostV.shift {Q : VK} (m : Mv q L G H G1 H1 L1) {r : Rs SV} (h : PostV q C σ0 W σ L G H Q r) : PostV q C σ0 W σ L1 G1 H1 Q r := by
  cases r with
  | ok sv st => exact fun v G' H' Lv L' n r ow lv nd => h v G' H' Lv L' (m.trans n) r ow (fun a ha => m.old (lv a ha)) nd
  | ex c st => exact fun d G' H' L' n r => h d G' H' L' (m.trans n) r
  | bad => exact h
theorem PostD.shift {Q : VK} (m : Mv q L G H G1 H1 L1) {r : Rs D} (h : PostD q C σ0 W σ L G H Q r) : PostD q C σ0 W σ L1 G1 H1 Q r := by
  cases r with
  | ok sv st => exact fun v G' H' L' n r ow => h v G' H' L' (m.trans n) r ow
  | ex c st => exact fun d G' H' L' n r => h d G' H' L' (m.trans n) r
  | bad => exact h
theorem PostB.shift {Q : Bool → Hp → Prop} (m : Mv q L G H G1 H1 L1) {r : Rs Bool} (h : PostB q C σ0 W σ L G H Q r) : PostB q C σ0 W σ L1 G1 H1 Q r := by
  cases r with
  | ok sv st => exact fun G' H' L' n r => h G' H' L' (m.trans n) r
  | ex c st => exact fun d G' H' L' n r => h d G' H' L' (m.trans n) r
  | bad => exact h

/-- a value-level rule's end -/
def Fin (C : Cy) (G H : Hp) (sv : SV) (Q : VK) : Prop := ∀ v G' H' Lv, Same G G' → Same G' H' → Same H H' → (∀ a, H a ≠ none → G' a = G a) → Ow C G' H' sv v Lv → (∀ a ∈ Lv, H a = none) → Lv.Nodup → Q v H'
theorem fin_of {Q : VK} {sv : SV} {st : S} (m : Mv q L G H G1 H1 L1) (r : R C σ0 G1 H1 σ st L1) (h : PostV q C σ0 W σ L G H Q (.ok sv st)) : Fin C G1 H1 sv Q := by
  intro v G' H' Lv e e1 e2 f ow lv nd
  refine h v G' H' Lv L1 (m.trans (Mv.up e e2 f)) (r.up e e1 e2 f) ow (fun a ha => m.old (.inr (lv a ha))) ?_
  refine List.nodup_append.mpr ⟨r.nd, nd, fun a ha b hb z => ?_⟩
  subst z
  exact (r.ow.there a ha).1 (lv a hb)
/-- the three ends: data that stand, a new owned thing, a new tuple -/
theorem Fin.im {Q : VK} {d : D} {v : V} (gh : Same G H) (h : Fin C G H (.im d) Q) (r : Rp C G d v) : Q v H :=
  h v G H [] (Same.refl _) gh (Same.refl _) (fun _ _ => rfl) (by simp only [Ow]; exact ⟨trivial, r⟩) (fun _ z => absurd z (by simp)) List.nodup_nil
theorem same_new {H : Hp} {p : Addr} (h : H p = none) (o : HO) : Same H (upd H p o) := fun b u q => by rw [upd_ne (ne_of_none q h)]; exact q
theorem gh_new {p : Addr} {o : HO} (gh : Same G H) (h : H p = none) : Same G (upd H p o) := fun b u q => by rw [upd_ne (ne_of_none (gh b u q) h)]; exact gh b u q
theorem one_free {p : Addr} (hp : H p = none) : ∀ a ∈ [p], H a = none := fun a z => by
  have e : a = p := by simpa using z
  rw [e]; exact hp
theorem Fin.ol {Q : VK} {ds : List D} {xs : List V} {p : Addr} (gh : Same G H) (h : Fin C G H (.ol ds) Q) (hp : H p = none) (r : RpL C G ds xs) : Q (.ref p) (upd H p (.lst xs)) :=
  h _ G _ [p] (Same.refl _) (gh_new gh hp) (same_new hp _) (fun _ _ => rfl) (by simp only [Ow]; exact ⟨p, xs, rfl, rfl, gh.free hp, upd_same, r⟩) (one_free hp) (by simp)
theorem Fin.okd {Q : VK} {ks : List Key} {vs : List D} {kvs : List (Key × V)} {p : Addr} (gh : Same G H) (h : Fin C G H (.ok ks vs) Q) (hp : H p = none) (e : kvs.map (·.1) = ks) (r : RpL C G vs (kvs.map (·.2))) : Q (.ref p) (upd H p (.dK kvs)) :=
  h _ G _ [p] (Same.refl _) (gh_new gh hp) (same_new hp _) (fun _ _ => rfl) (by simp only [Ow]; exact ⟨p, kvs, rfl, rfl, gh.free hp, upd_same, e, r⟩) (one_free hp) (by simp)
theorem Fin.otd {Q : VK} {ks : List (List Key)} {vs : List D} {kvs : List (List Key × V)} {p : Addr} (gh : Same G H) (h : Fin C G H (.ot ks vs) Q) (hp : H p = none) (e : kvs.map (·.1) = ks) (r : RpL C G vs (kvs.map (·.2))) : Q (.ref p) (upd H p (.dT kvs)) :=
  h _ G _ [p] (Same.refl _) (gh_new gh hp) (same_new hp _) (fun _ _ => rfl) (by simp only [Ow]; exact ⟨p, kvs, rfl, rfl, gh.free hp, upd_same, e, r⟩) (one_free hp) (by simp)
theorem Fin.tup {Q : VK} {ds : List D} {xs : List V} {p : Addr} (gh : Same G H) (h : Fin C G H (.im (.tup ds)) Q) (hp : H p = none) (r : RpL C G ds xs) : Q (.ref p) (upd H p (.tup xs)) := by
  have s1 : Same G (upd G p (.tup xs)) := same_new (gh.free hp) _
  refine h _ (upd G p (.tup xs)) _ [] s1 (fun a o q => ?_) (same_new hp _) (fun a ha => ?_) ?_ (fun _ z => absurd z (by simp)) List.nodup_nil
  · by_cases z : a = p
    · subst z; rw [upd_same] at q ⊢; exact q
    · rw [upd_ne z] at q ⊢; exact gh a o q
  · rw [upd_ne]
    intro z; subst z; exact ha hp
  · simp only [Ow, Rp]
    exact ⟨trivial, p, xs, rfl, upd_same, r.mono s1⟩

/-- a value as it stands now: its own object read off the heap, its parts frozen -/
def Bw (C : Cy) (G H : Hp) : D → V → Prop
  | .lst ds, v => ∃ a xs, v = .ref a ∧ H a = some (.lst xs) ∧ RpL C G ds xs
  | .tup ds, v => ∃ a xs, v = .ref a ∧ H a = some (.tup xs) ∧ RpL C G ds xs
  | .dK ks vs, v => ∃ a kvs, v = .ref a ∧ H a = some (.dK kvs) ∧ kvs.map (·.1) = ks ∧ RpL C G vs (kvs.map (·.2))
  | .dT ks vs, v => ∃ a kvs, v = .ref a ∧ H a = some (.dT kvs) ∧ kvs.map (·.1) = ks ∧ RpL C G vs (kvs.map (·.2))
  | d, v => Rp C G d v
theorem Rp.bw (gh : Same G H) {d : D} {v : V} (h : Rp C G d v) : Bw C G H d v := by
  cases d with
  | lst ds => simp only [Rp] at h; obtain ⟨a, xs, h1, h2, h3⟩ := h; exact ⟨a, xs, h1, gh _ _ h2, h3⟩
  | tup ds => simp only [Rp] at h; obtain ⟨a, xs, h1, h2, h3⟩ := h; exact ⟨a, xs, h1, gh _ _ h2, h3⟩
  | dK ks vs => simp only [Rp] at h; obtain ⟨a, xs, h1, h2, h3⟩ := h; exact ⟨a, xs, h1, gh _ _ h2, h3⟩
  | dT ks vs => simp only [Rp] at h; obtain ⟨a, xs, h1, h2, h3⟩ := h; exact ⟨a, xs, h1, gh _ _ h2, h3⟩
  | ins c ns vs => exact h
  | _ => exact h
end

/-! ### from one judgement to another -/
def dVal (f : S → Rs SV) : S → Rs D := fun s => (f s).bind fun sv s1 => .ok (frz sv) s1
def dIm (f : S → Rs D) : S → Rs SV := fun s => (f s).bind fun d s1 => .ok (.im d) s1
section
variable {q : Bool} {X : Cx} {cls : Nat → Addr} {σ0 : Z} {W : WX} {e : Expr}
theorem IX.val {f : S → Rs SV} (h : IX q X cls σ0 W e f) : IV q X cls σ0 W e (dVal f) := by
  obtain ⟨t, p, qh⟩ := h.ex
  refine ⟨t, p, fun σ G H st L Q r po => qh σ G H st L Q r ?_⟩
  unfold dVal at po
  cases ef : f st with
  | ok sv st1 =>
    rw [ef] at po
    intro v G' H' Lv L' m r' ow lv nd
    have dis : ∀ a ∈ L', a ∉ Lv := fun a ha hb => (List.nodup_append.mp nd).2.2 a ha a hb rfl
    have gg := addG_up (L := Lv) r'.gh
    refine po v (addG G' H' Lv) H' L' ⟨m.gg.trans gg, m.hh, fun a ha hb => ?_, m.ll, m.ob⟩ ⟨addG_dn r'.gh, r'.ow.frame gg fun a ha => ⟨rfl, ?_⟩, r'.nd, r'.pr, r'.fl⟩ (ow.frz r'.gh)
    · rw [addG_out fun z => ?_]
      · exact m.fr a ha hb
      · rcases lv a z with z | z
        · exact hb z
        · exact ha z
    · rw [addG_out (dis a ha)]
      exact (r'.ow.there a ha).2
  | ex c st1 => rw [ef] at po; exact po
  | bad => rw [ef] at po; exact po
theorem IV.im {f : S → Rs D} (h : IV q X cls σ0 W e f) : IX q X cls σ0 W e (dIm f) := by
  obtain ⟨t, p, qh⟩ := h.ex
  refine ⟨t, p, fun σ G H st L Q r po => qh σ G H st L Q r ?_⟩
  unfold dIm at po
  cases ef : f st with
  | ok d st1 =>
    rw [ef] at po
    intro v G' H' L' m r' rp
    exact po v G' H' [] L' m r' (by simp only [Ow]; exact ⟨trivial, rp⟩) (fun a z => absurd z (by simp)) (by simpa using r'.nd)
  | ex c st1 => rw [ef] at po; exact po
  | bad => rw [ef] at po; exact po

/-- constants -/
def dC (d : D) : S → Rs D := fun s => .ok d s
theorem iv_tC {v : V} {d : D} (h : PE X e (tC v)) (hq : ∀ G, Rp (cy X cls) G d v) : IV q X cls σ0 W e (dC d) := by
  refine ⟨_, h, fun σ G H st L Q r po => po v G H L Mv.refl r (hq G)⟩
theorem iv_int {i : Int} {j pos} : IV q X cls σ0 W (.Constant (.int i) j pos) (dC (.int i)) := iv_tC pe_int fun G => by simp [Rp]
theorem iv_bl {b : Bool} {j pos} : IV q X cls σ0 W (.Constant (.bool b) j pos) (dC (.bl b)) := iv_tC pe_bl fun G => by simp [Rp]
theorem iv_non {j pos} : IV q X cls σ0 W (.Constant .none j pos) (dC .non) := iv_tC pe_non fun G => by simp [Rp]
theorem iv_str {x : Str} {j pos} : IV q X cls σ0 W (.Constant (.str x) j pos) (dC (.str x)) := iv_tC pe_str fun G => by simp [Rp]
theorem iv_gint {i : Int} (h : PE X e (tC (.int i))) : IV q X cls σ0 W e (dC (.int i)) := iv_tC h fun G => by simp [Rp]
theorem iv_gstr {i : Str} (h : PE X e (tC (.str i))) : IV q X cls σ0 W e (dC (.str i)) := iv_tC h fun G => by simp [Rp]

/-- a name: what is owned is frozen -/
def dVar (i : Nat) : S → Rs D := fun s => match s[i]? with
  | some ⟨_, some (.im d)⟩ => .ok d s
  | some ⟨p, some sv⟩ => .ok (frz sv) (s.set i ⟨p, some (.im (frz sv))⟩)
  | _ => .bad
theorem set_same {α : Type} : ∀ {l : List α} {i : Nat} {a : α}, l[i]? = some a → l.set i a = l
  | [], _, _, h => by simp at h
  | b :: l, 0, a, h => by simp at h; simp [h]
  | b :: l, i + 1, a, h => by simp at h; simp [set_same h]
theorem R.prset {C : Cy} {σ0 : Z} {σ : St} {st : S} {i : Nat} {s s' : Sl} (pr : ∀ (i : Nat) (s : Sl), st[i]? = some s → s.pr = true → σ[i]? = σ0.s[i]?) (hi : st[i]? = some s) (e : s'.pr = s.pr) :
    ∀ (j : Nat) (u : Sl), (st.set i s')[j]? = some u → u.pr = true → σ[j]? = σ0.s[j]? := by
  intro j u h hp
  by_cases z : i = j
  · subst z
    have : i < st.length := (List.getElem?_eq_some_iff.mp hi).1
    rw [List.getElem?_set_self this] at h
    cases h
    exact pr i s hi (e ▸ hp)
  · rw [List.getElem?_set_ne z] at h
    exact pr j u h hp
theorem R.flset {st : S} {i : Nat} {s s' : Sl} (hi : st[i]? = some s) (e : s'.pr = s.pr) : (st.set i s').map (·.pr) = st.map (·.pr) := by
  rw [List.map_set, e]
  exact set_same (by rw [List.getElem?_map, hi]; rfl)
/-- a slot frozen -/
theorem R.freeze {C : Cy} {σ0 : Z} {G H : Hp} {σ : St} {st : S} {L : List Addr} (r : R C σ0 G H σ st L) {i : Nat} {p : Bool} {sv : SV} (hi : st[i]? = some ⟨p, some sv⟩) :
    ∃ v G' L', σ[i]? = some (some v) ∧ Mv q L G H G' H L' ∧ R C σ0 G' H σ (st.set i ⟨p, some (.im (frz sv))⟩) L' ∧ Rp C G' (frz sv) v := by
  obtain ⟨o, A, Li, B, eo, eL, ow, back⟩ := r.ow.focus hi
  obtain ⟨v, rfl, ow⟩ := ow
  have nd : (A ++ (Li ++ B)).Nodup := eL ▸ r.nd
  have gg := addG_up (L := Li) r.gh
  have dis : ∀ a ∈ A ++ B, a ∉ Li := by
    intro a ha hb
    have n1 := List.nodup_append.mp nd
    have n2 := List.nodup_append.mp n1.2.1
    rcases List.mem_append.mp ha with z | z
    · exact n1.2.2 a z a (List.mem_append_left _ hb) rfl
    · exact n2.2.2 a hb a z rfl
  have hL : ∀ a, a ∈ A ++ B → a ∈ L := fun a ha => by
    rw [eL]
    rcases List.mem_append.mp ha with z | z
    · exact List.mem_append_left _ z
    · exact List.mem_append_right _ (List.mem_append_right _ z)
  have rp := ow.frz r.gh
  refine ⟨v, addG G H Li, A ++ ([] ++ B), eo, ⟨gg, fun b o h _ => h, fun a h k => ?_, fun a h => .inl (hL a (by simpa using h)), fun _ _ _ _ _ h => h⟩, ⟨addG_dn r.gh, ?_, ?_, R.prset (C := C) r.pr hi rfl, (R.flset (s' := ⟨p, some (.im (frz sv))⟩) hi rfl).trans r.fl⟩, rp⟩
  · rw [addG_out fun z => k ?_]
    rw [eL]
    exact List.mem_append_right _ (List.mem_append_left _ z)
  · have qq := back (addG G H Li) H gg (fun a ha => ⟨rfl, by rw [addG_out (dis a ha)]; exact (r.ow.there a (hL a ha)).2⟩) ⟨p, some (.im (frz sv))⟩ (some v) [] ⟨v, rfl, by simp only [Ow]; exact ⟨trivial, rp⟩⟩
    rwa [set_same eo] at qq
  · simp only [List.nil_append]
    rw [List.nodup_append] at nd ⊢
    refine ⟨nd.1, (List.nodup_append.mp nd.2.1).2.1, fun a ha b hb => nd.2.2 a ha b (List.mem_append_right _ hb)⟩
theorem R.imAt {C : Cy} {σ0 : Z} {G H : Hp} {σ : St} {st : S} {L : List Addr} (r : R C σ0 G H σ st L) {i : Nat} {p : Bool} {d : D} (hi : st[i]? = some ⟨p, some (.im d)⟩) : ∃ v, σ[i]? = some (some v) ∧ Rp C G d v := by
  obtain ⟨o, A, Li, B, eo, eL, ow, back⟩ := r.ow.focus hi
  obtain ⟨v, rfl, ow⟩ := ow
  simp only [Ow] at ow
  exact ⟨v, eo, ow.2⟩
theorem iv_var {i : Nat} (h : PE X e (tVar i)) : IV q X cls σ0 W e (dVar i) := by
  refine ⟨_, h, fun σ G H st L Q r po => ?_⟩
  unfold dVar at po
  cases es : st[i]? with
  | none => rw [es] at po; exact po.elim
  | some s =>
    obtain ⟨p, sv⟩ := s
    cases sv with
    | none => rw [es] at po; exact po.elim
    | some sv =>
      have gen : PostD q (cy X cls) σ0 W σ L G H Q (.ok (frz sv) (st.set i ⟨p, some (.im (frz sv))⟩)) → tVar i σ H Q := fun po => by
        obtain ⟨v, G', L', e1, m, r', rp⟩ := r.freeze es
        exact ⟨v, e1, po v G' H L' m r' rp⟩
      cases sv with
      | im d =>
        rw [es] at po
        obtain ⟨v, e1, rp⟩ := r.imAt es
        exact ⟨v, e1, po v G H L Mv.refl r rp⟩
      | ol ds => rw [es] at po; exact gen po
      | ok ks vs => rw [es] at po; exact gen po
      | ot ks vs => rw [es] at po; exact gen po
      | oi c ns vs => rw [es] at po; exact gen po

/-! ### operators -/
def d2 (op : D → D → Option SV) (fa fb : S → Rs D) : S → Rs SV := fun s => (fa s).bind fun x s1 => (fb s1).bind fun y s2 => match op x y with
  | some sv => .ok sv s2
  | none => .bad
def d1 (op : D → Option SV) (fa : S → Rs D) : S → Rs SV := fun s => (fa s).bind fun x s1 => match op x with
  | some sv => .ok sv s1
  | none => .bad
/-- a rule by values, and the function that tells its answer -/
def Sd2 (C : Cy) (r : R2) (op : D → D → Option SV) : Prop := ∀ G H x y d1 d2 sv Q, Same G H → Bw C G H d1 x → Bw C G H d2 y → op d1 d2 = some sv → Fin C G H sv Q → r x y H Q
def Sd1 (C : Cy) (r : V → Hp → VK → Prop) (op : D → Option SV) : Prop := ∀ G H x d1 sv Q, Same G H → Bw C G H d1 x → op d1 = some sv → Fin C G H sv Q → r x H Q
def SdN (C : Cy) (r : List V → Hp → VK → Prop) (op : List D → Option SV) : Prop := ∀ G H xs ds sv Q, Same G H → RpL C G ds xs → op ds = some sv → Fin C G H sv Q → r xs H Q

theorem two {a b : Expr} {fa fb : S → Rs D} {ta tb : TE} {op : D → D → Option SV} {r : R2} (qa : ∀ σ G H st L Q, R (cy X cls) σ0 G H σ st L → PostD q (cy X cls) σ0 W σ L G H Q (fa st) → ta σ H Q)
    (qb : ∀ σ G H st L Q, R (cy X cls) σ0 G H σ st L → PostD q (cy X cls) σ0 W σ L G H Q (fb st) → tb σ H Q) (hs : Sd2 (cy X cls) r op) :
    ∀ σ G H st L Q, R (cy X cls) σ0 G H σ st L → PostV q (cy X cls) σ0 W σ L G H Q (d2 op fa fb st) → tOp r ta tb σ H Q := by
  intro σ G H st L Q hr po
  refine qa σ G H st L _ hr ?_
  unfold d2 at po
  cases ea : fa st with
  | bad => rw [ea] at po; exact po
  | ex c s1 => rw [ea] at po; exact po
  | ok x s1 =>
    rw [ea] at po
    intro v G1 H1 L1 m1 r1 rp1
    refine qb σ G1 H1 s1 L1 _ r1 ?_
    simp only [Rs.bind] at po
    cases eb : fb s1 with
    | bad => rw [eb] at po; exact po
    | ex c s2 => rw [eb] at po; exact PostD.shift (Q := fun _ _ => True) (r := .ex c s2) m1 po
    | ok y s2 =>
      rw [eb] at po
      simp only at po
      intro u G2 H2 L2 m2 r2 rp2
      cases eo : op x y with
      | none => rw [eo] at po; exact po.elim
      | some sv =>
        rw [eo] at po
        exact hs G2 H2 v u x y sv Q r2.gh ((rp1.mono m2.gg).bw r2.gh) (rp2.bw r2.gh) eo (fin_of (m1.trans m2) r2 po)
theorem ix_op {op : Operator} {g : D → D → Option SV} {r : R2} {a b : Expr} {fa fb : S → Rs D} {pos : Pos} (ho : OpR X (binaryOp op) r) (hs : Sd2 (cy X cls) r g) (ha : IV q X cls σ0 W a fa) (hb : IV q X cls σ0 W b fb) : IX q X cls σ0 W (.BinOp a op b pos) (d2 g fa fb) := by
  obtain ⟨ta, pa, qa⟩ := ha.ex
  obtain ⟨tb, pb, qb⟩ := hb.ex
  exact ⟨_, pe_op ho pa pb, two (a := a) (b := b) qa qb hs⟩
theorem ix_cmp {op : CmpOp} {g : D → D → Option SV} {r : R2} {a b : Expr} {fa fb : S → Rs D} {pos : Pos} (ho : OpR X (compareOp op) r) (hs : Sd2 (cy X cls) r g) (hm : behindInMarks op b = false) (ha : IV q X cls σ0 W a fa) (hb : IV q X cls σ0 W b fb) : IX q X cls σ0 W (.Compare a [op] [b] pos) (d2 g fa fb) := by
  obtain ⟨ta, pa, qa⟩ := ha.ex
  obtain ⟨tb, pb, qb⟩ := hb.ex
  exact ⟨_, pe_cmpR ho pa pb hm, two (a := a) (b := b) qa qb hs⟩
theorem ix_ix {g : D → D → Option SV} {r : R2} {a b : Expr} {fa fb : S → Rs D} {pos : Pos} (hi : IxR X r) (hs : Sd2 (cy X cls) r g) (hp : PlainIx b) (ha : IV q X cls σ0 W a fa) (hb : IV q X cls σ0 W b fb) : IX q X cls σ0 W (.Subscript a b pos) (d2 g fa fb) := by
  obtain ⟨ta, pa, qa⟩ := ha.ex
  obtain ⟨tb, pb, qb⟩ := hb.ex
  exact ⟨_, pe_ix hi pa pb hp, two (a := a) (b := b) qa qb hs⟩
theorem ix_un {op : UnaryOp} {g : D → Option SV} {r : V → Hp → VK → Prop} {a : Expr} {fa : S → Rs D} {pos : Pos} (ho : UnR X (unaryOp op) r) (hs : Sd1 (cy X cls) r g) (ha : IV q X cls σ0 W a fa) : IX q X cls σ0 W (.UnaryOp op a pos) (d1 g fa) := by
  obtain ⟨ta, pa, qa⟩ := ha.ex
  refine ⟨_, pe_un ho pa, fun σ G H st L Q hr po => qa σ G H st L _ hr ?_⟩
  unfold d1 at po
  cases ea : fa st with
  | bad => rw [ea] at po; exact po
  | ex c s1 => rw [ea] at po; exact po
  | ok x s1 =>
    rw [ea] at po
    intro v G1 H1 L1 m1 r1 rp1
    simp only [Rs.bind] at po
    cases eo : g x with
    | none => rw [eo] at po; exact po.elim
    | some sv =>
      rw [eo] at po
      exact hs G1 H1 v x sv Q r1.gh (rp1.bw r1.gh) eo (fin_of m1 r1 po)
end
end DV
namespace DV
open PySem L2

/-! ### tests -/
section
variable {q : Bool} {X : Cx} {cls : Nat → Addr} {σ0 : Z} {W : WX} {a b c e : Expr} {pos : Pos}
def dBl (f : S → Rs D) : S → Rs Bool := fun s => (f s).bind fun d s1 => match d with
  | .bl b => .ok b s1
  | _ => .bad
def tob : Rs Bool → Rs D := fun r => r.bind fun b s => .ok (.bl b) s
theorem it_val {f : S → Rs D} (h : IV q X cls σ0 W e f) (he : ∀ whole, isTrue e X.env whole = (do let v ← whole; standAt e.pos; holding [v] (truthy v)) := by intro _; rfl) : IT q X cls σ0 W e (dBl f) := by
  obtain ⟨t, p, qh⟩ := h.ex
  refine ⟨_, pt_val p he, fun σ G H st L Q r po => qh σ G H st L _ r ?_⟩
  unfold dBl at po
  cases ef : f st with
  | bad => rw [ef] at po; exact po
  | ex c s => rw [ef] at po; exact po
  | ok d s =>
    rw [ef] at po
    intro v G' H' L' m r' rp
    cases d with
    | bl b =>
      simp only [Rp] at rp
      exact ⟨b, rp, po G' H' L' m r'⟩
    | _ => exact po.elim
/-- a comparison as a test, from the same as a value -/
theorem it_cmp {op : CmpOp} {g : D → D → Option SV} {r : R2} {fa fb : S → Rs D} (ho : OpR X (compareOp op) r) (hs : Sd2 (cy X cls) r g) (hm : behindInMarks op b = false) (ha : IV q X cls σ0 W a fa) (hb : IV q X cls σ0 W b fb) :
    IT q X cls σ0 W (.Compare a [op] [b] pos) (dBl (dVal (d2 g fa fb))) := by
  obtain ⟨ta, pa, qa⟩ := ha.ex
  obtain ⟨tb, pb, qb⟩ := hb.ex
  refine ⟨_, pt_cmpR ho pa pb hm, fun σ G H st L Q hr po => ?_⟩
  refine two (a := a) (b := b) qa qb hs σ G H st L _ hr ?_
  unfold dBl dVal at po
  cases ef : d2 g fa fb st with
  | bad => rw [ef] at po; exact po
  | ex c s => rw [ef] at po; exact po
  | ok sv s =>
    rw [ef] at po
    intro v G' H' Lv L' m r' ow lv nd
    cases sv with
    | im d =>
      cases d with
      | bl b =>
        simp only [Ow, Rp] at ow
        exact ⟨b, ow.2, po G' H' L' m r'⟩
      | _ => exact po.elim
    | _ => exact po.elim
def dTru (d : D) : Option Bool := match d with
  | .non => some false
  | .bl b => some b
  | .int i => some (i != 0)
  | .str x => if x.length ≤ sizeLine then some ((x.length : Int) != 0) else none
  | .lst ds => some (!ds.isEmpty)
  | .tup ds => some (!ds.isEmpty)
  | .dK ks _ => some (!ks.isEmpty)
  | _ => none
theorem RpL.empty {C : Cy} {G : Hp} {ds : List D} {xs : List V} (h : RpL C G ds xs) : (!xs.isEmpty) = !ds.isEmpty := by
  have e := h.len
  cases ds <;> cases xs <;> simp_all
theorem tru_bw {C : Cy} {G H : Hp} {d : D} {v : V} {k : Bool} (h : Bw C G H d v) (e : dTru d = some k) : TruV C.K v H k := by
  cases d with
  | non => simp only [Bw, Rp] at h; subst h; simp only [dTru, Option.some.injEq] at e; exact e.symm
  | bl b => simp only [Bw, Rp] at h; subst h; simp only [dTru, Option.some.injEq] at e; exact e.symm
  | int b => simp only [Bw, Rp] at h; subst h; simp only [dTru, Option.some.injEq] at e; exact e.symm
  | str x =>
    simp only [Bw, Rp] at h; subst h
    simp only [dTru] at e
    split at e
    · rename_i hl
      simp only [Option.some.injEq] at e
      exact ⟨hl, e.symm⟩
    · cases e
  | lst ds =>
    obtain ⟨p, xs, rfl, hp, r⟩ := h
    simp only [dTru, Option.some.injEq] at e
    exact .inl ⟨xs, SqL.of hp, by rw [r.empty]; exact e.symm⟩
  | tup ds =>
    obtain ⟨p, xs, rfl, hp, r⟩ := h
    simp only [dTru, Option.some.injEq] at e
    exact .inr (.inl ⟨xs, SqT.of hp, by rw [r.empty]; exact e.symm⟩)
  | dK ks vs =>
    obtain ⟨p, kvs, rfl, hp, z, r⟩ := h
    simp only [dTru, Option.some.injEq] at e
    refine .inr (.inr ⟨kvs, hp, ?_⟩)
    rw [← e, ← z]
    cases kvs <;> rfl
  | _ => simp [dTru] at e
def dTr (f : S → Rs D) : S → Rs Bool := fun s => (f s).bind fun d s1 => match dTru d with
  | some b => .ok b s1
  | none => .bad
theorem it_truth {f : S → Rs D} (h : IV q X cls σ0 W e f) (he : ∀ whole, isTrue e X.env whole = (do let v ← whole; standAt e.pos; holding [v] (truthy v)) := by intro _; rfl) : IT q X cls σ0 W e (dTr f) := by
  obtain ⟨t, p, qh⟩ := h.ex
  refine ⟨_, pt_truth p he, fun σ G H st L Q r po => qh σ G H st L _ r ?_⟩
  unfold dTr at po
  cases ef : f st with
  | bad => rw [ef] at po; exact po
  | ex c s => rw [ef] at po; exact po
  | ok d s =>
    rw [ef] at po
    intro v G' H' L' m r' rp
    simp only [Rs.bind] at po
    cases ed : dTru d with
    | none => rw [ed] at po; exact po.elim
    | some b =>
      rw [ed] at po
      exact ⟨b, tru_bw (C := cy X cls) (rp.bw r'.gh) ed, po G' H' L' m r'⟩
/-- and, or, not -/
def dAnd (f g : S → Rs Bool) : S → Rs Bool := fun s => (f s).bind fun b s1 => if b then g s1 else .ok false s1
def dOr (f g : S → Rs Bool) : S → Rs Bool := fun s => (f s).bind fun b s1 => if b then .ok true s1 else g s1
def dNot (f : S → Rs Bool) : S → Rs Bool := fun s => (f s).bind fun b s1 => .ok (!b) s1
theorem iw_and1 {f : S → Rs Bool} (h : IT q X cls σ0 W a f) : IW q X cls σ0 W (.BoolOp .And [a] pos) f := by
  obtain ⟨t, p, qh⟩ := h.ex
  exact ⟨_, pw_and1 p, qh⟩
theorem iw_or1 {f : S → Rs Bool} (h : IT q X cls σ0 W a f) : IW q X cls σ0 W (.BoolOp .Or [a] pos) f := by
  obtain ⟨t, p, qh⟩ := h.ex
  exact ⟨_, pw_or1 p, qh⟩
theorem iw_and {f g : S → Rs Bool} {rest : List Expr} (h : IT q X cls σ0 W a f) (k : IW q X cls σ0 W (.BoolOp .And (b :: rest) pos) g) : IW q X cls σ0 W (.BoolOp .And (a :: b :: rest) pos) (dAnd f g) := by
  obtain ⟨t, p, qh⟩ := h.ex
  obtain ⟨t2, p2, qh2⟩ := k.ex
  refine ⟨_, pw_and p p2, fun σ G H st L Q r po => qh σ G H st L _ r ?_⟩
  unfold dAnd at po
  cases ef : f st with
  | bad => rw [ef] at po; exact po
  | ex c s => rw [ef] at po; exact po
  | ok b s =>
    rw [ef] at po
    intro G' H' L' m r'
    cases b with
    | true => exact iteT (qh2 σ G' H' s L' _ r' (PostB.shift m po))
    | false => exact iteF (po G' H' L' m r')
theorem iw_or {f g : S → Rs Bool} {rest : List Expr} (h : IT q X cls σ0 W a f) (k : IW q X cls σ0 W (.BoolOp .Or (b :: rest) pos) g) : IW q X cls σ0 W (.BoolOp .Or (a :: b :: rest) pos) (dOr f g) := by
  obtain ⟨t, p, qh⟩ := h.ex
  obtain ⟨t2, p2, qh2⟩ := k.ex
  refine ⟨_, pw_or p p2, fun σ G H st L Q r po => qh σ G H st L _ r ?_⟩
  unfold dOr at po
  cases ef : f st with
  | bad => rw [ef] at po; exact po
  | ex c s => rw [ef] at po; exact po
  | ok b s =>
    rw [ef] at po
    intro G' H' L' m r'
    cases b with
    | true => exact iteT (po G' H' L' m r')
    | false => exact iteF (qh2 σ G' H' s L' _ r' (PostB.shift m po))
theorem IW.it {f : S → Rs Bool} (h : IW q X cls σ0 W e f) : IT q X cls σ0 W e f := by
  obtain ⟨t, p, qh⟩ := h.ex
  exact ⟨_, p.pt, qh⟩
theorem it_not {f : S → Rs Bool} (h : IT q X cls σ0 W a f) : IT q X cls σ0 W (.UnaryOp .Not a pos) (dNot f) := by
  obtain ⟨t, p, qh⟩ := h.ex
  refine ⟨_, pt_not p, fun σ G H st L Q r po => qh σ G H st L _ r ?_⟩
  unfold dNot at po
  cases ef : f st with
  | bad => rw [ef] at po; exact po
  | ex c s => rw [ef] at po; exact po
  | ok b s =>
    rw [ef] at po
    exact fun G' H' L' m r' => po G' H' L' m r'
/-- the same as values, all of them bools -/
def dBv (f : S → Rs Bool) : S → Rs D := fun s => (f s).bind fun b s1 => .ok (.bl b) s1
theorem iv_one {f : S → Rs D} {op : BoolOp} (h : IV q X cls σ0 W a f) : IV q X cls σ0 W (.BoolOp op [a] pos) f := by
  obtain ⟨t, p, qh⟩ := h.ex
  exact ⟨_, pe_one p, qh⟩
def dAndV (f g : S → Rs D) : S → Rs D := fun s => (f s).bind fun d s1 => match d with
  | .bl true => g s1
  | .bl false => .ok (.bl false) s1
  | _ => .bad
def dOrV (f g : S → Rs D) : S → Rs D := fun s => (f s).bind fun d s1 => match d with
  | .bl true => .ok (.bl true) s1
  | .bl false => g s1
  | _ => .bad
theorem iv_and {f g : S → Rs D} {rest : List Expr} (h : IV q X cls σ0 W a f) (k : IV q X cls σ0 W (.BoolOp .And (b :: rest) pos) g) : IV q X cls σ0 W (.BoolOp .And (a :: b :: rest) pos) (dAndV f g) := by
  obtain ⟨t, p, qh⟩ := h.ex
  obtain ⟨t2, p2, qh2⟩ := k.ex
  refine ⟨_, pe_and p p2, fun σ G H st L Q r po => qh σ G H st L _ r ?_⟩
  unfold dAndV at po
  cases ef : f st with
  | bad => rw [ef] at po; exact po
  | ex c s => rw [ef] at po; exact po
  | ok d s =>
    rw [ef] at po
    intro v G' H' L' m r' rp
    cases d with
    | bl b =>
      simp only [Rp] at rp
      cases b with
      | true => exact ⟨true, rp, iteT (qh2 σ G' H' s L' _ r' (PostD.shift m po))⟩
      | false => exact ⟨false, rp, iteF (po _ G' H' L' m r' (by simp [Rp]))⟩
    | _ => exact po.elim
theorem iv_or {f g : S → Rs D} {rest : List Expr} (h : IV q X cls σ0 W a f) (k : IV q X cls σ0 W (.BoolOp .Or (b :: rest) pos) g) : IV q X cls σ0 W (.BoolOp .Or (a :: b :: rest) pos) (dOrV f g) := by
  obtain ⟨t, p, qh⟩ := h.ex
  obtain ⟨t2, p2, qh2⟩ := k.ex
  refine ⟨_, pe_or p p2, fun σ G H st L Q r po => qh σ G H st L _ r ?_⟩
  unfold dOrV at po
  cases ef : f st with
  | bad => rw [ef] at po; exact po
  | ex c s => rw [ef] at po; exact po
  | ok d s =>
    rw [ef] at po
    intro v G' H' L' m r' rp
    cases d with
    | bl b =>
      simp only [Rp] at rp
      cases b with
      | true => exact ⟨true, rp, iteT (po _ G' H' L' m r' (by simp [Rp]))⟩
      | false => exact ⟨false, rp, iteF (qh2 σ G' H' s L' _ r' (PostD.shift m po))⟩
    | _ => exact po.elim
/-- not of any value, by truth -/
theorem iv_not {f : S → Rs D} (h : IV q X cls σ0 W a f) : IV q X cls σ0 W (.UnaryOp .Not a pos) (dBv (dNot (dTr f))) := by
  obtain ⟨t, p, hq⟩ := h.ex
  refine ⟨_, pe_notT p, fun σ G H st L Q r po => hq σ G H st L _ r ?_⟩
  unfold dBv dNot dTr at po
  cases ef : f st with
  | bad => rw [ef] at po; exact po
  | ex c s => rw [ef] at po; exact po
  | ok d s =>
    rw [ef] at po
    simp only [Rs.bind] at po
    intro v G' H' L' m r' rp
    cases ed : dTru d with
    | none => rw [ed] at po; exact po.elim
    | some b =>
      rw [ed] at po
      exact ⟨b, tru_bw (C := cy X cls) (rp.bw r'.gh) ed, po _ G' H' L' m r' (by simp [Rp])⟩
/-- a if t else b -/
def dIfE (t : S → Rs Bool) (f g : S → Rs D) : S → Rs D := fun s => (t s).bind fun b s1 => if b then f s1 else g s1
theorem iv_if {t : S → Rs Bool} {f g : S → Rs D} (hc : IT q X cls σ0 W c t) (ha : IV q X cls σ0 W a f) (hb : IV q X cls σ0 W b g) : IV q X cls σ0 W (.IfExp c a b pos) (dIfE t f g) := by
  obtain ⟨t1, p1, q1⟩ := hc.ex
  obtain ⟨t2, p2, q2⟩ := ha.ex
  obtain ⟨t3, p3, q3⟩ := hb.ex
  refine ⟨_, pe_ifExp p1 p2 p3, fun σ G H st L Q r po => q1 σ G H st L _ r ?_⟩
  unfold dIfE at po
  cases ef : t st with
  | bad => rw [ef] at po; exact po
  | ex c s => rw [ef] at po; exact po
  | ok b s =>
    rw [ef] at po
    intro G' H' L' m r'
    cases b with
    | true => exact iteT (q2 σ G' H' s L' _ r' (PostD.shift m po))
    | false => exact iteF (q3 σ G' H' s L' _ r' (PostD.shift m po))
/-- a < b < c -/
def dChain (g h : D → D → Option SV) (fa fb fc : S → Rs D) : S → Rs D := fun s => (fa s).bind fun x s1 => (fb s1).bind fun y s2 => match g x y with
  | some (.im (.bl true)) => (fc s2).bind fun z s3 => match h y z with
    | some (.im d) => .ok d s3
    | _ => .bad
  | some (.im (.bl false)) => .ok (.bl false) s2
  | _ => .bad
theorem chainR {g h : D → D → Option SV} {r r' : R2} {fa fb fc : S → Rs D} {ta tb tc : TE} (hg : Sd2 (cy X cls) r g) (hh : Sd2 (cy X cls) r' h) (qa : ∀ σ G H st L Q, R (cy X cls) σ0 G H σ st L → PostD q (cy X cls) σ0 W σ L G H Q (fa st) → ta σ H Q)
    (qb : ∀ σ G H st L Q, R (cy X cls) σ0 G H σ st L → PostD q (cy X cls) σ0 W σ L G H Q (fb st) → tb σ H Q) (qc : ∀ σ G H st L Q, R (cy X cls) σ0 G H σ st L → PostD q (cy X cls) σ0 W σ L G H Q (fc st) → tc σ H Q) :
    ∀ σ G H st L Q, R (cy X cls) σ0 G H σ st L → PostD q (cy X cls) σ0 W σ L G H Q (dChain g h fa fb fc st) → tChain r r' ta tb tc σ H Q := by
  intro σ G H st L Q hr po
  refine qa σ G H st L _ hr ?_
  unfold dChain at po
  cases ea : fa st with
  | bad => rw [ea] at po; exact po
  | ex c s1 => rw [ea] at po; exact po
  | ok x s1 =>
    rw [ea] at po
    intro v G1 H1 L1 m1 r1 rp1
    refine qb σ G1 H1 s1 L1 _ r1 ?_
    simp only [Rs.bind] at po
    cases eb : fb s1 with
    | bad => rw [eb] at po; exact po
    | ex c s2 => rw [eb] at po; exact PostD.shift (Q := fun _ _ => True) (r := .ex c s2) m1 po
    | ok y s2 =>
      rw [eb] at po
      simp only at po
      intro u G2 H2 L2 m2 r2 rp2
      cases eo : g x y with
      | none => rw [eo] at po; exact po.elim
      | some sv =>
        rw [eo] at po
        refine hg G2 H2 v u x y sv _ r2.gh ((rp1.mono m2.gg).bw r2.gh) (rp2.bw r2.gh) eo ?_
        have m12 := m1.trans m2
        cases sv with
        | im d =>
          cases d with
          | bl b =>
            intro z G3 H3 Lv e e1 e2 f ow lv nd
            simp only [Ow, Rp] at ow
            have mu : Mv q L G H G3 H3 L2 := m12.trans (Mv.up e e2 f)
            have ru := r2.up e e1 e2 f
            cases b with
            | false => exact ⟨false, ow.2, iteF (po _ G3 H3 L2 mu ru (by simp [Rp]))⟩
            | true =>
              refine ⟨true, ow.2, iteT (qc σ G3 H3 s2 L2 _ ru ?_)⟩
              simp only at po
              cases ec : fc s2 with
              | bad => rw [ec] at po; exact po
              | ex c s3 => rw [ec] at po; exact PostD.shift (Q := fun _ _ => True) (r := .ex c s3) mu po
              | ok w s3 =>
                rw [ec] at po
                simp only at po
                intro z' G4 H4 L4 m4 r4 rp4
                cases eh : h y w with
                | none => rw [eh] at po; exact po.elim
                | some sv =>
                  rw [eh] at po
                  refine hh G4 H4 u z' y w sv Q r4.gh ((rp2.mono (e.trans m4.gg)).bw r4.gh) (rp4.bw r4.gh) eh ?_
                  intro z5 G5 H5 Lv5 e5 e6 e7 f5 ow5 lv5 nd5
                  cases sv with
                  | im d5 =>
                    simp only [Ow] at ow5
                    exact po z5 G5 H5 L4 ((mu.trans m4).trans (Mv.up e5 e7 f5)) (r4.up e5 e6 e7 f5) ow5.2
                  | _ => exact po.elim
          | _ => exact po.elim
        | _ => exact po.elim
theorem iv_chain {op op' : CmpOp} {g h : D → D → Option SV} {r r' : R2} {fa fb fc : S → Rs D} (ho : OpR X (compareOp op) r) (hg : Sd2 (cy X cls) r g) (ho' : OpR X (compareOp op') r') (hh : Sd2 (cy X cls) r' h) (ha : IV q X cls σ0 W a fa) (hb : IV q X cls σ0 W b fb) (hc : IV q X cls σ0 W c fc)
    (hm : lastMarks [op, op'] [b, c] = false) : IV q X cls σ0 W (.Compare a [op, op'] [b, c] pos) (dChain g h fa fb fc) := by
  obtain ⟨ta, pa, qa⟩ := ha.ex
  obtain ⟨tb, pb, qb⟩ := hb.ex
  obtain ⟨tc, pc, qc⟩ := hc.ex
  exact ⟨_, pe_chain ho ho' pa pb pc hm, chainR hg hh qa qb qc⟩
theorem it_chain {op op' : CmpOp} {g h : D → D → Option SV} {r r' : R2} {fa fb fc : S → Rs D} (ho : OpR X (compareOp op) r) (hg : Sd2 (cy X cls) r g) (ho' : OpR X (compareOp op') r') (hh : Sd2 (cy X cls) r' h) (ha : IV q X cls σ0 W a fa) (hb : IV q X cls σ0 W b fb) (hc : IV q X cls σ0 W c fc)
    (hm : lastMarks [op, op'] [b, c] = false) : IT q X cls σ0 W (.Compare a [op, op'] [b, c] pos) (dBl (dChain g h fa fb fc)) := by
  obtain ⟨ta, pa, qa⟩ := ha.ex
  obtain ⟨tb, pb, qb⟩ := hb.ex
  obtain ⟨tc, pc, qc⟩ := hc.ex
  refine ⟨_, pt_chain ho ho' pa pb pc hm, fun σ G H st L Q hr po => chainR hg hh qa qb qc σ G H st L _ hr ?_⟩
  unfold dBl at po
  cases ef : dChain g h fa fb fc st with
  | bad => rw [ef] at po; exact po
  | ex c s => rw [ef] at po; exact po
  | ok d s =>
    rw [ef] at po
    intro v G' H' L' m r' rp
    cases d with
    | bl b =>
      simp only [Rp] at rp
      exact ⟨b, rp, po G' H' L' m r'⟩
    | _ => exact po.elim
end
end DV
namespace DV
open PySem L2

/-! ### statements -/
inductive Out where
  | nx (s : S) | rt (d : D) (s : S) | bk (s : S) | ct (s : S) | ex (c : Nat) (s : S) | bad
def PostO (C : Cy) (σ0 : Z) (W : WX) (L : List Addr) (G H : Hp) (E : Ends) : Out → Prop
  | .nx st => ∀ σ' G' H' L', Mv false L G H G' H' L' → R C σ0 G' H' σ' st L' → E.nx σ' H'
  | .rt d st => ∀ v σ' G' H' L', Mv false L G H G' H' L' → R C σ0 G' H' σ' st L' → Rp C G' d v → E.rt v H'
  | .bk st => ∀ σ' G' H' L', Mv false L G H G' H' L' → R C σ0 G' H' σ' st L' → E.bk σ' H'
  | .ct st => ∀ σ' G' H' L', Mv false L G H G' H' L' → R C σ0 G' H' σ' st L' → E.ct σ' H'
  | .ex c st => ∀ d σ' G' H' L', Mv false L G H G' H' L' → R C σ0 G' H' σ' st L' → W (.ref (C.cls c)) d σ' H'
  | .bad => False
structure IS (X : Cx) (cls : Nat → Addr) (σ0 : Z) (W : WX) (s : Stmt) (f : S → Out) : Prop where
  ex : ∃ t, PS X s t ∧ ∀ σ G H st L E, R (cy X cls) σ0 G H σ st L → PostO (cy X cls) σ0 W L G H E (f st) → t E σ H
structure ISs (X : Cx) (cls : Nat → Addr) (σ0 : Z) (W : WX) (s : List Stmt) (f : S → Out) : Prop where
  ex : ∃ t, PSs X s t ∧ ∀ σ G H st L E, R (cy X cls) σ0 G H σ st L → PostO (cy X cls) σ0 W L G H E (f st) → t E σ H
theorem PostO.shift {C : Cy} {σ0 : Z} {W : WX} {L L1 : List Addr} {G H G1 H1 : Hp} {E : Ends} (m : Mv false L G H G1 H1 L1) {o : Out} (h : PostO C σ0 W L G H E o) : PostO C σ0 W L1 G1 H1 E o := by
  cases o with
  | nx st => exact fun σ' G' H' L' n r => h σ' G' H' L' (m.trans n) r
  | rt d st => exact fun v σ' G' H' L' n r => h v σ' G' H' L' (m.trans n) r
  | bk st => exact fun σ' G' H' L' n r => h σ' G' H' L' (m.trans n) r
  | ct st => exact fun σ' G' H' L' n r => h σ' G' H' L' (m.trans n) r
  | ex c st => exact fun d σ' G' H' L' n r => h d σ' G' H' L' (m.trans n) r
  | bad => exact h
/-- an expression's exception, at a statement -/
def ofRs {α : Type} (r : Rs α) (k : α → S → Out) : Out := match r with
  | .ok a s => k a s
  | .ex c s => .ex c s
  | .bad => .bad
section
variable {X : Cx} {cls : Nat → Addr} {σ0 : Z} {W : WX} {s : Stmt} {rest : List Stmt} {e : Expr} {pos : Pos}
def dNx : S → Out := .nx
def dSeq (f g : S → Out) : S → Out := fun s => match f s with
  | .nx s1 => g s1
  | o => o
theorem iss_nil : ISs X cls σ0 W [] dNx := ⟨_, pss_nil, fun σ G H st L E r po => po σ G H L Mv.refl r⟩
theorem iss_one {f : S → Out} (h : IS X cls σ0 W s f) : ISs X cls σ0 W [s] f := by
  obtain ⟨t, p, q⟩ := h.ex
  exact ⟨_, pss_one p, q⟩
theorem iss_cons {f g : S → Out} (h : IS X cls σ0 W s f) (k : ISs X cls σ0 W rest g) : ISs X cls σ0 W (s :: rest) (dSeq f g) := by
  obtain ⟨t, p, q⟩ := h.ex
  obtain ⟨t2, p2, q2⟩ := k.ex
  refine ⟨_, pss_cons p p2, fun σ G H st L E r po => q σ G H st L _ r ?_⟩
  unfold dSeq at po
  cases ef : f st with
  | nx s1 =>
    rw [ef] at po
    exact fun σ' G' H' L' m r' => q2 σ' G' H' s1 L' E r' (PostO.shift m po)
  | rt d s1 => rw [ef] at po; exact po
  | bk s1 => rw [ef] at po; exact po
  | ct s1 => rw [ef] at po; exact po
  | ex c s1 => rw [ef] at po; exact po
  | bad => rw [ef] at po; exact po
theorem is_pass : IS X cls σ0 W (.Pass pos) dNx := ⟨_, ps_pass, fun σ G H st L E r po => po σ G H L Mv.refl r⟩
theorem is_break : IS X cls σ0 W (.Break pos) .bk := ⟨_, ps_break, fun σ G H st L E r po => po σ G H L Mv.refl r⟩
theorem is_cont : IS X cls σ0 W (.Continue pos) .ct := ⟨_, ps_continue, fun σ G H st L E r po => po σ G H L Mv.refl r⟩
def dIfS (c : S → Rs Bool) (f g : S → Out) : S → Out := fun s => ofRs (c s) fun b s1 => if b then f s1 else g s1
theorem is_if {c : Expr} {a b : List Stmt} {fc : S → Rs Bool} {fa fb : S → Out} (hc : IT false X cls σ0 W c fc) (ha : ISs X cls σ0 W a fa) (hb : ISs X cls σ0 W b fb) : IS X cls σ0 W (.If c a b pos) (dIfS fc fa fb) := by
  obtain ⟨t1, p1, q1⟩ := hc.ex
  obtain ⟨t2, p2, q2⟩ := ha.ex
  obtain ⟨t3, p3, q3⟩ := hb.ex
  refine ⟨_, ps_if p1 p2 p3, fun σ G H st L E r po => q1 σ G H st L _ r ?_⟩
  unfold dIfS at po
  cases ef : fc st with
  | bad => rw [ef] at po; exact po
  | ex c s1 => rw [ef] at po; exact fun d G' H' L' m r' => po d σ G' H' L' m r'
  | ok b s1 =>
    rw [ef] at po
    intro G' H' L' m r'
    cases b with
    | true => exact iteT (q2 σ G' H' s1 L' E r' (PostO.shift m po))
    | false => exact iteF (q3 σ G' H' s1 L' E r' (PostO.shift m po))
def dRet (f : S → Rs D) : S → Out := fun s => ofRs (f s) .rt
theorem is_ret {f : S → Rs D} (h : IV false X cls σ0 W e f) : IS X cls σ0 W (.Return (some e) pos) (dRet f) := by
  obtain ⟨t, p, q⟩ := h.ex
  refine ⟨_, ps_ret p, fun σ G H st L E r po => q σ G H st L _ r ?_⟩
  unfold dRet at po
  cases ef : f st with
  | bad => rw [ef] at po; exact po
  | ex c s1 => rw [ef] at po; exact fun d G' H' L' m r' => po d σ G' H' L' m r'
  | ok d s1 => rw [ef] at po; exact fun v G' H' L' m r' rp => po v σ G' H' L' m r' rp
def dExp (f : S → Rs SV) : S → Out := fun s => ofRs (f s) fun _ s1 => .nx s1
theorem is_expr {f : S → Rs SV} (h : IX false X cls σ0 W e f) (hs : swapsWith e none pos.line X.env = pure false := by rfl) : IS X cls σ0 W (.Expr e pos) (dExp f) := by
  obtain ⟨t, p, q⟩ := h.ex
  refine ⟨_, ps_expr p hs, fun σ G H st L E r po => q σ G H st L _ r ?_⟩
  unfold dExp at po
  cases ef : f st with
  | bad => rw [ef] at po; exact po
  | ex c s1 => rw [ef] at po; exact fun d G' H' L' m r' => po d σ G' H' L' m r'
  | ok d s1 => rw [ef] at po; exact fun v G' H' Lv L' m r' _ _ _ => po σ G' H' L' m r'
theorem is_raise {c : Nat} (h : PS X s (fun _ σ H => W (.ref (cls c)) none σ H)) : IS X cls σ0 W s (fun s => .ex c s) :=
  ⟨_, h, fun σ G H st L E r po => po none σ G H L Mv.refl r⟩

/-! ### targets -/
/-- a slot that is no protected parameter is set -/
def setF (i : Nat) (sv : SV) (st : S) : Option S := match st[i]? with
  | some ⟨false, _⟩ => some (st.set i ⟨false, some sv⟩)
  | _ => none
theorem R.put {C : Cy} {G H : Hp} {σ : St} {st st' : S} {L Lv : List Addr} {i : Nat} {sv : SV} {v : V} (r : R C σ0 G H σ st L) (ow : Ow C G H sv v Lv) (nd : (L ++ Lv).Nodup) (h : setF i sv st = some st') :
    ∃ L', R C σ0 G H (σ.set i (some v)) st' L' ∧ ∀ a ∈ L', a ∈ L ∨ a ∈ Lv := by
  unfold setF at h
  cases es : st[i]? with
  | none => rw [es] at h; cases h
  | some u =>
    obtain ⟨p, o⟩ := u
    cases p with
    | true => rw [es] at h; cases h
    | false =>
      rw [es] at h
      cases h
      obtain ⟨o1, A, Li, B, eo, rfl, _, back⟩ := r.ow.focus es
      have n1 := List.nodup_append.mp nd
      have n2 := List.nodup_append.mp n1.1
      have n3 := List.nodup_append.mp n2.2.1
      refine ⟨A ++ (Lv ++ B), ⟨r.gh, back G H (Same.refl _) (fun a ha => ⟨rfl, ?_⟩) ⟨false, some sv⟩ (some v) Lv ⟨v, rfl, ow⟩, ?_, fun j u hj hp => ?_, (R.flset (s' := ⟨false, some sv⟩) es rfl).trans r.fl⟩, fun a ha => ?_⟩
      · refine (r.ow.there a ?_).2
        rcases List.mem_append.mp ha with z | z
        · exact List.mem_append_left _ z
        · exact List.mem_append_right _ (List.mem_append_right _ z)
      · refine List.nodup_append.mpr ⟨n2.1, List.nodup_append.mpr ⟨n1.2.1, n3.2.1, fun a ha b hb z => ?_⟩, fun a ha b hb z => ?_⟩
        · subst z
          exact n1.2.2 a (List.mem_append_right _ (List.mem_append_right _ hb)) a ha rfl
        · subst z
          rcases List.mem_append.mp hb with y | y
          · exact n1.2.2 a (List.mem_append_left _ ha) a y rfl
          · exact n2.2.2 a ha a (List.mem_append_right _ y) rfl
      · by_cases z : i = j
        · subst z
          have hl : i < st.length := (List.getElem?_eq_some_iff.mp es).1
          rw [List.getElem?_set_self hl] at hj
          cases hj
          cases hp
        · rw [List.getElem?_set_ne z] at hj
          rw [List.getElem?_set_ne z]
          exact r.pr j u hj hp
      · rcases List.mem_append.mp ha with z | z
        · exact .inl (List.mem_append_left _ z)
        · rcases List.mem_append.mp z with z | z
          · exact .inr z
          · exact .inl (List.mem_append_right _ (List.mem_append_right _ z))
def PostG (C : Cy) (σ0 : Z) (W : WX) (L : List Addr) (G H : Hp) (Q : St → Hp → Prop) : Rs Unit → Prop
  | .ok _ st => ∀ σ' G' H' L', Mv false L G H G' H' L' → R C σ0 G' H' σ' st L' → Q σ' H'
  | .ex c st => ∀ d σ' G' H' L', Mv false L G H G' H' L' → R C σ0 G' H' σ' st L' → W (.ref (C.cls c)) d σ' H'
  | .bad => False
theorem PostG.shift {C : Cy} {σ0 : Z} {W : WX} {L L1 : List Addr} {G H G1 H1 : Hp} {Q : St → Hp → Prop} (m : Mv false L G H G1 H1 L1) {o : Rs Unit} (h : PostG C σ0 W L G H Q o) : PostG C σ0 W L1 G1 H1 Q o := by
  cases o with
  | ok _ st => exact fun σ' G' H' L' n r => h σ' G' H' L' (m.trans n) r
  | ex c st => exact fun d σ' G' H' L' n r => h d σ' G' H' L' (m.trans n) r
  | bad => exact h
structure IG (X : Cx) (cls : Nat → Addr) (σ0 : Z) (W : WX) (tg : Expr) (g : SV → S → Rs Unit) : Prop where
  ex : ∃ t, PG X tg t ∧ ∀ v sv σ G H st L Lv Q, R (cy X cls) σ0 G H σ st L → Ow (cy X cls) G H sv v Lv → (L ++ Lv).Nodup → PostG (cy X cls) σ0 W (L ++ Lv) G H Q (g sv st) → t v σ H Q
def setG (i : Nat) (sv : SV) (st : S) : Rs Unit := match setF i sv st with
  | some s => .ok () s
  | none => .bad
theorem Mv.sub {q : Bool} {L L' : List Addr} {G H : Hp} (h : ∀ a ∈ L', a ∈ L) : Mv q L G H G H L' := ⟨Same.refl _, fun _ _ h _ => h, fun _ _ _ => rfl, fun a ha => .inl (h a ha), fun _ _ _ _ _ h => h⟩
theorem ig_name {i : Nat} {tg : Expr} (h : PG X tg (gName i)) : IG X cls σ0 W tg (setG i) := by
  refine ⟨_, h, fun v sv σ G H st L Lv Q r ow nd po => ?_⟩
  unfold setG at po
  cases eg : setF i sv st with
  | none => rw [eg] at po; exact po.elim
  | some st' =>
    rw [eg] at po
    obtain ⟨L', r', hl⟩ := r.put ow nd eg
    exact po _ G H L' (Mv.sub fun a ha => List.mem_append.mpr (hl a ha)) r'
/-- a, b, .. = a tuple -/
structure IGs (X : Cx) (cls : Nat → Addr) (σ0 : Z) (W : WX) (tg : List Expr) (g : List D → S → Rs Unit) : Prop where
  ex : ∃ t, PGs X tg t ∧ ∀ vs ds σ G H st L Q, R (cy X cls) σ0 G H σ st L → RpL (cy X cls) G ds vs → PostG (cy X cls) σ0 W L G H Q (g ds st) → t vs σ H Q
def gsNil : List D → S → Rs Unit := fun ds s => match ds with
  | [] => .ok () s
  | _ => .bad
def gsCons (g : SV → S → Rs Unit) (gs : List D → S → Rs Unit) : List D → S → Rs Unit := fun ds s => match ds with
  | d :: r => (g (.im d) s).bind fun _ => gs r
  | [] => .bad
theorem igs_nil : IGs X cls σ0 W [] gsNil := by
  refine ⟨_, pgs_nil, fun vs ds σ G H st L Q r rp po => ?_⟩
  cases ds with
  | nil =>
    simp only [RpL] at rp
    exact ⟨rp, po σ G H L Mv.refl r⟩
  | cons d ds => exact po.elim
theorem igs_cons {tg : Expr} {tgs : List Expr} {g : SV → S → Rs Unit} {gs : List D → S → Rs Unit} (h : IG X cls σ0 W tg g) (hs : IGs X cls σ0 W tgs gs) (hz : (assignEach (tg :: tgs) X.env).map (·.2) = assign tg X.env :: (assignEach tgs X.env).map (·.2) := by rfl) :
    IGs X cls σ0 W (tg :: tgs) (gsCons g gs) := by
  obtain ⟨t1, p1, q1⟩ := h.ex
  obtain ⟨t2, p2, q2⟩ := hs.ex
  refine ⟨_, pgs_cons p1 p2 hz, fun vs ds σ G H st L Q r rp po => ?_⟩
  cases ds with
  | nil => exact po.elim
  | cons d ds =>
    simp only [RpL] at rp
    obtain ⟨x, xs, rfl, rx, rxs⟩ := rp
    simp only [gsCons] at po
    refine ⟨x, xs, rfl, q1 x (.im d) σ G H st L [] _ r (by simp only [Ow]; exact ⟨trivial, rx⟩) (by simpa using r.nd) ?_⟩
    rw [List.append_nil]
    cases e1 : g (.im d) st with
    | bad => rw [e1] at po; exact po
    | ex c s1 => rw [e1] at po; exact po
    | ok u s1 =>
      rw [e1] at po
      exact fun σ' G' H' L' m r' => q2 xs ds σ' G' H' s1 L' Q r' (rxs.mono m.gg) (PostG.shift m po)
def gTupF (n : Nat) (gs : List D → S → Rs Unit) : SV → S → Rs Unit := fun sv s => match sv with
  | .im (.tup ds) => if ds.length = n then gs ds s else .bad
  | _ => .bad
theorem ig_tup {tgs : List Expr} {k : Nat} {gs : List D → S → Rs Unit} {n : Nat} (hc : X.calm = true) (h : IGs X cls σ0 W tgs gs) (hn : (assignEach tgs X.env).length = n := by rfl) (hst : (assignEach tgs X.env).findIdx? (·.1) = none := by rfl) :
    IG X cls σ0 W (.Tuple tgs k pos) (gTupF n gs) := by
  obtain ⟨t, p, qh⟩ := h.ex
  refine ⟨_, pg_tup hc p hn hst, fun v sv σ G H st L Lv Q r ow nd po => ?_⟩
  cases sv with
  | im d =>
    cases d with
    | tup ds =>
      simp only [gTupF] at po
      split at po
      · rename_i el
        simp only [Ow, Rp] at ow
        obtain ⟨rfl, a, xs, rfl, ha, rp⟩ := ow
        rw [List.append_nil] at po
        exact ⟨a, xs, rfl, SqT.of (r.gh _ _ ha), rp.len.trans el, qh xs ds σ G H st L Q r rp po⟩
      · exact po.elim
    | _ => exact po.elim
  | _ => exact po.elim

/-- target = value -/
def dAsg (f : S → Rs SV) (g : SV → S → Rs Unit) : S → Out := fun s => ofRs (f s) fun sv s1 => ofRs (g sv s1) fun _ s2 => .nx s2
theorem asgR {f : S → Rs SV} {g : SV → S → Rs Unit} {te : TE} {t : TG} (q1 : ∀ σ G H st L Q, R (cy X cls) σ0 G H σ st L → PostV false (cy X cls) σ0 W σ L G H Q (f st) → te σ H Q)
    (q2 : ∀ v sv σ G H st L Lv Q, R (cy X cls) σ0 G H σ st L → Ow (cy X cls) G H sv v Lv → (L ++ Lv).Nodup → PostG (cy X cls) σ0 W (L ++ Lv) G H Q (g sv st) → t v σ H Q) :
    ∀ σ G H st L E, R (cy X cls) σ0 G H σ st L → PostO (cy X cls) σ0 W L G H E (dAsg f g st) → tAsg te t E σ H := by
  intro σ G H st L E r po
  refine q1 σ G H st L _ r ?_
  unfold dAsg at po
  cases ef : f st with
  | bad => rw [ef] at po; exact po
  | ex c s1 => rw [ef] at po; exact fun d G' H' L' m r' => po d σ G' H' L' m r'
  | ok sv s1 =>
    rw [ef] at po
    simp only [ofRs] at po
    intro v G' H' Lv L' m r' ow lv nd
    have m' : Mv false L G H G' H' (L' ++ Lv) := ⟨m.gg, m.hh, m.fr, fun a ha => (List.mem_append.mp ha).elim (m.ll a) (lv a), m.ob⟩
    refine q2 v sv σ G' H' s1 L' Lv _ r' ow nd ?_
    cases eg : g sv s1 with
    | bad => rw [eg] at po; exact po
    | ex c s2 => rw [eg] at po; exact PostO.shift (E := E) m' po
    | ok u s2 =>
      rw [eg] at po
      exact fun σ2 G2 H2 L2 m2 r2 => po σ2 G2 H2 L2 (m'.trans m2) r2
theorem is_asg {tg : Expr} {f : S → Rs SV} {g : SV → S → Rs Unit} (he : IX false X cls σ0 W e f) (hg : IG X cls σ0 W tg g) (hs : swapsWithSole [tg] e pos.line X.env = pure false := by rfl) (hw : swappedStores [tg] e X.env = pure none := by rfl)
    (h1 : (assignEach [tg] X.env).map (·.2) = [assign tg X.env] := by rfl) : IS X cls σ0 W (.Assign [tg] e pos) (dAsg f g) := by
  obtain ⟨t1, p1, q1⟩ := he.ex
  obtain ⟨t2, p2, q2⟩ := hg.ex
  exact ⟨_, ps_asg p1 p2 hs hw h1, asgR q1 q2⟩
theorem is_setS {i : Nat} {x : Str} {f : S → Rs SV} {te : TE} (h : PS X s (tAsg te (gName i))) (q1 : ∀ σ G H st L Q, R (cy X cls) σ0 G H σ st L → PostV false (cy X cls) σ0 W σ L G H Q (f st) → te σ H Q) : IS X cls σ0 W s (dAsg f (setG i)) := by
  refine ⟨_, h, asgR q1 fun v sv σ G H st L Lv Q r ow nd po => ?_⟩
  unfold setG at po
  cases eg : setF i sv st with
  | none => rw [eg] at po; exact po.elim
  | some st' =>
    rw [eg] at po
    obtain ⟨L', r', hl⟩ := r.put ow nd eg
    exact po _ G H L' (Mv.sub fun a ha => List.mem_append.mpr (hl a ha)) r'
theorem is_set {i : Nat} {x : Str} {pos' : Pos} {f : S → Rs SV} (he : IX false X cls σ0 W e f) (hN : X.N.Nodup) (hi : X.N[i]? = some x) (hx : Loc X.env.scope x) (hs : swapsWith e (some (.Name x pos')) pos.line X.env = pure false := by rfl)
    (hf : X.fn x = true ∨ X.env.scope.names.lookup x = some .local := by first | exact .inl rfl | exact .inr rfl | assumption) : IS X cls σ0 W (.Assign [.Name x pos'] e pos) (dAsg f (setG i)) := by
  obtain ⟨t1, p1, q1⟩ := he.ex
  exact is_setS (x := x) (ps_set hN hi hx p1 hs hf) q1

/-! ### what a loop walks -/
/-- J walks the data ds, wherever G stands -/
structure IsWalk (C : Cy) (G : Hp) (J : It) (ds : List D) : Prop where
  go : ∀ i H, Same G H → i < ds.length → J.go i H
  yl : ∀ i H x H', Same G H → i < ds.length → J.yld i H x H' → H' = H ∧ ∃ d, ds[i]? = some d ∧ Rp C G d x
  stop : ∀ H, Same G H → J.stop ds.length H
def PostI (q : Bool) (C : Cy) (σ0 : Z) (W : WX) (σ : St) (L : List Addr) (G H : Hp) (Q : It → Hp → Prop) : Rs (List D) → Prop
  | .ok ds st => ∀ J G' H' L', Mv q L G H G' H' L' → R C σ0 G' H' σ st L' → IsWalk C G' J ds → Q J H'
  | .ex c st => ∀ d G' H' L', Mv q L G H G' H' L' → R C σ0 G' H' σ st L' → W (.ref (C.cls c)) d σ H'
  | .bad => False
structure II (q : Bool) (X : Cx) (cls : Nat → Addr) (σ0 : Z) (W : WX) (tg e : Expr) (f : S → Rs (List D)) : Prop where
  ex : ∃ wi, PI X tg e wi ∧ ∀ σ G H st L Q, R (cy X cls) σ0 G H σ st L → PostI q (cy X cls) σ0 W σ L G H Q (f st) → wi σ H Q
theorem IsWalk.mono {C : Cy} {G G' : Hp} {J : It} {ds : List D} (e : Same G G') (w : IsWalk C G J ds) : IsWalk C G' J ds :=
  ⟨fun i H h => w.go i H (e.trans h), fun i H x H' h k y => by
    obtain ⟨h1, d, h2, h3⟩ := w.yl i H x H' (e.trans h) k y
    exact ⟨h1, d, h2, h3.mono e⟩, fun H h => w.stop H (e.trans h)⟩
def dItL (f : S → Rs D) : S → Rs (List D) := fun s => (f s).bind fun d s1 => match d with
  | .lst ds => .ok ds s1
  | .scr ns => .ok (ns.map .int) s1
  | _ => .bad
theorem walk_lst {C : Cy} {G : Hp} {a : Addr} {xs : List V} {ds : List D} (h : SqL C.K G a xs) (r : RpL C G ds xs) : IsWalk C G (Itl C.K a) ds := by
  refine ⟨fun i H e hi => ?_, fun i H x H' e hi y => ?_, fun H e => ⟨xs, e.seq h, by rw [r.len]; exact Nat.le_refl _⟩⟩
  · have hx : i < xs.length := by rw [r.len]; exact hi
    exact ⟨xs, xs[i], e.seq h, List.getElem?_eq_getElem hx⟩
  · obtain ⟨e1, y⟩ := y
    exact ⟨e1, r.getV (y xs (e.seq h))⟩
theorem walk_tup {C : Cy} {G : Hp} {a : Addr} {xs : List V} {ds : List D} (h : G a = some (.tup xs)) (r : RpL C G ds xs) : IsWalk C G (Itt C.K a) ds := by
  refine ⟨fun i H e hi => ?_, fun i H x H' e hi y => ?_, fun H e => ⟨xs, SqT.of (e _ _ h), by rw [r.len]; exact Nat.le_refl _⟩⟩
  · have hx : i < xs.length := by rw [r.len]; exact hi
    exact ⟨xs, xs[i], SqT.of (e _ _ h), List.getElem?_eq_getElem hx⟩
  · obtain ⟨e1, y⟩ := y
    exact ⟨e1, r.getV (y xs (SqT.of (e _ _ h)))⟩
theorem RpL.ints {C : Cy} {G : Hp} : ∀ ns : List Int, RpL C G (ns.map .int) (ns.map V.int)
  | [] => by simp [RpL]
  | n :: ns => by simp only [List.map_cons, RpL, Rp]; exact ⟨_, _, rfl, rfl, RpL.ints ns⟩
theorem ii_list {q : Bool} {tg : Expr} {f : S → Rs D} (h : IV q X cls σ0 W e f) : II q X cls σ0 W tg e (dItL f) := by
  obtain ⟨t, p, qh⟩ := h.ex
  refine ⟨_, pi_list p, fun σ G H st L Q r po => qh σ G H st L _ r ?_⟩
  unfold dItL at po
  cases ef : f st with
  | bad => rw [ef] at po; exact po
  | ex c s1 => rw [ef] at po; exact po
  | ok d s1 =>
    rw [ef] at po
    intro v G' H' L' m r' rp
    cases d with
    | lst ds =>
      simp only [Rp] at rp
      obtain ⟨a, xs, rfl, ha, rp⟩ := rp
      exact ⟨a, rfl, ⟨xs, SqL.of (r'.gh _ _ ha)⟩, po _ G' H' L' m r' (walk_lst (C := cy X cls) (SqL.of ha) rp)⟩
    | scr ns =>
      simp only [Rp] at rp
      obtain ⟨a, rfl, ha⟩ := rp
      exact ⟨a, rfl, ⟨_, r'.gh.seq ha⟩, po _ G' H' L' m r' (walk_lst (C := cy X cls) ha (RpL.ints ns))⟩
    | _ => exact po.elim
def dItT (f : S → Rs D) : S → Rs (List D) := fun s => (f s).bind fun d s1 => match d with
  | .tup ds => .ok ds s1
  | _ => .bad
theorem ii_tup {q : Bool} {tg : Expr} {f : S → Rs D} (h : IV q X cls σ0 W e f) : II q X cls σ0 W tg e (dItT f) := by
  obtain ⟨t, p, qh⟩ := h.ex
  refine ⟨_, pi_tup p, fun σ G H st L Q r po => qh σ G H st L _ r ?_⟩
  unfold dItT at po
  cases ef : f st with
  | bad => rw [ef] at po; exact po
  | ex c s1 => rw [ef] at po; exact po
  | ok d s1 =>
    rw [ef] at po
    intro v G' H' L' m r' rp
    cases d with
    | tup ds =>
      simp only [Rp] at rp
      obtain ⟨a, xs, rfl, ha, rp⟩ := rp
      exact ⟨a, rfl, ⟨xs, SqT.of (r'.gh _ _ ha)⟩, po _ G' H' L' m r' (walk_tup (C := cy X cls) ha rp)⟩
    | _ => exact po.elim

/-! ### for -/
def forL (g : SV → S → Rs Unit) (body : S → Out) : List D → S → Out
  | [], s => .nx s
  | d :: ds, s => ofRs (g (.im d) s) fun _ s1 => match body s1 with
      | .nx s2 => forL g body ds s2
      | .ct s2 => forL g body ds s2
      | .bk s2 => .nx s2
      | o => o
def dFor (it : S → Rs (List D)) (g : SV → S → Rs Unit) (body : S → Out) : S → Out := fun s => ofRs (it s) (forL g body)
theorem is_for {tg iter : Expr} {body : List Stmt} {it : S → Rs (List D)} {g : SV → S → Rs Unit} {f : S → Out} (hp : PassesOwn (model X.prog X.w) X.A X.env X.xe) (hc : X.calm = true) (hi : II false X cls σ0 W tg iter it) (hg : IG X cls σ0 W tg g) (hb : ISs X cls σ0 W body f)
    (hs : ∀ x, foldedSetIterable iter X.env x = pure x := by intro _; rfl) : IS X cls σ0 W (.For tg iter body [] pos) (dFor it g f) := by
  obtain ⟨t1, p1, q1⟩ := hi.ex
  obtain ⟨t2, p2, q2⟩ := hg.ex
  obtain ⟨t3, p3, q3⟩ := hb.ex
  refine ⟨_, ps_for hp hc p1 p2 p3 hs, fun σ G H st L E r po => q1 σ G H st L _ r ?_⟩
  unfold dFor at po
  cases ef : it st with
  | bad => rw [ef] at po; exact po
  | ex c s1 => rw [ef] at po; exact fun d G' H' L' m r' => po d σ G' H' L' m r'
  | ok ds s1 =>
    rw [ef] at po
    simp only [ofRs] at po
    intro J G0 H0 L0 m0 r0 w0
    let Inv1 : Nat → Nat → St → Hp → Prop := fun i m σ1 H1 => m = ds.length - i ∧ i ≤ ds.length ∧ ∃ G1 L1 st1, Same G0 G1 ∧ Mv false L G H G1 H1 L1 ∧ R (cy X cls) σ0 G1 H1 σ1 st1 L1 ∧ PostO (cy X cls) σ0 W L G H E (forL g f (ds.drop i) st1)
    refine ⟨Inv1, ⟨ds.length, by simp, Nat.zero_le _, G0, L0, s1, Same.refl _, m0, r0, po⟩, ?_⟩
    rintro i m σ1 H1 ⟨rfl, hi1, G1, L1, st1, e1, m1, r1, po1⟩
    have wk := w0.mono e1
    by_cases hlt : i < ds.length
    · refine .inr ⟨wk.go i H1 r1.gh hlt, fun σ' H' => Inv1 (i + 1) (ds.length - (i + 1)) σ' H', fun σ' H' h => ⟨ds.length - (i + 1), by omega, h⟩, fun x H' y => ?_⟩
      obtain ⟨rfl, d, ed, rp⟩ := wk.yl i H1 x H' r1.gh hlt y
      have edrop : ds.drop i = d :: ds.drop (i + 1) := by
        rw [List.drop_eq_getElem_cons hlt]
        rw [List.getElem?_eq_getElem hlt] at ed
        rw [Option.some.inj ed]
      rw [edrop] at po1
      simp only [forL] at po1
      refine q2 x (.im d) σ1 G1 _ st1 L1 [] _ r1 (by simp only [Ow]; exact ⟨trivial, rp⟩) (by simpa using r1.nd) ?_
      rw [List.append_nil]
      cases eg : g (.im d) st1 with
      | bad => rw [eg] at po1; exact po1
      | ex c s2 => rw [eg] at po1; exact PostO.shift (E := E) m1 po1
      | ok u st2 =>
        rw [eg] at po1
        simp only [ofRs] at po1
        intro σ2 G2 H2 L2 m2' r2
        have m2 := m1.trans m2'
        have e2 := e1.trans m2'.gg
        refine q3 σ2 G2 _ st2 L2 _ r2 ?_
        cases eb : f st2 with
        | bad => rw [eb] at po1; exact po1
        | nx s3 =>
          rw [eb] at po1
          exact fun σ' G' H' L' m' r' => ⟨rfl, hlt, G', L', s3, e2.trans m'.gg, m2.trans m', r', po1⟩
        | ct s3 =>
          rw [eb] at po1
          exact fun σ' G' H' L' m' r' => ⟨rfl, hlt, G', L', s3, e2.trans m'.gg, m2.trans m', r', po1⟩
        | bk s3 =>
          rw [eb] at po1
          exact fun σ' G' H' L' m' r' => po1 σ' G' H' L' (m2.trans m') r'
        | rt d s3 =>
          rw [eb] at po1
          exact PostO.shift (E := E) m2 po1
        | ex c s3 =>
          rw [eb] at po1
          exact PostO.shift (E := E) m2 po1
    · have ei : i = ds.length := by omega
      subst ei
      rw [List.drop_length] at po1
      exact .inl ⟨wk.stop H1 r1.gh, po1 σ1 G1 H1 L1 m1 r1⟩

/-! ### while -/
def whileL (c : S → Rs Bool) (body : S → Out) : Nat → S → Out
  | 0, _ => .bad
  | n + 1, s => ofRs (c s) fun b s1 => if b then match body s1 with
      | .nx s2 => whileL c body n s2
      | .ct s2 => whileL c body n s2
      | .bk s2 => .nx s2
      | o => o
    else .nx s1
theorem is_while {n : Nat} {c : Expr} {body : List Stmt} {fc : S → Rs Bool} {f : S → Out} (hp : PassesOwn (model X.prog X.w) X.A X.env X.xe) (hc : IT false X cls σ0 W c fc) (hb : ISs X cls σ0 W body f) : IS X cls σ0 W (.While c body [] pos) (whileL fc f n) := by
  obtain ⟨t1, p1, q1⟩ := hc.ex
  obtain ⟨t2, p2, q2⟩ := hb.ex
  refine ⟨_, ps_while hp p1 p2, fun σ G H st L E r po => ?_⟩
  refine ⟨fun m σ1 H1 => ∃ G1 L1 st1, Mv false L G H G1 H1 L1 ∧ R (cy X cls) σ0 G1 H1 σ1 st1 L1 ∧ PostO (cy X cls) σ0 W L G H E (whileL fc f m st1), ⟨n, G, L, st, Mv.refl, r, po⟩, ?_⟩
  rintro m σ1 H1 ⟨G1, L1, st1, m1, r1, po1⟩
  cases m with
  | zero => exact po1.elim
  | succ m =>
    refine q1 σ1 G1 H1 st1 L1 _ r1 ?_
    simp only [whileL] at po1
    cases ec : fc st1 with
    | bad => rw [ec] at po1; exact po1
    | ex c s => rw [ec] at po1; exact fun d G' H' L' m' r' => po1 d σ1 G' H' L' (m1.trans m') r'
    | ok b s =>
      rw [ec] at po1
      simp only [ofRs] at po1
      intro G2 H2 L2 m2 r2
      have m12 := m1.trans m2
      cases b with
      | false => exact iteF (po1 σ1 G2 H2 L2 m12 r2)
      | true =>
        simp only [if_true] at po1
        refine iteT ⟨fun σ' H' => ∃ G1 L1 st1, Mv false L G H G1 H' L1 ∧ R (cy X cls) σ0 G1 H' σ' st1 L1 ∧ PostO (cy X cls) σ0 W L G H E (whileL fc f m st1), fun σ' H' h => ⟨m, Nat.lt_succ_self m, h⟩, q2 σ1 G2 H2 s L2 _ r2 ?_⟩
        cases eb : f s with
        | bad => rw [eb] at po1; exact po1
        | nx s3 =>
          rw [eb] at po1
          exact fun σ' G' H' L' m' r' => ⟨G', L', s3, m12.trans m', r', po1⟩
        | ct s3 =>
          rw [eb] at po1
          exact fun σ' G' H' L' m' r' => ⟨G', L', s3, m12.trans m', r', po1⟩
        | bk s3 =>
          rw [eb] at po1
          exact fun σ' G' H' L' m' r' => po1 σ' G' H' L' (m12.trans m') r'
        | rt d s3 => rw [eb] at po1; exact PostO.shift (E := E) m12 po1
        | ex c s3 => rw [eb] at po1; exact PostO.shift (E := E) m12 po1
end
end DV
namespace DV
open PySem L2

/-! ### defs as functions -/
inductive FR where
  | ret (d : D) (os : List (Option SV)) | ex (c : Nat) (os : List (Option SV)) | bad
abbrev Fn := List SV → FR
def OwLo (C : Cy) (G H : Hp) : List (Option SV) → List V → List Addr → Prop
  | [], xs, L => xs = [] ∧ L = []
  | o :: os, xs, L => ∃ x r L1 L2, xs = x :: r ∧ L = L1 ++ L2 ∧ OwO C G H o (some x) L1 ∧ OwLo C G H os r L2
def PostF (C : Cy) (L : List Addr) (G H : Hp) (vs : List V) (Q : VK) (E : XK) : FR → Prop
  | .ret d os => ∀ v G' H' L', Mv false L G H G' H' L' → Same G' H' → OwLo C G' H' os vs L' → L'.Nodup → Rp C G' d v → Q v H'
  | .ex c os => ∀ dx G' H' L', Mv false L G H G' H' L' → Same G' H' → OwLo C G' H' os vs L' → L'.Nodup → E (.ref (C.cls c)) dx H'
  | .bad => False
def spF (C : Cy) (np : Nat) (F : Fn) : Sp := fun vs H Q E => vs.length = np ∧ ∃ G as L, Same G H ∧ OwL C G H as vs L ∧ L.Nodup ∧ PostF C L G H vs Q E (F as)

def mkSl (fl : List Bool) (as : List SV) : S := (fl.zip as).map fun p => if p.1 then ⟨false, some (.im (frz p.2))⟩ else ⟨true, some p.2⟩
def outs : List Bool → List SV → S → List (Option SV)
  | f :: fl, a :: as, s :: st => (if f then some (.im (frz a)) else s.v) :: outs fl as st
  | _, _, _ => []
/-- a def: fl tells the parameters that its body gives other values; n names in all -/
def dDef (fl : List Bool) (n : Nat) (body : S → Out) : Fn := fun as =>
  if as.length = fl.length then
    match body (mkSl fl as ++ List.replicate (n - fl.length) ⟨false, none⟩) with
    | .nx st => .ret .non (outs fl as st)
    | .rt d st => .ret d (outs fl as st)
    | .ex c st => .ex c (outs fl as st)
    | _ => .bad
  else .bad

/-- arguments that the body may give other values: frozen at the entry -/
theorem enter {C : Cy} : ∀ {fl : List Bool} {as : List SV} {vs : List V} {L : List Addr} {G H : Hp}, Same G H → OwL C G H as vs L → L.Nodup → as.length = fl.length →
    ∃ G' L', Mv false L G H G' H L' ∧ Same G' H ∧ L'.Nodup ∧ OwS C G' H (mkSl fl as) (vs.map some) L' ∧ OwLo C G' H (List.zipWith (fun f a => if f = true then some (SV.im (frz a)) else none) fl as) vs []
  | [], [], vs, L, G, H, gh, ow, nd, hl => by
    simp only [OwL] at ow
    obtain ⟨rfl, rfl⟩ := ow
    exact ⟨G, [], Mv.refl, gh, List.nodup_nil, rfl, rfl, rfl⟩
  | [], a :: as, vs, L, G, H, gh, ow, nd, hl => by simp at hl
  | f :: fl, [], vs, L, G, H, gh, ow, nd, hl => by simp at hl
  | f :: fl, a :: as, vs, L, G, H, gh, ow, nd, hl => by
    simp only [OwL] at ow
    obtain ⟨x, r, L1, L2, rfl, rfl, h1, h2⟩ := ow
    have n := List.nodup_append.mp nd
    obtain ⟨G', L', m, gh', nd', os, oo⟩ := enter (fl := fl) (as := as) gh h2 n.2.1 (by simpa using hl)
    have k1 : ∀ b ∈ L1, H b = H b ∧ G' b = none := fun b hb => m.keep (h1.there b hb) fun z => n.2.2 b hb b z rfl
    have h1' := h1.frame m.gg k1
    cases f with
    | false =>
      refine ⟨G', L1 ++ L', ⟨m.gg, fun b o h _ => h, fun b hb hk => m.fr b hb fun z => hk (List.mem_append_right _ z), fun b hb => ?_, fun z => by cases z⟩, gh', List.nodup_append.mpr ⟨n.1, nd', fun b hb c hc z => ?_⟩, ⟨L1, L', rfl, ⟨x, rfl, h1'⟩, os⟩, ⟨x, r, [], [], rfl, rfl, rfl, oo⟩⟩
      · rcases List.mem_append.mp hb with z | z
        · exact .inl (List.mem_append_left _ z)
        · rcases m.ll b z with z | z
          · exact .inl (List.mem_append_right _ z)
          · exact .inr z
      · subst z
        rcases m.ll b hc with z | z
        · exact n.2.2 b hb b z rfl
        · exact (h1.there b hb).1 z
    | true =>
      have gg := addG_up (L := L1) gh'
      have dn := addG_dn (L := L1) gh'
      have rp := h1'.frz gh'
      have dis : ∀ b ∈ L', b ∉ L1 := fun b hb z => by
        rcases m.ll b hb with y | y
        · exact n.2.2 b z b y rfl
        · exact (h1.there b z).1 y
      refine ⟨addG G' H L1, L', ⟨m.gg.trans gg, fun b o h _ => h, fun b hb hk => ?_, fun b hb => ?_, fun z => by cases z⟩, dn, nd', ⟨[], L', rfl, ⟨x, rfl, by simp only [Ow]; exact ⟨trivial, rp⟩⟩, os.frame gg fun b hb => ⟨rfl, by rw [addG_out (dis b hb)]; exact (os.there b hb).2⟩⟩, ⟨x, r, [], [], rfl, rfl, ⟨x, rfl, by simp only [Ow]; exact ⟨trivial, rp⟩⟩, ?_⟩⟩
      · rw [addG_out fun z => hk (List.mem_append_left _ z)]
        exact m.fr b hb fun z => hk (List.mem_append_right _ z)
      · rcases m.ll b hb with z | z
        · exact .inl (List.mem_append_right _ z)
        · exact .inr z
      · have fr : ∀ (os : List (Option SV)) (ws : List V), OwLo C G' H os ws [] → OwLo C (addG G' H L1) H os ws [] := by
          intro os
          induction os with
          | nil => intro ws h; exact h
          | cons o os ih =>
            intro ws h
            obtain ⟨y, rr, A, B, e1, e2, h3, h4⟩ := h
            obtain ⟨rfl, rfl⟩ : A = [] ∧ B = [] := by simpa using e2.symm
            exact ⟨y, rr, [], [], e1, rfl, h3.frame gg (fun b hb => by simp at hb), ih rr h4⟩
        exact fr _ _ oo

theorem OwLo.len {C : Cy} {G H : Hp} : ∀ {os : List (Option SV)} {vs : List V} {L : List Addr}, OwLo C G H os vs L → vs.length = os.length
  | [], vs, L, h => by rw [h.1]; rfl
  | o :: os, vs, L, h => by
    obtain ⟨x, r, L1, L2, rfl, rfl, h1, h2⟩ := h
    simp [OwLo.len h2]
theorem mkSl_len {fl : List Bool} {as : List SV} (h : as.length = fl.length) : (mkSl fl as).length = fl.length := by
  unfold mkSl
  rw [List.length_map, List.length_zip, h, Nat.min_self]
/-- at the def's end: what the arguments are -/
theorem leave {C : Cy} : ∀ {fl : List Bool} {as : List SV} {vs : List V} {st : S} {σ τ : St} {L : List Addr} {G0 G H H0 : Hp}, Same G0 G → as.length = fl.length → vs.length = fl.length → fl.length ≤ st.length → OwS C G H st σ L → L.Nodup →
    (∀ (i : Nat), (fl[i]? = some false) → σ[i]? = (vs.map some)[i]?) → OwLo C G0 H0 (List.zipWith (fun f a => if f = true then some (SV.im (frz a)) else none) fl as) vs [] →
    ∃ L', OwLo C G H (outs fl as st) vs L' ∧ L'.Nodup ∧ ∀ a ∈ L', a ∈ L
  | [], [], [], st, σ, τ, L, G0, G, H, H0, e, h1, h2, h3, ow, nd, pr, oo => ⟨[], by cases st <;> exact ⟨rfl, rfl⟩, List.nodup_nil, fun a h => by simp at h⟩
  | [], _ :: _, _, st, σ, τ, L, G0, G, H, H0, e, h1, h2, h3, ow, nd, pr, oo => by simp at h1
  | [], [], _ :: _, st, σ, τ, L, G0, G, H, H0, e, h1, h2, h3, ow, nd, pr, oo => by simp at h2
  | _ :: _, [], _, st, σ, τ, L, G0, G, H, H0, e, h1, h2, h3, ow, nd, pr, oo => by simp at h1
  | _ :: _, _ :: _, [], st, σ, τ, L, G0, G, H, H0, e, h1, h2, h3, ow, nd, pr, oo => by simp at h2
  | _ :: _, _ :: _, _ :: _, [], σ, τ, L, G0, G, H, H0, e, h1, h2, h3, ow, nd, pr, oo => by simp at h3
  | _ :: _, _ :: _, _ :: _, _ :: _, [], τ, L, G0, G, H, H0, e, h1, h2, h3, ow, nd, pr, oo => ow.elim
  | f :: fl, a :: as, v :: vs, s :: st, o :: σ, τ, L, G0, G, H, H0, e, h1, h2, h3, ow, nd, pr, oo => by
    obtain ⟨L1, L2, rfl, ow1, ow2⟩ := ow
    have n := List.nodup_append.mp nd
    obtain ⟨y, r, A, B, e1, e2, oo1, oo2⟩ := oo
    obtain ⟨rfl, rfl⟩ := List.cons_eq_cons.mp e1
    obtain ⟨rfl, rfl⟩ : A = [] ∧ B = [] := by simpa using e2.symm
    obtain ⟨L', ol, nd', hl⟩ := leave (τ := τ) (fl := fl) (as := as) (vs := vs) (st := st) (σ := σ) (L := L2) e (by simpa using h1) (by simpa using h2) (by simpa using h3) ow2 n.2.1 (fun i hi => by simpa using pr (i + 1) (by simpa using hi)) oo2
    cases f with
    | true =>
      obtain ⟨w, e3, oo1⟩ := oo1
      cases e3
      simp only [Ow] at oo1
      refine ⟨L', ⟨v, vs, [], L', rfl, rfl, ⟨v, rfl, by simp only [Ow]; exact ⟨trivial, oo1.2.mono e⟩⟩, ol⟩, nd', fun a ha => List.mem_append_right _ (hl a ha)⟩
    | false =>
      have eo := pr 0 rfl
      simp at eo
      subst eo
      refine ⟨L1 ++ L', ⟨v, vs, L1, L', rfl, rfl, ow1, ol⟩, List.nodup_append.mpr ⟨n.1, nd', fun a ha b hb => n.2.2 a ha b (hl b hb)⟩, fun a ha => ?_⟩
      rcases List.mem_append.mp ha with z | z
      · exact List.mem_append_left _ z
      · exact List.mem_append_right _ (hl a z)

section
variable {P : Program} {w : World} {K : PySem.W.Frag} {mg : Str → Option Value} {base : Heap} {cls : Nat → Addr}
theorem OwS.app {C : Cy} {G H : Hp} : ∀ {st : S} {σ : St} {L : List Addr} {n : Nat}, OwS C G H st σ L → OwS C G H (st ++ List.replicate n ⟨false, none⟩) (σ ++ List.replicate n none) L
  | [], [], L, 0, h => h
  | [], [], L, n + 1, h => by
    have h' : L = [] := h
    subst h'
    exact ⟨[], [], rfl, rfl, OwS.app (st := []) (σ := []) (n := n) rfl⟩
  | [], _ :: _, L, n, h => h.elim
  | _ :: _, [], L, n, h => h.elim
  | s :: ss, o :: os, L, n, h => by
    obtain ⟨L1, L2, rfl, h1, h2⟩ := h
    exact ⟨L1, L2, rfl, h1, OwS.app h2⟩
theorem mkSl_pr {fl : List Bool} {as : List SV} (h : as.length = fl.length) {i : Nat} {s : Sl} (hs : (mkSl fl as)[i]? = some s) : (s.pr = true ↔ fl[i]? = some false) := by
  unfold mkSl at hs
  rw [List.getElem?_map] at hs
  cases e : (fl.zip as)[i]? with
  | none => rw [e] at hs; cases hs
  | some p =>
    rw [e] at hs
    simp only [Option.map_some, Option.some.injEq] at hs
    have e1 := (List.getElem?_zip_eq_some.mp e).1
    rw [e1]
    obtain ⟨f, a⟩ := p
    cases f <;> subst hs <;> simp
/-- A DEF KEEPS ITS PROMISE: from its body -/
theorem fn_mk {x qual : Str} {st : Stmt} {f : Addr} {fd : FuncData} {N ps : List Str} {k : Nat} {fl : List Bool} {body : S → Out} (F : Fun K x qual st f fd) (sc : FnScope N ps (defScope st)) (hf : fl.length = ps.length) (hn : ps.length ≤ N.length)
    (hb : ∀ (cdv : Value) (A : Around) (outer : List Env) (s : Shared) (H : Hp) (E : XK) (σ0 : Z), Room k (A.deeper (PyProof.Rows.envOfC qual (defScope st) s.heap.objs.size f cdv)) →
      ISs (cxOf (L2.CX P w) P w K mg base N qual (defScope st) f cdv A outer s H E) cls σ0 (fun c d _ H => E c d H) (defBody st) body) :
    FnOk P w K mg base (L2.CX P w) (k + 1) f fd ps (spF ⟨K, cls⟩ ps.length (dDef fl N.length body)) := by
  refine F.okX sc (fun vs H Q E h => h.1) (fun cdv A outer s H vs Q E hr h => ?_)
  obtain ⟨hl, G, as, L, gh, ow, nd, po⟩ := h
  have hal : as.length = fl.length := by rw [← ow.len, hl, hf]
  obtain ⟨G', L', m, gh', nd', os, oo⟩ := enter (fl := fl) gh ow nd hal
  have os2 := os.app (n := N.length - fl.length)
  have es : vs.map some ++ List.replicate (N.length - fl.length) none = L2.start N vs := by
    unfold L2.start
    rw [hl, hf]
  rw [es] at os2
  let σ0 : Z := ⟨L2.start N vs, (mkSl fl as ++ List.replicate (N.length - fl.length) (⟨false, none⟩ : Sl)).map (fun s => s.pr)⟩
  obtain ⟨t, p, qh⟩ := (hb cdv A outer s H E σ0 hr).ex
  refine ⟨t, p, qh (L2.start N vs) G' H _ L' _ ⟨gh', os2, nd', fun _ _ _ _ => rfl, rfl⟩ ?_⟩
  unfold dDef at po
  rw [if_pos hal] at po
  have fin : ∀ (d : D) (st1 : S) (σ' : St) (G2 H2 : Hp) (L2 : List Addr), Mv false L' G' H G2 H2 L2 → R (⟨K, cls⟩ : Cy) σ0 G2 H2 σ' st1 L2 → ∃ L3, OwLo (⟨K, cls⟩ : Cy) G2 H2 (outs fl as st1) vs L3 ∧ L3.Nodup ∧ Mv false L G H G2 H2 L3 := by
    intro d st1 σ' G2 H2 L2 m2 r2
    have hlen : st1.length = N.length := by
      have e := congrArg List.length r2.fl
      simp only [σ0, List.length_map, List.length_append, List.length_replicate, mkSl_len hal] at e
      rw [hf] at e
      omega
    have side : ∀ i : Nat, fl[i]? = some false → σ'[i]? = (vs.map some)[i]? := fun i hi => ?_
    · obtain ⟨L3, ol, nd3, hl3⟩ := leave (C := ⟨K, cls⟩) (τ := []) (fl := fl) (as := as) (vs := vs) (st := st1) m2.gg hal (by rw [hl, hf]) (by rw [hlen, hf]; exact hn) r2.ow r2.nd side oo
      exact ⟨L3, ol, nd3, ⟨m.gg.trans m2.gg, (m.trans m2).hh, (m.trans m2).fr, fun a ha => (m.trans m2).ll a (hl3 a ha), fun z => by cases z⟩⟩
    · have hi1 : i < fl.length := (List.getElem?_eq_some_iff.mp hi).1
      have hi2 : i < st1.length := by rw [hlen]; omega
      have e1 : (st1.map (·.pr))[i]? = some true := by
        rw [r2.fl]
        simp only [σ0]
        rw [List.map_append, List.getElem?_append_left (by rw [List.length_map, mkSl_len hal]; exact hi1)]
        have hi3 : i < (mkSl fl as).length := by rw [mkSl_len hal]; exact hi1
        rw [List.getElem?_map, List.getElem?_eq_getElem hi3]
        have := (mkSl_pr hal (List.getElem?_eq_getElem hi3)).mpr hi
        simp [this]
      rw [List.getElem?_map, List.getElem?_eq_getElem hi2] at e1
      have e2 := r2.pr i _ (List.getElem?_eq_getElem hi2) (by simpa using e1)
      rw [e2]
      simp only [σ0]
      rw [← es, List.getElem?_append_left (by rw [List.length_map, hl]; omega)]
  cases eb : body (mkSl fl as ++ List.replicate (N.length - fl.length) ⟨false, none⟩) with
  | bad => rw [eb] at po; exact po
  | bk s1 => rw [eb] at po; exact po.elim
  | ct s1 => rw [eb] at po; exact po.elim
  | nx s1 =>
    rw [eb] at po
    intro σ' G2 H2 L2 m2 r2
    obtain ⟨L3, ol, nd3, m3⟩ := fin .non s1 σ' G2 H2 L2 m2 r2
    exact po .non G2 H2 L3 m3 r2.gh ol nd3 (by simp [Rp])
  | rt d s1 =>
    rw [eb] at po
    intro v σ' G2 H2 L2 m2 r2 rp
    obtain ⟨L3, ol, nd3, m3⟩ := fin .non s1 σ' G2 H2 L2 m2 r2
    exact po v G2 H2 L3 m3 r2.gh ol nd3 rp
  | ex c s1 =>
    rw [eb] at po
    intro dx σ' G2 H2 L2 m2 r2
    obtain ⟨L3, ol, nd3, m3⟩ := fin .non s1 σ' G2 H2 L2 m2 r2
    exact po dx G2 H2 L3 m3 r2.gh ol nd3
end
end DV
namespace DV
open PySem L2

/-! ### arguments: data, or a slot whose owned thing is handed on -/
inductive Arg where
  | e (f : S → Rs SV) | v (i : Nat)
def evArgs : List Arg → S → Rs (List (SV × Option Nat))
  | [], s => .ok [] s
  | .e f :: r, s => (f s).bind fun sv s1 => (evArgs r s1).bind fun ps s2 => .ok ((sv, none) :: ps) s2
  | .v i :: r, s => match s[i]? with
    | some ⟨_, some (.im d)⟩ => (evArgs r s).bind fun ps s2 => .ok ((.im d, none) :: ps) s2
    | some ⟨p, some sv⟩ => (evArgs r (s.set i ⟨p, none⟩)).bind fun ps s2 => .ok ((sv, some i) :: ps) s2
    | _ => .bad
def PostA (q : Bool) (C : Cy) (σ0 : Z) (W : WX) (σ : St) (L : List Addr) (G H : Hp) (Q : List V → Hp → Prop) : Rs (List (SV × Option Nat)) → Prop
  | .ok ps st => ∀ vs G' H' La L', Mv q L G H G' H' L' → R C σ0 G' H' σ st L' → OwL C G' H' (ps.map (·.1)) vs La → (∀ a ∈ La, a ∈ L ∨ H a = none) → (L' ++ La).Nodup →
      (∀ (j i : Nat) (sv : SV), ps[j]? = some (sv, some i) → ∃ v, vs[j]? = some v ∧ σ[i]? = some (some v)) → Q vs H'
  | .ex c st => ∀ d G' H' L', Mv q L G H G' H' L' → R C σ0 G' H' σ st L' → W (.ref (C.cls c)) d σ H'
  | .bad => False
structure IA (q : Bool) (X : Cx) (cls : Nat → Addr) (σ0 : Z) (W : WX) (es : List Expr) (as : List Arg) : Prop where
  ex : ∃ t, PA X es t ∧ ∀ σ G H st L Q, R (cy X cls) σ0 G H σ st L → PostA q (cy X cls) σ0 W σ L G H Q (evArgs as st) → t σ H Q
theorem PostA.shift {q : Bool} {C : Cy} {σ0 : Z} {W : WX} {σ : St} {L L1 : List Addr} {G H G1 H1 : Hp} {Q : List V → Hp → Prop} (m : Mv q L G H G1 H1 L1) {r : Rs (List (SV × Option Nat))} (h : PostA q C σ0 W σ L G H Q r) : PostA q C σ0 W σ L1 G1 H1 Q r := by
  cases r with
  | ok sv st => exact fun vs G' H' La L' n r ow la nd ss => h vs G' H' La L' (m.trans n) r ow (fun a ha => m.old (la a ha)) nd ss
  | ex c st => exact fun d G' H' L' n r => h d G' H' L' (m.trans n) r
  | bad => exact h
section
variable {q : Bool} {X : Cx} {cls : Nat → Addr} {σ0 : Z} {W : WX} {e : Expr} {es : List Expr} {pos : Pos}
theorem ia_nil : IA q X cls σ0 W [] [] := by
  refine ⟨_, pa_nil, fun σ G H st L Q r po => po [] G H [] L Mv.refl r ?_ (fun a z => by simp at z) (by simpa using r.nd) (fun j i sv z => by simp at z)⟩
  simp only [List.map_nil, OwL]
  exact ⟨trivial, trivial⟩
/-- the head held, then the rest -/
theorem argsR {as : List Arg} {tr : TA} {k : SV × Option Nat} {x : V} {st1 : S} {L L1 Lv : List Addr} {G H G1 H1 : Hp} {σ : St} {Q : List V → Hp → Prop} (qr : ∀ σ G H st L Q, R (cy X cls) σ0 G H σ st L → PostA q (cy X cls) σ0 W σ L G H Q (evArgs as st) → tr σ H Q)
    (m1 : Mv q L G H G1 H1 L1) (r1 : R (cy X cls) σ0 G1 H1 σ st1 L1) (ow : Ow (cy X cls) G1 H1 k.1 x Lv) (lv : ∀ a ∈ Lv, a ∈ L ∨ H a = none) (nd : (L1 ++ Lv).Nodup) (hk : ∀ i, k.2 = some i → σ[i]? = some (some x))
    (po : PostA q (cy X cls) σ0 W σ L G H Q ((evArgs as st1).bind fun ps s2 => .ok (k :: ps) s2)) : tr σ H1 fun xs H2 => Q (x :: xs) H2 := by
  refine qr σ G1 H1 st1 L1 _ r1 ?_
  cases ea : evArgs as st1 with
  | bad => rw [ea] at po; exact po
  | ex c s2 => rw [ea] at po; exact PostA.shift (Q := fun _ _ => True) (r := .ex c s2) m1 po
  | ok ps s2 =>
    rw [ea] at po
    intro vs G2 H2 La L2 m2 r2 owl la nd2 ss
    have n1 := List.nodup_append.mp nd
    have n2 := List.nodup_append.mp nd2
    have out : ∀ a ∈ Lv, a ∉ L1 := fun a ha z => n1.2.2 a z a ha rfl
    have kp : ∀ a ∈ Lv, H2 a = H1 a ∧ G2 a = none := fun a ha => m2.keep (ow.there a ha) (out a ha)
    have dj : ∀ a ∈ Lv, ¬ (a ∈ L1 ∨ H1 a = none) := fun a ha z => by
      rcases z with z | z
      · exact out a ha z
      · exact (ow.there a ha).1 z
    refine po (x :: vs) G2 H2 (Lv ++ La) L2 (m1.trans m2) r2 ?_ (fun a ha => ?_) ?_ (fun j i sv hj => ?_)
    · simp only [List.map_cons, OwL]
      exact ⟨x, vs, Lv, La, rfl, rfl, ow.frame m2.gg kp, owl⟩
    · rcases List.mem_append.mp ha with z | z
      · exact lv a z
      · exact m1.old (la a z)
    · refine List.nodup_append.mpr ⟨n2.1, List.nodup_append.mpr ⟨n1.2.1, n2.2.1, fun a ha b hb z => ?_⟩, fun a ha b hb z => ?_⟩
      · subst z; exact dj a ha (la a hb)
      · subst z
        rcases List.mem_append.mp hb with y | y
        · exact dj a y (m2.ll a ha)
        · exact n2.2.2 a ha a y rfl
    · cases j with
      | zero =>
        simp only [List.getElem?_cons_zero, Option.some.injEq] at hj
        exact ⟨x, rfl, hk i (by rw [hj])⟩
      | succ j =>
        obtain ⟨v, h1, h2⟩ := ss j i sv (by simpa using hj)
        exact ⟨v, by simpa using h1, h2⟩
theorem ia_e {f : S → Rs SV} {as : List Arg} (h : IX q X cls σ0 W e f) (k : IA q X cls σ0 W es as) (hs : starEach (e :: es) X.env = (false, eval e X.env) :: starEach es X.env := by rfl) : IA q X cls σ0 W (e :: es) (.e f :: as) := by
  obtain ⟨t1, p1, q1⟩ := h.ex
  obtain ⟨t2, p2, q2⟩ := k.ex
  refine ⟨_, pa_cons p1 p2 hs, fun σ G H st L Q r po => q1 σ G H st L _ r ?_⟩
  simp only [evArgs] at po
  cases ef : f st with
  | bad => rw [ef] at po; exact po
  | ex c s1 => rw [ef] at po; exact po
  | ok sv s1 =>
    rw [ef] at po
    exact fun v G1 H1 Lv L1 m1 r1 ow lv nd => argsR q2 m1 r1 ow lv nd (k := (sv, none)) (fun i z => by cases z) po
/-- an owned thing taken out of its slot -/
theorem R.take {C : Cy} {G H : Hp} {σ : St} {st : S} {L : List Addr} (r : R C σ0 G H σ st L) {i : Nat} {p : Bool} {sv : SV} (hi : st[i]? = some ⟨p, some sv⟩) :
    ∃ v L1 Lv, σ[i]? = some (some v) ∧ R C σ0 G H σ (st.set i ⟨p, none⟩) L1 ∧ Ow C G H sv v Lv ∧ (L1 ++ Lv).Nodup ∧ (∀ a ∈ L1, a ∈ L) ∧ ∀ a ∈ Lv, a ∈ L := by
  obtain ⟨o, A, Li, B, eo, rfl, ow, back⟩ := r.ow.focus hi
  obtain ⟨v, rfl, ow⟩ := ow
  have n1 := List.nodup_append.mp r.nd
  have n2 := List.nodup_append.mp n1.2.1
  have nAB : (A ++ B).Nodup := List.nodup_append.mpr ⟨n1.1, n2.2.1, fun a ha b hb => n1.2.2 a ha b (List.mem_append_right _ hb)⟩
  have hAB : ∀ a ∈ A ++ B, a ∈ A ++ (Li ++ B) := fun a ha => by
    rcases List.mem_append.mp ha with z | z
    · exact List.mem_append_left _ z
    · exact List.mem_append_right _ (List.mem_append_right _ z)
  refine ⟨v, A ++ B, Li, eo, ⟨r.gh, ?_, nAB, R.prset (C := C) r.pr hi rfl, (R.flset (s' := ⟨p, none⟩) hi rfl).trans r.fl⟩, ow, List.nodup_append.mpr ⟨nAB, n2.1, fun a ha b hb z => ?_⟩, hAB, fun a ha => List.mem_append_right _ (List.mem_append_left _ ha)⟩
  · have qq := back G H (Same.refl _) (fun a ha => ⟨rfl, (r.ow.there a (hAB a ha)).2⟩) ⟨p, none⟩ (some v) [] rfl
    rwa [set_same eo] at qq
  · subst z
    rcases List.mem_append.mp ha with y | y
    · exact n1.2.2 a y a (List.mem_append_left _ hb) rfl
    · exact n2.2.2 a hb a y rfl
theorem ia_v {i : Nat} {as : List Arg} (h : PE X e (tVar i)) (k : IA q X cls σ0 W es as) (hs : starEach (e :: es) X.env = (false, eval e X.env) :: starEach es X.env := by rfl) : IA q X cls σ0 W (e :: es) (.v i :: as) := by
  obtain ⟨t2, p2, q2⟩ := k.ex
  refine ⟨_, pa_cons h p2 hs, fun σ G H st L Q r po => ?_⟩
  simp only [evArgs] at po
  cases es : st[i]? with
  | none => rw [es] at po; exact po.elim
  | some s =>
    obtain ⟨p, sv⟩ := s
    cases sv with
    | none => rw [es] at po; exact po.elim
    | some sv =>
      have gen : PostA q (cy X cls) σ0 W σ L G H Q ((evArgs as (st.set i ⟨p, none⟩)).bind fun ps s2 => .ok ((sv, some i) :: ps) s2) → (tCons (tVar i) t2) σ H Q := fun po => by
        obtain ⟨v, L1, Lv, e1, r1, ow, nd, h1, h2⟩ := r.take es
        exact ⟨v, e1, argsR q2 ⟨Same.refl _, fun _ _ h _ => h, fun _ _ _ => rfl, fun a ha => .inl (h1 a ha), fun _ _ _ _ _ h => h⟩ r1 ow (fun a ha => .inl (h2 a ha)) nd (k := (sv, some i)) (fun j z => by cases z; exact e1) po⟩
      cases sv with
      | im d =>
        rw [es] at po
        obtain ⟨v, e1, rp⟩ := r.imAt es
        exact ⟨v, e1, argsR q2 Mv.refl r (Lv := []) (by simp only [Ow]; exact ⟨trivial, rp⟩) (fun a z => by simp at z) (by simpa using r.nd) (k := (.im d, none)) (fun j z => by cases z) po⟩
      | ol ds => rw [es] at po; exact gen po
      | ok ks vs => rw [es] at po; exact gen po
      | ot ks vs => rw [es] at po; exact gen po
      | oi c ns vs => rw [es] at po; exact gen po

/-! ### calls -/
def putB : List (SV × Option Nat) → List (Option SV) → S → S
  | (_, some i) :: ps, o :: os, s => putB ps os (match s[i]? with
    | some ⟨p, _⟩ => s.set i ⟨p, o⟩
    | none => s)
  | (_, none) :: ps, _ :: os, s => putB ps os s
  | _, _, s => s
def isIm : SV → Bool
  | .im _ => true
  | _ => false
def dCall (q : Bool) (F : Fn) (as : List Arg) : S → Rs D := fun s => (evArgs as s).bind fun ps s1 => if q && !(ps.all fun p => isIm p.1) then .bad else match F (ps.map (·.1)) with
  | .ret d os => .ok d (putB ps os s1)
  | .ex c os => .ex c (putB ps os s1)
  | .bad => .bad
theorem putB_ok {C : Cy} {G H : Hp} {σ : St} : ∀ {ps : List (SV × Option Nat)} {os : List (Option SV)} {vs : List V} {st : S} {L La : List Addr}, R C σ0 G H σ st L → OwLo C G H os vs La → (L ++ La).Nodup →
    (∀ (j i : Nat) (sv : SV), ps[j]? = some (sv, some i) → ∃ v, vs[j]? = some v ∧ σ[i]? = some (some v)) → ∃ L', R C σ0 G H σ (putB ps os st) L' ∧ ∀ a ∈ L', a ∈ L ∨ a ∈ La
  | [], os, vs, st, L, La, r, oo, nd, ss => ⟨L, by simpa [putB] using r, fun a h => .inl h⟩
  | p :: ps, [], vs, st, L, La, r, oo, nd, ss => ⟨L, by obtain ⟨_, _ | _⟩ := p <;> simpa [putB] using r, fun a h => .inl h⟩
  | (sv, none) :: ps, o :: os, vs, st, L, La, r, oo, nd, ss => by
    obtain ⟨x, rr, L1, L2, rfl, rfl, h1, h2⟩ := oo
    have n := List.nodup_append.mp nd
    have n2 := List.nodup_append.mp n.2.1
    obtain ⟨L', r', hl⟩ := putB_ok (ps := ps) r h2 (List.nodup_append.mpr ⟨n.1, n2.2.1, fun a ha b hb => n.2.2 a ha b (List.mem_append_right _ hb)⟩) (fun j i sv hj => by simpa using ss (j + 1) i sv (by simpa using hj))
    refine ⟨L', r', fun a ha => ?_⟩
    rcases hl a ha with z | z
    · exact .inl z
    · exact .inr (List.mem_append_right _ z)
  | (sv, some i) :: ps, o :: os, vs, st, L, La, r, oo, nd, ss => by
    obtain ⟨x, rr, L1, L2, rfl, rfl, h1, h2⟩ := oo
    have n := List.nodup_append.mp nd
    have n2 := List.nodup_append.mp n.2.1
    have ssr : ∀ (j i : Nat) (sv : SV), ps[j]? = some (sv, some i) → ∃ v, rr[j]? = some v ∧ σ[i]? = some (some v) := fun j i sv hj => by simpa using ss (j + 1) i sv (by simpa using hj)
    obtain ⟨v, ev, eσ⟩ := ss 0 i sv rfl
    simp only [List.getElem?_cons_zero, Option.some.injEq] at ev
    subst ev
    simp only [putB]
    cases es : st[i]? with
    | none =>
      obtain ⟨L', r', hl⟩ := putB_ok (ps := ps) r h2 (List.nodup_append.mpr ⟨n.1, n2.2.1, fun a ha b hb => n.2.2 a ha b (List.mem_append_right _ hb)⟩) ssr
      exact ⟨L', r', fun a ha => (hl a ha).imp id fun z => List.mem_append_right _ z⟩
    | some u =>
      obtain ⟨p, o0⟩ := u
      obtain ⟨o1, A, Li, B, eo, rfl, _, back⟩ := r.ow.focus es
      rw [eσ] at eo
      cases eo
      have m1 := List.nodup_append.mp n.1
      have m2 := List.nodup_append.mp m1.2.1
      have hAB : ∀ a, a ∈ A ∨ a ∈ B → a ∈ A ++ (Li ++ B) := fun a ha => by
        rcases ha with z | z
        · exact List.mem_append_left _ z
        · exact List.mem_append_right _ (List.mem_append_right _ z)
      have hd : ∀ a, a ∈ A ∨ a ∈ B → ∀ b, b ∈ L1 ∨ b ∈ L2 → a ≠ b := fun a ha b hb => n.2.2 a (hAB a ha) b (hb.elim (List.mem_append_left _) (List.mem_append_right _))
      have nd1 : (A ++ (L1 ++ B)).Nodup := List.nodup_append.mpr ⟨m1.1, List.nodup_append.mpr ⟨n2.1, m2.2.1, fun a ha b hb z => hd b (.inr hb) a (.inl ha) z.symm⟩, fun a ha b hb => by
        rcases List.mem_append.mp hb with z | z
        · exact hd a (.inl ha) b (.inl z)
        · exact m1.2.2 a ha b (List.mem_append_right _ z)⟩
      have qq := back G H (Same.refl _) (fun a ha => ⟨rfl, (r.ow.there a (hAB a (List.mem_append.mp ha))).2⟩) ⟨p, o⟩ (some x) L1 h1
      rw [set_same eσ] at qq
      have r1 : R C σ0 G H σ (st.set i ⟨p, o⟩) (A ++ (L1 ++ B)) := ⟨r.gh, qq, nd1, R.prset (C := C) r.pr es rfl, (R.flset (s' := ⟨p, o⟩) es rfl).trans r.fl⟩
      have nd4 : (A ++ (L1 ++ B) ++ L2).Nodup := List.nodup_append.mpr ⟨nd1, n2.2.1, fun a ha b hb => by
        rcases List.mem_append.mp ha with z | z
        · exact hd a (.inl z) b (.inr hb)
        · rcases List.mem_append.mp z with z | z
          · exact n2.2.2 a z b hb
          · exact hd a (.inr z) b (.inr hb)⟩
      obtain ⟨L', r', hl⟩ := putB_ok (ps := ps) r1 h2 nd4 ssr
      refine ⟨L', r', fun a ha => ?_⟩
      rcases hl a ha with z | z
      · rcases List.mem_append.mp z with z | z
        · exact .inl (hAB a (.inl z))
        · rcases List.mem_append.mp z with z | z
          · exact .inr (List.mem_append_left _ z)
          · exact .inl (hAB a (.inr z))
      · exact .inr (List.mem_append_right _ z)
theorem OwL.ims {C : Cy} {G H : Hp} : ∀ {ps : List (SV × Option Nat)} {vs : List V} {L : List Addr}, OwL C G H (ps.map (·.1)) vs L → (ps.all fun p => isIm p.1) = true → L = []
  | [], vs, L, h, k => by simp only [List.map_nil, OwL] at h; exact h.2
  | (sv, o) :: ps, vs, L, h, k => by
    simp only [List.map_cons, OwL] at h
    obtain ⟨x, r, L1, L2, rfl, rfl, h1, h2⟩ := h
    simp only [List.all_cons, Bool.and_eq_true] at k
    have e2 := OwL.ims h2 k.2
    subst e2
    cases sv with
    | im d => simp only [Ow] at h1; rw [h1.1]; rfl
    | _ => simp [isIm] at k
/-- what the callee's promise gives the caller -/
theorem callR {F : Fn} {np : Nat} {ps : List (SV × Option Nat)} {st1 : S} {vs : List V} {L L1 La : List Addr} {G H G1 H1 : Hp} {σ : St} {Q : VK} {E : XK} (hE : ∀ c d H, W c d σ H → E c d H) (hn : (ps.map (·.1)).length = np)
    (m1 : Mv q L G H G1 H1 L1) (r1 : R (cy X cls) σ0 G1 H1 σ st1 L1) (ow : OwL (cy X cls) G1 H1 (ps.map (·.1)) vs La) (la : ∀ a ∈ La, a ∈ L ∨ H a = none) (nd : (L1 ++ La).Nodup)
    (ss : ∀ (j i : Nat) (sv : SV), ps[j]? = some (sv, some i) → ∃ v, vs[j]? = some v ∧ σ[i]? = some (some v))
    (po : PostD q (cy X cls) σ0 W σ L G H Q (if q && !(ps.all fun p => isIm p.1) then .bad else match F (ps.map (·.1)) with
      | .ret d os => .ok d (putB ps os st1)
      | .ex c os => .ex c (putB ps os st1)
      | .bad => .bad)) : spF (cy X cls) np F vs H1 Q E := by
  have n := List.nodup_append.mp nd
  refine ⟨by rw [ow.len, hn], G1, ps.map (·.1), La, r1.gh, ow, n.2.1, ?_⟩
  by_cases hq : (q && !(ps.all fun p => isIm p.1)) = true
  · rw [if_pos hq] at po; exact po.elim
  rw [if_neg hq] at po
  have fin : ∀ (os : List (Option SV)) (G2 H2 : Hp) (L2 : List Addr), Mv false La G1 H1 G2 H2 L2 → Same G2 H2 → OwLo (cy X cls) G2 H2 os vs L2 → L2.Nodup → ∃ L3, R (cy X cls) σ0 G2 H2 σ (putB ps os st1) L3 ∧ Mv q L G H G2 H2 L3 := by
    intro os G2 H2 L2 m2 gh2 oo nd2
    have out : ∀ a ∈ L1, a ∉ La := fun a ha z => n.2.2 a ha a z rfl
    have kp : ∀ a ∈ L1, H2 a = H1 a ∧ G2 a = none := fun a ha => m2.keep (r1.ow.there a ha) (out a ha)
    have r2 : R (cy X cls) σ0 G2 H2 σ st1 L1 := ⟨gh2, r1.ow.frame m2.gg kp, r1.nd, r1.pr, r1.fl⟩
    have nd3 : (L1 ++ L2).Nodup := List.nodup_append.mpr ⟨n.1, nd2, fun a ha b hb z => by
      subst z
      rcases m2.ll a hb with y | y
      · exact out a ha y
      · exact (r1.ow.there a ha).1 y⟩
    obtain ⟨L3, r3, hl⟩ := putB_ok (ps := ps) r2 oo nd3 ss
    refine ⟨L3, r3, ⟨m1.gg.trans m2.gg, fun b o h k => ?_, fun a h k => ?_, fun a ha => ?_, fun z p c dx fs h => ?_⟩⟩
    · refine m2.hh b o (m1.hh b o h k) fun z => ?_
      rcases la b z with y | y
      · exact k y
      · rw [h] at y; cases y
    · have k1 : a ∉ La := fun z => by
        rcases la a z with y | y
        · exact k y
        · exact h y
      have h1 : H1 a ≠ none := by
        cases e : H a with
        | none => exact absurd e h
        | some o => rw [m1.hh a o e k]; simp
      rw [m2.fr a h1 k1, m1.fr a h k]
    · rcases hl a ha with z | z
      · exact m1.ll a z
      · rcases m2.ll a z with y | y
        · exact la a y
        · exact m1.old (.inr y)
    · have e0 : La = [] := by
        refine ow.ims ?_
        cases hb : ps.all fun p => isIm p.1 with
        | true => rfl
        | false => rw [hb, z] at hq; exact absurd rfl hq
      subst e0
      exact m2.hh p _ (m1.ob z p c dx fs h) (by simp)
  cases eF : F (ps.map (·.1)) with
  | bad => rw [eF] at po; exact po.elim
  | ret d os =>
    rw [eF] at po
    intro v G2 H2 L2 m2 gh2 oo nd2 rp
    obtain ⟨L3, r3, m3⟩ := fin os G2 H2 L2 m2 gh2 oo nd2
    exact po v G2 H2 L3 m3 r3 rp
  | ex c os =>
    rw [eF] at po
    intro dx G2 H2 L2 m2 gh2 oo nd2
    obtain ⟨L3, r3, m3⟩ := fin os G2 H2 L2 m2 gh2 oo nd2
    exact hE _ _ _ (po dx G2 H2 L3 m3 r3)
theorem evArgs_len : ∀ {as : List Arg} {st st1 : S} {ps : List (SV × Option Nat)}, evArgs as st = .ok ps st1 → ps.length = as.length
  | [], st, st1, ps, h => by simp only [evArgs, Rs.ok.injEq] at h; rw [← h.1]; rfl
  | .e f :: as, st, st1, ps, h => by
    simp only [evArgs] at h
    cases ef : f st with
    | bad => rw [ef] at h; cases h
    | ex c s => rw [ef] at h; cases h
    | ok sv s =>
      rw [ef] at h
      simp only [Rs.bind] at h
      cases ea : evArgs as s with
      | bad => rw [ea] at h; cases h
      | ex c s => rw [ea] at h; cases h
      | ok ps' s' =>
        rw [ea] at h
        simp only [Rs.ok.injEq] at h
        rw [← h.1, List.length_cons, List.length_cons, evArgs_len ea]
  | .v i :: as, st, st1, ps, h => by
    simp only [evArgs] at h
    have gen : ∀ (k : SV × Option Nat) (s0 : S), ((evArgs as s0).bind fun ps s2 => .ok (k :: ps) s2) = Rs.ok ps st1 → ps.length = as.length + 1 := fun k s0 h => by
      cases ea : evArgs as s0 with
      | bad => rw [ea] at h; cases h
      | ex c s => rw [ea] at h; cases h
      | ok ps' s' =>
        rw [ea] at h
        simp only [Rs.bind, Rs.ok.injEq] at h
        rw [← h.1, List.length_cons, evArgs_len ea]
    cases es : st[i]? with
    | none => rw [es] at h; cases h
    | some u =>
      obtain ⟨p, o⟩ := u
      cases o with
      | none => rw [es] at h; cases h
      | some sv =>
        cases sv <;> (rw [es] at h; exact gen _ _ h)
theorem iv_call {F : Fn} {as : List Arg} {k : Nat} {f : Addr} {fd : FuncData} {ps : List Str} {x : Str} {p : Pos} (FN : FnOk X.prog X.w X.K X.mg X.base (L2.CX X.prog X.w) k f fd ps (spF (cy X cls) ps.length F)) (hr : Room k X.A) (hg : Gl X x) (hm : X.mg x = some (.ref f)) (hk : PySem.W.keepIn X.K (.ref f) = true) (hb : Binds X.K fd ps []) (tk : Takes X W)
    (hl : as.length = ps.length) (ha : IA q X cls σ0 W (e :: es) as) (hdb : (x == ("__debug__" : Str)) = false := by decide) (he : starEach (e :: es) X.env = (false, eval e X.env) :: starEach es X.env := by rfl) (hpl : (backTo pos (starEach es X.env)).any (·.1) = false := by rfl) :
    IV q X cls σ0 W (.Call (.Name x p) (e :: es) [] pos) (dCall q F as) := by
  obtain ⟨t, pa, qa⟩ := ha.ex
  refine ⟨_, pe_callS FN hr hg hm hk hb (fun σ => passAt tk σ) pa hdb he hpl, fun σ G H st L Q r po => qa σ G H st L _ r ?_⟩
  unfold dCall at po
  cases ea : evArgs as st with
  | bad => rw [ea] at po; exact po
  | ex c s1 => rw [ea] at po; exact po
  | ok pps s1 =>
    rw [ea] at po
    intro vs G1 H1 La L1 m1 r1 ow la nd ss
    exact callR (fun c d H h => h) (by rw [List.length_map, evArgs_len ea, hl]) m1 r1 ow la nd ss po
end
end DV
namespace DV
open PySem L2

/-! ### fields by their places -/
def ixOf : List Str → Str → Option Nat
  | [], _ => none
  | n :: ns, f => if n = f then some 0 else (ixOf ns f).map (· + 1)
theorem lookup_ix (f : Str) : ∀ fs : List (Str × V), fs.lookup f = (ixOf (fs.map (·.1)) f).bind fun j => (fs.map (·.2))[j]?
  | [] => rfl
  | (n, v) :: fs => by
    simp only [List.map_cons, ixOf]
    by_cases h : n = f
    · subst h
      simp
    · rw [if_neg h, List.lookup_cons]
      have hb : (f == n) = false := by simpa using fun z => h z.symm
      rw [hb]
      simp only
      rw [lookup_ix f fs]
      cases ixOf (fs.map (·.1)) f <;> simp
theorem ixOf_lt {f : Str} : ∀ {ns : List Str} {j : Nat}, ixOf ns f = some j → j < ns.length
  | [], j, h => by cases h
  | n :: ns, j, h => by
    simp only [ixOf] at h
    split at h
    · cases h; simp
    · cases e : ixOf ns f with
      | none => rw [e] at h; cases h
      | some i =>
        rw [e] at h
        cases h
        have := ixOf_lt e
        simp; omega
theorem putF_some {f : Str} {v : V} : ∀ {fs : List (Str × V)} {j : Nat}, ixOf (fs.map (·.1)) f = some j → (putF f v fs).map (·.1) = fs.map (·.1) ∧ (putF f v fs).map (·.2) = (fs.map (·.2)).set j v
  | [], j, h => by cases h
  | (n, x) :: fs, j, h => by
    simp only [List.map_cons, ixOf] at h
    unfold putF
    split at h
    · rename_i e
      cases h
      rw [if_pos e]
      exact ⟨rfl, rfl⟩
    · rename_i e
      rw [if_neg e]
      cases e2 : ixOf (fs.map (·.1)) f with
      | none => rw [e2] at h; cases h
      | some i =>
        rw [e2] at h
        cases h
        obtain ⟨h1, h2⟩ := putF_some (v := v) e2
        simp [h1, h2]
theorem putF_none {f : Str} {v : V} : ∀ {fs : List (Str × V)}, ixOf (fs.map (·.1)) f = none → (putF f v fs).map (·.1) = fs.map (·.1) ++ [f] ∧ (putF f v fs).map (·.2) = fs.map (·.2) ++ [v]
  | [], h => ⟨rfl, rfl⟩
  | (n, x) :: fs, h => by
    simp only [List.map_cons, ixOf] at h
    unfold putF
    split at h
    · cases h
    · rename_i e
      rw [if_neg e]
      cases e2 : ixOf (fs.map (·.1)) f with
      | some i => rw [e2] at h; cases h
      | none =>
        obtain ⟨h1, h2⟩ := putF_none (v := v) e2
        simp [h1, h2]
theorem OwL.focus {C : Cy} {G H : Hp} : ∀ {ss : List SV} {vs : List V} {L : List Addr} {j : Nat} {s : SV}, OwL C G H ss vs L → ss[j]? = some s →
    ∃ v A Li B, vs[j]? = some v ∧ L = A ++ (Li ++ B) ∧ Ow C G H s v Li ∧
      ∀ (G' H' : Hp), Same G G' → (∀ a ∈ A ++ B, H' a = H a ∧ G' a = none) → ∀ (s' : SV) (v' : V) (Li' : List Addr), Ow C G' H' s' v' Li' → OwL C G' H' (ss.set j s') (vs.set j v') (A ++ (Li' ++ B))
  | [], _, _, _, _, _, k => by simp at k
  | s0 :: ss, vs, L, 0, s, h, k => by
    simp only [OwL] at h
    obtain ⟨x, r, L1, L2, rfl, rfl, h1, h2⟩ := h
    simp at k; subst k
    refine ⟨x, [], L1, L2, rfl, rfl, h1, fun G' H' e f s' v' Li' q => ?_⟩
    simp only [List.set_cons_zero, OwL]
    exact ⟨v', r, Li', L2, rfl, rfl, q, h2.frame e fun a ha => f a (by simpa using ha)⟩
  | s0 :: ss, vs, L, j + 1, s, h, k => by
    simp only [OwL] at h
    obtain ⟨x, r, L1, L2, rfl, rfl, h1, h2⟩ := h
    obtain ⟨v, A, Li, B, e1, rfl, h3, h4⟩ := OwL.focus (j := j) h2 (by simpa using k)
    refine ⟨v, L1 ++ A, Li, B, by simpa using e1, by simp, h3, fun G' H' e f s' v' Li' q => ?_⟩
    simp only [List.set_cons_succ, OwL]
    refine ⟨x, _, L1, A ++ (Li' ++ B), rfl, by simp, h1.frame e fun a ha => f a (by simp [ha]), ?_⟩
    exact h4 G' H' e (fun a ha => f a (by simp at ha ⊢; rcases ha with z | z <;> simp [z])) s' v' Li' q

/-! ### places: where an owned thing is held -/
structure Pl (q : Bool) (X : Cx) (cls : Nat → Addr) (σ0 : Z) (e : Expr) (get : S → Option SV) (set : SV → S → S) : Prop where
  ex : ∃ t, PE X e t ∧ ∀ σ G H st L sv, R (cy X cls) σ0 G H σ st L → get st = some sv → ∃ v Lv, (∀ Q : VK, Q v H → t σ H Q) ∧ Ow (cy X cls) G H sv v Lv ∧
    ∀ G1 H1 L1 st1 sv1, Mv q L G H G1 H1 L1 → R (cy X cls) σ0 G1 H1 σ st1 L1 → get st1 = some sv1 → ∃ A Li B, L1 = A ++ (Li ++ B) ∧ Ow (cy X cls) G1 H1 sv1 v Li ∧
      ∀ G' H' sv' Li', Same G1 G' → Same G' H' → (∀ a ∈ A ++ B, H' a = H1 a ∧ G' a = none) → Ow (cy X cls) G' H' sv' v Li' → (A ++ (Li' ++ B)).Nodup → R (cy X cls) σ0 G' H' σ (set sv' st1) (A ++ (Li' ++ B))
def slG (i : Nat) : S → Option SV := fun s => (s[i]?).bind (·.v)
def slS (i : Nat) : SV → S → S := fun sv s => match s[i]? with
  | some ⟨p, _⟩ => s.set i ⟨p, some sv⟩
  | none => s
theorem slG_some {i : Nat} {st : S} {sv : SV} (h : slG i st = some sv) : ∃ p, st[i]? = some ⟨p, some sv⟩ := by
  unfold slG at h
  cases e : st[i]? with
  | none => rw [e] at h; cases h
  | some u =>
    obtain ⟨p, o⟩ := u
    rw [e] at h
    have h' : o = some sv := h
    subst h'
    exact ⟨p, rfl⟩
section
variable {q : Bool} {X : Cx} {cls : Nat → Addr} {σ0 : Z} {W : WX} {e o : Expr} {es : List Expr} {pos : Pos}
theorem pl_slot {i : Nat} (h : PE X e (tVar i)) : Pl q X cls σ0 e (slG i) (slS i) := by
  refine ⟨_, h, fun σ G H st L sv r hg => ?_⟩
  obtain ⟨p, es⟩ := slG_some hg
  obtain ⟨o1, A0, Lv, B0, eo, _, ow, _⟩ := r.ow.focus es
  obtain ⟨v, rfl, ow⟩ := ow
  refine ⟨v, Lv, fun Q hq => ⟨v, eo, hq⟩, ow, fun G1 H1 L1 st1 sv1 m r1 hg1 => ?_⟩
  obtain ⟨p1, es1⟩ := slG_some hg1
  obtain ⟨o2, A, Li, B, eo2, eL, ow1, back⟩ := r1.ow.focus es1
  obtain ⟨v1, rfl, ow1⟩ := ow1
  rw [eo] at eo2
  cases eo2
  refine ⟨A, Li, B, eL, ow1, fun G' H' sv' Li' e e1 f ow' nd => ?_⟩
  have qq := back G' H' e f ⟨p1, some sv'⟩ (some v) Li' ⟨v, rfl, ow'⟩
  rw [set_same eo] at qq
  have es' : slS i sv' st1 = st1.set i ⟨p1, some sv'⟩ := by unfold slS; rw [es1]
  rw [es']
  exact ⟨e1, qq, nd, R.prset (C := cy X cls) r1.pr es1 rfl, (R.flset (s' := ⟨p1, some sv'⟩) es1 rfl).trans r1.fl⟩
/-- a field of an owned instance -/
def flG (ok : Nat → Bool) (i : Nat) (f : Str) : S → Option SV := fun s => match slG i s with
  | some (.oi c ns vs) => if ok c then (ixOf ns f).bind fun j => vs[j]? else none
  | _ => none
def flS (i : Nat) (f : Str) : SV → S → S := fun sv s => match slG i s with
  | some (.oi c ns vs) => match ixOf ns f with
    | some j => slS i (.oi c ns (vs.set j sv)) s
    | none => s
  | _ => s
theorem flG_some {ok : Nat → Bool} {i : Nat} {f : Str} {st : S} {sv : SV} (h : flG ok i f st = some sv) : ∃ p c ns vs j, st[i]? = some ⟨p, some (.oi c ns vs)⟩ ∧ ok c = true ∧ ixOf ns f = some j ∧ vs[j]? = some sv := by
  unfold flG at h
  cases e : slG i st with
  | none => rw [e] at h; cases h
  | some u =>
    rw [e] at h
    obtain ⟨p, es⟩ := slG_some e
    cases u with
    | oi c ns vs =>
      simp only at h
      split at h
      · rename_i hok
        cases ej : ixOf ns f with
        | none => rw [ej] at h; cases h
        | some j => rw [ej] at h; exact ⟨p, c, ns, vs, j, es, hok, ej, h⟩
      · cases h
    | _ => cases h
theorem pl_fld {ok : Nat → Bool} {i : Nat} {x f : Str} {pos' : Pos} (h : PE X (.Name x pos') (tVar i)) (hC : ∀ c, ok c = true → Cls X.K (cls c) ∧ NoAttr X.K (cls c) f) (hb : attributeBase (.Name x pos') f X.env (eval (.Name x pos') X.env) = eval (.Name x pos') X.env := by rfl) :
    Pl true X cls σ0 (.Attribute (.Name x pos') f pos) (flG ok i f) (flS i f) := by
  refine ⟨_, pe_fld h hb, fun σ G H st L sv r hg => ?_⟩
  obtain ⟨p, c, ns, vs, j, es, hok, ej, hv⟩ := flG_some hg
  obtain ⟨o1, A0, Lv, B0, eo, _, ow, _⟩ := r.ow.focus es
  obtain ⟨v, rfl, ow⟩ := ow
  simp only [Ow] at ow
  obtain ⟨pp, dx, fs, Lf, rfl, rfl, hGp, hHp, hns, owl⟩ := ow
  obtain ⟨y, A1, Ly, B1, ey, _, owy, _⟩ := owl.focus hv
  have elook : fs.lookup f = some y := by
    rw [lookup_ix, hns, ej]
    exact ey
  refine ⟨y, Ly, fun Q hq => ⟨_, eo, pp, cls c, dx, fs, y, rfl, hHp, (hC c hok).1, (hC c hok).2, elook, hq⟩, owy, fun G1 H1 L1 st1 sv1 m r1 hg1 => ?_⟩
  obtain ⟨p1, c1, ns1, vs1, j1, es1, _, ej1, hv1⟩ := flG_some hg1
  obtain ⟨o2, A, Li, B, eo2, eL, ow1, back⟩ := r1.ow.focus es1
  obtain ⟨v1, rfl, ow1⟩ := ow1
  rw [eo] at eo2
  cases eo2
  simp only [Ow] at ow1
  obtain ⟨pp1, dx1, fs1, Lf1, e3, rfl, hGp1, hHp1, hns1, owl1⟩ := ow1
  cases e3
  have e4 := m.ob rfl pp _ dx fs hHp
  rw [e4] at hHp1
  have e5 : cls c = cls c1 ∧ dx = dx1 ∧ fs = fs1 := by
    injection hHp1 with z
    injection z with z1 z2 z3
    exact ⟨z1, z2, z3⟩
  obtain ⟨ec, rfl, rfl⟩ := e5
  obtain ⟨y1, A2, Li2, B2, ey1, rfl, owy1, back2⟩ := owl1.focus hv1
  have ens : ns = ns1 := hns.symm.trans hns1
  subst ens
  rw [ej] at ej1
  cases ej1
  rw [ey] at ey1
  cases ey1
  refine ⟨A ++ (pp :: A2), Li2, B2 ++ B, by rw [eL]; simp, owy1, fun G' H' sv' Li' e e1 f' ow' nd => ?_⟩
  have eS : flS i f sv' st1 = st1.set i ⟨p1, some (.oi c1 ns (vs1.set j sv'))⟩ := by
    unfold flS slG slS
    rw [es1]
    simp only [Option.bind_some, ej]
  have hpp := f' pp (by simp)
  have inner := back2 G' H' e (fun a ha => f' a (by simp at ha ⊢; rcases ha with z | z <;> simp [z])) sv' y Li' ow'
  have eset : (fs.map (·.2)).set j y = fs.map (·.2) := set_same ey
  rw [eset] at inner
  have qq := back G' H' e (fun a ha => f' a (by simp at ha ⊢; rcases ha with z | z <;> simp [z])) ⟨p1, some (.oi c1 ns (vs1.set j sv'))⟩ (some (.ref pp)) (pp :: (A2 ++ (Li' ++ B2))) ⟨_, rfl, by
    simp only [Ow]
    exact ⟨pp, dx, fs, _, rfl, rfl, hpp.2, by rw [hpp.1, e4, ec], hns, inner⟩⟩
  rw [set_same eo] at qq
  rw [eS]
  have eqL : A ++ (pp :: (A2 ++ (Li' ++ B2)) ++ B) = A ++ (pp :: A2) ++ (Li' ++ (B2 ++ B)) := by simp
  rw [eqL] at qq
  exact ⟨e1, qq, nd, R.prset (C := cy X cls) r1.pr es1 rfl, (R.flset (s' := ⟨p1, some (.oi c1 ns (vs1.set j sv'))⟩) es1 rfl).trans r1.fl⟩

theorem Ow.bw {C : Cy} {G H : Hp} (gh : Same G H) {sv : SV} {v : V} {L : List Addr} (h : Ow C G H sv v L) (hi : ∀ c ns vs, sv ≠ .oi c ns vs) : Bw C G H (DV.frz sv) v := by
  cases sv with
  | im d => simp only [Ow] at h; exact h.2.bw gh
  | ol ds => simp only [Ow] at h; obtain ⟨p, xs, rfl, rfl, _, hp, r⟩ := h; exact ⟨p, xs, rfl, hp, r⟩
  | ok ks vs => simp only [Ow] at h; obtain ⟨p, xs, rfl, rfl, _, hp, z, r⟩ := h; exact ⟨p, xs, rfl, hp, z, r⟩
  | ot ks vs => simp only [Ow] at h; obtain ⟨p, xs, rfl, rfl, _, hp, z, r⟩ := h; exact ⟨p, xs, rfl, hp, z, r⟩
  | oi c ns vs => exact absurd rfl (hi c ns vs)
def flat1 : SV → Bool
  | .oi _ _ _ => false
  | _ => true
theorem flat1_ne {sv : SV} (h : flat1 sv = true) : ∀ c ns vs, sv ≠ .oi c ns vs := by
  intro c ns vs e
  subst e
  cases h

/-! ### reading what a place holds, without freezing it -/
def d2B (get : S → Option SV) (op : D → D → Option SV) (fb : S → Rs D) : S → Rs SV := fun s => match get s with
  | some _ => (fb s).bind fun y s1 => match get s1 with
    | some sv => if flat1 sv then (match op (frz sv) y with
      | some z => .ok z s1
      | none => .bad) else .bad
    | none => .bad
  | none => .bad
theorem ix_ixB {get : S → Option SV} {set : SV → S → S} {b : Expr} {g : D → D → Option SV} {r : R2} {fb : S → Rs D} (hi : IxR X r) (hs : Sd2 (cy X cls) r g) (hp : PlainIx b) (pl : Pl q X cls σ0 o get set) (hb : IV q X cls σ0 W b fb) : IX q X cls σ0 W (.Subscript o b pos) (d2B get g fb) := by
  obtain ⟨t, p, ql⟩ := pl.ex
  obtain ⟨tb, pb, qb⟩ := hb.ex
  refine ⟨_, pe_ix hi p pb hp, fun σ G H st L Q hr po => ?_⟩
  unfold d2B at po
  cases eg : get st with
  | none => rw [eg] at po; exact po.elim
  | some sv =>
    rw [eg] at po
    simp only at po
    obtain ⟨v, Lv, hv, _, later⟩ := ql σ G H st L sv hr eg
    refine hv _ (qb σ G H st L _ hr ?_)
    cases eb : fb st with
    | bad => rw [eb] at po; exact po
    | ex c s2 => rw [eb] at po; exact po
    | ok y s2 =>
      rw [eb] at po
      simp only [Rs.bind] at po
      intro u G2 H2 L2 m2 r2 rp2
      cases eg2 : get s2 with
      | none => rw [eg2] at po; exact po.elim
      | some sv1 =>
        rw [eg2] at po
        simp only at po
        obtain ⟨A, Li, B, _, ow, _⟩ := later G2 H2 L2 s2 sv1 m2 r2 eg2
        split at po
        · rename_i hf
          cases eo : g (frz sv1) y with
          | none => rw [eo] at po; exact po.elim
          | some z =>
            rw [eo] at po
            exact hs G2 H2 v u _ y z Q r2.gh (ow.bw r2.gh (flat1_ne hf)) (rp2.bw r2.gh) eo (fin_of m2 r2 po)
        · exact po.elim
/-- the truth of what a place holds -/
def dTrB (get : S → Option SV) : S → Rs Bool := fun s => match get s with
  | some sv => if flat1 sv then (match dTru (frz sv) with
    | some b => .ok b s
    | none => .bad) else .bad
  | none => .bad
theorem it_truthB {get : S → Option SV} {set : SV → S → S} (pl : Pl q X cls σ0 e get set) (he : ∀ whole, isTrue e X.env whole = (do let v ← whole; standAt e.pos; holding [v] (truthy v)) := by intro _; rfl) : IT q X cls σ0 W e (dTrB get) := by
  obtain ⟨t, p, ql⟩ := pl.ex
  refine ⟨_, pt_truth p he, fun σ G H st L Q r po => ?_⟩
  unfold dTrB at po
  cases eg : get st with
  | none => rw [eg] at po; exact po.elim
  | some sv =>
    rw [eg] at po
    simp only at po
    obtain ⟨v, Lv, hv, ow, later⟩ := ql σ G H st L sv r eg
    refine hv _ ?_
    split at po
    · rename_i hf
      cases ed : dTru (frz sv) with
      | none => rw [ed] at po; exact po.elim
      | some b =>
        rw [ed] at po
        exact ⟨b, tru_bw (C := cy X cls) (ow.bw r.gh (flat1_ne hf)) ed, po G H L Mv.refl r⟩
    · exact po.elim

/-! ### writing -/
/-- the owned list of a place is changed -/
theorem Pl.wl {C : Cy} {G1 H1 : Hp} {σ : St} {st1 : S} {L1 A Li B : List Addr} {set : SV → S → S} {v : V} {ds : List D} (r1 : R C σ0 G1 H1 σ st1 L1) (eL : L1 = A ++ (Li ++ B)) (ow : Ow C G1 H1 (.ol ds) v Li)
    (back : ∀ G' H' sv' Li', Same G1 G' → Same G' H' → (∀ a ∈ A ++ B, H' a = H1 a ∧ G' a = none) → Ow C G' H' sv' v Li' → (A ++ (Li' ++ B)).Nodup → R C σ0 G' H' σ (set sv' st1) (A ++ (Li' ++ B))) :
    ∃ l xs, v = .ref l ∧ H1 l = some (.lst xs) ∧ RpL C G1 ds xs ∧ ∀ ds' xs', RpL C G1 ds' xs' → R C σ0 G1 (upd H1 l (.lst xs')) σ (set (.ol ds') st1) L1 ∧ Mv q L1 G1 H1 G1 (upd H1 l (.lst xs')) L1 := by
  simp only [Ow] at ow
  obtain ⟨l, xs, rfl, rfl, hG, hH, rp⟩ := ow
  refine ⟨l, xs, rfl, hH, rp, fun ds' xs' rp' => ?_⟩
  have hin : l ∈ L1 := by rw [eL]; simp
  have gh' : Same G1 (upd H1 l (.lst xs')) := fun b o h => by
    rw [upd_ne]
    · exact r1.gh b o h
    · intro z; subst z; rw [hG] at h; cases h
  have nd : (A ++ ([l] ++ B)).Nodup := eL ▸ r1.nd
  have hne : ∀ a ∈ A ++ B, a ≠ l := fun a ha z => by
    subst z
    have n1 := List.nodup_append.mp nd
    have n2 := List.nodup_append.mp n1.2.1
    rcases List.mem_append.mp ha with y | y
    · exact n1.2.2 a y a (by simp) rfl
    · exact n2.2.2 a (by simp) a y rfl
  have hAB : ∀ a ∈ A ++ B, a ∈ L1 := fun a ha => by
    rw [eL]
    rcases List.mem_append.mp ha with z | z
    · exact List.mem_append_left _ z
    · exact List.mem_append_right _ (List.mem_append_right _ z)
  have rr := back G1 _ (.ol ds') [l] (Same.refl _) gh' (fun a ha => ⟨upd_ne (hne a ha), (r1.ow.there a (hAB a ha)).2⟩) (by simp only [Ow]; exact ⟨l, xs', rfl, rfl, hG, upd_same, rp'⟩) nd
  rw [← eL] at rr
  refine ⟨rr, Same.refl _, fun b o h k => ?_, fun _ _ _ => rfl, fun a ha => .inl ha, fun _ p c dx fs h => ?_⟩
  · rw [upd_ne]
    · exact h
    · intro z; subst z; exact k hin
  · rw [upd_ne]
    · exact h
    · intro z; subst z; rw [hH] at h; cases h
/-- xs.append(e) -/
def dApp (get : S → Option SV) (set : SV → S → S) (f : S → Rs D) : S → Rs SV := fun s => match get s with
  | some (.ol _) => (f s).bind fun d s1 => match get s1 with
    | some (.ol ds) => if ds.length < sizeLine then .ok (.im .non) (set (.ol (ds ++ [d])) s1) else .bad
    | _ => .bad
  | _ => .bad
theorem ix_append {get : S → Option SV} {set : SV → S → S} {f : S → Rs D} {apos cpos : Pos} (pl : Pl q X cls σ0 o get set) (he : IV q X cls σ0 W e f)
    (hp : ∀ to te, PE X o to → PE X e te → PE X (.Call (.Attribute o "append" apos) [e] [] cpos) (tBM X.K "list" rAppend to (tCons te tNil))) : IX q X cls σ0 W (.Call (.Attribute o "append" apos) [e] [] cpos) (dApp get set f) := by
  obtain ⟨t, p, ql⟩ := pl.ex
  obtain ⟨te, pe, qe⟩ := he.ex
  refine ⟨_, hp _ _ p pe, fun σ G H st L Q r po => ?_⟩
  unfold dApp at po
  split at po
  · rename_i ds0 eg
    obtain ⟨v, Lv, hv, ow0, later⟩ := ql σ G H st L _ r eg
    refine hv _ ⟨?_, ?_⟩
    · simp only [Ow] at ow0
      obtain ⟨l, xs, rfl, _, _, hH, _⟩ := ow0
      exact .inl ⟨rfl, xs, SqL.of hH⟩
    · refine qe σ G H st L _ r ?_
      cases ee : f st with
      | bad => rw [ee] at po; exact po
      | ex c s1 => rw [ee] at po; exact po
      | ok d s1 =>
        rw [ee] at po
        simp only [Rs.bind] at po
        intro y G1 H1 L1 m1 r1 rp
        split at po
        · rename_i ds eg1
          obtain ⟨A, Li, B, eL, ow, back⟩ := later G1 H1 L1 s1 _ m1 r1 eg1
          split at po
          · rename_i hlen
            obtain ⟨l, xs, rfl, hH, rpl, wr⟩ := Pl.wl (q := q) r1 eL ow back
            obtain ⟨r2, m2⟩ := wr (ds ++ [d]) (xs ++ [y]) (rpl.app (by simp only [RpL]; exact ⟨y, [], rfl, rp, rfl⟩))
            exact ⟨l, xs, y, rfl, rfl, hH, by rw [rpl.len]; exact hlen, po .non G1 _ [] L1 (m1.trans m2) r2 (by simp only [Ow, Rp]; exact ⟨trivial, trivial⟩) (fun a z => by simp at z) (by simpa using r2.nd)⟩
          · exact po.elim
        · exact po.elim
  · exact po.elim
/-- xs.pop() -/
def dPop (get : S → Option SV) (set : SV → S → S) : S → Rs SV := fun s => match get s with
  | some (.ol ds) => match ds[ds.length - 1]? with
    | some d => .ok (.im d) (set (.ol ds.dropLast) s)
    | none => .bad
  | _ => .bad
theorem ix_pop {get : S → Option SV} {set : SV → S → S} {apos cpos : Pos} (pl : Pl q X cls σ0 o get set) (hp : ∀ to, PE X o to → PE X (.Call (.Attribute o "pop" apos) [] [] cpos) (tBM0 X.K "list" rPop to)) : IX q X cls σ0 W (.Call (.Attribute o "pop" apos) [] [] cpos) (dPop get set) := by
  obtain ⟨t, p, ql⟩ := pl.ex
  refine ⟨_, hp _ p, fun σ G H st L Q r po => ?_⟩
  unfold dPop at po
  split at po
  · rename_i ds eg
    obtain ⟨v, Lv, hv, ow0, later⟩ := ql σ G H st L _ r eg
    split at po
    · rename_i d ed
      obtain ⟨A, Li, B, eL, ow, back⟩ := later G H L st _ Mv.refl r eg
      obtain ⟨l, xs, rfl, hH, rpl, wr⟩ := Pl.wl (q := q) r eL ow back
      obtain ⟨y, ey, rp⟩ := rpl.get ed
      obtain ⟨r2, m2⟩ := wr ds.dropLast xs.dropLast rpl.dropLast
      refine hv _ ⟨.inl ⟨rfl, xs, SqL.of hH⟩, l, xs, y, rfl, rfl, hH, by rw [rpl.len]; exact ey, po y G _ [] L m2 r2 (by simp only [Ow]; exact ⟨trivial, rp⟩) (fun a z => by simp at z) (by simpa using r2.nd)⟩
    · exact po.elim
  · exact po.elim
/-- xs.extend(e) -/
def dExt (get : S → Option SV) (set : SV → S → S) (f : S → Rs D) : S → Rs SV := fun s => match get s with
  | some (.ol _) => (f s).bind fun d s1 => match get s1, d with
    | some (.ol ds), .lst es => if ds.length + es.length ≤ sizeLine then .ok (.im .non) (set (.ol (ds ++ es)) s1) else .bad
    | _, _ => .bad
  | _ => .bad
theorem ix_extend {get : S → Option SV} {set : SV → S → S} {f : S → Rs D} {apos cpos : Pos} (pl : Pl q X cls σ0 o get set) (he : IV q X cls σ0 W e f)
    (hp : ∀ to te, PE X o to → PE X e te → PE X (.Call (.Attribute o "extend" apos) [e] [] cpos) (tBM X.K "list" rExtend to (tCons te tNil))) : IX q X cls σ0 W (.Call (.Attribute o "extend" apos) [e] [] cpos) (dExt get set f) := by
  obtain ⟨t, p, ql⟩ := pl.ex
  obtain ⟨te, pe, qe⟩ := he.ex
  refine ⟨_, hp _ _ p pe, fun σ G H st L Q r po => ?_⟩
  unfold dExt at po
  split at po
  · rename_i ds0 eg
    obtain ⟨v, Lv, hv, ow0, later⟩ := ql σ G H st L _ r eg
    refine hv _ ⟨?_, ?_⟩
    · simp only [Ow] at ow0
      obtain ⟨l, xs, rfl, _, _, hH, _⟩ := ow0
      exact .inl ⟨rfl, xs, SqL.of hH⟩
    · refine qe σ G H st L _ r ?_
      cases ee : f st with
      | bad => rw [ee] at po; exact po
      | ex c s1 => rw [ee] at po; exact po
      | ok d s1 =>
        rw [ee] at po
        simp only [Rs.bind] at po
        intro y G1 H1 L1 m1 r1 rp
        split at po
        · rename_i ds es2 eg1
          obtain ⟨A, Li, B, eL, ow, back⟩ := later G1 H1 L1 s1 _ m1 r1 eg1
          simp only [Rp] at rp
          obtain ⟨b, zs, rfl, hb, rpz⟩ := rp
          split at po
          · rename_i hlen
            obtain ⟨l, xs, rfl, hH, rpl, wr⟩ := Pl.wl (q := q) r1 eL ow back
            obtain ⟨r2, m2⟩ := wr (ds ++ es2) (xs ++ zs) (rpl.app rpz)
            exact ⟨l, b, xs, zs, rfl, rfl, hH, r1.gh _ _ hb, by rw [rpl.len, rpz.len]; exact hlen, po .non G1 _ [] L1 (m1.trans m2) r2 (by simp only [Ow, Rp]; exact ⟨trivial, trivial⟩) (fun a z => by simp at z) (by simpa using r2.nd)⟩
          · exact po.elim
        · exact po.elim
  · exact po.elim
/-- xs[i] = v, as a target -/
def gSet (get : S → Option SV) (set : SV → S → S) (fi : S → Rs D) : SV → S → Rs Unit := fun sv s => match get s with
  | some (.ol _) => (fi s).bind fun i s1 => match get s1, i with
    | some (.ol ds), .int k => match ixN ds.length k with
      | some j => .ok () (set (.ol (ds.set j (frz sv))) s1)
      | none => .bad
    | _, _ => .bad
  | _ => .bad
theorem ig_item {get : S → Option SV} {set : SV → S → S} {i : Expr} {fi : S → Rs D} (pl : Pl q X cls σ0 o get set) (hi : IV q X cls σ0 W i fi) (hp : ∀ to ti, PE X o to → PE X i ti → PG X (.Subscript o i pos) (gSub to ti rSetL)) : IG X cls σ0 W (.Subscript o i pos) (gSet get set fi) := by
  obtain ⟨t, p, ql⟩ := pl.ex
  obtain ⟨ti, pi, qi⟩ := hi.ex
  refine ⟨_, hp _ _ p pi, fun v sv σ G H st L Lv Q r ow nd po => ?_⟩
  unfold gSet at po
  split at po
  · rename_i ds0 eg
    -- the value frozen first
    have n := List.nodup_append.mp nd
    have dis : ∀ a ∈ L, a ∉ Lv := fun a ha z => n.2.2 a ha a z rfl
    have gg := addG_up (L := Lv) r.gh
    have dn := addG_dn (L := Lv) r.gh
    have r0 : R (cy X cls) σ0 (addG G H Lv) H σ st L := ⟨dn, r.ow.frame gg fun a ha => ⟨rfl, by rw [addG_out (dis a ha)]; exact (r.ow.there a ha).2⟩, r.nd, r.pr, r.fl⟩
    have rpv := ow.frz r.gh
    have m0 : Mv false (L ++ Lv) G H (addG G H Lv) H L := ⟨gg, fun _ _ h _ => h, fun a h k => addG_out fun z => k (List.mem_append_right _ z), fun a ha => .inl (List.mem_append_left _ ha), fun _ _ _ _ _ h => h⟩
    obtain ⟨w, Lw, hw, ow0, later⟩ := ql σ _ H st L _ r0 eg
    refine hw _ (qi σ _ H st L _ r0 ?_)
    cases ee : fi st with
    | bad => rw [ee] at po; exact po
    | ex c s1 => rw [ee] at po; exact fun d G' H' L' m r' => po d σ G' H' L' (m0.trans m.low) r'
    | ok d s1 =>
      rw [ee] at po
      simp only [Rs.bind] at po
      intro y G1 H1 L1 m1 r1 rp
      split at po
      · rename_i ds k eg1
        obtain ⟨A, Li, B, eL, ow1, back⟩ := later G1 H1 L1 s1 _ m1 r1 eg1
        simp only [Rp] at rp
        split at po
        · rename_i j ej
          obtain ⟨l, xs, rfl, hH, rpl, wr⟩ := Pl.wl (q := false) r1 eL ow1 back
          obtain ⟨r2, m2⟩ := wr (ds.set j (frz sv)) (xs.set j v) (rpl.set (rpv.mono m1.gg) j)
          exact ⟨l, xs, k, j, rfl, rp, hH, by rw [rpl.len]; exact ej, po σ G1 _ L1 (m0.trans (m1.low.trans m2)) r2⟩
        · exact po.elim
      · exact po.elim
  · exact po.elim
end
end DV
namespace DV
open PySem L2

/-! ### lists of data -/
def evL : List (S → Rs D) → S → Rs (List D)
  | [], s => .ok [] s
  | f :: fs, s => (f s).bind fun d s1 => (evL fs s1).bind fun ds s2 => .ok (d :: ds) s2
def PostL (q : Bool) (C : Cy) (σ0 : Z) (W : WX) (σ : St) (L : List Addr) (G H : Hp) (Q : List V → Hp → Prop) : Rs (List D) → Prop
  | .ok ds st => ∀ vs G' H' L', Mv q L G H G' H' L' → R C σ0 G' H' σ st L' → RpL C G' ds vs → Q vs H'
  | .ex c st => ∀ d G' H' L', Mv q L G H G' H' L' → R C σ0 G' H' σ st L' → W (.ref (C.cls c)) d σ H'
  | .bad => False
theorem PostL.shift {q : Bool} {C : Cy} {σ0 : Z} {W : WX} {σ : St} {L L1 : List Addr} {G H G1 H1 : Hp} {Q : List V → Hp → Prop} (m : Mv q L G H G1 H1 L1) {r : Rs (List D)} (h : PostL q C σ0 W σ L G H Q r) : PostL q C σ0 W σ L1 G1 H1 Q r := by
  cases r with
  | ok sv st => exact fun v G' H' L' n r ow => h v G' H' L' (m.trans n) r ow
  | ex c st => exact fun d G' H' L' n r => h d G' H' L' (m.trans n) r
  | bad => exact h
structure IL (q : Bool) (X : Cx) (cls : Nat → Addr) (σ0 : Z) (W : WX) (es : List Expr) (fs : List (S → Rs D)) : Prop where
  ex : ∃ t, PA X es t ∧ ∀ σ G H st L Q, R (cy X cls) σ0 G H σ st L → PostL q (cy X cls) σ0 W σ L G H Q (evL fs st) → t σ H Q
section
variable {q : Bool} {X : Cx} {cls : Nat → Addr} {σ0 : Z} {W : WX} {e o : Expr} {es : List Expr} {pos : Pos}
theorem il_nil : IL q X cls σ0 W [] [] := by
  refine ⟨_, pa_nil, fun σ G H st L Q r po => po [] G H L Mv.refl r ?_⟩
  simp only [RpL]
theorem il_cons {f : S → Rs D} {fs : List (S → Rs D)} (h : IV q X cls σ0 W e f) (k : IL q X cls σ0 W es fs) (hs : starEach (e :: es) X.env = (false, eval e X.env) :: starEach es X.env := by rfl) : IL q X cls σ0 W (e :: es) (f :: fs) := by
  obtain ⟨t1, p1, q1⟩ := h.ex
  obtain ⟨t2, p2, q2⟩ := k.ex
  refine ⟨_, pa_cons p1 p2 hs, fun σ G H st L Q r po => q1 σ G H st L _ r ?_⟩
  simp only [evL] at po
  cases ef : f st with
  | bad => rw [ef] at po; exact po
  | ex c s1 => rw [ef] at po; exact po
  | ok d s1 =>
    rw [ef] at po
    simp only [Rs.bind] at po
    intro x G1 H1 L1 m1 r1 rp
    refine q2 σ G1 H1 s1 L1 _ r1 ?_
    cases ea : evL fs s1 with
    | bad => rw [ea] at po; exact po
    | ex c s2 => rw [ea] at po; exact PostL.shift (Q := fun _ _ => True) (r := .ex c s2) m1 po
    | ok ds s2 =>
      rw [ea] at po
      intro xs G2 H2 L2 m2 r2 rpl
      refine po (x :: xs) G2 H2 L2 (m1.trans m2) r2 ?_
      simp only [RpL]
      exact ⟨x, xs, rfl, rp.mono m2.gg, rpl⟩
def dN (op : List D → Option SV) (fs : List (S → Rs D)) : S → Rs SV := fun s => (evL fs s).bind fun ds s1 => match op ds with
  | some sv => .ok sv s1
  | none => .bad
theorem nR {r : List V → Hp → VK → Prop} {op : List D → Option SV} {fs : List (S → Rs D)} {t : TA} (qa : ∀ σ G H st L Q, R (cy X cls) σ0 G H σ st L → PostL q (cy X cls) σ0 W σ L G H Q (evL fs st) → t σ H Q) (hs : SdN (cy X cls) r op) :
    ∀ σ G H st L Q, R (cy X cls) σ0 G H σ st L → PostV q (cy X cls) σ0 W σ L G H Q (dN op fs st) → tCB r t σ H Q := by
  intro σ G H st L Q hr po
  refine qa σ G H st L _ hr ?_
  unfold dN at po
  cases ea : evL fs st with
  | bad => rw [ea] at po; exact po
  | ex c s1 => rw [ea] at po; exact po
  | ok ds s1 =>
    rw [ea] at po
    simp only [Rs.bind] at po
    intro vs G1 H1 L1 m1 r1 rp
    cases eo : op ds with
    | none => rw [eo] at po; exact po.elim
    | some sv =>
      rw [eo] at po
      exact hs G1 H1 vs ds sv Q r1.gh rp eo (fin_of m1 r1 po)
theorem ix_callB {r : List V → Hp → VK → Prop} {op : List D → Option SV} {fs : List (S → Rs D)} {id : String} {x : Str} {p : Pos} (hc : CallR X (.builtin id) r) (hs : SdN (cy X cls) r op) (hg : Gl X x) (hm : X.mg x = none) (hv : bootBuiltins x = some (.builtin id)) (ha : IL q X cls σ0 W (e :: es) fs) (hn : x ≠ "__name__" := by decide) (hdb : (x == ("__debug__" : Str)) = false := by decide)
    (he : starEach (e :: es) X.env = (false, eval e X.env) :: starEach es X.env := by rfl) (hpl : (backTo pos (starEach es X.env)).any (·.1) = false := by rfl) : IX q X cls σ0 W (.Call (.Name x p) (e :: es) [] pos) (dN op fs) := by
  obtain ⟨t, pa, qa⟩ := ha.ex
  exact ⟨_, pe_callB hc hg hm hv pa hn hdb he hpl, nR qa hs⟩
theorem ix_callTy {r : List V → Hp → VK → Prop} {op : List D → Option SV} {fs : List (S → Rs D)} {T : String} {x : Str} {p : Pos} (hc : CallR X (.type T) r) (hs : SdN (cy X cls) r op) (hg : Gl X x) (hm : X.mg x = none) (hv : bootBuiltins x = some (.type T)) (ha : IL q X cls σ0 W (e :: es) fs) (hn : x ≠ "__name__" := by decide) (hdb : (x == ("__debug__" : Str)) = false := by decide)
    (he : starEach (e :: es) X.env = (false, eval e X.env) :: starEach es X.env := by rfl) (hpl : (backTo pos (starEach es X.env)).any (·.1) = false := by rfl) : IX q X cls σ0 W (.Call (.Name x p) (e :: es) [] pos) (dN op fs) := by
  obtain ⟨t, pa, qa⟩ := ha.ex
  exact ⟨_, pe_callTy hc hg hm hv pa hn hdb he hpl, nR qa hs⟩
/-- displays -/
def oTup : List D → Option SV := fun ds => if ds.length ≤ sizeLine then some (.im (.tup ds)) else none
def oLst : List D → Option SV := fun ds => if ds.length ≤ sizeLine then some (.ol ds) else none
theorem ix_tup {x1} {fs : List (S → Rs D)} (ha : IL q X cls σ0 W es fs) : IX q X cls σ0 W (.Tuple es x1 pos) (dN oTup fs) := by
  obtain ⟨t, pa, qa⟩ := ha.ex
  refine ⟨_, pe_tup pa, fun σ G H st L Q r po => ?_⟩
  refine nR (r := fun xs H1 Q => xs.length ≤ sizeLine ∧ ∀ p, H1 p = none → Q (.ref p) (upd H1 p (.tup xs))) qa (fun G H xs ds sv Q gh rp eo fin => ?_) σ G H st L Q r po
  unfold oTup at eo
  split at eo
  · rename_i hl
    cases eo
    exact ⟨by rw [rp.len]; exact hl, fun p hp => fin.tup gh hp rp⟩
  · cases eo
theorem ix_lst {fs : List (S → Rs D)} (ha : IL q X cls σ0 W es fs) : IX q X cls σ0 W (.List es pos) (dN oLst fs) := by
  obtain ⟨t, pa, qa⟩ := ha.ex
  refine ⟨_, pe_lst pa, fun σ G H st L Q r po => ?_⟩
  refine nR (r := fun xs H1 Q => xs.length ≤ sizeLine ∧ ∀ p, H1 p = none → Q (.ref p) (upd H1 p (.lst xs))) qa (fun G H xs ds sv Q gh rp eo fin => ?_) σ G H st L Q r po
  unfold oLst at eo
  split at eo
  · rename_i hl
    cases eo
    exact ⟨by rw [rp.len]; exact hl, fun p hp => fin.ol gh hp rp⟩
  · cases eo
/-- slices -/
def SdS (C : Cy) (r : V → Option Int → Option Int → Hp → VK → Prop) (op : D → Option Int → Option Int → Option SV) : Prop := ∀ G H x d lo hi sv Q, Same G H → Bw C G H d x → op d lo hi = some sv → Fin C G H sv Q → r x lo hi H Q
def evP : Option (S → Rs D) → S → Rs (Option Int)
  | none, s => .ok none s
  | some f, s => (f s).bind fun d s1 => match d with
    | .int i => .ok (some i) s1
    | _ => .bad
structure IP (q : Bool) (X : Cx) (cls : Nat → Addr) (σ0 : Z) (W : WX) (e : Option Expr) (f : Option (S → Rs D)) : Prop where
  ex : ∃ t, PO X e t ∧ ∀ σ G H st L (Q : Option Int → Hp → Prop), R (cy X cls) σ0 G H σ st L → (match evP f st with
    | .ok k st1 => ∀ G' H' L', Mv q L G H G' H' L' → R (cy X cls) σ0 G' H' σ st1 L' → Q k H'
    | .ex c st1 => ∀ d G' H' L', Mv q L G H G' H' L' → R (cy X cls) σ0 G' H' σ st1 L' → W (.ref (cls c)) d σ H'
    | .bad => False) → t σ H Q
theorem ip_none : IP q X cls σ0 W none none := ⟨_, po_none, fun σ G H st L Q r po => po G H L Mv.refl r⟩
theorem ip_some {f : S → Rs D} (h : IV q X cls σ0 W e f) : IP q X cls σ0 W (some e) (some f) := by
  obtain ⟨t, p, qh⟩ := h.ex
  refine ⟨_, po_some p, fun σ G H st L Q r po => qh σ G H st L _ r ?_⟩
  simp only [evP] at po
  cases ef : f st with
  | bad => rw [ef] at po; exact po
  | ex c s1 => rw [ef] at po; exact po
  | ok d s1 =>
    rw [ef] at po
    simp only [Rs.bind] at po
    intro v G' H' L' m r' rp
    cases d with
    | int i =>
      simp only [Rp] at rp
      exact ⟨i, rp, po G' H' L' m r'⟩
    | _ => exact po.elim
def dSl (op : D → Option Int → Option Int → Option SV) (f : S → Rs D) (lo hi : Option (S → Rs D)) : S → Rs SV := fun s => (f s).bind fun d s1 => (evP lo s1).bind fun l s2 => (evP hi s2).bind fun h s3 => match op d l h with
  | some sv => .ok sv s3
  | none => .bad
theorem ix_slice {r : V → Option Int → Option Int → Hp → VK → Prop} {op : D → Option Int → Option Int → Option SV} {f : S → Rs D} {lo hi : Option Expr} {fl fh : Option (S → Rs D)} {p2 : Pos} (hr : SlR X r) (hs : SdS (cy X cls) r op) (he : IV q X cls σ0 W e f) (hl : IP q X cls σ0 W lo fl) (hh : IP q X cls σ0 W hi fh) :
    IX q X cls σ0 W (.Subscript e (.Slice lo hi none p2) pos) (dSl op f fl fh) := by
  obtain ⟨t1, p1, q1⟩ := he.ex
  obtain ⟨t2, p2, q2⟩ := hl.ex
  obtain ⟨t3, p3, q3⟩ := hh.ex
  refine ⟨_, pe_slice hr p1 p2 p3, fun σ G H st L Q r0 po => q1 σ G H st L _ r0 ?_⟩
  unfold dSl at po
  cases ef : f st with
  | bad => rw [ef] at po; exact po
  | ex c s1 => rw [ef] at po; exact po
  | ok d s1 =>
    rw [ef] at po
    simp only [Rs.bind] at po
    intro v G1 H1 L1 m1 r1 rp
    refine q2 σ G1 H1 s1 L1 _ r1 ?_
    cases el : evP fl s1 with
    | bad => rw [el] at po; exact po
    | ex c s2 => rw [el] at po; exact fun d G' H' L' m r' => po d G' H' L' (m1.trans m) r'
    | ok l s2 =>
      rw [el] at po
      simp only at po
      intro G2 H2 L2 m2 r2
      refine q3 σ G2 H2 s2 L2 _ r2 ?_
      cases eh : evP fh s2 with
      | bad => rw [eh] at po; exact po
      | ex c s3 => rw [eh] at po; exact fun d G' H' L' m r' => po d G' H' L' ((m1.trans m2).trans m) r'
      | ok h s3 =>
        rw [eh] at po
        simp only at po
        intro G3 H3 L3 m3 r3
        cases eo : op d l h with
        | none => rw [eo] at po; exact po.elim
        | some sv =>
          rw [eo] at po
          exact hs G3 H3 v d l h sv Q r3.gh ((rp.mono (m2.gg.trans m3.gg)).bw r3.gh) eo (fin_of ((m1.trans m2).trans m3) r3 po)

/-! ### comprehensions -/
def lcL (i : Nat) (t : S → Rs Bool) (el : S → Rs D) : List D → S → Rs (List D)
  | [], s => .ok [] s
  | d :: ds, s => match setF i (.im d) s with
    | none => .bad
    | some s1 => match t s1 with
      | .ok b s2 => if b then (match el s2 with
          | .ok y s3 => (lcL i t el ds (s3.set i ⟨false, none⟩)).bind fun r s4 => .ok (y :: r) s4
          | _ => .bad)
        else lcL i t el ds (s2.set i ⟨false, none⟩)
      | _ => .bad
/-- the comprehension's own name is free -/
def freeAt (i : Nat) (s : S) : Bool := match s[i]? with
  | some ⟨false, none⟩ => true
  | some ⟨false, some (.im _)⟩ => true
  | _ => false
def noEx {α : Type} : Rs α → Rs α
  | .ok a s => .ok a s
  | _ => .bad
def dComp (i : Nat) (it : S → Rs (List D)) (t : S → Rs Bool) (el : S → Rs D) : S → Rs SV := fun s => (it s).bind fun ds s1 => if freeAt i s1 then match lcL i t el ds (s1.set i ⟨false, none⟩) with
    | .ok r s2 => if r.length ≤ sizeLine then .ok (.ol r) s2 else .bad
    | _ => .bad
  else .bad
def W0 : WX := fun _ _ _ _ => False
theorem wipe1 {σ : St} {i : Nat} : wipe σ [i] = σ.set i none := rfl
theorem R.wipe {C : Cy} {G H : Hp} {σ : St} {st : S} {L : List Addr} {i : Nat} (r : R C σ0 G H σ st L) (hf : freeAt i st = true) : R C σ0 G H (σ.set i none) (st.set i ⟨false, none⟩) L := by
  unfold freeAt at hf
  cases es : st[i]? with
  | none => rw [es] at hf; cases hf
  | some u =>
    obtain ⟨p, o⟩ := u
    obtain ⟨o1, A, Li, B, eo, rfl, ow, back⟩ := r.ow.focus es
    have hp : p = false := by
      rw [es] at hf
      cases p with
      | false => rfl
      | true => cases hf
    subst hp
    have e0 : Li = [] := by
      cases o with
      | none => exact ow
      | some sv =>
        cases sv with
        | im d =>
          obtain ⟨v, _, ow⟩ := ow
          simp only [Ow] at ow
          exact ow.1
        | _ => rw [es] at hf; cases hf
    subst e0
    refine ⟨r.gh, back G H (Same.refl _) (fun a ha => ⟨rfl, (r.ow.there a (by simpa using ha)).2⟩) ⟨false, none⟩ none [] rfl, r.nd, fun j u hj hpj => ?_, (R.flset (s' := ⟨false, none⟩) es rfl).trans r.fl⟩
    by_cases z : i = j
    · subst z
      have hl : i < st.length := (List.getElem?_eq_some_iff.mp es).1
      rw [List.getElem?_set_self hl] at hj
      cases hj
      cases hpj
    · rw [List.getElem?_set_ne z] at hj ⊢
      exact r.pr j u hj hpj
theorem OwS.any {C : Cy} {G H : Hp} : ∀ {st : S} {σ : St} {L : List Addr} {i : Nat} {p : Bool} (v : Option V), OwS C G H st σ L → st[i]? = some ⟨p, none⟩ → OwS C G H st (σ.set i v) L
  | [], σ, L, i, p, v, h, k => by simp at k
  | _ :: _, [], L, i, p, v, h, k => h.elim
  | s :: ss, o :: os, L, 0, p, v, h, k => by
    simp at k
    subst k
    obtain ⟨L1, L2, rfl, h1, h2⟩ := h
    exact ⟨L1, L2, rfl, h1, h2⟩
  | s :: ss, o :: os, L, i + 1, p, v, h, k => by
    obtain ⟨L1, L2, rfl, h1, h2⟩ := h
    exact ⟨L1, L2, rfl, h1, OwS.any v h2 (by simpa using k)⟩
/-- forgetting, both ways: slot i holds nothing that this layer knows -/
theorem R.any {C : Cy} {G H : Hp} {σ : St} {st : S} {L : List Addr} {i : Nat} (r : R C σ0 G H σ st L) (hi : st[i]? = some ⟨false, none⟩) (v : Option V) : R C σ0 G H (σ.set i v) st L := by
  refine ⟨r.gh, r.ow.any v hi, r.nd, fun j u hj hp => ?_, r.fl⟩
  by_cases z : i = j
  · subst z
    rw [hi] at hj
    cases hj
    cases hp
  · rw [List.getElem?_set_ne z]
    exact r.pr j u hj hp
theorem R.drop {C : Cy} {G H : Hp} {σ : St} {st : S} {L : List Addr} {i : Nat} {u : Sl} (r : R C σ0 G H σ st L) (hi : st[i]? = some u) (hp : u.pr = false) : ∃ L', R C σ0 G H (σ.set i none) (st.set i ⟨false, none⟩) L' ∧ ∀ a ∈ L', a ∈ L := by
  obtain ⟨p, o⟩ := u
  obtain rfl : p = false := hp
  obtain ⟨o1, A, Li, B, eo, rfl, ow, back⟩ := r.ow.focus hi
  have hAB : ∀ a ∈ A ++ B, a ∈ A ++ (Li ++ B) := fun a ha => by
    rcases List.mem_append.mp ha with z | z
    · exact List.mem_append_left _ z
    · exact List.mem_append_right _ (List.mem_append_right _ z)
  have n1 := List.nodup_append.mp r.nd
  have n2 := List.nodup_append.mp n1.2.1
  refine ⟨A ++ ([] ++ B), ⟨r.gh, back G H (Same.refl _) (fun a ha => ⟨rfl, (r.ow.there a (hAB a ha)).2⟩) ⟨false, none⟩ none [] rfl, ?_, fun j w hj hpj => ?_, (R.flset (s' := ⟨false, none⟩) hi rfl).trans r.fl⟩, fun a ha => hAB a (by simpa using ha)⟩
  · exact List.nodup_append.mpr ⟨n1.1, n2.2.1, fun a ha b hb => n1.2.2 a ha b (List.mem_append_right _ hb)⟩
  · by_cases z : i = j
    · subst z
      have hl : i < st.length := (List.getElem?_eq_some_iff.mp hi).1
      rw [List.getElem?_set_self hl] at hj
      cases hj
      cases hpj
    · rw [List.getElem?_set_ne z] at hj ⊢
      exact r.pr j w hj hpj
theorem Mv.cons {L L' : List Addr} {G H G' H' : Hp} {D : Addr} {o : HO} (m : Mv q L G H G' H' L') (h1 : D ∉ L) (h2 : H D = some o) (h3 : G D = none) : H' D = some o ∧ G' D = none ∧ D ∉ L' ∧ Mv q (D :: L) G H G' H' (D :: L') := by
  have e1 := m.hh D o h2 h1
  refine ⟨e1, by rw [m.fr D (by rw [h2]; simp) h1]; exact h3, fun z => ?_, m.gg, fun b u h k => m.hh b u h fun z => k (List.mem_cons_of_mem _ z), fun a h k => m.fr a h fun z => k (List.mem_cons_of_mem _ z), fun a ha => ?_, m.ob⟩
  · rcases m.ll D z with y | y
    · exact h1 y
    · rw [h2] at y; cases y
  · rcases List.mem_cons.mp ha with z | z
    · exact .inl (by rw [z]; exact List.mem_cons_self)
    · exact (m.ll a z).imp (List.mem_cons_of_mem _) id
theorem R.updD {C : Cy} {G H : Hp} {σ : St} {st : S} {L : List Addr} {D : Addr} (o : HO) (r : R C σ0 G H σ st L) (h1 : D ∉ L) (h3 : G D = none) : R C σ0 G (upd H D o) σ st L := by
  refine ⟨fun b u h => ?_, r.ow.frame (Same.refl _) fun a ha => ⟨upd_ne ?_, (r.ow.there a ha).2⟩, r.nd, r.pr, r.fl⟩
  · rw [upd_ne]
    · exact r.gh b u h
    · intro z; subst z; rw [h3] at h; cases h
  · intro z; subst z; exact h1 ha
theorem Mv.updD {L : List Addr} {G H : Hp} {D : Addr} {xs ys : List V} (h : H D = some (.lst xs)) : Mv q (D :: L) G H G (upd H D (.lst ys)) (D :: L) := by
  refine ⟨Same.refl _, fun b u e k => ?_, fun _ _ _ => rfl, fun a ha => .inl ha, fun _ p c dx fs e => ?_⟩
  · rw [upd_ne]
    · exact e
    · intro z; subst z; exact k List.mem_cons_self
  · rw [upd_ne]
    · exact e
    · intro z; subst z; rw [h] at e; cases e
theorem Mv.newD {L : List Addr} {G H : Hp} {D : Addr} {o : HO} (h : H D = none) : Mv q L G H G (upd H D o) (D :: L) := by
  refine ⟨Same.refl _, fun b u e k => by rw [upd_ne (ne_of_none e h)]; exact e, fun _ _ _ => rfl, fun a ha => ?_, fun _ p c dx fs e => by rw [upd_ne (ne_of_none e h)]; exact e⟩
  rcases List.mem_cons.mp ha with z | z
  · exact .inr (by rw [z]; exact h)
  · exact .inl z
structure IWt (q : Bool) (X : Cx) (cls : Nat → Addr) (σ0 : Z) (ifs : List Expr) (t : S → Rs Bool) : Prop where
  ex : ∃ tt, (∀ (s : Shared) (H : Hp) (scope : Scope) (C : Addr) (cl : List (Str × Addr)) (fp : List Addr), True) ∧ PTs X ifs tt ∧ ∀ σ G H st L Q, R (cy X cls) σ0 G H σ st L → PostB q (cy X cls) σ0 W0 σ L G H Q (t st) → tt σ H Q
def tTrue : S → Rs Bool := fun s => .ok true s
abbrev DL := List D
/-- the comprehension's reading -/
theorem compR {i : Nat} {it : S → Rs DL} {t : S → Rs Bool} {el : S → Rs D} {wi : TI} {tt : TT} {te : TE}
    (qi : ∀ σ G H st L Q, R (cy X cls) σ0 G H σ st L → PostI q (cy X cls) σ0 W σ L G H Q (it st) → wi σ H Q) (qt : ∀ σ G H st L Q, R (cy X cls) σ0 G H σ st L → PostB q (cy X cls) σ0 W0 σ L G H Q (t st) → tt σ H Q)
    (qe : ∀ σ G H st L Q, R (cy X cls) σ0 G H σ st L → PostD q (cy X cls) σ0 W0 σ L G H Q (el st) → te σ H Q) :
    ∀ σ G H st L Q, R (cy X cls) σ0 G H σ st L → PostV q (cy X cls) σ0 W σ L G H Q (dComp i it t el st) → tLc wi (gName i) tt te [i] σ H Q := by
  intro σ G H st L Q r po
  refine qi σ G H st L _ r ?_
  unfold dComp at po
  cases ei : it st with
  | bad => rw [ei] at po; exact po
  | ex c s1 => rw [ei] at po; exact po
  | ok ds s1 =>
    rw [ei] at po
    simp only [Rs.bind] at po
    intro J G0 H0 L0 m0 r0 w0 D hD
    split at po
    case isFalse => exact po.elim
    rename_i hf
    have rw0 := r0.wipe hf
    have hDL : D ∉ L0 := fun z => (r0.ow.there D z).1 hD
    have hGD : G0 D = none := r0.gh.free hD
    have hlen : i < s1.length := by
      unfold freeAt at hf
      cases es : s1[i]? with
      | none => rw [es] at hf; cases hf
      | some u => exact (List.getElem?_eq_some_iff.mp es).1
    let fin : DL → Rs DL → Prop := fun ads r => PostV q (cy X cls) σ0 W σ L G H Q (match r with
      | .ok r s2 => if (ads ++ r).length ≤ sizeLine then .ok (.ol (ads ++ r)) s2 else .bad
      | _ => .bad)
    let P : Nat → Hp → Prop := fun n H1 => ∃ G1 L1 st1 acc ads, Same G0 G1 ∧ Mv q L G H G1 H1 (D :: L1) ∧ R (cy X cls) σ0 G1 H1 (σ.set i none) st1 L1 ∧ D ∉ L1 ∧ G1 D = none ∧ H1 D = some (.lst acc) ∧ RpL (cy X cls) G1 ads acc ∧ st1[i]? = some ⟨false, none⟩ ∧ fin ads (lcL i t el (ds.drop n) st1)
    have start : P 0 (upd H0 D (.lst [])) := ⟨G0, L0, _, [], [], Same.refl _, m0.trans (Mv.newD hD), rw0.updD _ hDL hGD, hDL, hGD, upd_same, by simp only [RpL], List.getElem?_set_self hlen, (by simp only [fin, List.drop_zero, List.nil_append]; exact po)⟩
    refine ⟨fun n m H1 => m = ds.length - n ∧ n ≤ ds.length ∧ P n H1, ⟨ds.length, by simp, Nat.zero_le _, start⟩, ?_⟩
    rintro n m H1 ⟨rfl, hn, G1, L1, st1, acc, ads, e1, m1, r1, hD1, hG1, hH1, rpa, hs1, po1⟩
    have wk := w0.mono e1
    by_cases hlt : n < ds.length
    · refine .inr ⟨wk.go n H1 r1.gh hlt, fun H' => P (n + 1) H', fun H' h => ⟨ds.length - (n + 1), by omega, rfl, hlt, h⟩, fun y H' yy => ?_⟩
      obtain ⟨rfl, d, ed, rpy⟩ := wk.yl n H1 y H' r1.gh hlt yy
      have edrop : ds.drop n = d :: ds.drop (n + 1) := by
        rw [List.drop_eq_getElem_cons hlt]
        rw [List.getElem?_eq_getElem hlt] at ed
        rw [Option.some.inj ed]
      rw [edrop] at po1
      simp only [lcL] at po1
      have hset : setF i (.im d) st1 = some (st1.set i ⟨false, some (.im d)⟩) := by unfold setF; rw [hs1]
      rw [hset] at po1
      simp only at po1
      obtain ⟨L2, r2, hl2⟩ := r1.put (Lv := []) (v := y) (by simp only [Ow]; exact ⟨trivial, rpy⟩) (by simpa using r1.nd) hset
      have hl2' : ∀ a ∈ L2, a ∈ L1 := fun a ha => (hl2 a ha).elim id fun z => by simp at z
      have hD2 : D ∉ L2 := fun z => hD1 (hl2' D z)
      refine ⟨?_, qt _ G1 _ _ L2 _ r2 ?_⟩
      · show wipe (((wipe σ [i])).set i (some y)) [i] = wipe σ [i]
        simp [wipe1, List.set_set]
      have m12 : Mv q L G H G1 _ (D :: L2) := ⟨m1.gg, m1.hh, m1.fr, fun a ha => m1.ll a (by
        rcases List.mem_cons.mp ha with z | z
        · rw [z]; exact List.mem_cons_self
        · exact List.mem_cons_of_mem _ (hl2' a z)), m1.ob⟩
      -- the end of a turn
      have turn : ∀ (s3 : S) (G3 H3 : Hp) (L3 : List Addr) (accs : List V) (adss : DL), Same G1 G3 → Mv q L G H G3 H3 (D :: L3) → R (cy X cls) σ0 G3 H3 ((σ.set i none).set i (some y)) s3 L3 → D ∉ L3 → G3 D = none → H3 D = some (.lst accs) → RpL (cy X cls) G3 adss accs → fin adss (lcL i t el (ds.drop (n + 1)) (s3.set i ⟨false, none⟩)) → P (n + 1) H3 := by
        intro s3 G3 H3 L3 accs adss e3 m3 r3 hD3 hG3 hH3 rp3 po3
        have hfl : s3.map (·.pr) = st1.map (·.pr) := r3.fl.trans r1.fl.symm
        have hl3 : i < s3.length := by
          have := congrArg List.length hfl
          simp only [List.length_map] at this
          have h1 : i < st1.length := (List.getElem?_eq_some_iff.mp hs1).1
          omega
        have hp3 : (s3[i]).pr = false := by
          have e5 : (s3.map (·.pr))[i]? = (st1.map (·.pr))[i]? := by rw [hfl]
          rw [List.getElem?_map, List.getElem?_map, hs1, List.getElem?_eq_getElem hl3] at e5
          simpa using e5
        obtain ⟨L4, r4, hl4⟩ := r3.drop (List.getElem?_eq_getElem hl3) hp3
        rw [List.set_set, List.set_set] at r4
        exact ⟨G3, L4, _, accs, adss, e1.trans e3, ⟨m3.gg, m3.hh, m3.fr, fun a ha => m3.ll a (by
          rcases List.mem_cons.mp ha with z | z
          · rw [z]; exact List.mem_cons_self
          · exact List.mem_cons_of_mem _ (hl4 a z)), m3.ob⟩, r4, fun z => hD3 (hl4 D z), hG3, hH3, rp3, List.getElem?_set_self hl3, po3⟩
      cases et : t (st1.set i ⟨false, some (.im d)⟩) with
      | bad => rw [et] at po1; exact po1
      | ex c s2 => rw [et] at po1; exact po1.elim
      | ok b s2 =>
        rw [et] at po1
        simp only at po1
        intro G3 H3 L3 m3 r3
        obtain ⟨f1, f2, f3, f4⟩ := m3.cons hD2 hH1 hG1
        cases b with
        | false =>
          refine iteF (turn s2 G3 H3 L3 acc ads m3.gg (m12.trans f4) r3 f3 f2 f1 (rpa.mono m3.gg) ?_)
          simpa using po1
        | true =>
          simp only [if_true] at po1
          refine iteT (qe _ G3 H3 s2 L3 _ r3 ?_)
          cases ee : el s2 with
          | bad => rw [ee] at po1; exact po1
          | ex c s3 => rw [ee] at po1; exact po1.elim
          | ok yd s3 =>
            rw [ee] at po1
            simp only at po1
            intro w G4 H4 L4 m4 r4 rpw
            obtain ⟨g1, g2, g3, g4⟩ := m4.cons f3 f1 f2
            have e4 := m3.gg.trans m4.gg
            have hlen4 : acc.length < sizeLine := by
              rw [rpa.len]
              simp only [fin] at po1
              cases er : lcL i t el (ds.drop (n + 1)) (s3.set i ⟨false, none⟩) with
              | bad => rw [er] at po1; exact po1.elim
              | ex c s => rw [er] at po1; exact po1.elim
              | ok rr s =>
                rw [er] at po1
                simp only [Rs.bind] at po1
                split at po1
                · rename_i hle
                  simp only [List.length_append, List.length_cons] at hle
                  omega
                · exact po1.elim
            refine ⟨acc, g1, hlen4, ?_⟩
            refine turn s3 G4 _ L4 (acc ++ [w]) (ads ++ [yd]) e4 (((m12.trans f4).trans g4).trans (Mv.updD g1)) (r4.updD _ g3 g2) g3 g2 upd_same ((rpa.mono e4).app (by simp only [RpL]; exact ⟨w, [], rfl, rpw, rfl⟩)) ?_
            simp only [fin] at po1 ⊢
            cases er : lcL i t el (ds.drop (n + 1)) (s3.set i ⟨false, none⟩) with
            | bad => rw [er] at po1; exact po1.elim
            | ex c s => rw [er] at po1; exact po1.elim
            | ok rr s =>
              rw [er] at po1
              have ea : ads ++ [yd] ++ rr = ads ++ (yd :: rr) := by simp
              simp only [Rs.bind] at po1
              simp only [ea]
              exact po1
    · have en : n = ds.length := by omega
      subst en
      rw [List.drop_length] at po1
      simp only [lcL, fin, List.append_nil] at po1
      split at po1
      · have rσ : R (cy X cls) σ0 G1 H1 σ st1 L1 := by
          have h := r1.any hs1 (σ[i]?.getD none)
          rw [List.set_set] at h
          have hi2 : i < σ.length := by
            have h1 : i < st1.length := (List.getElem?_eq_some_iff.mp hs1).1
            have h2 := r1.ow.len
            rw [List.length_set] at h2
            omega
          have e6 : σ.set i (σ[i]?.getD none) = σ := set_same (by rw [List.getElem?_eq_getElem hi2]; rfl)
          rwa [e6] at h
        refine .inl ⟨wk.stop H1 r1.gh, po1 (.ref D) G1 H1 [D] L1 ⟨m1.gg, m1.hh, m1.fr, fun a ha => m1.ll a (List.mem_cons_of_mem _ ha), m1.ob⟩ rσ (by simp only [Ow]; exact ⟨D, acc, rfl, rfl, hG1, hH1, rpa⟩) (fun a ha => m1.ll a (by simp at ha; rw [ha]; exact List.mem_cons_self)) ?_⟩
        exact List.nodup_append.mpr ⟨r1.nd, by simp, fun a ha b hb z => by
          have hb' : b = D := by simpa using hb
          subst z
          rw [hb'] at ha
          exact hD1 ha⟩
      · exact po1.elim
end
end DV
namespace DV
open PySem L2

/-! ### operators by values -/
section
variable {X : Cx} {C : Cy}
theorem OpR.or {f : Value → Value → Sem Value} {r r' : R2} (h : OpR X f r) (h' : OpR X f r') : OpR X f (fun x y H Q => r x y H Q ∨ r' x y H Q) := by
  intro pins s σ H x y v u Q I rx ry q
  rcases q with q | q
  · exact h pins s σ H x y v u Q I rx ry q
  · exact h' pins s σ H x y v u Q I rx ry q
theorem CallR.or {f : Value} {r r' : List V → Hp → VK → Prop} (h : CallR X f r) (h' : CallR X f r') : CallR X f (fun xs H Q => r xs H Q ∨ r' xs H Q) := by
  intro pins s σ H xs us Q I rx q
  rcases q with q | q
  · exact h pins s σ H xs us Q I rx q
  · exact h' pins s σ H xs us Q I rx q

/-- x + y -/
def oAdd : D → D → Option SV
  | .int i, .int j => some (.im (.int (i + j)))
  | .str a, .str b => if a.length + b.length ≤ sizeLine then some (.im (.str (a ++ b))) else none
  | .lst a, .lst b => if a.length + b.length ≤ sizeLine then some (.ol (a ++ b)) else none
  | .tup a, .tup b => if a.length + b.length ≤ sizeLine then some (.im (.tup (a ++ b))) else none
  | _, _ => none
def rAddA (K : PySem.W.Frag) : R2 := fun x y H Q => (rI0 (fun i j => .int (i + j)) x y H Q ∨ (∃ i j, x = .str i ∧ y = .str j ∧ i.length + j.length ≤ sizeLine ∧ Q (.str (i ++ j)) H)) ∨ (rCat x y H Q ∨ rCatA K x y H Q)
theorem op_addA : OpR X (binaryOp .Add) (rAddA X.K) := (op_add.or op_add_str).or (op_cat.or op_catA)
theorem Fin.tupAt {G H : Hp} {Q : VK} {ds : List D} {xs : List V} {a : Addr} (gh : Same G H) (h : Fin C G H (.im (.tup ds)) Q) (ha : G a = some (.tup xs)) (r : RpL C G ds xs) : Q (.ref a) H :=
  h.im gh (by simp only [Rp]; exact ⟨a, xs, rfl, ha, r⟩)
end
/-- a tuple that is read can be told frozen: it never changes -/
theorem Fin.tupH {C : Cy} {G H : Hp} {Q : VK} {ds : List D} {xs : List V} {a : Addr} (h : Fin C G H (.im (.tup ds)) Q) (ha : G a = some (.tup xs)) (gh : Same G H) (r : RpL C G ds xs) : Q (.ref a) H :=
  h.im gh (by simp only [Rp]; exact ⟨a, xs, rfl, ha, r⟩)
/-- as Sd2, both operands frozen -/
def Sf2 (C : Cy) (r : R2) (op : D → D → Option SV) : Prop := ∀ G H x y d1 d2 sv Q, Same G H → Rp C G d1 x → Rp C G d2 y → op d1 d2 = some sv → Fin C G H sv Q → r x y H Q
section
variable {q : Bool} {X : Cx} {cls : Nat → Addr} {σ0 : Z} {W : WX}
theorem twoF {fa fb : S → Rs D} {ta tb : TE} {op : D → D → Option SV} {r : R2} (qa : ∀ σ G H st L Q, R (cy X cls) σ0 G H σ st L → PostD q (cy X cls) σ0 W σ L G H Q (fa st) → ta σ H Q)
    (qb : ∀ σ G H st L Q, R (cy X cls) σ0 G H σ st L → PostD q (cy X cls) σ0 W σ L G H Q (fb st) → tb σ H Q) (hs : Sf2 (cy X cls) r op) :
    ∀ σ G H st L Q, R (cy X cls) σ0 G H σ st L → PostV q (cy X cls) σ0 W σ L G H Q (d2 op fa fb st) → tOp r ta tb σ H Q := by
  intro σ G H st L Q hr po
  refine qa σ G H st L _ hr ?_
  unfold d2 at po
  cases ea : fa st with
  | bad => rw [ea] at po; exact po
  | ex c s1 => rw [ea] at po; exact po
  | ok x s1 =>
    rw [ea] at po
    intro v G1 H1 L1 m1 r1 rp1
    refine qb σ G1 H1 s1 L1 _ r1 ?_
    simp only [Rs.bind] at po
    cases eb : fb s1 with
    | bad => rw [eb] at po; exact po
    | ex c s2 => rw [eb] at po; exact PostD.shift (Q := fun _ _ => True) (r := .ex c s2) m1 po
    | ok y s2 =>
      rw [eb] at po
      simp only at po
      intro u G2 H2 L2 m2 r2 rp2
      cases eo : op x y with
      | none => rw [eo] at po; exact po.elim
      | some sv =>
        rw [eo] at po
        exact hs G2 H2 v u x y sv Q r2.gh (rp1.mono m2.gg) rp2 eo (fin_of (m1.trans m2) r2 po)
theorem ix_opF {op : Operator} {g : D → D → Option SV} {r : R2} {a b : Expr} {fa fb : S → Rs D} {pos : Pos} (ho : OpR X (binaryOp op) r) (hs : Sf2 (cy X cls) r g) (ha : IV q X cls σ0 W a fa) (hb : IV q X cls σ0 W b fb) : IX q X cls σ0 W (.BinOp a op b pos) (d2 g fa fb) := by
  obtain ⟨ta, pa, qa⟩ := ha.ex
  obtain ⟨tb, pb, qb⟩ := hb.ex
  exact ⟨_, pe_op ho pa pb, twoF qa qb hs⟩
end
section
variable {C : Cy}
theorem sf_add : Sf2 C (rAddA C.K) oAdd := by
  intro G H x y d1 d2 sv Q gh r1 r2 eo fin
  cases d1 <;> cases d2 <;> simp only [oAdd] at eo <;> (try cases eo)
  · -- ints
    simp only [Rp] at r1 r2
    exact .inl (.inl ⟨_, _, r1, r2, fin.im gh (by simp [Rp])⟩)
  · simp only [Rp] at r1 r2
    split at eo
    · rename_i hl
      cases eo
      exact .inl (.inr ⟨_, _, r1, r2, hl, fin.im gh (by simp [Rp])⟩)
    · cases eo
  · simp only [Rp] at r1 r2
    obtain ⟨a, xs, rfl, ha, ra⟩ := r1
    obtain ⟨b, ys, rfl, hb, rb⟩ := r2
    split at eo
    · rename_i hl
      cases eo
      exact .inr (.inl ⟨a, b, xs, ys, rfl, rfl, gh _ _ ha, gh _ _ hb, by rw [ra.len, rb.len]; exact hl, fun p hp => fin.ol gh hp (ra.app rb)⟩)
    · cases eo
  · simp only [Rp] at r1 r2
    obtain ⟨a, xs, rfl, ha, ra⟩ := r1
    obtain ⟨b, ys, rfl, hb, rb⟩ := r2
    split at eo
    · rename_i hl
      cases eo
      refine .inr (.inr ⟨a, b, xs, ys, rfl, rfl, SqT.of (gh _ _ ha), SqT.of (gh _ _ hb), by rw [ra.len, rb.len]; exact hl, fun z => ?_, fun _ z => ?_, fun _ _ p hp => fin.tup gh hp (ra.app rb)⟩)
      · exact fin.tupH hb gh (by have := ra.app rb; rw [z] at this; simpa using this)
      · exact fin.tupH ha gh (by have := ra.app rb; rw [z] at this; simpa using this)
    · cases eo
def oSub : D → D → Option SV
  | .int i, .int j => some (.im (.int (i - j)))
  | _, _ => none
theorem sd_sub : Sd2 C (rI0 fun i j => .int (i - j)) oSub := by
  intro G H x y d1 d2 sv Q gh r1 r2 eo fin
  cases d1 <;> cases d2 <;> simp only [oSub] at eo <;> (try cases eo)
  simp only [Bw, Rp] at r1 r2
  exact ⟨_, _, r1, r2, fin.im gh (by simp [Rp])⟩
/-- ints with one factor below 2^64, a list some times -/
def oMul : D → D → Option SV
  | .int i, .int j => if i.natAbs < 18446744073709551616 ∨ j.natAbs < 18446744073709551616 then some (.im (.int (i * j))) else none
  | .lst a, .int k => if k.natAbs < 9223372036854775808 ∧ a.length * k.toNat ≤ sizeLine then some (.ol (List.replicate k.toNat a).flatten) else none
  | _, _ => none
def rMulA : R2 := fun x y H Q => rI CMul (fun i j => .int (i * j)) x y H Q ∨ rRep x y H Q
theorem op_mulA {X : Cx} : OpR X (binaryOp .Mult) rMulA := op_mul.or op_rep
theorem sd_mul : Sd2 C rMulA oMul := by
  intro G H x y d1 d2 sv Q gh r1 r2 eo fin
  cases d1 <;> cases d2 <;> simp only [oMul] at eo <;> (try cases eo)
  · simp only [Bw, Rp] at r1 r2
    split at eo
    · rename_i hl
      cases eo
      exact .inl ⟨_, _, r1, r2, (by unfold CMul; omega), fin.im gh (by simp [Rp])⟩
    · cases eo
  · obtain ⟨a, xs, rfl, ha, ra⟩ := r1
    simp only [Bw, Rp] at r2
    split at eo
    · rename_i hl
      cases eo
      exact .inr ⟨a, _, xs, rfl, r2, ha, by omega, by omega, by rw [ra.len]; exact hl.2, fun p hp => fin.ol gh hp (ra.rep _)⟩
    · cases eo
def oFdiv : D → D → Option SV
  | .int i, .int j => if 0 < j ∧ j.natAbs < 1073741824 then some (.im (.int (i / j))) else none
  | _, _ => none
theorem sd_fdiv : Sd2 C (rI CDiv fun i j => .int (i / j)) oFdiv := by
  intro G H x y d1 d2 sv Q gh r1 r2 eo fin
  cases d1 <;> cases d2 <;> simp only [oFdiv] at eo <;> (try cases eo)
  simp only [Bw, Rp] at r1 r2
  split at eo
  · rename_i hl
    cases eo
    exact ⟨_, _, r1, r2, (by unfold CDiv; omega), fin.im gh (by simp [Rp])⟩
  · cases eo
def oMod : D → D → Option SV
  | .int i, .int j => if 0 < j then some (.im (.int (i % j))) else none
  | _, _ => none
theorem sd_mod : Sd2 C (rI (fun _ j => 0 < j) fun i j => .int (i % j)) oMod := by
  intro G H x y d1 d2 sv Q gh r1 r2 eo fin
  cases d1 <;> cases d2 <;> simp only [oMod] at eo <;> (try cases eo)
  simp only [Bw, Rp] at r1 r2
  split at eo
  · rename_i hl
    cases eo
    exact ⟨_, _, r1, r2, hl, fin.im gh (by simp [Rp])⟩
  · cases eo
def oPow : D → D → Option SV
  | .int i, .int j => if 0 ≤ j ∧ j.natAbs ≤ 1000000 ∧ i.natAbs < 18446744073709551616 then some (.im (.int (i ^ j.toNat))) else none
  | _, _ => none
theorem sd_pow : Sd2 C (rI CPow fun i j => .int (i ^ j.toNat)) oPow := by
  intro G H x y d1 d2 sv Q gh r1 r2 eo fin
  cases d1 <;> cases d2 <;> simp only [oPow] at eo <;> (try cases eo)
  simp only [Bw, Rp] at r1 r2
  split at eo
  · rename_i hl
    cases eo
    exact ⟨_, _, r1, r2, (by unfold CPow; omega), fin.im gh (by simp [Rp])⟩
  · cases eo
def oNeg : D → Option SV
  | .int i => some (.im (.int (-i)))
  | _ => none
theorem sd_neg : Sd1 C (rU fun i => .int (-i)) oNeg := by
  intro G H x d sv Q gh r1 eo fin
  cases d <;> simp only [oNeg] at eo <;> (try cases eo)
  simp only [Bw, Rp] at r1
  exact ⟨_, r1, fin.im gh (by simp [Rp])⟩

/-! ### order of ints and texts -/
def oLt : D → D → Option SV
  | .int i, .int j => some (.im (.bl (decide (i < j))))
  | .str a, .str b => some (.im (.bl (decide (a.cps.toList < b.cps.toList))))
  | _, _ => none
def oLe : D → D → Option SV
  | .int i, .int j => some (.im (.bl (decide (i ≤ j))))
  | .str a, .str b => some (.im (.bl (!decide (b.cps.toList < a.cps.toList))))
  | _, _ => none
def oGt : D → D → Option SV
  | .int i, .int j => some (.im (.bl (decide (j < i))))
  | .str a, .str b => some (.im (.bl (decide (b.cps.toList < a.cps.toList))))
  | _, _ => none
def oGe : D → D → Option SV
  | .int i, .int j => some (.im (.bl (decide (j ≤ i))))
  | .str a, .str b => some (.im (.bl (!decide (a.cps.toList < b.cps.toList))))
  | _, _ => none
def rLtA : R2 := fun x y H Q => rI0 (fun i j => .bl (decide (i < j))) x y H Q ∨ ∃ i j, x = .str i ∧ y = .str j ∧ Q (.bl (decide (i.cps.toList < j.cps.toList))) H
def rLeA : R2 := fun x y H Q => rI0 (fun i j => .bl (decide (i ≤ j))) x y H Q ∨ ∃ i j, x = .str i ∧ y = .str j ∧ Q (.bl (!decide (j.cps.toList < i.cps.toList))) H
def rGtA : R2 := fun x y H Q => rI0 (fun i j => .bl (decide (j < i))) x y H Q ∨ ∃ i j, x = .str i ∧ y = .str j ∧ Q (.bl (decide (j.cps.toList < i.cps.toList))) H
def rGeA : R2 := fun x y H Q => rI0 (fun i j => .bl (decide (j ≤ i))) x y H Q ∨ ∃ i j, x = .str i ∧ y = .str j ∧ Q (.bl (!decide (i.cps.toList < j.cps.toList))) H
theorem op_ltA {X : Cx} : OpR X (compareOp .Lt) rLtA := op_lt.or op_lt_str
theorem op_leA {X : Cx} : OpR X (compareOp .LtE) rLeA := op_le.or op_le_str
theorem op_gtA {X : Cx} : OpR X (compareOp .Gt) rGtA := op_gt.or op_gt_str
theorem op_geA {X : Cx} : OpR X (compareOp .GtE) rGeA := op_ge.or op_ge_str
theorem sd_lt : Sd2 C rLtA oLt := by
  intro G H x y d1 d2 sv Q gh r1 r2 eo fin
  cases d1 <;> cases d2 <;> simp only [oLt] at eo <;> (try cases eo) <;> simp only [Bw, Rp] at r1 r2
  · exact .inl ⟨_, _, r1, r2, fin.im gh (by simp [Rp])⟩
  · exact .inr ⟨_, _, r1, r2, fin.im gh (by simp [Rp])⟩
theorem sd_le : Sd2 C rLeA oLe := by
  intro G H x y d1 d2 sv Q gh r1 r2 eo fin
  cases d1 <;> cases d2 <;> simp only [oLe] at eo <;> (try cases eo) <;> simp only [Bw, Rp] at r1 r2
  · exact .inl ⟨_, _, r1, r2, fin.im gh (by simp [Rp])⟩
  · exact .inr ⟨_, _, r1, r2, fin.im gh (by simp [Rp])⟩
theorem sd_gt : Sd2 C rGtA oGt := by
  intro G H x y d1 d2 sv Q gh r1 r2 eo fin
  cases d1 <;> cases d2 <;> simp only [oGt] at eo <;> (try cases eo) <;> simp only [Bw, Rp] at r1 r2
  · exact .inl ⟨_, _, r1, r2, fin.im gh (by simp [Rp])⟩
  · exact .inr ⟨_, _, r1, r2, fin.im gh (by simp [Rp])⟩
theorem sd_ge : Sd2 C rGeA oGe := by
  intro G H x y d1 d2 sv Q gh r1 r2 eo fin
  cases d1 <;> cases d2 <;> simp only [oGe] at eo <;> (try cases eo) <;> simp only [Bw, Rp] at r1 r2
  · exact .inl ⟨_, _, r1, r2, fin.im gh (by simp [Rp])⟩
  · exact .inr ⟨_, _, r1, r2, fin.im gh (by simp [Rp])⟩

/-! ### == -/
mutual
def toPy : D → Option PyData
  | .non => some .none
  | .bl b => some (.bool b)
  | .int i => some (.int i)
  | .str x => some (.str x)
  | .lst ds => (toPyL ds).map .list
  | .tup ds => (toPyL ds).map .tuple
  | _ => none
def toPyL : List D → Option (List PyData)
  | [] => some []
  | d :: ds => match toPy d, toPyL ds with
    | some p, some ps => some (p :: ps)
    | _, _ => none
end
mutual
theorem dp_of {G H : Hp} (gh : Same G H) : ∀ {d : D} {v : V} {p : PyData}, Bw C G H d v → toPy d = some p → Dp C.K H v p
  | .non, v, p, h, e => by simp only [Bw, Rp] at h; simp only [toPy, Option.some.injEq] at e; subst h; subst e; exact .non
  | .bl b, v, p, h, e => by simp only [Bw, Rp] at h; simp only [toPy, Option.some.injEq] at e; subst h; subst e; exact .bl b
  | .int i, v, p, h, e => by simp only [Bw, Rp] at h; simp only [toPy, Option.some.injEq] at e; subst h; subst e; exact .int i
  | .str x, v, p, h, e => by simp only [Bw, Rp] at h; simp only [toPy, Option.some.injEq] at e; subst h; subst e; exact .str x
  | .lst ds, v, p, h, e => by
    obtain ⟨a, xs, rfl, ha, r⟩ := h
    simp only [toPy] at e
    cases el : toPyL ds with
    | none => rw [el] at e; cases e
    | some ps =>
      rw [el] at e
      cases e
      exact .lst (SqL.of ha) (dp_all gh r el)
  | .tup ds, v, p, h, e => by
    obtain ⟨a, xs, rfl, ha, r⟩ := h
    simp only [toPy] at e
    cases el : toPyL ds with
    | none => rw [el] at e; cases e
    | some ps =>
      rw [el] at e
      cases e
      exact .tup (SqT.of ha) (dp_all gh r el)
  | .dK _ _, v, p, h, e => by simp [toPy] at e
  | .dT _ _, v, p, h, e => by simp [toPy] at e
  | .ins _ _ _, v, p, h, e => by simp [toPy] at e
  | .scr _, v, p, h, e => by simp [toPy] at e
theorem dp_all {G H : Hp} (gh : Same G H) : ∀ {ds : List D} {vs : List V} {ps : List PyData}, RpL C G ds vs → toPyL ds = some ps → DpAll C.K H vs ps
  | [], vs, ps, h, e => by simp only [RpL] at h; simp only [toPyL, Option.some.injEq] at e; subst h; subst e; exact .nil
  | d :: ds, vs, ps, h, e => by
    simp only [RpL] at h
    obtain ⟨x, r, rfl, h1, h2⟩ := h
    simp only [toPyL] at e
    cases e1 : toPy d with
    | none => rw [e1] at e; cases e
    | some p =>
      cases e2 : toPyL ds with
      | none => rw [e1, e2] at e; cases e
      | some ps' =>
        rw [e1, e2] at e
        cases e
        exact .cons (dp_of gh (h1.bw gh) e1) (dp_all gh h2 e2)
end
def pyEq (d e : D) : Option Bool := match toPy d, toPy e with
  | some p, some r => if SeqAt.shaped p && SeqAt.shaped r then some (PyData.eqv p r) else none
  | _, _ => none
def oEq (d e : D) : Option SV := (pyEq d e).map fun b => .im (.bl b)
def oNe (d e : D) : Option SV := (pyEq d e).map fun b => .im (.bl !b)
theorem pyEq_some {d e : D} {b : Bool} (h : pyEq d e = some b) : ∃ p r, toPy d = some p ∧ toPy e = some r ∧ SeqAt.shaped p = true ∧ SeqAt.shaped r = true ∧ b = PyData.eqv p r := by
  unfold pyEq at h
  cases e1 : toPy d with
  | none => rw [e1] at h; cases h
  | some p =>
    cases e2 : toPy e with
    | none => rw [e1, e2] at h; cases h
    | some r =>
      rw [e1, e2] at h
      simp only at h
      split at h
      · rename_i hs
        cases h
        have := Bool.and_eq_true_iff.mp hs
        exact ⟨p, r, rfl, rfl, this.1, this.2, rfl⟩
      · cases h
theorem sd_eq : Sd2 C (rEqD C.K) oEq := by
  intro G H x y d1 d2 sv Q gh r1 r2 eo fin
  unfold oEq at eo
  cases e : pyEq d1 d2 with
  | none => rw [e] at eo; cases eo
  | some b =>
    rw [e] at eo
    cases eo
    obtain ⟨p, r, e1, e2, h1, h2, rfl⟩ := pyEq_some e
    exact ⟨p, r, dp_of gh r1 e1, dp_of gh r2 e2, h1, h2, fin.im gh (by simp [Rp])⟩
theorem sd_ne : Sd2 C (rNeD C.K) oNe := by
  intro G H x y d1 d2 sv Q gh r1 r2 eo fin
  unfold oNe at eo
  cases e : pyEq d1 d2 with
  | none => rw [e] at eo; cases eo
  | some b =>
    rw [e] at eo
    cases eo
    obtain ⟨p, r, e1, e2, h1, h2, rfl⟩ := pyEq_some e
    exact ⟨p, r, dp_of gh r1 e1, dp_of gh r2 e2, h1, h2, fin.im gh (by simp [Rp])⟩
/-- is None -/
def isNon : D → Bool
  | .non => true
  | _ => false
def oIsN : D → D → Option SV
  | d, .non => some (.im (.bl (isNon d)))
  | _, _ => none
def oNotN : D → D → Option SV
  | d, .non => some (.im (.bl (!isNon d)))
  | _, _ => none
theorem isNon_bw {G H : Hp} {d : D} {v : V} (h : Bw C G H d v) : decide (v = .non) = isNon d := by
  cases d with
  | non => simp only [Bw, Rp] at h; subst h; rfl
  | bl b => simp only [Bw, Rp] at h; subst h; rfl
  | int b => simp only [Bw, Rp] at h; subst h; rfl
  | str b => simp only [Bw, Rp] at h; subst h; rfl
  | lst ds => obtain ⟨a, xs, rfl, _⟩ := h; rfl
  | tup ds => obtain ⟨a, xs, rfl, _⟩ := h; rfl
  | dK ks vs => obtain ⟨a, xs, rfl, _⟩ := h; rfl
  | dT ks vs => obtain ⟨a, xs, rfl, _⟩ := h; rfl
  | ins c ns vs => simp only [Bw, Rp] at h; obtain ⟨a, dx, fs, rfl, _⟩ := h; rfl
  | scr ns => simp only [Bw, Rp] at h; obtain ⟨a, rfl, _⟩ := h; rfl
theorem sd_isN : Sd2 C (fun x y H Q => y = .non ∧ Q (.bl (decide (x = .non))) H) oIsN := by
  intro G H x y d1 d2 sv Q gh r1 r2 eo fin
  cases d2 <;> simp only [oIsN] at eo <;> (try cases eo)
  simp only [Bw, Rp] at r2
  exact ⟨r2, by rw [isNon_bw r1]; exact fin.im gh (by simp [Rp])⟩
theorem sd_notN : Sd2 C (fun x y H Q => y = .non ∧ Q (.bl (!decide (x = .non))) H) oNotN := by
  intro G H x y d1 d2 sv Q gh r1 r2 eo fin
  cases d2 <;> simp only [oNotN] at eo <;> (try cases eo)
  simp only [Bw, Rp] at r2
  exact ⟨r2, by rw [isNon_bw r1]; exact fin.im gh (by simp [Rp])⟩
end
end DV
namespace DV
open PySem L2

section
variable {C : Cy}
/-! ### in -/
def flD : D → Option V
  | .non => some .non
  | .bl b => some (.bl b)
  | .int i => some (.int i)
  | .str x => some (.str x)
  | _ => none
def flDs : List D → Option (List V)
  | [] => some []
  | d :: ds => match flD d, flDs ds with
    | some v, some vs => some (v :: vs)
    | _, _ => none
theorem flD_rp {G : Hp} {d : D} {v x : V} (h : Rp C G d x) (e : flD d = some v) : x = v ∧ flatV v = true := by
  cases d <;> simp only [flD] at e <;> (try cases e) <;> simp only [Rp] at h <;> exact ⟨h, rfl⟩
theorem flDs_rp {G : Hp} : ∀ {ds : List D} {vs xs : List V}, RpL C G ds xs → flDs ds = some vs → xs = vs ∧ vs.all flatV = true
  | [], vs, xs, h, e => by simp only [RpL] at h; simp only [flDs, Option.some.injEq] at e; subst h; subst e; exact ⟨rfl, rfl⟩
  | d :: ds, vs, xs, h, e => by
    simp only [RpL] at h
    obtain ⟨x, r, rfl, h1, h2⟩ := h
    simp only [flDs] at e
    cases e1 : flD d with
    | none => rw [e1] at e; cases e
    | some v =>
      cases e2 : flDs ds with
      | none => rw [e1, e2] at e; cases e
      | some ws =>
        rw [e1, e2] at e
        cases e
        obtain ⟨q1, q2⟩ := flD_rp h1 e1
        obtain ⟨q3, q4⟩ := flDs_rp h2 e2
        subst q1; subst q3
        exact ⟨rfl, by simp [q2, q4]⟩
def strIn (a b : Str) : Bool := match a.cps.toList with
  | [c] => decide (c ∈ b.cps.toList)
  | _ => !(Builtin.Str.occurrences b a 0 b.length 1).isEmpty
def pyIn (x : D) : D → Option Bool
  | .lst ds => match toPy x, toPyL ds with
    | some p, some ps => if SeqAt.shaped p && SeqAt.shaped (.list ps) then some (ps.any fun z => PyData.eqv z p) else none
    | _, _ => none
  | .tup ds => match flD x, flDs ds with
    | some v, some vs => some (inV v vs)
    | _, _ => none
  | .str b => match x with
    | .str a => some (strIn a b)
    | _ => none
  | _ => none
def oIn (x y : D) : Option SV := (pyIn x y).map fun b => .im (.bl b)
def oNin (x y : D) : Option SV := (pyIn x y).map fun b => .im (.bl !b)
def rInA (K : PySem.W.Frag) : R2 := fun x y H Q => (rInD K x y H Q ∨ rIn K false x y H Q) ∨ ((∃ (c : Nat) (z : Str), x = .str ⟨#[c]⟩ ∧ y = .str z ∧ Q (.bl (decide (c ∈ z.cps.toList))) H) ∨ (∃ i j, x = .str i ∧ y = .str j ∧ Q (.bl (!(Builtin.Str.occurrences j i 0 j.length 1).isEmpty)) H))
def rNinA (K : PySem.W.Frag) : R2 := fun x y H Q => (rNotInD K x y H Q ∨ rIn K true x y H Q) ∨ ((∃ (c : Nat) (z : Str), x = .str ⟨#[c]⟩ ∧ y = .str z ∧ Q (.bl (!decide (c ∈ z.cps.toList))) H) ∨ (∃ i j, x = .str i ∧ y = .str j ∧ Q (.bl (!(!(Builtin.Str.occurrences j i 0 j.length 1).isEmpty))) H))
theorem op_inA {X : Cx} (hu : X.A.units + 65 < cLine) : OpR X (compareOp .In) (rInA X.K) := ((op_inD hu).or op_in_seq).or (op_in_sign.or op_in_str)
theorem op_ninA {X : Cx} (hu : X.A.units + 65 < cLine) : OpR X (compareOp .NotIn) (rNinA X.K) := ((op_notInD hu).or op_notIn_seq).or (op_notIn_sign.or op_notin_str)
theorem str_one {a : Str} {c : Nat} (h : a.cps.toList = [c]) : a = ⟨#[c]⟩ := by
  obtain ⟨z⟩ := a
  have : z = #[c] := by
    apply Array.toList_inj.mp
    simpa using h
  rw [this]
theorem pyIn_tell {K : PySem.W.Frag} (hK : K = C.K) {G H : Hp} {x y : V} {d1 d2 : D} {b : Bool} (gh : Same G H) (r1 : Bw C G H d1 x) (r2 : Bw C G H d2 y) (e : pyIn d1 d2 = some b) (Q : VK) (hq : Q (.bl b) H) : rInA K x y H Q := by
  subst hK
  cases d2 with
  | lst ds =>
    simp only [pyIn] at e
    cases e1 : toPy d1 with
    | none => rw [e1] at e; cases e
    | some p =>
      cases e2 : toPyL ds with
      | none => rw [e1, e2] at e; cases e
      | some ps =>
        rw [e1, e2] at e
        simp only at e
        split at e
        · rename_i hs
          cases e
          have h := Bool.and_eq_true_iff.mp hs
          exact .inl (.inl ⟨p, ps, dp_of gh r1 e1, dp_of gh r2 (by simp only [toPy, e2]; rfl), h.1, h.2, hq⟩)
        · cases e
  | tup ds =>
    simp only [pyIn] at e
    cases e1 : flD d1 with
    | none => rw [e1] at e; cases e
    | some v =>
      cases e2 : flDs ds with
      | none => rw [e1, e2] at e; cases e
      | some vs =>
        rw [e1, e2] at e
        cases e
        have r1' : Rp C G d1 x := by cases d1 <;> simp only [flD] at e1 <;> first | exact r1 | cases e1
        obtain ⟨rfl, f1⟩ := flD_rp r1' e1
        obtain ⟨a, xs, rfl, ha, rl⟩ := r2
        obtain ⟨rfl, f2⟩ := flDs_rp rl e2
        exact .inl (.inr ⟨a, _, rfl, .inr (SqT.of ha), f1, f2, hq⟩)
  | str z =>
    simp only [pyIn] at e
    cases d1 with
    | str a =>
      simp only [Option.some.injEq] at e
      simp only [Bw, Rp] at r1 r2
      subst r1; subst r2
      unfold strIn at e
      split at e
      · rename_i c ec
        subst e
        exact .inr (.inl ⟨c, z, by rw [str_one ec], rfl, hq⟩)
      · subst e
        exact .inr (.inr ⟨a, z, rfl, rfl, hq⟩)
    | _ => cases e
  | _ => cases e
theorem sd_in : Sd2 C (rInA C.K) oIn := by
  intro G H x y d1 d2 sv Q gh r1 r2 eo fin
  unfold oIn at eo
  cases e : pyIn d1 d2 with
  | none => rw [e] at eo; cases eo
  | some b =>
    rw [e] at eo
    cases eo
    exact pyIn_tell rfl gh r1 r2 e Q (fin.im gh (by simp [Rp]))
theorem sd_nin : Sd2 C (rNinA C.K) oNin := by
  intro G H x y d1 d2 sv Q gh r1 r2 eo fin
  unfold oNin at eo
  cases e : pyIn d1 d2 with
  | none => rw [e] at eo; cases eo
  | some b =>
    rw [e] at eo
    cases eo
    have hq : Q (.bl (!b)) H := fin.im gh (by simp [Rp])
    have t := pyIn_tell (K := C.K) rfl gh r1 r2 e (fun v H' => ∃ c, v = .bl c ∧ Q (.bl (!c)) H') ⟨b, rfl, hq⟩
    rcases t with (⟨p, ps, h1, h2, h3, h4, c, ec, h5⟩ | ⟨p, xs, h1, h2, h3, h4, c, ec, h5⟩) | (⟨c, z, h1, h2, c', ec, h5⟩ | ⟨i, j, h1, h2, c', ec, h5⟩)
    · cases ec; exact .inl (.inl ⟨p, ps, h1, h2, h3, h4, h5⟩)
    · refine .inl (.inr ⟨p, xs, h1, h2, h3, h4, ?_⟩)
      simp only [Bool.false_eq_true, if_false, V.bl.injEq] at ec
      subst ec
      simpa using h5
    · cases ec; exact .inr (.inl ⟨c, z, h1, h2, h5⟩)
    · cases ec; exact .inr (.inr ⟨i, j, h1, h2, h5⟩)

/-! ### items, lengths -/
def oIx : D → D → Option SV
  | .lst ds, .int i => (atI ds i).map .im
  | .tup ds, .int i => (atI ds i).map .im
  | .str z, .int i => if z.length ≤ sizeLine then (atI z.cps.toList i).map fun c => .im (.str ⟨#[c]⟩) else none
  | _, _ => none
theorem RpL.atI {G : Hp} {ds : List D} {xs : List V} {i : Int} {d : D} (h : RpL C G ds xs) (e : L2.atI ds i = some d) : ∃ v, L2.atI xs i = some v ∧ Rp C G d v := by
  unfold L2.atI at e ⊢
  rw [h.len]
  cases e1 : ixN ds.length i with
  | none => rw [e1] at e; cases e
  | some j =>
    rw [e1] at e
    exact h.get e
theorem sd_ix : Sd2 C (rIx C.K) oIx := by
  intro G H x y d1 d2 sv Q gh r1 r2 eo fin
  cases d1 <;> cases d2 <;> simp only [oIx] at eo <;> (try cases eo)
  · simp only [Bw, Rp] at r1 r2
    subst r1; subst r2
    rename_i z i
    split at eo
    · rename_i hl
      cases e : L2.atI z.cps.toList i with
      | none => rw [e] at eo; cases eo
      | some c =>
        rw [e] at eo
        cases eo
        exact .inr (.inr ⟨z, i, c, rfl, rfl, hl, e, fin.im gh (by simp [Rp])⟩)
    · cases eo
  · obtain ⟨a, xs, rfl, ha, rl⟩ := r1
    simp only [Bw, Rp] at r2
    subst r2
    rename_i ds i
    cases e : L2.atI ds i with
    | none => rw [e] at eo; cases eo
    | some d =>
      rw [e] at eo
      cases eo
      obtain ⟨v, ev, rv⟩ := rl.atI e
      exact .inl ⟨a, xs, i, v, rfl, rfl, SqL.of ha, ev, fin.im gh rv⟩
  · obtain ⟨a, xs, rfl, ha, rl⟩ := r1
    simp only [Bw, Rp] at r2
    subst r2
    rename_i ds i
    cases e : L2.atI ds i with
    | none => rw [e] at eo; cases eo
    | some d =>
      rw [e] at eo
      cases eo
      obtain ⟨v, ev, rv⟩ := rl.atI e
      exact .inr (.inl ⟨a, xs, i, v, rfl, rfl, SqT.of ha, ev, fin.im gh rv⟩)
def pyLen : D → Option Nat
  | .lst ds => some ds.length
  | .tup ds => some ds.length
  | .str z => if z.length ≤ sizeLine then some z.length else none
  | .dK ks _ => some ks.length
  | .dT ks _ => some ks.length
  | _ => none
def oLen : List D → Option SV
  | [d] => (pyLen d).map fun n => .im (.int n)
  | _ => none
def rLenA (K : PySem.W.Frag) : List V → Hp → VK → Prop := fun xs H Q => (∃ x n, xs = [x] ∧ LenV K x H n ∧ Q (.int n) H) ∨ ((∃ (p : Addr) (kvs : List (Key × V)), xs = [.ref p] ∧ H p = some (.dK kvs) ∧ Q (.int kvs.length) H) ∨ rLenT xs H Q)
theorem lenA_tell {G H : Hp} {x : V} {d : D} {n : Nat} (gh : Same G H) (r : Bw C G H d x) (e : pyLen d = some n) (Q : VK) (hq : Q (.int n) H) : rLenA C.K [x] H Q := by
  cases d <;> simp only [pyLen] at e <;> (try cases e)
  · simp only [Bw, Rp] at r
    subst r
    split at e
    · rename_i hl
      cases e
      exact .inl ⟨_, _, rfl, ⟨hl, rfl⟩, hq⟩
    · cases e
  · obtain ⟨a, xs, rfl, ha, rl⟩ := r
    exact .inl ⟨_, _, rfl, .inl ⟨xs, SqL.of ha, rfl⟩, by rw [rl.len]; exact hq⟩
  · obtain ⟨a, xs, rfl, ha, rl⟩ := r
    exact .inl ⟨_, _, rfl, .inr ⟨xs, SqT.of ha, rfl⟩, by rw [rl.len]; exact hq⟩
  · obtain ⟨a, kvs, rfl, ha, ek, rl⟩ := r
    refine .inr (.inl ⟨a, kvs, rfl, ha, ?_⟩)
    rw [← ek, List.length_map] at hq
    exact hq
  · obtain ⟨a, kvs, rfl, ha, ek, rl⟩ := r
    refine .inr (.inr ⟨a, kvs, rfl, ha, ?_⟩)
    rw [← ek, List.length_map] at hq
    exact hq
theorem sn_len : SdN C (rLenA C.K) oLen := by
  intro G H xs ds sv Q gh rp eo fin
  unfold oLen at eo
  split at eo
  · rename_i d
    simp only [RpL] at rp
    obtain ⟨x, r, rfl, r1, r2⟩ := rp
    subst r2
    cases e : pyLen d with
    | none => rw [e] at eo; cases eo
    | some n =>
      rw [e] at eo
      cases eo
      exact lenA_tell gh (r1.bw gh) e Q (fin.im gh (by simp [Rp]))
  · cases eo
/-- list(x) of a list, a tuple -/
def oList : List D → Option SV
  | [.lst ds] => some (.ol ds)
  | [.tup ds] => some (.ol ds)
  | _ => none
theorem sn_list : SdN C (fun xs H Q => ∃ p ys, xs = [.ref p] ∧ (SqL C.K H p ys ∨ SqT C.K H p ys) ∧ ∀ l, H l = none → Q (.ref l) (upd H l (.lst ys))) oList := by
  intro G H xs ds sv Q gh rp eo fin
  unfold oList at eo
  split at eo
  · simp only [RpL, Rp] at rp
    obtain ⟨x, r, rfl, ⟨a, ys, rfl, ha, rl⟩, rfl⟩ := rp
    cases eo
    exact ⟨a, ys, rfl, .inl (SqL.of (gh _ _ ha)), fun l hl => fin.ol gh hl rl⟩
  · simp only [RpL, Rp] at rp
    obtain ⟨x, r, rfl, ⟨a, ys, rfl, ha, rl⟩, rfl⟩ := rp
    cases eo
    exact ⟨a, ys, rfl, .inr (SqT.of (gh _ _ ha)), fun l hl => fin.ol gh hl rl⟩
  · cases eo
/-- tuple(x) of a list, a tuple -/
def oTuple : List D → Option SV
  | [.lst ds] => some (.im (.tup ds))
  | [.tup ds] => some (.im (.tup ds))
  | _ => none
theorem sn_tuple : SdN C (fun xs H Q => ∃ p ys, xs = [.ref p] ∧ ((SqL C.K H p ys ∧ ∀ l, H l = none → Q (.ref l) (upd H l (.tup ys))) ∨ (SqT C.K H p ys ∧ Q (.ref p) H))) oTuple := by
  intro G H xs ds sv Q gh rp eo fin
  unfold oTuple at eo
  split at eo
  · simp only [RpL, Rp] at rp
    obtain ⟨x, r, rfl, ⟨a, ys, rfl, ha, rl⟩, rfl⟩ := rp
    cases eo
    exact ⟨a, ys, rfl, .inl ⟨SqL.of (gh _ _ ha), fun l hl => fin.tup gh hl rl⟩⟩
  · simp only [RpL, Rp] at rp
    obtain ⟨x, r, rfl, ⟨a, ys, rfl, ha, rl⟩, rfl⟩ := rp
    cases eo
    exact ⟨a, ys, rfl, .inr ⟨SqT.of (gh _ _ ha), fin.tupH ha gh rl⟩⟩
  · cases eo
def sIx := HT.sIx
def cutD {α : Type} (xs : List α) (lo hi : Option Int) : List α := (xs.drop (HT.sIx xs.length 0 lo)).take (HT.sIx xs.length xs.length hi - HT.sIx xs.length 0 lo)
theorem RpL.cut {G : Hp} {ds : List D} {xs : List V} (h : RpL C G ds xs) (lo hi : Option Int) : RpL C G (cutD ds lo hi) (cutV xs lo hi) := by
  unfold cutD cutV
  rw [h.len]
  exact (h.drop _).take _
/-- slices of lists and texts -/
def oSl : D → Option Int → Option Int → Option SV
  | .lst ds, lo, hi => some (.ol (cutD ds lo hi))
  | .str z, lo, hi => if z.length ≤ sizeLine then some (.im (.str (cutS z lo hi))) else none
  | _, _, _ => none
theorem ss_slice : SdS C (fun x lo hi H Q => rSlL C.K x lo hi H Q ∨ rSlS x lo hi H Q) oSl := by
  intro G H x d lo hi sv Q gh r eo fin
  cases d <;> simp only [oSl] at eo <;> (try cases eo)
  · simp only [Bw, Rp] at r
    subst r
    split at eo
    · rename_i hl
      cases eo
      exact .inr ⟨_, rfl, hl, fin.im gh (by simp [Rp])⟩
    · cases eo
  · obtain ⟨a, xs, rfl, ha, rl⟩ := r
    exact .inl ⟨a, xs, rfl, SqL.of ha, fun p hp => fin.ol gh hp (rl.cut lo hi)⟩
/-! ### numbers and texts -/
def oMax2 : List D → Option SV
  | [.int i, .int j] => some (.im (.int (if j > i then j else i)))
  | _ => none
theorem sn_max2 : SdN C (fun xs H Q => ∃ i j, xs = [.int i, .int j] ∧ Q (.int (if j > i then j else i)) H) oMax2 := by
  intro G H xs ds sv Q gh rp eo fin
  unfold oMax2 at eo
  split at eo
  · simp only [RpL, Rp] at rp
    obtain ⟨x, r, rfl, rfl, y, r2, rfl, rfl, rfl⟩ := rp
    cases eo
    exact ⟨_, _, rfl, fin.im gh (by simp [Rp])⟩
  · cases eo
def oMin2 : List D → Option SV
  | [.int i, .int j] => some (.im (.int (if j < i then j else i)))
  | _ => none
theorem sn_min2 : SdN C (fun xs H Q => ∃ i j, xs = [.int i, .int j] ∧ Q (.int (if j < i then j else i)) H) oMin2 := by
  intro G H xs ds sv Q gh rp eo fin
  unfold oMin2 at eo
  split at eo
  · simp only [RpL, Rp] at rp
    obtain ⟨x, r, rfl, rfl, y, r2, rfl, rfl, rfl⟩ := rp
    cases eo
    exact ⟨_, _, rfl, fin.im gh (by simp [Rp])⟩
  · cases eo
def oAbs : List D → Option SV
  | [.int i] => some (.im (.int (if i < 0 then -i else i)))
  | _ => none
theorem sn_abs : SdN C (fun xs H Q => ∃ i, xs = [.int i] ∧ Q (.int (if i < 0 then -i else i)) H) oAbs := by
  intro G H xs ds sv Q gh rp eo fin
  unfold oAbs at eo
  split at eo
  · simp only [RpL, Rp] at rp
    obtain ⟨x, r, rfl, rfl, rfl⟩ := rp
    cases eo
    exact ⟨_, rfl, fin.im gh (by simp [Rp])⟩
  · cases eo
/-- int(text) -/
def oInt : List D → Option SV
  | [.str a] => match PySem.intText? a with
    | some n => if a.length ≤ 640 then some (.im (.int n)) else none
    | none => none
  | _ => none
theorem sn_int : SdN C (fun xs H Q => ∃ a n, xs = [.str a] ∧ PySem.intText? a = some n ∧ a.length ≤ 640 ∧ Q (.int n) H) oInt := by
  intro G H xs ds sv Q gh rp eo fin
  unfold oInt at eo
  split at eo
  · rename_i a
    simp only [RpL, Rp] at rp
    obtain ⟨x, r, rfl, rfl, rfl⟩ := rp
    split at eo
    · rename_i n en
      split at eo
      · rename_i hl
        cases eo
        exact ⟨_, _, rfl, en, hl, fin.im gh (by simp [Rp])⟩
      · cases eo
    · cases eo
  · cases eo
/-- str(int) -/
def oStr : List D → Option SV
  | [.int i] => if i.natAbs.log2 < 1920 then some (.im (.str (toString i))) else none
  | _ => none
theorem sn_str : SdN C (fun xs H Q => ∃ i, xs = [.int i] ∧ i.natAbs.log2 < 1920 ∧ Q (.str (toString i)) H) oStr := by
  intro G H xs ds sv Q gh rp eo fin
  unfold oStr at eo
  split at eo
  · simp only [RpL, Rp] at rp
    obtain ⟨x, r, rfl, rfl, rfl⟩ := rp
    split at eo
    · rename_i hl
      cases eo
      exact ⟨_, rfl, hl, fin.im gh (by simp [Rp])⟩
    · cases eo
  · cases eo
def strsD : List D → Option (List Str)
  | [] => some []
  | .str x :: ds => (strsD ds).map (x :: ·)
  | _ => none
theorem strsD_rp {G : Hp} : ∀ {ds : List D} {ys : List Str} {xs : List V}, RpL C G ds xs → strsD ds = some ys → xs = ys.map V.str
  | [], ys, xs, h, e => by simp only [RpL] at h; simp only [strsD, Option.some.injEq] at e; subst h; subst e; rfl
  | d :: ds, ys, xs, h, e => by
    cases d <;> simp only [strsD] at e <;> (try cases e)
    simp only [RpL, Rp] at h
    obtain ⟨x, r, rfl, rfl, h2⟩ := h
    cases e1 : strsD ds with
    | none => rw [e1] at e; cases e
    | some zs =>
      rw [e1] at e
      cases e
      rw [strsD_rp h2 e1]
      rfl
/-- isinstance(x, T), T a built-in class -/
def tyD : D → Option String
  | .non => some "NoneType"
  | .bl _ => some "bool"
  | .int _ => some "int"
  | .str _ => some "str"
  | .lst _ => some "list"
  | .tup _ => some "tuple"
  | .dK _ _ => some "dict"
  | .dT _ _ => some "dict"
  | _ => none
end
end DV
namespace DV
open PySem L2

/-- a dict read by a frozen key -/
def SdK (C : Cy) (r : R2) (op : D → D → Option SV) : Prop := ∀ G H x y d1 d2 sv Q, Same G H → Bw C G H d1 x → Rp C G d2 y → op d1 d2 = some sv → Fin C G H sv Q → r x y H Q
/-- the key frozen, then the dict -/
def SdJ (C : Cy) (r : R2) (op : D → D → Option SV) : Prop := ∀ G H x y d1 d2 sv Q, Same G H → Rp C G d1 x → Bw C G H d2 y → op d1 d2 = some sv → Fin C G H sv Q → r x y H Q
theorem Sd2.k {C : Cy} {r : R2} {op : D → D → Option SV} (h : Sd2 C r op) : SdK C r op := fun G H x y d1 d2 sv Q gh r1 r2 e f => h G H x y d1 d2 sv Q gh r1 (r2.bw gh) e f
theorem Sd2.j {C : Cy} {r : R2} {op : D → D → Option SV} (h : Sd2 C r op) : SdJ C r op := fun G H x y d1 d2 sv Q gh r1 r2 e f => h G H x y d1 d2 sv Q gh (r1.bw gh) r2 e f
theorem Sd2.f {C : Cy} {r : R2} {op : D → D → Option SV} (h : Sd2 C r op) : Sf2 C r op := fun G H x y d1 d2 sv Q gh r1 r2 e f => h G H x y d1 d2 sv Q gh (r1.bw gh) (r2.bw gh) e f
theorem SdK.f {C : Cy} {r : R2} {op : D → D → Option SV} (h : SdK C r op) : Sf2 C r op := fun G H x y d1 d2 sv Q gh r1 r2 e f => h G H x y d1 d2 sv Q gh (r1.bw gh) r2 e f
theorem SdJ.f {C : Cy} {r : R2} {op : D → D → Option SV} (h : SdJ C r op) : Sf2 C r op := fun G H x y d1 d2 sv Q gh r1 r2 e f => h G H x y d1 d2 sv Q gh r1 (r2.bw gh) e f

section
variable {q : Bool} {X : Cx} {cls : Nat → Addr} {σ0 : Z} {W : WX} {e o a b : Expr} {es : List Expr} {pos : Pos}
/-! ### forms over a place -/
theorem testR {f : S → Rs SV} {t : TE} (qh : ∀ σ G H st L Q, R (cy X cls) σ0 G H σ st L → PostV q (cy X cls) σ0 W σ L G H Q (f st) → t σ H Q) : ∀ σ G H st L Q, R (cy X cls) σ0 G H σ st L → PostB q (cy X cls) σ0 W σ L G H Q (dBl (dVal f) st) → tTest t σ H Q := by
  intro σ G H st L Q hr po
  refine qh σ G H st L _ hr ?_
  unfold dBl dVal at po
  cases ef : f st with
  | bad => rw [ef] at po; exact po
  | ex c s => rw [ef] at po; exact po
  | ok sv s =>
    rw [ef] at po
    intro v G' H' Lv L' m r' ow lv nd
    cases sv with
    | im d =>
      cases d with
      | bl b =>
        simp only [Ow, Rp] at ow
        exact ⟨b, ow.2, po G' H' L' m r'⟩
      | _ => exact po.elim
    | _ => exact po.elim
theorem formB_ {get : S → Option SV} {set : SV → S → S} {g : D → D → Option SV} {r : R2} {fb : S → Rs D} {Pr : TE → Prop} (hs : SdK (cy X cls) r g) (pl : Pl q X cls σ0 o get set) (hb : IV q X cls σ0 W b fb) (hp : ∀ to tb, PE X o to → PE X b tb → Pr (tOp r to tb)) :
    ∃ t, Pr t ∧ ∀ σ G H st L Q, R (cy X cls) σ0 G H σ st L → PostV q (cy X cls) σ0 W σ L G H Q ((d2B get g fb) st) → t σ H Q := by
  obtain ⟨t, p, ql⟩ := pl.ex
  obtain ⟨tb, pb, qb⟩ := hb.ex
  refine ⟨_, hp _ _ p pb, fun σ G H st L Q hr po => ?_⟩
  unfold d2B at po
  cases eg : get st with
  | none => rw [eg] at po; exact po.elim
  | some sv =>
    rw [eg] at po
    simp only at po
    obtain ⟨v, Lv, hv, _, later⟩ := ql σ G H st L sv hr eg
    refine hv _ (qb σ G H st L _ hr ?_)
    cases eb : fb st with
    | bad => rw [eb] at po; exact po
    | ex c s2 => rw [eb] at po; exact po
    | ok y s2 =>
      rw [eb] at po
      simp only [Rs.bind] at po
      intro u G2 H2 L2 m2 r2 rp2
      cases eg2 : get s2 with
      | none => rw [eg2] at po; exact po.elim
      | some sv1 =>
        rw [eg2] at po
        simp only at po
        obtain ⟨A, Li, B, _, ow, _⟩ := later G2 H2 L2 s2 sv1 m2 r2 eg2
        split at po
        · rename_i hf
          cases eo : g (frz sv1) y with
          | none => rw [eo] at po; exact po.elim
          | some z =>
            rw [eo] at po
            exact hs G2 H2 v u _ y z Q r2.gh (ow.bw r2.gh (flat1_ne hf)) rp2 eo (fin_of m2 r2 po)
        · exact po.elim
theorem ix_formB {get : S → Option SV} {set : SV → S → S} {g : D → D → Option SV} {r : R2} {fb : S → Rs D} {w : Expr} (hs : SdK (cy X cls) r g) (pl : Pl q X cls σ0 o get set) (hb : IV q X cls σ0 W b fb) (hp : ∀ to tb, PE X o to → PE X b tb → PE X w (tOp r to tb)) : IX q X cls σ0 W w (d2B get g fb) := ⟨formB_ (Pr := PE X w) hs pl hb hp⟩
theorem it_formB {get : S → Option SV} {set : SV → S → S} {g : D → D → Option SV} {r : R2} {fb : S → Rs D} {w : Expr} (hs : SdK (cy X cls) r g) (pl : Pl q X cls σ0 o get set) (hb : IV q X cls σ0 W b fb) (hp : ∀ to tb, PE X o to → PE X b tb → PT X w (tTest (tOp r to tb))) : IT q X cls σ0 W w (dBl (dVal (d2B get g fb))) := by
  obtain ⟨t, p, qh⟩ := formB_ (Pr := fun t => PT X w (tTest t)) hs pl hb hp
  exact ⟨_, p, testR qh⟩
theorem formF_ {g : D → D → Option SV} {r : R2} {fa fb : S → Rs D} {Pr : TE → Prop} (hs : Sf2 (cy X cls) r g) (ha : IV q X cls σ0 W a fa) (hb : IV q X cls σ0 W b fb) (hp : ∀ ta tb, PE X a ta → PE X b tb → Pr (tOp r ta tb)) :
    ∃ t, Pr t ∧ ∀ σ G H st L Q, R (cy X cls) σ0 G H σ st L → PostV q (cy X cls) σ0 W σ L G H Q ((d2 g fa fb) st) → t σ H Q := by
  obtain ⟨ta, pa, qa⟩ := ha.ex
  obtain ⟨tb, pb, qb⟩ := hb.ex
  exact ⟨_, hp _ _ pa pb, twoF qa qb hs⟩
theorem ix_formF {g : D → D → Option SV} {r : R2} {fa fb : S → Rs D} {w : Expr} (hs : Sf2 (cy X cls) r g) (ha : IV q X cls σ0 W a fa) (hb : IV q X cls σ0 W b fb) (hp : ∀ ta tb, PE X a ta → PE X b tb → PE X w (tOp r ta tb)) : IX q X cls σ0 W w (d2 g fa fb) := ⟨formF_ (Pr := PE X w) hs ha hb hp⟩
theorem it_formF {g : D → D → Option SV} {r : R2} {fa fb : S → Rs D} {w : Expr} (hs : Sf2 (cy X cls) r g) (ha : IV q X cls σ0 W a fa) (hb : IV q X cls σ0 W b fb) (hp : ∀ ta tb, PE X a ta → PE X b tb → PT X w (tTest (tOp r ta tb))) : IT q X cls σ0 W w (dBl (dVal (d2 g fa fb))) := by
  obtain ⟨t, p, qh⟩ := formF_ (Pr := fun t => PT X w (tTest t)) hs ha hb hp
  exact ⟨_, p, testR qh⟩
/-- data first, then a place -/
def d2C (fa : S → Rs D) (op : D → D → Option SV) (get : S → Option SV) : S → Rs SV := fun s => (fa s).bind fun x s1 => match get s1 with
  | some sv => if flat1 sv then (match op x (frz sv) with
    | some z => .ok z s1
    | none => .bad) else .bad
  | none => .bad
theorem formC_ {get : S → Option SV} {set : SV → S → S} {g : D → D → Option SV} {r : R2} {fa : S → Rs D} {Pr : TE → Prop} (hs : SdJ (cy X cls) r g) (ha : IV q X cls σ0 W a fa) (pl : Pl q X cls σ0 o get set) (hp : ∀ ta to, PE X a ta → PE X o to → Pr (tOp r ta to)) :
    ∃ t, Pr t ∧ ∀ σ G H st L Q, R (cy X cls) σ0 G H σ st L → PostV q (cy X cls) σ0 W σ L G H Q ((d2C fa g get) st) → t σ H Q := by
  obtain ⟨t, p, ql⟩ := pl.ex
  obtain ⟨ta, pa, qa⟩ := ha.ex
  refine ⟨_, hp _ _ pa p, fun σ G H st L Q hr po => qa σ G H st L _ hr ?_⟩
  unfold d2C at po
  cases ea : fa st with
  | bad => rw [ea] at po; exact po
  | ex c s1 => rw [ea] at po; exact po
  | ok x s1 =>
    rw [ea] at po
    simp only [Rs.bind] at po
    intro u G1 H1 L1 m1 r1 rp1
    cases eg : get s1 with
    | none => rw [eg] at po; exact po.elim
    | some sv =>
      rw [eg] at po
      simp only at po
      obtain ⟨v, Lv, hv, ow, _⟩ := ql σ G1 H1 s1 L1 sv r1 eg
      refine hv _ ?_
      split at po
      · rename_i hf
        cases eo : g x (frz sv) with
        | none => rw [eo] at po; exact po.elim
        | some z =>
          rw [eo] at po
          exact hs G1 H1 u v x _ z Q r1.gh rp1 (ow.bw r1.gh (flat1_ne hf)) eo (fin_of m1 r1 po)
      · exact po.elim
theorem ix_formC {get : S → Option SV} {set : SV → S → S} {g : D → D → Option SV} {r : R2} {fa : S → Rs D} {w : Expr} (hs : SdJ (cy X cls) r g) (ha : IV q X cls σ0 W a fa) (pl : Pl q X cls σ0 o get set) (hp : ∀ ta to, PE X a ta → PE X o to → PE X w (tOp r ta to)) : IX q X cls σ0 W w (d2C fa g get) := ⟨formC_ (Pr := PE X w) hs ha pl hp⟩
theorem it_formC {get : S → Option SV} {set : SV → S → S} {g : D → D → Option SV} {r : R2} {fa : S → Rs D} {w : Expr} (hs : SdJ (cy X cls) r g) (ha : IV q X cls σ0 W a fa) (pl : Pl q X cls σ0 o get set) (hp : ∀ ta to, PE X a ta → PE X o to → PT X w (tTest (tOp r ta to))) : IT q X cls σ0 W w (dBl (dVal (d2C fa g get))) := by
  obtain ⟨t, p, qh⟩ := formC_ (Pr := fun t => PT X w (tTest t)) hs ha pl hp
  exact ⟨_, p, testR qh⟩
/-- one argument that is a place -/
def d1B (get : S → Option SV) (op : D → Option SV) : S → Rs SV := fun s => match get s with
  | some sv => if flat1 sv then (match op (frz sv) with
    | some z => .ok z s
    | none => .bad) else .bad
  | none => .bad
theorem ix_form1 {get : S → Option SV} {set : SV → S → S} {g : D → Option SV} {r : V → Hp → VK → Prop} {w : Expr} (hs : Sd1 (cy X cls) r g) (pl : Pl q X cls σ0 o get set) (hp : ∀ to, PE X o to → ∃ t, PE X w t ∧ ∀ σ H Q, (to σ H fun x H1 => r x H1 Q) → t σ H Q) : IX q X cls σ0 W w (d1B get g) := by
  obtain ⟨t, p, ql⟩ := pl.ex
  obtain ⟨tw, pw, qw⟩ := hp _ p
  refine ⟨_, pw, fun σ G H st L Q hr po => qw σ H Q ?_⟩
  unfold d1B at po
  cases eg : get st with
  | none => rw [eg] at po; exact po.elim
  | some sv =>
    rw [eg] at po
    simp only at po
    obtain ⟨v, Lv, hv, ow, _⟩ := ql σ G H st L sv hr eg
    refine hv _ ?_
    split at po
    · rename_i hf
      cases eo : g (frz sv) with
      | none => rw [eo] at po; exact po.elim
      | some z =>
        rw [eo] at po
        exact hs G H v _ z Q hr.gh (ow.bw hr.gh (flat1_ne hf)) eo (fin_of Mv.refl hr po)
    · exact po.elim
def oLen1 (d : D) : Option SV := (pyLen d).map fun n => .im (.int n)
theorem call_lenA : CallR X (.builtin "len") (rLenA X.K) := by
  intro pins s σ H xs us Q I rx h
  rcases h with h | h | h
  · exact call_len pins s σ H xs us Q I rx h
  · exact call_lenD pins s σ H xs us Q I rx h
  · exact call_len_dT pins s σ H xs us Q I rx h
theorem ix_lenB {get : S → Option SV} {set : SV → S → S} {p : Pos} (pl : Pl q X cls σ0 o get set) (hg : Gl X "len") (hm : X.mg "len" = none) (hso : starEach [o] X.env = (false, eval o X.env) :: starEach [] X.env := by rfl) (hpl : (backTo pos (starEach [] X.env)).any (·.1) = false := by rfl) : IX q X cls σ0 W (.Call (.Name "len" p) [o] [] pos) (d1B get oLen1) := by
  refine ix_form1 (r := fun x H Q => rLenA X.K [x] H Q) (fun G H x d sv Q gh r eo fin => ?_) pl fun to po => ⟨_, pe_callB call_lenA hg hm PySem.boot_len (pa_cons po pa_nil hso) (by decide) (by decide) hso hpl, fun σ H Q h => h⟩
  unfold oLen1 at eo
  cases e : pyLen d with
  | none => rw [e] at eo; cases eo
  | some n =>
    rw [e] at eo
    cases eo
    exact lenA_tell (C := cy X cls) gh r e Q (fin.im gh (by simp [Rp]))

/-! ### dicts -/
def keyD : D → Option Key
  | .int i => some (.inl i)
  | .str x => some (.inr x)
  | _ => none
def keysD : List D → Option (List Key)
  | [] => some []
  | d :: ds => match keyD d, keysD ds with
    | some k, some ks => some (k :: ks)
    | _, _ => none
def assoc {κ α : Type} [DecidableEq κ] : List κ → List α → κ → Option α
  | k :: ks, v :: vs, j => if k = j then some v else assoc ks vs j
  | _, _, _ => none
/-- d[k] of a dict: none where the key is of another kind; some none where it is not there -/
def dGet (d k : D) : Option (Option D) := match d with
  | .dK ks vs => (keyD k).map fun j => assoc ks vs j
  | .dT ks vs => match k with
    | .tup ds => (keysD ds).map fun j => assoc ks vs j
    | _ => none
  | _ => none
theorem keyD_rp {C : Cy} {G : Hp} {d : D} {x : V} {k : Key} (h : Rp C G d x) (e : keyD d = some k) : x = kV k := by
  cases d <;> simp only [keyD] at e <;> (try cases e) <;> simp only [Rp] at h <;> exact h
theorem keysD_rp {C : Cy} {G : Hp} : ∀ {ds : List D} {xs : List V} {ks : List Key}, RpL C G ds xs → keysD ds = some ks → xs = ks.map kV
  | [], xs, ks, h, e => by simp only [RpL] at h; simp only [keysD, Option.some.injEq] at e; subst h; subst e; rfl
  | d :: ds, xs, ks, h, e => by
    simp only [RpL] at h
    obtain ⟨x, r, rfl, h1, h2⟩ := h
    simp only [keysD] at e
    cases e1 : keyD d with
    | none => rw [e1] at e; cases e
    | some k =>
      cases e2 : keysD ds with
      | none => rw [e1, e2] at e; cases e
      | some ks' =>
        rw [e1, e2] at e
        cases e
        rw [keyD_rp h1 e1, keysD_rp h2 e2]
        rfl
theorem assoc_valV {κ : Type} [DecidableEq κ] {C : Cy} {G : Hp} (j : κ) : ∀ {kvs : List (κ × V)} {vs : List D}, RpL C G vs (kvs.map (·.2)) →
    (assoc (kvs.map (·.1)) vs j = none ∧ valV kvs j = none) ∨ ∃ d v, assoc (kvs.map (·.1)) vs j = some d ∧ valV kvs j = some v ∧ Rp C G d v
  | [], vs, h => .inl ⟨by cases vs <;> rfl, rfl⟩
  | (k, x) :: kvs, [], h => by simp only [List.map_cons, RpL] at h; cases h
  | (k, x) :: kvs, d :: vs, h => by
    simp only [List.map_cons, RpL] at h
    obtain ⟨y, r, e1, h1, h2⟩ := h
    obtain ⟨rfl, rfl⟩ := List.cons_eq_cons.mp e1
    simp only [List.map_cons, assoc]
    by_cases hk : k = j
    · rw [if_pos hk]
      exact .inr ⟨d, x, rfl, valV_pos hk, h1⟩
    · rw [if_neg hk, valV_neg hk]
      exact assoc_valV j h2
theorem dGet_tell {C : Cy} {G H : Hp} {d k : D} {x y : V} {r : Option D} (gh : Same G H) (h1 : Bw C G H d x) (h2 : Rp C G k y) (e : dGet d k = some r) : ∃ a, x = .ref a ∧ ((r = none ∧ DGet H a y none) ∨ ∃ dv v, r = some dv ∧ DGet H a y (some v) ∧ Rp C G dv v) := by
  cases d <;> simp only [dGet] at e <;> (try cases e)
  · obtain ⟨a, kvs, rfl, ha, rfl, rl⟩ := h1
    cases ek : keyD k with
    | none => rw [ek] at e; cases e
    | some j =>
      rw [ek] at e
      cases e
      rw [keyD_rp h2 ek]
      refine ⟨a, rfl, ?_⟩
      have g := DGet.k (k := j) ha
      rcases assoc_valV j rl with ⟨h3, h4⟩ | ⟨dv, v, h3, h4, h5⟩
      · rw [h4] at g; exact .inl ⟨h3, g⟩
      · rw [h4] at g; exact .inr ⟨dv, v, h3, g, h5⟩
  · obtain ⟨a, kvs, rfl, ha, rfl, rl⟩ := h1
    cases k <;> simp only at e <;> (try cases e)
    rename_i ds
    cases ek : keysD ds with
    | none => rw [ek] at e; cases e
    | some j =>
      rw [ek] at e
      cases e
      simp only [Rp] at h2
      obtain ⟨b, xs, rfl, hb, rb⟩ := h2
      refine ⟨a, rfl, ?_⟩
      have eb : H b = some (.tup (j.map kV)) := by rw [← keysD_rp rb ek]; exact gh _ _ hb
      have g := DGet.t (k := j) ha eb
      rcases assoc_valV j rl with ⟨h3, h4⟩ | ⟨dv, v, h3, h4, h5⟩
      · rw [h4] at g; exact .inl ⟨h3, g⟩
      · rw [h4] at g; exact .inr ⟨dv, v, h3, g, h5⟩
def oDget (d k : D) : Option SV := match dGet d k with
  | some (some v) => some (.im v)
  | _ => none
def rDget : R2 := fun x y H Q => ∃ a v, x = .ref a ∧ DGet H a y (some v) ∧ Q v H
theorem Bw.rp {C : Cy} {G H : Hp} {k : D} {y : V} (h : Bw C G H k y) (hk : (∃ j, keyD k = some j)) : Rp C G k y := by
  obtain ⟨j, hj⟩ := hk
  cases k <;> simp only [keyD] at hj <;> (try cases hj) <;> exact h
theorem sk_dget {C : Cy} : SdK C rDget oDget := by
  intro G H x y d1 d2 sv Q gh r1 r2 eo fin
  unfold oDget at eo
  split at eo
  · rename_i v ev
    cases eo
    obtain ⟨a, rfl, h⟩ := dGet_tell gh r1 r2 ev
    rcases h with ⟨h, _⟩ | ⟨dv, w, h1, h2, h3⟩
    · cases h
    · cases h1
      exact ⟨a, w, rfl, h2, fin.im gh h3⟩
  · cases eo
/-- k in d -/
def oDin (k d : D) : Option SV := (dGet d k).map fun r => .im (.bl r.isSome)
def oDnin (k d : D) : Option SV := (dGet d k).map fun r => .im (.bl (!r.isSome))
def rDin : R2 := fun y x H Q => ∃ a o, x = .ref a ∧ DGet H a y o ∧ Q (.bl o.isSome) H
def rDnin : R2 := fun y x H Q => ∃ a o, x = .ref a ∧ DGet H a y o ∧ Q (.bl (!o.isSome)) H
theorem sj_din {C : Cy} : SdJ C rDin oDin := by
  intro G H x y d1 d2 sv Q gh r1 r2 eo fin
  unfold oDin at eo
  cases e : dGet d2 d1 with
  | none => rw [e] at eo; cases eo
  | some r =>
    rw [e] at eo
    cases eo
    obtain ⟨a, rfl, h⟩ := dGet_tell gh r2 r1 e
    rcases h with ⟨rfl, h⟩ | ⟨dv, w, rfl, h2, h3⟩
    · exact ⟨a, none, rfl, h, fin.im gh (by simp [Rp])⟩
    · exact ⟨a, some w, rfl, h2, fin.im gh (by simp [Rp])⟩
theorem sj_dnin {C : Cy} : SdJ C rDnin oDnin := by
  intro G H x y d1 d2 sv Q gh r1 r2 eo fin
  unfold oDnin at eo
  cases e : dGet d2 d1 with
  | none => rw [e] at eo; cases eo
  | some r =>
    rw [e] at eo
    cases eo
    obtain ⟨a, rfl, h⟩ := dGet_tell gh r2 r1 e
    rcases h with ⟨rfl, h⟩ | ⟨dv, w, rfl, h2, h3⟩
    · exact ⟨a, none, rfl, h, fin.im gh (by simp [Rp])⟩
    · exact ⟨a, some w, rfl, h2, fin.im gh (by simp [Rp])⟩
end
end DV
namespace DV
open PySem L2

section
variable {q : Bool} {X : Cx} {cls : Nat → Addr} {σ0 : Z} {W : WX} {e o a b : Expr} {es : List Expr} {pos : Pos}
/-! ### attributes -/
def oAttr (ok : Nat → Bool) (f : Str) : D → Option SV
  | .ins c ns ds => if ok c then ((ixOf ns f).bind fun j => ds[j]?).map .im else none
  | _ => none
def rFld (K : PySem.W.Frag) (f : Str) : V → Hp → VK → Prop := fun x H Q => ∃ a C dx fs v, x = .ref a ∧ H a = some (.ins C dx fs) ∧ Cls K C ∧ NoAttr K C f ∧ fs.lookup f = some v ∧ Q v H
theorem attr_tell {ok : Nat → Bool} {f : Str} {G H : Hp} {c : Nat} {ns : List Str} {ds : List D} {d : D} {x : V} {Q : VK} (hC : ∀ c, ok c = true → Cls X.K (cls c) ∧ NoAttr X.K (cls c) f) (gh : Same G H) (r : Rp (cy X cls) G (.ins c ns ds) x) (hok : ok c = true) (ed : ((ixOf ns f).bind fun j => ds[j]?) = some d)
    (hq : ∀ v, Rp (cy X cls) G d v → Q v H) : rFld X.K f x H Q := by
  simp only [Rp] at r
  obtain ⟨p, dx, fs, rfl, hp, rfl, rl⟩ := r
  cases ej : ixOf (fs.map (·.1)) f with
  | none => rw [ej] at ed; cases ed
  | some j =>
    rw [ej] at ed
    obtain ⟨v, ev, rv⟩ := rl.get (show ds[j]? = some d from ed)
    exact ⟨p, _, dx, fs, v, rfl, gh _ _ hp, (hC c hok).1, (hC c hok).2, by rw [lookup_ix, ej]; exact ev, hq v rv⟩
theorem ix_attr {ok : Nat → Bool} {f : Str} {fe : S → Rs D} (h : IV q X cls σ0 W e fe) (hC : ∀ c, ok c = true → Cls X.K (cls c) ∧ NoAttr X.K (cls c) f) (hb : attributeBase e f X.env (eval e X.env) = eval e X.env := by rfl) : IX q X cls σ0 W (.Attribute e f pos) (d1 (oAttr ok f) fe) := by
  obtain ⟨t, p, qh⟩ := h.ex
  refine ⟨_, pe_fld p hb, fun σ G H st L Q hr po => qh σ G H st L _ hr ?_⟩
  unfold d1 at po
  cases ea : fe st with
  | bad => rw [ea] at po; exact po
  | ex c s1 => rw [ea] at po; exact po
  | ok x s1 =>
    rw [ea] at po
    intro v G1 H1 L1 m1 r1 rp1
    simp only [Rs.bind] at po
    cases eo : oAttr ok f x with
    | none => rw [eo] at po; exact po.elim
    | some sv =>
      rw [eo] at po
      cases x <;> simp only [oAttr] at eo <;> (try cases eo)
      rename_i c ns ds
      split at eo
      · rename_i hok
        cases ed : (ixOf ns f).bind fun j => ds[j]? with
        | none => rw [ed] at eo; cases eo
        | some d =>
          rw [ed] at eo
          cases eo
          exact attr_tell hC r1.gh rp1 hok ed fun v rv => (fin_of m1 r1 po).im r1.gh rv
      · cases eo
/-- x.f of a name: an owned field is frozen -/
def dFld (ok : Nat → Bool) (i : Nat) (f : Str) : S → Rs D := fun s => match slG i s with
  | some (.im (.ins c ns ds)) => if ok c then (match (ixOf ns f).bind fun j => ds[j]? with
    | some d => .ok d s
    | none => .bad) else .bad
  | _ => match flG ok i f s with
    | some (.im d) => .ok d s
    | some sv => .ok (frz sv) (flS i f (.im (frz sv)) s)
    | none => .bad
theorem Pl.freeze {get : S → Option SV} {set : SV → S → S} {q1 : Bool} (pl : Pl q1 X cls σ0 e get set) {t : TE} (ht : ∀ σ G H st L sv, R (cy X cls) σ0 G H σ st L → get st = some sv → ∃ v Lv, (∀ Q : VK, Q v H → t σ H Q) ∧ Ow (cy X cls) G H sv v Lv ∧
    ∀ G1 H1 L1 st1 sv1, Mv q1 L G H G1 H1 L1 → R (cy X cls) σ0 G1 H1 σ st1 L1 → get st1 = some sv1 → ∃ A Li B, L1 = A ++ (Li ++ B) ∧ Ow (cy X cls) G1 H1 sv1 v Li ∧
      ∀ G' H' sv' Li', Same G1 G' → Same G' H' → (∀ a ∈ A ++ B, H' a = H1 a ∧ G' a = none) → Ow (cy X cls) G' H' sv' v Li' → (A ++ (Li' ++ B)).Nodup → R (cy X cls) σ0 G' H' σ (set sv' st1) (A ++ (Li' ++ B)))
    {σ : St} {G H : Hp} {st : S} {L : List Addr} {sv : SV} {Q : VK} (r : R (cy X cls) σ0 G H σ st L) (hg : get st = some sv) (po : ∀ v G' L', Mv q L G H G' H L' → R (cy X cls) σ0 G' H σ (set (.im (frz sv)) st) L' → Rp (cy X cls) G' (frz sv) v → Q v H) : t σ H Q := by
  obtain ⟨v, Lv, hv, _, later⟩ := ht σ G H st L sv r hg
  obtain ⟨A, Li, B, rfl, ow, back⟩ := later G H L st sv Mv.refl r hg
  have gg := addG_up (L := Li) r.gh
  have n1 := List.nodup_append.mp r.nd
  have n2 := List.nodup_append.mp n1.2.1
  have hAB : ∀ a ∈ A ++ B, a ∈ A ++ (Li ++ B) := fun a ha => by
    rcases List.mem_append.mp ha with z | z
    · exact List.mem_append_left _ z
    · exact List.mem_append_right _ (List.mem_append_right _ z)
  have dis : ∀ a ∈ A ++ B, a ∉ Li := fun a ha hb => by
    rcases List.mem_append.mp ha with z | z
    · exact n1.2.2 a z a (List.mem_append_left _ hb) rfl
    · exact n2.2.2 a hb a z rfl
  have rp := ow.frz r.gh
  have rr := back (addG G H Li) H (.im (frz sv)) [] gg (addG_dn r.gh) (fun a ha => ⟨rfl, by rw [addG_out (dis a ha)]; exact (r.ow.there a (hAB a ha)).2⟩) (by simp only [Ow]; exact ⟨trivial, rp⟩)
    (List.nodup_append.mpr ⟨n1.1, n2.2.1, fun a ha b hb => n1.2.2 a ha b (List.mem_append_right _ hb)⟩)
  refine hv _ (po v _ _ ⟨gg, fun b o h _ => h, fun a h k => addG_out fun z => k (List.mem_append_right _ (List.mem_append_left _ z)), fun a ha => .inl (hAB a (by simpa using ha)), fun _ _ _ _ _ h => h⟩ rr rp)
theorem iv_fld {ok : Nat → Bool} {i : Nat} {x f : Str} {pos' : Pos} (h : PE X (.Name x pos') (tVar i)) (hC : ∀ c, ok c = true → Cls X.K (cls c) ∧ NoAttr X.K (cls c) f) (hb : attributeBase (.Name x pos') f X.env (eval (.Name x pos') X.env) = eval (.Name x pos') X.env := by rfl) :
    IV q X cls σ0 W (.Attribute (.Name x pos') f pos) (dFld ok i f) := by
  have pl : Pl true X cls σ0 (.Attribute (.Name x pos') f pos) (flG ok i f) (flS i f) := pl_fld h hC hb
  obtain ⟨t, p, ql⟩ := pl.ex
  -- both readings over the same term
  refine ⟨fun σ H Q => t σ H Q ∨ tFld X.K (tVar i) f σ H Q, ⟨fun pins s σ H Q I hw => ?_⟩, fun σ G H st L Q r po => ?_⟩
  · rcases hw with hw | hw
    · exact p.run pins s σ H Q I hw
    · exact (pe_fld h hb).run pins s σ H Q I hw
  · unfold dFld at po
    split at po
    · rename_i c ns ds eg
      right
      obtain ⟨pp, es⟩ := slG_some eg
      obtain ⟨v, ev, rp⟩ := r.imAt es
      split at po
      · rename_i hok
        cases ed : (ixOf ns f).bind fun j => ds[j]? with
        | none => rw [ed] at po; exact po.elim
        | some d =>
          rw [ed] at po
          exact ⟨v, ev, attr_tell hC r.gh rp hok ed fun w rw => po w G H L Mv.refl r rw⟩
      · exact po.elim
    · left
      split at po
      · rename_i d eg
        obtain ⟨v, Lv, hv, ow, _⟩ := ql σ G H st L _ r eg
        simp only [Ow] at ow
        exact hv _ (po v G H L Mv.refl r ow.2)
      · rename_i sv _ eg
        exact Pl.freeze pl ql r eg fun v G' L' m r' rp => po v G' H L' m r' rp
      · exact po.elim

/-! ### a field is stored: x.f = e -/
def putN (f : Str) (sv : SV) (ns : List Str) (vs : List SV) : List Str × List SV := match ixOf ns f with
  | some j => (ns, vs.set j sv)
  | none => (ns ++ [f], vs ++ [sv])
def dFldS (ok : Nat → Bool) (i : Nat) (f : Str) (fe : S → Rs SV) : S → Out := fun s => ofRs (fe s) fun sv s1 => match slG i s1 with
  | some (.oi c ns vs) => if ok c && decide (ns.length < 1000) then .nx (slS i (.oi c (putN f sv ns vs).1 (putN f sv ns vs).2) s1) else .bad
  | _ => .bad
theorem OwL.app {C : Cy} {G H : Hp} : ∀ {ss : List SV} {vs : List V} {L : List Addr} {s : SV} {v : V} {Lv : List Addr}, OwL C G H ss vs L → Ow C G H s v Lv → OwL C G H (ss ++ [s]) (vs ++ [v]) (L ++ Lv)
  | [], vs, L, s, v, Lv, h, k => by
    simp only [OwL] at h
    obtain ⟨rfl, rfl⟩ := h
    simp only [List.nil_append, OwL]
    exact ⟨v, [], Lv, [], rfl, by simp, k, rfl, rfl⟩
  | x :: ss, vs, L, s, v, Lv, h, k => by
    simp only [OwL] at h
    obtain ⟨y, r, L1, L2, rfl, rfl, h1, h2⟩ := h
    simp only [List.cons_append, OwL]
    exact ⟨y, _, L1, L2 ++ Lv, rfl, by simp, h1, OwL.app h2 k⟩
theorem is_fldS {ok : Nat → Bool} {i : Nat} {x f : Str} {pos' pos2 : Pos} {fe : S → Rs SV} (h : PE X (.Name x pos') (tVar i)) (he : IX false X cls σ0 W e fe) (hC : ∀ c, ok c = true → Cls X.K (cls c) ∧ NoAttr X.K (cls c) f)
    (hs : swapsWith e (some (.Attribute (.Name x pos') f pos2)) pos.line X.env = pure false := by rfl) : IS X cls σ0 W (.Assign [.Attribute (.Name x pos') f pos2] e pos) (dFldS ok i f fe) := by
  obtain ⟨t, p, qe⟩ := he.ex
  refine ⟨_, ps_fld h p hs, fun σ G H st L E r po => qe σ G H st L _ r ?_⟩
  unfold dFldS at po
  cases ef : fe st with
  | bad => rw [ef] at po; exact po
  | ex c s1 => rw [ef] at po; exact fun d G' H' L' m r' => po d σ G' H' L' m r'
  | ok sv s1 =>
    rw [ef] at po
    simp only [ofRs] at po
    intro v G1 H1 Lv L1 m1 r1 ow lv nd
    cases eg : slG i s1 with
    | none => rw [eg] at po; exact po.elim
    | some u =>
      rw [eg] at po
      cases u with
      | oi c ns vs =>
        simp only at po
        split at po
        · rename_i hok
          have hok' := Bool.and_eq_true_iff.mp hok
          obtain ⟨pp, es⟩ := slG_some eg
          obtain ⟨o1, A, Li, B, eo, rfl, ow1, back⟩ := r1.ow.focus es
          obtain ⟨w, rfl, ow1⟩ := ow1
          simp only [Ow] at ow1
          obtain ⟨a, dx, fs, Lf, rfl, rfl, hGa, hHa, hns, owl⟩ := ow1
          have n0 := List.nodup_append.mp nd
          have n1 := List.nodup_append.mp n0.1
          have n2 := List.nodup_append.mp n1.2.1
          have n3 := List.nodup_cons.mp n2.1
          have memA : ∀ b ∈ A ++ B, b ∈ A ++ ((a :: Lf) ++ B) := fun b hb => by
            rcases List.mem_append.mp hb with z | z
            · exact List.mem_append_left _ z
            · exact List.mem_append_right _ (List.mem_append_right _ z)
          have hane : ∀ b, b ∈ A ++ ((a :: Lf) ++ B) → (b ∈ A ∨ b ∈ B ∨ b ∈ Lf) → b ≠ a := fun b _ hb z => by
            subst z
            rcases hb with y | y | y
            · exact n1.2.2 b y b (by simp) rfl
            · exact n2.2.2 b (by simp) b y rfl
            · exact n3.1 y
          have hvne : ∀ b ∈ Lv, b ≠ a := fun b hb z => by
            subst z
            exact n0.2.2 b (by simp) b hb rfl
          let H2 : Hp := upd H1 a (.ins (cls c) dx (putF f v fs))
          have gh2 : Same G1 H2 := fun b u hb => by
            show upd H1 a _ b = some u
            rw [upd_ne]
            · exact r1.gh b u hb
            · intro z; subst z; rw [hGa] at hb; cases hb
          have owv : Ow (cy X cls) G1 H2 sv v Lv := ow.frame (Same.refl _) fun b hb => ⟨upd_ne (hvne b hb), (ow.there b hb).2⟩
          have owf : OwL (cy X cls) G1 H2 vs (fs.map (·.2)) Lf := owl.frame (Same.refl _) fun b hb => ⟨upd_ne (hane b (by simp [hb]) (.inr (.inr hb))), (owl.there b hb).2⟩
          -- the new fields
          have fields : ∃ Lf', OwL (cy X cls) G1 H2 (putN f sv ns vs).2 ((putF f v fs).map (·.2)) Lf' ∧ (putF f v fs).map (·.1) = (putN f sv ns vs).1 ∧ Lf'.Nodup ∧ ∀ b ∈ Lf', b ∈ Lf ∨ b ∈ Lv := by
            unfold putN
            cases ej : ixOf ns f with
            | none =>
              obtain ⟨h1, h2⟩ := putF_none (v := v) (show ixOf (fs.map (·.1)) f = none by rw [hns]; exact ej)
              refine ⟨Lf ++ Lv, ?_, by rw [h1, hns], List.nodup_append.mpr ⟨n3.2, n0.2.1, fun b hb c hc z => ?_⟩, fun b hb => List.mem_append.mp hb⟩
              · rw [h2]; exact owf.app owv
              · subst z; exact n0.2.2 b (by simp [hb]) b hc rfl
            | some j =>
              obtain ⟨h1, h2⟩ := putF_some (v := v) (show ixOf (fs.map (·.1)) f = some j by rw [hns]; exact ej)
              have hj : j < vs.length := by
                have := ixOf_lt ej
                have e1 : ns.length = fs.length := by rw [← hns, List.length_map]
                have e2 : vs.length = fs.length := by rw [← owl.len, List.length_map]
                omega
              obtain ⟨y, A2, Lj, B2, ey, rfl, owj, back2⟩ := owf.focus (List.getElem?_eq_getElem hj)
              have m1' := List.nodup_append.mp n3.2
              have m2' := List.nodup_append.mp m1'.2.1
              have dj : ∀ b, b ∈ A2 ∨ b ∈ B2 → ∀ c ∈ Lv, b ≠ c := fun b hb c hc z => by
                subst z
                refine n0.2.2 b ?_ b hc rfl
                rcases hb with y | y <;> simp [y]
              refine ⟨A2 ++ (Lv ++ B2), ?_, by rw [h1]; exact hns, ?_, fun b hb => ?_⟩
              · rw [h2]
                exact back2 G1 H2 (Same.refl _) (fun b hb => ⟨rfl, (owf.there b (by simp at hb ⊢; rcases hb with z | z <;> simp [z])).2⟩) sv v Lv owv
              · exact List.nodup_append.mpr ⟨m1'.1, List.nodup_append.mpr ⟨n0.2.1, m2'.2.1, fun b hb c hc z => dj c (.inr hc) b hb z.symm⟩, fun b hb c hc => by
                  rcases List.mem_append.mp hc with y | y
                  · exact dj b (.inl hb) c y
                  · exact m1'.2.2 b hb c (List.mem_append_right _ y)⟩
              · rcases List.mem_append.mp hb with z | z
                · exact .inl (List.mem_append_left _ z)
                · rcases List.mem_append.mp z with z | z
                  · exact .inr z
                  · exact .inl (List.mem_append_right _ (List.mem_append_right _ z))
          obtain ⟨Lf', owf', enm, ndf, subf⟩ := fields
          have qq := back G1 H2 (Same.refl _) (fun b hb => ⟨upd_ne (hane b (memA b hb) (by
            rcases List.mem_append.mp hb with z | z
            · exact .inl z
            · exact .inr (.inl z))), (r1.ow.there b (memA b hb)).2⟩) ⟨pp, some (.oi c (putN f sv ns vs).1 (putN f sv ns vs).2)⟩ (some (.ref a)) (a :: Lf') ⟨_, rfl, by
              simp only [Ow]
              exact ⟨a, dx, _, Lf', rfl, rfl, hGa, upd_same, enm, owf'⟩⟩
          rw [set_same eo] at qq
          have eS : slS i (.oi c (putN f sv ns vs).1 (putN f sv ns vs).2) s1 = s1.set i ⟨pp, some (.oi c (putN f sv ns vs).1 (putN f sv ns vs).2)⟩ := by unfold slS; rw [es]
          have sepA : ∀ b, b ∈ A ∨ b ∈ B → ∀ c ∈ a :: Lf', b ≠ c := fun b hb d hd => by
            rcases List.mem_cons.mp hd with z | z
            · rw [z]; exact hane b (memA b (List.mem_append.mpr hb)) (hb.elim .inl fun y => .inr (.inl y))
            · rcases subf d z with y | y
              · rcases hb with w | w
                · exact n1.2.2 b w d (by simp [y])
                · exact fun z' => n2.2.2 d (by simp [y]) b w z'.symm
              · exact n0.2.2 b (memA b (List.mem_append.mpr hb)) d y
          have nda : (a :: Lf').Nodup := List.nodup_cons.mpr ⟨fun z => by
            rcases subf a z with y | y
            · exact n3.1 y
            · exact hvne a y rfl, ndf⟩
          have ndn : (A ++ ((a :: Lf') ++ B)).Nodup := List.nodup_append.mpr ⟨n1.1, List.nodup_append.mpr ⟨nda, n2.2.1, fun b hb d hd z => sepA d (.inr hd) b hb z.symm⟩, fun b hb d hd => by
            rcases List.mem_append.mp hd with y | y
            · exact sepA b (.inl hb) d y
            · exact n1.2.2 b hb d (List.mem_append_right _ y)⟩
          refine ⟨_, eo, a, cls c, dx, fs, rfl, hHa, (hC c hok'.1).1, (hC c hok'.1).2, by have := of_decide_eq_true hok'.2; rw [← hns, List.length_map] at this; exact this, ?_⟩
          rw [eS] at po
          have m1v : Mv false L G H G1 H1 ((A ++ ((a :: Lf) ++ B)) ++ Lv) := ⟨m1.gg, m1.hh, m1.fr, fun b hb => (List.mem_append.mp hb).elim (m1.ll b) (lv b), m1.ob⟩
          refine po σ G1 H2 _ (m1v.trans ⟨Same.refl _, fun b u hb k => ?_, fun _ _ _ => rfl, fun b hb => ?_, fun z => by cases z⟩) ⟨gh2, qq, ndn, R.prset (C := cy X cls) r1.pr es rfl, (R.flset (s' := ⟨pp, some (.oi c (putN f sv ns vs).1 (putN f sv ns vs).2)⟩) es rfl).trans r1.fl⟩
          · show upd H1 a _ b = some u
            rw [upd_ne]
            · exact hb
            · intro z; subst z; exact k (by simp)
          · refine .inl ?_
            rcases List.mem_append.mp hb with y | y
            · exact List.mem_append_left _ (memA b (List.mem_append_left _ y))
            · rcases List.mem_append.mp y with y | y
              · rcases List.mem_cons.mp y with y | y
                · rw [y]; simp
                · rcases subf b y with z | z
                  · simp [z]
                  · exact List.mem_append_right _ z
              · exact List.mem_append_left _ (memA b (List.mem_append_right _ y))
        · exact po.elim
      | _ => exact po.elim
end
end DV
namespace DV
open PySem L2

section
variable {q : Bool} {X : Cx} {cls : Nat → Addr} {σ0 : Z} {W : WX} {e o a b : Expr} {es : List Expr} {pos : Pos}
/-! ### methods -/
def recvOk (c : Nat) (m : Str) : SV → Bool
  | .oi c' ns _ => decide (c' = c) && (ixOf ns m).isNone
  | .im (.ins c' ns _) => decide (c' = c) && (ixOf ns m).isNone
  | _ => false
def callK (q : Bool) (F : Fn) (ps : List (SV × Option Nat)) (s1 : S) : Rs D := if q && !(ps.all fun p => isIm p.1) then .bad else match F (ps.map (·.1)) with
  | .ret d os => .ok d (putB ps os s1)
  | .ex c os => .ex c (putB ps os s1)
  | .bad => .bad
def recvGo (q : Bool) (c : Nat) (m : Str) (F : Fn) (as : List Arg) (k : SV × Option Nat) (s1 : S) : Rs D := if recvOk c m k.1 then (evArgs as s1).bind fun ps s2 => callK q F (k :: ps) s2 else .bad
/-- o.m(..), o a name -/
def dMethV (q : Bool) (c : Nat) (m : Str) (F : Fn) (i : Nat) (as : List Arg) : S → Rs D := fun s => match s[i]? with
  | some ⟨_, some (.im d)⟩ => recvGo q c m F as (.im d, none) s
  | some ⟨p, some sv⟩ => recvGo q c m F as (sv, some i) (s.set i ⟨p, none⟩)
  | _ => .bad
def dMethE (q : Bool) (c : Nat) (m : Str) (F : Fn) (f : S → Rs SV) (as : List Arg) : S → Rs D := fun s => (f s).bind fun sv s1 => recvGo q c m F as (sv, none) s1
theorem recv_tell {c : Nat} {m : Str} {G H : Hp} {sv : SV} {x : V} {Lv : List Addr} (gh : Same G H) (ow : Ow (cy X cls) G H sv x Lv) (h : recvOk c m sv = true) : ∃ a dx fs, x = .ref a ∧ H a = some (.ins (cls c) dx fs) ∧ fs.lookup m = none := by
  have noF : ∀ {ns : List Str} {fs : List (Str × V)}, fs.map (·.1) = ns → (ixOf ns m).isNone = true → fs.lookup m = none := by
    intro ns fs hns h2
    rw [lookup_ix, hns]
    cases ex : ixOf ns m with
    | none => rfl
    | some j => rw [ex] at h2; cases h2
  cases sv with
  | oi c' ns vs =>
    simp only [recvOk, Bool.and_eq_true, decide_eq_true_eq] at h
    obtain ⟨rfl, h2⟩ := h
    simp only [Ow] at ow
    obtain ⟨p, dx, fs, L', rfl, rfl, _, hp, hns, _⟩ := ow
    exact ⟨p, dx, fs, rfl, hp, noF hns h2⟩
  | im d =>
    cases d <;> simp only [recvOk] at h <;> (try cases h)
    simp only [Bool.and_eq_true, decide_eq_true_eq] at h
    obtain ⟨rfl, h2⟩ := h
    simp only [Ow, Rp] at ow
    obtain ⟨_, p, dx, fs, rfl, hp, hns, _⟩ := ow
    exact ⟨p, dx, fs, rfl, gh _ _ hp, noF hns h2⟩
  | _ => cases h
theorem recvR {F : Fn} {c np : Nat} {m : Str} {as : List Arg} {t : TA} {E : XK} {k : SV × Option Nat} {x : V} {s1 : S} {σ : St} {L L1 Lv : List Addr} {G H G1 H1 : Hp} {Q : VK} (hE : ∀ c d σ H, W c d σ H → E c d H) (hl : as.length + 1 = np)
    (qa : ∀ σ G H st L Q, R (cy X cls) σ0 G H σ st L → PostA q (cy X cls) σ0 W σ L G H Q (evArgs as st) → t σ H Q)
    (m1 : Mv q L G H G1 H1 L1) (r1 : R (cy X cls) σ0 G1 H1 σ s1 L1) (ow : Ow (cy X cls) G1 H1 k.1 x Lv) (lv : ∀ a ∈ Lv, a ∈ L ∨ H a = none) (nd : (L1 ++ Lv).Nodup) (hk : ∀ i, k.2 = some i → σ[i]? = some (some x))
    (po : PostD q (cy X cls) σ0 W σ L G H Q (recvGo q c m F as k s1)) :
    ∃ a dx fs, x = .ref a ∧ H1 a = some (.ins (cls c) dx fs) ∧ fs.lookup m = none ∧ t σ H1 fun vs H2 => spF (cy X cls) np F (x :: (vs ++ [])) H2 Q E := by
  unfold recvGo at po
  split at po
  · rename_i hrec
    obtain ⟨sv, ko⟩ := k
    obtain ⟨aa, dx, fs, ex, hp, hlk⟩ := recv_tell (X := X) r1.gh ow hrec
    refine ⟨aa, dx, fs, ex, hp, hlk, ?_⟩
    have e0 : (fun (vs : List V) (H2 : Hp) => spF (cy X cls) np F (x :: (vs ++ [])) H2 Q E) = fun vs H2 => spF (cy X cls) np F (x :: vs) H2 Q E := by
      funext vs H2
      rw [List.append_nil]
    rw [e0]
    refine argsR (Q := fun vs H2 => spF (cy X cls) np F vs H2 Q E) qa m1 r1 ow lv nd hk ?_
    cases ez : evArgs as s1 with
    | bad => rw [ez] at po; exact po
    | ex c s => rw [ez] at po; exact po
    | ok ps s2 =>
      rw [ez] at po
      simp only [Rs.bind] at po ⊢
      intro vs G2 H2 La L2 m2 r2 owl la nd2 ss
      exact callR (fun c d H h => hE c d σ H h) (by rw [List.length_map, List.length_cons, evArgs_len ez, hl]) m2 r2 owl la nd2 ss po
  · exact po.elim
theorem iv_methV {F : Fn} {c : Nat} {m : Str} {as : List Arg} {E : XK} {i np : Nat} {w : Expr} (h : PE X o (tVar i)) (ha : IA q X cls σ0 W es as) (hE : ∀ c d σ H, W c d σ H → E c d H) (hl : as.length + 1 = np)
    (hp : ∀ to t, PE X o to → PA X es t → PE X w (tMeth (cls c) m (spF (cy X cls) np F) [] E to t)) : IV q X cls σ0 W w (dMethV q c m F i as) := by
  obtain ⟨t, pa, qa⟩ := ha.ex
  refine ⟨_, hp _ _ h pa, fun σ G H st L Q r po => ?_⟩
  unfold dMethV at po
  cases es : st[i]? with
  | none => rw [es] at po; exact po.elim
  | some u =>
    obtain ⟨p, sv⟩ := u
    cases sv with
    | none => rw [es] at po; exact po.elim
    | some sv =>
      have gen : PostD q (cy X cls) σ0 W σ L G H Q (recvGo q c m F as (sv, some i) (st.set i ⟨p, none⟩)) → tMeth (cls c) m (spF (cy X cls) np F) [] E (tVar i) t σ H Q := fun po => by
        obtain ⟨v, L1, Lv, e1, r1, ow, nd, h1, h2⟩ := r.take es
        exact ⟨v, e1, recvR hE hl qa ⟨Same.refl _, fun _ _ h _ => h, fun _ _ _ => rfl, fun a ha => .inl (h1 a ha), fun _ _ _ _ _ h => h⟩ r1 ow (fun a ha => .inl (h2 a ha)) nd (fun j z => by cases z; exact e1) po⟩
      cases sv with
      | im d =>
        rw [es] at po
        obtain ⟨v, e1, rp⟩ := r.imAt es
        exact ⟨v, e1, recvR hE hl qa Mv.refl r (Lv := []) (k := (.im d, none)) (by simp only [Ow]; exact ⟨trivial, rp⟩) (fun a z => by simp at z) (by simpa using r.nd) (fun j z => by cases z) po⟩
      | ol ds => rw [es] at po; exact gen po
      | ok ks vs => rw [es] at po; exact gen po
      | ot ks vs => rw [es] at po; exact gen po
      | oi c ns vs => rw [es] at po; exact gen po
theorem iv_methE {F : Fn} {c : Nat} {m : Str} {as : List Arg} {E : XK} {np : Nat} {f : S → Rs SV} {w : Expr} (h : IX q X cls σ0 W o f) (ha : IA q X cls σ0 W es as) (hE : ∀ c d σ H, W c d σ H → E c d H) (hl : as.length + 1 = np)
    (hp : ∀ to t, PE X o to → PA X es t → PE X w (tMeth (cls c) m (spF (cy X cls) np F) [] E to t)) : IV q X cls σ0 W w (dMethE q c m F f as) := by
  obtain ⟨t, pa, qa⟩ := ha.ex
  obtain ⟨to, po0, qo⟩ := h.ex
  refine ⟨_, hp _ _ po0 pa, fun σ G H st L Q r po => qo σ G H st L _ r ?_⟩
  unfold dMethE at po
  cases ef : f st with
  | bad => rw [ef] at po; exact po
  | ex c s1 => rw [ef] at po; exact po
  | ok sv s1 =>
    rw [ef] at po
    intro v G1 H1 Lv L1 m1 r1 ow lv nd
    exact recvR hE hl qa m1 r1 ow lv nd (k := (sv, none)) (fun j z => by cases z) po

/-! ### instances made -/
def dMake (q : Bool) (F : Fn) (c : Nat) (as : List Arg) : S → Rs SV := fun s => (evArgs as s).bind fun ps s1 => if q && !(ps.all fun p => isIm p.1) then .bad else match F (.oi c [] [] :: ps.map (·.1)) with
  | .ret .non (some sv :: os) => .ok sv (putB ps os s1)
  | .ex x (_ :: os) => .ex x (putB ps os s1)
  | _ => .bad
theorem ix_make {F : Fn} {c np : Nat} {as : List Arg} {E : XK} {w : Expr} (ha : IA q X cls σ0 W es as) (hE : ∀ c d σ H, W c d σ H → E c d H) (hl : as.length + 1 = np) (hp : ∀ t, PA X es t → PE X w (tMake (cls c) (spF (cy X cls) np F) [] E t)) : IX q X cls σ0 W w (dMake q F c as) := by
  obtain ⟨t, pa, qa⟩ := ha.ex
  refine ⟨_, hp _ pa, fun σ G H st L Q r po => qa σ G H st L _ r ?_⟩
  unfold dMake at po
  cases ea : evArgs as st with
  | bad => rw [ea] at po; exact po
  | ex x s1 => rw [ea] at po; exact po
  | ok ps st1 =>
    rw [ea] at po
    simp only [Rs.bind] at po
    intro vs G1 H1 La L1 m1 r1 ow la nd ss x dx hx hdx hne
    split at po
    · exact po.elim
    rename_i hq
    rw [List.append_nil]
    have n := List.nodup_append.mp nd
    let H2 : Hp := upd (upd H1 dx (.own x)) x (.ins (cls c) dx [])
    have ne2 : ∀ b, H1 b ≠ none → b ≠ x ∧ b ≠ dx := fun b hb => ⟨fun z => hb (by rw [z]; exact hx), fun z => hb (by rw [z]; exact hdx)⟩
    have at2 : ∀ b, H1 b ≠ none → H2 b = H1 b := fun b hb => by
      show upd (upd H1 dx (.own x)) x _ b = H1 b
      rw [upd_ne (ne2 b hb).1, upd_ne (ne2 b hb).2]
    have s12 : Same H1 H2 := fun b u hb => by rw [at2 b (by rw [hb]; simp)]; exact hb
    have gh2 : Same G1 H2 := r1.gh.trans s12
    have hGx : G1 x = none := r1.gh.free hx
    have hxLa : x ∉ La := fun z => (ow.there x z).1 hx
    have ow2 : OwL (cy X cls) G1 H2 (.oi c [] [] :: ps.map (·.1)) (.ref x :: vs) ([x] ++ La) := by
      simp only [OwL]
      refine ⟨.ref x, vs, [x], La, rfl, rfl, ?_, ow.frame (Same.refl _) fun b hb => ⟨at2 b (ow.there b hb).1, (ow.there b hb).2⟩⟩
      simp only [Ow, OwL]
      exact ⟨x, dx, [], [], rfl, rfl, hGx, upd_same, rfl, rfl, rfl⟩
    refine ⟨by rw [List.length_cons, ow.len, List.length_map, evArgs_len ea, hl], G1, _, _, gh2, ow2, List.nodup_append.mpr ⟨by simp, n.2.1, fun b hb d hd z => by
      have hb' : b = x := by simpa using hb
      subst z; rw [hb'] at hd; exact hxLa hd⟩, ?_⟩
    have fin : ∀ (os : List (Option SV)) (G3 H3 : Hp) (L3 : List Addr), Mv false ([x] ++ La) G1 H2 G3 H3 L3 → Same G3 H3 → OwLo (cy X cls) G3 H3 os (.ref x :: vs) L3 → L3.Nodup →
        ∃ Lx Lr, (∀ o os', os = o :: os' → OwO (cy X cls) G3 H3 o (some (.ref x)) Lx ∧ R (cy X cls) σ0 G3 H3 σ (putB ps os' st1) Lr ∧ Mv q L G H G3 H3 Lr ∧ (∀ b ∈ Lx, b ∈ L ∨ H b = none) ∧ (Lr ++ Lx).Nodup) := by
      intro os G3 H3 L3 m3 gh3 oo nd3
      cases os with
      | nil => exact ⟨[], [], fun o os' z => by cases z⟩
      | cons o os =>
        obtain ⟨y, rr, A, B, e1, rfl, o1, o2⟩ := oo
        obtain ⟨rfl, rfl⟩ := List.cons_eq_cons.mp e1
        have n3 := List.nodup_append.mp nd3
        have out : ∀ b ∈ L1, b ∉ [x] ++ La := fun b hb z => by
          rcases List.mem_append.mp z with y | y
          · have hb' : b = x := by simpa using y
            rw [hb'] at hb
            exact (r1.ow.there x hb).1 hx
          · exact n.2.2 b hb b y rfl
        have there2 : ∀ b ∈ L1, H2 b ≠ none ∧ G1 b = none := fun b hb => ⟨by rw [at2 b (r1.ow.there b hb).1]; exact (r1.ow.there b hb).1, (r1.ow.there b hb).2⟩
        have kp : ∀ b ∈ L1, H3 b = H1 b ∧ G3 b = none := fun b hb => by
          have k := m3.keep (there2 b hb) (out b hb)
          exact ⟨k.1.trans (at2 b (r1.ow.there b hb).1), k.2⟩
        have r3 : R (cy X cls) σ0 G3 H3 σ st1 L1 := ⟨gh3, r1.ow.frame m3.gg kp, r1.nd, r1.pr, r1.fl⟩
        have new3 : ∀ b, b ∈ A ∨ b ∈ B → b ∉ L1 := fun b hb z => by
          have hb' : b ∈ A ++ B := List.mem_append.mpr hb
          rcases m3.ll b hb' with y | y
          · exact out b z y
          · exact (there2 b z).1 y
        have ndB : (L1 ++ B).Nodup := List.nodup_append.mpr ⟨n.1, n3.2.1, fun b hb d hd z => by subst z; exact new3 b (.inr hd) hb⟩
        obtain ⟨Lr, rr3, hl3⟩ := putB_ok (ps := ps) r3 o2 ndB ss
        have old3 : ∀ b, b ∈ A ∨ b ∈ B → b ∈ L ∨ H b = none := fun b hb => by
          have hb' : b ∈ A ++ B := List.mem_append.mpr hb
          rcases m3.ll b hb' with y | y
          · rcases List.mem_append.mp y with y | y
            · have e : b = x := by simpa using y
              rw [e]
              exact m1.old (.inr hx)
            · exact la b y
          · refine m1.old (.inr ?_)
            cases e : H1 b with
            | none => rfl
            | some u => rw [s12 b u e] at y; cases y
        refine ⟨A, Lr, fun o' os' z => ?_⟩
        cases z
        refine ⟨o1, rr3, ⟨m1.gg.trans m3.gg, fun b u hb k => ?_, fun b hb k => ?_, fun b hb => ?_, fun z p c' dx' fs h => ?_⟩, fun b hb => old3 b (.inl hb), List.nodup_append.mpr ⟨rr3.nd, n3.1, fun b hb d hd z => ?_⟩⟩
        · have h1 := m1.hh b u hb k
          refine m3.hh b u (s12 b u h1) fun z => ?_
          rcases List.mem_append.mp z with y | y
          · have e : b = x := by simpa using y
            rw [e, hx] at h1; cases h1
          · rcases la b y with w | w
            · exact k w
            · rw [hb] at w; cases w
        · have h1 : H1 b ≠ none := by
            cases e : H b with
            | none => exact absurd e hb
            | some u => rw [m1.hh b u e k]; simp
          rw [m3.fr b (by rw [at2 b h1]; exact h1) fun z => ?_, m1.fr b hb k]
          rcases List.mem_append.mp z with y | y
          · have e : b = x := by simpa using y
            rw [e] at h1; exact h1 hx
          · rcases la b y with w | w
            · exact k w
            · exact hb w
        · rcases hl3 b hb with y | y
          · exact m1.ll b y
          · exact old3 b (.inr y)
        · have e0 : La = [] := by
            refine ow.ims ?_
            cases hb : ps.all fun p => isIm p.1 with
            | true => rfl
            | false => rw [hb, z] at hq; exact absurd rfl hq
          subst e0
          have h1 := m1.ob z p c' dx' fs h
          refine m3.hh p _ (s12 p _ h1) fun y => ?_
          have e : p = x := by simpa using y
          rw [e, hx] at h1; cases h1
        · subst z
          rcases hl3 b hb with y | y
          · exact new3 b (.inl hd) y
          · exact n3.2.2 b hd b y rfl
    cases eF : F (.oi c [] [] :: ps.map (·.1)) with
    | bad => rw [eF] at po; exact po.elim
    | ret d os =>
      rw [eF] at po
      intro v G3 H3 L3 m3 gh3 oo nd3 rp
      obtain ⟨Lx, Lr, hfin⟩ := fin os G3 H3 L3 m3 gh3 oo nd3
      cases d <;> (try exact po.elim)
      cases os with
      | nil => exact po.elim
      | cons oh os =>
        cases oh with
        | none => exact po.elim
        | some sv =>
          obtain ⟨⟨y, e1, h1⟩, h2, h3, h4, h5⟩ := hfin _ _ rfl
          cases e1
          simp only [Rp] at rp
          exact ⟨rp, po _ G3 H3 Lx Lr h3 h2 h1 h4 h5⟩
    | ex y os =>
      rw [eF] at po
      intro dz G3 H3 L3 m3 gh3 oo nd3
      obtain ⟨Lx, Lr, hfin⟩ := fin os G3 H3 L3 m3 gh3 oo nd3
      cases os with
      | nil => exact po.elim
      | cons oh os =>
        obtain ⟨_, h2, h3, _, _⟩ := hfin _ _ rfl
        exact hE _ _ σ _ (po dz G3 H3 Lr h3 h2)
end
end DV
namespace DV
open PySem L2

section
variable {q : Bool} {X : Cx} {cls : Nat → Addr} {σ0 : Z} {W : WX} {e o a b : Expr} {es : List Expr} {pos : Pos}
/-! ### a call by any form -/
theorem iv_callF {F : Fn} {as : List Arg} {np : Nat} {w : Expr} (tk : Takes X W) (hl : as.length = np) (ha : IA q X cls σ0 W es as) (hp : ∀ t, PA X es t → PE X w (tCallS (spF (cy X cls) np F) (WE W) t)) : IV q X cls σ0 W w (dCall q F as) := by
  obtain ⟨t, pa, qa⟩ := ha.ex
  refine ⟨_, hp _ pa, fun σ G H st L Q r po => qa σ G H st L _ r ?_⟩
  unfold dCall at po
  cases ea : evArgs as st with
  | bad => rw [ea] at po; exact po
  | ex c s1 => rw [ea] at po; exact po
  | ok pps s1 =>
    rw [ea] at po
    intro vs G1 H1 La L1 m1 r1 ow la nd ss
    exact callR (fun c d H h => h) (by rw [List.length_map, evArgs_len ea, hl]) m1 r1 ow la nd ss po
/-- C.m(self, ..): a def read off its class -/
theorem pe_clsM {CXx : CXT} {k : Nat} {f C : Addr} {fd : FuncData} {ps : List Str} {sp : Sp} {E : St → XK} {x m : Str} {np apos : Pos} {t : TA} {mc : Value} {pl : Sem Bool} (FN : FnOk X.prog X.w X.K X.mg X.base CXx k f fd ps sp) (hr : Room k X.A) (hg : Gl X x) (hm : X.mg x = some (.ref C))
    (cr : ClX.CRead X.K C mc) (cv : ClX.CVal X.K C mc m (.ref f) (.ref f)) (hk : PySem.W.keepIn X.K (.ref f) = true) (hb : Binds X.K fd ps []) (hx : ∀ σ, PassesAt CXx X σ (E σ)) (ha : PA X (e :: es) t) (hdb : (x == ("__debug__" : Str)) = false := by decide)
    (he : starEach (e :: es) X.env = (false, eval e X.env) :: starEach es X.env := by rfl) (hpl : (backTo pos (starEach es X.env)).any (·.1) = false := by rfl)
    (ht : eval (.Call (.Attribute (.Name x np) m apos) (e :: es) [] pos) X.env = (do
      let ov ← eval (.Name x np) X.env
      standAt apos.atName
      let (f, first) ← holding [ov] (getMethod ov m pl)
      callWith pos f first (backTo pos (starEach (e :: es) X.env)) (backToKw pos (keywordEach [] X.env))) := by rfl) :
    PE X (.Call (.Attribute (.Name x np) m apos) (e :: es) [] pos) (tCallS sp E t) := by
  refine ⟨fun pins s σ H Q I h => PySem.W.methodCall_KW (pl := pl) (ld_glob I hg hm ?_ hdb) ht⟩
  refine PySem.W.method_cls I.kIn cr.ga (ClX.getcval_ok I cr cv fun s2 I2 => ?_)
  refine PySem.W.callWith_K (first := []) (h₀ := X.base) I2.ok.mod.kin hk (thn (ha.run pos pins s2 σ H _ I2 h) fun us s3 ⟨vs, H3, I3, rv, q3⟩ => ⟨I3.kIn, ?_⟩) he hpl
  rw [List.nil_append]
  exact run_fnS FN hr hb (hx σ) I3 rv q3

/-! ### dicts written -/
def putVs {κ α : Type} [DecidableEq κ] : List κ → List α → κ → α → List α
  | k :: ks, x :: vs, j, v => (if k = j then v else x) :: putVs ks vs j v
  | _, _, _, _ => []
def putD {κ α : Type} [DecidableEq κ] (ks : List κ) (vs : List α) (j : κ) (v : α) : List κ × List α := if ks.any fun k => decide (k = j) then (ks, putVs ks vs j v) else (ks ++ [j], vs ++ [v])
theorem putD_ok {κ : Type} [DecidableEq κ] {C : Cy} {G : Hp} {j : κ} {d : D} {v : V} (rv : Rp C G d v) {kvs : List (κ × V)} {vs : List D} (h : RpL C G vs (kvs.map (·.2))) :
    (putK kvs j v).map (·.1) = (putD (kvs.map (·.1)) vs j d).1 ∧ RpL C G (putD (kvs.map (·.1)) vs j d).2 ((putK kvs j v).map (·.2)) := by
  have any : ((kvs.map (·.1)).any fun k => decide (k = j)) = kvs.any fun kv => decide (kv.1 = j) := by rw [List.any_map]; rfl
  unfold putD putK
  rw [any]
  split
  · refine ⟨?_, ?_⟩
    · rw [List.map_map]
      refine List.map_congr_left fun kv _ => ?_
      show (if kv.1 = j then (kv.1, v) else kv).1 = kv.1
      split <;> rfl
    · have gen : ∀ (kvs : List (κ × V)) (vs : List D), RpL C G vs (kvs.map (·.2)) → RpL C G (putVs (kvs.map (·.1)) vs j d) ((kvs.map fun kv => if kv.1 = j then (kv.1, v) else kv).map (·.2)) := by
        intro kvs
        induction kvs with
        | nil =>
          intro vs h
          cases vs with
          | nil => exact h
          | cons x xs => simp only [List.map_nil, RpL] at h; obtain ⟨_, _, z, _⟩ := h; cases z
        | cons kv kvs ih =>
          intro vs h
          cases vs with
          | nil => simp only [List.map_cons, RpL] at h; cases h
          | cons x xs =>
            simp only [List.map_cons, RpL] at h
            obtain ⟨y, r, e1, h1, h2⟩ := h
            obtain ⟨rfl, rfl⟩ := List.cons_eq_cons.mp e1
            simp only [List.map_cons, putVs, RpL]
            refine ⟨_, _, rfl, ?_, ih xs h2⟩
            by_cases hk : kv.1 = j
            · rw [if_pos hk, if_pos hk]; exact rv
            · rw [if_neg hk, if_neg hk]; exact h1
      exact gen kvs vs h
  · refine ⟨by simp, ?_⟩
    simp only [List.map_append, List.map_cons, List.map_nil]
    exact h.app (by simp only [RpL]; exact ⟨v, [], rfl, rv, rfl⟩)
/-- the owned dict of a place is changed -/
theorem Pl.wk {C : Cy} {G1 H1 : Hp} {σ : St} {st1 : S} {L1 A Li B : List Addr} {set : SV → S → S} {v : V} {ks : List Key} {vs : List D} (r1 : R C σ0 G1 H1 σ st1 L1) (eL : L1 = A ++ (Li ++ B)) (ow : Ow C G1 H1 (.ok ks vs) v Li)
    (back : ∀ G' H' sv' Li', Same G1 G' → Same G' H' → (∀ a ∈ A ++ B, H' a = H1 a ∧ G' a = none) → Ow C G' H' sv' v Li' → (A ++ (Li' ++ B)).Nodup → R C σ0 G' H' σ (set sv' st1) (A ++ (Li' ++ B))) :
    ∃ l kvs, v = .ref l ∧ H1 l = some (.dK kvs) ∧ kvs.map (·.1) = ks ∧ RpL C G1 vs (kvs.map (·.2)) ∧ ∀ ks' vs' kvs', kvs'.map (·.1) = ks' → RpL C G1 vs' (kvs'.map (·.2)) → R C σ0 G1 (upd H1 l (.dK kvs')) σ (set (.ok ks' vs') st1) L1 ∧ Mv q L1 G1 H1 G1 (upd H1 l (.dK kvs')) L1 := by
  simp only [Ow] at ow
  obtain ⟨l, kvs, rfl, rfl, hG, hH, ek, rp⟩ := ow
  refine ⟨l, kvs, rfl, hH, ek, rp, fun ks' vs' kvs' ek' rp' => ?_⟩
  have hin : l ∈ L1 := by rw [eL]; simp
  have gh' : Same G1 (upd H1 l (.dK kvs')) := fun b u h => by
    rw [upd_ne]
    · exact r1.gh b u h
    · intro z; subst z; rw [hG] at h; cases h
  have nd : (A ++ ([l] ++ B)).Nodup := eL ▸ r1.nd
  have n1 := List.nodup_append.mp nd
  have n2 := List.nodup_append.mp n1.2.1
  have hne : ∀ a ∈ A ++ B, a ≠ l := fun a ha z => by
    subst z
    rcases List.mem_append.mp ha with y | y
    · exact n1.2.2 a y a (by simp) rfl
    · exact n2.2.2 a (by simp) a y rfl
  have hAB : ∀ a ∈ A ++ B, a ∈ L1 := fun a ha => by
    rw [eL]
    exact (List.mem_append.mp ha).elim (List.mem_append_left _) fun z => List.mem_append_right _ (List.mem_append_right _ z)
  have rr := back G1 _ (.ok ks' vs') [l] (Same.refl _) gh' (fun a ha => ⟨upd_ne (hne a ha), (r1.ow.there a (hAB a ha)).2⟩) (by simp only [Ow]; exact ⟨l, kvs', rfl, rfl, hG, upd_same, ek', rp'⟩) nd
  rw [← eL] at rr
  refine ⟨rr, Same.refl _, fun b u h k => ?_, fun _ _ _ => rfl, fun a ha => .inl ha, fun _ p c dx fs h => ?_⟩
  · rw [upd_ne]
    · exact h
    · intro z; subst z; exact k hin
  · rw [upd_ne]
    · exact h
    · intro z; subst z; rw [hH] at h; cases h
theorem Pl.wt {C : Cy} {G1 H1 : Hp} {σ : St} {st1 : S} {L1 A Li B : List Addr} {set : SV → S → S} {v : V} {ks : List (List Key)} {vs : List D} (r1 : R C σ0 G1 H1 σ st1 L1) (eL : L1 = A ++ (Li ++ B)) (ow : Ow C G1 H1 (.ot ks vs) v Li)
    (back : ∀ G' H' sv' Li', Same G1 G' → Same G' H' → (∀ a ∈ A ++ B, H' a = H1 a ∧ G' a = none) → Ow C G' H' sv' v Li' → (A ++ (Li' ++ B)).Nodup → R C σ0 G' H' σ (set sv' st1) (A ++ (Li' ++ B))) :
    ∃ l kvs, v = .ref l ∧ H1 l = some (.dT kvs) ∧ kvs.map (·.1) = ks ∧ RpL C G1 vs (kvs.map (·.2)) ∧ ∀ ks' vs' kvs', kvs'.map (·.1) = ks' → RpL C G1 vs' (kvs'.map (·.2)) → R C σ0 G1 (upd H1 l (.dT kvs')) σ (set (.ot ks' vs') st1) L1 ∧ Mv q L1 G1 H1 G1 (upd H1 l (.dT kvs')) L1 := by
  simp only [Ow] at ow
  obtain ⟨l, kvs, rfl, rfl, hG, hH, ek, rp⟩ := ow
  refine ⟨l, kvs, rfl, hH, ek, rp, fun ks' vs' kvs' ek' rp' => ?_⟩
  have hin : l ∈ L1 := by rw [eL]; simp
  have gh' : Same G1 (upd H1 l (.dT kvs')) := fun b u h => by
    rw [upd_ne]
    · exact r1.gh b u h
    · intro z; subst z; rw [hG] at h; cases h
  have nd : (A ++ ([l] ++ B)).Nodup := eL ▸ r1.nd
  have n1 := List.nodup_append.mp nd
  have n2 := List.nodup_append.mp n1.2.1
  have hne : ∀ a ∈ A ++ B, a ≠ l := fun a ha z => by
    subst z
    rcases List.mem_append.mp ha with y | y
    · exact n1.2.2 a y a (by simp) rfl
    · exact n2.2.2 a (by simp) a y rfl
  have hAB : ∀ a ∈ A ++ B, a ∈ L1 := fun a ha => by
    rw [eL]
    exact (List.mem_append.mp ha).elim (List.mem_append_left _) fun z => List.mem_append_right _ (List.mem_append_right _ z)
  have rr := back G1 _ (.ot ks' vs') [l] (Same.refl _) gh' (fun a ha => ⟨upd_ne (hne a ha), (r1.ow.there a (hAB a ha)).2⟩) (by simp only [Ow]; exact ⟨l, kvs', rfl, rfl, hG, upd_same, ek', rp'⟩) nd
  rw [← eL] at rr
  refine ⟨rr, Same.refl _, fun b u h k => ?_, fun _ _ _ => rfl, fun a ha => .inl ha, fun _ p c dx fs h => ?_⟩
  · rw [upd_ne]
    · exact h
    · intro z; subst z; exact k hin
  · rw [upd_ne]
    · exact h
    · intro z; subst z; rw [hH] at h; cases h
/-- d[k] = e -/
def dDput (get : S → Option SV) (set : SV → S → S) (fv fk : S → Rs D) : S → Out := fun s => ofRs (fv s) fun d s1 => match get s1 with
  | some _ => ofRs (fk s1) fun k s2 => match get s2 with
    | some (.ok ks vs) => match keyD k with
      | some j => if ks.length < sizeLine then .nx (set (.ok (putD ks vs j d).1 (putD ks vs j d).2) s2) else .bad
      | none => .bad
    | some (.ot ks vs) => match k with
      | .tup ds => match keysD ds with
        | some j => if ks.length < sizeLine then .nx (set (.ot (putD ks vs j d).1 (putD ks vs j d).2) s2) else .bad
        | none => .bad
      | _ => .bad
    | _ => .bad
  | none => .bad
theorem is_dput {get : S → Option SV} {set : SV → S → S} {fv fk : S → Rs D} {i v : Expr} {w : Stmt} (pl : Pl q X cls σ0 o get set) (hk : IV q X cls σ0 W i fk) (hv : IV false X cls σ0 W v fv) (hp : ∀ to ti tv, PE X o to → PE X i ti → PE X v tv → PS X w (sDPut to ti tv)) : IS X cls σ0 W w (dDput get set fv fk) := by
  obtain ⟨t, p, ql⟩ := pl.ex
  obtain ⟨tk, pk, qk⟩ := hk.ex
  obtain ⟨tv, pv, qv⟩ := hv.ex
  refine ⟨_, hp _ _ _ p pk pv, fun σ G H st L E r po => qv σ G H st L _ r ?_⟩
  unfold dDput at po
  cases ev : fv st with
  | bad => rw [ev] at po; exact po
  | ex c s1 => rw [ev] at po; exact fun d G' H' L' m r' => po d σ G' H' L' m r'
  | ok d s1 =>
    rw [ev] at po
    simp only [ofRs] at po
    intro x G1 H1 L1 m1 r1 rpd
    cases eg : get s1 with
    | none => rw [eg] at po; exact po.elim
    | some sv0 =>
      rw [eg] at po
      simp only at po
      obtain ⟨y, Ly, hy, _, later⟩ := ql σ G1 H1 s1 L1 sv0 r1 eg
      refine hy _ (qk σ G1 H1 s1 L1 _ r1 ?_)
      cases ek : fk s1 with
      | bad => rw [ek] at po; exact po
      | ex c s2 => rw [ek] at po; exact fun dz G' H' L' m r' => po dz σ G' H' L' (m1.trans m.low) r'
      | ok k s2 =>
        rw [ek] at po
        simp only at po
        intro z G2 H2 L2 m2 r2 rpk
        split at po
        · rename_i ks vs eg2
          obtain ⟨A, Li, B, eL, ow, back⟩ := later G2 H2 L2 s2 _ m2 r2 eg2
          split at po
          · rename_i j ej
            split at po
            · rename_i hlen
              obtain ⟨l, kvs, rfl, hH, rfl, rpl, wr⟩ := Pl.wk (q := false) r2 eL ow back
              obtain ⟨h1, h2⟩ := putD_ok (j := j) (rpd.mono m2.gg) rpl
              obtain ⟨r3, m3⟩ := wr _ _ _ h1 h2
              exact ⟨l, _, rfl, .inl ⟨kvs, j, hH, keyD_rp rpk ej, by rw [List.length_map] at hlen; exact hlen, rfl⟩, po σ G2 _ L2 ((m1.trans m2.low).trans m3) r3⟩
            · exact po.elim
          · exact po.elim
        · rename_i ks vs eg2
          obtain ⟨A, Li, B, eL, ow, back⟩ := later G2 H2 L2 s2 _ m2 r2 eg2
          split at po
          · rename_i ds
            split at po
            · rename_i j ej
              split at po
              · rename_i hlen
                obtain ⟨l, kvs, rfl, hH, rfl, rpl, wr⟩ := Pl.wt (q := false) r2 eL ow back
                obtain ⟨h1, h2⟩ := putD_ok (j := j) (rpd.mono m2.gg) rpl
                obtain ⟨r3, m3⟩ := wr _ _ _ h1 h2
                simp only [Rp] at rpk
                obtain ⟨bb, xs, rfl, hb, rb⟩ := rpk
                exact ⟨l, _, rfl, .inr ⟨kvs, j, bb, hH, rfl, by rw [← keysD_rp rb ej]; exact r2.gh _ _ hb, by rw [List.length_map] at hlen; exact hlen, rfl⟩, po σ G2 _ L2 ((m1.trans m2.low).trans m3) r3⟩
              · exact po.elim
            · exact po.elim
          · exact po.elim
        · exact po.elim
/-- {} -/
theorem ix_dnewK : IX q X cls σ0 W (.Dict [] [] pos) (fun s => .ok (.ok [] []) s) :=
  ⟨_, pe_dnewK, fun σ G H st L Q r po p hp => (fin_of Mv.refl r po).okd r.gh hp rfl (by simp only [RpL, List.map_nil])⟩
theorem ix_dnewT : IX q X cls σ0 W (.Dict [] [] pos) (fun s => .ok (.ot [] []) s) :=
  ⟨_, pe_dnewT, fun σ G H st L Q r po p hp => (fin_of Mv.refl r po).otd r.gh hp rfl (by simp only [RpL, List.map_nil])⟩
/-- {k: e}, one pair with a key of ints and texts -/
def dDisp1 (fk fv : S → Rs D) : S → Rs SV := fun s => (fk s).bind fun k s1 => (fv s1).bind fun d s2 => match keyD k with
  | some j => .ok (.ok [j] [d]) s2
  | none => .bad
theorem ix_disp1 {fk fv : S → Rs D} {k v : Expr} (hk : IV q X cls σ0 W k fk) (hv : IV q X cls σ0 W v fv) : IX q X cls σ0 W (.Dict [some k] [v] pos) (dDisp1 fk fv) := by
  obtain ⟨tk, pk, qk⟩ := hk.ex
  obtain ⟨tv, pv, qv⟩ := hv.ex
  refine ⟨_, pe_disp (pps_cons pk pv pps_nil) rfl rfl (fun z => by cases z) (show 1 ≤ 15 by decide), fun σ G H st L Q r po p hp => ?_⟩
  have hpL : p ∉ L := fun z => (r.ow.there p z).1 hp
  have hGp : G p = none := r.gh.free hp
  have r0 := r.updD (.dK []) hpL hGp
  have m0 : Mv q L G H G (upd H p (.dK [])) (p :: L) := Mv.newD hp
  refine qk σ G _ st L _ r0 ?_
  unfold dDisp1 at po
  have lift : ∀ {G' H' : Hp} {L' : List Addr}, Mv q L G (upd H p (.dK [])) G' H' L' → H' p = some (.dK []) ∧ G' p = none ∧ p ∉ L' ∧ Mv q L G H G' H' (p :: L') := fun m => by
    obtain ⟨h1, h2, h3, h4⟩ := m.cons hpL upd_same hGp
    exact ⟨h1, h2, h3, m0.trans h4⟩
  have weak : ∀ {G' H' : Hp} {L' : List Addr}, Mv q L G H G' H' (p :: L') → Mv q L G H G' H' L' := fun m => ⟨m.gg, m.hh, m.fr, fun a ha => m.ll a (List.mem_cons_of_mem _ ha), m.ob⟩
  cases ek : fk st with
  | bad => rw [ek] at po; exact po
  | ex c s1 => rw [ek] at po; exact fun d G' H' L' m r' => po d G' H' L' (weak (lift m).2.2.2) r'
  | ok kd s1 =>
    rw [ek] at po
    simp only [Rs.bind] at po
    intro x G1 H1 L1 m1 r1 rpk
    refine qv σ G1 H1 s1 L1 _ r1 ?_
    cases ev : fv s1 with
    | bad => rw [ev] at po; exact po
    | ex c s2 => rw [ev] at po; exact fun d G' H' L' m r' => po d G' H' L' (weak (lift (m1.trans m)).2.2.2) r'
    | ok d s2 =>
      rw [ev] at po
      simp only at po
      intro y G2 H2 L2 m2 r2 rpd
      obtain ⟨hH, hG, hp2, m3⟩ := lift (m1.trans m2)
      split at po
      · rename_i j ej
        refine ⟨hH, [(j, y)], by rw [keyD_rp rpk ej]; rfl, by simp, ?_⟩
        have r3 := r2.updD (.dK [(j, y)]) hp2 hG
        have m4 : Mv q (p :: L2) G2 H2 G2 (upd H2 p (.dK [(j, y)])) (p :: L2) := by
          refine ⟨Same.refl _, fun b u h kk => ?_, fun _ _ _ => rfl, fun a ha => .inl ha, fun _ pp c dx fs h => ?_⟩
          · rw [upd_ne]
            · exact h
            · intro z; subst z; exact kk List.mem_cons_self
          · rw [upd_ne]
            · exact h
            · intro z; subst z; rw [hH] at h; cases h
        have m5 := m3.trans m4
        refine po (.ref p) G2 _ [p] L2 (weak m5) r3 ?_ (fun a ha => m5.ll a (by simp at ha; rw [ha]; exact List.mem_cons_self)) ?_
        · simp only [Ow]
          exact ⟨p, [(j, y)], rfl, rfl, hG, upd_same, rfl, by simp only [List.map_cons, List.map_nil, RpL]; exact ⟨y, [], rfl, rpd, rfl⟩⟩
        · exact List.nodup_append.mpr ⟨r2.nd, by simp, fun a ha b hb z => by
            have e : b = p := by simpa using hb
            subst z; rw [e] at ha; exact hp2 ha⟩
      · exact po.elim
/-! ### isinstance -/
def oIsi (T : String) (d : D) : Option SV := match tyD d with
  | some t => (kitB t T).map fun b => .im (.bl b)
  | none => none
theorem tyD_tell {C : Cy} {G H : Hp} {d : D} {x : V} {t : String} (h : Bw C G H d x) (e : tyD d = some t) : TyX C.K H x (.type t) := by
  cases d <;> simp only [tyD] at e <;> (try cases e)
  · simp only [Bw, Rp] at h; subst h; exact .base .non
  · simp only [Bw, Rp] at h; subst h; exact .base (.bl _)
  · simp only [Bw, Rp] at h; subst h; exact .base (.int _)
  · simp only [Bw, Rp] at h; subst h; exact .base (.str _)
  · obtain ⟨a, xs, rfl, ha, _⟩ := h; exact .base (.lst ha)
  · obtain ⟨a, xs, rfl, ha, _⟩ := h; exact .base (.tup ha)
  · obtain ⟨a, xs, rfl, ha, _⟩ := h; exact .base (.dK ha)
  · obtain ⟨a, xs, rfl, ha, _⟩ := h; exact .base (.dT ha)
theorem sd_isi {C : Cy} {T : String} : Sd1 C (fun x H Q => rIsi C.K [x, .ty T] H Q) (oIsi T) := by
  intro G H x d sv Q gh r eo fin
  unfold oIsi at eo
  split at eo
  · rename_i t et
    cases ek : kitB t T with
    | none => rw [ek] at eo; cases eo
    | some b =>
      rw [ek] at eo
      cases eo
      exact ⟨x, .ty T, .type t, .type T, b, rfl, .ty T, tyD_tell r et, kit_ty ek, fin.im gh (by simp [Rp])⟩
  · cases eo
theorem ix_isi {T : String} {fa : S → Rs D} {x2 : Str} {p p2 : Pos} (ha : IV q X cls σ0 W a fa) (hg : Gl X "isinstance") (hm : X.mg "isinstance" = none) (hg2 : Gl X x2) (hm2 : X.mg x2 = none) (hv : bootBuiltins x2 = some (.type T)) (hb : bootBuiltins "isinstance" = some (.builtin "isinstance")) (hn2 : x2 ≠ "__name__" := by decide) (hd2 : (x2 == ("__debug__" : Str)) = false := by decide)
    (hs1 : starEach [a, .Name x2 p2] X.env = (false, eval a X.env) :: starEach [.Name x2 p2] X.env := by rfl) (hs2 : starEach [.Name x2 p2] X.env = (false, eval (.Name x2 p2) X.env) :: starEach [] X.env := by rfl) (hpl : (backTo pos (starEach [.Name x2 p2] X.env)).any (·.1) = false := by rfl) :
    IX q X cls σ0 W (.Call (.Name "isinstance" p) [a, .Name x2 p2] [] pos) (d1 (oIsi T) fa) := by
  obtain ⟨t, pa, qa⟩ := ha.ex
  refine ⟨_, pe_callB call_isi hg hm hb (pa_cons pa (pa_cons (pe_bltn (v := .ty T) hg2 hm2 hv rfl hn2 hd2) pa_nil hs2) hs1) (by decide) (by decide) hs1 hpl, fun σ G H st L Q hr po => qa σ G H st L _ hr ?_⟩
  unfold d1 at po
  cases ea : fa st with
  | bad => rw [ea] at po; exact po
  | ex c s1 => rw [ea] at po; exact po
  | ok x s1 =>
    rw [ea] at po
    intro v G1 H1 L1 m1 r1 rp1
    simp only [Rs.bind] at po
    cases eo : oIsi T x with
    | none => rw [eo] at po; exact po.elim
    | some sv =>
      rw [eo] at po
      exact sd_isi (C := cy X cls) G1 H1 v x sv Q r1.gh (rp1.bw r1.gh) eo (fin_of m1 r1 po)
/-! ### join -/
def oJoin : D → D → Option SV
  | .str a, .lst ds => match strsD ds with
    | some ys => if (ys.map (·.length)).sum + ys.length * a.length ≤ 16777216 then some (.im (.str (Txt.join a ys))) else none
    | none => none
  | _, _ => none
def dJoin (fo fe : S → Rs D) : S → Rs SV := fun s => (fo s).bind fun x s1 => match x with
  | .str a => (fe s1).bind fun y s2 => match oJoin (.str a) y with
    | some sv => .ok sv s2
    | none => .bad
  | _ => .bad
theorem ix_join {fo fe : S → Rs D} {w : Expr} (ho : IV q X cls σ0 W o fo) (he : IV q X cls σ0 W e fe)
    (hp : ∀ to te, PE X o to → PE X e te → PE X w (tM1 (fun x xs H Q => ∃ a p, ∃ ys : List Str, x = .str a ∧ xs = [.ref p] ∧ (SqL X.K H p (ys.map V.str) ∨ SqT X.K H p (ys.map V.str)) ∧ (ys.map (·.length)).sum + ys.length * a.length ≤ 16777216 ∧ Q (.str (Txt.join a ys)) H) to te)) : IX q X cls σ0 W w (dJoin fo fe) := by
  obtain ⟨to, po0, qo⟩ := ho.ex
  obtain ⟨te, pe0, qe⟩ := he.ex
  refine ⟨_, hp _ _ po0 pe0, fun σ G H st L Q hr po => qo σ G H st L _ hr ?_⟩
  unfold dJoin at po
  cases ea : fo st with
  | bad => rw [ea] at po; exact po
  | ex c s1 => rw [ea] at po; exact po
  | ok x s1 =>
    rw [ea] at po
    intro v G1 H1 L1 m1 r1 rp1
    simp only [Rs.bind] at po
    cases x with
    | str z =>
      simp only [Rp] at rp1
      refine ⟨⟨z, rp1⟩, qe σ G1 H1 s1 L1 _ r1 ?_⟩
      simp only at po
      cases eb : fe s1 with
      | bad => rw [eb] at po; exact po
      | ex c s2 => rw [eb] at po; exact PostD.shift (Q := fun _ _ => True) (r := .ex c s2) m1 po
      | ok y s2 =>
        rw [eb] at po
        simp only at po
        intro u G2 H2 L2 m2 r2 rp2
        cases eo : oJoin (.str z) y with
        | none => rw [eo] at po; exact po.elim
        | some sv =>
          rw [eo] at po
          cases y <;> simp only [oJoin] at eo <;> (try cases eo)
          rename_i ds
          simp only [Rp] at rp2
          obtain ⟨p, xs, rfl, hp2, rl⟩ := rp2
          split at eo
          · rename_i ys ey
            split at eo
            · rename_i hl
              cases eo
              have e3 := strsD_rp rl ey
              subst e3
              exact ⟨z, p, ys, rp1, rfl, .inl (SqL.of (r2.gh _ _ hp2)), hl, (fin_of (m1.trans m2) r2 po).im r2.gh (by simp [Rp])⟩
            · cases eo
          · cases eo
    | _ => exact po.elim
end
end DV
namespace DV
open PySem L2

/-! ### sorting, by insertion -/
def insL {α : Type} (le : α → α → Bool) (x : α) : List α → List α
  | [] => [x]
  | y :: ys => if le x y then x :: y :: ys else y :: insL le x ys
def isort {α : Type} (le : α → α → Bool) : List α → List α
  | [] => []
  | x :: xs => insL le x (isort le xs)
theorem insL_perm {α : Type} (le : α → α → Bool) (x : α) : ∀ ys : List α, (insL le x ys).Perm (x :: ys)
  | [] => .refl _
  | y :: ys => by
    simp only [insL]
    split
    · exact .refl _
    · exact ((insL_perm le x ys).cons y).trans (.swap x y ys)
theorem isort_perm {α : Type} (le : α → α → Bool) : ∀ xs : List α, (isort le xs).Perm xs
  | [] => .refl _
  | x :: xs => (insL_perm le x _).trans ((isort_perm le xs).cons x)
theorem insL_pw {α : Type} {le : α → α → Bool} (tr : ∀ a b c, le a b = true → le b c = true → le a c = true) (tot : ∀ a b, le a b = true ∨ le b a = true) (x : α) : ∀ {ys : List α}, ys.Pairwise (fun a b => le a b = true) → (insL le x ys).Pairwise (fun a b => le a b = true)
  | [], _ => by simp [insL]
  | y :: ys, h => by
    have h' := List.pairwise_cons.mp h
    simp only [insL]
    split
    · rename_i hxy
      refine List.pairwise_cons.mpr ⟨fun z hz => ?_, h⟩
      rcases List.mem_cons.mp hz with e | e
      · rw [e]; exact hxy
      · exact tr _ _ _ hxy (h'.1 z e)
    · rename_i hxy
      refine List.pairwise_cons.mpr ⟨fun z hz => ?_, insL_pw tr tot x h'.2⟩
      rcases List.mem_cons.mp ((insL_perm le x ys).mem_iff.mp hz) with e | e
      · rw [e]; exact (tot y x).resolve_right (by simpa using hxy)
      · exact h'.1 z e
theorem isort_pw {α : Type} {le : α → α → Bool} (tr : ∀ a b c, le a b = true → le b c = true → le a c = true) (tot : ∀ a b, le a b = true ∨ le b a = true) : ∀ xs : List α, (isort le xs).Pairwise (fun a b => le a b = true)
  | [] => .nil
  | x :: xs => insL_pw tr tot x (isort_pw tr tot xs)
theorem isort_the {α : Type} {le : α → α → Bool} (tr : ∀ a b c, le a b = true → le b c = true → le a c = true) (tot : ∀ a b, le a b = true ∨ le b a = true) (an : ∀ a b, le a b = true → le b a = true → a = b) {xs ys : List α} (hp : ys.Perm xs)
    (hs : ys.Pairwise (fun a b => le a b = true)) : ys = isort le xs :=
  List.Perm.eq_of_pairwise (le := fun a b => le a b = true) (fun a b _ _ h1 h2 => an a b h1 h2) hs (isort_pw tr tot xs) (hp.trans (isort_perm le xs).symm)
/-- the order of texts -/
def leS (a b : Str) : Bool := !decide (b.cps.toList < a.cps.toList)
theorem leS_tr (a b c : Str) (h1 : leS a b = true) (h2 : leS b c = true) : leS a c = true := by
  simp only [leS, Bool.not_eq_true', decide_eq_false_iff_not] at *
  exact List.le_trans (l₁ := a.cps.toList) h1 h2
theorem leS_tot (a b : Str) : leS a b = true ∨ leS b a = true := by
  simp only [leS, Bool.not_eq_true', decide_eq_false_iff_not]
  exact List.le_total a.cps.toList b.cps.toList
theorem leS_an (a b : Str) (h1 : leS a b = true) (h2 : leS b a = true) : a = b := by
  simp only [leS, Bool.not_eq_true', decide_eq_false_iff_not] at *
  have e : a.cps.toList = b.cps.toList := List.le_antisymm (as := a.cps.toList) h1 h2
  obtain ⟨x⟩ := a
  obtain ⟨y⟩ := b
  have e2 : x = y := Array.toList_inj.mp e
  subst e2
  rfl
theorem rising_pw : ∀ {ys : List Str} {p : Str}, PyProof.Rows.risingS p ys = true → (p :: ys).Pairwise (fun a b => leS a b = true)
  | [], p, _ => by simp
  | y :: ys, p, h => by
    simp only [PyProof.Rows.risingS, Bool.and_eq_true] at h
    obtain ⟨h1, h2⟩ := h
    have hpy : leS p y = true := by
      unfold leS
      rw [← PyProof.Rows.ltCps_eq]
      exact h1
    have ih := rising_pw h2
    refine List.pairwise_cons.mpr ⟨fun z hz => ?_, ih⟩
    rcases List.mem_cons.mp hz with e | e
    · rw [e]; exact hpy
    · exact leS_tr _ _ _ hpy ((List.pairwise_cons.mp ih).1 z e)
theorem sortedS_the {xs ys : List Str} (hp : ys.Perm xs) (hs : PyProof.Rows.sortedS ys = true) : ys = isort leS xs := by
  refine isort_the leS_tr leS_tot leS_an hp ?_
  cases ys with
  | nil => exact .nil
  | cons y ys => exact rising_pw hs
def keysS : List Key → Option (List Str)
  | [] => some []
  | .inr x :: ks => (keysS ks).map (x :: ·)
  | _ => none
theorem keysS_eq : ∀ {ks : List Key} {ss : List Str}, keysS ks = some ss → ks = ss.map Sum.inr
  | [], ss, h => by simp only [keysS, Option.some.injEq] at h; subst h; rfl
  | .inr x :: ks, ss, h => by
    simp only [keysS] at h
    cases e : keysS ks with
    | none => rw [e] at h; cases h
    | some zs => rw [e] at h; cases h; rw [keysS_eq e]; rfl
  | .inl i :: ks, ss, h => by simp [keysS] at h
/-- sorted(x), x a dict or a list of texts, fewer than 64 -/
def oSortS : List D → Option SV
  | [.dK ks _] => match keysS ks with
    | some ss => if ss.length < 64 then some (.ol ((isort leS ss).map .str)) else none
    | none => none
  | [.lst ds] => match strsD ds with
    | some ss => if ss.length < 64 then some (.ol ((isort leS ss).map .str)) else none
    | none => none
  | _ => none
def rSortDS (K : PySem.W.Frag) : List V → Hp → VK → Prop := fun xs H Q => (∃ (a : Addr) (kvs : List (Key × V)) (ks : List Str), xs = [.ref a] ∧ Rd H a (.dK kvs) ∧ kvs.map (·.1) = ks.map Sum.inr ∧ ks.length < 64 ∧
    ∀ ys p, ys.Perm ks → PyProof.Rows.sortedS ys = true → H p = none → Q (.ref p) (upd H p (.lst (ys.map V.str)))) ∨ rSortedS K xs H Q
theorem RpL.strs {C : Cy} {G : Hp} : ∀ ss : List Str, RpL C G (ss.map .str) (ss.map V.str)
  | [] => by simp [RpL]
  | n :: ns => by simp only [List.map_cons, RpL, Rp]; exact ⟨_, _, rfl, rfl, RpL.strs ns⟩
theorem call_sortDS {X : Cx} (hc : X.calm = true) : CallR X (.builtin "sorted") (rSortDS X.K) := by
  intro pins s σ H xs us Q I rx h
  rcases h with h | h
  · exact call_sortedD hc pins s σ H xs us Q I rx h
  · exact cr_sortedS pins s σ H xs us Q I rx h
theorem sn_sortS {C : Cy} : SdN C (rSortDS C.K) oSortS := by
  intro G H xs ds sv Q gh rp eo fin
  unfold oSortS at eo
  split at eo
  · rename_i ks vs
    simp only [RpL, Rp] at rp
    obtain ⟨x, r, rfl, ⟨a, kvs, rfl, ha, ek, rl⟩, rfl⟩ := rp
    split at eo
    · rename_i ss es
      split at eo
      · rename_i hl
        cases eo
        exact .inl ⟨a, kvs, ss, rfl, .inl (gh _ _ ha), by rw [ek]; exact keysS_eq es, hl, fun ys p h1 h2 hp => by rw [sortedS_the h1 h2]; exact fin.ol gh hp (RpL.strs _)⟩
      · cases eo
    · cases eo
  · rename_i es
    simp only [RpL, Rp] at rp
    obtain ⟨x, r, rfl, ⟨a, ys, rfl, ha, rl⟩, rfl⟩ := rp
    split at eo
    · rename_i ss es2
      split at eo
      · rename_i hl
        cases eo
        exact .inr ⟨a, ss, rfl, SqL.of (by rw [← strsD_rp rl es2]; exact gh _ _ ha), hl, fun ys p h1 h2 hp => by rw [sortedS_the h1 h2]; exact fin.ol gh hp (RpL.strs _)⟩
      · cases eo
    · cases eo
  · cases eo

/-! ### ranges -/
def rangeD (lo : Int) : Nat → List D
  | 0 => []
  | n + 1 => .int lo :: rangeD (lo + 1) n
theorem rangeD_len : ∀ (n : Nat) (lo : Int), (rangeD lo n).length = n
  | 0, _ => rfl
  | n + 1, lo => by simp [rangeD, rangeD_len n]
theorem rangeD_get : ∀ {n i : Nat} {lo : Int}, i < n → (rangeD lo n)[i]? = some (.int (lo + i))
  | 0, i, lo, h => absurd h (Nat.not_lt_zero i)
  | n + 1, 0, lo, h => by simp [rangeD]
  | n + 1, i + 1, lo, h => by
    simp only [rangeD, List.getElem?_cons_succ]
    rw [rangeD_get (by omega)]
    congr 2
    omega
theorem rangeD_rp {C : Cy} {G : Hp} : ∀ (n : Nat) (lo : Int), RpL C G (rangeD lo n) ((List.range n).map fun i => V.int (lo + (i : Nat)))
  | 0, lo => by simp [rangeD, RpL]
  | n + 1, lo => by
    simp only [rangeD, List.range_succ_eq_map, List.map_cons, List.map_map, RpL]
    refine ⟨_, _, rfl, by simp [Rp], ?_⟩
    have e : (fun i : Nat => V.int (lo + (i : Nat))) ∘ Nat.succ = fun i : Nat => V.int (lo + 1 + (i : Nat)) := by
      funext i
      simp only [Function.comp]
      congr 1
      omega
    rw [e]
    exact rangeD_rp n (lo + 1)
section
variable {q : Bool} {X : Cx} {cls : Nat → Addr} {σ0 : Z} {W : WX} {e o a b : Expr} {es : List Expr} {pos : Pos}
theorem walk_range {C : Cy} {G : Hp} {lo : Int} {n : Nat} : IsWalk C G (Itr lo n) (rangeD lo n) := by
  refine ⟨fun i H _ hi => by rw [rangeD_len] at hi; exact hi, fun i H x H' _ hi y => ?_, fun H _ => by rw [rangeD_len]; exact Nat.le_refl n⟩
  rw [rangeD_len] at hi
  obtain ⟨e1, e2⟩ := y
  exact ⟨e1, _, rangeD_get hi, by rw [e2]; simp [Rp]⟩
def oRange1 : List D → Option (List D)
  | [.int j] => if j.natAbs < 4611686018427387904 then some (rangeD 0 j.toNat) else none
  | _ => none
def oRange2 : List D → Option (List D)
  | [.int i, .int j] => if i.natAbs < 4611686018427387904 ∧ j.natAbs < 4611686018427387904 then some (rangeD i (j - i).toNat) else none
  | _ => none
def dRange (o : List D → Option (List D)) (fs : List (S → Rs D)) : S → Rs (List D) := fun s => (evL fs s).bind fun ds s1 => match o ds with
  | some r => .ok r s1
  | none => .bad
theorem ii_range1 {tg : Expr} {p : Pos} {fs : List (S → Rs D)} (hg : Gl X "range") (hm : X.mg "range" = none) (ha : IL q X cls σ0 W [a] fs) (hs : starEach [a] X.env = [(false, eval a X.env)] := by rfl) : II q X cls σ0 W tg (.Call (.Name "range" p) [a] [] pos) (dRange oRange1 fs) := by
  obtain ⟨t, pa, qa⟩ := ha.ex
  refine ⟨_, pi_range1 hg hm pa hs, fun σ G H st L Q hr po => qa σ G H st L _ hr ?_⟩
  unfold dRange at po
  cases ea : evL fs st with
  | bad => rw [ea] at po; exact po
  | ex c s1 => rw [ea] at po; exact po
  | ok ds s1 =>
    rw [ea] at po
    simp only [Rs.bind] at po
    intro vs G1 H1 L1 m1 r1 rp
    cases eo : oRange1 ds with
    | none => rw [eo] at po; exact po.elim
    | some r =>
      rw [eo] at po
      unfold oRange1 at eo
      split at eo
      · rename_i j
        simp only [RpL, Rp] at rp
        obtain ⟨x, r', rfl, rfl, rfl⟩ := rp
        split at eo
        · rename_i hb
          cases eo
          exact ⟨j, rfl, by omega, by omega, po _ G1 H1 L1 m1 r1 walk_range⟩
        · cases eo
      · cases eo
theorem ii_range2 {tg : Expr} {p : Pos} {fs : List (S → Rs D)} (hg : Gl X "range") (hm : X.mg "range" = none) (ha : IL q X cls σ0 W [a, b] fs) (hs : starEach [a, b] X.env = [(false, eval a X.env), (false, eval b X.env)]   := by rfl) (hs2 : starEach [b] X.env = [(false, eval b X.env)] := by rfl) : II q X cls σ0 W tg (.Call (.Name "range" p) [a, b] [] pos) (dRange oRange2 fs) := by
  obtain ⟨t, pa, qa⟩ := ha.ex
  refine ⟨_, pi_range2 hg hm pa hs hs2, fun σ G H st L Q hr po => qa σ G H st L _ hr ?_⟩
  unfold dRange at po
  cases ea : evL fs st with
  | bad => rw [ea] at po; exact po
  | ex c s1 => rw [ea] at po; exact po
  | ok ds s1 =>
    rw [ea] at po
    simp only [Rs.bind] at po
    intro vs G1 H1 L1 m1 r1 rp
    cases eo : oRange2 ds with
    | none => rw [eo] at po; exact po.elim
    | some r =>
      rw [eo] at po
      unfold oRange2 at eo
      split at eo
      · rename_i i j
        simp only [RpL, Rp] at rp
        obtain ⟨x, r', rfl, rfl, y, r2, rfl, rfl, rfl⟩ := rp
        split at eo
        · rename_i hb
          cases eo
          exact ⟨i, j, rfl, ⟨by omega, by omega, by omega, by omega⟩, po _ G1 H1 L1 m1 r1 walk_range⟩
        · cases eo
      · cases eo
end
end DV
namespace DV
open PySem L2
section
variable {C : Cy} {σ0 : Z} {W : WX} {σ : St} {L : List Addr} {G H : Hp}
theorem PostV.low {q : Bool} {Q : VK} {r : Rs SV} (h : PostV false C σ0 W σ L G H Q r) : PostV q C σ0 W σ L G H Q r := by
  cases r with
  | ok sv st => exact fun v G' H' Lv L' m r ow lv nd => h v G' H' Lv L' m.low r ow lv nd
  | ex c st => exact fun d G' H' L' m r => h d G' H' L' m.low r
  | bad => exact h
theorem PostD.low {q : Bool} {Q : VK} {r : Rs D} (h : PostD false C σ0 W σ L G H Q r) : PostD q C σ0 W σ L G H Q r := by
  cases r with
  | ok sv st => exact fun v G' H' L' m r ow => h v G' H' L' m.low r ow
  | ex c st => exact fun d G' H' L' m r => h d G' H' L' m.low r
  | bad => exact h
theorem PostB.low {q : Bool} {Q : Bool → Hp → Prop} {r : Rs Bool} (h : PostB false C σ0 W σ L G H Q r) : PostB q C σ0 W σ L G H Q r := by
  cases r with
  | ok sv st => exact fun G' H' L' m r => h G' H' L' m.low r
  | ex c st => exact fun d G' H' L' m r => h d G' H' L' m.low r
  | bad => exact h
theorem PostI.low {q : Bool} {Q : It → Hp → Prop} {r : Rs (List D)} (h : PostI false C σ0 W σ L G H Q r) : PostI q C σ0 W σ L G H Q r := by
  cases r with
  | ok sv st => exact fun J G' H' L' m r w => h J G' H' L' m.low r w
  | ex c st => exact fun d G' H' L' m r => h d G' H' L' m.low r
  | bad => exact h
end
section
variable {q : Bool} {X : Cx} {cls : Nat → Addr} {σ0 : Z} {W : WX} {e tg : Expr}
theorem IX.low {f : S → Rs SV} (h : IX q X cls σ0 W e f) : IX false X cls σ0 W e f := by
  obtain ⟨t, p, k⟩ := h.ex
  exact ⟨t, p, fun σ G H st L Q r po => k σ G H st L Q r po.low⟩
theorem IV.low {f : S → Rs D} (h : IV q X cls σ0 W e f) : IV false X cls σ0 W e f := by
  obtain ⟨t, p, k⟩ := h.ex
  exact ⟨t, p, fun σ G H st L Q r po => k σ G H st L Q r po.low⟩
theorem IT.low {f : S → Rs Bool} (h : IT q X cls σ0 W e f) : IT false X cls σ0 W e f := by
  obtain ⟨t, p, k⟩ := h.ex
  exact ⟨t, p, fun σ G H st L Q r po => k σ G H st L Q r po.low⟩
theorem II.low {f : S → Rs (List D)} (h : II q X cls σ0 W tg e f) : II false X cls σ0 W tg e f := by
  obtain ⟨t, p, k⟩ := h.ex
  exact ⟨t, p, fun σ G H st L Q r po => k σ G H st L Q r po.low⟩
end
end DV
namespace DV
open PySem L2

section
variable {q : Bool} {X : Cx} {cls : Nat → Addr} {σ0 : Z} {W : WX} {e tg iter elt : Expr} {pos : Pos}
theorem IX.to {q' : Bool} {f : S → Rs SV} (h : IX true X cls σ0 W e f) : IX q' X cls σ0 W e f := by
  cases q' with
  | true => exact h
  | false => exact h.low
theorem IV.to {q' : Bool} {f : S → Rs D} (h : IV true X cls σ0 W e f) : IV q' X cls σ0 W e f := by
  cases q' with
  | true => exact h
  | false => exact h.low
theorem IT.to {q' : Bool} {f : S → Rs Bool} (h : IT true X cls σ0 W e f) : IT q' X cls σ0 W e f := by
  cases q' with
  | true => exact h
  | false => exact h.low
theorem pe_imp {t t' : TE} (h : PE X e t) (k : ∀ σ H Q, t' σ H Q → t σ H Q) : PE X e t' := ⟨fun pins s σ H Q I z => h.run pins s σ H Q I (k _ _ _ z)⟩
theorem pts_imp {ifs : List Expr} {t t' : TT} (h : PTs X ifs t) (k : ∀ σ H Q, t' σ H Q → t σ H Q) : PTs X ifs t' := ⟨fun pins s σ H Q I z => h.run pins s σ H Q I (k _ _ _ z)⟩
theorem pss_imp {b : List Stmt} {t t' : TS} (h : PSs X b t) (k : ∀ D σ H, t' D σ H → t D σ H) : PSs X b t' := ⟨fun pins s σ H D I z => h.run pins s σ H D I (k _ _ _ z)⟩

/-! ### comprehensions, their parts judged in each block -/
abbrev blkX (X : Cx) (scope : Scope) (s : Shared) (H : Hp) (C : Addr) (cl : List (Str × Addr)) (fp : List Addr) : Cx := X.blk s H scope (compEnvC scope cl C X.env) fp
structure IC (q : Bool) (X : Cx) (cls : Nat → Addr) (σ0 : Z) (scope : Scope) (e : Expr) (el : S → Rs D) : Prop where
  ex : ∃ te : TE, (∀ (s : Shared) (H : Hp) (C : Addr) (cl : List (Str × Addr)) (fp : List Addr), PE (X.blk s H scope (compEnvC scope cl C X.env) fp) e te) ∧ ∀ σ G H st L Q, R (cy X cls) σ0 G H σ st L → PostD q (cy X cls) σ0 W0 σ L G H Q (el st) → te σ H Q
structure ICT (q : Bool) (X : Cx) (cls : Nat → Addr) (σ0 : Z) (scope : Scope) (ifs : List Expr) (f : S → Rs Bool) : Prop where
  ex : ∃ te : TT, (∀ (s : Shared) (H : Hp) (C : Addr) (cl : List (Str × Addr)) (fp : List Addr), PTs (X.blk s H scope (compEnvC scope cl C X.env) fp) ifs te) ∧ ∀ σ G H st L Q, R (cy X cls) σ0 G H σ st L → PostB q (cy X cls) σ0 W0 σ L G H Q (f st) → te σ H Q
theorem ic_of {scope : Scope} {el : S → Rs D} (h : ∀ (s : Shared) (H : Hp) (C : Addr) (cl : List (Str × Addr)) (fp : List Addr), IV q (X.blk s H scope (compEnvC scope cl C X.env) fp) cls σ0 W0 e el) : IC q X cls σ0 scope e el := by
  refine ⟨fun σ H Q => ∀ s H' C cl fp, (h s H' C cl fp).ex.choose σ H Q, fun s H C cl fp => pe_imp (h s H C cl fp).ex.choose_spec.1 fun σ H Q z => z _ _ _ _ _, fun σ G H st L Q r po s H' C cl fp => (h s H' C cl fp).ex.choose_spec.2 σ G H st L Q r po⟩
theorem ict_nil {scope : Scope} : ICT q X cls σ0 scope [] tTrue := ⟨_, fun s H C cl fp => pts_nil, fun σ G H st L Q r po => po G H L Mv.refl r⟩
theorem ict_one {scope : Scope} {f : S → Rs Bool} (h : ∀ (s : Shared) (H : Hp) (C : Addr) (cl : List (Str × Addr)) (fp : List Addr), IT q (X.blk s H scope (compEnvC scope cl C X.env) fp) cls σ0 W0 e f) : ICT q X cls σ0 scope [e] f := by
  refine ⟨fun σ H Q => ∀ s H' C cl fp, (h s H' C cl fp).ex.choose σ H Q, fun s H C cl fp => pts_imp (pts_one (h s H C cl fp).ex.choose_spec.1) fun σ H Q z => z _ _ _ _ _, fun σ G H st L Q r po s H' C cl fp => (h s H' C cl fp).ex.choose_spec.2 σ G H st L Q r po⟩
/-- [elt for x in iter if t], x in slot i -/
theorem ix_lc {i : Nat} {x : Str} {px : Pos} {ifs : List Expr} {scope : Scope} {it : S → Rs DL} {t : S → Rs Bool} {el : S → Rs D} (hc : X.calm = true) (hN : X.N.Nodup) (hb : blkC X.N X.env.scope scope [(x, i)] = true) (hi : II q X cls σ0 W (.Name x px) iter it)
    (hg : ∀ (s : Shared) (H : Hp) (C : Addr) (cl : List (Str × Addr)) (fp : List Addr), PG (X.blk s H scope (compEnvC scope cl C X.env) fp) (.Name x px) (gName i))
    (ht : ICT q X cls σ0 scope ifs t) (he : IC q X cls σ0 scope elt el) (hs : ∀ x, foldedSetIterable iter X.env x = pure x := by intro _; rfl) : IX q X cls σ0 W (.ListComp elt [⟨.Name x px, iter, ifs, 0⟩] scope pos) (dComp i it t el) := by
  obtain ⟨tt, p1, q1⟩ := ht.ex
  obtain ⟨te, p2, q2⟩ := he.ex
  obtain ⟨wi, p3, q3⟩ := hi.ex
  exact ⟨_, pe_lc (own := [(x, i)]) hc hN p3 (blkOk_by hb) hg p1 p2 hs, compR q3 q1 q2⟩
/-- y = [..] -/
theorem is_setLc {i j : Nat} {x y : Str} {px py spos : Pos} {ifs : List Expr} {scope : Scope} {it : S → Rs DL} {t : S → Rs Bool} {el : S → Rs D} (hc : X.calm = true) (hN : X.N.Nodup) (hb : blkC X.N X.env.scope scope [(x, i)] = true) (hi : II false X cls σ0 W (.Name x px) iter it)
    (hg : ∀ (s : Shared) (H : Hp) (C : Addr) (cl : List (Str × Addr)) (fp : List Addr), PG (X.blk s H scope (compEnvC scope cl C X.env) fp) (.Name x px) (gName i))
    (ht : ICT false X cls σ0 scope ifs t) (he : IC false X cls σ0 scope elt el) (hy : X.N[j]? = some y) (hyl : X.env.scope.names.lookup y = some .local)
    (hsw : swapsWith (.ListComp elt [⟨.Name x px, iter, ifs, 0⟩] scope pos) (some (.Name y py)) spos.line X.env = pure true) (hs : ∀ x, foldedSetIterable iter X.env x = pure x := by intro _; rfl) :
    IS X cls σ0 W (.Assign [.Name y py] (.ListComp elt [⟨.Name x px, iter, ifs, 0⟩] scope pos) spos) (dAsg (dComp i it t el) (setG j)) := by
  obtain ⟨tt, p1, q1⟩ := ht.ex
  obtain ⟨te, p2, q2⟩ := he.ex
  obtain ⟨wi, p3, q3⟩ := hi.ex
  exact is_setS (x := y) (ps_setLc (own := [(x, i)]) hc hN hy hyl hsw p3 (blkOk_by hb) hg p1 p2 hs) (compR q3 q1 q2)

/-! ### iteration over a list or a tuple -/
def dItA (f : S → Rs D) : S → Rs (List D) := fun s => (f s).bind fun d s1 => match d with
  | .lst ds => .ok ds s1
  | .scr ns => .ok (ns.map .int) s1
  | .tup ds => .ok ds s1
  | _ => .bad
theorem ii_any {f : S → Rs D} (h : IV q X cls σ0 W e f) : II q X cls σ0 W tg e (dItA f) := by
  obtain ⟨w1, p1, q1⟩ := (ii_list (tg := tg) h).ex
  obtain ⟨w2, p2, q2⟩ := (ii_tup (tg := tg) h).ex
  refine ⟨fun σ H R => w1 σ H R ∨ w2 σ H R, ⟨fun pins s σ H R I z => z.elim (p1.run pins s σ H R I) (p2.run pins s σ H R I)⟩, fun σ G H st L Q r po => ?_⟩
  cases ef : f st with
  | bad =>
    refine .inl (q1 σ G H st L Q r ?_)
    unfold dItA at po; unfold dItL; rw [ef] at po ⊢; exact po
  | ex c s1 =>
    refine .inl (q1 σ G H st L Q r ?_)
    unfold dItA at po; unfold dItL; rw [ef] at po ⊢; exact po
  | ok d s1 =>
    cases d with
    | tup ds =>
      refine .inr (q2 σ G H st L Q r ?_)
      unfold dItA at po; unfold dItT; rw [ef] at po ⊢; exact po
    | _ =>
      refine .inl (q1 σ G H st L Q r ?_)
      unfold dItA at po; unfold dItL; rw [ef] at po ⊢; exact po

/-! ### exceptions -/
theorem is_raiseO {c : Nat} {x m : Str} {j : Nat} {p p2 p3 p4 : Pos} (hc : X.calm = true) (tk : Takes X W) (q : PySem.W.excIn X.K (cls c) [.type "ValueError", .type "Exception", .type "BaseException", .type "object"] "ValueError.__new__" = true) (gC : X.mg x = some (.ref (cls c))) (kC : PySem.W.keepIn X.K (.ref (cls c)) = true)
    (h1 : PySem.W.subIn X.K (.ref (cls c)) (.type "BaseException") = some true) (h2 : PySem.W.typeIn X.K (.ref (cls c)) = some (.type "type")) (hg : Gl X x) (hdb : (x == ("__debug__" : Str)) = false := by decide) :
    IS X cls σ0 W (.Raise (some (.Call (.Name x p) [.Constant (.str m) j p2] [] p3)) none p4) (fun s => .ex c s) :=
  is_raise (ps_raise hc tk (pmk_own PySem.F.excBase_ValueError q gC kC (raises_own h1 h2) hg hdb))
def catchL : List ((Nat → Option Bool) × (S → Out)) → Nat → S → Out
  | [], c, s => .ex c s
  | (m, g) :: r, c, s => match m c with
    | some true => g s
    | some false => catchL r c s
    | none => .bad
def dTry (f : S → Out) (hs : List ((Nat → Option Bool) × (S → Out))) : S → Out := fun s => match f s with
  | .ex c s1 => catchL hs c s1
  | o => o
structure IHs (X : Cx) (cls : Nat → Addr) (σ0 : Z) (W : WX) (hds : List ExceptHandler) (hs : List ((Nat → Option Bool) × (S → Out))) : Prop where
  ex : ∃ l, HdsOk X hds l ∧ ∀ c d σ G H st L E, R (cy X cls) σ0 G H σ st L → PostO (cy X cls) σ0 W L G H E (catchL hs c st) → wMany X.K W E l (.ref (cls c)) d σ H
theorem ihs_nil : IHs X cls σ0 W [] [] := ⟨[], .nil, fun c d σ G H st L E r po => po d σ G H L Mv.refl r⟩
theorem ihs_cons {x : Str} {C : Value} {m : Nat → Option Bool} {g : S → Out} {hs : List ((Nat → Option Bool) × (S → Out))} {b₀ : Stmt} {suite : List Stmt} {np pos' : Pos} {hds : List ExceptHandler} (hc : Names X x C) (hm : ∀ c b, m c = some b → PySem.W.exmOne X.K (.ref (cls c)) C = some b)
    (hsu : ∀ (a : Addr) (oe : Obj) (pn : List (Addr × Obj)), ISs (X.suite a ((a, oe) :: pn)) cls σ0 W (b₀ :: suite) g) (k : IHs X cls σ0 W hds hs) : IHs X cls σ0 W (.ExceptHandler (some (.Name x np)) none (b₀ :: suite) pos' :: hds) ((m, g) :: hs) := by
  obtain ⟨l, h1, h2⟩ := k.ex
  refine ⟨(C, fun a _ _ D σ H => ∀ oe pn, (hsu a oe pn).ex.choose D σ H) :: l, .cons hc (fun a oe cl d pn _ _ => pss_imp (hsu a oe pn).ex.choose_spec.1 fun D σ H z => z _ _) h1, fun c d σ G H st L E r po => ?_⟩
  unfold catchL at po
  cases e : m c with
  | none => rw [e] at po; exact po.elim
  | some b =>
    rw [e] at po
    refine ⟨b, hm c b e, fun z => ?_, fun z => ?_⟩
    · subst z
      exact fun a ha oe pn => (hsu a oe pn).ex.choose_spec.2 σ G H st L E r po
    · subst z
      exact h2 c d σ G H st L E r po
theorem is_try {body : List Stmt} {h₀ : ExceptHandler} {hds : List ExceptHandler} {f : S → Out} {hs : List ((Nat → Option Bool) × (S → Out))} (hst : X.stack = X.env :: X.outer) (hf : X.env.frame = some X.env.locals) (tk : Takes X W)
    (hb : ∀ (W' : WX) (pn : List (Addr × Obj)) (xe : Value → Shared → Prop), Takes (X.tr pn xe) W' → PassesOwn (model X.prog X.w) X.A X.env xe → ISs (X.tr pn xe) cls σ0 W' body f) (hh : IHs X cls σ0 W (h₀ :: hds) hs) :
    IS X cls σ0 W (.Try body (h₀ :: hds) [] [] pos) (dTry f hs) := by
  obtain ⟨l, h1, h2⟩ := hh.ex
  refine ⟨_, ps_try_many (tb := fun W' D σ H => ∀ pn xe (a : Takes (X.tr pn xe) W') (b : PassesOwn (model X.prog X.w) X.A X.env xe), (hb W' pn xe a b).ex.choose D σ H) hst hf tk (fun W' pn xe a b => pss_imp (hb W' pn xe a b).ex.choose_spec.1 fun D σ H z => z _ _ a b) h1, fun σ G H st L E r po pn xe a b => (hb _ pn xe a b).ex.choose_spec.2 σ G H st L E r ?_⟩
  unfold dTry at po
  cases ef : f st with
  | ex c s1 =>
    rw [ef] at po
    exact fun d σ' G' H' L' m r' => h2 c d σ' G' H' s1 L' E r' (po.shift m)
  | _ => rw [ef] at po; exact po
end
end DV
namespace DV
open PySem L2
open PySem.W (alike dataLt rcLt_alike AlikeAll minD maxD AllAlike Sortable dataLe EachIs)
structure DefF (K : PySem.W.Frag) (mg : Str → Option Value) (x : Str) (st : Stmt) (ps : List Str) where
  f : Addr
  fd : FuncData
  F : Fun K x x st f fd
  b : Binds K fd ps []
  m : mg x = some (.ref f)
structure ExcF (K : PySem.W.Frag) (mg : Str → Option Value) (x : Str) (C : Addr) : Prop where
  ex : PySem.W.excIn K C [.type "ValueError", .type "Exception", .type "BaseException", .type "object"] "ValueError.__new__" = true
  m : mg x = some (.ref C)
  k : PySem.W.keepIn K (.ref C) = true
  b : PySem.W.subIn K (.ref C) (.type "BaseException") = some true
  t : PySem.W.typeIn K (.ref C) = some (.type "type")
theorem room65 {k : Nat} {A : Around} (r : Room k A) : A.units + 65 < cLine := by have := r.un; omega
theorem fn_bad {P : Program} {w : World} {K : PySem.W.Frag} {mg : Str → Option Value} {base : Heap} {CXx : CXT} {k : Nat} {f : Addr} {fd : FuncData} {ps : List Str} {C : Cy} {n : Nat} : FnOk P w K mg base CXx k f fd ps (spF C n fun _ => .bad) :=
  ⟨fun vs H Q E h => by obtain ⟨_, _, _, _, _, _, _, z⟩ := h; exact z.elim, fun A outer s H args us vs Q E hr e0 b v h => by obtain ⟨_, _, _, _, _, _, _, z⟩ := h; exact z.elim⟩

theorem fn_mk2 {P : Program} {w : World} {K : PySem.W.Frag} {mg : Str → Option Value} {base : Heap} {cls : Nat → Addr} {x qual : Str} {st : Stmt} {f : Addr} {fd : FuncData} {N ps : List Str} {k : Nat} {fl : List Bool} {body : S → Out} (F : Fun K x qual st f fd) (sc : FnScope N ps (defScope st)) (hf : fl.length = ps.length) (hn : ps.length ≤ N.length)
    (hb : ∀ (cdv : Value) (A : Around) (outer : List Env) (s : Shared) (H : Hp) (E : XK) (σ0 : Z) (hr : Room k (A.deeper (PyProof.Rows.envOfC qual (defScope st) s.heap.objs.size f cdv))) (nd : N.Nodup)
      (tk : Takes (cxOf (L2.CX P w) P w K mg base N qual (defScope st) f cdv A outer s H E) (fun c d _ H => E c d H))
      (po : PassesOwn (model P w) (A.deeper (PyProof.Rows.envOfC qual (defScope st) s.heap.objs.size f cdv)) (cxOf (L2.CX P w) P w K mg base N qual (defScope st) f cdv A outer s H E).env (cxOf (L2.CX P w) P w K mg base N qual (defScope st) f cdv A outer s H E).xe),
      ISs (cxOf (L2.CX P w) P w K mg base N qual (defScope st) f cdv A outer s H E) cls σ0 (fun c d _ H => E c d H) (defBody st) body) :
    FnOk P w K mg base (L2.CX P w) (k + 1) f fd ps (spF ⟨K, cls⟩ ps.length (dDef fl N.length body)) :=
  fn_mk F sc hf hn fun cdv A outer s H E σ0 hr => hb cdv A outer s H E σ0 hr sc.nd (takes_of rfl rfl rfl rfl) (passes_of (X := cxOf (L2.CX P w) P w K mg base N qual (defScope st) f cdv A outer s H E) rfl)

section
variable {q : Bool} {X : Cx} {cls : Nat → Addr} {σ0 : Z} {W : WX} {c a b : Expr} {pos : Pos}
/-- a if c else b, the value owned -/
def dIfX (t : S → Rs Bool) (f g : S → Rs SV) : S → Rs SV := fun s => (t s).bind fun b s1 => if b then f s1 else g s1
theorem ix_if {t : S → Rs Bool} {f g : S → Rs SV} (hc : IT q X cls σ0 W c t) (ha : IX q X cls σ0 W a f) (hb : IX q X cls σ0 W b g) : IX q X cls σ0 W (.IfExp c a b pos) (dIfX t f g) := by
  obtain ⟨t1, p1, q1⟩ := hc.ex
  obtain ⟨t2, p2, q2⟩ := ha.ex
  obtain ⟨t3, p3, q3⟩ := hb.ex
  refine ⟨_, pe_ifExp p1 p2 p3, fun σ G H st L Q r po => q1 σ G H st L _ r ?_⟩
  unfold dIfX at po
  cases et : t st with
  | bad => rw [et] at po; exact po
  | ex c s1 => rw [et] at po; exact po
  | ok k s1 =>
    rw [et] at po
    intro G' H' L' m r'
    cases k with
    | true => exact iteT (q2 σ G' H' s1 L' Q r' (po.shift m))
    | false => exact iteF (q3 σ G' H' s1 L' Q r' (po.shift m))
end

/-! ### the order of nested data -/
/-- data that can be ordered: no instance, no dict, no script -/
def toPn : D → Option PyData
  | .bl b => some (.bool b)
  | .int i => some (.int i)
  | .str x => some (.str x)
  | .lst ds => (toPyL ds).map .list
  | .tup ds => (toPyL ds).map .tuple
  | _ => none
theorem toPn_py {d : D} {p : PyData} (h : toPn d = some p) : toPy d = some p ∧ p ≠ .none := by
  cases d with
  | bl b => simp only [toPn, Option.some.injEq] at h; subst h; exact ⟨rfl, by simp⟩
  | int i => simp only [toPn, Option.some.injEq] at h; subst h; exact ⟨rfl, by simp⟩
  | str x => simp only [toPn, Option.some.injEq] at h; subst h; exact ⟨rfl, by simp⟩
  | lst ds =>
    simp only [toPn] at h
    cases e : toPyL ds with
    | none => rw [e] at h; cases h
    | some ps => rw [e] at h; cases h; exact ⟨by simp [toPy, e], by simp⟩
  | tup ds =>
    simp only [toPn] at h
    cases e : toPyL ds with
    | none => rw [e] at h; cases h
    | some ps => rw [e] at h; cases h; exact ⟨by simp [toPy, e], by simp⟩
  | _ => simp [toPn] at h
def oLtD : D → D → Option SV := fun a b => match toPn a, toPn b with
  | some p, some r => if alike p r = true ∧ p.depth ≤ 64 then some (.im (.bl (dataLt p r))) else none
  | _, _ => none
def rLtD (K : PySem.W.Frag) : R2 := fun x y H Q => ∃ d e, Dp K H x d ∧ Dp K H y e ∧ alike d e = true ∧ d ≠ .none ∧ d.depth ≤ 64 ∧ Q (.bl (dataLt d e)) H
theorem op_ltD {X : Cx} (hu : X.A.units + 64 < cLine) : OpR X (compareOp .Lt) (rLtD X.K) := by
  intro pins s σ H x y v u Q I rx ry h
  obtain ⟨d, e, hd, he, ha, hn, hdep, q⟩ := h
  obtain ⟨as, r1⟩ := Dp.reads I d x v hd rx
  obtain ⟨bs, r2⟩ := Dp.reads I e y u he ry
  refine rcLt_alike d e X.A s v u as bs r1 r2 ha hn ?_ X.prog X.w _ _ ⟨.bl _, H, I, rfl, q⟩
  have := Nat.min_le_left d.depth e.depth
  omega
theorem sd_ltD {C : Cy} : Sd2 C (rLtD C.K) oLtD := by
  intro G H x y d1 d2 sv Q gh r1 r2 eo fin
  unfold oLtD at eo
  cases e1 : toPn d1 with
  | none => rw [e1] at eo; cases eo
  | some p =>
    cases e2 : toPn d2 with
    | none => rw [e1, e2] at eo; cases eo
    | some r =>
      rw [e1, e2] at eo
      simp only at eo
      split at eo
      · rename_i hh
        cases eo
        exact ⟨p, r, dp_of gh r1 (toPn_py e1).1, dp_of gh r2 (toPn_py e2).1, hh.1, (toPn_py e1).2, hh.2, fin.im gh (by simp [Rp])⟩
      · cases eo
mutual
def ofPy : PyData → D
  | .none => .non
  | .bool b => .bl b
  | .int i => .int i
  | .str x => .str x
  | .list ds => .lst (ofPyL ds)
  | .tuple ds => .tup (ofPyL ds)
  | .dict _ => .non
def ofPyL : List PyData → List D
  | [] => []
  | d :: ds => ofPy d :: ofPyL ds
end
mutual
/-- no script, no dict, no instance -/
def plainD : D → Bool
  | .lst ds => plainL ds
  | .tup ds => plainL ds
  | .non => true
  | .bl _ => true
  | .int _ => true
  | .str _ => true
  | _ => false
def plainL : List D → Bool
  | [] => true
  | d :: ds => plainD d && plainL ds
end
mutual
theorem of_to : ∀ {d : D} {p : PyData}, toPy d = some p → plainD d = true → d = ofPy p
  | .non, p, h, k => by simp only [toPy, Option.some.injEq] at h; subst h; rfl
  | .bl b, p, h, k => by simp only [toPy, Option.some.injEq] at h; subst h; rfl
  | .int b, p, h, k => by simp only [toPy, Option.some.injEq] at h; subst h; rfl
  | .str b, p, h, k => by simp only [toPy, Option.some.injEq] at h; subst h; rfl
  | .lst ds, p, h, k => by
    simp only [toPy] at h
    cases e : toPyL ds with
    | none => rw [e] at h; cases h
    | some ps =>
      rw [e] at h
      cases h
      simp only [ofPy, D.lst.injEq]
      exact of_toL e k
  | .tup ds, p, h, k => by
    simp only [toPy] at h
    cases e : toPyL ds with
    | none => rw [e] at h; cases h
    | some ps =>
      rw [e] at h
      cases h
      simp only [ofPy, D.tup.injEq]
      exact of_toL e k
  | .dK _ _, p, h, k => by cases k
  | .dT _ _, p, h, k => by cases k
  | .ins _ _ _, p, h, k => by cases k
  | .scr _, p, h, k => by cases k
theorem of_toL : ∀ {ds : List D} {ps : List PyData}, toPyL ds = some ps → plainL ds = true → ds = ofPyL ps
  | [], ps, h, k => by simp only [toPyL, Option.some.injEq] at h; subst h; rfl
  | d :: ds, ps, h, k => by
    simp only [toPyL] at h
    simp only [plainL, Bool.and_eq_true] at k
    cases e1 : toPy d with
    | none => rw [e1] at h; cases h
    | some p =>
      cases e2 : toPyL ds with
      | none => rw [e1, e2] at h; cases h
      | some ps2 =>
        rw [e1, e2] at h
        cases h
        simp only [ofPyL, List.cons.injEq]
        exact ⟨of_to e1 k.1, of_toL e2 k.2⟩
end
theorem ofPyL_map : ∀ ps : List PyData, ofPyL ps = ps.map ofPy
  | [] => rfl
  | p :: ps => by simp only [ofPyL, List.map_cons]; rw [ofPyL_map ps]
def allAlike (ps : List PyData) : Bool := ps.all fun x => ps.all fun y => alike x y
theorem allAlike_of {ps : List PyData} (h : allAlike ps = true) : ∀ x ∈ ps, ∀ y ∈ ps, alike x y = true := fun x hx y hy => List.all_eq_true.mp (List.all_eq_true.mp h x hx) y hy
def noNone : List PyData → Bool := fun ps => ps.all fun
  | .none => false
  | _ => true
theorem noNone_of {ps : List PyData} (h : noNone ps = true) : ∀ x ∈ ps, x ≠ .none := fun x hx e => by
  subst e
  have := List.all_eq_true.mp h _ hx
  simp at this
/-- the items of a list, to be put in order -/
def ordL (ds : List D) : Option (List PyData) := if plainL ds = true then (match toPyL ds with
  | some ps => if allAlike ps = true ∧ noNone ps = true ∧ PyData.depthAll ps ≤ 60 then some ps else none
  | none => none) else none
theorem ordL_some {ds : List D} {ps : List PyData} (h : ordL ds = some ps) : ds = ofPyL ps ∧ toPyL ds = some ps ∧ AlikeAll ps ∧ PyData.depthAll ps ≤ 60 := by
  unfold ordL at h
  split at h
  · rename_i hp
    cases e : toPyL ds with
    | none => rw [e] at h; cases h
    | some qs =>
      rw [e] at h
      simp only at h
      split at h
      · rename_i hh
        cases h
        exact ⟨of_toL e hp, rfl, ⟨allAlike_of hh.1, noNone_of hh.2.1⟩, hh.2.2⟩
      · cases h
  · cases h
theorem foldl_mem {α : Type} (f : α → α → α) (hf : ∀ a b, f a b = a ∨ f a b = b) : ∀ (xs : List α) (x : α), xs.foldl f x ∈ x :: xs
  | [], x => by simp
  | y :: ys, x => by
    simp only [List.foldl_cons]
    have := foldl_mem f hf ys (f x y)
    rcases hf x y with e | e <;> rw [e] at this ⊢
    · rcases List.mem_cons.mp this with z | z
      · rw [z]; simp
      · exact List.mem_cons_of_mem _ (List.mem_cons_of_mem _ z)
    · exact List.mem_cons_of_mem _ this
theorem minD_mem (p : PyData) (ps : List PyData) : minD p ps ∈ p :: ps := foldl_mem _ (fun a b => by by_cases h : dataLt b a = true <;> simp [h]) ps p
theorem maxD_mem (p : PyData) (ps : List PyData) : maxD p ps ∈ p :: ps := foldl_mem _ (fun a b => by by_cases h : dataLt a b = true <;> simp [h]) ps p
def oMinL : List D → Option SV
  | [.lst ds] => match ordL ds with
    | some (p :: ps) => some (.im (ofPy (minD p ps)))
    | _ => none
  | _ => none
def oMaxL : List D → Option SV
  | [.lst ds] => match ordL ds with
    | some (p :: ps) => some (.im (ofPy (maxD p ps)))
    | _ => none
  | _ => none
def rBestD (K : PySem.W.Frag) (best : PyData → List PyData → PyData) : List V → Hp → VK → Prop := fun xs H Q => ∃ (a : Addr) (vs : List V) (p : PyData) (ps : List PyData), xs = [.ref a] ∧ SqL K H a vs ∧ DpAll K H vs (p :: ps) ∧ AlikeAll (p :: ps) ∧ PyData.depthAll (p :: ps) ≤ 60 ∧
  ∀ (i : Nat) (v : V), vs[i]? = some v → (p :: ps)[i]? = some (best p ps) → Q v H
theorem vals_get {xs : List V} {us : List Value} (h : Vals xs us) : ∀ {i : Nat} {u : Value}, us[i]? = some u → ∃ x, xs[i]? = some x ∧ RelV x u := by
  induction h with
  | nil => intro i u h; simp at h
  | cons r rs ih =>
    intro i u h
    cases i with
    | zero => simp at h; subst h; exact ⟨_, rfl, r⟩
    | succ i => simp at h; simpa using ih h
theorem best_end {X : Cx} {pins : List (Addr × Obj)} {σ : St} {H : Hp} {s : Shared} {vs : List V} {its : List Value} {p : PyData} {ps : List PyData} {b : PyData} {as : List Addr} {Q : VK} (I : Inv X pins σ H s) (rv : Vals vs its) (ra : ReadsAll s.heap its (p :: ps) as) (hal : AlikeAll (p :: ps)) (hb : b ∈ p :: ps)
    (q : ∀ (i : Nat) (v : V), vs[i]? = some v → (p :: ps)[i]? = some b → Q v H) {i : Nat} {v : Value} {h' : Heap} {tk : Nat} {bs : List Addr} (hv : its[i]? = some v) (hr : Reads h' v b bs) (hk : ∀ (b : Addr) (o : Obj), s.heap.get? b = some o → h'.get? b = some o) : EP X pins σ Q v { s with heap := h', toks := tk } := by
  obtain ⟨x, hx, rx⟩ := vals_get rv hv
  obtain ⟨cs, r2, hlt, hm, _⟩ := PySem.W.readsAll_at ra i v hv
  have e : (p :: ps).getD i .none = b := PySem.W.alike_unique _ _ _ _ _ (hal.1 _ hm _ hb) (PyProof.Rows.Reads.keeps hk r2) hr
  refine ⟨x, H, I.kept hk, rx, q i x hx ?_⟩
  rw [← e, List.getElem?_eq_getElem hlt, List.getD_eq_getElem?_getD, List.getElem?_eq_getElem hlt]
  rfl
theorem call_minD {X : Cx} (hc : X.calm = true) (hu : X.A.units + 65 < cLine) : CallR X (.builtin "min") (rBestD X.K minD) := by
  intro pins s σ H vs us Q I r h
  obtain ⟨a, xs, p, ps, rfl, hs, hd, hal, hdep, q⟩ := h
  obtain ⟨its, rv, hl, _⟩ := I.list hs
  obtain ⟨as, ra⟩ := Dp.readsAll I _ _ _ hd rv
  rw [Vals.ref1 r]
  exact PySem.W.min_list_data (I.ok.hd hc) hl.isList (by simpa using ra) hal (by omega) fun i v h' tk bs hv hr hk => best_end I rv ra hal (minD_mem p ps) q (by simpa using hv) hr hk
theorem call_maxD {X : Cx} (hc : X.calm = true) (hu : X.A.units + 65 < cLine) : CallR X (.builtin "max") (rBestD X.K maxD) := by
  intro pins s σ H vs us Q I r h
  obtain ⟨a, xs, p, ps, rfl, hs, hd, hal, hdep, q⟩ := h
  obtain ⟨its, rv, hl, _⟩ := I.list hs
  obtain ⟨as, ra⟩ := Dp.readsAll I _ _ _ hd rv
  rw [Vals.ref1 r]
  exact PySem.W.max_list_data (I.ok.hd hc) hl.isList (by simpa using ra) hal (by omega) fun i v h' tk bs hv hr hk => best_end I rv ra hal (maxD_mem p ps) q (by simpa using hv) hr hk
theorem sn_bestL {C : Cy} {best : PyData → List PyData → PyData} {op : List D → Option SV} (hop : ∀ ds sv, op ds = some sv → ∃ es p ps, ds = [.lst es] ∧ ordL es = some (p :: ps) ∧ sv = .im (ofPy (best p ps))) : SdN C (rBestD C.K best) op := by
  intro G H xs ds sv Q gh rp eo fin
  obtain ⟨es, p, ps, rfl, ho, rfl⟩ := hop ds sv eo
  obtain ⟨e1, e2, hal, hdep⟩ := ordL_some ho
  simp only [RpL, Rp] at rp
  obtain ⟨x, r, rfl, ⟨a, ys, rfl, ha, rl⟩, rfl⟩ := rp
  refine ⟨a, ys, p, ps, rfl, SqL.of (gh _ _ ha), dp_all gh rl e2, hal, hdep, fun i v hv hb => ?_⟩
  obtain ⟨d, hd, rd⟩ := rl.getV hv
  refine fin.im gh ?_
  have : d = ofPy (best p ps) := by
    rw [e1, ofPyL_map, List.getElem?_map, hb] at hd
    exact (Option.some.inj hd).symm
  rwa [this] at rd
theorem sn_MinL {C : Cy} : SdN C (rBestD C.K minD) oMinL := sn_bestL fun ds sv h => by
  unfold oMinL at h
  split at h
  · split at h
    · cases h; exact ⟨_, _, _, rfl, by assumption, rfl⟩
    · cases h
  · cases h
theorem sn_MaxL {C : Cy} : SdN C (rBestD C.K maxD) oMaxL := sn_bestL fun ds sv h => by
  unfold oMaxL at h
  split at h
  · split at h
    · cases h; exact ⟨_, _, _, rfl, by assumption, rfl⟩
    · cases h
  · cases h
end DV
/-! EV: the combinators, reckoned -/
namespace DV
open PySem L2
section
variable {α β : Type} {a : α} {s : S}
theorem b_ok {k : α → S → Rs β} : (Rs.ok a s).bind k = k a s := rfl
theorem b_ex {k : α → S → Rs β} {c : Nat} : (Rs.ex c s).bind k = .ex c s := rfl
theorem o_ok {k : α → S → Out} : ofRs (.ok a s) k = k a s := rfl
theorem o_ex {k : α → S → Out} {c : Nat} : ofRs (α := α) (.ex c s) k = .ex c s := rfl
end
section
variable {i j : Int}
theorem e_mul (h : (-18446744073709551616 < i ∧ i < 18446744073709551616) ∨ (-18446744073709551616 < j ∧ j < 18446744073709551616)) : oMul (.int i) (.int j) = some (.im (.int (i * j))) := if_pos (by omega)
theorem e_fdiv (h : 0 < j) (h2 : j < 1073741824) : oFdiv (.int i) (.int j) = some (.im (.int (i / j))) := if_pos ⟨h, by omega⟩
theorem e_mod (h : 0 < j) : oMod (.int i) (.int j) = some (.im (.int (i % j))) := if_pos h
theorem e_add : oAdd (.int i) (.int j) = some (.im (.int (i + j))) := rfl
theorem e_sub : oSub (.int i) (.int j) = some (.im (.int (i - j))) := rfl
theorem e_lt : oLt (.int i) (.int j) = some (.im (.bl (decide (i < j)))) := rfl
theorem e_le : oLe (.int i) (.int j) = some (.im (.bl (decide (i ≤ j)))) := rfl
theorem e_gt : oGt (.int i) (.int j) = some (.im (.bl (decide (j < i)))) := rfl
theorem e_ge : oGe (.int i) (.int j) = some (.im (.bl (decide (j ≤ i)))) := rfl
theorem e_lst {ds : List D} (h : ds.length ≤ 16777216) : oLst ds = some (.ol ds) := if_pos (Nat.le_trans h (by decide))
theorem e_tup {ds : List D} (h : ds.length ≤ 16777216) : oTup ds = some (.im (.tup ds)) := if_pos (Nat.le_trans h (by decide))
theorem e_len {d : D} : oLen [d] = (pyLen d).map fun n => SV.im (.int (n : Nat)) := by
  show Option.map (fun n : Int => SV.im (D.int n)) (pyLen d >>= fun a => pure (a : Int)) = _
  cases pyLen d <;> rfl
theorem e_len1 {d : D} : oLen1 d = (pyLen d).map fun n => SV.im (.int (n : Nat)) := by
  show Option.map (fun n : Int => SV.im (D.int n)) (pyLen d >>= fun a => pure (a : Int)) = _
  cases pyLen d <;> rfl
theorem l_lst {ds : List D} : pyLen (.lst ds) = some ds.length := rfl
theorem l_tup {ds : List D} : pyLen (.tup ds) = some ds.length := rfl
theorem l_str {z : Str} (h : z.length ≤ 16777216) : pyLen (.str z) = some z.length := if_pos (Nat.le_trans h (by decide))
theorem e_rg1 (h : -4611686018427387904 < j) (h2 : j < 4611686018427387904) : oRange1 [.int j] = some (rangeD 0 j.toNat) := if_pos (by omega)
theorem e_rg2 (h : -4611686018427387904 < i) (h1 : i < 4611686018427387904) (h3 : -4611686018427387904 < j) (h2 : j < 4611686018427387904) : oRange2 [.int i, .int j] = some (rangeD i (j - i).toNat) := if_pos (by omega)
theorem x_tup {ds : List D} : oIx (.tup ds) (.int i) = (L2.atI ds i).map .im := rfl
theorem x_lst {ds : List D} : oIx (.lst ds) (.int i) = (L2.atI ds i).map .im := rfl
/-- an index from the front -/
theorem at_nat {α : Type} {xs : List α} {n : Nat} (h : n < xs.length) : L2.atI xs (n : Int) = xs[n]? :=
  (List.getElem?_eq_getElem h).symm ▸ atI_nat (List.getElem?_eq_getElem h)
theorem at_0 {α : Type} {x : α} {xs : List α} : L2.atI (x :: xs) 0 = some x := atI_nat (j := 0) rfl
theorem at_1 {α : Type} {x y : α} {xs : List α} : L2.atI (x :: y :: xs) 1 = some y := atI_nat (j := 1) rfl
theorem at_2 {α : Type} {x y z : α} {xs : List α} : L2.atI (x :: y :: z :: xs) 2 = some z := atI_nat (j := 2) rfl
theorem ix_0 {n : Nat} : ixN (n + 1) 0 = some 0 := by unfold ixN; rw [if_pos (by omega), if_pos (by omega)]; rfl
theorem ix_1 {n : Nat} : ixN (n + 1 + 1) 1 = some 1 := by unfold ixN; rw [if_pos (by omega), if_pos (by omega)]; rfl
theorem ix_nat {n j : Nat} (h : j < n) : ixN n (j : Int) = some j := by unfold ixN; rw [if_pos (by omega), if_pos (by omega)]; simp
end
theorem lt_sz {n : Nat} (h : n < 16777216) : (n < sizeLine) = True := eq_true (Nat.lt_of_lt_of_le h (by decide))
theorem le_sz {n : Nat} (h : n ≤ 16777216) : (n ≤ sizeLine) = True := eq_true (Nat.le_trans h (by decide))
def iL (l : List Int) : List D := l.map .int
theorem iL_len (l : List Int) : (iL l).length = l.length := List.length_map _
theorem iL_app (l m : List Int) : iL l ++ iL m = iL (l ++ m) := (List.map_append).symm
theorem iL_snoc (l : List Int) (x : Int) : iL l ++ [.int x] = iL (l ++ [x]) := by simp [iL]
def sL (l : List Str) : List D := l.map .str
theorem sL_len (l : List Str) : (sL l).length = l.length := List.length_map _
theorem sL_app (l m : List Str) : sL l ++ sL m = sL (l ++ m) := (List.map_append).symm
theorem sL_snoc (l : List Str) (x : Str) : sL l ++ [.str x] = sL (l ++ [x]) := by simp [sL]
theorem iL_at {l : List Int} {n : Int} (h0 : 0 ≤ n) (h : n < l.length) : ∃ x, x ∈ l ∧ L2.atI (iL l) n = some (.int x) := by
  obtain ⟨k, rfl⟩ := Int.eq_ofNat_of_zero_le h0
  have hk : k < l.length := by omega
  refine ⟨l[k], List.getElem_mem hk, ?_⟩
  rw [at_nat (by simpa [iL] using hk)]
  simp [iL, hk]
theorem sL_at {l : List Str} {n : Int} (h0 : 0 ≤ n) (h : n < l.length) : ∃ x, x ∈ l ∧ L2.atI (sL l) n = some (.str x) := by
  obtain ⟨k, rfl⟩ := Int.eq_ofNat_of_zero_le h0
  have hk : k < l.length := by omega
  refine ⟨l[k], List.getElem_mem hk, ?_⟩
  rw [at_nat (by simpa [sL] using hk)]
  simp [sL, hk]
theorem e_pow {i j : Int} (h : 0 ≤ j) (h1 : j ≤ 1000000) (h2 : i.natAbs < 18446744073709551616) : oPow (.int i) (.int j) = some (.im (.int (i ^ j.toNat))) := if_pos ⟨h, by omega, h2⟩
theorem rg_0 {lo : Int} : rangeD lo 0 = [] := rfl
theorem rg_s {lo : Int} {n : Nat} : rangeD lo (n + 1) = .int lo :: rangeD (lo + 1) n := rfl
theorem lc_nil {i : Nat} {t : S → Rs Bool} {el : S → Rs D} {s : S} : lcL i t el [] s = .ok [] s := rfl
theorem sL_rep (n : Nat) (l : List Str) : (List.replicate n (sL l)).flatten = sL (List.replicate n l).flatten := by
  unfold sL
  rw [List.map_flatten, List.map_replicate]
theorem iL_rep (n : Nat) (l : List Int) : (List.replicate n (iL l)).flatten = iL (List.replicate n l).flatten := by
  unfold iL
  rw [List.map_flatten, List.map_replicate]
theorem e_addl {a b : List D} (h : a.length + b.length ≤ 16777216) : oAdd (.lst a) (.lst b) = some (.ol (a ++ b)) := if_pos (Nat.le_trans h (by decide))
theorem e_addt {a b : List D} (h : a.length + b.length ≤ 16777216) : oAdd (.tup a) (.tup b) = some (.im (.tup (a ++ b))) := if_pos (Nat.le_trans h (by decide))
theorem e_adds {a b : Str} (h : a.length + b.length ≤ 16777216) : oAdd (.str a) (.str b) = some (.im (.str (a ++ b))) := if_pos (Nat.le_trans h (by decide))
theorem e_mull {a : List D} {k : Int} (h0 : 0 ≤ k) (h1 : k < 4611686018427387904) (h : a.length * k.toNat ≤ 16777216) : oMul (.lst a) (.int k) = some (.ol (List.replicate k.toNat a).flatten) := if_pos ⟨by omega, Nat.le_trans h (by decide)⟩
theorem e_sll {a : List D} {lo hi : Option Int} : oSl (.lst a) lo hi = some (.ol (cutD a lo hi)) := rfl
theorem cut_map {α β : Type} (f : α → β) (a : List α) (lo hi : Option Int) : cutD (a.map f) lo hi = (cutD a lo hi).map f := by
  unfold cutD
  rw [List.length_map, List.map_take, List.map_drop]
theorem cut_to {α : Type} (a : List α) (k : Nat) : cutD a none (some (k : Int)) = a.take k := by
  unfold cutD
  rw [HT.sIx_none, HT.sIx_nat]
  simp
theorem cut_from {α : Type} (a : List α) (k : Nat) : cutD a (some (k : Int)) none = a.drop k := by
  unfold cutD
  rw [HT.sIx_none, HT.sIx_nat]
  by_cases h : k ≤ a.length
  · rw [Nat.min_eq_left h, List.take_of_length_le (by simp)]
  · rw [Nat.min_eq_right (by omega), List.drop_eq_nil_of_le (Nat.le_refl _), List.drop_eq_nil_of_le (by omega)]
    simp
theorem cut_both {α : Type} (a : List α) (i j : Nat) : cutD a (some (i : Int)) (some (j : Int)) = (a.take j).drop i := by
  unfold cutD
  rw [HT.sIx_nat, HT.sIx_nat, List.drop_take]
  by_cases h : i ≤ a.length
  · rw [Nat.min_eq_left h]
    by_cases h2 : j ≤ a.length
    · rw [Nat.min_eq_left h2]
    · rw [Nat.min_eq_right (by omega), List.take_of_length_le (by simp), List.take_of_length_le (by simp; omega)]
  · have e1 : a.drop i = [] := List.drop_eq_nil_of_le (by omega)
    have e2 : a.drop (min i a.length) = [] := List.drop_eq_nil_of_le (by omega)
    rw [e1, e2]
    simp
/-! ### loops -/
theorem forL_wp {g : SV → S → Rs Unit} {body : S → Out} (Q : Out → Prop) (I : List D → S → Prop) {ds : List D} {s : S} (h0 : I ds s)
    (step : ∀ d r s, I (d :: r) s → match ofRs (g (.im d) s) fun _ s1 => body s1 with
      | .nx s' => I r s' | .ct s' => I r s' | .bk s' => Q (.nx s') | .rt d s' => Q (.rt d s') | .ex c s' => Q (.ex c s') | .bad => False)
    (fin : ∀ s, I [] s → Q (.nx s)) : Q (forL g body ds s) := by
  induction ds generalizing s with
  | nil => exact fin s h0
  | cons d r ih =>
    have h := step d r s h0
    unfold forL
    cases e : g (.im d) s with
    | bad => rw [e] at h; exact h.elim
    | ex c s1 => rw [e] at h; exact h
    | ok u s1 =>
      rw [e] at h
      simp only [ofRs] at h ⊢
      cases eb : body s1 with
      | nx s2 => rw [eb] at h; exact ih h
      | ct s2 => rw [eb] at h; exact ih h
      | bk s2 => rw [eb] at h; exact h
      | rt d s2 => rw [eb] at h; exact h
      | ex c s2 => rw [eb] at h; exact h
      | bad => rw [eb] at h; exact h.elim
end DV
/-! EV2: equality of data, tables -/
namespace DV
open PySem L2
mutual
/-- no truth value, no dict -/
def nbD : PyData → Bool
  | .bool _ => false
  | .dict _ => false
  | .list xs => nbL xs
  | .tuple xs => nbL xs
  | _ => true
def nbL : List PyData → Bool
  | [] => true
  | x :: xs => nbD x && nbL xs
end
theorem bool_dec {b : Bool} {P : Prop} [Decidable P] (h : b = true ↔ P) : b = decide P := by
  cases b with
  | true => exact (decide_eq_true (h.mp rfl)).symm
  | false => exact (decide_eq_false fun p => by cases h.mpr p).symm
mutual
theorem eqv_nb : ∀ (p q : PyData), nbD p = true → nbD q = true → (PyData.eqv p q = true ↔ p = q)
  | .none, q, h, k => by cases q <;> simp_all [PyData.eqv, nbD]
  | .bool _, q, h, k => by cases h
  | .int i, q, h, k => by cases q <;> simp_all [PyData.eqv, nbD]
  | .str x, q, h, k => by cases q <;> simp_all [PyData.eqv, nbD]
  | .dict _, q, h, k => by cases h
  | .list xs, q, h, k => by
    cases q with
    | list ys =>
      simp only [PyData.eqv, PyData.list.injEq]
      exact eqv_nbL xs ys h k
    | _ => simp_all [PyData.eqv]
  | .tuple xs, q, h, k => by
    cases q with
    | tuple ys =>
      simp only [PyData.eqv, PyData.tuple.injEq]
      exact eqv_nbL xs ys h k
    | _ => simp_all [PyData.eqv]
theorem eqv_nbL : ∀ (xs ys : List PyData), nbL xs = true → nbL ys = true → (PyData.eqvAll xs ys = true ↔ xs = ys)
  | [], [], h, k => by simp [PyData.eqvAll]
  | [], y :: ys, h, k => by simp [PyData.eqvAll]
  | x :: xs, [], h, k => by simp [PyData.eqvAll]
  | x :: xs, y :: ys, h, k => by
    simp only [nbL, Bool.and_eq_true] at h k
    simp only [PyData.eqvAll, Bool.and_eq_true, List.cons.injEq]
    rw [eqv_nb x y h.1 k.1, eqv_nbL xs ys h.2 k.2]
end
theorem eq_of {d e : D} {p r : PyData} (h1 : toPy d = some p) (h2 : toPy e = some r) (s1 : SeqAt.shaped p = true) (s2 : SeqAt.shaped r = true) (n1 : nbD p = true) (n2 : nbD r = true) [Decidable (p = r)] : pyEq d e = some (decide (p = r)) := by
  unfold pyEq
  rw [h1, h2]
  simp only [s1, s2, Bool.and_self, if_true, Option.some.injEq]
  exact bool_dec (eqv_nb p r n1 n2)
theorem q_int (i j : Int) : pyEq (.int i) (.int j) = some (decide (i = j)) := by
  unfold pyEq toPy
  simp only [Option.some.injEq]
  rw [if_pos (by simp [SeqAt.shaped, PyData.canLay0, PyData.depth])]
  simp only [PyData.eqv, Option.some.injEq]
  exact bool_dec (by simp)
theorem sh_str {x : Str} (h : PyData.strOk x = true) : SeqAt.shaped (.str x) = true := by
  unfold SeqAt.shaped
  simp [PyData.canLay0, PyData.depth, h]
theorem q_str {x y : Str} (h1 : PyData.strOk x = true) (h2 : PyData.strOk y = true) : pyEq (.str x) (.str y) = some (decide (x = y)) := by
  unfold pyEq toPy
  simp only [sh_str h1, sh_str h2, Bool.and_self, if_true, Option.some.injEq, PyData.eqv]
  exact bool_dec (by simp)
theorem toPy_sL : ∀ l : List Str, toPyL (sL l) = some (l.map .str)
  | [] => rfl
  | x :: xs => by
    show toPyL (.str x :: sL xs) = _
    simp only [toPyL, toPy, toPy_sL xs, List.map_cons]
theorem toPy_iL : ∀ l : List Int, toPyL (iL l) = some (l.map .int)
  | [] => rfl
  | x :: xs => by
    show toPyL (.int x :: iL xs) = _
    simp only [toPyL, toPy, toPy_iL xs, List.map_cons]
theorem can_strs : ∀ {l : List Str}, (∀ x ∈ l, PyData.strOk x = true) → PyData.canLayAll0 (l.map .str) = true ∧ PyData.depthAll (l.map .str) = 0
  | [], _ => ⟨rfl, rfl⟩
  | x :: xs, h => by
    obtain ⟨h1, h2⟩ := can_strs (l := xs) fun y hy => h y (List.mem_cons_of_mem _ hy)
    simp only [List.map_cons, PyData.canLayAll0, PyData.canLay0, PyData.depthAll, PyData.depth, h1, h2, h x (by simp), Bool.and_self, Nat.max_self, and_self]
theorem can_ints : ∀ {l : List Int}, PyData.canLayAll0 (l.map .int) = true ∧ PyData.depthAll (l.map .int) = 0
  | [] => ⟨rfl, rfl⟩
  | x :: xs => by
    obtain ⟨h1, h2⟩ := can_ints (l := xs)
    simp only [List.map_cons, PyData.canLayAll0, PyData.canLay0, PyData.depthAll, PyData.depth, h1, h2, Bool.and_self, Nat.max_self, and_self]
theorem nb_strs : ∀ l : List Str, nbL (l.map .str) = true
  | [] => rfl
  | x :: xs => by simp only [List.map_cons, nbL, nbD, nb_strs xs, Bool.and_self]
theorem nb_ints : ∀ l : List Int, nbL (l.map .int) = true
  | [] => rfl
  | x :: xs => by simp only [List.map_cons, nbL, nbD, nb_ints xs, Bool.and_self]
theorem strs_inj {l m : List Str} : l.map PyData.str = m.map PyData.str ↔ l = m := by
  constructor
  · intro h
    exact List.map_inj_right (fun a b e => by injection e) |>.mp h
  · intro h; rw [h]
theorem ints_inj {l m : List Int} : l.map PyData.int = m.map PyData.int ↔ l = m := by
  constructor
  · intro h
    exact List.map_inj_right (fun a b e => by injection e) |>.mp h
  · intro h; rw [h]
theorem q_sL {l m : List Str} (h1 : ∀ x ∈ l, PyData.strOk x = true) (h2 : ∀ x ∈ m, PyData.strOk x = true) : pyEq (.lst (sL l)) (.lst (sL m)) = some (decide (l = m)) := by
  unfold pyEq
  simp only [toPy, toPy_sL, Option.map_some]
  obtain ⟨a1, a2⟩ := can_strs h1
  obtain ⟨b1, b2⟩ := can_strs h2
  rw [if_pos (by simp [SeqAt.shaped, PyData.canLay0, PyData.depth, a1, a2, b1, b2])]
  simp only [Option.some.injEq, PyData.eqv]
  exact bool_dec ((eqv_nbL _ _ (nb_strs l) (nb_strs m)).trans strs_inj)
theorem q_iL {l m : List Int} : pyEq (.lst (iL l)) (.lst (iL m)) = some (decide (l = m)) := by
  unfold pyEq
  simp only [toPy, toPy_iL, Option.map_some]
  obtain ⟨a1, a2⟩ := can_ints (l := l)
  obtain ⟨b1, b2⟩ := can_ints (l := m)
  rw [if_pos (by simp [SeqAt.shaped, PyData.canLay0, PyData.depth, a1, a2, b1, b2])]
  simp only [Option.some.injEq, PyData.eqv]
  exact bool_dec ((eqv_nbL _ _ (nb_ints l) (nb_ints m)).trans ints_inj)
/-! ### tables -/
section
variable {κ α : Type} [DecidableEq κ]
theorem assoc_pv_ne {i j : κ} {v : α} (h : ¬ i = j) : ∀ {ks : List κ} {vs : List α}, ks.length = vs.length → assoc ks (putVs ks vs j v) i = assoc ks vs i
  | [], [], _ => rfl
  | [], _ :: _, h => by simp at h
  | _ :: _, [], h => by simp at h
  | k :: ks, x :: vs, hl => by
    simp only [putVs, assoc]
    by_cases e : k = i
    · rw [if_pos e, if_pos e, if_neg]
      intro z; exact h (e.symm.trans z)
    · rw [if_neg e, if_neg e]
      exact assoc_pv_ne h (by simpa using hl)
theorem assoc_pv_eq {j : κ} {v : α} : ∀ {ks : List κ} {vs : List α}, ks.length = vs.length → j ∈ ks → assoc ks (putVs ks vs j v) j = some v
  | [], _, _, h => by simp at h
  | _ :: _, [], h, _ => by simp at h
  | k :: ks, x :: vs, hl, h => by
    simp only [putVs, assoc]
    by_cases e : k = j
    · rw [if_pos e, if_pos e]
    · rw [if_neg e]
      exact assoc_pv_eq (by simpa using hl) ((List.mem_cons.mp h).resolve_left (Ne.symm e))
theorem pv_len {j : κ} {v : α} : ∀ {ks : List κ} {vs : List α}, ks.length = vs.length → (putVs ks vs j v).length = vs.length
  | [], [], _ => rfl
  | [], _ :: _, h => by simp at h
  | _ :: _, [], h => by simp at h
  | k :: ks, x :: vs, hl => by simp only [putVs, List.length_cons]; rw [pv_len (by simpa using hl)]
theorem assoc_none {j : κ} : ∀ {ks : List κ} {vs : List α}, ¬ j ∈ ks → assoc ks vs j = none
  | [], _, _ => by cases ‹List α› <;> rfl
  | _ :: _, [], _ => rfl
  | k :: ks, x :: vs, h => by
    simp only [List.mem_cons, not_or] at h
    simp only [assoc]
    rw [if_neg (Ne.symm h.1)]
    exact assoc_none h.2
theorem assoc_snoc {i j : κ} {v : α} : ∀ {ks : List κ} {vs : List α}, ks.length = vs.length → ¬ j ∈ ks → assoc (ks ++ [j]) (vs ++ [v]) i = if i = j then some v else assoc ks vs i
  | [], [], _, _ => by
    simp only [List.nil_append, assoc]
    by_cases e : j = i
    · rw [if_pos e, if_pos e.symm]
    · rw [if_neg e, if_neg (Ne.symm e)]
  | [], _ :: _, h, _ => by simp at h
  | _ :: _, [], h, _ => by simp at h
  | k :: ks, x :: vs, hl, h => by
    simp only [List.mem_cons, not_or] at h
    simp only [List.cons_append, assoc]
    rw [assoc_snoc (by simpa using hl) h.2]
    by_cases e : k = i
    · rw [if_pos e, if_pos e, if_neg]
      intro z; exact h.1 (z.symm.trans e.symm)
    · rw [if_neg e, if_neg e]
theorem putD_in {ks : List κ} {vs : List α} {j : κ} {v : α} (h : j ∈ ks) : putD ks vs j v = (ks, putVs ks vs j v) := if_pos (List.any_eq_true.mpr ⟨j, h, by simp⟩)
theorem putD_out {ks : List κ} {vs : List α} {j : κ} {v : α} (h : ¬ j ∈ ks) : putD ks vs j v = (ks ++ [j], vs ++ [v]) := if_neg fun z => by
  obtain ⟨k, hk, e⟩ := List.any_eq_true.mp z
  have : k = j := by simpa using e
  exact h (this ▸ hk)
theorem assoc_putD {ks : List κ} {vs : List α} {i j : κ} {v : α} (hl : ks.length = vs.length) : assoc (putD ks vs j v).1 (putD ks vs j v).2 i = if i = j then some v else assoc ks vs i := by
  by_cases h : j ∈ ks
  · rw [putD_in h]
    by_cases e : i = j
    · rw [if_pos e, e]; exact assoc_pv_eq hl h
    · rw [if_neg e]; exact assoc_pv_ne e hl
  · rw [putD_out h]
    exact assoc_snoc hl h
theorem putD_len {ks : List κ} {vs : List α} {j : κ} {v : α} (hl : ks.length = vs.length) : (putD ks vs j v).1.length = (putD ks vs j v).2.length ∧ (putD ks vs j v).1.length ≤ ks.length + 1 := by
  by_cases h : j ∈ ks
  · rw [putD_in h]; exact ⟨hl.trans (pv_len hl).symm, by simp⟩
  · rw [putD_out h]; simp [hl]
theorem putD_nd {ks : List κ} {vs : List α} {j : κ} {v : α} (h : ks.Nodup) : (putD ks vs j v).1.Nodup := by
  by_cases e : j ∈ ks
  · rw [putD_in e]; exact h
  · rw [putD_out e]
    exact List.nodup_append.mpr ⟨h, by simp, fun a ha b hb z => e (by simp at hb; rw [← hb, ← z]; exact ha)⟩
theorem putD_mem {ks : List κ} {vs : List α} {j k : κ} {v : α} (h : k ∈ (putD ks vs j v).1) : k ∈ ks ∨ k = j := by
  by_cases e : j ∈ ks
  · rw [putD_in e] at h; exact .inl h
  · rw [putD_out e] at h
    simpa using h
/-- a list without repeats within another is no longer -/
theorem nodup_len {α : Type} [DecidableEq α] : ∀ {l m : List α}, l.Nodup → (∀ x ∈ l, x ∈ m) → l.length ≤ m.length
  | [], m, _, _ => Nat.zero_le _
  | x :: l, m, h, k => by
    have h' := List.nodup_cons.mp h
    have hx := k x (by simp)
    have := nodup_len (l := l) (m := m.erase x) h'.2 fun y hy => (List.mem_erase_of_ne (by intro z; subst z; exact h'.1 hy)).mpr (k y (List.mem_cons_of_mem _ hy))
    rw [List.length_erase_of_mem hx] at this
    have := List.length_pos_of_mem hx
    simp only [List.length_cons]
    omega
end
theorem e_mulN {k s : Nat} (h : k ≤ 16777216) : oMul (.int (k : Int)) (.int (s : Int)) = some (.im (.int ((k * s : Nat) : Int))) := (e_mul (.inl ⟨by omega, by omega⟩)).trans (by rw [Int.natCast_mul])
theorem q_asg {f : S → Rs SV} {i : Nat} {g : S → Out} {s s1 s2 : S} {sv : SV} (h : f s = .ok sv s1) (h2 : setG i sv s1 = .ok () s2) : dSeq (dAsg f (setG i)) g s = g s2 := by
  unfold dSeq dAsg
  rw [h, o_ok, h2, o_ok]
theorem keys_sL : ∀ l : List Str, keysD (sL l) = some (l.map Sum.inr)
  | [] => rfl
  | x :: xs => by
    show keysD (.str x :: sL xs) = _
    simp only [keysD, keyD, keys_sL xs, List.map_cons]
theorem keys_iL : ∀ l : List Int, keysD (iL l) = some (l.map Sum.inl)
  | [] => rfl
  | x :: xs => by
    show keysD (.int x :: iL xs) = _
    simp only [keysD, keyD, keys_iL xs, List.map_cons]
end DV
namespace DV
open PySem L2
def m_BadTouch : Nat → Option Bool
  | 0 => some false
  | 6 => some true
  | _ => none
def F__law_mixed : Fn := dDef [false, false] 3
  (dSeq (dAsg (d2 oMod (dVal (d2 oAdd (dVal (d2 oAdd (dVal (d2 oMul (dVar 0) (dC (.int 48271)))) (dVal (d2 oMul (dVar 1) (dC (.int 69621)))))) (dC (.int 12345)))) (dC (.int 2147483647))) (setG 2))
    (dRet (dVal (d2 oMod (dVal (d2 oAdd (dVal (d2 oMul (dVar 2) (dVal (d2 oAdd (dVal (d2 oFdiv (dVar 2) (dC (.int 65536)))) (dC (.int 3)))))) (dVar 1))) (dC (.int 2147483647))))))
def F__law_numbers_b1 : S → Out :=
  (dIfS (dBl (dVal (d2 oGt (dVar 3) (dC (.int 0))))) (dSeq (dExp (dApp (slG 1) (slS 1) (dVal (d2 oMod (dVar 3) (dC (.int 1000000))))))
    (dAsg (d2 oFdiv (dVar 3) (dC (.int 1000000))) (setG 3))) dNx)
def F__law_numbers_b2 : S → Out :=
  (dExp (dApp (slG 1) (slS 1) (dVal (d2 oMod (dCall false F__law_mixed [.e (dIm (dCall false F__law_mixed [.e (d2 oMod (dVar 2) (dC (.int 2147483647))), .e (dIm (dVar 4))])), .e (d2 oAdd (dVar 4) (dC (.int 7)))]) (dC (.int 1000000))))))
def F__law_numbers_b3 : S → Out :=
  (dIfS (dBl (dVal (d2 oGe (dVar 2) (dVal (d2 oPow (dC (.int 10)) (dC (.int 18))))))) (dSeq (dAsg (dIm (dVar 2)) (setG 3))
    (dFor (dRange oRange1 [(dC (.int 60))]) (setG 4) F__law_numbers_b1)) (dSeq (dExp (dApp (slG 1) (slS 1) (dVal (d2 oMod (dVar 2) (dC (.int 1000000))))))
    (dFor (dRange oRange1 [(dC (.int 5))]) (setG 4) F__law_numbers_b2)))
def F__law_numbers : Fn := dDef [false] 5
  (dSeq (dAsg (dN oLst []) (setG 1))
    (dSeq (dFor (dItA (dVar 0)) (setG 2) F__law_numbers_b3)
    (dRet (dVar 1))))
def F__law_draw : Fn := dDef [false, false] 4
  (dSeq (dAsg (d2B (slG 0) oIx (dC (.int 1))) (setG 2))
    (dSeq (dAsg (d2 oAdd (dVar 2) (dC (.int 1))) (gSet (slG 0) (slS 0) (dC (.int 1))))
    (dSeq (dIfS (dBl (dVal (d2 oLt (dVar 2) (dVal (dN oLen [(dVal (d2B (slG 0) oIx (dC (.int 0))))]))))) (dRet (dVal (d2 oMod (dVal (d2 oIx (dVal (d2B (slG 0) oIx (dC (.int 0)))) (dVar 2))) (dVar 1)))) dNx)
    (dSeq (dAsg (d2 oAdd (dC (.int 1)) (dVar 2)) (setG 3))
    (dSeq (dIfS (dBl (dVal (d2 oGt (dVal (dN oLen [(dVal (d2B (slG 0) oIx (dC (.int 0))))])) (dC (.int 0))))) (dAsg (d2 oAdd (dVar 3) (dVal (d2 oMul (dC (.int 1009)) (dVal (d2 oIx (dVal (d2B (slG 0) oIx (dC (.int 0)))) (dC (.int 0))))))) (setG 3)) dNx)
    (dRet (dVal (d2 oMod (dVal (d2 oFdiv (dCall false F__law_mixed [.e (dIm (dCall false F__law_mixed [.e (dIm (dVar 3)), .e (dIm (dVar 2))])), .e (dIm (dC (.int 5)))]) (dC (.int 7)))) (dVar 1)))))))))
def F__law_list_e1 : S → Rs D :=
  (dVal (d2 oIx (dVar 1) (dCall false F__law_draw [.v 0, .e (dN oLen [(dVar 1)])])))
def F__law_list_b1 : S → Out :=
  (dSeq (dAsg (dComp 5 (dRange oRange1 [(dVal (d2 oAdd (dC (.int 1)) (dCall false F__law_draw [.v 0, .e (dIm (dC (.int 3)))])))]) tTrue F__law_list_e1) (setG 4))
    (dAsg (d2 oAdd (dVar 2) (dVal (d2 oMul (dVar 4) (dVal (d2 oAdd (dC (.int 1)) (dCall false F__law_draw [.v 0, .e (dIm (dC (.int 4)))])))))) (setG 2)))
def F__law_list : Fn := dDef [false] 6
  (dSeq (dAsg (dSl oSl (dVal (dN oLst [(dC (.str "p")), (dC (.str "b")), (dC (.str "s"))])) none (some (dVal (d2 oAdd (dC (.int 1)) (dCall false F__law_draw [.v 0, .e (dIm (dC (.int 3)))]))))) (setG 1))
    (dSeq (dAsg (dN oLst []) (setG 2))
    (dSeq (dFor (dRange oRange1 [(dVal (d2 oAdd (dC (.int 1)) (dCall false F__law_draw [.v 0, .e (dIm (dC (.int 3)))])))]) (setG 3) F__law_list_b1)
    (dRet (dVal (dSl oSl (dVar 2) none (some (dC (.int 9)))))))))
def F__law_all_equal_b1 (X__law_equal : Fn) : S → Out :=
  (dIfS (dNot (dTr (dCall false X__law_equal [.e (d2 oIx (dVar 0) (dVar 2)), .e (d2 oIx (dVar 1) (dVar 2))]))) (dRet (dC (.bl false))) dNx)
mutual
def F__law_equal : Nat → Fn
  | 0 => fun _ => .bad
  | n + 1 => dDef [false, false] 2
      (dSeq (dIfS (dTr (dVal (d1 (oIsi "list") (dVar 1)))) (dRet (dAndV (dVal (d1 (oIsi "list") (dVar 0))) (dAndV (dVal (d2 oEq (dVal (dN oLen [(dVar 0)])) (dVal (dN oLen [(dVar 1)])))) (dCall false (F__law_all_equal n) [.e (dIm (dVar 0)), .e (dIm (dVar 1))])))) dNx)
        (dSeq (dIfS (dTr (dVal (d1 (oIsi "tuple") (dVar 1)))) (dRet (dAndV (dVal (d1 (oIsi "tuple") (dVar 0))) (dAndV (dVal (d2 oEq (dVal (dN oLen [(dVar 0)])) (dVal (dN oLen [(dVar 1)])))) (dCall false (F__law_all_equal n) [.e (dIm (dVar 0)), .e (dIm (dVar 1))])))) dNx)
        (dSeq (dIfS (dTr (dVal (d1 (oIsi "bool") (dVar 1)))) (dRet (dAndV (dVal (d1 (oIsi "bool") (dVar 0))) (dVal (d2 oEq (dVar 0) (dVar 1))))) dNx)
        (dSeq (dIfS (dTr (dVal (d1 (oIsi "int") (dVar 1)))) (dRet (dAndV (dVal (d1 (oIsi "int") (dVar 0))) (dAndV (dBv (dNot (dTr (dVal (d1 (oIsi "bool") (dVar 0)))))) (dVal (d2 oEq (dVar 0) (dVar 1)))))) dNx)
        (dSeq (dIfS (dTr (dVal (d1 (oIsi "str") (dVar 1)))) (dRet (dAndV (dVal (d1 (oIsi "str") (dVar 0))) (dVal (d2 oEq (dVar 0) (dVar 1))))) dNx)
        (dRet (dVal (d2 oIsN (dVar 0) (dC .non)))))))))
def F__law_all_equal : Nat → Fn
  | 0 => fun _ => .bad
  | n + 1 => dDef [false, false] 3
      (dSeq (dFor (dRange oRange1 [(dVal (dN oLen [(dVar 1)]))]) (setG 2) (F__law_all_equal_b1 (F__law_equal n)))
        (dRet (dC (.bl true))))
end
def F_is_letter : Fn := dDef [false] 1
  (dRet (dAndV (dVal (d1 (oIsi "str") (dVar 0))) (dAndV (dVal (d2 oEq (dVal (dN oLen [(dVar 0)])) (dC (.int 1)))) (dChain oLe oLe (dC (.str "a")) (dVar 0) (dC (.str "z"))))))
def F_check_letters_e1 : S → Rs D :=
  (dVar 2)
def F_check_letters_t1 : S → Rs Bool :=
  (dNot (dTr (dCall false F_is_letter [.e (dIm (dVar 2))])))
def F_check_letters : Fn := dDef [false, false] 3
  (dSeq (dIfS (dOr (dNot (dTr (dVal (d1 (oIsi "list") (dVar 0))))) (dNot (dBl (dChain oLe oLe (dC (.int 1)) (dVal (dN oLen [(dVar 0)])) (dVar 1))))) (fun s => .ex 6 s) dNx)
    (dIfS (dTr (dVal (dComp 2 (dItA (dVar 0)) F_check_letters_t1 F_check_letters_e1))) (fun s => .ex 6 s) dNx))
def F_best_text_b1 (X_best_text : Fn) : S → Out :=
  (dSeq (dAsg (dIfX (dBl (dVal (d2 oEq (dVar 5) (dVal (dN oLen [(dVar 0)]))))) (dIm (dVar 4)) (d2 oAdd (dVar 4) (dCall false X_best_text [.e (dSl oSl (dVar 0) (some (dVar 5)) none), .v 1]))) (setG 6))
    (dIfS (dOr (dBl (dVal (d2 oIsN (dVar 3) (dC .non)))) (dBl (dVal (d2 oLtD (dVal (dN oTup [(dVal (dN oLen [(dVar 6)])), (dVar 6)])) (dVal (dN oTup [(dVal (dN oLen [(dVar 3)])), (dVar 3)])))))) (dAsg (dIm (dVar 6)) (setG 3)) dNx))
def F_first_items_c1 : S → Rs Bool :=
  (dAnd (dBl (dVal (d2 oLt (dVar 3) (dVal (dN oLen [(dVar 0)]))))) (dBl (dVal (d2 oEq (dVal (d2 oIx (dVar 0) (dVar 3))) (dVal (d2 oIx (dVar 0) (dC (.int 0))))))))
def F_first_items_w1 : S → Out :=
  (dSeq (dAsg (d2 oAdd (dVar 3) (dC (.int 1))) (setG 3))
    (dExp (dApp (slG 2) (slS 2) (dVal (dN oTup [(dVal (d2 oAdd (dVal (d2 oIx (dVar 0) (dC (.int 0)))) (dVal (dN oStr [(dVar 3)])))), (dVar 3)])))))
def F_first_items_c2 : S → Rs Bool :=
  (dBl (dVal (d2 oEq (dVal (dSl oSl (dVar 0) (some (dVal (d2 oMul (dVar 5) (dVar 4)))) (some (dVal (d2 oMul (dVal (d2 oAdd (dVar 5) (dC (.int 1)))) (dVar 4)))))) (dVal (dSl oSl (dVar 0) none (some (dVar 4)))))))
def F_first_items_w2 (X_best_text : Fn) : S → Out :=
  (dSeq (dAsg (d2 oAdd (dVar 5) (dC (.int 1))) (setG 5))
    (dExp (dApp (slG 2) (slS 2) (dVal (dN oTup [(dVal (d2 oAdd (dVal (d2 oAdd (dVal (d2 oAdd (dC (.str "(")) (dCall false X_best_text [.e (dSl oSl (dVar 0) none (some (dVar 4))), .v 1]))) (dC (.str ")")))) (dVal (dN oStr [(dVar 5)])))), (dVal (d2 oMul (dVar 5) (dVar 4)))])))))
def F_first_items_b1 (X_best_text : Fn) : S → Out :=
  (dSeq (dAsg (dIm (dC (.int 1))) (setG 5))
    (whileL F_first_items_c2 (F_first_items_w2 X_best_text) 100000))
mutual
def F_best_text : Nat → Fn
  | 0 => fun _ => .bad
  | n + 1 => dDef [false, false] 7
      (dSeq (dAsg (dN oTuple [(dVar 0)]) (setG 2))
        (dSeq (dIfS (dBl (dVal (d2C (dVar 2) oDin (slG 1)))) (dRet (dVal (d2B (slG 1) oDget (dVar 2)))) dNx)
        (dSeq (dAsg (dIm (dC .non)) (setG 3))
        (dSeq (dFor (dItA (dCall false (F_first_items n) [.e (dIm (dVar 0)), .v 1])) (gTupF 2 (gsCons (setG 4) (gsCons (setG 5) gsNil))) (F_best_text_b1 (F_best_text n)))
        (dSeq (dDput (slG 1) (slS 1) (dVar 3) (dVar 2))
        (dRet (dVar 3)))))))
def F_first_items : Nat → Fn
  | 0 => fun _ => .bad
  | n + 1 => dDef [false, false] 6
      (dSeq (dAsg (dN oLst [(dVal (dN oTup [(dVal (d2 oIx (dVar 0) (dC (.int 0)))), (dC (.int 1))]))]) (setG 2))
        (dSeq (dAsg (dIm (dC (.int 1))) (setG 3))
        (dSeq (whileL F_first_items_c1 F_first_items_w1 100000)
        (dSeq (dFor (dRange oRange2 [(dC (.int 2)), (dVal (d2 oAdd (dVal (d2 oFdiv (dVal (dN oLen [(dVar 0)])) (dC (.int 2)))) (dC (.int 1))))]) (setG 4) (F_first_items_b1 (F_best_text n)))
        (dRet (dVar 2))))))
end
def F_written : Fn := dDef [false] 1
  (dSeq (dExp (dIm (dCall false F_check_letters [.e (dIm (dVar 0)), .e (dIm (dC (.int 60)))])))
    (dRet (dCall false (F_best_text 128) [.e (dIm (dVar 0)), .e (fun s => .ok (.ot [] []) s)])))
def F__law_items_b1 : S → Out :=
  (dIfS (dAnd (dBl (dVal (d2 oEq (dVal (d2 oMod (dVal (dN oLen [(dVar 4)])) (dVar 6))) (dC (.int 0))))) (dBl (dVal (d2 oEq (dVar 4) (dVal (d2 oMul (dVal (dSl oSl (dVar 4) none (some (dVar 6)))) (dVal (d2 oFdiv (dVal (dN oLen [(dVar 4)])) (dVar 6))))))))) (dExp (dApp (slG 5) (slS 5) (dVal (d2 oAdd (dVal (d2 oAdd (dVal (d2 oAdd (dC (.str "(")) (dVal (d2 oIx (dVal (d2B (slG 3) oDget (dVal (dN oTup [(dVar 1), (dVal (d2 oAdd (dVar 1) (dVar 6)))])))) (dC (.int 1)))))) (dC (.str ")")))) (dVal (dN oStr [(dVal (d2 oFdiv (dVal (dN oLen [(dVar 4)])) (dVar 6)))])))))) dNx)
def F__law_items : Fn := dDef [false, false, false, false] 7
  (dSeq (dAsg (dSl oSl (dVar 0) (some (dVar 1)) (some (dVar 2))) (setG 4))
    (dSeq (dAsg (dIfX (dBl (dVal (d2 oEq (dVal (dN oLen [(dVar 4)])) (dC (.int 1))))) (dN oLst [(dVal (d2 oIx (dVar 4) (dC (.int 0))))]) (dN oLst [])) (setG 5))
    (dSeq (dIfS (dAnd (dBl (dVal (d2 oGt (dVal (dN oLen [(dVar 4)])) (dC (.int 1))))) (dBl (dVal (d2 oEq (dVar 4) (dVal (d2 oMul (dVal (dN oLst [(dVal (d2 oIx (dVar 4) (dC (.int 0))))])) (dVal (dN oLen [(dVar 4)])))))))) (dExp (dApp (slG 5) (slS 5) (dVal (d2 oAdd (dVal (d2 oIx (dVar 4) (dC (.int 0)))) (dVal (dN oStr [(dVal (dN oLen [(dVar 4)]))])))))) dNx)
    (dSeq (dFor (dRange oRange2 [(dC (.int 1)), (dVal (dN oLen [(dVar 4)]))]) (setG 6) F__law_items_b1)
    (dRet (dVar 5))))))
def F__law_shortest_e1 : S → Rs D :=
  (dVal (dN oTup [(dVal (dN oLen [(dVar 7)])), (dVar 7)]))
def F__law_shortest_b1 : S → Out :=
  (dExp (dApp (slG 6) (slS 6) (dVal (dN oTup [(dVal (d2 oAdd (dVal (dN oLen [(dVar 7)])) (dVal (d2 oIx (dVal (d2B (slG 2) oDget (dVal (dN oTup [(dVar 8), (dVar 5)])))) (dC (.int 0)))))), (dVal (d2 oAdd (dVar 7) (dVal (d2 oIx (dVal (d2B (slG 2) oDget (dVal (dN oTup [(dVar 8), (dVar 5)])))) (dC (.int 1))))))]))))
def F__law_shortest_b2 : S → Out :=
  (dFor (dItA (dCall false F__law_items [.e (dIm (dVar 0)), .e (dIm (dVar 4)), .e (dIm (dVar 8)), .v 2])) (setG 7) F__law_shortest_b1)
def F__law_shortest_b3 : S → Out :=
  (dSeq (dAsg (d2 oAdd (dVar 4) (dVar 3)) (setG 5))
    (dSeq (dAsg (dComp 7 (dItA (dCall false F__law_items [.e (dIm (dVar 0)), .e (dIm (dVar 4)), .e (dIm (dVar 5)), .v 2])) tTrue F__law_shortest_e1) (setG 6))
    (dSeq (dFor (dRange oRange2 [(dVal (d2 oAdd (dVar 4) (dC (.int 1)))), (dVar 5)]) (setG 8) F__law_shortest_b2)
    (dDput (slG 2) (slS 2) (dVal (dN oMinL [(dVar 6)])) (dVal (dN oTup [(dVar 4), (dVar 5)]))))))
def F__law_shortest_b4 : S → Out :=
  (dFor (dRange oRange1 [(dVal (d2 oAdd (dVal (d2 oSub (dVar 1) (dVar 3))) (dC (.int 1))))]) (setG 4) F__law_shortest_b3)
def F__law_shortest : Fn := dDef [false] 9
  (dSeq (dAsg (dN oLen [(dVar 0)]) (setG 1))
    (dSeq (dAsg (fun s => .ok (.ot [] []) s) (setG 2))
    (dSeq (dFor (dRange oRange2 [(dC (.int 1)), (dVal (d2 oAdd (dVar 1) (dC (.int 1))))]) (setG 3) F__law_shortest_b4)
    (dRet (dVal (d2 oIx (dVal (d2B (slG 2) oDget (dVal (dN oTup [(dC (.int 0)), (dVar 1)])))) (dC (.int 1))))))))
def F_law_b1 : S → Out :=
  (dSeq (dAsg (dIm (dCall false F__law_list [.v 1])) (setG 3))
    (dIfS (dNot (dTr (dCall false (F__law_equal 64) [.e (dIm (dCall false F_written [.e (dN oList [(dVar 3)])])), .e (dIm (dCall false F__law_shortest [.e (dIm (dVar 3))]))]))) (dRet (dC (.bl false))) dNx))
def F_law_b2 : S → Out :=
  (dTry (dSeq (dExp (dIm (dCall false F_written [.e (dIm (dVar 4))])))
    (dRet (dC (.bl false)))) [(m_BadTouch, dNx)])
def F_law : Fn := dDef [false] 5
  (dSeq (dAsg (dN oLst [(dCall false F__law_numbers [.e (dIm (dVar 0))]), (dC (.int 0))]) (setG 1))
    (dSeq (dFor (dRange oRange1 [(dC (.int 2))]) (setG 2) F_law_b1)
    (dSeq (dFor (dItA (dVal (dN oLst [(dVal (dN oLst [])), (dVal (d2 oMul (dVal (dN oLst [(dC (.str "p"))])) (dC (.int 61)))), (dVal (dN oLst [(dC (.str "p")), (dC (.str "P"))])), (dVal (dN oLst [(dC (.str "pp"))])), (dVal (dN oLst [(dC (.str ""))])), (dC .non), (dC (.str "pp")), (dVal (dN oLst [(dC (.int 1))]))]))) (setG 4) F_law_b2)
    (dRet (dVal (d2 oEq (dVal (dN oLen [(dCall false F_written [.e (d2 oMul (dVal (dN oLst [(dC (.str "p")), (dC (.str "b"))])) (dC (.int 30)))])])) (dC (.int 6))))))))
end DV
namespace DV
open PySem L2
def step1 (a b : Int) : Int := (a * 48271 + b * 69621 + 12345) % 2147483647
def mixed (a b : Int) : Int := (step1 a b * (step1 a b / 65536 + 3) + b) % 2147483647
theorem e_mixed (a b : Int) : F__law_mixed [.im (.int a), .im (.int b)] = .ret (.int (mixed a b)) [some (.im (.int a)), some (.im (.int b))] := by
  simp (disch := (first | omega | (simp only [List.length_cons, List.length_nil, List.length_append, List.length_map, List.length_replicate, List.length_range, iL_len, sL_len]; omega) | assumption)) only [dDef, dSeq, dAsg, dRet, dExp, dIfS, dFor, dVal, dIm, dVar, dC, d1, d2, d2B, d2C, d1B, dN, evL, dBl, dTr, dTrB, dTru, dNot, dAnd, dOr, dBv, dAndV, dOrV, dIfE, dIfX, dChain, dNx, dApp, dPop, dExt, gSet, gTupF, gsCons, gsNil, setG, setF, slG, slS, dCall, evArgs, putB, dSl, evP, dItA, dRange, dDput, dTry, catchL, o_ok, o_ex, b_ok, b_ex, mkSl, outs, frz, flat1, e_mul, e_fdiv, e_mod, e_add, e_sub, e_lt, e_le, e_gt, e_ge, e_lst, e_tup, e_len, e_len1, e_rg1, e_rg2, e_addl, e_addt, e_adds, e_mull, e_sll, lc_nil, tTrue, freeAt, lt_sz, le_sz, oList, oTuple, Bool.false_and, Bool.true_and, Bool.and_true, Bool.not_true, Bool.not_false, Option.bind_some, Option.map_some, List.length_cons, List.length_nil, List.zip_cons_cons, List.zip_nil_right, List.map_cons, List.map_nil, List.cons_append, List.nil_append, List.getElem?_cons_zero, List.getElem?_cons_succ, List.set_cons_zero, List.set_cons_succ, Nat.reduceAdd, Nat.reduceSub, List.replicate, if_true, if_false, Bool.false_eq_true, Bool.true_eq_false, decide_true, decide_false, Int.reduceAdd, Int.reduceSub, Int.reduceMul, Int.reducePow, Int.reduceNeg, Int.reduceLT, Int.reduceLE, Int.reduceToNat, F__law_mixed, mixed, step1]
abbrev Dr (l : List Int) (at_ : Int) : SV := .ol [.lst (iL l), .int at_]
theorem e_draw0 (l : List Int) (a m : Int) (h : 0 ≤ a) (hm : 0 < m) : ∃ y, F__law_draw [Dr l a, .im (.int m)] = .ret (.int (y % m)) [some (Dr l (a + 1)), some (.im (.int m))] := by
  by_cases c : a < (l.length : Int)
  · obtain ⟨x, _, hx⟩ := iL_at h c
    refine ⟨x, ?_⟩
    simp (disch := (first | omega | (simp only [List.length_cons, List.length_nil, List.length_append, List.length_map, List.length_replicate, List.length_range, iL_len, sL_len]; omega) | assumption)) only [dDef, dSeq, dAsg, dRet, dExp, dIfS, dFor, dVal, dIm, dVar, dC, d1, d2, d2B, d2C, d1B, dN, evL, dBl, dTr, dTrB, dTru, dNot, dAnd, dOr, dBv, dAndV, dOrV, dIfE, dIfX, dChain, dNx, dApp, dPop, dExt, gSet, gTupF, gsCons, gsNil, setG, setF, slG, slS, dCall, evArgs, putB, dSl, evP, dItA, dRange, dDput, dTry, catchL, o_ok, o_ex, b_ok, b_ex, mkSl, outs, frz, flat1, e_mul, e_fdiv, e_mod, e_add, e_sub, e_lt, e_le, e_gt, e_ge, e_lst, e_tup, e_len, e_len1, e_rg1, e_rg2, e_addl, e_addt, e_adds, e_mull, e_sll, lc_nil, tTrue, freeAt, lt_sz, le_sz, oList, oTuple, Bool.false_and, Bool.true_and, Bool.and_true, Bool.not_true, Bool.not_false, Option.bind_some, Option.map_some, List.length_cons, List.length_nil, List.zip_cons_cons, List.zip_nil_right, List.map_cons, List.map_nil, List.cons_append, List.nil_append, List.getElem?_cons_zero, List.getElem?_cons_succ, List.set_cons_zero, List.set_cons_succ, Nat.reduceAdd, Nat.reduceSub, List.replicate, if_true, if_false, Bool.false_eq_true, Bool.true_eq_false, decide_true, decide_false, Int.reduceAdd, Int.reduceSub, Int.reduceMul, Int.reducePow, Int.reduceNeg, Int.reduceLT, Int.reduceLE, Int.reduceToNat, F__law_draw, Dr, x_lst, at_0, at_1, ix_1, l_lst, iL_len, c, hx]
  · by_cases e : 0 < (l.length : Int)
    · obtain ⟨x, _, hx⟩ := iL_at (Int.le_refl 0) e
      refine ⟨mixed (mixed (1 + a + 1009 * x) a) 5 / 7, ?_⟩
      simp (disch := (first | omega | (simp only [List.length_cons, List.length_nil, List.length_append, List.length_map, List.length_replicate, List.length_range, iL_len, sL_len]; omega) | assumption)) only [dDef, dSeq, dAsg, dRet, dExp, dIfS, dFor, dVal, dIm, dVar, dC, d1, d2, d2B, d2C, d1B, dN, evL, dBl, dTr, dTrB, dTru, dNot, dAnd, dOr, dBv, dAndV, dOrV, dIfE, dIfX, dChain, dNx, dApp, dPop, dExt, gSet, gTupF, gsCons, gsNil, setG, setF, slG, slS, dCall, evArgs, putB, dSl, evP, dItA, dRange, dDput, dTry, catchL, o_ok, o_ex, b_ok, b_ex, mkSl, outs, frz, flat1, e_mul, e_fdiv, e_mod, e_add, e_sub, e_lt, e_le, e_gt, e_ge, e_lst, e_tup, e_len, e_len1, e_rg1, e_rg2, e_addl, e_addt, e_adds, e_mull, e_sll, lc_nil, tTrue, freeAt, lt_sz, le_sz, oList, oTuple, Bool.false_and, Bool.true_and, Bool.and_true, Bool.not_true, Bool.not_false, Option.bind_some, Option.map_some, List.length_cons, List.length_nil, List.zip_cons_cons, List.zip_nil_right, List.map_cons, List.map_nil, List.cons_append, List.nil_append, List.getElem?_cons_zero, List.getElem?_cons_succ, List.set_cons_zero, List.set_cons_succ, Nat.reduceAdd, Nat.reduceSub, List.replicate, if_true, if_false, Bool.false_eq_true, Bool.true_eq_false, decide_true, decide_false, Int.reduceAdd, Int.reduceSub, Int.reduceMul, Int.reducePow, Int.reduceNeg, Int.reduceLT, Int.reduceLE, Int.reduceToNat, F__law_draw, Dr, x_lst, at_0, at_1, ix_1, l_lst, iL_len, c, e, hx, e_mixed]
    · refine ⟨mixed (mixed (1 + a) a) 5 / 7, ?_⟩
      simp (disch := (first | omega | (simp only [List.length_cons, List.length_nil, List.length_append, List.length_map, List.length_replicate, List.length_range, iL_len, sL_len]; omega) | assumption)) only [dDef, dSeq, dAsg, dRet, dExp, dIfS, dFor, dVal, dIm, dVar, dC, d1, d2, d2B, d2C, d1B, dN, evL, dBl, dTr, dTrB, dTru, dNot, dAnd, dOr, dBv, dAndV, dOrV, dIfE, dIfX, dChain, dNx, dApp, dPop, dExt, gSet, gTupF, gsCons, gsNil, setG, setF, slG, slS, dCall, evArgs, putB, dSl, evP, dItA, dRange, dDput, dTry, catchL, o_ok, o_ex, b_ok, b_ex, mkSl, outs, frz, flat1, e_mul, e_fdiv, e_mod, e_add, e_sub, e_lt, e_le, e_gt, e_ge, e_lst, e_tup, e_len, e_len1, e_rg1, e_rg2, e_addl, e_addt, e_adds, e_mull, e_sll, lc_nil, tTrue, freeAt, lt_sz, le_sz, oList, oTuple, Bool.false_and, Bool.true_and, Bool.and_true, Bool.not_true, Bool.not_false, Option.bind_some, Option.map_some, List.length_cons, List.length_nil, List.zip_cons_cons, List.zip_nil_right, List.map_cons, List.map_nil, List.cons_append, List.nil_append, List.getElem?_cons_zero, List.getElem?_cons_succ, List.set_cons_zero, List.set_cons_succ, Nat.reduceAdd, Nat.reduceSub, List.replicate, if_true, if_false, Bool.false_eq_true, Bool.true_eq_false, decide_true, decide_false, Int.reduceAdd, Int.reduceSub, Int.reduceMul, Int.reducePow, Int.reduceNeg, Int.reduceLT, Int.reduceLE, Int.reduceToNat, F__law_draw, Dr, x_lst, at_0, at_1, ix_1, l_lst, iL_len, c, e, e_mixed]
theorem e_draw (l : List Int) (a m : Int) (h : 0 ≤ a) (hm : 0 < m) : ∃ r, 0 ≤ r ∧ r < m ∧ F__law_draw [Dr l a, .im (.int m)] = .ret (.int r) [some (Dr l (a + 1)), some (.im (.int m))] := by
  obtain ⟨y, hy⟩ := e_draw0 l a m h hm
  exact ⟨y % m, Int.emod_nonneg _ (by omega), Int.emod_lt_of_pos _ hm, hy⟩
/-- the frame of _law_numbers -/
abbrev Nm (ns l : List Int) (c r k : Option SV) : S := [⟨true, some (.im (.scr ns))⟩, ⟨false, some (.ol (iL l))⟩, ⟨false, c⟩, ⟨false, r⟩, ⟨false, k⟩]
theorem nm_b1 (ns : List Int) (c : Option SV) : ∀ (ds : List D) (l : List Int) (r : Int) (k : Option SV), l.length + ds.length < 16777216 →
    ∃ l' r' k', forL (setG 4) F__law_numbers_b1 ds (Nm ns l c (some (.im (.int r))) k) = .nx (Nm ns l' c (some (.im (.int r'))) k') ∧ l'.length ≤ l.length + ds.length
  | [], l, r, k, h => ⟨l, r, k, rfl, by simp⟩
  | d :: ds, l, r, k, h => by
    simp only [List.length_cons] at h ⊢
    by_cases c1 : 0 < r
    · obtain ⟨l', r', k', e, q⟩ := nm_b1 ns c ds (l ++ [r % 1000000]) (r / 1000000) (some (.im d)) (by simp; omega)
      refine ⟨l', r', k', ?_, by simp at q; omega⟩
      rw [← e]
      simp (disch := (first | omega | (simp only [List.length_cons, List.length_nil, List.length_append, List.length_map, List.length_replicate, List.length_range, iL_len, sL_len]; omega) | assumption)) only [dDef, dSeq, dAsg, dRet, dExp, dIfS, dFor, dVal, dIm, dVar, dC, d1, d2, d2B, d2C, d1B, dN, evL, dBl, dTr, dTrB, dTru, dNot, dAnd, dOr, dBv, dAndV, dOrV, dIfE, dIfX, dChain, dNx, dApp, dPop, dExt, gSet, gTupF, gsCons, gsNil, setG, setF, slG, slS, dCall, evArgs, putB, dSl, evP, dItA, dRange, dDput, dTry, catchL, o_ok, o_ex, b_ok, b_ex, mkSl, outs, frz, flat1, e_mul, e_fdiv, e_mod, e_add, e_sub, e_lt, e_le, e_gt, e_ge, e_lst, e_tup, e_len, e_len1, e_rg1, e_rg2, e_addl, e_addt, e_adds, e_mull, e_sll, lc_nil, tTrue, freeAt, lt_sz, le_sz, oList, oTuple, Bool.false_and, Bool.true_and, Bool.and_true, Bool.not_true, Bool.not_false, Option.bind_some, Option.map_some, List.length_cons, List.length_nil, List.zip_cons_cons, List.zip_nil_right, List.map_cons, List.map_nil, List.cons_append, List.nil_append, List.getElem?_cons_zero, List.getElem?_cons_succ, List.set_cons_zero, List.set_cons_succ, Nat.reduceAdd, Nat.reduceSub, List.replicate, if_true, if_false, Bool.false_eq_true, Bool.true_eq_false, decide_true, decide_false, Int.reduceAdd, Int.reduceSub, Int.reduceMul, Int.reducePow, Int.reduceNeg, Int.reduceLT, Int.reduceLE, Int.reduceToNat, forL, F__law_numbers_b1, Nm, c1, iL_snoc]
    · obtain ⟨l', r', k', e, q⟩ := nm_b1 ns c ds l r (some (.im d)) (by omega)
      refine ⟨l', r', k', ?_, by omega⟩
      rw [← e]
      simp (disch := (first | omega | (simp only [List.length_cons, List.length_nil, List.length_append, List.length_map, List.length_replicate, List.length_range, iL_len, sL_len]; omega) | assumption)) only [dDef, dSeq, dAsg, dRet, dExp, dIfS, dFor, dVal, dIm, dVar, dC, d1, d2, d2B, d2C, d1B, dN, evL, dBl, dTr, dTrB, dTru, dNot, dAnd, dOr, dBv, dAndV, dOrV, dIfE, dIfX, dChain, dNx, dApp, dPop, dExt, gSet, gTupF, gsCons, gsNil, setG, setF, slG, slS, dCall, evArgs, putB, dSl, evP, dItA, dRange, dDput, dTry, catchL, o_ok, o_ex, b_ok, b_ex, mkSl, outs, frz, flat1, e_mul, e_fdiv, e_mod, e_add, e_sub, e_lt, e_le, e_gt, e_ge, e_lst, e_tup, e_len, e_len1, e_rg1, e_rg2, e_addl, e_addt, e_adds, e_mull, e_sll, lc_nil, tTrue, freeAt, lt_sz, le_sz, oList, oTuple, Bool.false_and, Bool.true_and, Bool.and_true, Bool.not_true, Bool.not_false, Option.bind_some, Option.map_some, List.length_cons, List.length_nil, List.zip_cons_cons, List.zip_nil_right, List.map_cons, List.map_nil, List.cons_append, List.nil_append, List.getElem?_cons_zero, List.getElem?_cons_succ, List.set_cons_zero, List.set_cons_succ, Nat.reduceAdd, Nat.reduceSub, List.replicate, if_true, if_false, Bool.false_eq_true, Bool.true_eq_false, decide_true, decide_false, Int.reduceAdd, Int.reduceSub, Int.reduceMul, Int.reducePow, Int.reduceNeg, Int.reduceLT, Int.reduceLE, Int.reduceToNat, forL, F__law_numbers_b1, Nm, c1]
theorem nm_b2 (ns : List Int) (cell : Int) (r : Option SV) : ∀ (n : Nat) (i : Int) (l : List Int) (k : Option SV), l.length + n < 16777216 →
    ∃ l' k', forL (setG 4) F__law_numbers_b2 (rangeD i n) (Nm ns l (some (.im (.int cell))) r k) = .nx (Nm ns l' (some (.im (.int cell))) r k') ∧ l'.length ≤ l.length + n
  | 0, i, l, k, h => ⟨l, k, rfl, by simp⟩
  | n + 1, i, l, k, h => by
    obtain ⟨l', k', e, q⟩ := nm_b2 ns cell r n (i + 1) (l ++ [mixed (mixed (cell % 2147483647) i) (i + 7) % 1000000]) (some (.im (.int i))) (by simp; omega)
    refine ⟨l', k', ?_, by simp at q; omega⟩
    rw [← e]
    simp (disch := (first | omega | (simp only [List.length_cons, List.length_nil, List.length_append, List.length_map, List.length_replicate, List.length_range, iL_len, sL_len]; omega) | assumption)) only [dDef, dSeq, dAsg, dRet, dExp, dIfS, dFor, dVal, dIm, dVar, dC, d1, d2, d2B, d2C, d1B, dN, evL, dBl, dTr, dTrB, dTru, dNot, dAnd, dOr, dBv, dAndV, dOrV, dIfE, dIfX, dChain, dNx, dApp, dPop, dExt, gSet, gTupF, gsCons, gsNil, setG, setF, slG, slS, dCall, evArgs, putB, dSl, evP, dItA, dRange, dDput, dTry, catchL, o_ok, o_ex, b_ok, b_ex, mkSl, outs, frz, flat1, e_mul, e_fdiv, e_mod, e_add, e_sub, e_lt, e_le, e_gt, e_ge, e_lst, e_tup, e_len, e_len1, e_rg1, e_rg2, e_addl, e_addt, e_adds, e_mull, e_sll, lc_nil, tTrue, freeAt, lt_sz, le_sz, oList, oTuple, Bool.false_and, Bool.true_and, Bool.and_true, Bool.not_true, Bool.not_false, Option.bind_some, Option.map_some, List.length_cons, List.length_nil, List.zip_cons_cons, List.zip_nil_right, List.map_cons, List.map_nil, List.cons_append, List.nil_append, List.getElem?_cons_zero, List.getElem?_cons_succ, List.set_cons_zero, List.set_cons_succ, Nat.reduceAdd, Nat.reduceSub, List.replicate, if_true, if_false, Bool.false_eq_true, Bool.true_eq_false, decide_true, decide_false, Int.reduceAdd, Int.reduceSub, Int.reduceMul, Int.reducePow, Int.reduceNeg, Int.reduceLT, Int.reduceLE, Int.reduceToNat, forL, F__law_numbers_b2, Nm, rg_s, e_mixed, iL_snoc]
theorem nm_b3 (ns : List Int) : ∀ (cs : List Int) (l : List Int) (c r k : Option SV), l.length + 60 * cs.length < 16777216 →
    ∃ l' c' r' k', forL (setG 2) F__law_numbers_b3 (cs.map .int) (Nm ns l c r k) = .nx (Nm ns l' c' r' k') ∧ l'.length ≤ l.length + 60 * cs.length
  | [], l, c, r, k, h => ⟨l, c, r, k, rfl, by simp⟩
  | z :: cs, l, c, r, k, h => by
    simp only [List.length_cons] at h ⊢
    by_cases c1 : (1000000000000000000 : Int) ≤ z
    · obtain ⟨l1, r1, k1, e1, q1⟩ := nm_b1 ns (some (.im (.int z))) (rangeD 0 60) l z k (by rw [rangeD_len]; omega)
      rw [rangeD_len] at q1
      obtain ⟨l', c', r', k', e, q⟩ := nm_b3 ns cs l1 (some (.im (.int z))) (some (.im (.int r1))) k1 (by omega)
      refine ⟨l', c', r', k', ?_, by omega⟩
      rw [← e]
      unfold Nm at e1
      simp (disch := (first | omega | (simp only [List.length_cons, List.length_nil, List.length_append, List.length_map, List.length_replicate, List.length_range, iL_len, sL_len]; omega) | assumption)) only [dDef, dSeq, dAsg, dRet, dExp, dIfS, dFor, dVal, dIm, dVar, dC, d1, d2, d2B, d2C, d1B, dN, evL, dBl, dTr, dTrB, dTru, dNot, dAnd, dOr, dBv, dAndV, dOrV, dIfE, dIfX, dChain, dNx, dApp, dPop, dExt, gSet, gTupF, gsCons, gsNil, setG, setF, slG, slS, dCall, evArgs, putB, dSl, evP, dItA, dRange, dDput, dTry, catchL, o_ok, o_ex, b_ok, b_ex, mkSl, outs, frz, flat1, e_mul, e_fdiv, e_mod, e_add, e_sub, e_lt, e_le, e_gt, e_ge, e_lst, e_tup, e_len, e_len1, e_rg1, e_rg2, e_addl, e_addt, e_adds, e_mull, e_sll, lc_nil, tTrue, freeAt, lt_sz, le_sz, oList, oTuple, Bool.false_and, Bool.true_and, Bool.and_true, Bool.not_true, Bool.not_false, Option.bind_some, Option.map_some, List.length_cons, List.length_nil, List.zip_cons_cons, List.zip_nil_right, List.map_cons, List.map_nil, List.cons_append, List.nil_append, List.getElem?_cons_zero, List.getElem?_cons_succ, List.set_cons_zero, List.set_cons_succ, Nat.reduceAdd, Nat.reduceSub, List.replicate, if_true, if_false, Bool.false_eq_true, Bool.true_eq_false, decide_true, decide_false, Int.reduceAdd, Int.reduceSub, Int.reduceMul, Int.reducePow, Int.reduceNeg, Int.reduceLT, Int.reduceLE, Int.reduceToNat, forL, F__law_numbers_b3, Nm, c1, e_pow, e1]
    · obtain ⟨l1, k1, e1, q1⟩ := nm_b2 ns z r 5 0 (l ++ [z % 1000000]) k (by simp; omega)
      obtain ⟨l', c', r', k', e, q⟩ := nm_b3 ns cs l1 (some (.im (.int z))) r k1 (by simp at q1; omega)
      refine ⟨l', c', r', k', ?_, by simp at q1; omega⟩
      rw [← e]
      unfold Nm at e1
      simp (disch := (first | omega | (simp only [List.length_cons, List.length_nil, List.length_append, List.length_map, List.length_replicate, List.length_range, iL_len, sL_len]; omega) | assumption)) only [dDef, dSeq, dAsg, dRet, dExp, dIfS, dFor, dVal, dIm, dVar, dC, d1, d2, d2B, d2C, d1B, dN, evL, dBl, dTr, dTrB, dTru, dNot, dAnd, dOr, dBv, dAndV, dOrV, dIfE, dIfX, dChain, dNx, dApp, dPop, dExt, gSet, gTupF, gsCons, gsNil, setG, setF, slG, slS, dCall, evArgs, putB, dSl, evP, dItA, dRange, dDput, dTry, catchL, o_ok, o_ex, b_ok, b_ex, mkSl, outs, frz, flat1, e_mul, e_fdiv, e_mod, e_add, e_sub, e_lt, e_le, e_gt, e_ge, e_lst, e_tup, e_len, e_len1, e_rg1, e_rg2, e_addl, e_addt, e_adds, e_mull, e_sll, lc_nil, tTrue, freeAt, lt_sz, le_sz, oList, oTuple, Bool.false_and, Bool.true_and, Bool.and_true, Bool.not_true, Bool.not_false, Option.bind_some, Option.map_some, List.length_cons, List.length_nil, List.zip_cons_cons, List.zip_nil_right, List.map_cons, List.map_nil, List.cons_append, List.nil_append, List.getElem?_cons_zero, List.getElem?_cons_succ, List.set_cons_zero, List.set_cons_succ, Nat.reduceAdd, Nat.reduceSub, List.replicate, if_true, if_false, Bool.false_eq_true, Bool.true_eq_false, decide_true, decide_false, Int.reduceAdd, Int.reduceSub, Int.reduceMul, Int.reducePow, Int.reduceNeg, Int.reduceLT, Int.reduceLE, Int.reduceToNat, forL, F__law_numbers_b3, Nm, c1, e_pow, iL_snoc, e1]
theorem e_numbers (ns : List Int) (h : ns.length ≤ 63) : ∃ l, F__law_numbers [.im (.scr ns)] = .ret (.lst (iL l)) [some (.im (.scr ns))] := by
  obtain ⟨l', c', r', k', e, q⟩ := nm_b3 ns ns [] none none none (by simp; omega)
  unfold Nm at e
  refine ⟨l', ?_⟩
  have e' : iL [] = [] := rfl
  rw [e'] at e
  simp (disch := (first | omega | (simp only [List.length_cons, List.length_nil, List.length_append, List.length_map, List.length_replicate, List.length_range, iL_len, sL_len]; omega) | assumption)) only [dDef, dSeq, dAsg, dRet, dExp, dIfS, dFor, dVal, dIm, dVar, dC, d1, d2, d2B, d2C, d1B, dN, evL, dBl, dTr, dTrB, dTru, dNot, dAnd, dOr, dBv, dAndV, dOrV, dIfE, dIfX, dChain, dNx, dApp, dPop, dExt, gSet, gTupF, gsCons, gsNil, setG, setF, slG, slS, dCall, evArgs, putB, dSl, evP, dItA, dRange, dDput, dTry, catchL, o_ok, o_ex, b_ok, b_ex, mkSl, outs, frz, flat1, e_mul, e_fdiv, e_mod, e_add, e_sub, e_lt, e_le, e_gt, e_ge, e_lst, e_tup, e_len, e_len1, e_rg1, e_rg2, e_addl, e_addt, e_adds, e_mull, e_sll, lc_nil, tTrue, freeAt, lt_sz, le_sz, oList, oTuple, Bool.false_and, Bool.true_and, Bool.and_true, Bool.not_true, Bool.not_false, Option.bind_some, Option.map_some, List.length_cons, List.length_nil, List.zip_cons_cons, List.zip_nil_right, List.map_cons, List.map_nil, List.cons_append, List.nil_append, List.getElem?_cons_zero, List.getElem?_cons_succ, List.set_cons_zero, List.set_cons_succ, Nat.reduceAdd, Nat.reduceSub, List.replicate, if_true, if_false, Bool.false_eq_true, Bool.true_eq_false, decide_true, decide_false, Int.reduceAdd, Int.reduceSub, Int.reduceMul, Int.reducePow, Int.reduceNeg, Int.reduceLT, Int.reduceLE, Int.reduceToNat, F__law_numbers, e]
abbrev Lst (l : List Int) (a : Int) (w : SV) (fd t p k : Option SV) : S := [⟨true, some (Dr l a)⟩, ⟨false, some w⟩, ⟨false, fd⟩, ⟨false, t⟩, ⟨false, p⟩, ⟨false, k⟩]
theorem ll_e1 (l : List Int) (a : Int) (fw : List Str) (w : SV) (fd t p k : Option SV) (ha : 0 ≤ a) (hf : 0 < fw.length) (hw : w = .ol (sL fw) ∨ w = .im (.lst (sL fw))) :
    ∃ x, x ∈ fw ∧ F__law_list_e1 (Lst l a w fd t p k) = .ok (.str x) (Lst l (a + 1) (.im (.lst (sL fw))) fd t p k) := by
  obtain ⟨r, r0, r1, er⟩ := e_draw l a fw.length ha (by omega)
  obtain ⟨x, hx, ex⟩ := sL_at r0 r1
  refine ⟨x, hx, ?_⟩
  rcases hw with rfl | rfl
  · simp (disch := (first | omega | (simp only [List.length_cons, List.length_nil, List.length_append, List.length_map, List.length_replicate, List.length_range, iL_len, sL_len]; omega) | assumption)) only [dDef, dSeq, dAsg, dRet, dExp, dIfS, dFor, dVal, dIm, dVar, dC, d1, d2, d2B, d2C, d1B, dN, evL, dBl, dTr, dTrB, dTru, dNot, dAnd, dOr, dBv, dAndV, dOrV, dIfE, dIfX, dChain, dNx, dApp, dPop, dExt, gSet, gTupF, gsCons, gsNil, setG, setF, slG, slS, dCall, evArgs, putB, dSl, evP, dItA, dRange, dDput, dTry, catchL, o_ok, o_ex, b_ok, b_ex, mkSl, outs, frz, flat1, e_mul, e_fdiv, e_mod, e_add, e_sub, e_lt, e_le, e_gt, e_ge, e_lst, e_tup, e_len, e_len1, e_rg1, e_rg2, e_addl, e_addt, e_adds, e_mull, e_sll, lc_nil, tTrue, freeAt, lt_sz, le_sz, oList, oTuple, Bool.false_and, Bool.true_and, Bool.and_true, Bool.not_true, Bool.not_false, Option.bind_some, Option.map_some, List.length_cons, List.length_nil, List.zip_cons_cons, List.zip_nil_right, List.map_cons, List.map_nil, List.cons_append, List.nil_append, List.getElem?_cons_zero, List.getElem?_cons_succ, List.set_cons_zero, List.set_cons_succ, Nat.reduceAdd, Nat.reduceSub, List.replicate, if_true, if_false, Bool.false_eq_true, Bool.true_eq_false, decide_true, decide_false, Int.reduceAdd, Int.reduceSub, Int.reduceMul, Int.reducePow, Int.reduceNeg, Int.reduceLT, Int.reduceLE, Int.reduceToNat, F__law_list_e1, Lst, x_lst, l_lst, sL_len, er, ex]
  · simp (disch := (first | omega | (simp only [List.length_cons, List.length_nil, List.length_append, List.length_map, List.length_replicate, List.length_range, iL_len, sL_len]; omega) | assumption)) only [dDef, dSeq, dAsg, dRet, dExp, dIfS, dFor, dVal, dIm, dVar, dC, d1, d2, d2B, d2C, d1B, dN, evL, dBl, dTr, dTrB, dTru, dNot, dAnd, dOr, dBv, dAndV, dOrV, dIfE, dIfX, dChain, dNx, dApp, dPop, dExt, gSet, gTupF, gsCons, gsNil, setG, setF, slG, slS, dCall, evArgs, putB, dSl, evP, dItA, dRange, dDput, dTry, catchL, o_ok, o_ex, b_ok, b_ex, mkSl, outs, frz, flat1, e_mul, e_fdiv, e_mod, e_add, e_sub, e_lt, e_le, e_gt, e_ge, e_lst, e_tup, e_len, e_len1, e_rg1, e_rg2, e_addl, e_addt, e_adds, e_mull, e_sll, lc_nil, tTrue, freeAt, lt_sz, le_sz, oList, oTuple, Bool.false_and, Bool.true_and, Bool.and_true, Bool.not_true, Bool.not_false, Option.bind_some, Option.map_some, List.length_cons, List.length_nil, List.zip_cons_cons, List.zip_nil_right, List.map_cons, List.map_nil, List.cons_append, List.nil_append, List.getElem?_cons_zero, List.getElem?_cons_succ, List.set_cons_zero, List.set_cons_succ, Nat.reduceAdd, Nat.reduceSub, List.replicate, if_true, if_false, Bool.false_eq_true, Bool.true_eq_false, decide_true, decide_false, Int.reduceAdd, Int.reduceSub, Int.reduceMul, Int.reducePow, Int.reduceNeg, Int.reduceLT, Int.reduceLE, Int.reduceToNat, F__law_list_e1, Lst, x_lst, l_lst, sL_len, er, ex]
theorem ll_lc (l : List Int) (fw : List Str) (fd t p : Option SV) (hf : 0 < fw.length) : ∀ (ds : List D) (a : Int) (w : SV), 0 ≤ a → (w = .ol (sL fw) ∨ w = .im (.lst (sL fw))) →
    ∃ xs a' w', lcL 5 tTrue F__law_list_e1 ds (Lst l a w fd t p none) = .ok (sL xs) (Lst l a' w' fd t p none) ∧ 0 ≤ a' ∧ (w' = .ol (sL fw) ∨ w' = .im (.lst (sL fw))) ∧ xs.length = ds.length ∧ ∀ x ∈ xs, x ∈ fw
  | [], a, w, ha, hw => ⟨[], a, w, rfl, ha, hw, rfl, by simp⟩
  | d :: ds, a, w, ha, hw => by
    obtain ⟨x, hx, ex⟩ := ll_e1 l a fw w fd t p (some (.im d)) ha hf hw
    obtain ⟨xs, a', w', e, ha', hw', hl, hm⟩ := ll_lc l fw fd t p hf ds (a + 1) (.im (.lst (sL fw))) (by omega) (.inr rfl)
    refine ⟨x :: xs, a', w', ?_, ha', hw', by simp [hl], by simpa using ⟨hx, hm⟩⟩
    unfold Lst at ex e
    have es : sL (x :: xs) = .str x :: sL xs := rfl
    rw [es]
    simp (disch := (first | omega | (simp only [List.length_cons, List.length_nil, List.length_append, List.length_map, List.length_replicate, List.length_range, iL_len, sL_len]; omega) | assumption)) only [dDef, dSeq, dAsg, dRet, dExp, dIfS, dFor, dVal, dIm, dVar, dC, d1, d2, d2B, d2C, d1B, dN, evL, dBl, dTr, dTrB, dTru, dNot, dAnd, dOr, dBv, dAndV, dOrV, dIfE, dIfX, dChain, dNx, dApp, dPop, dExt, gSet, gTupF, gsCons, gsNil, setG, setF, slG, slS, dCall, evArgs, putB, dSl, evP, dItA, dRange, dDput, dTry, catchL, o_ok, o_ex, b_ok, b_ex, mkSl, outs, frz, flat1, e_mul, e_fdiv, e_mod, e_add, e_sub, e_lt, e_le, e_gt, e_ge, e_lst, e_tup, e_len, e_len1, e_rg1, e_rg2, e_addl, e_addt, e_adds, e_mull, e_sll, lc_nil, tTrue, freeAt, lt_sz, le_sz, oList, oTuple, Bool.false_and, Bool.true_and, Bool.and_true, Bool.not_true, Bool.not_false, Option.bind_some, Option.map_some, List.length_cons, List.length_nil, List.zip_cons_cons, List.zip_nil_right, List.map_cons, List.map_nil, List.cons_append, List.nil_append, List.getElem?_cons_zero, List.getElem?_cons_succ, List.set_cons_zero, List.set_cons_succ, Nat.reduceAdd, Nat.reduceSub, List.replicate, if_true, if_false, Bool.false_eq_true, Bool.true_eq_false, decide_true, decide_false, Int.reduceAdd, Int.reduceSub, Int.reduceMul, Int.reducePow, Int.reduceNeg, Int.reduceLT, Int.reduceLE, Int.reduceToNat, lcL, Lst, tTrue, ex, e]
theorem ll_b1 (l : List Int) (fw : List Str) (hf : 0 < fw.length) (t p : Option SV) (xs : List Str) (a : Int) (w : SV) (d : D) (ha : 0 ≤ a) (hw : w = .ol (sL fw) ∨ w = .im (.lst (sL fw))) (hx : xs.length ≤ 1000) (hm : ∀ x ∈ xs, x ∈ fw) :
    ∃ xs' a' w' p', F__law_list_b1 (Lst l a w (some (.ol (sL xs))) (some (.im d)) p none) = .nx (Lst l a' w' (some (.ol (sL xs'))) (some (.im d)) p' none) ∧ 0 ≤ a' ∧ (w' = .ol (sL fw) ∨ w' = .im (.lst (sL fw))) ∧ xs'.length ≤ xs.length + 12 ∧ 0 < xs'.length ∧ ∀ x ∈ xs', x ∈ fw := by
  obtain ⟨r1, h1, h2, e1⟩ := e_draw l a 3 ha (by omega)
  obtain ⟨ys, a2, w2, e2, ha2, hw2, hl2, hm2⟩ := ll_lc l fw (some (.ol (sL xs))) (some (.im d)) p hf (rangeD 0 (1 + r1).toNat) (a + 1) w (by omega) hw
  rw [rangeD_len] at hl2
  obtain ⟨r3, h5, h6, e3⟩ := e_draw l a2 4 ha2 (by omega)
  obtain ⟨k0, ek0⟩ : ∃ k0, k0 = (1 + r3).toNat := ⟨_, rfl⟩
  have b1 : k0 ≤ 4 := by omega
  have b2 : 1 ≤ k0 := by omega
  have b3 : ys.length ≤ 3 := by omega
  have b4 : 1 ≤ ys.length := by omega
  have hk : (sL ys).length * (1 + r3).toNat ≤ 16777216 := by
    rw [sL_len, ← ek0]
    have := Nat.mul_le_mul b3 b1
    omega
  have hk3 : ((List.replicate k0 ys).flatten).length = k0 * ys.length := by simp
  have hk2 : k0 * ys.length ≤ 12 := Nat.mul_le_mul b1 b3
  have hk4 : 1 ≤ k0 * ys.length := Nat.mul_le_mul b2 b4
  rw [← hk3] at hk2 hk4
  have hm3 : ∀ x ∈ (List.replicate k0 ys).flatten, x ∈ fw := fun x hx => by
    obtain ⟨z, hz, hx⟩ := List.mem_flatten.mp hx
    rw [List.eq_of_mem_replicate hz] at hx
    exact hm2 x hx
  refine ⟨xs ++ (List.replicate k0 ys).flatten, a2 + 1, w2, some (.im (.lst (sL ys))), ?_, by omega, hw2, by simp only [List.length_append]; omega, by simp only [List.length_append]; omega, fun x hx => (List.mem_append.mp hx).elim (hm x) (hm3 x)⟩
  have hz : (sL xs).length + (sL (List.replicate k0 ys).flatten).length ≤ 16777216 := by rw [sL_len, sL_len]; omega
  simp (disch := (first | omega | (simp only [List.length_cons, List.length_nil, List.length_append, List.length_map, List.length_replicate, List.length_range, iL_len, sL_len]; omega) | assumption)) only [dDef, dSeq, dAsg, dRet, dExp, dIfS, dFor, dVal, dIm, dVar, dC, d1, d2, d2B, d2C, d1B, dN, evL, dBl, dTr, dTrB, dTru, dNot, dAnd, dOr, dBv, dAndV, dOrV, dIfE, dIfX, dChain, dNx, dApp, dPop, dExt, gSet, gTupF, gsCons, gsNil, setG, setF, slG, slS, dCall, evArgs, putB, dSl, evP, dItA, dRange, dDput, dTry, catchL, o_ok, o_ex, b_ok, b_ex, mkSl, outs, frz, flat1, e_mul, e_fdiv, e_mod, e_add, e_sub, e_lt, e_le, e_gt, e_ge, e_lst, e_tup, e_len, e_len1, e_rg1, e_rg2, e_addl, e_addt, e_adds, e_mull, e_sll, lc_nil, tTrue, freeAt, lt_sz, le_sz, oList, oTuple, Bool.false_and, Bool.true_and, Bool.and_true, Bool.not_true, Bool.not_false, Option.bind_some, Option.map_some, List.length_cons, List.length_nil, List.zip_cons_cons, List.zip_nil_right, List.map_cons, List.map_nil, List.cons_append, List.nil_append, List.getElem?_cons_zero, List.getElem?_cons_succ, List.set_cons_zero, List.set_cons_succ, Nat.reduceAdd, Nat.reduceSub, List.replicate, if_true, if_false, Bool.false_eq_true, Bool.true_eq_false, decide_true, decide_false, Int.reduceAdd, Int.reduceSub, Int.reduceMul, Int.reducePow, Int.reduceNeg, Int.reduceLT, Int.reduceLE, Int.reduceToNat, F__law_list_b1, e1, dComp, e2, e3, sL_rep, sL_app, ek0]
  rw [ek0] at hz
  simp (disch := (first | omega | (simp only [List.length_cons, List.length_nil, List.length_append, List.length_map, List.length_replicate, List.length_range, iL_len, sL_len]; omega) | assumption)) only [dDef, dSeq, dAsg, dRet, dExp, dIfS, dFor, dVal, dIm, dVar, dC, d1, d2, d2B, d2C, d1B, dN, evL, dBl, dTr, dTrB, dTru, dNot, dAnd, dOr, dBv, dAndV, dOrV, dIfE, dIfX, dChain, dNx, dApp, dPop, dExt, gSet, gTupF, gsCons, gsNil, setG, setF, slG, slS, dCall, evArgs, putB, dSl, evP, dItA, dRange, dDput, dTry, catchL, o_ok, o_ex, b_ok, b_ex, mkSl, outs, frz, flat1, e_mul, e_fdiv, e_mod, e_add, e_sub, e_lt, e_le, e_gt, e_ge, e_lst, e_tup, e_len, e_len1, e_rg1, e_rg2, e_addl, e_addt, e_adds, e_mull, e_sll, lc_nil, tTrue, freeAt, lt_sz, le_sz, oList, oTuple, Bool.false_and, Bool.true_and, Bool.and_true, Bool.not_true, Bool.not_false, Option.bind_some, Option.map_some, List.length_cons, List.length_nil, List.zip_cons_cons, List.zip_nil_right, List.map_cons, List.map_nil, List.cons_append, List.nil_append, List.getElem?_cons_zero, List.getElem?_cons_succ, List.set_cons_zero, List.set_cons_succ, Nat.reduceAdd, Nat.reduceSub, List.replicate, if_true, if_false, Bool.false_eq_true, Bool.true_eq_false, decide_true, decide_false, Int.reduceAdd, Int.reduceSub, Int.reduceMul, Int.reducePow, Int.reduceNeg, Int.reduceLT, Int.reduceLE, Int.reduceToNat, hz, sL_app]
theorem ll_loop (l : List Int) (fw : List Str) (hf : 0 < fw.length) : ∀ (n : Nat) (i : Int) (xs : List Str) (a : Int) (w : SV) (t p : Option SV), 0 ≤ a → (w = .ol (sL fw) ∨ w = .im (.lst (sL fw))) → xs.length + 12 * n ≤ 1000 → (∀ x ∈ xs, x ∈ fw) →
    ∃ xs' a' w' t' p', forL (setG 3) F__law_list_b1 (rangeD i n) (Lst l a w (some (.ol (sL xs))) t p none) = .nx (Lst l a' w' (some (.ol (sL xs'))) t' p' none) ∧ 0 ≤ a' ∧ xs'.length ≤ xs.length + 12 * n ∧ (0 < n + xs.length → 0 < xs'.length) ∧ ∀ x ∈ xs', x ∈ fw
  | 0, i, xs, a, w, t, p, ha, hw, hx, hm => ⟨xs, a, w, t, p, rfl, ha, by omega, by omega, hm⟩
  | n + 1, i, xs, a, w, t, p, ha, hw, hx, hm => by
    obtain ⟨x1, a1, w1, p1, e1, ha1, hw1, hl1, hp1, hm1⟩ := ll_b1 l fw hf t p xs a w (.int i) ha hw (by omega) hm
    obtain ⟨x2, a2, w2, t2, p2, e2, ha2, hl2, hp2, hm2⟩ := ll_loop l fw hf n (i + 1) x1 a1 w1 (some (.im (.int i))) p1 ha1 hw1 (by omega) hm1
    refine ⟨x2, a2, w2, t2, p2, ?_, ha2, by omega, fun _ => hp2 (by omega), hm2⟩
    rw [← e2]
    simp (disch := (first | omega | (simp only [List.length_cons, List.length_nil, List.length_append, List.length_map, List.length_replicate, List.length_range, iL_len, sL_len]; omega) | assumption)) only [dDef, dSeq, dAsg, dRet, dExp, dIfS, dFor, dVal, dIm, dVar, dC, d1, d2, d2B, d2C, d1B, dN, evL, dBl, dTr, dTrB, dTru, dNot, dAnd, dOr, dBv, dAndV, dOrV, dIfE, dIfX, dChain, dNx, dApp, dPop, dExt, gSet, gTupF, gsCons, gsNil, setG, setF, slG, slS, dCall, evArgs, putB, dSl, evP, dItA, dRange, dDput, dTry, catchL, o_ok, o_ex, b_ok, b_ex, mkSl, outs, frz, flat1, e_mul, e_fdiv, e_mod, e_add, e_sub, e_lt, e_le, e_gt, e_ge, e_lst, e_tup, e_len, e_len1, e_rg1, e_rg2, e_addl, e_addt, e_adds, e_mull, e_sll, lc_nil, tTrue, freeAt, lt_sz, le_sz, oList, oTuple, Bool.false_and, Bool.true_and, Bool.and_true, Bool.not_true, Bool.not_false, Option.bind_some, Option.map_some, List.length_cons, List.length_nil, List.zip_cons_cons, List.zip_nil_right, List.map_cons, List.map_nil, List.cons_append, List.nil_append, List.getElem?_cons_zero, List.getElem?_cons_succ, List.set_cons_zero, List.set_cons_succ, Nat.reduceAdd, Nat.reduceSub, List.replicate, if_true, if_false, Bool.false_eq_true, Bool.true_eq_false, decide_true, decide_false, Int.reduceAdd, Int.reduceSub, Int.reduceMul, Int.reducePow, Int.reduceNeg, Int.reduceLT, Int.reduceLE, Int.reduceToNat, forL, rg_s, e1]
theorem e_list (l : List Int) (a : Int) (ha : 0 ≤ a) : ∃ xs a', F__law_list [Dr l a] = .ret (.lst (sL xs)) [some (Dr l a')] ∧ 0 ≤ a' ∧ 0 < xs.length ∧ xs.length ≤ 9 ∧ ∀ x ∈ xs, x ∈ (["p", "b", "s"] : List Str) := by
  obtain ⟨r1, h1, h2, e1⟩ := e_draw l a 3 ha (by omega)
  obtain ⟨k, hk⟩ := Int.eq_ofNat_of_zero_le (show (0 : Int) ≤ 1 + r1 by omega)
  obtain ⟨fw, hfw⟩ : ∃ fw, fw = (["p", "b", "s"] : List Str).take k := ⟨_, rfl⟩
  have hcut : cutD [D.str "p", D.str "b", D.str "s"] none (some (1 + r1)) = sL fw := by
    rw [hk]
    show cutD (sL ["p", "b", "s"]) none (some (k : Int)) = _
    rw [cut_to, hfw]
    unfold sL
    rw [List.map_take]
  have hfl : 0 < fw.length := by rw [hfw, List.length_take]; simp; omega
  obtain ⟨r2, h3, h4, e2⟩ := e_draw l (a + 1) 3 (by omega) (by omega)
  obtain ⟨xs, a', w', t', p', e3, ha', hl, hp, hm⟩ := ll_loop l fw hfl (1 + r2).toNat 0 [] (a + 1 + 1) (.ol (sL fw)) none none (by omega) (.inl rfl) (by simp; omega) (by simp)
  have e0 : sL [] = [] := rfl
  rw [e0] at e3
  have hc9 : cutD (sL xs) none (some 9) = sL (xs.take 9) := by
    rw [show (9 : Int) = ((9 : Nat) : Int) from rfl, cut_to]
    unfold sL
    rw [List.map_take]
  have hx0 : 0 < xs.length := hp (by simp; omega)
  refine ⟨xs.take 9, a', ?_, ha', by rw [List.length_take]; omega, by rw [List.length_take]; omega, fun x hx => ?_⟩
  · simp (disch := (first | omega | (simp only [List.length_cons, List.length_nil, List.length_append, List.length_map, List.length_replicate, List.length_range, iL_len, sL_len]; omega) | assumption)) only [dDef, dSeq, dAsg, dRet, dExp, dIfS, dFor, dVal, dIm, dVar, dC, d1, d2, d2B, d2C, d1B, dN, evL, dBl, dTr, dTrB, dTru, dNot, dAnd, dOr, dBv, dAndV, dOrV, dIfE, dIfX, dChain, dNx, dApp, dPop, dExt, gSet, gTupF, gsCons, gsNil, setG, setF, slG, slS, dCall, evArgs, putB, dSl, evP, dItA, dRange, dDput, dTry, catchL, o_ok, o_ex, b_ok, b_ex, mkSl, outs, frz, flat1, e_mul, e_fdiv, e_mod, e_add, e_sub, e_lt, e_le, e_gt, e_ge, e_lst, e_tup, e_len, e_len1, e_rg1, e_rg2, e_addl, e_addt, e_adds, e_mull, e_sll, lc_nil, tTrue, freeAt, lt_sz, le_sz, oList, oTuple, Bool.false_and, Bool.true_and, Bool.and_true, Bool.not_true, Bool.not_false, Option.bind_some, Option.map_some, List.length_cons, List.length_nil, List.zip_cons_cons, List.zip_nil_right, List.map_cons, List.map_nil, List.cons_append, List.nil_append, List.getElem?_cons_zero, List.getElem?_cons_succ, List.set_cons_zero, List.set_cons_succ, Nat.reduceAdd, Nat.reduceSub, List.replicate, if_true, if_false, Bool.false_eq_true, Bool.true_eq_false, decide_true, decide_false, Int.reduceAdd, Int.reduceSub, Int.reduceMul, Int.reducePow, Int.reduceNeg, Int.reduceLT, Int.reduceLE, Int.reduceToNat, F__law_list, e1, hcut, e2, e3, hc9]
  · have := hm x (List.mem_of_mem_take hx)
    rw [hfw] at this
    exact List.mem_of_mem_take this
end DV
namespace DV
open PySem L2
/-! ### the order of texts: by length, then by signs -/
def ltT (a b : Str) : Bool := if a.length = b.length then decide (a.cps.toList < b.cps.toList) else decide (a.length < b.length)
theorem str_eq {a b : Str} (h : a.cps.toList = b.cps.toList) : a = b := by
  obtain ⟨x⟩ := a
  obtain ⟨y⟩ := b
  have e : x = y := Array.toList_inj.mp h
  subst e
  rfl
theorem ltT_irr (a : Str) : ltT a a = false := by
  unfold ltT
  rw [if_pos rfl, decide_eq_false_iff_not]
  exact List.lt_irrefl _
theorem ltT_tr {a b c : Str} (h1 : ltT a b = true) (h2 : ltT b c = true) : ltT a c = true := by
  unfold ltT at *
  split at h1 <;> split at h2
  · rename_i e1 e2
    rw [if_pos (e1.trans e2)]
    simp only [decide_eq_true_eq] at *
    exact List.lt_trans h1 h2
  · rename_i e1 e2
    simp only [decide_eq_true_eq] at *
    rw [if_neg (by omega)]
    simp only [decide_eq_true_eq]
    omega
  · rename_i e1 e2
    simp only [decide_eq_true_eq] at *
    rw [if_neg (by omega)]
    simp only [decide_eq_true_eq]
    omega
  · rename_i e1 e2
    simp only [decide_eq_true_eq] at *
    rw [if_neg (by omega)]
    simp only [decide_eq_true_eq]
    omega
theorem ltT_an {a b : Str} (h1 : ltT a b = false) (h2 : ltT b a = false) : a = b := by
  unfold ltT at *
  by_cases e : a.length = b.length
  · rw [if_pos e] at h1
    rw [if_pos e.symm] at h2
    simp only [decide_eq_false_iff_not] at *
    exact str_eq (List.le_antisymm (as := a.cps.toList) h2 h1)
  · rw [if_neg e] at h1
    rw [if_neg (Ne.symm e)] at h2
    simp only [decide_eq_false_iff_not] at *
    omega
theorem ltT_neg {a b c : Str} (h1 : ltT b a = false) (h2 : ltT c b = false) : ltT c a = false := by
  cases e : ltT c a with
  | false => rfl
  | true =>
    cases e2 : ltT b c with
    | true => rw [ltT_tr e2 e] at h1; cases h1
    | false =>
      have := ltT_an e2 h2
      subst this
      rw [e] at h1; cases h1
/-- the least of what P holds of -/
def Least (P : Str → Prop) (t : Str) : Prop := P t ∧ ∀ u, P u → ltT u t = false
theorem Least.the {P : Str → Prop} {t u : Str} (h : Least P t) (k : Least P u) : t = u := ltT_an (k.2 t h.1) (h.2 u k.1)
def minL (x : Str) (xs : List Str) : Str := xs.foldl (fun a y => if ltT y a = true then y else a) x
theorem minL_least : ∀ (xs : List Str) (x : Str), Least (· ∈ x :: xs) (minL x xs)
  | [], x => ⟨by simp [minL], fun u hu => by simp at hu; subst hu; exact ltT_irr _⟩
  | y :: ys, x => by
    have hd : minL x (y :: ys) = minL (if ltT y x = true then y else x) ys := rfl
    rw [hd]
    by_cases h : ltT y x = true
    · rw [if_pos h]
      obtain ⟨h1, h2⟩ := minL_least ys y
      refine ⟨List.mem_cons_of_mem _ h1, fun u hu => ?_⟩
      rcases List.mem_cons.mp hu with rfl | hu
      · refine ltT_neg (h2 y (by simp)) ?_
        cases e : ltT u y with
        | false => rfl
        | true => have := ltT_tr h e; rw [ltT_irr] at this; cases this
      · exact h2 u hu
    · rw [if_neg h]
      obtain ⟨h1, h2⟩ := minL_least ys x
      refine ⟨?_, fun u hu => ?_⟩
      · rcases List.mem_cons.mp h1 with e | e
        · rw [e]; simp
        · exact List.mem_cons_of_mem _ (List.mem_cons_of_mem _ e)
      · rcases List.mem_cons.mp hu with rfl | hu
        · exact h2 u (by simp)
        · rcases List.mem_cons.mp hu with rfl | hu
          · exact ltT_neg (h2 x (by simp)) (by simpa using h)
          · exact h2 u (List.mem_cons_of_mem _ hu)

/-! ### the shortest texts -/
def ns (n : Nat) : Str := toString (n : Int)
/-- t is written for the first m letters, B for what is shorter -/
inductive Item (B : List Str → Str) (cs : List Str) : Str → Nat → Prop
  | one {c : Str} : cs[0]? = some c → Item B cs c 1
  | run {c : Str} {m : Nat} : cs[0]? = some c → 2 ≤ m → m ≤ cs.length → cs.take m = List.replicate m c → Item B cs (c ++ ns m) m
  | grp {s k : Nat} : 2 ≤ s → 2 ≤ k → k * s ≤ cs.length → cs.take (k * s) = (List.replicate k (cs.take s)).flatten → Item B cs ("(" ++ B (cs.take s) ++ ")" ++ ns k) (k * s)
theorem Item.pos {B : List Str → Str} {cs : List Str} {t : Str} {m : Nat} (h : Item B cs t m) : 1 ≤ m ∧ m ≤ cs.length := by
  cases h with
  | one h => exact ⟨Nat.le_refl _, by have := (List.getElem?_eq_some_iff.mp h).1; omega⟩
  | run _ h1 h2 _ => exact ⟨by omega, h2⟩
  | grp h1 h2 h3 _ => exact ⟨Nat.le_trans (by omega) (Nat.mul_le_mul h2 h1), h3⟩
def whole (B : List Str → Str) (cs : List Str) (t : Str) (m : Nat) : Str := if m = cs.length then t else t ++ B (cs.drop m)
def Cand (B : List Str → Str) (cs : List Str) (u : Str) : Prop := ∃ t m, Item B cs t m ∧ u = whole B cs t m
def itemsL (B : List Str → Str) : List Str → List (Str × Nat)
  | [] => []
  | c :: r => [(c, 1)] ++ ((List.range (r.length + 2)).filter fun m => decide (2 ≤ m ∧ m ≤ (c :: r).length ∧ (c :: r).take m = List.replicate m c)).map (fun m => (c ++ ns m, m)) ++
    (List.range (r.length + 2)).flatMap fun s => ((List.range (r.length + 2)).filter fun k => decide (2 ≤ s ∧ 2 ≤ k ∧ k * s ≤ (c :: r).length ∧ (c :: r).take (k * s) = (List.replicate k ((c :: r).take s)).flatten)).map fun k => ("(" ++ B ((c :: r).take s) ++ ")" ++ ns k, k * s)
theorem mem_itemsL {B : List Str → Str} {cs : List Str} {t : Str} {m : Nat} : (t, m) ∈ itemsL B cs ↔ Item B cs t m := by
  cases cs with
  | nil =>
    simp only [itemsL]
    refine ⟨fun h => by simp at h, fun h => ?_⟩
    have := h.pos
    simp at this
    omega
  | cons c r =>
    simp only [itemsL, List.mem_append, List.mem_map, List.mem_filter, List.mem_range, List.mem_flatMap, decide_eq_true_eq, List.mem_singleton, Prod.mk.injEq]
    constructor
    · rintro ((⟨rfl, rfl⟩ | ⟨k, ⟨_, h1, h2, h3⟩, rfl, rfl⟩) | ⟨s, _, k, ⟨_, h1, h2, h3, h4⟩, rfl, rfl⟩)
      · exact .one rfl
      · exact .run rfl h1 h2 h3
      · exact .grp h1 h2 h3 h4
    · intro h
      cases h with
      | one h => simp at h; exact .inl (.inl ⟨h.symm, rfl⟩)
      | run h h1 h2 h3 =>
        simp at h
        subst h
        exact .inl (.inr ⟨_, ⟨by simp at h2; omega, h1, h2, h3⟩, rfl, rfl⟩)
      | grp h1 h2 h3 h4 =>
        rename_i s k
        have a1 : k ≤ k * s := Nat.le_mul_of_pos_right k (by omega)
        have a2 : s ≤ k * s := Nat.le_mul_of_pos_left s (by omega)
        simp only [List.length_cons] at h3
        exact .inr ⟨s, by omega, k, ⟨by omega, h1, h2, by simpa using h3, h4⟩, rfl, rfl⟩
def Bn : Nat → List Str → Str
  | 0, _ => Str.empty
  | n + 1, cs => match (itemsL (Bn n) cs).map fun p => whole (Bn n) cs p.1 p.2 with
    | [] => Str.empty
    | x :: xs => minL x xs
theorem Item.congr {B B' : List Str → Str} {cs : List Str} (h : ∀ ds : List Str, ds.length < cs.length → B ds = B' ds) {t : Str} {m : Nat} (i : Item B cs t m) : Item B' cs t m := by
  cases i with
  | one e => exact .one e
  | run e h1 h2 h3 => exact .run e h1 h2 h3
  | grp h1 h2 h3 h4 =>
    rename_i s k
    have a2 : 2 * s ≤ k * s := Nat.mul_le_mul_right s h2
    rw [h (cs.take s) (by rw [List.length_take]; omega)]
    exact .grp h1 h2 h3 h4
theorem Cand.congr {B B' : List Str → Str} {cs : List Str} (h : ∀ ds : List Str, ds.length < cs.length → B ds = B' ds) {u : Str} (i : Cand B cs u) : Cand B' cs u := by
  obtain ⟨t, m, i, rfl⟩ := i
  refine ⟨t, m, i.congr h, ?_⟩
  unfold whole
  have := i.pos
  split
  · rfl
  · rw [h (cs.drop m) (by rw [List.length_drop]; omega)]
theorem Bn_least (n : Nat) (cs : List Str) (hc : cs ≠ []) : Least (Cand (Bn n) cs) (Bn (n + 1) cs) := by
  have key : ∀ u, u ∈ ((itemsL (Bn n) cs).map fun p => whole (Bn n) cs p.1 p.2) ↔ Cand (Bn n) cs u := fun u => by
    simp only [List.mem_map, Cand]
    constructor
    · rintro ⟨⟨t, m⟩, h, rfl⟩
      exact ⟨t, m, mem_itemsL.mp h, rfl⟩
    · rintro ⟨t, m, h, rfl⟩
      exact ⟨(t, m), mem_itemsL.mpr h, rfl⟩
  simp only [Bn]
  split
  · rename_i e
    cases cs with
    | nil => exact absurd rfl hc
    | cons c r =>
      have := (key _).mpr ⟨c, 1, .one rfl, rfl⟩
      rw [e] at this
      simp at this
  · rename_i x xs e
    rw [e] at key
    obtain ⟨h1, h2⟩ := minL_least xs x
    exact ⟨(key _).mp h1, fun u hu => h2 u ((key u).mpr hu)⟩
def Bt (cs : List Str) : Str := Bn cs.length cs
theorem Bn_the : ∀ (k n : Nat) (cs : List Str), cs.length ≤ k → cs.length ≤ n → Bn n cs = Bt cs
  | 0, n, cs, h, hn => by
    have e : cs = [] := List.eq_nil_of_length_eq_zero (by omega)
    subst e
    cases n with
    | zero => rfl
    | succ n => rfl
  | k + 1, n, cs, h, hn => by
    cases cs with
    | nil => cases n <;> rfl
    | cons c r =>
      cases n with
      | zero => simp at hn
      | succ n =>
        have h1 := Bn_least n (c :: r) (by simp)
        have h2 : Least (Cand (Bn r.length) (c :: r)) (Bt (c :: r)) := Bn_least r.length (c :: r) (by simp)
        simp only [List.length_cons] at h hn
        have e : ∀ ds : List Str, ds.length < (c :: r).length → Bn n ds = Bn r.length ds := fun ds hd => by
          simp only [List.length_cons] at hd
          rw [Bn_the k n ds (by omega) (by omega), Bn_the k r.length ds (by omega) (by omega)]
        have h3 : Least (Cand (Bn r.length) (c :: r)) (Bn (n + 1) (c :: r)) := ⟨h1.1.congr e, fun u hu => h1.2 u (hu.congr fun ds hd => (e ds hd).symm)⟩
        exact h3.the h2
theorem Bt_least {cs : List Str} (hc : cs ≠ []) : Least (Cand Bt cs) (Bt cs) := by
  cases cs with
  | nil => exact absurd rfl hc
  | cons c r =>
    have h2 : Least (Cand (Bn r.length) (c :: r)) (Bt (c :: r)) := Bn_least r.length (c :: r) (by simp)
    have e : ∀ ds : List Str, ds.length < (c :: r).length → Bn r.length ds = Bt ds := fun ds hd => by
      simp only [List.length_cons] at hd
      exact Bn_the r.length r.length ds (by omega) (by omega)
    exact ⟨h2.1.congr e, fun u hu => h2.2 u (hu.congr fun ds hd => (e ds hd).symm)⟩
end DV
namespace DV
open PySem L2
def Okl (cs : List Str) : Prop := ∀ x ∈ cs, PyData.strOk x = true ∧ x.length = 1
theorem Okl.ok {cs : List Str} (h : Okl cs) : ∀ x ∈ cs, PyData.strOk x = true := fun x hx => (h x hx).1
theorem Okl.take {cs : List Str} (h : Okl cs) (n : Nat) : Okl (cs.take n) := fun x hx => h x (List.mem_of_mem_take hx)
theorem Okl.drop {cs : List Str} (h : Okl cs) (n : Nat) : Okl (cs.drop n) := fun x hx => h x (List.mem_of_mem_drop hx)
theorem str_app (a b : Str) : (a ++ b).length = a.length + b.length := by
  show (a.cps ++ b.cps).size = _
  rw [Array.size_append]
  rfl
theorem Bt_len : ∀ (n : Nat) (cs : List Str), cs.length ≤ n → Okl cs → (Bt cs).length ≤ cs.length
  | 0, cs, h, ok => by
    have e : cs = [] := List.eq_nil_of_length_eq_zero (by omega)
    subst e
    exact Nat.le_refl 0
  | n + 1, cs, h, ok => by
    cases cs with
    | nil => exact Nat.le_refl 0
    | cons c r =>
      have hl := (Bt_least (cs := c :: r) (by simp)).2 _ ⟨c, 1, .one rfl, rfl⟩
      have ih := Bt_len n r (by simpa using h) (ok.drop 1)
      have hc := (ok c (by simp)).2
      have hw : (whole Bt (c :: r) c 1).length ≤ (c :: r).length := by
        unfold whole
        split
        · simp only [List.length_cons]; omega
        · rw [str_app]
          simp only [List.drop_one, List.tail_cons, List.length_cons]
          omega
      unfold ltT at hl
      split at hl
      · rename_i e; omega
      · simp only [decide_eq_false_iff_not] at hl
        omega
theorem ns_len : ∀ n : Nat, n ≤ 60 → (ns n).length ≤ 2 := by
  have h : ((List.range 61).all fun n => decide ((ns n).length ≤ 2)) = true := by decide +kernel
  intro n hn
  have := List.all_eq_true.mp h n (List.mem_range.mpr (by omega))
  simpa using this
theorem e_str {n : Nat} (h : n ≤ 60) : oStr [.int (n : Int)] = some (.im (.str (ns n))) := by
  show (if ((n : Int).natAbs.log2 < 1920) then some (SV.im (.str (toString (n : Int)))) else none) = _
  rw [if_pos]
  · rfl
  · have := Nat.log2_le_self (n : Int).natAbs
    omega
/-- the table of what is known -/
structure Kn (L : List Str) (ks : List (List Key)) (vs : List D) : Prop where
  len : ks.length = vs.length
  ok : ∀ k d, assoc ks vs k = some d → ∃ cs : List Str, k = cs.map Sum.inr ∧ d = .str (Bt cs)
  nd : ks.Nodup
  sub : ∀ k ∈ ks, ∃ i j, i ≤ L.length ∧ j ≤ L.length ∧ k = ((L.drop i).take j).map Sum.inr
theorem Kn.nil {L : List Str} : Kn L [] [] := ⟨rfl, fun k d h => (by cases h), List.nodup_nil, fun k h => (by simp at h)⟩
theorem Kn.small {L : List Str} {ks : List (List Key)} {vs : List D} (h : Kn L ks vs) (hL : L.length ≤ 60) : ks.length < 16777216 := by
  have := nodup_len (m := (List.range (L.length + 1)).flatMap fun i => (List.range (L.length + 1)).map fun j => ((L.drop i).take j).map Sum.inr) h.nd fun k hk => by
    obtain ⟨i, j, hi, hj, rfl⟩ := h.sub k hk
    exact List.mem_flatMap.mpr ⟨i, List.mem_range.mpr (by omega), List.mem_map.mpr ⟨j, List.mem_range.mpr (by omega), rfl⟩⟩
  rw [List.length_flatMap] at this
  have e : (List.map (fun i => ((List.range (L.length + 1)).map fun j => (((L.drop i).take j).map Sum.inr : List Key)).length) (List.range (L.length + 1))) = List.replicate (L.length + 1) (L.length + 1) := by
    rw [List.eq_replicate_iff]
    refine ⟨by simp, fun b hb => ?_⟩
    obtain ⟨i, _, rfl⟩ := List.mem_map.mp hb
    simp
  rw [e, List.sum_replicate_nat] at this
  have h2 : (L.length + 1) * (L.length + 1) ≤ 61 * 61 := Nat.mul_le_mul (by omega) (by omega)
  omega
def Sub (L cs : List Str) : Prop := ∃ i j, i ≤ L.length ∧ j ≤ L.length ∧ cs = (L.drop i).take j
theorem Sub.take {L cs : List Str} (h : Sub L cs) (n : Nat) : Sub L (cs.take n) := by
  obtain ⟨i, j, hi, hj, rfl⟩ := h
  exact ⟨i, min n j, hi, by omega, by rw [List.take_take]⟩
theorem Sub.drop {L cs : List Str} (h : Sub L cs) (n : Nat) : Sub L (cs.drop n) := by
  obtain ⟨i, j, hi, hj, rfl⟩ := h
  by_cases c : i + n ≤ L.length
  · exact ⟨i + n, j - n, c, by omega, by rw [List.drop_take, List.drop_drop]⟩
  · refine ⟨L.length, 0, Nat.le_refl _, Nat.zero_le _, ?_⟩
    rw [List.drop_take, List.drop_drop, List.drop_eq_nil_of_le (by omega)]
    simp
theorem inr_inj {a b : List Str} (h : (a.map Sum.inr : List Key) = b.map Sum.inr) : a = b := List.map_inj_right (fun a b e => by injection e) |>.mp h
theorem Kn.put {L cs : List Str} {ks : List (List Key)} {vs : List D} (h : Kn L ks vs) (hs : Sub L cs) : Kn L (putD ks vs (cs.map Sum.inr) (.str (Bt cs))).1 (putD ks vs (cs.map Sum.inr) (.str (Bt cs))).2 := by
  refine ⟨(putD_len h.len).1, fun k d e => ?_, putD_nd h.nd, fun k hk => ?_⟩
  · rw [assoc_putD h.len] at e
    split at e
    · rename_i z; cases e; exact ⟨cs, z, rfl⟩
    · exact h.ok k d e
  · rcases putD_mem hk with z | z
    · exact h.sub k z
    · obtain ⟨i, j, hi, hj, rfl⟩ := hs
      exact ⟨i, j, hi, hj, z⟩

/-! ### the first items -/
def itD (its : List (Str × Nat)) : List D := its.map fun p => .tup [.str p.1, .int (p.2 : Nat)]
theorem itD_len (its : List (Str × Nat)) : (itD its).length = its.length := List.length_map _
theorem itD_snoc (its : List (Str × Nat)) (t : Str) (m : Nat) : itD its ++ [.tup [.str t, .int (m : Nat)]] = itD (its ++ [(t, m)]) := by simp [itD]
abbrev Fi (cs : List Str) (ks : List (List Key)) (vs : List D) (its : List (Str × Nat)) (run : Int) (sz tm : Option SV) : S := [⟨true, some (.im (.lst (sL cs)))⟩, ⟨true, some (.ot ks vs)⟩, ⟨false, some (.ol (itD its))⟩, ⟨false, some (.im (.int run))⟩, ⟨false, sz⟩, ⟨false, tm⟩]
theorem sL_ix {cs : List Str} {n : Nat} {x : Str} (h : cs[n]? = some x) : L2.atI (sL cs) (n : Int) = some (.str x) := atI_nat (by simp [sL, h])
theorem sL_ix0 {cs : List Str} {x : Str} (h : cs[0]? = some x) : L2.atI (sL cs) 0 = some (.str x) := sL_ix (n := 0) h
theorem rep_get {cs : List Str} {c : Str} {m r : Nat} (h : cs.take m = List.replicate m c) (hr : r < m) (hm : m ≤ cs.length) : cs[r]? = some c := by
  have : (cs.take m)[r]? = some c := by rw [h]; simp [hr]
  rwa [List.getElem?_take_of_lt hr] at this
theorem e_eqD {d e : D} {b : Bool} (h : pyEq d e = some b) : oEq d e = some (.im (.bl b)) := by unfold oEq; rw [h]; rfl
theorem fi_w1 {cs : List Str} {c : Str} (ok : Okl cs) (hc : cs[0]? = some c) (hn : cs.length ≤ 60) (ks : List (List Key)) (vs : List D) (sz tm : Option SV) :
    ∀ (k r fuel : Nat) (its : List (Str × Nat)), cs.length - r = k → k < fuel → 1 ≤ r → r ≤ cs.length → its.length ≤ r → cs.take r = List.replicate r c →
      ∃ its' r', whileL F_first_items_c1 F_first_items_w1 fuel (Fi cs ks vs its r sz tm) = .nx (Fi cs ks vs its' (r' : Nat) sz tm) ∧ its'.length ≤ 60 ∧
        ∀ t m, (t, m) ∈ its' ↔ (t, m) ∈ its ∨ (r < m ∧ m ≤ cs.length ∧ cs.take m = List.replicate m c ∧ t = c ++ ns m)
  | k, r, 0, its, hk, hf, h1, h2, hi, ht => by omega
  | k, r, fuel + 1, its, hk, hf, h1, h2, hi, ht => by
    by_cases hr : r < cs.length
    · obtain ⟨x, hx⟩ : ∃ x, cs[r]? = some x := ⟨_, List.getElem?_eq_getElem hr⟩
      have hq : oEq (.str x) (.str c) = some (.im (.bl (decide (x = c)))) := e_eqD (q_str (ok x (List.mem_of_getElem? hx)).1 (ok c (List.mem_of_getElem? hc)).1)
      by_cases e : x = c
      · subst e
        have ht2 : cs.take (r + 1) = List.replicate (r + 1) x := by
          rw [List.take_add_one, ht, hx, List.replicate_succ']
          rfl
        have hs := e_str (n := r + 1) (by omega)
        have hsl := ns_len (r + 1) (by omega)
        have hxl := (ok x (List.mem_of_getElem? hc)).2
        obtain ⟨its', r', ew, hl, hm⟩ := fi_w1 ok hc hn ks vs sz tm (k - 1) (r + 1) fuel (its ++ [(x ++ ns (r + 1), r + 1)]) (by omega) (by omega) (by omega) (by omega) (by simp; omega) ht2
        refine ⟨its', r', ?_, hl, fun t m => ?_⟩
        · rw [← ew]
          have e1 : ((r : Nat) : Int) + 1 = ((r + 1 : Nat) : Int) := by omega
          have hd : (r : Int) < (cs.length : Int) := by omega
          have hsum : x.length + (ns (r + 1)).length ≤ 16777216 := by omega
          simp (disch := (first | omega | (simp only [List.length_cons, List.length_nil, List.length_append, List.length_map, List.length_replicate, List.length_range, iL_len, sL_len]; omega) | assumption)) only [dDef, dSeq, dAsg, dRet, dExp, dIfS, dFor, dVal, dIm, dVar, dC, d1, d2, d2B, d2C, d1B, dN, evL, dBl, dTr, dTrB, dTru, dNot, dAnd, dOr, dBv, dAndV, dOrV, dIfE, dIfX, dChain, dNx, dApp, dPop, dExt, gSet, gTupF, gsCons, gsNil, setG, setF, slG, slS, dCall, evArgs, putB, dSl, evP, dItA, dRange, dDput, dTry, catchL, o_ok, o_ex, b_ok, b_ex, mkSl, outs, frz, flat1, e_mul, e_fdiv, e_mod, e_add, e_sub, e_lt, e_le, e_gt, e_ge, e_lst, e_tup, e_len, e_len1, e_rg1, e_rg2, e_addl, e_addt, e_adds, e_mull, e_sll, lc_nil, tTrue, freeAt, lt_sz, le_sz, oList, oTuple, Bool.false_and, Bool.true_and, Bool.and_true, Bool.not_true, Bool.not_false, Option.bind_some, Option.map_some, List.length_cons, List.length_nil, List.zip_cons_cons, List.zip_nil_right, List.map_cons, List.map_nil, List.cons_append, List.nil_append, List.getElem?_cons_zero, List.getElem?_cons_succ, List.set_cons_zero, List.set_cons_succ, Nat.reduceAdd, Nat.reduceSub, List.replicate, if_true, if_false, Bool.false_eq_true, Bool.true_eq_false, decide_true, decide_false, Int.reduceAdd, Int.reduceSub, Int.reduceMul, Int.reducePow, Int.reduceNeg, Int.reduceLT, Int.reduceLE, Int.reduceToNat, whileL, F_first_items_c1, F_first_items_w1, l_lst, sL_len, x_lst, sL_ix hx, sL_ix0 hc, hq, hd, e1, hs, hsum, itD_len, itD_snoc]
        · rw [hm]
          simp only [List.mem_append, List.mem_singleton, Prod.mk.injEq]
          constructor
          · rintro ((h | ⟨rfl, rfl⟩) | ⟨a, b, c, d⟩)
            · exact .inl h
            · exact .inr ⟨by omega, by omega, ht2, rfl⟩
            · exact .inr ⟨by omega, b, c, d⟩
          · rintro (h | ⟨a, b, c, d⟩)
            · exact .inl (.inl h)
            · by_cases z : m = r + 1
              · subst z; exact .inl (.inr ⟨d, rfl⟩)
              · exact .inr ⟨by omega, b, c, d⟩
      · refine ⟨its, r, ?_, by omega, fun t m => ⟨.inl, fun h => h.elim id ?_⟩⟩
        · have hd : (r : Int) < (cs.length : Int) := by omega
          simp (disch := (first | omega | (simp only [List.length_cons, List.length_nil, List.length_append, List.length_map, List.length_replicate, List.length_range, iL_len, sL_len]; omega) | assumption)) only [dDef, dSeq, dAsg, dRet, dExp, dIfS, dFor, dVal, dIm, dVar, dC, d1, d2, d2B, d2C, d1B, dN, evL, dBl, dTr, dTrB, dTru, dNot, dAnd, dOr, dBv, dAndV, dOrV, dIfE, dIfX, dChain, dNx, dApp, dPop, dExt, gSet, gTupF, gsCons, gsNil, setG, setF, slG, slS, dCall, evArgs, putB, dSl, evP, dItA, dRange, dDput, dTry, catchL, o_ok, o_ex, b_ok, b_ex, mkSl, outs, frz, flat1, e_mul, e_fdiv, e_mod, e_add, e_sub, e_lt, e_le, e_gt, e_ge, e_lst, e_tup, e_len, e_len1, e_rg1, e_rg2, e_addl, e_addt, e_adds, e_mull, e_sll, lc_nil, tTrue, freeAt, lt_sz, le_sz, oList, oTuple, Bool.false_and, Bool.true_and, Bool.and_true, Bool.not_true, Bool.not_false, Option.bind_some, Option.map_some, List.length_cons, List.length_nil, List.zip_cons_cons, List.zip_nil_right, List.map_cons, List.map_nil, List.cons_append, List.nil_append, List.getElem?_cons_zero, List.getElem?_cons_succ, List.set_cons_zero, List.set_cons_succ, Nat.reduceAdd, Nat.reduceSub, List.replicate, if_true, if_false, Bool.false_eq_true, Bool.true_eq_false, decide_true, decide_false, Int.reduceAdd, Int.reduceSub, Int.reduceMul, Int.reducePow, Int.reduceNeg, Int.reduceLT, Int.reduceLE, Int.reduceToNat, whileL, F_first_items_c1, l_lst, sL_len, x_lst, sL_ix hx, sL_ix0 hc, hq, hd, e]
        · rintro ⟨a, b, c1, d⟩
          have := rep_get c1 a b
          rw [hx] at this
          exact absurd (Option.some.inj this) e
    · refine ⟨its, r, ?_, by omega, fun t m => ⟨.inl, fun h => h.elim id ?_⟩⟩
      · have hd : ¬ (r : Int) < (cs.length : Int) := by omega
        simp (disch := (first | omega | (simp only [List.length_cons, List.length_nil, List.length_append, List.length_map, List.length_replicate, List.length_range, iL_len, sL_len]; omega) | assumption)) only [dDef, dSeq, dAsg, dRet, dExp, dIfS, dFor, dVal, dIm, dVar, dC, d1, d2, d2B, d2C, d1B, dN, evL, dBl, dTr, dTrB, dTru, dNot, dAnd, dOr, dBv, dAndV, dOrV, dIfE, dIfX, dChain, dNx, dApp, dPop, dExt, gSet, gTupF, gsCons, gsNil, setG, setF, slG, slS, dCall, evArgs, putB, dSl, evP, dItA, dRange, dDput, dTry, catchL, o_ok, o_ex, b_ok, b_ex, mkSl, outs, frz, flat1, e_mul, e_fdiv, e_mod, e_add, e_sub, e_lt, e_le, e_gt, e_ge, e_lst, e_tup, e_len, e_len1, e_rg1, e_rg2, e_addl, e_addt, e_adds, e_mull, e_sll, lc_nil, tTrue, freeAt, lt_sz, le_sz, oList, oTuple, Bool.false_and, Bool.true_and, Bool.and_true, Bool.not_true, Bool.not_false, Option.bind_some, Option.map_some, List.length_cons, List.length_nil, List.zip_cons_cons, List.zip_nil_right, List.map_cons, List.map_nil, List.cons_append, List.nil_append, List.getElem?_cons_zero, List.getElem?_cons_succ, List.set_cons_zero, List.set_cons_succ, Nat.reduceAdd, Nat.reduceSub, List.replicate, if_true, if_false, Bool.false_eq_true, Bool.true_eq_false, decide_true, decide_false, Int.reduceAdd, Int.reduceSub, Int.reduceMul, Int.reducePow, Int.reduceNeg, Int.reduceLT, Int.reduceLE, Int.reduceToNat, whileL, F_first_items_c1, l_lst, sL_len, hd]
      · rintro ⟨a, b, _⟩; omega

/-- what a call of best_text does for lists shorter than n -/
def HB (X : Fn) (L : List Str) (n : Nat) : Prop := ∀ (ds : List Str) (ks : List (List Key)) (vs : List D), Sub L ds → ds ≠ [] → Okl ds → ds.length < n → Kn L ks vs →
  ∃ ks' vs' o, Kn L ks' vs' ∧ X [.ol (sL ds), .ot ks vs] = .ret (.str (Bt ds)) [o, some (.ot ks' vs')]
theorem flat_len {α : Type} (k : Nat) (b : List α) : ((List.replicate k b).flatten).length = k * b.length := by simp
theorem per_step {cs : List Str} {s k : Nat} (hs : s ≤ cs.length) (h1 : k * s ≤ cs.length) (hp : cs.take (k * s) = (List.replicate k (cs.take s)).flatten) :
    ((cs.take ((k + 1) * s)).drop (k * s) = cs.take s) ↔ ((k + 1) * s ≤ cs.length ∧ cs.take ((k + 1) * s) = (List.replicate (k + 1) (cs.take s)).flatten) := by
  have e0 : (k + 1) * s = k * s + s := Nat.succ_mul k s
  have e1 : (List.replicate (k + 1) (cs.take s)).flatten = (List.replicate k (cs.take s)).flatten ++ cs.take s := by
    rw [List.replicate_succ', List.flatten_append]
    simp
  have e2 : cs.take ((k + 1) * s) = (List.replicate k (cs.take s)).flatten ++ (cs.take ((k + 1) * s)).drop (k * s) := by
    rw [← hp]
    have := List.take_append_drop (k * s) (cs.take ((k + 1) * s))
    rw [List.take_take, Nat.min_eq_left (by omega)] at this
    exact this.symm
  constructor
  · intro h
    have hl := congrArg List.length h
    simp only [List.length_drop, List.length_take] at hl
    refine ⟨by omega, ?_⟩
    rw [e2, e1, h]
  · rintro ⟨h2, h3⟩
    rw [e2, e1] at h3
    exact List.append_cancel_left h3
theorem per_down {cs : List Str} {s : Nat} (hs : s ≤ cs.length) : ∀ (d k : Nat), (k + d) * s ≤ cs.length → cs.take ((k + d) * s) = (List.replicate (k + d) (cs.take s)).flatten → cs.take (k * s) = (List.replicate k (cs.take s)).flatten
  | 0, k, _, h => h
  | d + 1, k, h1, h => by
    have e0 : (k + d + 1) * s = (k + d) * s + s := Nat.succ_mul (k + d) s
    rw [show k + (d + 1) = k + d + 1 from rfl] at h h1
    refine per_down hs d k (by omega) ?_
    have := congrArg (List.take ((k + d) * s)) h
    have hfl : ((List.replicate (k + d) (cs.take s)).flatten).length = (k + d) * s := by rw [flat_len, List.length_take, Nat.min_eq_left hs]
    rw [List.take_take, Nat.min_eq_left (by omega), List.replicate_succ', List.flatten_append, List.take_append_of_le_length (Nat.le_of_eq hfl.symm), List.take_of_length_le (Nat.le_of_eq hfl)] at this
    exact this
end DV
namespace DV
open PySem L2
theorem fi_w2 {X : Fn} {L cs : List Str} (hb : HB X L cs.length) (sub : Sub L cs) (ok : Okl cs) (hn : cs.length ≤ 60) (run : Int) {s : Nat} (hs2 : 2 ≤ s) (hs : s + 1 ≤ cs.length) :
    ∀ (j k fuel : Nat) (its : List (Str × Nat)) (ks : List (List Key)) (vs : List D), cs.length - k = j → j < fuel → 1 ≤ k → k * s ≤ cs.length → its.length ≤ 10000 + k → cs.take (k * s) = (List.replicate k (cs.take s)).flatten → Kn L ks vs →
      ∃ its' ks' vs' k', Kn L ks' vs' ∧ whileL F_first_items_c2 (F_first_items_w2 X) fuel (Fi cs ks vs its run (some (.im (.int s))) (some (.im (.int k)))) = .nx (Fi cs ks' vs' its' run (some (.im (.int s))) (some (.im (.int (k' : Nat))))) ∧ its'.length ≤ its.length + (cs.length - k) ∧
        ∀ t m, (t, m) ∈ its' ↔ (t, m) ∈ its ∨ ∃ k2, k < k2 ∧ k2 * s ≤ cs.length ∧ cs.take (k2 * s) = (List.replicate k2 (cs.take s)).flatten ∧ t = "(" ++ Bt (cs.take s) ++ ")" ++ ns k2 ∧ m = k2 * s
  | j, k, 0, its, ks, vs, hk, hf, h1, h2, hi, ht, kn => by omega
  | j, k, fuel + 1, its, ks, vs, hk, hf, h1, h2, hi, ht, kn => by
    have hks : k ≤ k * s := Nat.le_mul_of_pos_right k (by omega)
    have e0 : (k + 1) * s = k * s + s := Nat.succ_mul k s
    have c1 : ((k : Nat) : Int) + 1 = ((k + 1 : Nat) : Int) := by omega
    have cut1 : cutD (sL cs) (some ((k * s : Nat) : Int)) (some (((k + 1) * s : Nat) : Int)) = sL ((cs.take ((k + 1) * s)).drop (k * s)) := by
      rw [cut_both]
      unfold sL
      rw [List.map_drop, List.map_take]
    have cut2 : cutD (sL cs) none (some (s : Int)) = sL (cs.take s) := by
      rw [cut_to]
      unfold sL
      rw [List.map_take]
    have hq : oEq (.lst (sL ((cs.take ((k + 1) * s)).drop (k * s)))) (.lst (sL (cs.take s))) = some (.im (.bl (decide ((cs.take ((k + 1) * s)).drop (k * s) = cs.take s)))) := e_eqD (q_sL ((ok.take _).drop _).ok (ok.take _).ok)
    by_cases e : (cs.take ((k + 1) * s)).drop (k * s) = cs.take s
    · obtain ⟨h3, h4⟩ := (per_step (by omega) h2 ht).mp e
      have hk1 : k + 1 ≤ (k + 1) * s := Nat.le_mul_of_pos_right (k + 1) (by omega)
      obtain ⟨ks1, vs1, o, kn1, eb⟩ := hb (cs.take s) ks vs (sub.take s) (fun z => by have z2 := congrArg List.length z; rw [List.length_take, List.length_nil] at z2; omega) (ok.take s) (by rw [List.length_take]; omega) kn
      have hs' := e_str (n := k + 1) (by omega)
      have l1 : ("(" : Str).length = 1 := by decide +kernel
      have l2 : (")" : Str).length = 1 := by decide +kernel
      have l3 := Bt_len _ (cs.take s) (Nat.le_refl _) (ok.take s)
      rw [List.length_take] at l3
      have l4 := ns_len (k + 1) (by omega)
      have a1 : ("(" : Str).length + (Bt (cs.take s)).length ≤ 16777216 := by omega
      have a2 : (("(" : Str) ++ Bt (cs.take s)).length + (")" : Str).length ≤ 16777216 := by rw [str_app]; omega
      have a3 : (("(" : Str) ++ Bt (cs.take s) ++ (")" : Str)).length + (ns (k + 1)).length ≤ 16777216 := by rw [str_app, str_app]; omega
      obtain ⟨its', ks', vs', k', kn', ew, hl, hm⟩ := fi_w2 hb sub ok hn run hs2 hs (j - 1) (k + 1) fuel (its ++ [("(" ++ Bt (cs.take s) ++ ")" ++ ns (k + 1), (k + 1) * s)]) ks1 vs1 (by omega) (by omega) (by omega) h3 (by simp; omega) h4 kn1
      have hl0 : (itD its).length + 1 ≤ 16777216 := by rw [itD_len]; omega
      refine ⟨its', ks', vs', k', kn', ?_, by simp at hl; omega, fun t m => ?_⟩
      · rw [← ew]
        rw [decide_eq_true e] at hq
        simp (disch := (first | omega | (simp only [List.length_cons, List.length_nil, List.length_append, List.length_map, List.length_replicate, List.length_range, iL_len, sL_len]; omega) | assumption)) only [dDef, dSeq, dAsg, dRet, dExp, dIfS, dFor, dVal, dIm, dVar, dC, d1, d2, d2B, d2C, d1B, dN, evL, dBl, dTr, dTrB, dTru, dNot, dAnd, dOr, dBv, dAndV, dOrV, dIfE, dIfX, dChain, dNx, dApp, dPop, dExt, gSet, gTupF, gsCons, gsNil, setG, setF, slG, slS, dCall, evArgs, putB, dSl, evP, dItA, dRange, dDput, dTry, catchL, o_ok, o_ex, b_ok, b_ex, mkSl, outs, frz, flat1, e_mul, e_fdiv, e_mod, e_add, e_sub, e_lt, e_le, e_gt, e_ge, e_lst, e_tup, e_len, e_len1, e_rg1, e_rg2, e_addl, e_addt, e_adds, e_mull, e_sll, lc_nil, tTrue, freeAt, lt_sz, le_sz, oList, oTuple, Bool.false_and, Bool.true_and, Bool.and_true, Bool.not_true, Bool.not_false, Option.bind_some, Option.map_some, List.length_cons, List.length_nil, List.zip_cons_cons, List.zip_nil_right, List.map_cons, List.map_nil, List.cons_append, List.nil_append, List.getElem?_cons_zero, List.getElem?_cons_succ, List.set_cons_zero, List.set_cons_succ, Nat.reduceAdd, Nat.reduceSub, List.replicate, if_true, if_false, Bool.false_eq_true, Bool.true_eq_false, decide_true, decide_false, Int.reduceAdd, Int.reduceSub, Int.reduceMul, Int.reducePow, Int.reduceNeg, Int.reduceLT, Int.reduceLE, Int.reduceToNat, whileL, F_first_items_c2, F_first_items_w2, c1, ← Int.natCast_mul, cut1, cut2, hq, eb, a1, a2, a3, hs', itD_len, itD_snoc]
      · rw [hm]
        simp only [List.mem_append, List.mem_singleton, Prod.mk.injEq]
        constructor
        · rintro ((h | ⟨rfl, rfl⟩) | ⟨k2, b1, b2, b3, b4, b5⟩)
          · exact .inl h
          · exact .inr ⟨k + 1, by omega, h3, h4, rfl, rfl⟩
          · exact .inr ⟨k2, by omega, b2, b3, b4, b5⟩
        · rintro (h | ⟨k2, b1, b2, b3, b4, b5⟩)
          · exact .inl (.inl h)
          · by_cases z : k2 = k + 1
            · subst z; exact .inl (.inr ⟨b4, b5⟩)
            · exact .inr ⟨k2, by omega, b2, b3, b4, b5⟩
    · refine ⟨its, ks, vs, k, kn, ?_, by omega, fun t m => ⟨.inl, fun h => h.elim id ?_⟩⟩
      · simp (disch := (first | omega | (simp only [List.length_cons, List.length_nil, List.length_append, List.length_map, List.length_replicate, List.length_range, iL_len, sL_len]; omega) | assumption)) only [dDef, dSeq, dAsg, dRet, dExp, dIfS, dFor, dVal, dIm, dVar, dC, d1, d2, d2B, d2C, d1B, dN, evL, dBl, dTr, dTrB, dTru, dNot, dAnd, dOr, dBv, dAndV, dOrV, dIfE, dIfX, dChain, dNx, dApp, dPop, dExt, gSet, gTupF, gsCons, gsNil, setG, setF, slG, slS, dCall, evArgs, putB, dSl, evP, dItA, dRange, dDput, dTry, catchL, o_ok, o_ex, b_ok, b_ex, mkSl, outs, frz, flat1, e_mul, e_fdiv, e_mod, e_add, e_sub, e_lt, e_le, e_gt, e_ge, e_lst, e_tup, e_len, e_len1, e_rg1, e_rg2, e_addl, e_addt, e_adds, e_mull, e_sll, lc_nil, tTrue, freeAt, lt_sz, le_sz, oList, oTuple, Bool.false_and, Bool.true_and, Bool.and_true, Bool.not_true, Bool.not_false, Option.bind_some, Option.map_some, List.length_cons, List.length_nil, List.zip_cons_cons, List.zip_nil_right, List.map_cons, List.map_nil, List.cons_append, List.nil_append, List.getElem?_cons_zero, List.getElem?_cons_succ, List.set_cons_zero, List.set_cons_succ, Nat.reduceAdd, Nat.reduceSub, List.replicate, if_true, if_false, Bool.false_eq_true, Bool.true_eq_false, decide_true, decide_false, Int.reduceAdd, Int.reduceSub, Int.reduceMul, Int.reducePow, Int.reduceNeg, Int.reduceLT, Int.reduceLE, Int.reduceToNat, whileL, F_first_items_c2, c1, ← Int.natCast_mul, cut1, cut2, hq, e]
      · rintro ⟨k2, h5, h6, h7, rfl, rfl⟩
        obtain ⟨d, rfl⟩ : ∃ d, k2 = k + 1 + d := ⟨k2 - (k + 1), by omega⟩
        have h8 := per_down (by omega) d (k + 1) h6 h7
        have h9 : (k + 1) * s ≤ (k + 1 + d) * s := Nat.mul_le_mul_right s (by omega)
        exact absurd ((per_step (by omega) h2 ht).mpr ⟨by omega, h8⟩) e
end DV
namespace DV
open PySem L2
theorem fi_b1 {X : Fn} {L cs : List Str} (hb : HB X L cs.length) (sub : Sub L cs) (ok : Okl cs) (hn : cs.length ≤ 60) (run : Int) :
    ∀ (cnt s0 : Nat) (its : List (Str × Nat)) (ks : List (List Key)) (vs : List D) (sz tm : Option SV), 2 ≤ s0 → (cnt = 0 ∨ s0 + cnt ≤ cs.length) → its.length + 60 * cnt ≤ 10000 → Kn L ks vs →
      ∃ its' ks' vs' sz' tm', Kn L ks' vs' ∧ forL (setG 4) (F_first_items_b1 X) (rangeD s0 cnt) (Fi cs ks vs its run sz tm) = .nx (Fi cs ks' vs' its' run sz' tm') ∧ its'.length ≤ its.length + 60 * cnt ∧
        ∀ t m, (t, m) ∈ its' ↔ (t, m) ∈ its ∨ ∃ s k2, s0 ≤ s ∧ s < s0 + cnt ∧ 1 < k2 ∧ k2 * s ≤ cs.length ∧ cs.take (k2 * s) = (List.replicate k2 (cs.take s)).flatten ∧ t = "(" ++ Bt (cs.take s) ++ ")" ++ ns k2 ∧ m = k2 * s
  | 0, s0, its, ks, vs, sz, tm, h1, h2, h3, kn => ⟨its, ks, vs, sz, tm, kn, rfl, by omega, fun t m => ⟨.inl, fun h => h.elim id fun ⟨s, _, a, b, _⟩ => absurd b (by omega)⟩⟩
  | cnt + 1, s0, its, ks, vs, sz, tm, h1, h2, h3, kn => by
    obtain ⟨i1, k1, v1, t1, kn1, e1, l1, m1⟩ := fi_w2 hb sub ok hn run h1 (by omega) (cs.length - 1) 1 100000 its ks vs rfl (by omega) (by omega) (by omega) (by omega) (by simp) kn
    obtain ⟨i2, k2, v2, s2, t2, kn2, e2, l2, m2⟩ := fi_b1 hb sub ok hn run cnt (s0 + 1) i1 k1 v1 (some (.im (.int s0))) (some (.im (.int t1))) (by omega) (by omega) (by omega) kn1
    refine ⟨i2, k2, v2, s2, t2, kn2, ?_, by omega, fun t m => ?_⟩
    · rw [← e2]
      have c1 : ((s0 : Nat) : Int) + 1 = ((s0 + 1 : Nat) : Int) := by omega
      have c0 : ((1 : Nat) : Int) = 1 := rfl
      simp only [Fi, c0] at e1
      simp (disch := (first | omega | (simp only [List.length_cons, List.length_nil, List.length_append, List.length_map, List.length_replicate, List.length_range, iL_len, sL_len]; omega) | assumption)) only [dDef, dSeq, dAsg, dRet, dExp, dIfS, dFor, dVal, dIm, dVar, dC, d1, d2, d2B, d2C, d1B, dN, evL, dBl, dTr, dTrB, dTru, dNot, dAnd, dOr, dBv, dAndV, dOrV, dIfE, dIfX, dChain, dNx, dApp, dPop, dExt, gSet, gTupF, gsCons, gsNil, setG, setF, slG, slS, dCall, evArgs, putB, dSl, evP, dItA, dRange, dDput, dTry, catchL, o_ok, o_ex, b_ok, b_ex, mkSl, outs, frz, flat1, e_mul, e_fdiv, e_mod, e_add, e_sub, e_lt, e_le, e_gt, e_ge, e_lst, e_tup, e_len, e_len1, e_rg1, e_rg2, e_addl, e_addt, e_adds, e_mull, e_sll, lc_nil, tTrue, freeAt, lt_sz, le_sz, oList, oTuple, Bool.false_and, Bool.true_and, Bool.and_true, Bool.not_true, Bool.not_false, Option.bind_some, Option.map_some, List.length_cons, List.length_nil, List.zip_cons_cons, List.zip_nil_right, List.map_cons, List.map_nil, List.cons_append, List.nil_append, List.getElem?_cons_zero, List.getElem?_cons_succ, List.set_cons_zero, List.set_cons_succ, Nat.reduceAdd, Nat.reduceSub, List.replicate, if_true, if_false, Bool.false_eq_true, Bool.true_eq_false, decide_true, decide_false, Int.reduceAdd, Int.reduceSub, Int.reduceMul, Int.reducePow, Int.reduceNeg, Int.reduceLT, Int.reduceLE, Int.reduceToNat, forL, rg_s, F_first_items_b1, e1, c1]
    · rw [m2, m1]
      constructor
      · rintro ((h | ⟨k3, b1, b2, b3, b4, b5⟩) | ⟨s, k3, a1, a2, b1, b2, b3, b4, b5⟩)
        · exact .inl h
        · exact .inr ⟨s0, k3, by omega, by omega, b1, b2, b3, b4, b5⟩
        · exact .inr ⟨s, k3, by omega, by omega, b1, b2, b3, b4, b5⟩
      · rintro (h | ⟨s, k3, a1, a2, b1, b2, b3, b4, b5⟩)
        · exact .inl (.inl h)
        · by_cases z : s = s0
          · subst z; exact .inl (.inr ⟨k3, b1, b2, b3, b4, b5⟩)
          · exact .inr ⟨s, k3, by omega, by omega, b1, b2, b3, b4, b5⟩
theorem e_first {n : Nat} {L cs : List Str} (hb : HB (F_best_text n) L cs.length) (sub : Sub L cs) (ok : Okl cs) (hn : cs.length ≤ 60) (h0 : cs ≠ []) (ks : List (List Key)) (vs : List D) (kn : Kn L ks vs) :
    ∃ its ks' vs' o, Kn L ks' vs' ∧ F_first_items (n + 1) [.im (.lst (sL cs)), .ot ks vs] = .ret (.lst (itD its)) [o, some (.ot ks' vs')] ∧ its ≠ [] ∧ ∀ t m, (t, m) ∈ its ↔ Item Bt cs t m := by
  obtain ⟨c, r, ec⟩ : ∃ c r, cs = c :: r := by cases cs with | nil => exact absurd rfl h0 | cons c r => exact ⟨c, r, rfl⟩
  have hc : cs[0]? = some c := by rw [ec]; rfl
  have hl : 1 ≤ cs.length := by rw [ec]; simp
  obtain ⟨i1, r1, e1, l1, m1⟩ := fi_w1 ok hc hn ks vs none none (cs.length - 1) 1 100000 [(c, 1)] rfl (by omega) (by omega) hl (by simp) (by rw [ec]; rfl)
  obtain ⟨i2, k2, v2, s2, t2, kn2, e2, l2, m2⟩ := fi_b1 hb sub ok hn r1 (cs.length / 2 - 1) 2 i1 ks vs none none (by omega) (by omega) (by omega) kn
  have hm : ∀ t m, (t, m) ∈ i2 ↔ Item Bt cs t m := fun t m => by
    rw [m2, m1]
    simp only [List.mem_singleton, Prod.mk.injEq]
    constructor
    · rintro ((⟨rfl, rfl⟩ | ⟨a, b, d, rfl⟩) | ⟨s, k3, a1, a2, b1, b2, b3, rfl, rfl⟩)
      · exact .one hc
      · exact .run hc (by omega) b d
      · exact .grp (by omega) (by omega) b2 b3
    · intro h
      cases h with
      | one h => rw [hc] at h; exact .inl (.inl ⟨(Option.some.inj h).symm, rfl⟩)
      | run h a b d => rw [hc] at h; cases h; exact .inl (.inr ⟨by omega, b, d, rfl⟩)
      | grp a b d e =>
        rename_i s k
        have := Nat.mul_le_mul_right s b
        exact .inr ⟨s, k, by omega, by omega, by omega, d, e, rfl, rfl⟩
  refine ⟨i2, k2, v2, some (.im (.lst (sL cs))), kn2, ?_, fun z => ?_, hm⟩
  · have e0 : itD [(c, 1)] = [.tup [.str c, .int 1]] := rfl
    have c0 : ((1 : Nat) : Int) = 1 := rfl
    simp only [Fi, e0, c0] at e1
    have c2 : ((2 : Nat) : Int) = 2 := rfl
    simp only [Fi, c2] at e2
    have c3 : ((cs.length : Int) / 2 + 1 - 2).toNat = cs.length / 2 - 1 := by omega
    simp (disch := (first | omega | (simp only [List.length_cons, List.length_nil, List.length_append, List.length_map, List.length_replicate, List.length_range, iL_len, sL_len]; omega) | assumption)) only [dDef, dSeq, dAsg, dRet, dExp, dIfS, dFor, dVal, dIm, dVar, dC, d1, d2, d2B, d2C, d1B, dN, evL, dBl, dTr, dTrB, dTru, dNot, dAnd, dOr, dBv, dAndV, dOrV, dIfE, dIfX, dChain, dNx, dApp, dPop, dExt, gSet, gTupF, gsCons, gsNil, setG, setF, slG, slS, dCall, evArgs, putB, dSl, evP, dItA, dRange, dDput, dTry, catchL, o_ok, o_ex, b_ok, b_ex, mkSl, outs, frz, flat1, e_mul, e_fdiv, e_mod, e_add, e_sub, e_lt, e_le, e_gt, e_ge, e_lst, e_tup, e_len, e_len1, e_rg1, e_rg2, e_addl, e_addt, e_adds, e_mull, e_sll, lc_nil, tTrue, freeAt, lt_sz, le_sz, oList, oTuple, Bool.false_and, Bool.true_and, Bool.and_true, Bool.not_true, Bool.not_false, Option.bind_some, Option.map_some, List.length_cons, List.length_nil, List.zip_cons_cons, List.zip_nil_right, List.map_cons, List.map_nil, List.cons_append, List.nil_append, List.getElem?_cons_zero, List.getElem?_cons_succ, List.set_cons_zero, List.set_cons_succ, Nat.reduceAdd, Nat.reduceSub, List.replicate, if_true, if_false, Bool.false_eq_true, Bool.true_eq_false, decide_true, decide_false, Int.reduceAdd, Int.reduceSub, Int.reduceMul, Int.reducePow, Int.reduceNeg, Int.reduceLT, Int.reduceLE, Int.reduceToNat, F_first_items, x_lst, sL_ix0 hc, e1, l_lst, sL_len, c3, e2]
  · have := (hm c 1).mpr (.one hc)
    rw [z] at this
    simp at this
end DV
namespace DV
open PySem L2
theorem e_eqI (i j : Int) : oEq (.int i) (.int j) = some (.im (.bl (decide (i = j)))) := e_eqD (q_int i j)
theorem dataLt_ns (n m : Int) (a b : Str) : PySem.W.dataLt (.tuple [.int n, .str a]) (.tuple [.int m, .str b]) = if n = m then decide (a.cps.toList < b.cps.toList) else decide (n < m) := by
  rw [PySem.W.dataLt_pair (by simp [PySem.W.alike]) (by simp [PySem.W.alike]), PySem.W.dataLt_int, PySem.W.dataLt_str]
  by_cases h1 : n = m
  · by_cases h2 : a = b
    · subst h2
      simp [PyData.eqv, h1, List.lt_irrefl]
    · simp [PyData.eqv, h1, h2]
  · simp [PyData.eqv, h1]
theorem dataLt_T (a b : Str) : PySem.W.dataLt (.tuple [.int (a.length : Nat), .str a]) (.tuple [.int (b.length : Nat), .str b]) = ltT a b := by
  rw [dataLt_ns]
  unfold ltT
  by_cases h : a.length = b.length
  · rw [if_pos h, if_pos (by omega)]
  · rw [if_neg h, if_neg (by omega)]
    congr 1
    exact propext (by omega)
theorem e_ltT (a b : Str) : oLtD (.tup [.int (a.length : Nat), .str a]) (.tup [.int (b.length : Nat), .str b]) = some (.im (.bl (ltT a b))) := by
  unfold oLtD
  simp only [toPn, toPyL, toPy, Option.map_some]
  rw [if_pos (by simp [PySem.W.alike, PySem.W.alikeAll, PyData.depth, PyData.depthAll]), dataLt_T]
theorem Item.len {cs : List Str} (ok : Okl cs) (hn : cs.length ≤ 60) {t : Str} {m : Nat} (h : Item Bt cs t m) : t.length ≤ 64 := by
  cases h with
  | one h => have := (ok _ (List.mem_of_getElem? h)).2; omega
  | run h a b d =>
    have := (ok _ (List.mem_of_getElem? h)).2
    have := ns_len m (by omega)
    rw [str_app]
    omega
  | grp a b d e =>
    rename_i s k
    have l1 : ("(" : Str).length = 1 := by decide +kernel
    have l2 : (")" : Str).length = 1 := by decide +kernel
    have l3 := Bt_len _ (cs.take s) (Nat.le_refl _) (ok.take s)
    rw [List.length_take] at l3
    have := Nat.le_mul_of_pos_right k (show 0 < s by omega)
    have l4 := ns_len k (by omega)
    rw [str_app, str_app, str_app]
    omega
abbrev Be (cs : List Str) (ks : List (List Key)) (vs : List D) (b : D) (t z w : Option SV) : S := [⟨true, some (.im (.lst (sL cs)))⟩, ⟨true, some (.ot ks vs)⟩, ⟨false, some (.im (.tup (sL cs)))⟩, ⟨false, some (.im b)⟩, ⟨false, t⟩, ⟨false, z⟩, ⟨false, w⟩]
def Bs (Pr : Str → Prop) (b : D) : Prop := (b = .non ∧ ∀ u, ¬ Pr u) ∨ ∃ x, b = .str x ∧ Least Pr x ∧ x.length ≤ 200
theorem least_add {Pr : Str → Prop} {x u : Str} (h : Least Pr x) : Least (fun v => Pr v ∨ v = u) (if ltT u x = true then u else x) := by
  by_cases c : ltT u x = true
  · rw [if_pos c]
    refine ⟨.inr rfl, fun v hv => ?_⟩
    rcases hv with hv | rfl
    · cases e : ltT v u with
      | false => rfl
      | true => have := h.2 v hv; rw [ltT_tr e c] at this; cases this
    · exact ltT_irr _
  · rw [if_neg c]
    refine ⟨.inl h.1, fun v hv => ?_⟩
    rcases hv with hv | rfl
    · exact h.2 v hv
    · simpa using c
theorem Least.iff {P Q : Str → Prop} {x : Str} (h : Least P x) (e : ∀ u, P u ↔ Q u) : Least Q x := ⟨(e x).mp h.1, fun u hu => h.2 u ((e u).mpr hu)⟩
theorem be_b1 {X : Fn} {L cs : List Str} (hb : HB X L cs.length) (sub : Sub L cs) (ok : Okl cs) (hn : cs.length ≤ 60) (t0 : Str) (m0 : Nat) (it : Item Bt cs t0 m0) (Pr : Str → Prop) (b : D) (hbs : Bs Pr b) (ks : List (List Key)) (vs : List D) (w : Option SV) (kn : Kn L ks vs) :
    ∃ ks' vs' x, Kn L ks' vs' ∧ F_best_text_b1 X (Be cs ks vs b (some (.im (.str t0))) (some (.im (.int (m0 : Nat)))) w) = .nx (Be cs ks' vs' (.str x) (some (.im (.str t0))) (some (.im (.int (m0 : Nat)))) (some (.im (.str (whole Bt cs t0 m0))))) ∧ Bs (fun u => Pr u ∨ u = whole Bt cs t0 m0) (.str x) := by
  have hp := it.pos
  have hl := it.len ok hn
  have hlB := Bt_len _ (cs.drop m0) (Nat.le_refl _) (ok.drop m0)
  rw [List.length_drop] at hlB
  obtain ⟨wh, hw⟩ : ∃ wh, wh = whole Bt cs t0 m0 := ⟨_, rfl⟩
  have hwl : wh.length ≤ 200 := by
    rw [hw]
    unfold whole
    split
    · omega
    · rw [str_app]; omega
  -- the whole
  have step1 : ∃ ks' vs', Kn L ks' vs' ∧ (dIfX (dBl (dVal (d2 oEq (dVar 5) (dVal (dN oLen [(dVar 0)]))))) (dIm (dVar 4)) (d2 oAdd (dVar 4) (dCall false X [.e (dSl oSl (dVar 0) (some (dVar 5)) none), .v 1]))) (Be cs ks vs b (some (.im (.str t0))) (some (.im (.int (m0 : Nat)))) w) = .ok (.im (.str wh)) (Be cs ks' vs' b (some (.im (.str t0))) (some (.im (.int (m0 : Nat)))) w) := by
    by_cases c : m0 = cs.length
    · have c' : ((m0 : Nat) : Int) = (cs.length : Int) := by omega
      refine ⟨ks, vs, kn, ?_⟩
      have : wh = t0 := by rw [hw]; exact if_pos c
      rw [this]
      simp (disch := (first | omega | (simp only [List.length_cons, List.length_nil, List.length_append, List.length_map, List.length_replicate, List.length_range, iL_len, sL_len]; omega) | assumption)) only [dDef, dSeq, dAsg, dRet, dExp, dIfS, dFor, dVal, dIm, dVar, dC, d1, d2, d2B, d2C, d1B, dN, evL, dBl, dTr, dTrB, dTru, dNot, dAnd, dOr, dBv, dAndV, dOrV, dIfE, dIfX, dChain, dNx, dApp, dPop, dExt, gSet, gTupF, gsCons, gsNil, setG, setF, slG, slS, dCall, evArgs, putB, dSl, evP, dItA, dRange, dDput, dTry, catchL, o_ok, o_ex, b_ok, b_ex, mkSl, outs, frz, flat1, e_mul, e_fdiv, e_mod, e_add, e_sub, e_lt, e_le, e_gt, e_ge, e_lst, e_tup, e_len, e_len1, e_rg1, e_rg2, e_addl, e_addt, e_adds, e_mull, e_sll, lc_nil, tTrue, freeAt, lt_sz, le_sz, oList, oTuple, Bool.false_and, Bool.true_and, Bool.and_true, Bool.not_true, Bool.not_false, Option.bind_some, Option.map_some, List.length_cons, List.length_nil, List.zip_cons_cons, List.zip_nil_right, List.map_cons, List.map_nil, List.cons_append, List.nil_append, List.getElem?_cons_zero, List.getElem?_cons_succ, List.set_cons_zero, List.set_cons_succ, Nat.reduceAdd, Nat.reduceSub, List.replicate, if_true, if_false, Bool.false_eq_true, Bool.true_eq_false, decide_true, decide_false, Int.reduceAdd, Int.reduceSub, Int.reduceMul, Int.reducePow, Int.reduceNeg, Int.reduceLT, Int.reduceLE, Int.reduceToNat, l_lst, sL_len, e_eqI, c']
    · have c' : ¬ ((m0 : Nat) : Int) = (cs.length : Int) := by omega
      obtain ⟨ks1, vs1, o, kn1, eb⟩ := hb (cs.drop m0) ks vs (sub.drop m0) (fun z => by have z2 := congrArg List.length z; rw [List.length_drop, List.length_nil] at z2; omega) (ok.drop m0) (by rw [List.length_drop]; omega) kn
      refine ⟨ks1, vs1, kn1, ?_⟩
      have ew : wh = t0 ++ Bt (cs.drop m0) := by rw [hw]; exact if_neg c
      have hcut : cutD (sL cs) (some (m0 : Int)) none = sL (cs.drop m0) := by
        rw [cut_from]
        unfold sL
        rw [List.map_drop]
      rw [ew]
      simp (disch := (first | omega | (simp only [List.length_cons, List.length_nil, List.length_append, List.length_map, List.length_replicate, List.length_range, iL_len, sL_len]; omega) | assumption)) only [dDef, dSeq, dAsg, dRet, dExp, dIfS, dFor, dVal, dIm, dVar, dC, d1, d2, d2B, d2C, d1B, dN, evL, dBl, dTr, dTrB, dTru, dNot, dAnd, dOr, dBv, dAndV, dOrV, dIfE, dIfX, dChain, dNx, dApp, dPop, dExt, gSet, gTupF, gsCons, gsNil, setG, setF, slG, slS, dCall, evArgs, putB, dSl, evP, dItA, dRange, dDput, dTry, catchL, o_ok, o_ex, b_ok, b_ex, mkSl, outs, frz, flat1, e_mul, e_fdiv, e_mod, e_add, e_sub, e_lt, e_le, e_gt, e_ge, e_lst, e_tup, e_len, e_len1, e_rg1, e_rg2, e_addl, e_addt, e_adds, e_mull, e_sll, lc_nil, tTrue, freeAt, lt_sz, le_sz, oList, oTuple, Bool.false_and, Bool.true_and, Bool.and_true, Bool.not_true, Bool.not_false, Option.bind_some, Option.map_some, List.length_cons, List.length_nil, List.zip_cons_cons, List.zip_nil_right, List.map_cons, List.map_nil, List.cons_append, List.nil_append, List.getElem?_cons_zero, List.getElem?_cons_succ, List.set_cons_zero, List.set_cons_succ, Nat.reduceAdd, Nat.reduceSub, List.replicate, if_true, if_false, Bool.false_eq_true, Bool.true_eq_false, decide_true, decide_false, Int.reduceAdd, Int.reduceSub, Int.reduceMul, Int.reducePow, Int.reduceNeg, Int.reduceLT, Int.reduceLE, Int.reduceToNat, l_lst, sL_len, e_eqI, c', hcut, eb]
  obtain ⟨ks1, vs1, kn1, e1⟩ := step1
  rw [← hw]
  rcases hbs with ⟨rfl, hno⟩ | ⟨x, rfl, hx, hxl⟩
  · refine ⟨ks1, vs1, wh, kn1, ?_, .inr ⟨wh, rfl, ⟨.inr rfl, fun u hu => ?_⟩, hwl⟩⟩
    · unfold F_best_text_b1
      refine (q_asg e1 rfl).trans ?_
      simp (disch := (first | omega | (simp only [List.length_cons, List.length_nil, List.length_append, List.length_map, List.length_replicate, List.length_range, iL_len, sL_len]; omega) | assumption)) only [dDef, dSeq, dAsg, dRet, dExp, dIfS, dFor, dVal, dIm, dVar, dC, d1, d2, d2B, d2C, d1B, dN, evL, dBl, dTr, dTrB, dTru, dNot, dAnd, dOr, dBv, dAndV, dOrV, dIfE, dIfX, dChain, dNx, dApp, dPop, dExt, gSet, gTupF, gsCons, gsNil, setG, setF, slG, slS, dCall, evArgs, putB, dSl, evP, dItA, dRange, dDput, dTry, catchL, o_ok, o_ex, b_ok, b_ex, mkSl, outs, frz, flat1, e_mul, e_fdiv, e_mod, e_add, e_sub, e_lt, e_le, e_gt, e_ge, e_lst, e_tup, e_len, e_len1, e_rg1, e_rg2, e_addl, e_addt, e_adds, e_mull, e_sll, lc_nil, tTrue, freeAt, lt_sz, le_sz, oList, oTuple, Bool.false_and, Bool.true_and, Bool.and_true, Bool.not_true, Bool.not_false, Option.bind_some, Option.map_some, List.length_cons, List.length_nil, List.zip_cons_cons, List.zip_nil_right, List.map_cons, List.map_nil, List.cons_append, List.nil_append, List.getElem?_cons_zero, List.getElem?_cons_succ, List.set_cons_zero, List.set_cons_succ, Nat.reduceAdd, Nat.reduceSub, List.replicate, if_true, if_false, Bool.false_eq_true, Bool.true_eq_false, decide_true, decide_false, Int.reduceAdd, Int.reduceSub, Int.reduceMul, Int.reducePow, Int.reduceNeg, Int.reduceLT, Int.reduceLE, Int.reduceToNat, oIsN, isNon]
    · rcases hu with hu | rfl
      · exact absurd hu (hno u)
      · exact ltT_irr _
  · refine ⟨ks1, vs1, if ltT wh x = true then wh else x, kn1, ?_, .inr ⟨_, rfl, least_add hx, by split <;> assumption⟩⟩
    have l1 := l_str (z := wh) (by omega)
    have l2 := l_str (z := x) (by omega)
    by_cases c : ltT wh x = true
    · unfold F_best_text_b1
      refine (q_asg e1 rfl).trans ?_
      simp (disch := (first | omega | (simp only [List.length_cons, List.length_nil, List.length_append, List.length_map, List.length_replicate, List.length_range, iL_len, sL_len]; omega) | assumption)) only [dDef, dSeq, dAsg, dRet, dExp, dIfS, dFor, dVal, dIm, dVar, dC, d1, d2, d2B, d2C, d1B, dN, evL, dBl, dTr, dTrB, dTru, dNot, dAnd, dOr, dBv, dAndV, dOrV, dIfE, dIfX, dChain, dNx, dApp, dPop, dExt, gSet, gTupF, gsCons, gsNil, setG, setF, slG, slS, dCall, evArgs, putB, dSl, evP, dItA, dRange, dDput, dTry, catchL, o_ok, o_ex, b_ok, b_ex, mkSl, outs, frz, flat1, e_mul, e_fdiv, e_mod, e_add, e_sub, e_lt, e_le, e_gt, e_ge, e_lst, e_tup, e_len, e_len1, e_rg1, e_rg2, e_addl, e_addt, e_adds, e_mull, e_sll, lc_nil, tTrue, freeAt, lt_sz, le_sz, oList, oTuple, Bool.false_and, Bool.true_and, Bool.and_true, Bool.not_true, Bool.not_false, Option.bind_some, Option.map_some, List.length_cons, List.length_nil, List.zip_cons_cons, List.zip_nil_right, List.map_cons, List.map_nil, List.cons_append, List.nil_append, List.getElem?_cons_zero, List.getElem?_cons_succ, List.set_cons_zero, List.set_cons_succ, Nat.reduceAdd, Nat.reduceSub, List.replicate, if_true, if_false, Bool.false_eq_true, Bool.true_eq_false, decide_true, decide_false, Int.reduceAdd, Int.reduceSub, Int.reduceMul, Int.reducePow, Int.reduceNeg, Int.reduceLT, Int.reduceLE, Int.reduceToNat, oIsN, isNon, l1, l2, e_ltT, c]
    · have c' : ltT wh x = false := by simpa using c
      unfold F_best_text_b1
      refine (q_asg e1 rfl).trans ?_
      simp (disch := (first | omega | (simp only [List.length_cons, List.length_nil, List.length_append, List.length_map, List.length_replicate, List.length_range, iL_len, sL_len]; omega) | assumption)) only [dDef, dSeq, dAsg, dRet, dExp, dIfS, dFor, dVal, dIm, dVar, dC, d1, d2, d2B, d2C, d1B, dN, evL, dBl, dTr, dTrB, dTru, dNot, dAnd, dOr, dBv, dAndV, dOrV, dIfE, dIfX, dChain, dNx, dApp, dPop, dExt, gSet, gTupF, gsCons, gsNil, setG, setF, slG, slS, dCall, evArgs, putB, dSl, evP, dItA, dRange, dDput, dTry, catchL, o_ok, o_ex, b_ok, b_ex, mkSl, outs, frz, flat1, e_mul, e_fdiv, e_mod, e_add, e_sub, e_lt, e_le, e_gt, e_ge, e_lst, e_tup, e_len, e_len1, e_rg1, e_rg2, e_addl, e_addt, e_adds, e_mull, e_sll, lc_nil, tTrue, freeAt, lt_sz, le_sz, oList, oTuple, Bool.false_and, Bool.true_and, Bool.and_true, Bool.not_true, Bool.not_false, Option.bind_some, Option.map_some, List.length_cons, List.length_nil, List.zip_cons_cons, List.zip_nil_right, List.map_cons, List.map_nil, List.cons_append, List.nil_append, List.getElem?_cons_zero, List.getElem?_cons_succ, List.set_cons_zero, List.set_cons_succ, Nat.reduceAdd, Nat.reduceSub, List.replicate, if_true, if_false, Bool.false_eq_true, Bool.true_eq_false, decide_true, decide_false, Int.reduceAdd, Int.reduceSub, Int.reduceMul, Int.reducePow, Int.reduceNeg, Int.reduceLT, Int.reduceLE, Int.reduceToNat, oIsN, isNon, l1, l2, e_ltT, c']
end DV
namespace DV
open PySem L2
theorem Bs.iff {P Q : Str → Prop} {b : D} (h : Bs P b) (e : ∀ u, P u ↔ Q u) : Bs Q b := by
  rcases h with ⟨rfl, h⟩ | ⟨x, rfl, h, hl⟩
  · exact .inl ⟨rfl, fun u hu => h u ((e u).mpr hu)⟩
  · exact .inr ⟨x, rfl, h.iff e, hl⟩
theorem be_loop {X : Fn} {L cs : List Str} (hb : HB X L cs.length) (sub : Sub L cs) (ok : Okl cs) (hn : cs.length ≤ 60) :
    ∀ (its : List (Str × Nat)) (Pr : Str → Prop) (b : D) (ks : List (List Key)) (vs : List D) (t z w : Option SV), (∀ p ∈ its, Item Bt cs p.1 p.2) → Bs Pr b → Kn L ks vs →
      ∃ ks' vs' b' t' z' w', Kn L ks' vs' ∧ forL (gTupF 2 (gsCons (setG 4) (gsCons (setG 5) gsNil))) (F_best_text_b1 X) (itD its) (Be cs ks vs b t z w) = .nx (Be cs ks' vs' b' t' z' w') ∧ Bs (fun u => Pr u ∨ ∃ p ∈ its, u = whole Bt cs p.1 p.2) b'
  | [], Pr, b, ks, vs, t, z, w, hi, hbs, kn => ⟨ks, vs, b, t, z, w, kn, rfl, hbs.iff fun u => by simp⟩
  | (t0, m0) :: its, Pr, b, ks, vs, t, z, w, hi, hbs, kn => by
    obtain ⟨k1, v1, x, kn1, e1, b1⟩ := be_b1 hb sub ok hn t0 m0 (hi (t0, m0) (by simp)) Pr b hbs ks vs w kn
    obtain ⟨k2, v2, b2, t2, z2, w2, kn2, e2, bb2⟩ := be_loop hb sub ok hn its _ _ k1 v1 (some (.im (.str t0))) (some (.im (.int (m0 : Nat)))) (some (.im (.str (whole Bt cs t0 m0)))) (fun p hp => hi p (List.mem_cons_of_mem _ hp)) b1 kn1
    refine ⟨k2, v2, b2, t2, z2, w2, kn2, ?_, bb2.iff fun u => ?_⟩
    · rw [← e2]
      have ei : itD ((t0, m0) :: its) = .tup [.str t0, .int (m0 : Nat)] :: itD its := rfl
      rw [ei]
      simp (disch := (first | omega | (simp only [List.length_cons, List.length_nil, List.length_append, List.length_map, List.length_replicate, List.length_range, iL_len, sL_len]; omega) | assumption)) only [dDef, dSeq, dAsg, dRet, dExp, dIfS, dFor, dVal, dIm, dVar, dC, d1, d2, d2B, d2C, d1B, dN, evL, dBl, dTr, dTrB, dTru, dNot, dAnd, dOr, dBv, dAndV, dOrV, dIfE, dIfX, dChain, dNx, dApp, dPop, dExt, gSet, gTupF, gsCons, gsNil, setG, setF, slG, slS, dCall, evArgs, putB, dSl, evP, dItA, dRange, dDput, dTry, catchL, o_ok, o_ex, b_ok, b_ex, mkSl, outs, frz, flat1, e_mul, e_fdiv, e_mod, e_add, e_sub, e_lt, e_le, e_gt, e_ge, e_lst, e_tup, e_len, e_len1, e_rg1, e_rg2, e_addl, e_addt, e_adds, e_mull, e_sll, lc_nil, tTrue, freeAt, lt_sz, le_sz, oList, oTuple, Bool.false_and, Bool.true_and, Bool.and_true, Bool.not_true, Bool.not_false, Option.bind_some, Option.map_some, List.length_cons, List.length_nil, List.zip_cons_cons, List.zip_nil_right, List.map_cons, List.map_nil, List.cons_append, List.nil_append, List.getElem?_cons_zero, List.getElem?_cons_succ, List.set_cons_zero, List.set_cons_succ, Nat.reduceAdd, Nat.reduceSub, List.replicate, if_true, if_false, Bool.false_eq_true, Bool.true_eq_false, decide_true, decide_false, Int.reduceAdd, Int.reduceSub, Int.reduceMul, Int.reducePow, Int.reduceNeg, Int.reduceLT, Int.reduceLE, Int.reduceToNat, forL, e1]
    · simp only [List.mem_cons]
      constructor
      · rintro ((h | h) | ⟨p, hp, h⟩)
        · exact .inl h
        · exact .inr ⟨(t0, m0), .inl rfl, h⟩
        · exact .inr ⟨p, .inr hp, h⟩
      · rintro (h | ⟨p, rfl | hp, h⟩)
        · exact .inl (.inl h)
        · exact .inl (.inr h)
        · exact .inr ⟨p, hp, h⟩
theorem e_din {cs : List Str} {ks : List (List Key)} {vs : List D} : oDin (.tup (sL cs)) (.dT ks vs) = some (.im (.bl (assoc ks vs (cs.map Sum.inr)).isSome)) := by
  unfold oDin dGet
  simp only [keys_sL, Option.map_some]
theorem e_dget {cs : List Str} {ks : List (List Key)} {vs : List D} {v : D} (h : assoc ks vs (cs.map Sum.inr) = some v) : oDget (.dT ks vs) (.tup (sL cs)) = some (.im v) := by
  unfold oDget dGet
  simp only [keys_sL, Option.map_some, h]
theorem bt_all (L : List Str) (hL : L.length ≤ 60) (n : Nat) : ∀ (cs : List Str) (a : SV) (ks : List (List Key)) (vs : List D), Sub L cs → cs ≠ [] → Okl cs → 2 * cs.length ≤ n → Kn L ks vs → (a = .ol (sL cs) ∨ a = .im (.lst (sL cs))) →
    ∃ ks' vs' o, Kn L ks' vs' ∧ F_best_text n [a, .ot ks vs] = .ret (.str (Bt cs)) [o, some (.ot ks' vs')] := by
  induction n using Nat.strongRecOn with
  | ind n ih =>
  intro cs a ks vs sub h0 ok hn kn ha
  have hl : 1 ≤ cs.length := by
    cases cs with
    | nil => exact absurd rfl h0
    | cons c r => simp
  have hcs : cs.length ≤ 60 := by
    obtain ⟨i, j, _, _, rfl⟩ := sub
    rw [List.length_take, List.length_drop]
    omega
  obtain ⟨n1, rfl⟩ : ∃ n1, n = n1 + 1 + 1 := ⟨n - 2, by omega⟩
  have hb1 : HB (F_best_text n1) L cs.length := fun ds ks vs s e o l k => ih n1 (by omega) ds _ ks vs s e o (by omega) k (.inl rfl)
  have hb2 : HB (F_best_text (n1 + 1)) L cs.length := fun ds ks vs s e o l k => ih (n1 + 1) (by omega) ds _ ks vs s e o (by omega) k (.inl rfl)
  cases hk : assoc ks vs (cs.map Sum.inr) with
  | some d =>
    obtain ⟨cs2, e1, rfl⟩ := kn.ok _ _ hk
    rw [inr_inj e1] at hk ⊢
    refine ⟨ks, vs, some (.im (.lst (sL cs2))), kn, ?_⟩
    rw [inr_inj e1] at ha
    rcases ha with rfl | rfl
    · simp (disch := (first | omega | (simp only [List.length_cons, List.length_nil, List.length_append, List.length_map, List.length_replicate, List.length_range, iL_len, sL_len]; omega) | assumption)) only [dDef, dSeq, dAsg, dRet, dExp, dIfS, dFor, dVal, dIm, dVar, dC, d1, d2, d2B, d2C, d1B, dN, evL, dBl, dTr, dTrB, dTru, dNot, dAnd, dOr, dBv, dAndV, dOrV, dIfE, dIfX, dChain, dNx, dApp, dPop, dExt, gSet, gTupF, gsCons, gsNil, setG, setF, slG, slS, dCall, evArgs, putB, dSl, evP, dItA, dRange, dDput, dTry, catchL, o_ok, o_ex, b_ok, b_ex, mkSl, outs, frz, flat1, e_mul, e_fdiv, e_mod, e_add, e_sub, e_lt, e_le, e_gt, e_ge, e_lst, e_tup, e_len, e_len1, e_rg1, e_rg2, e_addl, e_addt, e_adds, e_mull, e_sll, lc_nil, tTrue, freeAt, lt_sz, le_sz, oList, oTuple, Bool.false_and, Bool.true_and, Bool.and_true, Bool.not_true, Bool.not_false, Option.bind_some, Option.map_some, List.length_cons, List.length_nil, List.zip_cons_cons, List.zip_nil_right, List.map_cons, List.map_nil, List.cons_append, List.nil_append, List.getElem?_cons_zero, List.getElem?_cons_succ, List.set_cons_zero, List.set_cons_succ, Nat.reduceAdd, Nat.reduceSub, List.replicate, if_true, if_false, Bool.false_eq_true, Bool.true_eq_false, decide_true, decide_false, Int.reduceAdd, Int.reduceSub, Int.reduceMul, Int.reducePow, Int.reduceNeg, Int.reduceLT, Int.reduceLE, Int.reduceToNat, F_best_text, e_din, hk, Option.isSome_some, e_dget]
    · simp (disch := (first | omega | (simp only [List.length_cons, List.length_nil, List.length_append, List.length_map, List.length_replicate, List.length_range, iL_len, sL_len]; omega) | assumption)) only [dDef, dSeq, dAsg, dRet, dExp, dIfS, dFor, dVal, dIm, dVar, dC, d1, d2, d2B, d2C, d1B, dN, evL, dBl, dTr, dTrB, dTru, dNot, dAnd, dOr, dBv, dAndV, dOrV, dIfE, dIfX, dChain, dNx, dApp, dPop, dExt, gSet, gTupF, gsCons, gsNil, setG, setF, slG, slS, dCall, evArgs, putB, dSl, evP, dItA, dRange, dDput, dTry, catchL, o_ok, o_ex, b_ok, b_ex, mkSl, outs, frz, flat1, e_mul, e_fdiv, e_mod, e_add, e_sub, e_lt, e_le, e_gt, e_ge, e_lst, e_tup, e_len, e_len1, e_rg1, e_rg2, e_addl, e_addt, e_adds, e_mull, e_sll, lc_nil, tTrue, freeAt, lt_sz, le_sz, oList, oTuple, Bool.false_and, Bool.true_and, Bool.and_true, Bool.not_true, Bool.not_false, Option.bind_some, Option.map_some, List.length_cons, List.length_nil, List.zip_cons_cons, List.zip_nil_right, List.map_cons, List.map_nil, List.cons_append, List.nil_append, List.getElem?_cons_zero, List.getElem?_cons_succ, List.set_cons_zero, List.set_cons_succ, Nat.reduceAdd, Nat.reduceSub, List.replicate, if_true, if_false, Bool.false_eq_true, Bool.true_eq_false, decide_true, decide_false, Int.reduceAdd, Int.reduceSub, Int.reduceMul, Int.reducePow, Int.reduceNeg, Int.reduceLT, Int.reduceLE, Int.reduceToNat, F_best_text, e_din, hk, Option.isSome_some, e_dget]
  | none =>
    obtain ⟨its, k1, v1, o1, kn1, e1, hi0, hi⟩ := e_first hb1 sub ok hcs h0 ks vs kn
    obtain ⟨k2, v2, b2, t2, z2, w2, kn2, e2, bb⟩ := be_loop hb2 sub ok hcs its (fun _ => False) .non k1 v1 none none none (fun p hp => (hi p.1 p.2).mp hp) (.inl ⟨rfl, fun _ => id⟩) kn1
    have hlea : b2 = .str (Bt cs) := by
      rcases bb with ⟨_, hno⟩ | ⟨x, rfl, hx, _⟩
      · cases its with
        | nil => exact absurd rfl hi0
        | cons p r => exact absurd (Or.inr ⟨p, by simp, rfl⟩) (hno (whole Bt cs p.1 p.2))
      · congr 1
        refine Least.the (hx.iff fun u => ?_) (Bt_least h0)
        constructor
        · rintro (h | ⟨p, hp, rfl⟩)
          · exact h.elim
          · exact ⟨p.1, p.2, (hi _ _).mp hp, rfl⟩
        · rintro ⟨t, m, h, rfl⟩
          exact .inr ⟨(t, m), (hi _ _).mpr h, rfl⟩
    subst hlea
    have hsz := kn2.small hL
    refine ⟨_, _, some (.im (.lst (sL cs))), kn2.put sub, ?_⟩
    rcases ha with rfl | rfl
    · rw [F_best_text]
      simp (disch := (first | omega | (simp only [List.length_cons, List.length_nil, List.length_append, List.length_map, List.length_replicate, List.length_range, iL_len, sL_len]; omega) | assumption)) only [dDef, dSeq, dAsg, dRet, dExp, dIfS, dFor, dVal, dIm, dVar, dC, d1, d2, d2B, d2C, d1B, dN, evL, dBl, dTr, dTrB, dTru, dNot, dAnd, dOr, dBv, dAndV, dOrV, dIfE, dIfX, dChain, dNx, dApp, dPop, dExt, gSet, gTupF, gsCons, gsNil, setG, setF, slG, slS, dCall, evArgs, putB, dSl, evP, dItA, dRange, dDput, dTry, catchL, o_ok, o_ex, b_ok, b_ex, mkSl, outs, frz, flat1, e_mul, e_fdiv, e_mod, e_add, e_sub, e_lt, e_le, e_gt, e_ge, e_lst, e_tup, e_len, e_len1, e_rg1, e_rg2, e_addl, e_addt, e_adds, e_mull, e_sll, lc_nil, tTrue, freeAt, lt_sz, le_sz, oList, oTuple, Bool.false_and, Bool.true_and, Bool.and_true, Bool.not_true, Bool.not_false, Option.bind_some, Option.map_some, List.length_cons, List.length_nil, List.zip_cons_cons, List.zip_nil_right, List.map_cons, List.map_nil, List.cons_append, List.nil_append, List.getElem?_cons_zero, List.getElem?_cons_succ, List.set_cons_zero, List.set_cons_succ, Nat.reduceAdd, Nat.reduceSub, List.replicate, if_true, if_false, Bool.false_eq_true, Bool.true_eq_false, decide_true, decide_false, Int.reduceAdd, Int.reduceSub, Int.reduceMul, Int.reducePow, Int.reduceNeg, Int.reduceLT, Int.reduceLE, Int.reduceToNat, e_din, hk, Option.isSome_none, e1, e2, keys_sL]
    · rw [F_best_text]
      simp (disch := (first | omega | (simp only [List.length_cons, List.length_nil, List.length_append, List.length_map, List.length_replicate, List.length_range, iL_len, sL_len]; omega) | assumption)) only [dDef, dSeq, dAsg, dRet, dExp, dIfS, dFor, dVal, dIm, dVar, dC, d1, d2, d2B, d2C, d1B, dN, evL, dBl, dTr, dTrB, dTru, dNot, dAnd, dOr, dBv, dAndV, dOrV, dIfE, dIfX, dChain, dNx, dApp, dPop, dExt, gSet, gTupF, gsCons, gsNil, setG, setF, slG, slS, dCall, evArgs, putB, dSl, evP, dItA, dRange, dDput, dTry, catchL, o_ok, o_ex, b_ok, b_ex, mkSl, outs, frz, flat1, e_mul, e_fdiv, e_mod, e_add, e_sub, e_lt, e_le, e_gt, e_ge, e_lst, e_tup, e_len, e_len1, e_rg1, e_rg2, e_addl, e_addt, e_adds, e_mull, e_sll, lc_nil, tTrue, freeAt, lt_sz, le_sz, oList, oTuple, Bool.false_and, Bool.true_and, Bool.and_true, Bool.not_true, Bool.not_false, Option.bind_some, Option.map_some, List.length_cons, List.length_nil, List.zip_cons_cons, List.zip_nil_right, List.map_cons, List.map_nil, List.cons_append, List.nil_append, List.getElem?_cons_zero, List.getElem?_cons_succ, List.set_cons_zero, List.set_cons_succ, Nat.reduceAdd, Nat.reduceSub, List.replicate, if_true, if_false, Bool.false_eq_true, Bool.true_eq_false, decide_true, decide_false, Int.reduceAdd, Int.reduceSub, Int.reduceMul, Int.reducePow, Int.reduceNeg, Int.reduceLT, Int.reduceLE, Int.reduceToNat, e_din, hk, Option.isSome_none, e1, e2, keys_sL]
end DV
namespace DV
open PySem L2
def L3 : List Str := ["p", "b", "s"]
theorem isi_lst (ds : List D) : oIsi "list" (.lst ds) = some (.im (.bl true)) := rfl
theorem isi_str (x : Str) : oIsi "str" (.str x) = some (.im (.bl true)) := rfl
theorem l3_ok : ∀ x ∈ L3, PyData.strOk x = true ∧ x.length = 1 ∧ (decide (x.cps.toList < ("a" : Str).cps.toList)) = false ∧ (decide (("z" : Str).cps.toList < x.cps.toList)) = false := by decide +kernel
theorem l3_okl {cs : List Str} (h : ∀ x ∈ cs, x ∈ L3) : Okl cs := fun x hx => ⟨(l3_ok x (h x hx)).1, (l3_ok x (h x hx)).2.1⟩
theorem e_isl {x : Str} (h : x ∈ L3) : F_is_letter [.im (.str x)] = .ret (.bl true) [some (.im (.str x))] := by
  obtain ⟨h1, h2, h3, h4⟩ := l3_ok x h
  have hl := l_str (z := x) (by omega)
  have hq : oEq (.int (x.length : Nat)) (.int 1) = some (.im (.bl true)) := by rw [h2]; rfl
  simp (disch := (first | omega | (simp only [List.length_cons, List.length_nil, List.length_append, List.length_map, List.length_replicate, List.length_range, iL_len, sL_len]; omega) | assumption)) only [dDef, dSeq, dAsg, dRet, dExp, dIfS, dFor, dVal, dIm, dVar, dC, d1, d2, d2B, d2C, d1B, dN, evL, dBl, dTr, dTrB, dTru, dNot, dAnd, dOr, dBv, dAndV, dOrV, dIfE, dIfX, dChain, dNx, dApp, dPop, dExt, gSet, gTupF, gsCons, gsNil, setG, setF, slG, slS, dCall, evArgs, putB, dSl, evP, dItA, dRange, dDput, dTry, catchL, o_ok, o_ex, b_ok, b_ex, mkSl, outs, frz, flat1, e_mul, e_fdiv, e_mod, e_add, e_sub, e_lt, e_le, e_gt, e_ge, e_lst, e_tup, e_len, e_len1, e_rg1, e_rg2, e_addl, e_addt, e_adds, e_mull, e_sll, lc_nil, tTrue, freeAt, lt_sz, le_sz, oList, oTuple, Bool.false_and, Bool.true_and, Bool.and_true, Bool.not_true, Bool.not_false, Option.bind_some, Option.map_some, List.length_cons, List.length_nil, List.zip_cons_cons, List.zip_nil_right, List.map_cons, List.map_nil, List.cons_append, List.nil_append, List.getElem?_cons_zero, List.getElem?_cons_succ, List.set_cons_zero, List.set_cons_succ, Nat.reduceAdd, Nat.reduceSub, List.replicate, if_true, if_false, Bool.false_eq_true, Bool.true_eq_false, decide_true, decide_false, Int.reduceAdd, Int.reduceSub, Int.reduceMul, Int.reducePow, Int.reduceNeg, Int.reduceLT, Int.reduceLE, Int.reduceToNat, F_is_letter, isi_str, hl, hq, oLe, h3, h4]
theorem cl_lc (cs : List Str) (m : SV) : ∀ (xs : List Str), (∀ x ∈ xs, x ∈ L3) → lcL 2 F_check_letters_t1 F_check_letters_e1 (sL xs) [⟨true, some (.im (.lst (sL cs)))⟩, ⟨true, some m⟩, ⟨false, none⟩] = .ok [] [⟨true, some (.im (.lst (sL cs)))⟩, ⟨true, some m⟩, ⟨false, none⟩]
  | [], h => rfl
  | x :: xs, h => by
    have ih := cl_lc cs m xs fun y hy => h y (List.mem_cons_of_mem _ hy)
    have hx := e_isl (h x (by simp))
    have es : sL (x :: xs) = .str x :: sL xs := rfl
    rw [es]
    have ht : F_check_letters_t1 [⟨true, some (.im (.lst (sL cs)))⟩, ⟨true, some m⟩, ⟨false, some (.im (.str x))⟩] = .ok false [⟨true, some (.im (.lst (sL cs)))⟩, ⟨true, some m⟩, ⟨false, some (.im (.str x))⟩] := by simp (disch := (first | omega | (simp only [List.length_cons, List.length_nil, List.length_append, List.length_map, List.length_replicate, List.length_range, iL_len, sL_len]; omega) | assumption)) only [dDef, dSeq, dAsg, dRet, dExp, dIfS, dFor, dVal, dIm, dVar, dC, d1, d2, d2B, d2C, d1B, dN, evL, dBl, dTr, dTrB, dTru, dNot, dAnd, dOr, dBv, dAndV, dOrV, dIfE, dIfX, dChain, dNx, dApp, dPop, dExt, gSet, gTupF, gsCons, gsNil, setG, setF, slG, slS, dCall, evArgs, putB, dSl, evP, dItA, dRange, dDput, dTry, catchL, o_ok, o_ex, b_ok, b_ex, mkSl, outs, frz, flat1, e_mul, e_fdiv, e_mod, e_add, e_sub, e_lt, e_le, e_gt, e_ge, e_lst, e_tup, e_len, e_len1, e_rg1, e_rg2, e_addl, e_addt, e_adds, e_mull, e_sll, lc_nil, tTrue, freeAt, lt_sz, le_sz, oList, oTuple, Bool.false_and, Bool.true_and, Bool.and_true, Bool.not_true, Bool.not_false, Option.bind_some, Option.map_some, List.length_cons, List.length_nil, List.zip_cons_cons, List.zip_nil_right, List.map_cons, List.map_nil, List.cons_append, List.nil_append, List.getElem?_cons_zero, List.getElem?_cons_succ, List.set_cons_zero, List.set_cons_succ, Nat.reduceAdd, Nat.reduceSub, List.replicate, if_true, if_false, Bool.false_eq_true, Bool.true_eq_false, decide_true, decide_false, Int.reduceAdd, Int.reduceSub, Int.reduceMul, Int.reducePow, Int.reduceNeg, Int.reduceLT, Int.reduceLE, Int.reduceToNat, F_check_letters_t1, hx]
    simp (disch := (first | omega | (simp only [List.length_cons, List.length_nil, List.length_append, List.length_map, List.length_replicate, List.length_range, iL_len, sL_len]; omega) | assumption)) only [dDef, dSeq, dAsg, dRet, dExp, dIfS, dFor, dVal, dIm, dVar, dC, d1, d2, d2B, d2C, d1B, dN, evL, dBl, dTr, dTrB, dTru, dNot, dAnd, dOr, dBv, dAndV, dOrV, dIfE, dIfX, dChain, dNx, dApp, dPop, dExt, gSet, gTupF, gsCons, gsNil, setG, setF, slG, slS, dCall, evArgs, putB, dSl, evP, dItA, dRange, dDput, dTry, catchL, o_ok, o_ex, b_ok, b_ex, mkSl, outs, frz, flat1, e_mul, e_fdiv, e_mod, e_add, e_sub, e_lt, e_le, e_gt, e_ge, e_lst, e_tup, e_len, e_len1, e_rg1, e_rg2, e_addl, e_addt, e_adds, e_mull, e_sll, lc_nil, tTrue, freeAt, lt_sz, le_sz, oList, oTuple, Bool.false_and, Bool.true_and, Bool.and_true, Bool.not_true, Bool.not_false, Option.bind_some, Option.map_some, List.length_cons, List.length_nil, List.zip_cons_cons, List.zip_nil_right, List.map_cons, List.map_nil, List.cons_append, List.nil_append, List.getElem?_cons_zero, List.getElem?_cons_succ, List.set_cons_zero, List.set_cons_succ, Nat.reduceAdd, Nat.reduceSub, List.replicate, if_true, if_false, Bool.false_eq_true, Bool.true_eq_false, decide_true, decide_false, Int.reduceAdd, Int.reduceSub, Int.reduceMul, Int.reducePow, Int.reduceNeg, Int.reduceLT, Int.reduceLE, Int.reduceToNat, lcL, ht, ih]
theorem e_check {cs : List Str} (h : ∀ x ∈ cs, x ∈ L3) (h0 : 1 ≤ cs.length) (h1 : cs.length ≤ 60) : F_check_letters [.im (.lst (sL cs)), .im (.int 60)] = .ret .non [some (.im (.lst (sL cs))), some (.im (.int 60))] := by
  have a1 : (1 : Int) ≤ (cs.length : Int) := by omega
  have a2 : (cs.length : Int) ≤ 60 := by omega
  have hl := cl_lc cs (.im (.int 60)) cs h
  simp (disch := (first | omega | (simp only [List.length_cons, List.length_nil, List.length_append, List.length_map, List.length_replicate, List.length_range, iL_len, sL_len]; omega) | assumption)) only [dDef, dSeq, dAsg, dRet, dExp, dIfS, dFor, dVal, dIm, dVar, dC, d1, d2, d2B, d2C, d1B, dN, evL, dBl, dTr, dTrB, dTru, dNot, dAnd, dOr, dBv, dAndV, dOrV, dIfE, dIfX, dChain, dNx, dApp, dPop, dExt, gSet, gTupF, gsCons, gsNil, setG, setF, slG, slS, dCall, evArgs, putB, dSl, evP, dItA, dRange, dDput, dTry, catchL, o_ok, o_ex, b_ok, b_ex, mkSl, outs, frz, flat1, e_mul, e_fdiv, e_mod, e_add, e_sub, e_lt, e_le, e_gt, e_ge, e_lst, e_tup, e_len, e_len1, e_rg1, e_rg2, e_addl, e_addt, e_adds, e_mull, e_sll, lc_nil, tTrue, freeAt, lt_sz, le_sz, oList, oTuple, Bool.false_and, Bool.true_and, Bool.and_true, Bool.not_true, Bool.not_false, Option.bind_some, Option.map_some, List.length_cons, List.length_nil, List.zip_cons_cons, List.zip_nil_right, List.map_cons, List.map_nil, List.cons_append, List.nil_append, List.getElem?_cons_zero, List.getElem?_cons_succ, List.set_cons_zero, List.set_cons_succ, Nat.reduceAdd, Nat.reduceSub, List.replicate, if_true, if_false, Bool.false_eq_true, Bool.true_eq_false, decide_true, decide_false, Int.reduceAdd, Int.reduceSub, Int.reduceMul, Int.reducePow, Int.reduceNeg, Int.reduceLT, Int.reduceLE, Int.reduceToNat, F_check_letters, isi_lst, l_lst, sL_len, a1, a2, dComp, hl, List.isEmpty_nil]
theorem e_written {cs : List Str} (h : ∀ x ∈ cs, x ∈ L3) (h0 : 1 ≤ cs.length) (h1 : cs.length ≤ 60) : ∃ o, F_written [.ol (sL cs)] = .ret (.str (Bt cs)) [o] := by
  obtain ⟨ks, vs, o, kn, e⟩ := bt_all cs (by omega) 128 cs (.im (.lst (sL cs))) [] [] ⟨0, cs.length, Nat.zero_le _, Nat.le_refl _, by simp⟩ (fun z => by rw [z] at h0; simp at h0) (l3_okl h) (by omega) .nil (.inr rfl)
  have hc := e_check h h0 (by omega)
  refine ⟨some (.im (.lst (sL cs))), ?_⟩
  simp (disch := (first | omega | (simp only [List.length_cons, List.length_nil, List.length_append, List.length_map, List.length_replicate, List.length_range, iL_len, sL_len]; omega) | assumption)) only [dDef, dSeq, dAsg, dRet, dExp, dIfS, dFor, dVal, dIm, dVar, dC, d1, d2, d2B, d2C, d1B, dN, evL, dBl, dTr, dTrB, dTru, dNot, dAnd, dOr, dBv, dAndV, dOrV, dIfE, dIfX, dChain, dNx, dApp, dPop, dExt, gSet, gTupF, gsCons, gsNil, setG, setF, slG, slS, dCall, evArgs, putB, dSl, evP, dItA, dRange, dDput, dTry, catchL, o_ok, o_ex, b_ok, b_ex, mkSl, outs, frz, flat1, e_mul, e_fdiv, e_mod, e_add, e_sub, e_lt, e_le, e_gt, e_ge, e_lst, e_tup, e_len, e_len1, e_rg1, e_rg2, e_addl, e_addt, e_adds, e_mull, e_sll, lc_nil, tTrue, freeAt, lt_sz, le_sz, oList, oTuple, Bool.false_and, Bool.true_and, Bool.and_true, Bool.not_true, Bool.not_false, Option.bind_some, Option.map_some, List.length_cons, List.length_nil, List.zip_cons_cons, List.zip_nil_right, List.map_cons, List.map_nil, List.cons_append, List.nil_append, List.getElem?_cons_zero, List.getElem?_cons_succ, List.set_cons_zero, List.set_cons_succ, Nat.reduceAdd, Nat.reduceSub, List.replicate, if_true, if_false, Bool.false_eq_true, Bool.true_eq_false, decide_true, decide_false, Int.reduceAdd, Int.reduceSub, Int.reduceMul, Int.reducePow, Int.reduceNeg, Int.reduceLT, Int.reduceLE, Int.reduceToNat, F_written, hc, e]

/-! ### the law's own tables -/
/-- t is written for all of part -/
inductive PI1 (part : List Str) : Str → Prop
  | one {c : Str} : part = [c] → PI1 part c
  | run {c : Str} {m : Nat} : 2 ≤ m → part = List.replicate m c → PI1 part (c ++ ns m)
  | grp {s k : Nat} : 1 ≤ s → 2 ≤ k → part.length = k * s → part = (List.replicate k (part.take s)).flatten → PI1 part ("(" ++ Bt (part.take s) ++ ")" ++ ns k)
def LC (cs : List Str) (u : Str) : Prop := PI1 cs u ∨ ∃ m t, 1 ≤ m ∧ m < cs.length ∧ PI1 (cs.take m) t ∧ u = t ++ Bt (cs.drop m)
theorem Bt_one {c : Str} (h : c.length = 1) : Bt [c] = c := by
  have hl := Bt_least (cs := [c]) (by simp)
  obtain ⟨t, m, i, e⟩ := hl.1
  have hp := i.pos
  simp only [List.length_singleton] at hp
  have hm : m = 1 := by omega
  cases i with
  | one h2 => simp at h2; subst h2; rw [e]; rfl
  | run _ a _ _ => omega
  | grp a b _ _ => 
    rename_i s k e2
    have := Nat.mul_le_mul b a
    omega
/-- what is not of the program's kind is longer than one that is -/
theorem pi_item {cs : List Str} (ok : Okl cs) {m : Nat} (h1 : 1 ≤ m) (h2 : m ≤ cs.length) {t : Str} (h : PI1 (cs.take m) t) : Item Bt cs t m ∨ ∃ t', Item Bt cs t' m ∧ t'.length < t.length := by
  have hlen : (cs.take m).length = m := by rw [List.length_take]; omega
  have hget : cs[0]? = (cs.take m)[0]? := by rw [List.getElem?_take_of_lt (by omega)]
  cases h with
  | one e =>
    rw [e] at hlen hget
    have hm : 1 = m := hlen
    subst hm
    exact .inl (.one hget)
  | run a e =>
    rename_i c n
    have : n = m := by rw [e] at hlen; simpa using hlen
    subst this
    refine .inl (.run ?_ a h2 e)
    rw [hget, e, List.getElem?_replicate, if_pos (by omega)]
  | grp a b l e =>
    rename_i s k
    rw [hlen] at l
    subst l
    have hs : s ≤ k * s := Nat.le_mul_of_pos_left s (by omega)
    have et : (cs.take (k * s)).take s = cs.take s := by rw [List.take_take, Nat.min_eq_left hs]
    rw [et] at e ⊢
    by_cases c : 2 ≤ s
    · exact .inl (.grp c b h2 e)
    · have : s = 1 := by omega
      subst this
      obtain ⟨c, hc⟩ : ∃ c, cs[0]? = some c := ⟨_, List.getElem?_eq_getElem (by omega)⟩
      have e1 : cs.take 1 = [c] := by rw [List.take_one]; simp [List.head?_eq_getElem?, hc]
      have hcl := (ok c (List.mem_of_getElem? hc)).2
      rw [e1] at e ⊢
      rw [Nat.mul_one] at e h2 ⊢
      refine .inr ⟨c ++ ns k, .run hc b h2 ?_, ?_⟩
      · rw [e]; simp
      · have l1 : ("(" : Str).length = 1 := by decide +kernel
        have l2 : (")" : Str).length = 1 := by decide +kernel
        rw [Bt_one hcl, str_app, str_app, str_app, str_app]
        omega
theorem item_pi {cs : List Str} {m : Nat} {t : Str} (h : Item Bt cs t m) : PI1 (cs.take m) t := by
  have hp := h.pos
  cases h with
  | one h => 
    refine .one ?_
    rw [List.take_one]; simp [List.head?_eq_getElem?, h]
  | run h a b e => exact .run a e
  | grp a b d e =>
    rename_i s k
    have hs : s ≤ k * s := Nat.le_mul_of_pos_left s (by omega)
    have et : (cs.take (k * s)).take s = cs.take s := by rw [List.take_take, Nat.min_eq_left hs]
    have := PI1.grp (part := cs.take (k * s)) (s := s) (k := k) (by omega) b (by rw [List.length_take]; omega) (by rw [et]; exact e)
    rw [et] at this
    exact this
theorem lt_len {a b : Str} (h : a.length < b.length) : ltT a b = true := by
  unfold ltT
  rw [if_neg (by omega)]
  simpa using h
theorem cand_lc {cs : List Str} {u : Str} (h : Cand Bt cs u) : LC cs u := by
  obtain ⟨t, m, i, rfl⟩ := h
  have hp := i.pos
  unfold whole
  by_cases c : m = cs.length
  · rw [if_pos c]
    have := item_pi i
    rw [c, List.take_length] at this
    exact .inl this
  · rw [if_neg c]
    exact .inr ⟨m, t, hp.1, by omega, item_pi i, rfl⟩
theorem lc_least {cs : List Str} (ok : Okl cs) (h0 : cs ≠ []) {x : Str} (h : Least (LC cs) x) : x = Bt cs := by
  have hl : 1 ≤ cs.length := by
    cases cs with
    | nil => exact absurd rfl h0
    | cons c r => simp
  refine Least.the (P := Cand Bt cs) ⟨?_, fun u hu => h.2 u (cand_lc hu)⟩ (Bt_least h0)
  rcases h.1 with hp | ⟨m, t, h1, h2, hp, rfl⟩
  · rw [← List.take_length (l := cs)] at hp
    rcases pi_item ok hl (Nat.le_refl _) hp with i | ⟨t', i, hlt⟩
    · exact ⟨x, cs.length, i, (if_pos rfl).symm⟩
    · have := h.2 t' (cand_lc ⟨t', cs.length, i, (if_pos rfl).symm⟩)
      rw [lt_len hlt] at this; cases this
  · have hm : ¬ m = cs.length := by omega
    rcases pi_item ok h1 (by omega) hp with i | ⟨t', i, hlt⟩
    · exact ⟨t, m, i, (if_neg hm).symm⟩
    · have := h.2 (t' ++ Bt (cs.drop m)) (cand_lc ⟨t', m, i, (if_neg hm).symm⟩)
      rw [lt_len (by rw [str_app, str_app]; omega)] at this; cases this
end DV
namespace DV
open PySem L2
theorem e_dget2 {a b : Int} {ks : List (List Key)} {vs : List D} {v : D} (h : assoc ks vs [.inl a, .inl b] = some v) : oDget (.dT ks vs) (.tup [.int a, .int b]) = some (.im v) := by
  unfold oDget dGet
  simp only [keysD, keyD, Option.map_some, h]
abbrev Ii (L P : List Str) (i j : Int) (ks : List (List Key)) (vs : List D) (ts : List Str) (sz : Option SV) : S := [⟨true, some (.im (.lst (sL L)))⟩, ⟨true, some (.im (.int i))⟩, ⟨true, some (.im (.int j))⟩, ⟨true, some (.ot ks vs)⟩, ⟨false, some (.im (.lst (sL P)))⟩, ⟨false, some (.ol (sL ts))⟩, ⟨false, sz⟩]
theorem it_b1 {L P : List Str} (ok : Okl P) (hn : P.length ≤ 60) (i j : Int) (ks : List (List Key)) (vs : List D) (tb : ∀ s : Nat, 1 ≤ s → s < P.length → ∃ l, assoc ks vs [.inl i, .inl (i + (s : Int))] = some (.tup [.int l, .str (Bt (P.take s))])) :
    ∀ (cnt s0 : Nat) (ts : List Str) (sz : Option SV), 1 ≤ s0 → s0 + cnt = P.length → ts.length + cnt ≤ 1000 →
      ∃ ts' sz', forL (setG 6) F__law_items_b1 (rangeD s0 cnt) (Ii L P i j ks vs ts sz) = .nx (Ii L P i j ks vs ts' sz') ∧ ts'.length ≤ ts.length + cnt ∧
        ∀ t, t ∈ ts' ↔ t ∈ ts ∨ ∃ s k, s0 ≤ s ∧ s < s0 + cnt ∧ 2 ≤ k ∧ P.length = k * s ∧ P = (List.replicate k (P.take s)).flatten ∧ t = "(" ++ Bt (P.take s) ++ ")" ++ ns k
  | 0, s0, ts, sz, h1, h2, h3 => ⟨ts, sz, rfl, by omega, fun t => ⟨.inl, fun h => h.elim id fun ⟨s, _, a, b, _⟩ => absurd b (by omega)⟩⟩
  | cnt + 1, s0, ts, sz, h1, h2, h3 => by
    have c1 : ((s0 : Nat) : Int) + 1 = ((s0 + 1 : Nat) : Int) := by omega
    have hmod : ((P.length : Nat) : Int) % (s0 : Int) = ((P.length % s0 : Nat) : Int) := (Int.natCast_emod _ _).symm
    have hdiv : ((P.length : Nat) : Int) / (s0 : Int) = ((P.length / s0 : Nat) : Int) := (Int.natCast_ediv _ _).symm
    obtain ⟨q, hq⟩ : ∃ q, q = P.length / s0 := ⟨_, rfl⟩
    have hqle : q ≤ P.length := by rw [hq]; exact Nat.div_le_self _ _
    have cut2 : cutD (sL P) none (some (s0 : Int)) = sL (P.take s0) := by
      rw [cut_to]
      unfold sL
      rw [List.map_take]
    have key : ∀ (ts1 : List Str), F__law_items_b1 (Ii L P i j ks vs ts (some (.im (.int s0)))) = .nx (Ii L P i j ks vs ts1 (some (.im (.int s0)))) → ts1.length ≤ ts.length + 1 →
        (∀ t, t ∈ ts1 ↔ t ∈ ts ∨ ∃ k, 2 ≤ k ∧ P.length = k * s0 ∧ P = (List.replicate k (P.take s0)).flatten ∧ t = "(" ++ Bt (P.take s0) ++ ")" ++ ns k) →
        ∃ ts' sz', forL (setG 6) F__law_items_b1 (rangeD s0 (cnt + 1)) (Ii L P i j ks vs ts sz) = .nx (Ii L P i j ks vs ts' sz') ∧ ts'.length ≤ ts.length + (cnt + 1) ∧
        ∀ t, t ∈ ts' ↔ t ∈ ts ∨ ∃ s k, s0 ≤ s ∧ s < s0 + (cnt + 1) ∧ 2 ≤ k ∧ P.length = k * s ∧ P = (List.replicate k (P.take s)).flatten ∧ t = "(" ++ Bt (P.take s) ++ ")" ++ ns k := by
      intro ts1 e1 l1 m1
      obtain ⟨ts2, sz2, e2, l2, m2⟩ := it_b1 ok hn i j ks vs tb cnt (s0 + 1) ts1 (some (.im (.int s0))) (by omega) (by omega) (by omega)
      refine ⟨ts2, sz2, ?_, by omega, fun t => ?_⟩
      · rw [← e2]
        simp (disch := (first | omega | (simp only [List.length_cons, List.length_nil, List.length_append, List.length_map, List.length_replicate, List.length_range, iL_len, sL_len]; omega) | assumption)) only [dDef, dSeq, dAsg, dRet, dExp, dIfS, dFor, dVal, dIm, dVar, dC, d1, d2, d2B, d2C, d1B, dN, evL, dBl, dTr, dTrB, dTru, dNot, dAnd, dOr, dBv, dAndV, dOrV, dIfE, dIfX, dChain, dNx, dApp, dPop, dExt, gSet, gTupF, gsCons, gsNil, setG, setF, slG, slS, dCall, evArgs, putB, dSl, evP, dItA, dRange, dDput, dTry, catchL, o_ok, o_ex, b_ok, b_ex, mkSl, outs, frz, flat1, e_mul, e_fdiv, e_mod, e_add, e_sub, e_lt, e_le, e_gt, e_ge, e_lst, e_tup, e_len, e_len1, e_rg1, e_rg2, e_addl, e_addt, e_adds, e_mull, e_sll, lc_nil, tTrue, freeAt, lt_sz, le_sz, oList, oTuple, Bool.false_and, Bool.true_and, Bool.and_true, Bool.not_true, Bool.not_false, Option.bind_some, Option.map_some, List.length_cons, List.length_nil, List.zip_cons_cons, List.zip_nil_right, List.map_cons, List.map_nil, List.cons_append, List.nil_append, List.getElem?_cons_zero, List.getElem?_cons_succ, List.set_cons_zero, List.set_cons_succ, Nat.reduceAdd, Nat.reduceSub, List.replicate, if_true, if_false, Bool.false_eq_true, Bool.true_eq_false, decide_true, decide_false, Int.reduceAdd, Int.reduceSub, Int.reduceMul, Int.reducePow, Int.reduceNeg, Int.reduceLT, Int.reduceLE, Int.reduceToNat, forL, rg_s, e1, c1]
      · rw [m2, m1]
        constructor
        · rintro ((h | ⟨k, a, b, c, d⟩) | ⟨s, k, a1, a2, a, b, c, d⟩)
          · exact .inl h
          · exact .inr ⟨s0, k, by omega, by omega, a, b, c, d⟩
          · exact .inr ⟨s, k, by omega, by omega, a, b, c, d⟩
        · rintro (h | ⟨s, k, a1, a2, a, b, c, d⟩)
          · exact .inl (.inl h)
          · by_cases z : s = s0
            · subst z; exact .inl (.inr ⟨k, a, b, c, d⟩)
            · exact .inr ⟨s, k, by omega, by omega, a, b, c, d⟩
    by_cases hz : P.length % s0 = 0
    · have hpl : P.length = q * s0 := by rw [hq]; exact (Nat.div_mul_cancel (Nat.dvd_of_mod_eq_zero hz)).symm
      have hz' : ((P.length % s0 : Nat) : Int) = 0 := by rw [hz]; rfl
      have hkq : ∀ k, P.length = k * s0 → k = q := fun k hk => by
        rw [hq, hk, Nat.mul_div_cancel _ (by omega)]
      have hml : (sL (P.take s0)).length * ((q : Nat) : Int).toNat ≤ 16777216 := by
        rw [sL_len, List.length_take, Int.toNat_natCast]
        have := Nat.mul_le_mul (Nat.min_le_left s0 P.length) (Nat.le_refl q)
        rw [Nat.mul_comm s0 q] at this
        omega
      have hqe : oEq (.lst (sL P)) (.lst (sL (List.replicate q (P.take s0)).flatten)) = some (.im (.bl (decide (P = (List.replicate q (P.take s0)).flatten)))) := e_eqD (q_sL ok.ok fun x hx => by
        obtain ⟨z, hz, hx⟩ := List.mem_flatten.mp hx
        rw [List.eq_of_mem_replicate hz] at hx
        exact (ok.take s0).ok x hx)
      rw [← hq] at hdiv
      have htn : ((q : Nat) : Int).toNat = q := Int.toNat_natCast q
      by_cases hp : P = (List.replicate q (P.take s0)).flatten
      · rw [decide_eq_true hp] at hqe
        obtain ⟨l, htb⟩ := tb s0 h1 (by omega)
        have hs' := e_str (n := q) (by omega)
        have l1 : ("(" : Str).length = 1 := by decide +kernel
        have l2 : (")" : Str).length = 1 := by decide +kernel
        have l3 := Bt_len _ (P.take s0) (Nat.le_refl _) (ok.take s0)
        rw [List.length_take] at l3
        have l4 := ns_len q (by omega)
        have a1 : ("(" : Str).length + (Bt (P.take s0)).length ≤ 16777216 := by omega
        have a2 : (("(" : Str) ++ Bt (P.take s0)).length + (")" : Str).length ≤ 16777216 := by rw [str_app]; omega
        have a3 : (("(" : Str) ++ Bt (P.take s0) ++ (")" : Str)).length + (ns q).length ≤ 16777216 := by rw [str_app, str_app]; omega
        have hg := e_dget2 htb
        refine key (ts ++ ["(" ++ Bt (P.take s0) ++ ")" ++ ns q]) ?_ (by simp) fun t => ?_
        · simp (disch := (first | omega | (simp only [List.length_cons, List.length_nil, List.length_append, List.length_map, List.length_replicate, List.length_range, iL_len, sL_len]; omega) | assumption)) only [dDef, dSeq, dAsg, dRet, dExp, dIfS, dFor, dVal, dIm, dVar, dC, d1, d2, d2B, d2C, d1B, dN, evL, dBl, dTr, dTrB, dTru, dNot, dAnd, dOr, dBv, dAndV, dOrV, dIfE, dIfX, dChain, dNx, dApp, dPop, dExt, gSet, gTupF, gsCons, gsNil, setG, setF, slG, slS, dCall, evArgs, putB, dSl, evP, dItA, dRange, dDput, dTry, catchL, o_ok, o_ex, b_ok, b_ex, mkSl, outs, frz, flat1, e_mul, e_fdiv, e_mod, e_add, e_sub, e_lt, e_le, e_gt, e_ge, e_lst, e_tup, e_len, e_len1, e_rg1, e_rg2, e_addl, e_addt, e_adds, e_mull, e_sll, lc_nil, tTrue, freeAt, lt_sz, le_sz, oList, oTuple, Bool.false_and, Bool.true_and, Bool.and_true, Bool.not_true, Bool.not_false, Option.bind_some, Option.map_some, List.length_cons, List.length_nil, List.zip_cons_cons, List.zip_nil_right, List.map_cons, List.map_nil, List.cons_append, List.nil_append, List.getElem?_cons_zero, List.getElem?_cons_succ, List.set_cons_zero, List.set_cons_succ, Nat.reduceAdd, Nat.reduceSub, List.replicate, if_true, if_false, Bool.false_eq_true, Bool.true_eq_false, decide_true, decide_false, Int.reduceAdd, Int.reduceSub, Int.reduceMul, Int.reducePow, Int.reduceNeg, Int.reduceLT, Int.reduceLE, Int.reduceToNat, F__law_items_b1, l_lst, sL_len, hmod, hz', e_eqI, hdiv, cut2, hml, htn, sL_rep, hqe, hg, x_tup, at_1, a1, a2, a3, hs', sL_snoc]
        · simp only [List.mem_append, List.mem_singleton]
          constructor
          · rintro (h | rfl)
            · exact .inl h
            · refine .inr ⟨q, ?_, hpl, hp, rfl⟩
              cases q with
              | zero => omega
              | succ q => cases q with
                | zero => omega
                | succ q => omega
          · rintro (h | ⟨k, a, b, c, d⟩)
            · exact .inl h
            · rw [hkq k b] at d; exact .inr d
      · rw [decide_eq_false hp] at hqe
        refine key ts ?_ (by omega) fun t => ⟨.inl, fun h => h.elim id fun ⟨k, a, b, c, d⟩ => ?_⟩
        · simp (disch := (first | omega | (simp only [List.length_cons, List.length_nil, List.length_append, List.length_map, List.length_replicate, List.length_range, iL_len, sL_len]; omega) | assumption)) only [dDef, dSeq, dAsg, dRet, dExp, dIfS, dFor, dVal, dIm, dVar, dC, d1, d2, d2B, d2C, d1B, dN, evL, dBl, dTr, dTrB, dTru, dNot, dAnd, dOr, dBv, dAndV, dOrV, dIfE, dIfX, dChain, dNx, dApp, dPop, dExt, gSet, gTupF, gsCons, gsNil, setG, setF, slG, slS, dCall, evArgs, putB, dSl, evP, dItA, dRange, dDput, dTry, catchL, o_ok, o_ex, b_ok, b_ex, mkSl, outs, frz, flat1, e_mul, e_fdiv, e_mod, e_add, e_sub, e_lt, e_le, e_gt, e_ge, e_lst, e_tup, e_len, e_len1, e_rg1, e_rg2, e_addl, e_addt, e_adds, e_mull, e_sll, lc_nil, tTrue, freeAt, lt_sz, le_sz, oList, oTuple, Bool.false_and, Bool.true_and, Bool.and_true, Bool.not_true, Bool.not_false, Option.bind_some, Option.map_some, List.length_cons, List.length_nil, List.zip_cons_cons, List.zip_nil_right, List.map_cons, List.map_nil, List.cons_append, List.nil_append, List.getElem?_cons_zero, List.getElem?_cons_succ, List.set_cons_zero, List.set_cons_succ, Nat.reduceAdd, Nat.reduceSub, List.replicate, if_true, if_false, Bool.false_eq_true, Bool.true_eq_false, decide_true, decide_false, Int.reduceAdd, Int.reduceSub, Int.reduceMul, Int.reducePow, Int.reduceNeg, Int.reduceLT, Int.reduceLE, Int.reduceToNat, F__law_items_b1, l_lst, sL_len, hmod, hz', e_eqI, hdiv, cut2, hml, htn, sL_rep, hqe]
        · rw [hkq k b] at c; exact absurd c hp
    · have hz' : ¬ ((P.length % s0 : Nat) : Int) = 0 := by omega
      refine key ts ?_ (by omega) fun t => ⟨.inl, fun h => h.elim id fun ⟨k, a, b, c, d⟩ => ?_⟩
      · simp (disch := (first | omega | (simp only [List.length_cons, List.length_nil, List.length_append, List.length_map, List.length_replicate, List.length_range, iL_len, sL_len]; omega) | assumption)) only [dDef, dSeq, dAsg, dRet, dExp, dIfS, dFor, dVal, dIm, dVar, dC, d1, d2, d2B, d2C, d1B, dN, evL, dBl, dTr, dTrB, dTru, dNot, dAnd, dOr, dBv, dAndV, dOrV, dIfE, dIfX, dChain, dNx, dApp, dPop, dExt, gSet, gTupF, gsCons, gsNil, setG, setF, slG, slS, dCall, evArgs, putB, dSl, evP, dItA, dRange, dDput, dTry, catchL, o_ok, o_ex, b_ok, b_ex, mkSl, outs, frz, flat1, e_mul, e_fdiv, e_mod, e_add, e_sub, e_lt, e_le, e_gt, e_ge, e_lst, e_tup, e_len, e_len1, e_rg1, e_rg2, e_addl, e_addt, e_adds, e_mull, e_sll, lc_nil, tTrue, freeAt, lt_sz, le_sz, oList, oTuple, Bool.false_and, Bool.true_and, Bool.and_true, Bool.not_true, Bool.not_false, Option.bind_some, Option.map_some, List.length_cons, List.length_nil, List.zip_cons_cons, List.zip_nil_right, List.map_cons, List.map_nil, List.cons_append, List.nil_append, List.getElem?_cons_zero, List.getElem?_cons_succ, List.set_cons_zero, List.set_cons_succ, Nat.reduceAdd, Nat.reduceSub, List.replicate, if_true, if_false, Bool.false_eq_true, Bool.true_eq_false, decide_true, decide_false, Int.reduceAdd, Int.reduceSub, Int.reduceMul, Int.reducePow, Int.reduceNeg, Int.reduceLT, Int.reduceLE, Int.reduceToNat, F__law_items_b1, l_lst, sL_len, hmod, hz', e_eqI]
      · rw [b, Nat.mul_mod_left] at hz; exact absurd rfl hz
end DV
namespace DV
open PySem L2
def sl (L : List Str) (a b : Nat) : List Str := (L.take b).drop a
theorem sl_len {L : List Str} {a b : Nat} (h : b ≤ L.length) : (sl L a b).length = b - a := by
  unfold sl
  rw [List.length_drop, List.length_take, Nat.min_eq_left h]
theorem sl_take {L : List Str} {a b s : Nat} (h : a + s ≤ b) : (sl L a b).take s = sl L a (a + s) := by
  unfold sl
  rw [List.drop_take, List.drop_take, List.take_take]
  congr 1
  omega
theorem sl_drop {L : List Str} {a b s : Nat} : (sl L a b).drop s = sl L (a + s) b := by
  unfold sl
  rw [List.drop_drop]
theorem e_items {L : List Str} (ok : Okl L) (hn : L.length ≤ 60) {i j : Nat} (hij : i < j) (hj : j ≤ L.length) (ks : List (List Key)) (vs : List D)
    (tb : ∀ s : Nat, 1 ≤ s → s < j - i → ∃ l, assoc ks vs [.inl (i : Int), .inl ((i : Int) + (s : Int))] = some (.tup [.int l, .str (Bt (sl L i (i + s)))])) :
    ∃ ts o, F__law_items [.im (.lst (sL L)), .im (.int (i : Nat)), .im (.int (j : Nat)), .ot ks vs] = .ret (.lst (sL ts)) [o, some (.im (.int (i : Nat))), some (.im (.int (j : Nat))), some (.ot ks vs)] ∧ ts.length ≤ 100 ∧ ∀ t, t ∈ ts ↔ PI1 (sl L i j) t := by
  obtain ⟨P, hP⟩ : ∃ P, P = sl L i j := ⟨_, rfl⟩
  have okP : Okl P := by rw [hP]; exact (ok.take j).drop i
  have hl : P.length = j - i := by rw [hP]; exact sl_len hj
  have tbP : ∀ s : Nat, 1 ≤ s → s < P.length → ∃ l, assoc ks vs [.inl (i : Int), .inl ((i : Int) + (s : Int))] = some (.tup [.int l, .str (Bt (P.take s))]) := fun s h1 h2 => by
    rw [hP, sl_take (by omega)]
    exact tb s h1 (by omega)
  have hcut : cutD (sL L) (some (i : Int)) (some (j : Int)) = sL P := by
    rw [cut_both, hP]
    unfold sL sl
    rw [List.map_drop, List.map_take]
  rw [← hP]
  obtain ⟨c, hc⟩ : ∃ c, P[0]? = some c := ⟨_, List.getElem?_eq_getElem (by omega)⟩
  have hix := sL_ix0 hc
  have hcl := (okP c (List.mem_of_getElem? hc)).2
  by_cases h1 : P.length = 1
  · have hPc : P = [c] := by
      cases P with
      | nil => simp at h1
      | cons x r =>
        simp at hc h1
        rw [hc, h1]
    have h1' : ((P.length : Nat) : Int) = 1 := by omega
    refine ⟨[c], some (.im (.lst (sL L))), ?_, by simp, fun t => ?_⟩
    · have e1 : sL [c] = [D.str c] := rfl
      rw [e1]
      have e2 : ((1 : Int) - 1).toNat = 0 := rfl
      simp (disch := (first | omega | (simp only [List.length_cons, List.length_nil, List.length_append, List.length_map, List.length_replicate, List.length_range, iL_len, sL_len]; omega) | assumption)) only [dDef, dSeq, dAsg, dRet, dExp, dIfS, dFor, dVal, dIm, dVar, dC, d1, d2, d2B, d2C, d1B, dN, evL, dBl, dTr, dTrB, dTru, dNot, dAnd, dOr, dBv, dAndV, dOrV, dIfE, dIfX, dChain, dNx, dApp, dPop, dExt, gSet, gTupF, gsCons, gsNil, setG, setF, slG, slS, dCall, evArgs, putB, dSl, evP, dItA, dRange, dDput, dTry, catchL, o_ok, o_ex, b_ok, b_ex, mkSl, outs, frz, flat1, e_mul, e_fdiv, e_mod, e_add, e_sub, e_lt, e_le, e_gt, e_ge, e_lst, e_tup, e_len, e_len1, e_rg1, e_rg2, e_addl, e_addt, e_adds, e_mull, e_sll, lc_nil, tTrue, freeAt, lt_sz, le_sz, oList, oTuple, Bool.false_and, Bool.true_and, Bool.and_true, Bool.not_true, Bool.not_false, Option.bind_some, Option.map_some, List.length_cons, List.length_nil, List.zip_cons_cons, List.zip_nil_right, List.map_cons, List.map_nil, List.cons_append, List.nil_append, List.getElem?_cons_zero, List.getElem?_cons_succ, List.set_cons_zero, List.set_cons_succ, Nat.reduceAdd, Nat.reduceSub, List.replicate, if_true, if_false, Bool.false_eq_true, Bool.true_eq_false, decide_true, decide_false, Int.reduceAdd, Int.reduceSub, Int.reduceMul, Int.reducePow, Int.reduceNeg, Int.reduceLT, Int.reduceLE, Int.reduceToNat, F__law_items, hcut, l_lst, sL_len, e_eqI, h1', x_lst, hix, e2, rg_0, forL]
    · simp only [List.mem_singleton]
      constructor
      · rintro rfl; exact .one hPc
      · intro h
        cases h with
        | one e => rw [hPc] at e; simp at e; exact e.symm
        | run a e => rw [e] at h1; simp at h1; omega
        | grp a b l e =>
          rename_i s k
          have := Nat.mul_le_mul b a
          omega
  · have h2 : 2 ≤ P.length := by omega
    have h1' : ¬ ((P.length : Nat) : Int) = 1 := by omega
    have h2' : (1 : Int) < ((P.length : Nat) : Int) := by omega
    have e1 : ∀ x : Str, [D.str x] = sL [x] := fun _ => rfl
    have hml : (sL [c]).length * ((P.length : Nat) : Int).toNat ≤ 16777216 := by rw [sL_len, Int.toNat_natCast]; simp; omega
    have hfl : (List.replicate P.length [c]).flatten = List.replicate P.length c := by simp
    have htn : ((P.length : Nat) : Int).toNat = P.length := Int.toNat_natCast _
    have hqe : oEq (.lst (sL P)) (.lst (sL (List.replicate P.length c))) = some (.im (.bl (decide (P = List.replicate P.length c)))) := e_eqD (q_sL okP.ok fun x hx => by rw [List.eq_of_mem_replicate hx]; exact (okP c (List.mem_of_getElem? hc)).1)
    have hcnt : (((P.length : Nat) : Int) - 1).toNat = P.length - 1 := by omega
    have c1 : ((1 : Nat) : Int) = 1 := rfl
    have fin : ∀ t0 : List Str, t0.length ≤ 1 → (∀ t, t ∈ t0 ↔ (P = List.replicate P.length c ∧ t = c ++ ns P.length)) → ∃ ts sz', forL (setG 6) F__law_items_b1 (rangeD 1 (P.length - 1)) (Ii L P (i : Nat) (j : Nat) ks vs t0 none) = .nx (Ii L P (i : Nat) (j : Nat) ks vs ts sz') ∧ ts.length ≤ 100 ∧ ∀ t, t ∈ ts ↔ PI1 P t := by
      intro t0 hl0 hm0
      obtain ⟨ts, sz', e, hlt, hm⟩ := it_b1 okP (by omega) (i : Nat) (j : Nat) ks vs tbP (P.length - 1) 1 t0 none (by omega) (by omega) (by omega)
      simp only [Ii, c1] at e
      refine ⟨ts, sz', e, by omega, fun t => ?_⟩
      rw [hm, hm0]
      constructor
      · rintro (⟨a, rfl⟩ | ⟨s, k, a1, a2, b, d, e, rfl⟩)
        · exact .run h2 a
        · exact .grp a1 b d e
      · intro h
        cases h with
        | one e => rw [e] at h2; simp at h2
        | run a e =>
          rename_i c' m
          have hm : P.length = m := by rw [e]; simp
          have hcc : c' = c := by rw [e, List.getElem?_replicate, if_pos (by omega)] at hc; exact Option.some.inj hc
          subst hcc
          rw [← hm] at e ⊢
          exact .inl ⟨e, rfl⟩
        | grp a b d e =>
          rename_i s k
          have := Nat.mul_le_mul_right s b
          exact .inr ⟨s, k, a, by omega, b, d, e, rfl⟩
    have e0 : ([] : List D) = sL [] := rfl
    by_cases hr : P = List.replicate P.length c
    · rw [decide_eq_true hr] at hqe
      obtain ⟨ts, sz', ef, hlt, hm⟩ := fin [c ++ ns P.length] (by simp) (fun t => by simp only [List.mem_singleton]; exact ⟨fun h => ⟨hr, h⟩, fun h => h.2⟩)
      have hs' := e_str (n := P.length) (by omega)
      have l4 := ns_len P.length (by omega)
      have a1 : c.length + (ns P.length).length ≤ 16777216 := by omega
      have e9 : [D.str (c ++ ns P.length)] = sL [c ++ ns P.length] := rfl
      refine ⟨ts, some (.im (.lst (sL L))), ?_, hlt, hm⟩
      simp (disch := (first | omega | (simp only [List.length_cons, List.length_nil, List.length_append, List.length_map, List.length_replicate, List.length_range, iL_len, sL_len]; omega) | assumption)) only [dDef, dSeq, dAsg, dRet, dExp, dIfS, dFor, dVal, dIm, dVar, dC, d1, d2, d2B, d2C, d1B, dN, evL, dBl, dTr, dTrB, dTru, dNot, dAnd, dOr, dBv, dAndV, dOrV, dIfE, dIfX, dChain, dNx, dApp, dPop, dExt, gSet, gTupF, gsCons, gsNil, setG, setF, slG, slS, dCall, evArgs, putB, dSl, evP, dItA, dRange, dDput, dTry, catchL, o_ok, o_ex, b_ok, b_ex, mkSl, outs, frz, flat1, e_mul, e_fdiv, e_mod, e_add, e_sub, e_lt, e_le, e_gt, e_ge, e_lst, e_tup, e_len, e_len1, e_rg1, e_rg2, e_addl, e_addt, e_adds, e_mull, e_sll, lc_nil, tTrue, freeAt, lt_sz, le_sz, oList, oTuple, Bool.false_and, Bool.true_and, Bool.and_true, Bool.not_true, Bool.not_false, Option.bind_some, Option.map_some, List.length_cons, List.length_nil, List.zip_cons_cons, List.zip_nil_right, List.map_cons, List.map_nil, List.cons_append, List.nil_append, List.getElem?_cons_zero, List.getElem?_cons_succ, List.set_cons_zero, List.set_cons_succ, Nat.reduceAdd, Nat.reduceSub, List.replicate, if_true, if_false, Bool.false_eq_true, Bool.true_eq_false, decide_true, decide_false, Int.reduceAdd, Int.reduceSub, Int.reduceMul, Int.reducePow, Int.reduceNeg, Int.reduceLT, Int.reduceLE, Int.reduceToNat, F__law_items, hcut, l_lst, sL_len, e_eqI, h1', h2', x_lst, hix, e1, hml, htn, sL_rep, hfl, hqe, hs', a1, e9, hcnt, ef]
    · rw [decide_eq_false hr] at hqe
      obtain ⟨ts, sz', ef, hlt, hm⟩ := fin [] (by simp) (fun t => ⟨fun h => by simp at h, fun h => absurd h.1 hr⟩)
      refine ⟨ts, some (.im (.lst (sL L))), ?_, hlt, hm⟩
      simp only [Ii, ← e0] at ef
      simp (disch := (first | omega | (simp only [List.length_cons, List.length_nil, List.length_append, List.length_map, List.length_replicate, List.length_range, iL_len, sL_len]; omega) | assumption)) only [dDef, dSeq, dAsg, dRet, dExp, dIfS, dFor, dVal, dIm, dVar, dC, d1, d2, d2B, d2C, d1B, dN, evL, dBl, dTr, dTrB, dTru, dNot, dAnd, dOr, dBv, dAndV, dOrV, dIfE, dIfX, dChain, dNx, dApp, dPop, dExt, gSet, gTupF, gsCons, gsNil, setG, setF, slG, slS, dCall, evArgs, putB, dSl, evP, dItA, dRange, dDput, dTry, catchL, o_ok, o_ex, b_ok, b_ex, mkSl, outs, frz, flat1, e_mul, e_fdiv, e_mod, e_add, e_sub, e_lt, e_le, e_gt, e_ge, e_lst, e_tup, e_len, e_len1, e_rg1, e_rg2, e_addl, e_addt, e_adds, e_mull, e_sll, lc_nil, tTrue, freeAt, lt_sz, le_sz, oList, oTuple, Bool.false_and, Bool.true_and, Bool.and_true, Bool.not_true, Bool.not_false, Option.bind_some, Option.map_some, List.length_cons, List.length_nil, List.zip_cons_cons, List.zip_nil_right, List.map_cons, List.map_nil, List.cons_append, List.nil_append, List.getElem?_cons_zero, List.getElem?_cons_succ, List.set_cons_zero, List.set_cons_succ, Nat.reduceAdd, Nat.reduceSub, List.replicate, if_true, if_false, Bool.false_eq_true, Bool.true_eq_false, decide_true, decide_false, Int.reduceAdd, Int.reduceSub, Int.reduceMul, Int.reducePow, Int.reduceNeg, Int.reduceLT, Int.reduceLE, Int.reduceToNat, F__law_items, hcut, l_lst, sL_len, e_eqI, h1', h2', x_lst, hix, e1, hml, htn, sL_rep, hfl, hqe, hcnt, ef]
end DV
namespace DV
open PySem L2
def pr (t : Str) : D := .tup [.int (t.length : Nat), .str t]
def pD (ts : List Str) : List D := ts.map pr
theorem pD_len (ts : List Str) : (pD ts).length = ts.length := List.length_map _
theorem pD_snoc (ts : List Str) (t : Str) (n : Int) (h : n = (t.length : Nat)) : pD ts ++ [.tup [.int n, .str t]] = pD (ts ++ [t]) := by
  subst h
  simp [pD, pr]
theorem PI1.len {P : List Str} (ok : Okl P) (hn : P.length ≤ 60) {t : Str} (h : PI1 P t) : t.length ≤ 70 := by
  cases h with
  | one e => have := (ok t (by rw [e]; simp)).2; omega
  | run a e =>
    rename_i c m
    have hm : m = P.length := by rw [e]; simp
    have := (ok c (by rw [e]; exact List.mem_replicate.mpr ⟨by omega, rfl⟩)).2
    have := ns_len m (by omega)
    rw [str_app]
    omega
  | grp a b l e =>
    rename_i s k
    have l1 : ("(" : Str).length = 1 := by decide +kernel
    have l2 : (")" : Str).length = 1 := by decide +kernel
    have l3 := Bt_len _ (P.take s) (Nat.le_refl _) (ok.take s)
    rw [List.length_take] at l3
    have := Nat.le_mul_of_pos_right k (show 0 < s by omega)
    have l4 := ns_len k (by omega)
    rw [str_app, str_app, str_app]
    omega
theorem toPy_pD : ∀ ts : List Str, toPyL (pD ts) = some (ts.map fun t => PyData.tuple [.int (t.length : Nat), .str t])
  | [] => rfl
  | t :: ts => by
    show toPyL (pr t :: pD ts) = _
    have e : toPy (pr t) = some (PyData.tuple [.int (t.length : Nat), .str t]) := rfl
    simp only [toPyL, e, toPy_pD ts, List.map_cons]
theorem plain_pD : ∀ ts : List Str, plainL (pD ts) = true
  | [] => rfl
  | t :: ts => by
    show plainL (pr t :: pD ts) = true
    have e : plainD (pr t) = true := rfl
    simp only [plainL, e, plain_pD ts, Bool.and_self]
theorem depth_pD : ∀ ts : List Str, PyData.depthAll (ts.map fun t => PyData.tuple [.int (t.length : Nat), .str t]) ≤ 1
  | [] => by simp [PyData.depthAll]
  | t :: ts => by
    have ih := depth_pD ts
    simp only [List.map_cons, PyData.depthAll, PyData.depth]
    omega
theorem minD_pD : ∀ (ts : List Str) (t : Str), PySem.W.minD (PyData.tuple [.int (t.length : Nat), .str t]) (ts.map fun t => PyData.tuple [.int (t.length : Nat), .str t]) = PyData.tuple [.int ((minL t ts).length : Nat), .str (minL t ts)]
  | [], t => rfl
  | u :: ts, t => by
    show PySem.W.minD (if PySem.W.dataLt (PyData.tuple [.int (u.length : Nat), .str u]) (PyData.tuple [.int (t.length : Nat), .str t]) then _ else _) _ = _
    rw [dataLt_T]
    have hd : minL t (u :: ts) = minL (if ltT u t = true then u else t) ts := rfl
    rw [hd]
    by_cases h : ltT u t = true
    · rw [if_pos h, if_pos h]; exact minD_pD ts u
    · rw [if_neg h, if_neg h]; exact minD_pD ts t
theorem e_min (t : Str) (ts : List Str) : oMinL [.lst (pD (t :: ts))] = some (.im (pr (minL t ts))) := by
  have ho : ordL (pD (t :: ts)) = some ((t :: ts).map fun t => PyData.tuple [.int (t.length : Nat), .str t]) := by
    unfold ordL
    rw [if_pos (plain_pD _), toPy_pD]
    simp only
    rw [if_pos]
    refine ⟨?_, ?_, Nat.le_trans (depth_pD _) (by omega)⟩
    · refine List.all_eq_true.mpr fun x hx => List.all_eq_true.mpr fun y hy => ?_
      obtain ⟨a, _, rfl⟩ := List.mem_map.mp hx
      obtain ⟨b, _, rfl⟩ := List.mem_map.mp hy
      simp [PySem.W.alike, PySem.W.alikeAll]
    · refine List.all_eq_true.mpr fun x hx => ?_
      obtain ⟨a, _, rfl⟩ := List.mem_map.mp hx
      rfl
  simp only [oMinL, ho, List.map_cons]
  rw [minD_pD]
  rfl
abbrev Sh (L : List Str) (ks : List (List Key)) (vs : List D) (z i j f t k : Option SV) : S := [⟨true, some (.im (.lst (sL L)))⟩, ⟨false, some (.im (.int (L.length : Nat)))⟩, ⟨false, some (.ot ks vs)⟩, ⟨false, z⟩, ⟨false, i⟩, ⟨false, j⟩, ⟨false, f⟩, ⟨false, t⟩, ⟨false, k⟩]
theorem sh_lc (L : List Str) (ks : List (List Key)) (vs : List D) (z i j f k : Option SV) : ∀ ts : List Str, (∀ t ∈ ts, t.length ≤ 70) → lcL 7 tTrue F__law_shortest_e1 (sL ts) (Sh L ks vs z i j f none k) = .ok (pD ts) (Sh L ks vs z i j f none k)
  | [], h => rfl
  | t :: ts, h => by
    have ih := sh_lc L ks vs z i j f k ts fun u hu => h u (List.mem_cons_of_mem _ hu)
    have hl := l_str (z := t) (by have := h t (by simp); omega)
    have es : sL (t :: ts) = .str t :: sL ts := rfl
    have ep : pD (t :: ts) = .tup [.int (t.length : Nat), .str t] :: pD ts := rfl
    have he : F__law_shortest_e1 (Sh L ks vs z i j f (some (.im (.str t))) k) = .ok (.tup [.int (t.length : Nat), .str t]) (Sh L ks vs z i j f (some (.im (.str t))) k) := by simp (disch := (first | omega | (simp only [List.length_cons, List.length_nil, List.length_append, List.length_map, List.length_replicate, List.length_range, iL_len, sL_len]; omega) | assumption)) only [dDef, dSeq, dAsg, dRet, dExp, dIfS, dFor, dVal, dIm, dVar, dC, d1, d2, d2B, d2C, d1B, dN, evL, dBl, dTr, dTrB, dTru, dNot, dAnd, dOr, dBv, dAndV, dOrV, dIfE, dIfX, dChain, dNx, dApp, dPop, dExt, gSet, gTupF, gsCons, gsNil, setG, setF, slG, slS, dCall, evArgs, putB, dSl, evP, dItA, dRange, dDput, dTry, catchL, o_ok, o_ex, b_ok, b_ex, mkSl, outs, frz, flat1, e_mul, e_fdiv, e_mod, e_add, e_sub, e_lt, e_le, e_gt, e_ge, e_lst, e_tup, e_len, e_len1, e_rg1, e_rg2, e_addl, e_addt, e_adds, e_mull, e_sll, lc_nil, tTrue, freeAt, lt_sz, le_sz, oList, oTuple, Bool.false_and, Bool.true_and, Bool.and_true, Bool.not_true, Bool.not_false, Option.bind_some, Option.map_some, List.length_cons, List.length_nil, List.zip_cons_cons, List.zip_nil_right, List.map_cons, List.map_nil, List.cons_append, List.nil_append, List.getElem?_cons_zero, List.getElem?_cons_succ, List.set_cons_zero, List.set_cons_succ, Nat.reduceAdd, Nat.reduceSub, List.replicate, if_true, if_false, Bool.false_eq_true, Bool.true_eq_false, decide_true, decide_false, Int.reduceAdd, Int.reduceSub, Int.reduceMul, Int.reducePow, Int.reduceNeg, Int.reduceLT, Int.reduceLE, Int.reduceToNat, F__law_shortest_e1, hl]
    rw [es, ep]
    simp (disch := (first | omega | (simp only [List.length_cons, List.length_nil, List.length_append, List.length_map, List.length_replicate, List.length_range, iL_len, sL_len]; omega) | assumption)) only [dDef, dSeq, dAsg, dRet, dExp, dIfS, dFor, dVal, dIm, dVar, dC, d1, d2, d2B, d2C, d1B, dN, evL, dBl, dTr, dTrB, dTru, dNot, dAnd, dOr, dBv, dAndV, dOrV, dIfE, dIfX, dChain, dNx, dApp, dPop, dExt, gSet, gTupF, gsCons, gsNil, setG, setF, slG, slS, dCall, evArgs, putB, dSl, evP, dItA, dRange, dDput, dTry, catchL, o_ok, o_ex, b_ok, b_ex, mkSl, outs, frz, flat1, e_mul, e_fdiv, e_mod, e_add, e_sub, e_lt, e_le, e_gt, e_ge, e_lst, e_tup, e_len, e_len1, e_rg1, e_rg2, e_addl, e_addt, e_adds, e_mull, e_sll, lc_nil, tTrue, freeAt, lt_sz, le_sz, oList, oTuple, Bool.false_and, Bool.true_and, Bool.and_true, Bool.not_true, Bool.not_false, Option.bind_some, Option.map_some, List.length_cons, List.length_nil, List.zip_cons_cons, List.zip_nil_right, List.map_cons, List.map_nil, List.cons_append, List.nil_append, List.getElem?_cons_zero, List.getElem?_cons_succ, List.set_cons_zero, List.set_cons_succ, Nat.reduceAdd, Nat.reduceSub, List.replicate, if_true, if_false, Bool.false_eq_true, Bool.true_eq_false, decide_true, decide_false, Int.reduceAdd, Int.reduceSub, Int.reduceMul, Int.reducePow, Int.reduceNeg, Int.reduceLT, Int.reduceLE, Int.reduceToNat, lcL, he, ih]
theorem sh_b1 (L : List Str) (ks : List (List Key)) (vs : List D) (z i : Option SV) (j k : Int) (B : Str) (hB : B.length ≤ 70) (hg : assoc ks vs [.inl k, .inl j] = some (pr B)) : ∀ (ts us : List Str) (t0 : Option SV), (∀ t ∈ ts, t.length ≤ 70) → us.length + ts.length ≤ 100000 →
    ∃ t1, forL (setG 7) F__law_shortest_b1 (sL ts) (Sh L ks vs z i (some (.im (.int j))) (some (.ol (pD us))) t0 (some (.im (.int k)))) = .nx (Sh L ks vs z i (some (.im (.int j))) (some (.ol (pD (us ++ ts.map fun t => t ++ B)))) t1 (some (.im (.int k)))) ∧ (t1 = t0 ∨ ∃ d, t1 = some (.im d))
  | [], us, t0, h, hl => ⟨t0, by simp [sL, forL], .inl rfl⟩
  | t :: ts, us, t0, h, hl => by
    obtain ⟨t1, e, ht⟩ := sh_b1 L ks vs z i j k B hB hg ts (us ++ [t ++ B]) (some (.im (.str t))) (fun u hu => h u (List.mem_cons_of_mem _ hu)) (by simp at hl ⊢; omega)
    refine ⟨t1, ?_, ?_⟩
    · have es : sL (t :: ts) = .str t :: sL ts := rfl
      have hlt := h t (by simp)
      have hls := l_str (z := t) (by omega)
      have hg2 : oDget (.dT ks vs) (.tup [.int k, .int j]) = some (.im (.tup [.int (B.length : Nat), .str B])) := e_dget2 hg
      have hsn := pD_snoc us (t ++ B) ((t.length : Nat) + (B.length : Nat)) (by rw [str_app]; omega)
      have a1 : t.length + B.length ≤ 16777216 := by omega
      have a2 : (pD us).length < 16777216 := by rw [pD_len]; simp at hl; omega
      rw [List.append_assoc] at e
      rw [es, List.map_cons]
      rw [← List.singleton_append (x := t ++ B), ← e]
      simp (disch := (first | omega | (simp only [List.length_cons, List.length_nil, List.length_append, List.length_map, List.length_replicate, List.length_range, iL_len, sL_len]; omega) | assumption)) only [dDef, dSeq, dAsg, dRet, dExp, dIfS, dFor, dVal, dIm, dVar, dC, d1, d2, d2B, d2C, d1B, dN, evL, dBl, dTr, dTrB, dTru, dNot, dAnd, dOr, dBv, dAndV, dOrV, dIfE, dIfX, dChain, dNx, dApp, dPop, dExt, gSet, gTupF, gsCons, gsNil, setG, setF, slG, slS, dCall, evArgs, putB, dSl, evP, dItA, dRange, dDput, dTry, catchL, o_ok, o_ex, b_ok, b_ex, mkSl, outs, frz, flat1, e_mul, e_fdiv, e_mod, e_add, e_sub, e_lt, e_le, e_gt, e_ge, e_lst, e_tup, e_len, e_len1, e_rg1, e_rg2, e_addl, e_addt, e_adds, e_mull, e_sll, lc_nil, tTrue, freeAt, lt_sz, le_sz, oList, oTuple, Bool.false_and, Bool.true_and, Bool.and_true, Bool.not_true, Bool.not_false, Option.bind_some, Option.map_some, List.length_cons, List.length_nil, List.zip_cons_cons, List.zip_nil_right, List.map_cons, List.map_nil, List.cons_append, List.nil_append, List.getElem?_cons_zero, List.getElem?_cons_succ, List.set_cons_zero, List.set_cons_succ, Nat.reduceAdd, Nat.reduceSub, List.replicate, if_true, if_false, Bool.false_eq_true, Bool.true_eq_false, decide_true, decide_false, Int.reduceAdd, Int.reduceSub, Int.reduceMul, Int.reducePow, Int.reduceNeg, Int.reduceLT, Int.reduceLE, Int.reduceToNat, forL, F__law_shortest_b1, hls, hg2, x_tup, at_0, at_1, a1, a2, hsn]
    · rcases ht with rfl | ⟨d, rfl⟩
      · exact .inr ⟨_, rfl⟩
      · exact .inr ⟨d, rfl⟩
end DV
namespace DV
open PySem L2
/-- the table of the law: what is done by now -/
structure TB (L : List Str) (ks : List (List Key)) (vs : List D) (N : Nat) (done : Nat → Nat → Prop) : Prop where
  len : ks.length = vs.length
  sm : ks.length ≤ N
  ent : ∀ a b : Nat, a < b → b ≤ L.length → done a b → assoc ks vs [.inl (a : Int), .inl (b : Int)] = some (pr (Bt (sl L a b)))
def dn (sz i a b : Nat) : Prop := b - a < sz ∨ (b - a = sz ∧ a < i)
theorem TB.items {L : List Str} (ok : Okl L) (hn : L.length ≤ 60) {ks : List (List Key)} {vs : List D} {N sz i0 i j : Nat} (T : TB L ks vs N (dn sz i0)) (hij : i < j) (hj : j ≤ L.length) (hs : j - i ≤ sz) :
    ∃ ts o, F__law_items [.im (.lst (sL L)), .im (.int (i : Nat)), .im (.int (j : Nat)), .ot ks vs] = .ret (.lst (sL ts)) [o, some (.im (.int (i : Nat))), some (.im (.int (j : Nat))), some (.ot ks vs)] ∧ ts.length ≤ 100 ∧ ∀ t, t ∈ ts ↔ PI1 (sl L i j) t :=
  e_items ok hn hij hj ks vs fun s h1 h2 => ⟨_, by
    have := T.ent i (i + s) (by omega) (by omega) (.inl (by omega))
    rw [show (((i + s : Nat)) : Int) = (i : Int) + (s : Int) by omega] at this
    exact this⟩
theorem sl_ok {L : List Str} (ok : Okl L) (a b : Nat) : Okl (sl L a b) := (ok.take b).drop a
/-- slot 7: nothing, or frozen -/
def s7 (o : Option SV) : Prop := o = none ∨ ∃ d, o = some (.im d)
theorem sh_b2 {L : List Str} (ok : Okl L) (hn : L.length ≤ 60) {ks : List (List Key)} {vs : List D} {N sz i0 i j : Nat} (T : TB L ks vs N (dn sz i0)) (hj : j ≤ L.length) (hs : j - i ≤ sz) (z : Option SV) :
    ∀ (cnt k0 : Nat) (us : List Str) (t0 kk : Option SV), i < k0 → k0 + cnt = j → us.length + 100 * cnt ≤ 50000 → s7 t0 →
      ∃ us' t1 k1, forL (setG 8) F__law_shortest_b2 (rangeD k0 cnt) (Sh L ks vs z (some (.im (.int (i : Nat)))) (some (.im (.int (j : Nat)))) (some (.ol (pD us))) t0 kk) = .nx (Sh L ks vs z (some (.im (.int (i : Nat)))) (some (.im (.int (j : Nat)))) (some (.ol (pD us'))) t1 k1) ∧ s7 t1 ∧ us'.length ≤ us.length + 100 * cnt ∧
        ∀ u, u ∈ us' ↔ u ∈ us ∨ ∃ k t, k0 ≤ k ∧ k < k0 + cnt ∧ PI1 (sl L i k) t ∧ u = t ++ Bt (sl L k j)
  | 0, k0, us, t0, kk, h1, h2, h3, h4 => ⟨us, t0, kk, rfl, h4, by omega, fun u => ⟨.inl, fun h => h.elim id fun ⟨k, t, a, b, _⟩ => absurd b (by omega)⟩⟩
  | cnt + 1, k0, us, t0, kk, h1, h2, h3, h4 => by
    obtain ⟨ts, o, ei, hl, hm⟩ := T.items ok hn h1 (by omega) (by omega)
    have okP := sl_ok ok i k0
    have hlt : ∀ t ∈ ts, t.length ≤ 70 := fun t ht => PI1.len okP (by rw [sl_len (by omega)]; omega) ((hm t).mp ht)
    have hBl := Bt_len _ (sl L k0 j) (Nat.le_refl _) (sl_ok ok k0 j)
    rw [sl_len hj] at hBl
    have hg := T.ent k0 j (by omega) hj (.inl (by omega))
    obtain ⟨t1, e1, ht1⟩ := sh_b1 L ks vs z (some (.im (.int (i : Nat)))) (j : Nat) (k0 : Nat) (Bt (sl L k0 j)) (by omega) hg ts us t0 hlt (by omega)
    have h7 : s7 t1 := by
      rcases ht1 with rfl | h
      · exact h4
      · exact .inr h
    obtain ⟨us2, t2, k2, e2, h72, hl2, hm2⟩ := sh_b2 ok hn T hj hs z cnt (k0 + 1) (us ++ ts.map fun t => t ++ Bt (sl L k0 j)) t1 (some (.im (.int (k0 : Nat)))) (by omega) (by omega) (by simp; omega) h7
    refine ⟨us2, t2, k2, ?_, h72, by simp at hl2; omega, fun u => ?_⟩
    · have c1 : ((k0 : Nat) : Int) + 1 = ((k0 + 1 : Nat) : Int) := by omega
      rw [← e2]
      simp (disch := (first | omega | (simp only [List.length_cons, List.length_nil, List.length_append, List.length_map, List.length_replicate, List.length_range, iL_len, sL_len]; omega) | assumption)) only [dDef, dSeq, dAsg, dRet, dExp, dIfS, dFor, dVal, dIm, dVar, dC, d1, d2, d2B, d2C, d1B, dN, evL, dBl, dTr, dTrB, dTru, dNot, dAnd, dOr, dBv, dAndV, dOrV, dIfE, dIfX, dChain, dNx, dApp, dPop, dExt, gSet, gTupF, gsCons, gsNil, setG, setF, slG, slS, dCall, evArgs, putB, dSl, evP, dItA, dRange, dDput, dTry, catchL, o_ok, o_ex, b_ok, b_ex, mkSl, outs, frz, flat1, e_mul, e_fdiv, e_mod, e_add, e_sub, e_lt, e_le, e_gt, e_ge, e_lst, e_tup, e_len, e_len1, e_rg1, e_rg2, e_addl, e_addt, e_adds, e_mull, e_sll, lc_nil, tTrue, freeAt, lt_sz, le_sz, oList, oTuple, Bool.false_and, Bool.true_and, Bool.and_true, Bool.not_true, Bool.not_false, Option.bind_some, Option.map_some, List.length_cons, List.length_nil, List.zip_cons_cons, List.zip_nil_right, List.map_cons, List.map_nil, List.cons_append, List.nil_append, List.getElem?_cons_zero, List.getElem?_cons_succ, List.set_cons_zero, List.set_cons_succ, Nat.reduceAdd, Nat.reduceSub, List.replicate, if_true, if_false, Bool.false_eq_true, Bool.true_eq_false, decide_true, decide_false, Int.reduceAdd, Int.reduceSub, Int.reduceMul, Int.reducePow, Int.reduceNeg, Int.reduceLT, Int.reduceLE, Int.reduceToNat, forL, rg_s, F__law_shortest_b2, ei, e1, c1]
    · rw [hm2]
      simp only [List.mem_append, List.mem_map]
      constructor
      · rintro ((h | ⟨t, ht, rfl⟩) | ⟨k, t, a, b, c, d⟩)
        · exact .inl h
        · exact .inr ⟨k0, t, by omega, by omega, (hm t).mp ht, rfl⟩
        · exact .inr ⟨k, t, by omega, by omega, c, d⟩
      · rintro (h | ⟨k, t, a, b, c, d⟩)
        · exact .inl (.inl h)
        · by_cases e : k = k0
          · subst e; exact .inl (.inr ⟨t, (hm t).mpr c, d.symm⟩)
          · exact .inr ⟨k, t, by omega, by omega, c, d⟩
theorem sh_b3 {L : List Str} (ok : Okl L) (hn : L.length ≤ 60) {ks : List (List Key)} {vs : List D} {N sz i : Nat} (hN : N ≤ 100000) (T : TB L ks vs N (dn sz i)) (hs : 1 ≤ sz) (hj : i + sz ≤ L.length) (j0 f0 t0 k0 : Option SV) (h7 : s7 t0) :
    ∃ ks' vs' j1 f1 t1 k1, F__law_shortest_b3 (Sh L ks vs (some (.im (.int (sz : Nat)))) (some (.im (.int (i : Nat)))) j0 f0 t0 k0) = .nx (Sh L ks' vs' (some (.im (.int (sz : Nat)))) (some (.im (.int (i : Nat)))) j1 f1 t1 k1) ∧ s7 t1 ∧ TB L ks' vs' (N + 1) (dn sz (i + 1)) := by
  obtain ⟨ts, o, ei, hl, hm⟩ := T.items ok hn (show i < i + sz by omega) hj (by omega)
  have okP := sl_ok ok i (i + sz)
  have hPl : (sl L i (i + sz)).length = sz := by rw [sl_len hj]; omega
  have hlt : ∀ t ∈ ts, t.length ≤ 70 := fun t ht => PI1.len okP (by omega) ((hm t).mp ht)
  have elc := sh_lc L ks vs (some (.im (.int (sz : Nat)))) (some (.im (.int (i : Nat)))) (some (.im (.int ((i + sz : Nat) : Int)))) f0 k0 ts hlt
  obtain ⟨us, t2, k2, e2, h72, hl2, hm2⟩ := sh_b2 (i := i) ok hn T hj (by omega) (some (.im (.int (sz : Nat)))) (sz - 1) (i + 1) ts none k0 (by omega) (by omega) (by omega) (.inl rfl)
  -- what is found is what may be
  have hLC : ∀ u, u ∈ us ↔ LC (sl L i (i + sz)) u := fun u => by
    rw [hm2, hm]
    unfold LC
    rw [hPl]
    constructor
    · rintro (h | ⟨k, t, a, b, c, d⟩)
      · exact .inl h
      · refine .inr ⟨k - i, t, by omega, by omega, ?_, ?_⟩
        · rw [sl_take (by omega), show i + (k - i) = k by omega]; exact c
        · rw [sl_drop, show i + (k - i) = k by omega]; exact d
    · rintro (h | ⟨m, t, a, b, c, d⟩)
      · exact .inl h
      · rw [sl_take (by omega)] at c
        rw [sl_drop] at d
        exact .inr ⟨i + m, t, by omega, by omega, c, d⟩
  have h0 : sl L i (i + sz) ≠ [] := fun e => by rw [e] at hPl; simp at hPl; omega
  obtain ⟨x, xs, ex⟩ : ∃ x xs, us = x :: xs := by
    cases us with
    | nil =>
      have := (hLC _).mpr (cand_lc (Bt_least h0).1)
      simp at this
    | cons x xs => exact ⟨x, xs, rfl⟩
  subst ex
  have hmin : minL x xs = Bt (sl L i (i + sz)) := lc_least okP h0 ((minL_least xs x).iff hLC)
  have emin := e_min x xs
  rw [hmin] at emin
  have hkl : ks.length < 16777216 := by have := T.sm; omega
  have keys2 : ∀ a b : Int, keysD [.int a, .int b] = some [.inl a, .inl b] := fun _ _ => rfl
  have T2 : TB L (putD ks vs [.inl (i : Int), .inl ((i + sz : Nat) : Int)] (pr (Bt (sl L i (i + sz))))).1 (putD ks vs [.inl (i : Int), .inl ((i + sz : Nat) : Int)] (pr (Bt (sl L i (i + sz))))).2 (N + 1) (dn sz (i + 1)) := by
    refine ⟨(putD_len T.len).1, by have := (putD_len (j := [.inl (i : Int), .inl ((i + sz : Nat) : Int)]) (v := pr (Bt (sl L i (i + sz)))) T.len).2; have := T.sm; omega, fun a b hab hb hd => ?_⟩
    rw [assoc_putD T.len]
    by_cases e : a = i ∧ b = i + sz
    · obtain ⟨rfl, rfl⟩ := e
      rw [if_pos rfl]
    · rw [if_neg]
      · refine T.ent a b hab hb ?_
        unfold dn at hd ⊢
        omega
      · intro z
        simp only [List.cons.injEq, Sum.inl.injEq, and_true] at z
        omega
  have hjc : ((i : Nat) : Int) + (sz : Int) = ((i + sz : Nat) : Int) := by omega
  have hc1 : ((i : Nat) : Int) + 1 = ((i + 1 : Nat) : Int) := by omega
  have hcnt : (((i + sz : Nat) : Int) - ((i + 1 : Nat) : Int)).toNat = sz - 1 := by omega
  have hpl : (pD ts).length ≤ 16777216 := by rw [pD_len]; omega
  refine ⟨_, _, some (.im (.int ((i + sz : Nat) : Int))), some (.im (.lst (pD (x :: xs)))), t2, k2, ?_, h72, T2⟩
  rcases h7 with rfl | ⟨d, rfl⟩
  · simp (disch := (first | omega | (simp only [List.length_cons, List.length_nil, List.length_append, List.length_map, List.length_replicate, List.length_range, iL_len, sL_len]; omega) | assumption)) only [dDef, dSeq, dAsg, dRet, dExp, dIfS, dFor, dVal, dIm, dVar, dC, d1, d2, d2B, d2C, d1B, dN, evL, dBl, dTr, dTrB, dTru, dNot, dAnd, dOr, dBv, dAndV, dOrV, dIfE, dIfX, dChain, dNx, dApp, dPop, dExt, gSet, gTupF, gsCons, gsNil, setG, setF, slG, slS, dCall, evArgs, putB, dSl, evP, dItA, dRange, dDput, dTry, catchL, o_ok, o_ex, b_ok, b_ex, mkSl, outs, frz, flat1, e_mul, e_fdiv, e_mod, e_add, e_sub, e_lt, e_le, e_gt, e_ge, e_lst, e_tup, e_len, e_len1, e_rg1, e_rg2, e_addl, e_addt, e_adds, e_mull, e_sll, lc_nil, tTrue, freeAt, lt_sz, le_sz, oList, oTuple, Bool.false_and, Bool.true_and, Bool.and_true, Bool.not_true, Bool.not_false, Option.bind_some, Option.map_some, List.length_cons, List.length_nil, List.zip_cons_cons, List.zip_nil_right, List.map_cons, List.map_nil, List.cons_append, List.nil_append, List.getElem?_cons_zero, List.getElem?_cons_succ, List.set_cons_zero, List.set_cons_succ, Nat.reduceAdd, Nat.reduceSub, List.replicate, if_true, if_false, Bool.false_eq_true, Bool.true_eq_false, decide_true, decide_false, Int.reduceAdd, Int.reduceSub, Int.reduceMul, Int.reducePow, Int.reduceNeg, Int.reduceLT, Int.reduceLE, Int.reduceToNat, F__law_shortest_b3, hjc, dComp, ei, elc, hpl, hc1, hcnt, e2, emin, keys2]
  · simp (disch := (first | omega | (simp only [List.length_cons, List.length_nil, List.length_append, List.length_map, List.length_replicate, List.length_range, iL_len, sL_len]; omega) | assumption)) only [dDef, dSeq, dAsg, dRet, dExp, dIfS, dFor, dVal, dIm, dVar, dC, d1, d2, d2B, d2C, d1B, dN, evL, dBl, dTr, dTrB, dTru, dNot, dAnd, dOr, dBv, dAndV, dOrV, dIfE, dIfX, dChain, dNx, dApp, dPop, dExt, gSet, gTupF, gsCons, gsNil, setG, setF, slG, slS, dCall, evArgs, putB, dSl, evP, dItA, dRange, dDput, dTry, catchL, o_ok, o_ex, b_ok, b_ex, mkSl, outs, frz, flat1, e_mul, e_fdiv, e_mod, e_add, e_sub, e_lt, e_le, e_gt, e_ge, e_lst, e_tup, e_len, e_len1, e_rg1, e_rg2, e_addl, e_addt, e_adds, e_mull, e_sll, lc_nil, tTrue, freeAt, lt_sz, le_sz, oList, oTuple, Bool.false_and, Bool.true_and, Bool.and_true, Bool.not_true, Bool.not_false, Option.bind_some, Option.map_some, List.length_cons, List.length_nil, List.zip_cons_cons, List.zip_nil_right, List.map_cons, List.map_nil, List.cons_append, List.nil_append, List.getElem?_cons_zero, List.getElem?_cons_succ, List.set_cons_zero, List.set_cons_succ, Nat.reduceAdd, Nat.reduceSub, List.replicate, if_true, if_false, Bool.false_eq_true, Bool.true_eq_false, decide_true, decide_false, Int.reduceAdd, Int.reduceSub, Int.reduceMul, Int.reducePow, Int.reduceNeg, Int.reduceLT, Int.reduceLE, Int.reduceToNat, F__law_shortest_b3, hjc, dComp, ei, elc, hpl, hc1, hcnt, e2, emin, keys2]
end DV
namespace DV
open PySem L2
theorem TB.imp {L : List Str} {ks : List (List Key)} {vs : List D} {N N' : Nat} {d d' : Nat → Nat → Prop} (T : TB L ks vs N d) (hN : N ≤ N') (h : ∀ a b, a < b → b ≤ L.length → d' a b → d a b) : TB L ks vs N' d' :=
  ⟨T.len, Nat.le_trans T.sm hN, fun a b h1 h2 h3 => T.ent a b h1 h2 (h a b h1 h2 h3)⟩
theorem sh_i {L : List Str} (ok : Okl L) (hn : L.length ≤ 60) {sz : Nat} (hs : 1 ≤ sz) : ∀ (cnt i0 N : Nat) (ks : List (List Key)) (vs : List D) (ii jj ff tt kk : Option SV), TB L ks vs N (dn sz i0) → i0 + cnt + sz ≤ L.length + 1 → N + cnt ≤ 100000 → s7 tt →
    ∃ ks' vs' i1 j1 f1 t1 k1, forL (setG 4) F__law_shortest_b3 (rangeD i0 cnt) (Sh L ks vs (some (.im (.int (sz : Nat)))) ii jj ff tt kk) = .nx (Sh L ks' vs' (some (.im (.int (sz : Nat)))) i1 j1 f1 t1 k1) ∧ s7 t1 ∧ TB L ks' vs' (N + cnt) (dn sz (i0 + cnt))
  | 0, i0, N, ks, vs, ii, jj, ff, tt, kk, T, h1, h2, h3 => ⟨ks, vs, ii, jj, ff, tt, kk, rfl, h3, T⟩
  | cnt + 1, i0, N, ks, vs, ii, jj, ff, tt, kk, T, h1, h2, h3 => by
    obtain ⟨ks1, vs1, j1, f1, t1, k1, e1, h71, T1⟩ := sh_b3 ok hn (by omega) T hs (by omega) jj ff tt kk h3
    obtain ⟨ks2, vs2, i2, j2, f2, t2, k2, e2, h72, T2⟩ := sh_i ok hn hs cnt (i0 + 1) (N + 1) ks1 vs1 (some (.im (.int (i0 : Nat)))) j1 f1 t1 k1 T1 (by omega) (by omega) h71
    refine ⟨ks2, vs2, i2, j2, f2, t2, k2, ?_, h72, T2.imp (by omega) fun a b _ _ h => by rwa [show i0 + 1 + cnt = i0 + (cnt + 1) by omega]⟩
    have c1 : ((i0 : Nat) : Int) + 1 = ((i0 + 1 : Nat) : Int) := by omega
    rw [← e2]
    simp (disch := (first | omega | (simp only [List.length_cons, List.length_nil, List.length_append, List.length_map, List.length_replicate, List.length_range, iL_len, sL_len]; omega) | assumption)) only [dDef, dSeq, dAsg, dRet, dExp, dIfS, dFor, dVal, dIm, dVar, dC, d1, d2, d2B, d2C, d1B, dN, evL, dBl, dTr, dTrB, dTru, dNot, dAnd, dOr, dBv, dAndV, dOrV, dIfE, dIfX, dChain, dNx, dApp, dPop, dExt, gSet, gTupF, gsCons, gsNil, setG, setF, slG, slS, dCall, evArgs, putB, dSl, evP, dItA, dRange, dDput, dTry, catchL, o_ok, o_ex, b_ok, b_ex, mkSl, outs, frz, flat1, e_mul, e_fdiv, e_mod, e_add, e_sub, e_lt, e_le, e_gt, e_ge, e_lst, e_tup, e_len, e_len1, e_rg1, e_rg2, e_addl, e_addt, e_adds, e_mull, e_sll, lc_nil, tTrue, freeAt, lt_sz, le_sz, oList, oTuple, Bool.false_and, Bool.true_and, Bool.and_true, Bool.not_true, Bool.not_false, Option.bind_some, Option.map_some, List.length_cons, List.length_nil, List.zip_cons_cons, List.zip_nil_right, List.map_cons, List.map_nil, List.cons_append, List.nil_append, List.getElem?_cons_zero, List.getElem?_cons_succ, List.set_cons_zero, List.set_cons_succ, Nat.reduceAdd, Nat.reduceSub, List.replicate, if_true, if_false, Bool.false_eq_true, Bool.true_eq_false, decide_true, decide_false, Int.reduceAdd, Int.reduceSub, Int.reduceMul, Int.reducePow, Int.reduceNeg, Int.reduceLT, Int.reduceLE, Int.reduceToNat, forL, rg_s, e1, c1]
theorem sh_o {L : List Str} (ok : Okl L) (hn : L.length ≤ 60) : ∀ (cnt sz : Nat) (ks : List (List Key)) (vs : List D) (zz ii jj ff tt kk : Option SV), 1 ≤ sz → sz + cnt = L.length + 1 → TB L ks vs (61 * sz) (dn sz 0) → s7 tt →
    ∃ ks' vs' z1 i1 j1 f1 t1 k1, forL (setG 3) F__law_shortest_b4 (rangeD sz cnt) (Sh L ks vs zz ii jj ff tt kk) = .nx (Sh L ks' vs' z1 i1 j1 f1 t1 k1) ∧ TB L ks' vs' (61 * (L.length + 1)) (dn (L.length + 1) 0)
  | 0, sz, ks, vs, zz, ii, jj, ff, tt, kk, h1, h2, T, h3 => ⟨ks, vs, zz, ii, jj, ff, tt, kk, rfl, by rw [show L.length + 1 = sz by omega]; exact T⟩
  | cnt + 1, sz, ks, vs, zz, ii, jj, ff, tt, kk, h1, h2, T, h3 => by
    obtain ⟨ks1, vs1, i1, j1, f1, t1, k1, e1, h71, T1⟩ := sh_i ok hn h1 (L.length - sz + 1) 0 (61 * sz) ks vs ii jj ff tt kk T (by omega) (by omega) h3
    have T1' : TB L ks1 vs1 (61 * (sz + 1)) (dn (sz + 1) 0) := T1.imp (by omega) fun a b h4 h5 h => by
      unfold dn at h ⊢
      omega
    obtain ⟨ks2, vs2, z2, i2, j2, f2, t2, k2, e2, T2⟩ := sh_o ok hn cnt (sz + 1) ks1 vs1 (some (.im (.int (sz : Nat)))) i1 j1 f1 t1 k1 (by omega) (by omega) T1' h71
    refine ⟨ks2, vs2, z2, i2, j2, f2, t2, k2, ?_, T2⟩
    have c1 : ((sz : Nat) : Int) + 1 = ((sz + 1 : Nat) : Int) := by omega
    have c0 : ((0 : Nat) : Int) = 0 := rfl
    have hcnt : (((L.length : Nat) : Int) - (sz : Int) + 1).toNat = L.length - sz + 1 := by omega
    simp only [Sh, c0] at e1
    have eb : F__law_shortest_b4 (Sh L ks vs (some (.im (.int (sz : Nat)))) ii jj ff tt kk) = .nx (Sh L ks1 vs1 (some (.im (.int (sz : Nat)))) i1 j1 f1 t1 k1) := by
      simp (disch := (first | omega | (simp only [List.length_cons, List.length_nil, List.length_append, List.length_map, List.length_replicate, List.length_range, iL_len, sL_len]; omega) | assumption)) only [dDef, dSeq, dAsg, dRet, dExp, dIfS, dFor, dVal, dIm, dVar, dC, d1, d2, d2B, d2C, d1B, dN, evL, dBl, dTr, dTrB, dTru, dNot, dAnd, dOr, dBv, dAndV, dOrV, dIfE, dIfX, dChain, dNx, dApp, dPop, dExt, gSet, gTupF, gsCons, gsNil, setG, setF, slG, slS, dCall, evArgs, putB, dSl, evP, dItA, dRange, dDput, dTry, catchL, o_ok, o_ex, b_ok, b_ex, mkSl, outs, frz, flat1, e_mul, e_fdiv, e_mod, e_add, e_sub, e_lt, e_le, e_gt, e_ge, e_lst, e_tup, e_len, e_len1, e_rg1, e_rg2, e_addl, e_addt, e_adds, e_mull, e_sll, lc_nil, tTrue, freeAt, lt_sz, le_sz, oList, oTuple, Bool.false_and, Bool.true_and, Bool.and_true, Bool.not_true, Bool.not_false, Option.bind_some, Option.map_some, List.length_cons, List.length_nil, List.zip_cons_cons, List.zip_nil_right, List.map_cons, List.map_nil, List.cons_append, List.nil_append, List.getElem?_cons_zero, List.getElem?_cons_succ, List.set_cons_zero, List.set_cons_succ, Nat.reduceAdd, Nat.reduceSub, List.replicate, if_true, if_false, Bool.false_eq_true, Bool.true_eq_false, decide_true, decide_false, Int.reduceAdd, Int.reduceSub, Int.reduceMul, Int.reducePow, Int.reduceNeg, Int.reduceLT, Int.reduceLE, Int.reduceToNat, F__law_shortest_b4, hcnt, e1]
    rw [← e2]
    simp (disch := (first | omega | (simp only [List.length_cons, List.length_nil, List.length_append, List.length_map, List.length_replicate, List.length_range, iL_len, sL_len]; omega) | assumption)) only [dDef, dSeq, dAsg, dRet, dExp, dIfS, dFor, dVal, dIm, dVar, dC, d1, d2, d2B, d2C, d1B, dN, evL, dBl, dTr, dTrB, dTru, dNot, dAnd, dOr, dBv, dAndV, dOrV, dIfE, dIfX, dChain, dNx, dApp, dPop, dExt, gSet, gTupF, gsCons, gsNil, setG, setF, slG, slS, dCall, evArgs, putB, dSl, evP, dItA, dRange, dDput, dTry, catchL, o_ok, o_ex, b_ok, b_ex, mkSl, outs, frz, flat1, e_mul, e_fdiv, e_mod, e_add, e_sub, e_lt, e_le, e_gt, e_ge, e_lst, e_tup, e_len, e_len1, e_rg1, e_rg2, e_addl, e_addt, e_adds, e_mull, e_sll, lc_nil, tTrue, freeAt, lt_sz, le_sz, oList, oTuple, Bool.false_and, Bool.true_and, Bool.and_true, Bool.not_true, Bool.not_false, Option.bind_some, Option.map_some, List.length_cons, List.length_nil, List.zip_cons_cons, List.zip_nil_right, List.map_cons, List.map_nil, List.cons_append, List.nil_append, List.getElem?_cons_zero, List.getElem?_cons_succ, List.set_cons_zero, List.set_cons_succ, Nat.reduceAdd, Nat.reduceSub, List.replicate, if_true, if_false, Bool.false_eq_true, Bool.true_eq_false, decide_true, decide_false, Int.reduceAdd, Int.reduceSub, Int.reduceMul, Int.reducePow, Int.reduceNeg, Int.reduceLT, Int.reduceLE, Int.reduceToNat, forL, rg_s, eb, c1]
theorem e_shortest {L : List Str} (ok : Okl L) (h1 : 1 ≤ L.length) (hn : L.length ≤ 60) : ∃ o, F__law_shortest [.im (.lst (sL L))] = .ret (.str (Bt L)) [o] := by
  obtain ⟨ks, vs, z, i, j, f, t, k, e, T⟩ := sh_o ok hn L.length 1 [] [] none none none none none none (by omega) (by omega) ⟨rfl, by simp, fun a b h2 h3 h => by unfold dn at h; omega⟩ (.inl rfl)
  have hg := T.ent 0 L.length (by omega) (Nat.le_refl _) (.inl (by omega))
  have hsl : sl L 0 L.length = L := by unfold sl; simp
  rw [hsl] at hg
  have hg2 : oDget (.dT ks vs) (.tup [.int 0, .int (L.length : Nat)]) = some (.im (.tup [.int ((Bt L).length : Nat), .str (Bt L)])) := e_dget2 hg
  have c1 : ((1 : Nat) : Int) = 1 := rfl
  have hcnt : (((L.length : Nat) : Int) + 1 - 1).toNat = L.length := by omega
  simp only [Sh, c1] at e
  refine ⟨some (.im (.lst (sL L))), ?_⟩
  simp (disch := (first | omega | (simp only [List.length_cons, List.length_nil, List.length_append, List.length_map, List.length_replicate, List.length_range, iL_len, sL_len]; omega) | assumption)) only [dDef, dSeq, dAsg, dRet, dExp, dIfS, dFor, dVal, dIm, dVar, dC, d1, d2, d2B, d2C, d1B, dN, evL, dBl, dTr, dTrB, dTru, dNot, dAnd, dOr, dBv, dAndV, dOrV, dIfE, dIfX, dChain, dNx, dApp, dPop, dExt, gSet, gTupF, gsCons, gsNil, setG, setF, slG, slS, dCall, evArgs, putB, dSl, evP, dItA, dRange, dDput, dTry, catchL, o_ok, o_ex, b_ok, b_ex, mkSl, outs, frz, flat1, e_mul, e_fdiv, e_mod, e_add, e_sub, e_lt, e_le, e_gt, e_ge, e_lst, e_tup, e_len, e_len1, e_rg1, e_rg2, e_addl, e_addt, e_adds, e_mull, e_sll, lc_nil, tTrue, freeAt, lt_sz, le_sz, oList, oTuple, Bool.false_and, Bool.true_and, Bool.and_true, Bool.not_true, Bool.not_false, Option.bind_some, Option.map_some, List.length_cons, List.length_nil, List.zip_cons_cons, List.zip_nil_right, List.map_cons, List.map_nil, List.cons_append, List.nil_append, List.getElem?_cons_zero, List.getElem?_cons_succ, List.set_cons_zero, List.set_cons_succ, Nat.reduceAdd, Nat.reduceSub, List.replicate, if_true, if_false, Bool.false_eq_true, Bool.true_eq_false, decide_true, decide_false, Int.reduceAdd, Int.reduceSub, Int.reduceMul, Int.reducePow, Int.reduceNeg, Int.reduceLT, Int.reduceLE, Int.reduceToNat, F__law_shortest, l_lst, sL_len, hcnt, e, hg2, x_tup, at_1]
theorem isi_no {x : Str} : oIsi "list" (.str x) = some (.im (.bl false)) ∧ oIsi "tuple" (.str x) = some (.im (.bl false)) ∧ oIsi "bool" (.str x) = some (.im (.bl false)) ∧ oIsi "int" (.str x) = some (.im (.bl false)) := ⟨rfl, rfl, rfl, rfl⟩
theorem e_equal (n : Nat) (x : Str) (h : PyData.strOk x = true) : F__law_equal (n + 1) [.im (.str x), .im (.str x)] = .ret (.bl true) [some (.im (.str x)), some (.im (.str x))] := by
  obtain ⟨a1, a2, a3, a4⟩ := isi_no (x := x)
  have hq : oEq (.str x) (.str x) = some (.im (.bl true)) := by
    rw [e_eqD (q_str h h)]
    simp
  rw [F__law_equal]
  simp (disch := (first | omega | (simp only [List.length_cons, List.length_nil, List.length_append, List.length_map, List.length_replicate, List.length_range, iL_len, sL_len]; omega) | assumption)) only [dDef, dSeq, dAsg, dRet, dExp, dIfS, dFor, dVal, dIm, dVar, dC, d1, d2, d2B, d2C, d1B, dN, evL, dBl, dTr, dTrB, dTru, dNot, dAnd, dOr, dBv, dAndV, dOrV, dIfE, dIfX, dChain, dNx, dApp, dPop, dExt, gSet, gTupF, gsCons, gsNil, setG, setF, slG, slS, dCall, evArgs, putB, dSl, evP, dItA, dRange, dDput, dTry, catchL, o_ok, o_ex, b_ok, b_ex, mkSl, outs, frz, flat1, e_mul, e_fdiv, e_mod, e_add, e_sub, e_lt, e_le, e_gt, e_ge, e_lst, e_tup, e_len, e_len1, e_rg1, e_rg2, e_addl, e_addt, e_adds, e_mull, e_sll, lc_nil, tTrue, freeAt, lt_sz, le_sz, oList, oTuple, Bool.false_and, Bool.true_and, Bool.and_true, Bool.not_true, Bool.not_false, Option.bind_some, Option.map_some, List.length_cons, List.length_nil, List.zip_cons_cons, List.zip_nil_right, List.map_cons, List.map_nil, List.cons_append, List.nil_append, List.getElem?_cons_zero, List.getElem?_cons_succ, List.set_cons_zero, List.set_cons_succ, Nat.reduceAdd, Nat.reduceSub, List.replicate, if_true, if_false, Bool.false_eq_true, Bool.true_eq_false, decide_true, decide_false, Int.reduceAdd, Int.reduceSub, Int.reduceMul, Int.reducePow, Int.reduceNeg, Int.reduceLT, Int.reduceLE, Int.reduceToNat, a1, a2, a3, a4, isi_str, hq]
end DV
namespace DV
open PySem L2
def isTxt (r : FR) (x : Str) : Bool := match r with
  | .ret (.str y) _ => decide (y = x)
  | _ => false
theorem isTxt_of {r : FR} {x : Str} (h : isTxt r x = true) : ∃ o, r = .ret (.str x) o := by
  unfold isTxt at h
  split at h
  · rename_i y o
    have : y = x := by simpa using h
    subst this
    exact ⟨o, rfl⟩
  · cases h
def isEx (r : FR) : Bool := match r with
  | .ex 6 _ => true
  | _ => false
theorem isEx_of {r : FR} (h : isEx r = true) : ∃ o, r = .ex 6 o := by
  unfold isEx at h
  split at h
  · exact ⟨_, rfl⟩
  · cases h
def bads : List D := [.lst [], .lst (List.replicate 61 (.str "p")), .lst [.str "p", .str "P"], .lst [.str "pp"], .lst [.str ""], .non, .str "pp", .lst [.int 1]]
theorem bads_ex : ∀ d ∈ bads, ∃ o, F_written [.im d] = .ex 6 o := by
  have h : (bads.all fun d => isEx (F_written [.im d])) = true := by decide +kernel
  intro d hd
  exact isEx_of (List.all_eq_true.mp h d hd)
theorem ok_app {a b : Str} (h1 : PyData.strOk a = true) (h2 : PyData.strOk b = true) : PyData.strOk (a ++ b) = true := by
  show (a.cps ++ b.cps).all (· < 0x110000) = true
  rw [Array.all_append]
  exact Bool.and_eq_true_iff.mpr ⟨h1, h2⟩
theorem ns_ok : ∀ n : Nat, n ≤ 60 → PyData.strOk (ns n) = true := by
  have h : ((List.range 61).all fun n => PyData.strOk (ns n)) = true := by decide +kernel
  intro n hn
  exact List.all_eq_true.mp h n (List.mem_range.mpr (by omega))
theorem Bt_ok : ∀ (n : Nat) (cs : List Str), cs.length ≤ n → Okl cs → cs.length ≤ 60 → PyData.strOk (Bt cs) = true
  | 0, cs, h, ok, h6 => by
    have e : cs = [] := List.eq_nil_of_length_eq_zero (by omega)
    subst e
    show PyData.strOk Str.empty = true
    decide +kernel
  | n + 1, cs, h, ok, h6 => by
    by_cases h0 : cs = []
    · subst h0
      show PyData.strOk Str.empty = true
      decide +kernel
    · obtain ⟨t, m, i, e⟩ := (Bt_least h0).1
      have hp := i.pos
      have ht : PyData.strOk t = true := by
        cases i with
        | one h => exact (ok _ (List.mem_of_getElem? h)).1
        | run h a b d => exact ok_app (ok _ (List.mem_of_getElem? h)).1 (ns_ok _ (by omega))
        | grp a b d e =>
          rename_i s k _
          have h2 := Nat.mul_le_mul_right s b
          have h3 := Nat.le_mul_of_pos_right k (show 0 < s by omega)
          refine ok_app (ok_app (ok_app (by decide +kernel) (Bt_ok n _ ?_ (ok.take s) ?_)) (by decide +kernel)) (ns_ok _ (by omega))
          · rw [List.length_take]; omega
          · rw [List.length_take]; omega
      rw [e]
      unfold whole
      split
      · exact ht
      · exact ok_app ht (Bt_ok n _ (by rw [List.length_drop]; omega) (ok.drop m) (by rw [List.length_drop]; omega))
abbrev La (ns : List Int) (l : List Int) (a : Int) (t : Option SV) (c d : Option SV) : S := [⟨true, some (.im (.scr ns))⟩, ⟨false, some (Dr l a)⟩, ⟨false, t⟩, ⟨false, c⟩, ⟨false, d⟩]
theorem law_b1 (ns l : List Int) (a : Int) (ha : 0 ≤ a) (t : Int) (c d : Option SV) : ∃ a' c', F_law_b1 (La ns l a (some (.im (.int t))) c d) = .nx (La ns l a' (some (.im (.int t))) c' d) ∧ 0 ≤ a' := by
  obtain ⟨xs, a', e1, ha', h0, h9, hm⟩ := e_list l a ha
  have ok : Okl xs := l3_okl hm
  obtain ⟨o1, e2⟩ := e_written (cs := xs) hm (by omega) (by omega)
  obtain ⟨o2, e3⟩ := e_shortest ok (by omega) (by omega)
  have hsok : PyData.strOk (Bt xs) = true := Bt_ok _ xs (Nat.le_refl _) ok (by omega)
  have e4 := e_equal 63 (Bt xs) hsok
  refine ⟨a', some (.im (.lst (sL xs))), ?_, ha'⟩
  simp (disch := (first | omega | (simp only [List.length_cons, List.length_nil, List.length_append, List.length_map, List.length_replicate, List.length_range, iL_len, sL_len]; omega) | assumption)) only [dDef, dSeq, dAsg, dRet, dExp, dIfS, dFor, dVal, dIm, dVar, dC, d1, d2, d2B, d2C, d1B, dN, evL, dBl, dTr, dTrB, dTru, dNot, dAnd, dOr, dBv, dAndV, dOrV, dIfE, dIfX, dChain, dNx, dApp, dPop, dExt, gSet, gTupF, gsCons, gsNil, setG, setF, slG, slS, dCall, evArgs, putB, dSl, evP, dItA, dRange, dDput, dTry, catchL, o_ok, o_ex, b_ok, b_ex, mkSl, outs, frz, flat1, e_mul, e_fdiv, e_mod, e_add, e_sub, e_lt, e_le, e_gt, e_ge, e_lst, e_tup, e_len, e_len1, e_rg1, e_rg2, e_addl, e_addt, e_adds, e_mull, e_sll, lc_nil, tTrue, freeAt, lt_sz, le_sz, oList, oTuple, Bool.false_and, Bool.true_and, Bool.and_true, Bool.not_true, Bool.not_false, Option.bind_some, Option.map_some, List.length_cons, List.length_nil, List.zip_cons_cons, List.zip_nil_right, List.map_cons, List.map_nil, List.cons_append, List.nil_append, List.getElem?_cons_zero, List.getElem?_cons_succ, List.set_cons_zero, List.set_cons_succ, Nat.reduceAdd, Nat.reduceSub, List.replicate, if_true, if_false, Bool.false_eq_true, Bool.true_eq_false, decide_true, decide_false, Int.reduceAdd, Int.reduceSub, Int.reduceMul, Int.reducePow, Int.reduceNeg, Int.reduceLT, Int.reduceLE, Int.reduceToNat, F_law_b1, e1, e2, e3, e4]
end DV
namespace DV
open PySem L2
/-! ### thirty times the same two -/
def Alt (cs : List Str) : Prop := ∀ i x y, cs[i]? = some x → cs[i + 1]? = some y → x ≠ y
theorem Alt.drop {cs : List Str} (h : Alt cs) (n : Nat) : Alt (cs.drop n) := fun i x y hx hy => by
  rw [List.getElem?_drop] at hx hy
  exact h (n + i) x y hx (by rw [show n + i + 1 = n + (i + 1) by omega]; exact hy)
theorem Alt.take {cs : List Str} (h : Alt cs) (n : Nat) : Alt (cs.take n) := fun i x y hx hy => by
  rw [List.getElem?_take] at hx hy
  split at hx
  · split at hy
    · exact h i x y hx hy
    · cases hy
  · cases hx
theorem ns_pos : ∀ n : Nat, n ≤ 60 → 1 ≤ (ns n).length ∧ (10 ≤ n → 2 ≤ (ns n).length) := by
  have h : ((List.range 61).all fun n => decide (1 ≤ (ns n).length ∧ (10 ≤ n → 2 ≤ (ns n).length))) = true := by decide +kernel
  intro n hn
  have := List.all_eq_true.mp h n (List.mem_range.mpr (by omega))
  exact of_decide_eq_true this
theorem Bt_low : ∀ (n : Nat) (cs : List Str), cs.length ≤ n → cs.length ≤ 60 → Okl cs → Alt cs → min cs.length 5 ≤ (Bt cs).length ∧ (cs.length = 60 → 6 ≤ (Bt cs).length)
  | 0, cs, h, h6, ok, al => ⟨by omega, by omega⟩
  | n + 1, cs, h, h6, ok, al => by
    by_cases h0 : cs = []
    · subst h0; simp
    · obtain ⟨t, m, i, e⟩ := (Bt_least h0).1
      have hp := i.pos
      have hr : m ≠ cs.length → (Bt cs).length = t.length + (Bt (cs.drop m)).length := fun c => by
        rw [e]
        unfold whole
        rw [if_neg c, str_app]
      have hw : m = cs.length → (Bt cs).length = t.length := fun c => by
        rw [e]
        unfold whole
        rw [if_pos c]
      have ih := Bt_low n (cs.drop m) (by rw [List.length_drop]; omega) (by rw [List.length_drop]; omega) (ok.drop m) (al.drop m)
      rw [List.length_drop] at ih
      cases i with
      | one h =>
        have := (ok _ (List.mem_of_getElem? h)).2
        by_cases c : 1 = cs.length
        · have := hw c; omega
        · have := hr c; omega
      | run h a b d =>
        rename_i x
        have g0 := rep_get d (show 0 < m by omega) b
        have g1 := rep_get d (show 1 < m by omega) b
        exact absurd rfl (al 0 x x g0 g1)
      | grp a b d e =>
        rename_i s k _
        have h2 := Nat.mul_le_mul_right s b
        have h3 := Nat.le_mul_of_pos_right k (show 0 < s by omega)
        have ihs := Bt_low n (cs.take s) (by rw [List.length_take]; omega) (by rw [List.length_take]; omega) (ok.take s) (al.take s)
        rw [List.length_take, Nat.min_eq_left (by omega : s ≤ cs.length)] at ihs
        have l1 : ("(" : Str).length = 1 := by decide +kernel
        have l2 : (")" : Str).length = 1 := by decide +kernel
        have hn := ns_pos k (by omega)
        have ht : ((("(" : Str) ++ Bt (cs.take s) ++ ")") ++ ns k).length = 1 + (Bt (cs.take s)).length + 1 + (ns k).length := by rw [str_app, str_app, str_app, l1, l2]
        by_cases c : k * s = cs.length
        · have := hw c
          rw [ht] at this
          refine ⟨by omega, fun h60 => ?_⟩
          by_cases k10 : 10 ≤ k
          · have := hn.2 k10; omega
          · have : 3 ≤ s := by
              by_cases s3 : 3 ≤ s
              · exact s3
              · have : s = 2 := by omega
                subst this
                omega
            omega
        · have := hr c
          rw [ht] at this
          exact ⟨by omega, by omega⟩
def PB : List Str := (List.replicate 30 (["p", "b"] : List Str)).flatten
theorem PB_len : PB.length = 60 := by decide +kernel
theorem PB_alt : Alt PB := by
  have h : ((List.range 60).all fun i => decide (PB[i]? ≠ PB[i + 1]?)) = true := by decide +kernel
  intro i x y hx hy e
  have hi : i < 60 := by have := (List.getElem?_eq_some_iff.mp hx).1; rw [PB_len] at this; exact this
  have := List.all_eq_true.mp h i (List.mem_range.mpr hi)
  simp only [decide_eq_true_eq] at this
  exact this (by rw [hx, hy, e])
theorem PB_l3 : ∀ x ∈ PB, x ∈ L3 := by decide +kernel
theorem PB_bt : (Bt PB).length = 6 := by
  have ok := l3_okl PB_l3
  have lo := (Bt_low 60 PB (by rw [PB_len]; omega) (by rw [PB_len]; omega) ok PB_alt).2 PB_len
  have e2 : PB.take (30 * 2) = (List.replicate 30 (PB.take 2)).flatten := by decide +kernel
  have it : Item Bt PB _ (30 * 2) := .grp (s := 2) (k := 30) (by omega) (by omega) (by rw [PB_len]; omega) e2
  have hl := (Bt_least (cs := PB) (by intro z; have := PB_len; rw [z] at this; simp at this)).2 _ ⟨_, _, it, rfl⟩
  have l1 : ("(" : Str).length = 1 := by decide +kernel
  have l2 : (")" : Str).length = 1 := by decide +kernel
  have l3 := Bt_len _ (PB.take 2) (Nat.le_refl _) (ok.take 2)
  rw [List.length_take, PB_len] at l3
  have l4 := ns_len 30 (by omega)
  have hw : (whole Bt PB ("(" ++ Bt (PB.take 2) ++ ")" ++ ns 30) (30 * 2)).length ≤ 6 := by
    unfold whole
    rw [if_pos (by rw [PB_len]), str_app, str_app, str_app]
    omega
  unfold ltT at hl
  split at hl
  · omega
  · simp only [decide_eq_false_iff_not] at hl
    omega
end DV
namespace DV
open PySem L2
theorem q_for {it : S → Rs (List D)} {g : SV → S → Rs Unit} {body k : S → Out} {s s1 s2 : S} {ds : List D} (h : it s = .ok ds s1) (h2 : forL g body ds s1 = .nx s2) : dSeq (dFor it g body) k s = k s2 := by
  unfold dSeq dFor
  rw [h, o_ok, h2]
theorem putB_skip (sv : SV) (o : List (Option SV)) (s : S) : putB [(sv, none)] o s = s := by cases o <;> rfl
theorem law_b2 (ns l : List Int) (a : Int) (t c : Option SV) : ∀ (ds : List D) (d0 : Option SV), (∀ d ∈ ds, d ∈ bads) → ∃ dz, forL (setG 4) F_law_b2 ds (La ns l a t c d0) = .nx (La ns l a t c dz)
  | [], d0, h => ⟨d0, rfl⟩
  | d :: ds, d0, h => by
    obtain ⟨o, e⟩ := bads_ex d (h d (by simp))
    obtain ⟨dz, e1⟩ := law_b2 ns l a t c ds (some (.im d)) fun x hx => h x (List.mem_cons_of_mem _ hx)
    refine ⟨dz, ?_⟩
    have hb : F_law_b2 (La ns l a t c (some (.im d))) = .nx (La ns l a t c (some (.im d))) := by
      simp (disch := (first | omega | (simp only [List.length_cons, List.length_nil, List.length_append, List.length_map, List.length_replicate, List.length_range, iL_len, sL_len]; omega) | assumption)) only [dDef, dSeq, dAsg, dRet, dExp, dIfS, dFor, dVal, dIm, dVar, dC, d1, d2, d2B, d2C, d1B, dN, evL, dBl, dTr, dTrB, dTru, dNot, dAnd, dOr, dBv, dAndV, dOrV, dIfE, dIfX, dChain, dNx, dApp, dPop, dExt, gSet, gTupF, gsCons, gsNil, setG, setF, slG, slS, dCall, evArgs, putB, dSl, evP, dItA, dRange, dDput, dTry, catchL, o_ok, o_ex, b_ok, b_ex, mkSl, outs, frz, flat1, e_mul, e_fdiv, e_mod, e_add, e_sub, e_lt, e_le, e_gt, e_ge, e_lst, e_tup, e_len, e_len1, e_rg1, e_rg2, e_addl, e_addt, e_adds, e_mull, e_sll, lc_nil, tTrue, freeAt, lt_sz, le_sz, oList, oTuple, Bool.false_and, Bool.true_and, Bool.and_true, Bool.not_true, Bool.not_false, Option.bind_some, Option.map_some, List.length_cons, List.length_nil, List.zip_cons_cons, List.zip_nil_right, List.map_cons, List.map_nil, List.cons_append, List.nil_append, List.getElem?_cons_zero, List.getElem?_cons_succ, List.set_cons_zero, List.set_cons_succ, Nat.reduceAdd, Nat.reduceSub, List.replicate, if_true, if_false, Bool.false_eq_true, Bool.true_eq_false, decide_true, decide_false, Int.reduceAdd, Int.reduceSub, Int.reduceMul, Int.reducePow, Int.reduceNeg, Int.reduceLT, Int.reduceLE, Int.reduceToNat, F_law_b2, e, putB_skip, m_BadTouch]
    rw [← e1]
    simp (disch := (first | omega | (simp only [List.length_cons, List.length_nil, List.length_append, List.length_map, List.length_replicate, List.length_range, iL_len, sL_len]; omega) | assumption)) only [dDef, dSeq, dAsg, dRet, dExp, dIfS, dFor, dVal, dIm, dVar, dC, d1, d2, d2B, d2C, d1B, dN, evL, dBl, dTr, dTrB, dTru, dNot, dAnd, dOr, dBv, dAndV, dOrV, dIfE, dIfX, dChain, dNx, dApp, dPop, dExt, gSet, gTupF, gsCons, gsNil, setG, setF, slG, slS, dCall, evArgs, putB, dSl, evP, dItA, dRange, dDput, dTry, catchL, o_ok, o_ex, b_ok, b_ex, mkSl, outs, frz, flat1, e_mul, e_fdiv, e_mod, e_add, e_sub, e_lt, e_le, e_gt, e_ge, e_lst, e_tup, e_len, e_len1, e_rg1, e_rg2, e_addl, e_addt, e_adds, e_mull, e_sll, lc_nil, tTrue, freeAt, lt_sz, le_sz, oList, oTuple, Bool.false_and, Bool.true_and, Bool.and_true, Bool.not_true, Bool.not_false, Option.bind_some, Option.map_some, List.length_cons, List.length_nil, List.zip_cons_cons, List.zip_nil_right, List.map_cons, List.map_nil, List.cons_append, List.nil_append, List.getElem?_cons_zero, List.getElem?_cons_succ, List.set_cons_zero, List.set_cons_succ, Nat.reduceAdd, Nat.reduceSub, List.replicate, if_true, if_false, Bool.false_eq_true, Bool.true_eq_false, decide_true, decide_false, Int.reduceAdd, Int.reduceSub, Int.reduceMul, Int.reducePow, Int.reduceNeg, Int.reduceLT, Int.reduceLE, Int.reduceToNat, forL, hb]
theorem bads_it (s : S) : dItA (dVal (dN oLst [(dVal (dN oLst [])), (dVal (d2 oMul (dVal (dN oLst [(dC (.str "p"))])) (dC (.int 61)))), (dVal (dN oLst [(dC (.str "p")), (dC (.str "P"))])), (dVal (dN oLst [(dC (.str "pp"))])), (dVal (dN oLst [(dC (.str ""))])), (dC .non), (dC (.str "pp")), (dVal (dN oLst [(dC (.int 1))]))])) s = .ok bads s := by
  rfl
theorem sL_PB : (List.replicate (30 : Int).toNat [D.str "p", D.str "b"]).flatten = sL PB := by
  have e : [D.str "p", D.str "b"] = sL ["p", "b"] := rfl
  rw [e, sL_rep]
  rfl
theorem law_end0 (X : Fn) (A : List D) (x : Str) (o : Option SV) (e : X [.ol A] = .ret (.str x) [o]) (hx : x.length = 6) (hm : oMul (.lst [.str "p", .str "b"]) (.int 30) = some (.ol A)) (st : S) :
    (dRet (dVal (d2 oEq (dVal (dN oLen [(dCall false X [.e (d2 oMul (dVal (dN oLst [(dC (.str "p")), (dC (.str "b"))])) (dC (.int 30)))])])) (dC (.int 6))))) st = .rt (.bl true) st := by
  have hls := l_str (z := x) (by omega)
  rw [hx] at hls
  have hq : oEq (.int ((6 : Nat) : Int)) (.int 6) = some (.im (.bl true)) := rfl
  have e1 : (d2 oMul (dVal (dN oLst [(dC (.str "p")), (dC (.str "b"))])) (dC (.int 30))) st = .ok (.ol A) st := by
    show (match oMul (.lst [.str "p", .str "b"]) (.int 30) with
      | some sv => Rs.ok sv st
      | none => .bad) = _
    rw [hm]
  have e2 : (dCall false X [.e (d2 oMul (dVal (dN oLst [(dC (.str "p")), (dC (.str "b"))])) (dC (.int 30)))]) st = .ok (.str x) st := by
    unfold dCall
    simp only [evArgs, e1, b_ok, Bool.false_and, Bool.false_eq_true, if_false, List.map_cons, List.map_nil, e, putB_skip]
  simp only [dRet, dVal, d2, dN, evL, e2, b_ok, o_ok, e_len, hls, Option.map_some, frz, dC, hq]
theorem law_hm : oMul (.lst [.str "p", .str "b"]) (.int 30) = some (.ol (sL PB)) := by
  rw [← sL_PB]
  exact e_mull (by omega) (by omega) (by decide)
theorem law_end (st : S) : (dRet (dVal (d2 oEq (dVal (dN oLen [(dCall false F_written [.e (d2 oMul (dVal (dN oLst [(dC (.str "p")), (dC (.str "b"))])) (dC (.int 30)))])])) (dC (.int 6))))) st = .rt (.bl true) st := by
  obtain ⟨o, e⟩ := e_written (cs := PB) PB_l3 (by rw [PB_len]; omega) (by rw [PB_len]; omega)
  exact law_end0 F_written (sL PB) (Bt PB) o e PB_bt law_hm st
theorem plain (ns : List Int) (h : ns.length ≤ 63) : ∃ os, F_law [.im (.scr ns)] = .ret (.bl true) os := by
  obtain ⟨l, e1⟩ := e_numbers ns h
  obtain ⟨a1, c1, e2, ha1⟩ := law_b1 ns l 0 (Int.le_refl 0) 0 none none
  obtain ⟨a2, c2, e3, ha2⟩ := law_b1 ns l a1 ha1 1 c1 none
  have hl : forL (setG 2) F_law_b1 (rangeD 0 2) (La ns l 0 none none none) = .nx (La ns l a2 (some (.im (.int 1))) c2 none) := by
    have r2 : rangeD 0 2 = [.int 0, .int 1] := rfl
    rw [r2]
    simp (disch := (first | omega | (simp only [List.length_cons, List.length_nil, List.length_append, List.length_map, List.length_replicate, List.length_range, iL_len, sL_len]; omega) | assumption)) only [dDef, dSeq, dAsg, dRet, dExp, dIfS, dFor, dVal, dIm, dVar, dC, d1, d2, d2B, d2C, d1B, dN, evL, dBl, dTr, dTrB, dTru, dNot, dAnd, dOr, dBv, dAndV, dOrV, dIfE, dIfX, dChain, dNx, dApp, dPop, dExt, gSet, gTupF, gsCons, gsNil, setG, setF, slG, slS, dCall, evArgs, putB, dSl, evP, dItA, dRange, dDput, dTry, catchL, o_ok, o_ex, b_ok, b_ex, mkSl, outs, frz, flat1, e_mul, e_fdiv, e_mod, e_add, e_sub, e_lt, e_le, e_gt, e_ge, e_lst, e_tup, e_len, e_len1, e_rg1, e_rg2, e_addl, e_addt, e_adds, e_mull, e_sll, lc_nil, tTrue, freeAt, lt_sz, le_sz, oList, oTuple, Bool.false_and, Bool.true_and, Bool.and_true, Bool.not_true, Bool.not_false, Option.bind_some, Option.map_some, List.length_cons, List.length_nil, List.zip_cons_cons, List.zip_nil_right, List.map_cons, List.map_nil, List.cons_append, List.nil_append, List.getElem?_cons_zero, List.getElem?_cons_succ, List.set_cons_zero, List.set_cons_succ, Nat.reduceAdd, Nat.reduceSub, List.replicate, if_true, if_false, Bool.false_eq_true, Bool.true_eq_false, decide_true, decide_false, Int.reduceAdd, Int.reduceSub, Int.reduceMul, Int.reducePow, Int.reduceNeg, Int.reduceLT, Int.reduceLE, Int.reduceToNat, forL, e2, e3]
  obtain ⟨dz, e4⟩ := law_b2 ns l a2 (some (.im (.int 1))) c2 bads none fun d hd => hd
  have s1 : (dN oLst [(dCall false F__law_numbers [.e (dIm (dVar 0))]), (dC (.int 0))]) [⟨true, some (.im (.scr ns))⟩, ⟨false, none⟩, ⟨false, none⟩, ⟨false, none⟩, ⟨false, none⟩] = .ok (Dr l 0) [⟨true, some (.im (.scr ns))⟩, ⟨false, none⟩, ⟨false, none⟩, ⟨false, none⟩, ⟨false, none⟩] := by
    simp (disch := (first | omega | (simp only [List.length_cons, List.length_nil, List.length_append, List.length_map, List.length_replicate, List.length_range, iL_len, sL_len]; omega) | assumption)) only [dDef, dSeq, dAsg, dRet, dExp, dIfS, dFor, dVal, dIm, dVar, dC, d1, d2, d2B, d2C, d1B, dN, evL, dBl, dTr, dTrB, dTru, dNot, dAnd, dOr, dBv, dAndV, dOrV, dIfE, dIfX, dChain, dNx, dApp, dPop, dExt, gSet, gTupF, gsCons, gsNil, setG, setF, slG, slS, dCall, evArgs, putB, dSl, evP, dItA, dRange, dDput, dTry, catchL, o_ok, o_ex, b_ok, b_ex, mkSl, outs, frz, flat1, e_mul, e_fdiv, e_mod, e_add, e_sub, e_lt, e_le, e_gt, e_ge, e_lst, e_tup, e_len, e_len1, e_rg1, e_rg2, e_addl, e_addt, e_adds, e_mull, e_sll, lc_nil, tTrue, freeAt, lt_sz, le_sz, oList, oTuple, Bool.false_and, Bool.true_and, Bool.and_true, Bool.not_true, Bool.not_false, Option.bind_some, Option.map_some, List.length_cons, List.length_nil, List.zip_cons_cons, List.zip_nil_right, List.map_cons, List.map_nil, List.cons_append, List.nil_append, List.getElem?_cons_zero, List.getElem?_cons_succ, List.set_cons_zero, List.set_cons_succ, Nat.reduceAdd, Nat.reduceSub, List.replicate, if_true, if_false, Bool.false_eq_true, Bool.true_eq_false, decide_true, decide_false, Int.reduceAdd, Int.reduceSub, Int.reduceMul, Int.reducePow, Int.reduceNeg, Int.reduceLT, Int.reduceLE, Int.reduceToNat, e1]
  refine ⟨[some (.im (.scr ns))], ?_⟩
  have body : (dSeq (dAsg (dN oLst [(dCall false F__law_numbers [.e (dIm (dVar 0))]), (dC (.int 0))]) (setG 1))
    (dSeq (dFor (dRange oRange1 [(dC (.int 2))]) (setG 2) F_law_b1)
    (dSeq (dFor (dItA (dVal (dN oLst [(dVal (dN oLst [])), (dVal (d2 oMul (dVal (dN oLst [(dC (.str "p"))])) (dC (.int 61)))), (dVal (dN oLst [(dC (.str "p")), (dC (.str "P"))])), (dVal (dN oLst [(dC (.str "pp"))])), (dVal (dN oLst [(dC (.str ""))])), (dC .non), (dC (.str "pp")), (dVal (dN oLst [(dC (.int 1))]))]))) (setG 4) F_law_b2)
    (dRet (dVal (d2 oEq (dVal (dN oLen [(dCall false F_written [.e (d2 oMul (dVal (dN oLst [(dC (.str "p")), (dC (.str "b"))])) (dC (.int 30)))])])) (dC (.int 6)))))))) [⟨true, some (.im (.scr ns))⟩, ⟨false, none⟩, ⟨false, none⟩, ⟨false, none⟩, ⟨false, none⟩] = .rt (.bl true) (La ns l a2 (some (.im (.int 1))) c2 dz) := by
    refine (q_asg s1 rfl).trans ?_
    refine (q_for (ds := rangeD 0 2) rfl hl).trans ?_
    refine (q_for (bads_it _) e4).trans ?_
    exact law_end _
  show dDef [false] 5 _ _ = _
  unfold dDef
  rw [if_pos (show [SV.im (D.scr ns)].length = [false].length from rfl)]
  have e0 : mkSl [false] [SV.im (.scr ns)] ++ List.replicate (5 - [false].length) (⟨false, none⟩ : Sl) = [⟨true, some (.im (.scr ns))⟩, ⟨false, none⟩, ⟨false, none⟩, ⟨false, none⟩, ⟨false, none⟩] := rfl
  rw [e0, body]
  rfl
end DV
namespace DV
open PySem L2
def top (i : Nat) : Stmt := PySem.Challenge.pw_roundshome_k17_shortest_texts_of_touches.main.body.getD i (.Pass ⟨0, 0, 0, 0⟩)
abbrev s__law_mixed : Stmt := top 10
abbrev s__law_numbers : Stmt := top 11
abbrev s__law_draw : Stmt := top 12
abbrev s__law_list : Stmt := top 26
abbrev s__law_equal : Stmt := top 13
abbrev s__law_all_equal : Stmt := top 14
abbrev s_is_letter : Stmt := top 4
abbrev s_check_letters : Stmt := top 5
abbrev s_best_text : Stmt := top 7
abbrev s_first_items : Stmt := top 8
abbrev s_written : Stmt := top 6
abbrev s__law_items : Stmt := top 27
abbrev s__law_shortest : Stmt := top 28
abbrev s_law : Stmt := top 29
structure Env0T (K : PySem.W.Frag) (mg : Str → Option Value) where
  cls : Nat → Addr
  d__law_mixed : DefF K mg "_law_mixed" s__law_mixed ["number", "k"]
  d__law_numbers : DefF K mg "_law_numbers" s__law_numbers ["script"]
  d__law_draw : DefF K mg "_law_draw" s__law_draw ["draws", "many"]
  d__law_list : DefF K mg "_law_list" s__law_list ["draws"]
  d__law_equal : DefF K mg "_law_equal" s__law_equal ["actual", "due"]
  d__law_all_equal : DefF K mg "_law_all_equal" s__law_all_equal ["actual", "due"]
  d_is_letter : DefF K mg "is_letter" s_is_letter ["value"]
  d_check_letters : DefF K mg "check_letters" s_check_letters ["letters", "most"]
  d_best_text : DefF K mg "best_text" s_best_text ["letters", "known"]
  d_first_items : DefF K mg "first_items" s_first_items ["letters", "known"]
  d_written : DefF K mg "written" s_written ["letters"]
  d__law_items : DefF K mg "_law_items" s__law_items ["letters", "i", "j", "best"]
  d__law_shortest : DefF K mg "_law_shortest" s__law_shortest ["letters"]
  d_law : DefF K mg "law" s_law ["script"]
  e_RingError : ExcF K mg "RingError" (cls 0)
  e_BadTouch : ExcF K mg "BadTouch" (cls 6)
  x_BadTouch : ∀ c b, m_BadTouch c = some b → PySem.W.exmOne K (.ref (cls c)) (.ref (cls 6)) = some b
  b_range : mg "range" = none
  b_len : mg "len" = none
  b_list : mg "list" = none
  b_tuple : mg "tuple" = none
  b_str : mg "str" = none
  b_int : mg "int" = none
  b_bool : mg "bool" = none
  b_isinstance : mg "isinstance" = none
  b_min : mg "min" = none
section
variable {P : Program} {w : World} {K : PySem.W.Frag} {mg : Str → Option Value} {base : Heap}
theorem sc__law_mixed : FnScope ["number", "k", "step"] ["number", "k"] (defScope s__law_mixed) := ⟨rfl, rfl, rfl, by decide +kernel, rfl, by decide +kernel, by decide +kernel⟩
theorem sc__law_numbers : FnScope ["script", "numbers", "cell", "rest", "k"] ["script"] (defScope s__law_numbers) := ⟨rfl, rfl, rfl, by decide +kernel, rfl, by decide +kernel, by decide +kernel⟩
theorem sc__law_draw : FnScope ["draws", "many", "at", "first"] ["draws", "many"] (defScope s__law_draw) := ⟨rfl, rfl, rfl, by decide +kernel, rfl, by decide +kernel, by decide +kernel⟩
theorem sc__law_list : FnScope ["draws", "few", "found", "turn", "part", "k"] ["draws"] (defScope s__law_list) := ⟨rfl, rfl, rfl, by decide +kernel, rfl, by decide +kernel, by decide +kernel⟩
theorem sc__law_equal : FnScope ["actual", "due"] ["actual", "due"] (defScope s__law_equal) := ⟨rfl, rfl, rfl, by decide +kernel, rfl, by decide +kernel, by decide +kernel⟩
theorem sc__law_all_equal : FnScope ["actual", "due", "k"] ["actual", "due"] (defScope s__law_all_equal) := ⟨rfl, rfl, rfl, by decide +kernel, rfl, by decide +kernel, by decide +kernel⟩
theorem sc_is_letter : FnScope ["value"] ["value"] (defScope s_is_letter) := ⟨rfl, rfl, rfl, by decide +kernel, rfl, by decide +kernel, by decide +kernel⟩
theorem sc_check_letters : FnScope ["letters", "most", "letter"] ["letters", "most"] (defScope s_check_letters) := ⟨rfl, rfl, rfl, by decide +kernel, rfl, by decide +kernel, by decide +kernel⟩
theorem sc_best_text : FnScope ["letters", "known", "key", "best", "text", "size", "whole"] ["letters", "known"] (defScope s_best_text) := ⟨rfl, rfl, rfl, by decide +kernel, rfl, by decide +kernel, by decide +kernel⟩
theorem sc_first_items : FnScope ["letters", "known", "found", "run", "size", "times"] ["letters", "known"] (defScope s_first_items) := ⟨rfl, rfl, rfl, by decide +kernel, rfl, by decide +kernel, by decide +kernel⟩
theorem sc_written : FnScope ["letters"] ["letters"] (defScope s_written) := ⟨rfl, rfl, rfl, by decide +kernel, rfl, by decide +kernel, by decide +kernel⟩
theorem sc__law_items : FnScope ["letters", "i", "j", "best", "part", "found", "size"] ["letters", "i", "j", "best"] (defScope s__law_items) := ⟨rfl, rfl, rfl, by decide +kernel, rfl, by decide +kernel, by decide +kernel⟩
theorem sc__law_shortest : FnScope ["letters", "many", "best", "size", "i", "j", "found", "text", "k"] ["letters"] (defScope s__law_shortest) := ⟨rfl, rfl, rfl, by decide +kernel, rfl, by decide +kernel, by decide +kernel⟩
theorem sc_law : FnScope ["script", "draws", "turn", "letters", "bad"] ["script"] (defScope s_law) := ⟨rfl, rfl, rfl, by decide +kernel, rfl, by decide +kernel, by decide +kernel⟩
theorem ok__law_mixed (T : Env0T K mg) : FnOk P w K mg base (L2.CX P w) 1 T.d__law_mixed.f T.d__law_mixed.fd ["number", "k"] (spF ⟨K, T.cls⟩ 2 F__law_mixed) :=
  fn_mk2 (k := 0) T.d__law_mixed.F sc__law_mixed rfl (by decide) fun cdv A outer s H E σ0 hr nd tk po => by
    have hu0 := hu_of hr
    have hu := hr.units
    have hu1 := room65 hr
    exact (iss_cons (is_set (i := 2) (ix_op op_mod sd_mod ((ix_opF op_addA sf_add ((ix_opF op_addA sf_add ((ix_op op_mulA sd_mul (iv_var (pv 0)) iv_int)).val ((ix_op op_mulA sd_mul (iv_var (pv 1)) iv_int)).val)).val iv_int)).val iv_int) nd (by rfl) (by first | exact Or.inl (by rfl) | exact Or.inr (by rfl)))
  (iss_one (is_ret ((ix_op op_mod sd_mod ((ix_opF op_addA sf_add ((ix_op op_mulA sd_mul (iv_var (pv 2)) ((ix_opF op_addA sf_add ((ix_op op_fdiv sd_fdiv (iv_var (pv 2)) iv_int)).val iv_int)).val)).val (iv_var (pv 1)))).val iv_int)).val)))
theorem ok__law_numbers (T : Env0T K mg) : FnOk P w K mg base (L2.CX P w) 2 T.d__law_numbers.f T.d__law_numbers.fd ["script"] (spF ⟨K, T.cls⟩ 1 F__law_numbers) :=
  fn_mk2 (k := 1) T.d__law_numbers.F sc__law_numbers rfl (by decide) fun cdv A outer s H E σ0 hr nd tk po => by
    have hu0 := hu_of hr
    have hu := hr.units
    have hu1 := room65 hr
    exact (iss_cons (is_set (i := 1) (ix_lst il_nil) nd (by rfl) (by first | exact Or.inl (by rfl) | exact Or.inr (by rfl)))
  (iss_cons (is_for po (by rfl) (ii_any (iv_var (pv 0))) (ig_name (pg_name (i := 2) nd (by rfl) (by first | exact Or.inl (by rfl) | exact Or.inr (by rfl)))) (iss_one (is_if (it_cmp op_geA sd_ge (by rfl) (iv_var (pv 2)) ((ix_op op_pow sd_pow iv_int iv_int)).val) (iss_cons (is_set (i := 3) ((iv_var (pv 2))).im nd (by rfl) (by first | exact Or.inl (by rfl) | exact Or.inr (by rfl)))
  (iss_one (is_for po (by rfl) (ii_range1 (by rfl) T.b_range (il_cons iv_int il_nil)) (ig_name (pg_name (i := 4) nd (by rfl) (by first | exact Or.inl (by rfl) | exact Or.inr (by rfl)))) (iss_one (is_if (it_cmp op_gtA sd_gt (by rfl) (iv_var (pv 3)) iv_int) (iss_cons (is_expr (ix_append (pl_slot (pv 1)) ((ix_op op_mod sd_mod (iv_var (pv 3)) iv_int)).val (fun _ _ a b => pe_bm PySem.F.plainAttrs_list PySem.F.slot_list_append PySem.F.type_list_append mt_append a (pa_cons b pa_nil))))
  (iss_one (is_set (i := 3) (ix_op op_fdiv sd_fdiv (iv_var (pv 3)) iv_int) nd (by rfl) (by first | exact Or.inl (by rfl) | exact Or.inr (by rfl))))) iss_nil))))) (iss_cons (is_expr (ix_append (pl_slot (pv 1)) ((ix_op op_mod sd_mod (iv_var (pv 2)) iv_int)).val (fun _ _ a b => pe_bm PySem.F.plainAttrs_list PySem.F.slot_list_append PySem.F.type_list_append mt_append a (pa_cons b pa_nil))))
  (iss_one (is_for po (by rfl) (ii_range1 (by rfl) T.b_range (il_cons iv_int il_nil)) (ig_name (pg_name (i := 4) nd (by rfl) (by first | exact Or.inl (by rfl) | exact Or.inr (by rfl)))) (iss_one (is_expr (ix_append (pl_slot (pv 1)) ((ix_op op_mod sd_mod (iv_call (ok__law_mixed T) (hr.mono (by omega)) (by rfl) T.d__law_mixed.m T.d__law_mixed.F.kp T.d__law_mixed.b tk (by rfl) (ia_e ((iv_call (ok__law_mixed T) (hr.mono (by omega)) (by rfl) T.d__law_mixed.m T.d__law_mixed.F.kp T.d__law_mixed.b tk (by rfl) (ia_e (ix_op op_mod sd_mod (iv_var (pv 2)) iv_int) (ia_e ((iv_var (pv 4))).im ia_nil)))).im (ia_e (ix_opF op_addA sf_add (iv_var (pv 4)) iv_int) ia_nil))) iv_int)).val (fun _ _ a b => pe_bm PySem.F.plainAttrs_list PySem.F.slot_list_append PySem.F.type_list_append mt_append a (pa_cons b pa_nil)))))))))))
  (iss_one (is_ret (iv_var (pv 1))))))
theorem ok__law_draw (T : Env0T K mg) : FnOk P w K mg base (L2.CX P w) 2 T.d__law_draw.f T.d__law_draw.fd ["draws", "many"] (spF ⟨K, T.cls⟩ 2 F__law_draw) :=
  fn_mk2 (k := 1) T.d__law_draw.F sc__law_draw rfl (by decide) fun cdv A outer s H E σ0 hr nd tk po => by
    have hu0 := hu_of hr
    have hu := hr.units
    have hu1 := room65 hr
    exact (iss_cons (is_set (i := 2) (ix_ixB ix_seq sd_ix (fun _ _ => rfl) (pl_slot (pv 0)) iv_int) nd (by rfl) (by first | exact Or.inl (by rfl) | exact Or.inr (by rfl)))
  (iss_cons (is_asg (ix_opF op_addA sf_add (iv_var (pv 2)) iv_int) (ig_item (q := false) (pl_slot (pv 0)) iv_int (fun _ _ a b => pg_sub a b set_list)))
  (iss_cons (is_if (it_cmp op_ltA sd_lt (by rfl) (iv_var (pv 2)) ((ix_callB call_lenA sn_len (by rfl) T.b_len PySem.boot_len (il_cons ((ix_ixB ix_seq sd_ix (fun _ _ => rfl) (pl_slot (pv 0)) iv_int)).val il_nil))).val) (iss_one (is_ret ((ix_op op_mod sd_mod ((ix_ix ix_seq sd_ix (fun _ _ => rfl) ((ix_ixB ix_seq sd_ix (fun _ _ => rfl) (pl_slot (pv 0)) iv_int)).val (iv_var (pv 2)))).val (iv_var (pv 1)))).val)) iss_nil)
  (iss_cons (is_set (i := 3) (ix_opF op_addA sf_add iv_int (iv_var (pv 2))) nd (by rfl) (by first | exact Or.inl (by rfl) | exact Or.inr (by rfl)))
  (iss_cons (is_if (it_cmp op_gtA sd_gt (by rfl) ((ix_callB call_lenA sn_len (by rfl) T.b_len PySem.boot_len (il_cons ((ix_ixB ix_seq sd_ix (fun _ _ => rfl) (pl_slot (pv 0)) iv_int)).val il_nil))).val iv_int) (iss_one (is_set (i := 3) (ix_opF op_addA sf_add (iv_var (pv 3)) ((ix_op op_mulA sd_mul iv_int ((ix_ix ix_seq sd_ix (fun _ _ => rfl) ((ix_ixB ix_seq sd_ix (fun _ _ => rfl) (pl_slot (pv 0)) iv_int)).val iv_int)).val)).val) nd (by rfl) (by first | exact Or.inl (by rfl) | exact Or.inr (by rfl)))) iss_nil)
  (iss_one (is_ret ((ix_op op_mod sd_mod ((ix_op op_fdiv sd_fdiv (iv_call (ok__law_mixed T) (hr.mono (by omega)) (by rfl) T.d__law_mixed.m T.d__law_mixed.F.kp T.d__law_mixed.b tk (by rfl) (ia_e ((iv_call (ok__law_mixed T) (hr.mono (by omega)) (by rfl) T.d__law_mixed.m T.d__law_mixed.F.kp T.d__law_mixed.b tk (by rfl) (ia_e ((iv_var (pv 3))).im (ia_e ((iv_var (pv 2))).im ia_nil)))).im (ia_e (iv_int).im ia_nil))) iv_int)).val (iv_var (pv 1)))).val)))))))
theorem ok__law_list (T : Env0T K mg) : FnOk P w K mg base (L2.CX P w) 3 T.d__law_list.f T.d__law_list.fd ["draws"] (spF ⟨K, T.cls⟩ 1 F__law_list) :=
  fn_mk2 (k := 2) T.d__law_list.F sc__law_list rfl (by decide) fun cdv A outer s H E σ0 hr nd tk po => by
    have hu0 := hu_of hr
    have hu := hr.units
    have hu1 := room65 hr
    exact (iss_cons (is_set (i := 1) (ix_slice (sl_list.or sl_str) ss_slice ((ix_lst (il_cons iv_str (il_cons iv_str (il_cons iv_str il_nil))))).val ip_none (ip_some ((ix_opF op_addA sf_add iv_int (iv_call (ok__law_draw T) (hr.mono (by omega)) (by rfl) T.d__law_draw.m T.d__law_draw.F.kp T.d__law_draw.b tk (by rfl) (ia_v (pv 0) (ia_e (iv_int).im ia_nil))))).val)) nd (by rfl) (by first | exact Or.inl (by rfl) | exact Or.inr (by rfl)))
  (iss_cons (is_set (i := 2) (ix_lst il_nil) nd (by rfl) (by first | exact Or.inl (by rfl) | exact Or.inr (by rfl)))
  (iss_cons (is_for po (by rfl) (ii_range1 (by rfl) T.b_range (il_cons ((ix_opF op_addA sf_add iv_int (iv_call (ok__law_draw T) (hr.mono (by omega)) (by rfl) T.d__law_draw.m T.d__law_draw.F.kp T.d__law_draw.b tk (by rfl) (ia_v (pv 0) (ia_e (iv_int).im ia_nil))))).val il_nil)) (ig_name (pg_name (i := 3) nd (by rfl) (by first | exact Or.inl (by rfl) | exact Or.inr (by rfl)))) (iss_cons (is_setLc (i := 5) (j := 4) (by rfl) nd (by show blkC ["draws", "few", "found", "turn", "part", "k"] (defScope s__law_list) _ _ = true; decide +kernel) (ii_range1 (by rfl) T.b_range (il_cons ((ix_opF op_addA sf_add iv_int (iv_call (ok__law_draw T) (hr.mono (by omega)) (by rfl) T.d__law_draw.m T.d__law_draw.F.kp T.d__law_draw.b tk (by rfl) (ia_v (pv 0) (ia_e (iv_int).im ia_nil))))).val il_nil)) (fun _ _ _ _ _ => pg_name (i := 5) nd (by rfl) (by first | exact Or.inl (by rfl) | exact Or.inr (by rfl))) ict_nil (ic_of fun _ _ _ _ _ => ((ix_ix ix_seq sd_ix (fun _ _ => rfl) (iv_var (pv 1)) (iv_call (ok__law_draw T) (hr.mono (by omega)) (by rfl) T.d__law_draw.m T.d__law_draw.F.kp T.d__law_draw.b takes0 (by rfl) (ia_v (pv 0) (ia_e (ix_callB call_lenA sn_len (by rfl) T.b_len PySem.boot_len (il_cons (iv_var (pv 1)) il_nil)) ia_nil))))).val) (by rfl) (by rfl) (sw_true (by rfl) (by rfl) (by rfl) (by decide +kernel)))
  (iss_one (is_set (i := 2) (ix_opF op_addA sf_add (iv_var (pv 2)) ((ix_op op_mulA sd_mul (iv_var (pv 4)) ((ix_opF op_addA sf_add iv_int (iv_call (ok__law_draw T) (hr.mono (by omega)) (by rfl) T.d__law_draw.m T.d__law_draw.F.kp T.d__law_draw.b tk (by rfl) (ia_v (pv 0) (ia_e (iv_int).im ia_nil))))).val)).val) nd (by rfl) (by first | exact Or.inl (by rfl) | exact Or.inr (by rfl))))))
  (iss_one (is_ret ((ix_slice (sl_list.or sl_str) ss_slice (iv_var (pv 2)) ip_none (ip_some iv_int))).val)))))
theorem all__law_equal (T : Env0T K mg) : ∀ n : Nat, FnOk P w K mg base (L2.CX P w) (1 + n) T.d__law_equal.f T.d__law_equal.fd ["actual", "due"] (spF ⟨K, T.cls⟩ 2 (F__law_equal n)) ∧ FnOk P w K mg base (L2.CX P w) (1 + n) T.d__law_all_equal.f T.d__law_all_equal.fd ["actual", "due"] (spF ⟨K, T.cls⟩ 2 (F__law_all_equal n))
  | 0 => ⟨fn_bad, fn_bad⟩
  | n + 1 => by
    have ih := all__law_equal T n
    have ih__law_equal := ih.1
    have ih__law_all_equal := ih.2
    refine ⟨?_, ?_⟩
    · exact fn_mk2 (k := 1 + n) T.d__law_equal.F sc__law_equal rfl (by decide) fun cdv A outer s H E σ0 hr nd tk po => by
        have hu0 := hu_of hr
        have hu := hr.units
        have hu1 := room65 hr
        exact (iss_cons (is_if (it_truth ((ix_isi (iv_var (pv 1)) (by rfl) T.b_isinstance (by rfl) T.b_list PyProof.Rows.boot_list PyProof.Rows.boot_isinstance)).val) (iss_one (is_ret (iv_and ((ix_isi (iv_var (pv 0)) (by rfl) T.b_isinstance (by rfl) T.b_list PyProof.Rows.boot_list PyProof.Rows.boot_isinstance)).val (iv_and ((ix_cmp (op_eqD hu) sd_eq (by rfl) ((ix_callB call_lenA sn_len (by rfl) T.b_len PySem.boot_len (il_cons (iv_var (pv 0)) il_nil))).val ((ix_callB call_lenA sn_len (by rfl) T.b_len PySem.boot_len (il_cons (iv_var (pv 1)) il_nil))).val)).val (iv_one (iv_call ih__law_all_equal (hr.mono (by omega)) (by rfl) T.d__law_all_equal.m T.d__law_all_equal.F.kp T.d__law_all_equal.b tk (by rfl) (ia_e ((iv_var (pv 0))).im (ia_e ((iv_var (pv 1))).im ia_nil)))))))) iss_nil)
      (iss_cons (is_if (it_truth ((ix_isi (iv_var (pv 1)) (by rfl) T.b_isinstance (by rfl) T.b_tuple PyProof.Rows.boot_tuple PyProof.Rows.boot_isinstance)).val) (iss_one (is_ret (iv_and ((ix_isi (iv_var (pv 0)) (by rfl) T.b_isinstance (by rfl) T.b_tuple PyProof.Rows.boot_tuple PyProof.Rows.boot_isinstance)).val (iv_and ((ix_cmp (op_eqD hu) sd_eq (by rfl) ((ix_callB call_lenA sn_len (by rfl) T.b_len PySem.boot_len (il_cons (iv_var (pv 0)) il_nil))).val ((ix_callB call_lenA sn_len (by rfl) T.b_len PySem.boot_len (il_cons (iv_var (pv 1)) il_nil))).val)).val (iv_one (iv_call ih__law_all_equal (hr.mono (by omega)) (by rfl) T.d__law_all_equal.m T.d__law_all_equal.F.kp T.d__law_all_equal.b tk (by rfl) (ia_e ((iv_var (pv 0))).im (ia_e ((iv_var (pv 1))).im ia_nil)))))))) iss_nil)
      (iss_cons (is_if (it_truth ((ix_isi (iv_var (pv 1)) (by rfl) T.b_isinstance (by rfl) T.b_bool PyProof.Rows.boot_bool PyProof.Rows.boot_isinstance)).val) (iss_one (is_ret (iv_and ((ix_isi (iv_var (pv 0)) (by rfl) T.b_isinstance (by rfl) T.b_bool PyProof.Rows.boot_bool PyProof.Rows.boot_isinstance)).val (iv_one ((ix_cmp (op_eqD hu) sd_eq (by rfl) (iv_var (pv 0)) (iv_var (pv 1)))).val)))) iss_nil)
      (iss_cons (is_if (it_truth ((ix_isi (iv_var (pv 1)) (by rfl) T.b_isinstance (by rfl) T.b_int PyProof.Rows.boot_int PyProof.Rows.boot_isinstance)).val) (iss_one (is_ret (iv_and ((ix_isi (iv_var (pv 0)) (by rfl) T.b_isinstance (by rfl) T.b_int PyProof.Rows.boot_int PyProof.Rows.boot_isinstance)).val (iv_and (iv_not ((ix_isi (iv_var (pv 0)) (by rfl) T.b_isinstance (by rfl) T.b_bool PyProof.Rows.boot_bool PyProof.Rows.boot_isinstance)).val) (iv_one ((ix_cmp (op_eqD hu) sd_eq (by rfl) (iv_var (pv 0)) (iv_var (pv 1)))).val))))) iss_nil)
      (iss_cons (is_if (it_truth ((ix_isi (iv_var (pv 1)) (by rfl) T.b_isinstance (by rfl) T.b_str PyProof.Rows.boot_str PyProof.Rows.boot_isinstance)).val) (iss_one (is_ret (iv_and ((ix_isi (iv_var (pv 0)) (by rfl) T.b_isinstance (by rfl) T.b_str PyProof.Rows.boot_str PyProof.Rows.boot_isinstance)).val (iv_one ((ix_cmp (op_eqD hu) sd_eq (by rfl) (iv_var (pv 0)) (iv_var (pv 1)))).val)))) iss_nil)
      (iss_one (is_ret ((ix_cmp op_isN sd_isN (by rfl) (iv_var (pv 0)) iv_non)).val)))))))
    · exact fn_mk2 (k := 1 + n) T.d__law_all_equal.F sc__law_all_equal rfl (by decide) fun cdv A outer s H E σ0 hr nd tk po => by
        have hu0 := hu_of hr
        have hu := hr.units
        have hu1 := room65 hr
        exact (iss_cons (is_for po (by rfl) (ii_range1 (by rfl) T.b_range (il_cons ((ix_callB call_lenA sn_len (by rfl) T.b_len PySem.boot_len (il_cons (iv_var (pv 1)) il_nil))).val il_nil)) (ig_name (pg_name (i := 2) nd (by rfl) (by first | exact Or.inl (by rfl) | exact Or.inr (by rfl)))) (iss_one (is_if (it_not (it_truth (iv_call ih__law_equal (hr.mono (by omega)) (by rfl) T.d__law_equal.m T.d__law_equal.F.kp T.d__law_equal.b tk (by rfl) (ia_e (ix_ix ix_seq sd_ix (fun _ _ => rfl) (iv_var (pv 0)) (iv_var (pv 2))) (ia_e (ix_ix ix_seq sd_ix (fun _ _ => rfl) (iv_var (pv 1)) (iv_var (pv 2))) ia_nil))))) (iss_one (is_ret iv_bl)) iss_nil)))
      (iss_one (is_ret iv_bl)))

theorem ok__law_equal (n : Nat) (T : Env0T K mg) : FnOk P w K mg base (L2.CX P w) (1 + n) T.d__law_equal.f T.d__law_equal.fd ["actual", "due"] (spF ⟨K, T.cls⟩ 2 (F__law_equal n)) := (all__law_equal T n).1
theorem ok__law_all_equal (n : Nat) (T : Env0T K mg) : FnOk P w K mg base (L2.CX P w) (1 + n) T.d__law_all_equal.f T.d__law_all_equal.fd ["actual", "due"] (spF ⟨K, T.cls⟩ 2 (F__law_all_equal n)) := (all__law_equal T n).2
theorem ok_is_letter (T : Env0T K mg) : FnOk P w K mg base (L2.CX P w) 1 T.d_is_letter.f T.d_is_letter.fd ["value"] (spF ⟨K, T.cls⟩ 1 F_is_letter) :=
  fn_mk2 (k := 0) T.d_is_letter.F sc_is_letter rfl (by decide) fun cdv A outer s H E σ0 hr nd tk po => by
    have hu0 := hu_of hr
    have hu := hr.units
    have hu1 := room65 hr
    exact (iss_one (is_ret (iv_and ((ix_isi (iv_var (pv 0)) (by rfl) T.b_isinstance (by rfl) T.b_str PyProof.Rows.boot_str PyProof.Rows.boot_isinstance)).val (iv_and ((ix_cmp (op_eqD hu) sd_eq (by rfl) ((ix_callB call_lenA sn_len (by rfl) T.b_len PySem.boot_len (il_cons (iv_var (pv 0)) il_nil))).val iv_int)).val (iv_one (iv_chain op_leA sd_le op_leA sd_le iv_str (iv_var (pv 0)) iv_str (by rfl)))))))
theorem ok_check_letters (T : Env0T K mg) : FnOk P w K mg base (L2.CX P w) 2 T.d_check_letters.f T.d_check_letters.fd ["letters", "most"] (spF ⟨K, T.cls⟩ 2 F_check_letters) :=
  fn_mk2 (k := 1) T.d_check_letters.F sc_check_letters rfl (by decide) fun cdv A outer s H E σ0 hr nd tk po => by
    have hu0 := hu_of hr
    have hu := hr.units
    have hu1 := room65 hr
    exact (iss_cons (is_if ((iw_or (it_not (it_truth ((ix_isi (iv_var (pv 0)) (by rfl) T.b_isinstance (by rfl) T.b_list PyProof.Rows.boot_list PyProof.Rows.boot_isinstance)).val)) (iw_or1 (it_not (it_chain op_leA sd_le op_leA sd_le iv_int ((ix_callB call_lenA sn_len (by rfl) T.b_len PySem.boot_len (il_cons (iv_var (pv 0)) il_nil))).val (iv_var (pv 1)) (by rfl)))))).it (iss_one (is_raiseO (by rfl) tk T.e_BadTouch.ex T.e_BadTouch.m T.e_BadTouch.k T.e_BadTouch.b T.e_BadTouch.t (by rfl))) iss_nil)
  (iss_one (is_if (it_truth ((ix_lc (i := 2) (by rfl) nd (by show blkC ["letters", "most", "letter"] (defScope s_check_letters) _ _ = true; decide +kernel) (ii_any (iv_var (pv 0))) (fun _ _ _ _ _ => pg_name (i := 2) nd (by rfl) (by first | exact Or.inl (by rfl) | exact Or.inr (by rfl))) (ict_one fun _ _ _ _ _ => (it_not (it_truth (iv_call (ok_is_letter T) (hr.mono (by omega)) (by rfl) T.d_is_letter.m T.d_is_letter.F.kp T.d_is_letter.b takes0 (by rfl) (ia_e ((iv_var (pv 2))).im ia_nil))))) (ic_of fun _ _ _ _ _ => (iv_var (pv 2))))).val) (iss_one (is_raiseO (by rfl) tk T.e_BadTouch.ex T.e_BadTouch.m T.e_BadTouch.k T.e_BadTouch.b T.e_BadTouch.t (by rfl))) iss_nil)))
theorem all_best_text (T : Env0T K mg) : ∀ n : Nat, FnOk P w K mg base (L2.CX P w) (1 + n) T.d_best_text.f T.d_best_text.fd ["letters", "known"] (spF ⟨K, T.cls⟩ 2 (F_best_text n)) ∧ FnOk P w K mg base (L2.CX P w) (1 + n) T.d_first_items.f T.d_first_items.fd ["letters", "known"] (spF ⟨K, T.cls⟩ 2 (F_first_items n))
  | 0 => ⟨fn_bad, fn_bad⟩
  | n + 1 => by
    have ih := all_best_text T n
    have ih_best_text := ih.1
    have ih_first_items := ih.2
    refine ⟨?_, ?_⟩
    · exact fn_mk2 (k := 1 + n) T.d_best_text.F sc_best_text rfl (by decide) fun cdv A outer s H E σ0 hr nd tk po => by
        have hu0 := hu_of hr
        have hu := hr.units
        have hu1 := room65 hr
        exact (iss_cons (is_set (i := 2) (ix_callTy call_tuple_of sn_tuple (by rfl) T.b_tuple PyProof.Rows.boot_tuple (il_cons (iv_var (pv 0)) il_nil)) nd (by rfl) (by first | exact Or.inl (by rfl) | exact Or.inr (by rfl)))
      (iss_cons (is_if (it_formC sj_din (iv_var (pv 2)) (pl_slot (pv 1)) (fun _ _ a b => pt_cmp (pc_din hu0 a b))) (iss_one (is_ret ((ix_formB sk_dget (pl_slot (pv 1)) (iv_var (pv 2)) (fun _ _ a b => pe_dget hu0 a b (fun _ _ => rfl)))).val)) iss_nil)
      (iss_cons (is_set (i := 3) (iv_non).im nd (by rfl) (by first | exact Or.inl (by rfl) | exact Or.inr (by rfl)))
      (iss_cons (is_for po (by rfl) (ii_any (iv_call ih_first_items (hr.mono (by omega)) (by rfl) T.d_first_items.m T.d_first_items.F.kp T.d_first_items.b tk (by rfl) (ia_e ((iv_var (pv 0))).im (ia_v (pv 1) ia_nil)))) (ig_tup (by rfl) (igs_cons (ig_name (pg_name (i := 4) nd (by rfl) (by first | exact Or.inl (by rfl) | exact Or.inr (by rfl)))) (igs_cons (ig_name (pg_name (i := 5) nd (by rfl) (by first | exact Or.inl (by rfl) | exact Or.inr (by rfl)))) igs_nil))) (iss_cons (is_set (i := 6) (ix_if (it_cmp (op_eqD hu) sd_eq (by rfl) (iv_var (pv 5)) ((ix_callB call_lenA sn_len (by rfl) T.b_len PySem.boot_len (il_cons (iv_var (pv 0)) il_nil))).val) ((iv_var (pv 4))).im (ix_opF op_addA sf_add (iv_var (pv 4)) (iv_call ih_best_text (hr.mono (by omega)) (by rfl) T.d_best_text.m T.d_best_text.F.kp T.d_best_text.b tk (by rfl) (ia_e (ix_slice (sl_list.or sl_str) ss_slice (iv_var (pv 0)) (ip_some (iv_var (pv 5))) ip_none) (ia_v (pv 1) ia_nil))))) nd (by rfl) (by first | exact Or.inl (by rfl) | exact Or.inr (by rfl)))
      (iss_one (is_if ((iw_or (it_cmp op_isN sd_isN (by rfl) (iv_var (pv 3)) iv_non) (iw_or1 (it_cmp (op_ltD hu) sd_ltD (by rfl) ((ix_tup (il_cons ((ix_callB call_lenA sn_len (by rfl) T.b_len PySem.boot_len (il_cons (iv_var (pv 6)) il_nil))).val (il_cons (iv_var (pv 6)) il_nil)))).val ((ix_tup (il_cons ((ix_callB call_lenA sn_len (by rfl) T.b_len PySem.boot_len (il_cons (iv_var (pv 3)) il_nil))).val (il_cons (iv_var (pv 3)) il_nil)))).val)))).it (iss_one (is_set (i := 3) ((iv_var (pv 6))).im nd (by rfl) (by first | exact Or.inl (by rfl) | exact Or.inr (by rfl)))) iss_nil))))
      (iss_cons (is_dput (q := false) (pl_slot (pv 1)) (iv_var (pv 2)) (iv_var (pv 3)) (fun _ _ _ a b c => ps_dput hu0 a b c (by rfl)))
      (iss_one (is_ret (iv_var (pv 3)))))))))
    · exact fn_mk2 (k := 1 + n) T.d_first_items.F sc_first_items rfl (by decide) fun cdv A outer s H E σ0 hr nd tk po => by
        have hu0 := hu_of hr
        have hu := hr.units
        have hu1 := room65 hr
        exact (iss_cons (is_set (i := 2) (ix_lst (il_cons ((ix_tup (il_cons ((ix_ix ix_seq sd_ix (fun _ _ => rfl) (iv_var (pv 0)) iv_int)).val (il_cons iv_int il_nil)))).val il_nil)) nd (by rfl) (by first | exact Or.inl (by rfl) | exact Or.inr (by rfl)))
      (iss_cons (is_set (i := 3) (iv_int).im nd (by rfl) (by first | exact Or.inl (by rfl) | exact Or.inr (by rfl)))
      (iss_cons (is_while po ((iw_and (it_cmp op_ltA sd_lt (by rfl) (iv_var (pv 3)) ((ix_callB call_lenA sn_len (by rfl) T.b_len PySem.boot_len (il_cons (iv_var (pv 0)) il_nil))).val) (iw_and1 (it_cmp (op_eqD hu) sd_eq (by rfl) ((ix_ix ix_seq sd_ix (fun _ _ => rfl) (iv_var (pv 0)) (iv_var (pv 3)))).val ((ix_ix ix_seq sd_ix (fun _ _ => rfl) (iv_var (pv 0)) iv_int)).val)))).it (iss_cons (is_set (i := 3) (ix_opF op_addA sf_add (iv_var (pv 3)) iv_int) nd (by rfl) (by first | exact Or.inl (by rfl) | exact Or.inr (by rfl)))
      (iss_one (is_expr (ix_append (pl_slot (pv 2)) ((ix_tup (il_cons ((ix_opF op_addA sf_add ((ix_ix ix_seq sd_ix (fun _ _ => rfl) (iv_var (pv 0)) iv_int)).val ((ix_callTy call_str_int sn_str (by rfl) T.b_str PyProof.Rows.boot_str (il_cons (iv_var (pv 3)) il_nil))).val)).val (il_cons (iv_var (pv 3)) il_nil)))).val (fun _ _ a b => pe_bm PySem.F.plainAttrs_list PySem.F.slot_list_append PySem.F.type_list_append mt_append a (pa_cons b pa_nil)))))))
      (iss_cons (is_for po (by rfl) (ii_range2 (by rfl) T.b_range (il_cons iv_int (il_cons ((ix_opF op_addA sf_add ((ix_op op_fdiv sd_fdiv ((ix_callB call_lenA sn_len (by rfl) T.b_len PySem.boot_len (il_cons (iv_var (pv 0)) il_nil))).val iv_int)).val iv_int)).val il_nil))) (ig_name (pg_name (i := 4) nd (by rfl) (by first | exact Or.inl (by rfl) | exact Or.inr (by rfl)))) (iss_cons (is_set (i := 5) (iv_int).im nd (by rfl) (by first | exact Or.inl (by rfl) | exact Or.inr (by rfl)))
      (iss_one (is_while po (it_cmp (op_eqD hu) sd_eq (by rfl) ((ix_slice (sl_list.or sl_str) ss_slice (iv_var (pv 0)) (ip_some ((ix_op op_mulA sd_mul (iv_var (pv 5)) (iv_var (pv 4)))).val) (ip_some ((ix_op op_mulA sd_mul ((ix_opF op_addA sf_add (iv_var (pv 5)) iv_int)).val (iv_var (pv 4)))).val))).val ((ix_slice (sl_list.or sl_str) ss_slice (iv_var (pv 0)) ip_none (ip_some (iv_var (pv 4))))).val) (iss_cons (is_set (i := 5) (ix_opF op_addA sf_add (iv_var (pv 5)) iv_int) nd (by rfl) (by first | exact Or.inl (by rfl) | exact Or.inr (by rfl)))
      (iss_one (is_expr (ix_append (pl_slot (pv 2)) ((ix_tup (il_cons ((ix_opF op_addA sf_add ((ix_opF op_addA sf_add ((ix_opF op_addA sf_add iv_str (iv_call ih_best_text (hr.mono (by omega)) (by rfl) T.d_best_text.m T.d_best_text.F.kp T.d_best_text.b tk (by rfl) (ia_e (ix_slice (sl_list.or sl_str) ss_slice (iv_var (pv 0)) ip_none (ip_some (iv_var (pv 4)))) (ia_v (pv 1) ia_nil))))).val iv_str)).val ((ix_callTy call_str_int sn_str (by rfl) T.b_str PyProof.Rows.boot_str (il_cons (iv_var (pv 5)) il_nil))).val)).val (il_cons ((ix_op op_mulA sd_mul (iv_var (pv 5)) (iv_var (pv 4)))).val il_nil)))).val (fun _ _ a b => pe_bm PySem.F.plainAttrs_list PySem.F.slot_list_append PySem.F.type_list_append mt_append a (pa_cons b pa_nil))))))))))
      (iss_one (is_ret (iv_var (pv 2))))))))

theorem ok_best_text (n : Nat) (T : Env0T K mg) : FnOk P w K mg base (L2.CX P w) (1 + n) T.d_best_text.f T.d_best_text.fd ["letters", "known"] (spF ⟨K, T.cls⟩ 2 (F_best_text n)) := (all_best_text T n).1
theorem ok_first_items (n : Nat) (T : Env0T K mg) : FnOk P w K mg base (L2.CX P w) (1 + n) T.d_first_items.f T.d_first_items.fd ["letters", "known"] (spF ⟨K, T.cls⟩ 2 (F_first_items n)) := (all_best_text T n).2
theorem ok_written (T : Env0T K mg) : FnOk P w K mg base (L2.CX P w) 130 T.d_written.f T.d_written.fd ["letters"] (spF ⟨K, T.cls⟩ 1 F_written) :=
  fn_mk2 (k := 129) T.d_written.F sc_written rfl (by decide) fun cdv A outer s H E σ0 hr nd tk po => by
    have hu0 := hu_of hr
    have hu := hr.units
    have hu1 := room65 hr
    exact (iss_cons (is_expr ((iv_call (ok_check_letters T) (hr.mono (by omega)) (by rfl) T.d_check_letters.m T.d_check_letters.F.kp T.d_check_letters.b tk (by rfl) (ia_e ((iv_var (pv 0))).im (ia_e (iv_int).im ia_nil)))).im)
  (iss_one (is_ret (iv_call (ok_best_text 128 T) (hr.mono (by omega)) (by rfl) T.d_best_text.m T.d_best_text.F.kp T.d_best_text.b tk (by rfl) (ia_e ((iv_var (pv 0))).im (ia_e ix_dnewT ia_nil))))))
theorem ok__law_items (T : Env0T K mg) : FnOk P w K mg base (L2.CX P w) 1 T.d__law_items.f T.d__law_items.fd ["letters", "i", "j", "best"] (spF ⟨K, T.cls⟩ 4 F__law_items) :=
  fn_mk2 (k := 0) T.d__law_items.F sc__law_items rfl (by decide) fun cdv A outer s H E σ0 hr nd tk po => by
    have hu0 := hu_of hr
    have hu := hr.units
    have hu1 := room65 hr
    exact (iss_cons (is_set (i := 4) (ix_slice (sl_list.or sl_str) ss_slice (iv_var (pv 0)) (ip_some (iv_var (pv 1))) (ip_some (iv_var (pv 2)))) nd (by rfl) (by first | exact Or.inl (by rfl) | exact Or.inr (by rfl)))
  (iss_cons (is_set (i := 5) (ix_if (it_cmp (op_eqD hu) sd_eq (by rfl) ((ix_callB call_lenA sn_len (by rfl) T.b_len PySem.boot_len (il_cons (iv_var (pv 4)) il_nil))).val iv_int) (ix_lst (il_cons ((ix_ix ix_seq sd_ix (fun _ _ => rfl) (iv_var (pv 4)) iv_int)).val il_nil)) (ix_lst il_nil)) nd (by rfl) (by first | exact Or.inl (by rfl) | exact Or.inr (by rfl)))
  (iss_cons (is_if ((iw_and (it_cmp op_gtA sd_gt (by rfl) ((ix_callB call_lenA sn_len (by rfl) T.b_len PySem.boot_len (il_cons (iv_var (pv 4)) il_nil))).val iv_int) (iw_and1 (it_cmp (op_eqD hu) sd_eq (by rfl) (iv_var (pv 4)) ((ix_op op_mulA sd_mul ((ix_lst (il_cons ((ix_ix ix_seq sd_ix (fun _ _ => rfl) (iv_var (pv 4)) iv_int)).val il_nil))).val ((ix_callB call_lenA sn_len (by rfl) T.b_len PySem.boot_len (il_cons (iv_var (pv 4)) il_nil))).val)).val)))).it (iss_one (is_expr (ix_append (pl_slot (pv 5)) ((ix_opF op_addA sf_add ((ix_ix ix_seq sd_ix (fun _ _ => rfl) (iv_var (pv 4)) iv_int)).val ((ix_callTy call_str_int sn_str (by rfl) T.b_str PyProof.Rows.boot_str (il_cons ((ix_callB call_lenA sn_len (by rfl) T.b_len PySem.boot_len (il_cons (iv_var (pv 4)) il_nil))).val il_nil))).val)).val (fun _ _ a b => pe_bm PySem.F.plainAttrs_list PySem.F.slot_list_append PySem.F.type_list_append mt_append a (pa_cons b pa_nil))))) iss_nil)
  (iss_cons (is_for po (by rfl) (ii_range2 (by rfl) T.b_range (il_cons iv_int (il_cons ((ix_callB call_lenA sn_len (by rfl) T.b_len PySem.boot_len (il_cons (iv_var (pv 4)) il_nil))).val il_nil))) (ig_name (pg_name (i := 6) nd (by rfl) (by first | exact Or.inl (by rfl) | exact Or.inr (by rfl)))) (iss_one (is_if ((iw_and (it_cmp (op_eqD hu) sd_eq (by rfl) ((ix_op op_mod sd_mod ((ix_callB call_lenA sn_len (by rfl) T.b_len PySem.boot_len (il_cons (iv_var (pv 4)) il_nil))).val (iv_var (pv 6)))).val iv_int) (iw_and1 (it_cmp (op_eqD hu) sd_eq (by rfl) (iv_var (pv 4)) ((ix_op op_mulA sd_mul ((ix_slice (sl_list.or sl_str) ss_slice (iv_var (pv 4)) ip_none (ip_some (iv_var (pv 6))))).val ((ix_op op_fdiv sd_fdiv ((ix_callB call_lenA sn_len (by rfl) T.b_len PySem.boot_len (il_cons (iv_var (pv 4)) il_nil))).val (iv_var (pv 6)))).val)).val)))).it (iss_one (is_expr (ix_append (pl_slot (pv 5)) ((ix_opF op_addA sf_add ((ix_opF op_addA sf_add ((ix_opF op_addA sf_add iv_str ((ix_ix ix_seq sd_ix (fun _ _ => rfl) ((ix_formB sk_dget (pl_slot (pv 3)) ((ix_tup (il_cons (iv_var (pv 1)) (il_cons ((ix_opF op_addA sf_add (iv_var (pv 1)) (iv_var (pv 6)))).val il_nil)))).val (fun _ _ a b => pe_dget hu0 a b (fun _ _ => rfl)))).val iv_int)).val)).val iv_str)).val ((ix_callTy call_str_int sn_str (by rfl) T.b_str PyProof.Rows.boot_str (il_cons ((ix_op op_fdiv sd_fdiv ((ix_callB call_lenA sn_len (by rfl) T.b_len PySem.boot_len (il_cons (iv_var (pv 4)) il_nil))).val (iv_var (pv 6)))).val il_nil))).val)).val (fun _ _ a b => pe_bm PySem.F.plainAttrs_list PySem.F.slot_list_append PySem.F.type_list_append mt_append a (pa_cons b pa_nil))))) iss_nil)))
  (iss_one (is_ret (iv_var (pv 5))))))))
theorem ok__law_shortest (T : Env0T K mg) : FnOk P w K mg base (L2.CX P w) 2 T.d__law_shortest.f T.d__law_shortest.fd ["letters"] (spF ⟨K, T.cls⟩ 1 F__law_shortest) :=
  fn_mk2 (k := 1) T.d__law_shortest.F sc__law_shortest rfl (by decide) fun cdv A outer s H E σ0 hr nd tk po => by
    have hu0 := hu_of hr
    have hu := hr.units
    have hu1 := room65 hr
    exact (iss_cons (is_set (i := 1) (ix_callB call_lenA sn_len (by rfl) T.b_len PySem.boot_len (il_cons (iv_var (pv 0)) il_nil)) nd (by rfl) (by first | exact Or.inl (by rfl) | exact Or.inr (by rfl)))
  (iss_cons (is_set (i := 2) ix_dnewT nd (by rfl) (by first | exact Or.inl (by rfl) | exact Or.inr (by rfl)))
  (iss_cons (is_for po (by rfl) (ii_range2 (by rfl) T.b_range (il_cons iv_int (il_cons ((ix_opF op_addA sf_add (iv_var (pv 1)) iv_int)).val il_nil))) (ig_name (pg_name (i := 3) nd (by rfl) (by first | exact Or.inl (by rfl) | exact Or.inr (by rfl)))) (iss_one (is_for po (by rfl) (ii_range1 (by rfl) T.b_range (il_cons ((ix_opF op_addA sf_add ((ix_op op_sub sd_sub (iv_var (pv 1)) (iv_var (pv 3)))).val iv_int)).val il_nil)) (ig_name (pg_name (i := 4) nd (by rfl) (by first | exact Or.inl (by rfl) | exact Or.inr (by rfl)))) (iss_cons (is_set (i := 5) (ix_opF op_addA sf_add (iv_var (pv 4)) (iv_var (pv 3))) nd (by rfl) (by first | exact Or.inl (by rfl) | exact Or.inr (by rfl)))
  (iss_cons (is_setLc (i := 7) (j := 6) (by rfl) nd (by show blkC ["letters", "many", "best", "size", "i", "j", "found", "text", "k"] (defScope s__law_shortest) _ _ = true; decide +kernel) (ii_any (iv_call (ok__law_items T) (hr.mono (by omega)) (by rfl) T.d__law_items.m T.d__law_items.F.kp T.d__law_items.b tk (by rfl) (ia_e ((iv_var (pv 0))).im (ia_e ((iv_var (pv 4))).im (ia_e ((iv_var (pv 5))).im (ia_v (pv 2) ia_nil)))))) (fun _ _ _ _ _ => pg_name (i := 7) nd (by rfl) (by first | exact Or.inl (by rfl) | exact Or.inr (by rfl))) ict_nil (ic_of fun _ _ _ _ _ => ((ix_tup (il_cons ((ix_callB call_lenA sn_len (by rfl) T.b_len PySem.boot_len (il_cons (iv_var (pv 7)) il_nil))).val (il_cons (iv_var (pv 7)) il_nil)))).val) (by rfl) (by rfl) (sw_true (by rfl) (by rfl) (by rfl) (by decide +kernel)))
  (iss_cons (is_for po (by rfl) (ii_range2 (by rfl) T.b_range (il_cons ((ix_opF op_addA sf_add (iv_var (pv 4)) iv_int)).val (il_cons (iv_var (pv 5)) il_nil))) (ig_name (pg_name (i := 8) nd (by rfl) (by first | exact Or.inl (by rfl) | exact Or.inr (by rfl)))) (iss_one (is_for po (by rfl) (ii_any (iv_call (ok__law_items T) (hr.mono (by omega)) (by rfl) T.d__law_items.m T.d__law_items.F.kp T.d__law_items.b tk (by rfl) (ia_e ((iv_var (pv 0))).im (ia_e ((iv_var (pv 4))).im (ia_e ((iv_var (pv 8))).im (ia_v (pv 2) ia_nil)))))) (ig_name (pg_name (i := 7) nd (by rfl) (by first | exact Or.inl (by rfl) | exact Or.inr (by rfl)))) (iss_one (is_expr (ix_append (pl_slot (pv 6)) ((ix_tup (il_cons ((ix_opF op_addA sf_add ((ix_callB call_lenA sn_len (by rfl) T.b_len PySem.boot_len (il_cons (iv_var (pv 7)) il_nil))).val ((ix_ix ix_seq sd_ix (fun _ _ => rfl) ((ix_formB sk_dget (pl_slot (pv 2)) ((ix_tup (il_cons (iv_var (pv 8)) (il_cons (iv_var (pv 5)) il_nil)))).val (fun _ _ a b => pe_dget hu0 a b (fun _ _ => rfl)))).val iv_int)).val)).val (il_cons ((ix_opF op_addA sf_add (iv_var (pv 7)) ((ix_ix ix_seq sd_ix (fun _ _ => rfl) ((ix_formB sk_dget (pl_slot (pv 2)) ((ix_tup (il_cons (iv_var (pv 8)) (il_cons (iv_var (pv 5)) il_nil)))).val (fun _ _ a b => pe_dget hu0 a b (fun _ _ => rfl)))).val iv_int)).val)).val il_nil)))).val (fun _ _ a b => pe_bm PySem.F.plainAttrs_list PySem.F.slot_list_append PySem.F.type_list_append mt_append a (pa_cons b pa_nil))))))))
  (iss_one (is_dput (q := false) (pl_slot (pv 2)) ((ix_tup (il_cons (iv_var (pv 4)) (il_cons (iv_var (pv 5)) il_nil)))).val ((ix_callB (call_minD (by rfl) hu1) sn_MinL (by rfl) T.b_min PyProof.Rows.boot_min (il_cons (iv_var (pv 6)) il_nil))).val (fun _ _ _ a b c => ps_dput hu0 a b c (by rfl))))))))))
  (iss_one (is_ret ((ix_ix ix_seq sd_ix (fun _ _ => rfl) ((ix_formB sk_dget (pl_slot (pv 2)) ((ix_tup (il_cons iv_int (il_cons (iv_var (pv 1)) il_nil)))).val (fun _ _ a b => pe_dget hu0 a b (fun _ _ => rfl)))).val iv_int)).val)))))
theorem ok_law (T : Env0T K mg) : FnOk P w K mg base (L2.CX P w) 131 T.d_law.f T.d_law.fd ["script"] (spF ⟨K, T.cls⟩ 1 F_law) :=
  fn_mk2 (k := 130) T.d_law.F sc_law rfl (by decide) fun cdv A outer s H E σ0 hr nd tk po => by
    have hu0 := hu_of hr
    have hu := hr.units
    have hu1 := room65 hr
    exact (iss_cons (is_set (i := 1) (ix_lst (il_cons (iv_call (ok__law_numbers T) (hr.mono (by omega)) (by rfl) T.d__law_numbers.m T.d__law_numbers.F.kp T.d__law_numbers.b tk (by rfl) (ia_e ((iv_var (pv 0))).im ia_nil)) (il_cons iv_int il_nil))) nd (by rfl) (by first | exact Or.inl (by rfl) | exact Or.inr (by rfl)))
  (iss_cons (is_for po (by rfl) (ii_range1 (by rfl) T.b_range (il_cons iv_int il_nil)) (ig_name (pg_name (i := 2) nd (by rfl) (by first | exact Or.inl (by rfl) | exact Or.inr (by rfl)))) (iss_cons (is_set (i := 3) ((iv_call (ok__law_list T) (hr.mono (by omega)) (by rfl) T.d__law_list.m T.d__law_list.F.kp T.d__law_list.b tk (by rfl) (ia_v (pv 1) ia_nil))).im nd (by rfl) (by first | exact Or.inl (by rfl) | exact Or.inr (by rfl)))
  (iss_one (is_if (it_not (it_truth (iv_call (ok__law_equal 64 T) (hr.mono (by omega)) (by rfl) T.d__law_equal.m T.d__law_equal.F.kp T.d__law_equal.b tk (by rfl) (ia_e ((iv_call (ok_written T) (hr.mono (by omega)) (by rfl) T.d_written.m T.d_written.F.kp T.d_written.b tk (by rfl) (ia_e (ix_callTy call_list_of sn_list (by rfl) T.b_list PyProof.Rows.boot_list (il_cons (iv_var (pv 3)) il_nil)) ia_nil))).im (ia_e ((iv_call (ok__law_shortest T) (hr.mono (by omega)) (by rfl) T.d__law_shortest.m T.d__law_shortest.F.kp T.d__law_shortest.b tk (by rfl) (ia_e ((iv_var (pv 3))).im ia_nil))).im ia_nil))))) (iss_one (is_ret iv_bl)) iss_nil))))
  (iss_cons (is_for po (by rfl) (ii_any ((ix_lst (il_cons ((ix_lst il_nil)).val (il_cons ((ix_op op_mulA sd_mul ((ix_lst (il_cons iv_str il_nil))).val iv_int)).val (il_cons ((ix_lst (il_cons iv_str (il_cons iv_str il_nil)))).val (il_cons ((ix_lst (il_cons iv_str il_nil))).val (il_cons ((ix_lst (il_cons iv_str il_nil))).val (il_cons iv_non (il_cons iv_str (il_cons ((ix_lst (il_cons iv_int il_nil))).val il_nil)))))))))).val) (ig_name (pg_name (i := 4) nd (by rfl) (by first | exact Or.inl (by rfl) | exact Or.inr (by rfl)))) (iss_one (is_try (by rfl) (by rfl) tk (fun W2 pn xe tk2 po2 => (iss_cons (is_expr ((iv_call (ok_written T) (hr.mono (by omega)) (by rfl) T.d_written.m T.d_written.F.kp T.d_written.b tk2 (by rfl) (ia_e ((iv_var (pv 4))).im ia_nil))).im)
  (iss_one (is_ret iv_bl)))) (ihs_cons ⟨by rfl, by decide, .inl T.e_BadTouch.m⟩ T.x_BadTouch (fun a oe pn => (iss_one is_pass)) ihs_nil))))
  (iss_one (is_ret ((ix_cmp (op_eqD hu) sd_eq (by rfl) ((ix_callB call_lenA sn_len (by rfl) T.b_len PySem.boot_len (il_cons (iv_call (ok_written T) (hr.mono (by omega)) (by rfl) T.d_written.m T.d_written.F.kp T.d_written.b tk (by rfl) (ia_e (ix_op op_mulA sd_mul ((ix_lst (il_cons iv_str (il_cons iv_str il_nil)))).val iv_int) ia_nil)) il_nil))).val iv_int)).val)))))
end
end DV
namespace DV
open PySem L2
theorem all_mk {l : PySem.W.OpenLaw} {w : World} {K : PySem.W.Frag} {h : Heap} {mg : Str → Option Value} {fa : Addr} {f__law_mixed f__law_numbers f__law_draw f__law_list f__law_equal f__law_all_equal f_is_letter f_check_letters f_best_text f_first_items f_written f__law_items f__law_shortest f_law : Addr} {C_RingError C_BadTouch : Addr}
    {od__law_mixed an__law_mixed : Option Addr} {sl__law_mixed : Array (Option Value)} {oc__law_mixed kV__law_mixed dc__law_mixed pm__law_mixed cd__law_mixed ct__law_mixed : Value}
    {od__law_numbers an__law_numbers : Option Addr} {sl__law_numbers : Array (Option Value)} {oc__law_numbers kV__law_numbers dc__law_numbers pm__law_numbers cd__law_numbers ct__law_numbers : Value}
    {od__law_draw an__law_draw : Option Addr} {sl__law_draw : Array (Option Value)} {oc__law_draw kV__law_draw dc__law_draw pm__law_draw cd__law_draw ct__law_draw : Value}
    {od__law_list an__law_list : Option Addr} {sl__law_list : Array (Option Value)} {oc__law_list kV__law_list dc__law_list pm__law_list cd__law_list ct__law_list : Value}
    {od__law_equal an__law_equal : Option Addr} {sl__law_equal : Array (Option Value)} {oc__law_equal kV__law_equal dc__law_equal pm__law_equal cd__law_equal ct__law_equal : Value}
    {od__law_all_equal an__law_all_equal : Option Addr} {sl__law_all_equal : Array (Option Value)} {oc__law_all_equal kV__law_all_equal dc__law_all_equal pm__law_all_equal cd__law_all_equal ct__law_all_equal : Value}
    {od_is_letter an_is_letter : Option Addr} {sl_is_letter : Array (Option Value)} {oc_is_letter kV_is_letter dc_is_letter pm_is_letter cd_is_letter ct_is_letter : Value}
    {od_check_letters an_check_letters : Option Addr} {sl_check_letters : Array (Option Value)} {oc_check_letters kV_check_letters dc_check_letters pm_check_letters cd_check_letters ct_check_letters : Value}
    {od_best_text an_best_text : Option Addr} {sl_best_text : Array (Option Value)} {oc_best_text kV_best_text dc_best_text pm_best_text cd_best_text ct_best_text : Value}
    {od_first_items an_first_items : Option Addr} {sl_first_items : Array (Option Value)} {oc_first_items kV_first_items dc_first_items pm_first_items cd_first_items ct_first_items : Value}
    {od_written an_written : Option Addr} {sl_written : Array (Option Value)} {oc_written kV_written dc_written pm_written cd_written ct_written : Value}
    {od__law_items an__law_items : Option Addr} {sl__law_items : Array (Option Value)} {oc__law_items kV__law_items dc__law_items pm__law_items cd__law_items ct__law_items : Value}
    {od__law_shortest an__law_shortest : Option Addr} {sl__law_shortest : Array (Option Value)} {oc__law_shortest kV__law_shortest dc__law_shortest pm__law_shortest cd__law_shortest ct__law_shortest : Value}
    {od_law an_law : Option Addr} {sl_law : Array (Option Value)} {oc_law kV_law dc_law pm_law cd_law ct_law : Value}
    (X : K.In h) (G : h.Ns mainGlobals mg) (hfa : mg "law" = some (.ref fa))
    (a__law_mixed : PySem.W.nsIn K mainGlobals "_law_mixed" = some (some (.ref f__law_mixed)))
    (l__law_mixed : K.lookup f__law_mixed = some ⟨oc__law_mixed, od__law_mixed, .func (PySem.W.fnOf "_law_mixed" "_law_mixed" (defArgs s__law_mixed) (defBody s__law_mixed) (defScope s__law_mixed) .none kV__law_mixed dc__law_mixed pm__law_mixed an__law_mixed cd__law_mixed ct__law_mixed), sl__law_mixed⟩)
    (c__law_mixed : PySem.W.codeIn K cd__law_mixed "_law_mixed" = true)
    (k__law_mixed : PySem.W.keepIn K (.ref f__law_mixed) = true)
    (a__law_numbers : PySem.W.nsIn K mainGlobals "_law_numbers" = some (some (.ref f__law_numbers)))
    (l__law_numbers : K.lookup f__law_numbers = some ⟨oc__law_numbers, od__law_numbers, .func (PySem.W.fnOf "_law_numbers" "_law_numbers" (defArgs s__law_numbers) (defBody s__law_numbers) (defScope s__law_numbers) .none kV__law_numbers dc__law_numbers pm__law_numbers an__law_numbers cd__law_numbers ct__law_numbers), sl__law_numbers⟩)
    (c__law_numbers : PySem.W.codeIn K cd__law_numbers "_law_numbers" = true)
    (k__law_numbers : PySem.W.keepIn K (.ref f__law_numbers) = true)
    (a__law_draw : PySem.W.nsIn K mainGlobals "_law_draw" = some (some (.ref f__law_draw)))
    (l__law_draw : K.lookup f__law_draw = some ⟨oc__law_draw, od__law_draw, .func (PySem.W.fnOf "_law_draw" "_law_draw" (defArgs s__law_draw) (defBody s__law_draw) (defScope s__law_draw) .none kV__law_draw dc__law_draw pm__law_draw an__law_draw cd__law_draw ct__law_draw), sl__law_draw⟩)
    (c__law_draw : PySem.W.codeIn K cd__law_draw "_law_draw" = true)
    (k__law_draw : PySem.W.keepIn K (.ref f__law_draw) = true)
    (a__law_list : PySem.W.nsIn K mainGlobals "_law_list" = some (some (.ref f__law_list)))
    (l__law_list : K.lookup f__law_list = some ⟨oc__law_list, od__law_list, .func (PySem.W.fnOf "_law_list" "_law_list" (defArgs s__law_list) (defBody s__law_list) (defScope s__law_list) .none kV__law_list dc__law_list pm__law_list an__law_list cd__law_list ct__law_list), sl__law_list⟩)
    (c__law_list : PySem.W.codeIn K cd__law_list "_law_list" = true)
    (k__law_list : PySem.W.keepIn K (.ref f__law_list) = true)
    (a__law_equal : PySem.W.nsIn K mainGlobals "_law_equal" = some (some (.ref f__law_equal)))
    (l__law_equal : K.lookup f__law_equal = some ⟨oc__law_equal, od__law_equal, .func (PySem.W.fnOf "_law_equal" "_law_equal" (defArgs s__law_equal) (defBody s__law_equal) (defScope s__law_equal) .none kV__law_equal dc__law_equal pm__law_equal an__law_equal cd__law_equal ct__law_equal), sl__law_equal⟩)
    (c__law_equal : PySem.W.codeIn K cd__law_equal "_law_equal" = true)
    (k__law_equal : PySem.W.keepIn K (.ref f__law_equal) = true)
    (a__law_all_equal : PySem.W.nsIn K mainGlobals "_law_all_equal" = some (some (.ref f__law_all_equal)))
    (l__law_all_equal : K.lookup f__law_all_equal = some ⟨oc__law_all_equal, od__law_all_equal, .func (PySem.W.fnOf "_law_all_equal" "_law_all_equal" (defArgs s__law_all_equal) (defBody s__law_all_equal) (defScope s__law_all_equal) .none kV__law_all_equal dc__law_all_equal pm__law_all_equal an__law_all_equal cd__law_all_equal ct__law_all_equal), sl__law_all_equal⟩)
    (c__law_all_equal : PySem.W.codeIn K cd__law_all_equal "_law_all_equal" = true)
    (k__law_all_equal : PySem.W.keepIn K (.ref f__law_all_equal) = true)
    (a_is_letter : PySem.W.nsIn K mainGlobals "is_letter" = some (some (.ref f_is_letter)))
    (l_is_letter : K.lookup f_is_letter = some ⟨oc_is_letter, od_is_letter, .func (PySem.W.fnOf "is_letter" "is_letter" (defArgs s_is_letter) (defBody s_is_letter) (defScope s_is_letter) .none kV_is_letter dc_is_letter pm_is_letter an_is_letter cd_is_letter ct_is_letter), sl_is_letter⟩)
    (c_is_letter : PySem.W.codeIn K cd_is_letter "is_letter" = true)
    (k_is_letter : PySem.W.keepIn K (.ref f_is_letter) = true)
    (a_check_letters : PySem.W.nsIn K mainGlobals "check_letters" = some (some (.ref f_check_letters)))
    (l_check_letters : K.lookup f_check_letters = some ⟨oc_check_letters, od_check_letters, .func (PySem.W.fnOf "check_letters" "check_letters" (defArgs s_check_letters) (defBody s_check_letters) (defScope s_check_letters) .none kV_check_letters dc_check_letters pm_check_letters an_check_letters cd_check_letters ct_check_letters), sl_check_letters⟩)
    (c_check_letters : PySem.W.codeIn K cd_check_letters "check_letters" = true)
    (k_check_letters : PySem.W.keepIn K (.ref f_check_letters) = true)
    (a_best_text : PySem.W.nsIn K mainGlobals "best_text" = some (some (.ref f_best_text)))
    (l_best_text : K.lookup f_best_text = some ⟨oc_best_text, od_best_text, .func (PySem.W.fnOf "best_text" "best_text" (defArgs s_best_text) (defBody s_best_text) (defScope s_best_text) .none kV_best_text dc_best_text pm_best_text an_best_text cd_best_text ct_best_text), sl_best_text⟩)
    (c_best_text : PySem.W.codeIn K cd_best_text "best_text" = true)
    (k_best_text : PySem.W.keepIn K (.ref f_best_text) = true)
    (a_first_items : PySem.W.nsIn K mainGlobals "first_items" = some (some (.ref f_first_items)))
    (l_first_items : K.lookup f_first_items = some ⟨oc_first_items, od_first_items, .func (PySem.W.fnOf "first_items" "first_items" (defArgs s_first_items) (defBody s_first_items) (defScope s_first_items) .none kV_first_items dc_first_items pm_first_items an_first_items cd_first_items ct_first_items), sl_first_items⟩)
    (c_first_items : PySem.W.codeIn K cd_first_items "first_items" = true)
    (k_first_items : PySem.W.keepIn K (.ref f_first_items) = true)
    (a_written : PySem.W.nsIn K mainGlobals "written" = some (some (.ref f_written)))
    (l_written : K.lookup f_written = some ⟨oc_written, od_written, .func (PySem.W.fnOf "written" "written" (defArgs s_written) (defBody s_written) (defScope s_written) .none kV_written dc_written pm_written an_written cd_written ct_written), sl_written⟩)
    (c_written : PySem.W.codeIn K cd_written "written" = true)
    (k_written : PySem.W.keepIn K (.ref f_written) = true)
    (a__law_items : PySem.W.nsIn K mainGlobals "_law_items" = some (some (.ref f__law_items)))
    (l__law_items : K.lookup f__law_items = some ⟨oc__law_items, od__law_items, .func (PySem.W.fnOf "_law_items" "_law_items" (defArgs s__law_items) (defBody s__law_items) (defScope s__law_items) .none kV__law_items dc__law_items pm__law_items an__law_items cd__law_items ct__law_items), sl__law_items⟩)
    (c__law_items : PySem.W.codeIn K cd__law_items "_law_items" = true)
    (k__law_items : PySem.W.keepIn K (.ref f__law_items) = true)
    (a__law_shortest : PySem.W.nsIn K mainGlobals "_law_shortest" = some (some (.ref f__law_shortest)))
    (l__law_shortest : K.lookup f__law_shortest = some ⟨oc__law_shortest, od__law_shortest, .func (PySem.W.fnOf "_law_shortest" "_law_shortest" (defArgs s__law_shortest) (defBody s__law_shortest) (defScope s__law_shortest) .none kV__law_shortest dc__law_shortest pm__law_shortest an__law_shortest cd__law_shortest ct__law_shortest), sl__law_shortest⟩)
    (c__law_shortest : PySem.W.codeIn K cd__law_shortest "_law_shortest" = true)
    (k__law_shortest : PySem.W.keepIn K (.ref f__law_shortest) = true)
    (a_law : PySem.W.nsIn K mainGlobals "law" = some (some (.ref f_law)))
    (l_law : K.lookup f_law = some ⟨oc_law, od_law, .func (PySem.W.fnOf "law" "law" (defArgs s_law) (defBody s_law) (defScope s_law) .none kV_law dc_law pm_law an_law cd_law ct_law), sl_law⟩)
    (c_law : PySem.W.codeIn K cd_law "law" = true)
    (k_law : PySem.W.keepIn K (.ref f_law) = true)
    (a_RingError : PySem.W.nsIn K mainGlobals "RingError" = some (some (.ref C_RingError)))
    (e_RingError : PySem.W.excIn K C_RingError [.type "ValueError", .type "Exception", .type "BaseException", .type "object"] "ValueError.__new__" = true)
    (k_RingError : PySem.W.keepIn K (.ref C_RingError) = true)
    (b_RingError : PySem.W.subIn K (.ref C_RingError) (.type "BaseException") = some true)
    (t_RingError : PySem.W.typeIn K (.ref C_RingError) = some (.type "type"))
    (a_BadTouch : PySem.W.nsIn K mainGlobals "BadTouch" = some (some (.ref C_BadTouch)))
    (e_BadTouch : PySem.W.excIn K C_BadTouch [.type "ValueError", .type "Exception", .type "BaseException", .type "object"] "ValueError.__new__" = true)
    (k_BadTouch : PySem.W.keepIn K (.ref C_BadTouch) = true)
    (b_BadTouch : PySem.W.subIn K (.ref C_BadTouch) (.type "BaseException") = some true)
    (t_BadTouch : PySem.W.typeIn K (.ref C_BadTouch) = some (.type "type"))
    (h_BadTouch : PySem.W.hasDictIn K C_BadTouch = true)
    (s_RingError_BadTouch : PySem.W.subIn K (.ref C_RingError) (.ref C_BadTouch) = some false)
    (s_BadTouch_BadTouch : PySem.W.subIn K (.ref C_BadTouch) (.ref C_BadTouch) = some true)
    (z_range : PySem.W.nsIn K mainGlobals "range" = some none)
    (z_len : PySem.W.nsIn K mainGlobals "len" = some none)
    (z_list : PySem.W.nsIn K mainGlobals "list" = some none)
    (z_tuple : PySem.W.nsIn K mainGlobals "tuple" = some none)
    (z_str : PySem.W.nsIn K mainGlobals "str" = some none)
    (z_int : PySem.W.nsIn K mainGlobals "int" = some none)
    (z_bool : PySem.W.nsIn K mainGlobals "bool" = some none)
    (z_isinstance : PySem.W.nsIn K mainGlobals "isinstance" = some none)
    (z_min : PySem.W.nsIn K mainGlobals "min" = some none) :
    ∃ (fd : FuncData) (cls : Nat → Addr), (∀ (s : Shared) (v : Value), BindsTo s fd ⟨[v], []⟩ [("script", v)]) ∧ ∀ base : Heap, K.In base → base.Ns mainGlobals mg → FnOk l.prog w K mg base (L2.CX l.prog w) 131 fa fd ["script"] (spF ⟨K, cls⟩ 1 F_law) := by
  have e := hfa.symm.trans (PySem.W.mg_of X G a_law)
  cases e
  let T : Env0T K mg := {
    cls := fun c => match c with | 0 => C_RingError | 6 => C_BadTouch | _ => C_RingError
    d__law_mixed := ⟨f__law_mixed, _, fun_mk (st := s__law_mixed) l__law_mixed c__law_mixed k__law_mixed, (fun_mk (st := s__law_mixed) l__law_mixed c__law_mixed k__law_mixed).binds fun _ _ _ _ _ _ us hl => match us, hl with | [_, _], _ => rfl, PySem.W.mg_of X G a__law_mixed⟩
    d__law_numbers := ⟨f__law_numbers, _, fun_mk (st := s__law_numbers) l__law_numbers c__law_numbers k__law_numbers, (fun_mk (st := s__law_numbers) l__law_numbers c__law_numbers k__law_numbers).binds fun _ _ _ _ _ _ us hl => match us, hl with | [_], _ => rfl, PySem.W.mg_of X G a__law_numbers⟩
    d__law_draw := ⟨f__law_draw, _, fun_mk (st := s__law_draw) l__law_draw c__law_draw k__law_draw, (fun_mk (st := s__law_draw) l__law_draw c__law_draw k__law_draw).binds fun _ _ _ _ _ _ us hl => match us, hl with | [_, _], _ => rfl, PySem.W.mg_of X G a__law_draw⟩
    d__law_list := ⟨f__law_list, _, fun_mk (st := s__law_list) l__law_list c__law_list k__law_list, (fun_mk (st := s__law_list) l__law_list c__law_list k__law_list).binds fun _ _ _ _ _ _ us hl => match us, hl with | [_], _ => rfl, PySem.W.mg_of X G a__law_list⟩
    d__law_equal := ⟨f__law_equal, _, fun_mk (st := s__law_equal) l__law_equal c__law_equal k__law_equal, (fun_mk (st := s__law_equal) l__law_equal c__law_equal k__law_equal).binds fun _ _ _ _ _ _ us hl => match us, hl with | [_, _], _ => rfl, PySem.W.mg_of X G a__law_equal⟩
    d__law_all_equal := ⟨f__law_all_equal, _, fun_mk (st := s__law_all_equal) l__law_all_equal c__law_all_equal k__law_all_equal, (fun_mk (st := s__law_all_equal) l__law_all_equal c__law_all_equal k__law_all_equal).binds fun _ _ _ _ _ _ us hl => match us, hl with | [_, _], _ => rfl, PySem.W.mg_of X G a__law_all_equal⟩
    d_is_letter := ⟨f_is_letter, _, fun_mk (st := s_is_letter) l_is_letter c_is_letter k_is_letter, (fun_mk (st := s_is_letter) l_is_letter c_is_letter k_is_letter).binds fun _ _ _ _ _ _ us hl => match us, hl with | [_], _ => rfl, PySem.W.mg_of X G a_is_letter⟩
    d_check_letters := ⟨f_check_letters, _, fun_mk (st := s_check_letters) l_check_letters c_check_letters k_check_letters, (fun_mk (st := s_check_letters) l_check_letters c_check_letters k_check_letters).binds fun _ _ _ _ _ _ us hl => match us, hl with | [_, _], _ => rfl, PySem.W.mg_of X G a_check_letters⟩
    d_best_text := ⟨f_best_text, _, fun_mk (st := s_best_text) l_best_text c_best_text k_best_text, (fun_mk (st := s_best_text) l_best_text c_best_text k_best_text).binds fun _ _ _ _ _ _ us hl => match us, hl with | [_, _], _ => rfl, PySem.W.mg_of X G a_best_text⟩
    d_first_items := ⟨f_first_items, _, fun_mk (st := s_first_items) l_first_items c_first_items k_first_items, (fun_mk (st := s_first_items) l_first_items c_first_items k_first_items).binds fun _ _ _ _ _ _ us hl => match us, hl with | [_, _], _ => rfl, PySem.W.mg_of X G a_first_items⟩
    d_written := ⟨f_written, _, fun_mk (st := s_written) l_written c_written k_written, (fun_mk (st := s_written) l_written c_written k_written).binds fun _ _ _ _ _ _ us hl => match us, hl with | [_], _ => rfl, PySem.W.mg_of X G a_written⟩
    d__law_items := ⟨f__law_items, _, fun_mk (st := s__law_items) l__law_items c__law_items k__law_items, (fun_mk (st := s__law_items) l__law_items c__law_items k__law_items).binds fun _ _ _ _ _ _ us hl => match us, hl with | [_, _, _, _], _ => rfl, PySem.W.mg_of X G a__law_items⟩
    d__law_shortest := ⟨f__law_shortest, _, fun_mk (st := s__law_shortest) l__law_shortest c__law_shortest k__law_shortest, (fun_mk (st := s__law_shortest) l__law_shortest c__law_shortest k__law_shortest).binds fun _ _ _ _ _ _ us hl => match us, hl with | [_], _ => rfl, PySem.W.mg_of X G a__law_shortest⟩
    d_law := ⟨fa, _, fun_mk (st := s_law) l_law c_law k_law, (fun_mk (st := s_law) l_law c_law k_law).binds fun _ _ _ _ _ _ us hl => match us, hl with | [_], _ => rfl, PySem.W.mg_of X G a_law⟩
    e_RingError := ⟨e_RingError, PySem.W.mg_of X G a_RingError, k_RingError, b_RingError, t_RingError⟩
    e_BadTouch := ⟨e_BadTouch, PySem.W.mg_of X G a_BadTouch, k_BadTouch, b_BadTouch, t_BadTouch⟩
    x_BadTouch := by
      intro c b hb
      unfold m_BadTouch at hb
      split at hb
      · cases hb; exact PySem.W.exm_ref b_BadTouch h_BadTouch t_BadTouch s_RingError_BadTouch
      · cases hb; exact PySem.W.exm_ref b_BadTouch h_BadTouch t_BadTouch s_BadTouch_BadTouch
      · cases hb
    b_range := PySem.W.mg_none_of X G z_range
    b_len := PySem.W.mg_none_of X G z_len
    b_list := PySem.W.mg_none_of X G z_list
    b_tuple := PySem.W.mg_none_of X G z_tuple
    b_str := PySem.W.mg_none_of X G z_str
    b_int := PySem.W.mg_none_of X G z_int
    b_bool := PySem.W.mg_none_of X G z_bool
    b_isinstance := PySem.W.mg_none_of X G z_isinstance
    b_min := PySem.W.mg_none_of X G z_min }
  refine ⟨T.d_law.fd, T.cls, fun s v => .of_eq rfl, fun base _ _ => ok_law T⟩
def spLaw (K : PySem.W.Frag) : Sp := fun vs H Q _ => ∃ (a : Addr) (ns : List Int), vs = [.ref a] ∧ SqL K H a (ns.map V.int) ∧ ns.length ≤ 63 ∧ ∀ H', Q (.bl true) H'
theorem all_mk2 {l : PySem.W.OpenLaw} {w : World} {K : PySem.W.Frag} {mg : Str → Option Value} {fa : Addr} (plain : ∀ ns : List Int, ns.length ≤ 63 → ∃ os, F_law [.im (.scr ns)] = .ret (.bl true) os)
    (hh : ∃ (fd : FuncData) (cls : Nat → Addr), (∀ (s : Shared) (v : Value), BindsTo s fd ⟨[v], []⟩ [("script", v)]) ∧ ∀ base : Heap, K.In base → base.Ns mainGlobals mg → FnOk l.prog w K mg base (L2.CX l.prog w) 131 fa fd ["script"] (spF ⟨K, cls⟩ 1 F_law)) :
    ∃ (fd : FuncData), (∀ (s : Shared) (v : Value), BindsTo s fd ⟨[v], []⟩ [("script", v)]) ∧ ∀ base : Heap, K.In base → base.Ns mainGlobals mg → FnOk l.prog w K mg base (L2.CX l.prog w) 131 fa fd ["script"] (spLaw K) := by
  obtain ⟨fd, cls, hb, hf⟩ := hh
  refine ⟨fd, hb, fun base b1 b2 => (hf base b1 b2).imp fun vs H Q E hq => ?_⟩
  obtain ⟨a, ns, rfl, hs, hn, q⟩ := hq
  obtain ⟨os, eo⟩ := plain ns hn
  refine ⟨rfl, H, [.im (.scr ns)], [], Same.refl _, ?_, List.nodup_nil, ?_⟩
  · simp only [OwL, Ow, Rp]
    exact ⟨_, _, [], [], rfl, rfl, ⟨rfl, a, rfl, hs⟩, rfl, rfl⟩
  · rw [eo]
    intro v G' H' L' m e1 e2 nd rp
    simp only [Rp] at rp
    subst rp
    exact q H'
theorem walk (plain : ∀ ns : List Int, ns.length ≤ 63 → ∃ os, F_law [.im (.scr ns)] = .ret (.bl true) os) {l : PySem.W.OpenLaw} {q : Program} {loose : List Str} {XP : (Str → Option Value) → Heap → Prop} {YP : World → Heap → Prop} {d : DefRec} {K : Params → PySem.W.Frag} (hn : l.most = some 63) (hdf : d.params.defaults = [])
    (hY : ∀ (w : World) (h : Heap), YP w h → (K w.params).In h)
    (F : ∀ (w : World) (mg : Str → Option Value) (fa : Addr) (h : Heap), (K w.params).In h → h.Ns mainGlobals mg → mg d.name = some (.ref fa) →
      ∃ (fd : FuncData) (cls : Nat → Addr), (∀ (s : Shared) (u : Value), BindsTo s fd ⟨[u], []⟩ [("script", u)]) ∧ ∀ base : Heap, (K w.params).In base → base.Ns mainGlobals mg → FnOk l.prog w (K w.params) mg base (L2.CX l.prog w) 131 fa fd ["script"] (spF ⟨K w.params, cls⟩ 1 F_law)) :
    PySem.W.WalkO q loose XP YP l.row.toRowW d [] (fun f vs => PySem.call f vs) :=
  L2.walk_of (n := 63) (k := 131) (x := "script") (CX := fun w => L2.CX l.prog w) (sp := fun w => spLaw (K w.params)) hn (by decide) hdf ⟨rfl, by decide, by decide⟩ hY (fun w mg fa h a b c => all_mk2 plain (F w mg fa h a b c)) (fun _ _ a ns hl _ hS => ⟨a, ns, rfl, hS, hl, fun _ => rfl⟩)
    fun w H s e s' z => by obtain ⟨_, _, _, _, _, _, _, _, _, _, _, _, z⟩ := z; exact z
end DV
open PySem PySem.W PyProof.Rows
set_option maxRecDepth 100000 in
set_option maxHeartbeats 0 in
theorem PySem.Challenge.cw_roundshome_k17_shortest_texts_of_touches_holds : PySem.Challenge.rw_roundshome_k17_shortest_texts_of_touches.Holds := by
  w_on; o_law; k_head; (case hw => w_witness2)
  k_fill
  refine DV.walk DV.plain (l := PySem.Challenge.rw_roundshome_k17_shortest_texts_of_touches) rfl rfl (fun w h Y => PySem.W.kIn_of Y) ?F
  case F =>
    intro w mg fa h KX G hmg
    refine' DV.all_mk KX G hmg ?a__law_mixed ?l__law_mixed ?c__law_mixed ?k__law_mixed ?a__law_numbers ?l__law_numbers ?c__law_numbers ?k__law_numbers ?a__law_draw ?l__law_draw ?c__law_draw ?k__law_draw ?a__law_list ?l__law_list ?c__law_list ?k__law_list ?a__law_equal ?l__law_equal ?c__law_equal ?k__law_equal ?a__law_all_equal ?l__law_all_equal ?c__law_all_equal ?k__law_all_equal ?a_is_letter ?l_is_letter ?c_is_letter ?k_is_letter ?a_check_letters ?l_check_letters ?c_check_letters ?k_check_letters ?a_best_text ?l_best_text ?c_best_text ?k_best_text ?a_first_items ?l_first_items ?c_first_items ?k_first_items ?a_written ?l_written ?c_written ?k_written ?a__law_items ?l__law_items ?c__law_items ?k__law_items ?a__law_shortest ?l__law_shortest ?c__law_shortest ?k__law_shortest ?a_law ?l_law ?c_law ?k_law ?a_RingError ?e_RingError ?k_RingError ?b_RingError ?t_RingError ?a_BadTouch ?e_BadTouch ?k_BadTouch ?b_BadTouch ?t_BadTouch ?h_BadTouch ?s_RingError_BadTouch ?s_BadTouch_BadTouch ?z_range ?z_len ?z_list ?z_tuple ?z_str ?z_int ?z_bool ?z_isinstance ?z_min
    (case a__law_mixed => k_is)
    (case l__law_mixed => k_is)
    (case c__law_mixed => k_is)
    (case k__law_mixed => k_is)
    (case a__law_numbers => k_is)
    (case l__law_numbers => k_is)
    (case c__law_numbers => k_is)
    (case k__law_numbers => k_is)
    (case a__law_draw => k_is)
    (case l__law_draw => k_is)
    (case c__law_draw => k_is)
    (case k__law_draw => k_is)
    (case a__law_list => k_is)
    (case l__law_list => k_is)
    (case c__law_list => k_is)
    (case k__law_list => k_is)
    (case a__law_equal => k_is)
    (case l__law_equal => k_is)
    (case c__law_equal => k_is)
    (case k__law_equal => k_is)
    (case a__law_all_equal => k_is)
    (case l__law_all_equal => k_is)
    (case c__law_all_equal => k_is)
    (case k__law_all_equal => k_is)
    (case a_is_letter => k_is)
    (case l_is_letter => k_is)
    (case c_is_letter => k_is)
    (case k_is_letter => k_is)
    (case a_check_letters => k_is)
    (case l_check_letters => k_is)
    (case c_check_letters => k_is)
    (case k_check_letters => k_is)
    (case a_best_text => k_is)
    (case l_best_text => k_is)
    (case c_best_text => k_is)
    (case k_best_text => k_is)
    (case a_first_items => k_is)
    (case l_first_items => k_is)
    (case c_first_items => k_is)
    (case k_first_items => k_is)
    (case a_written => k_is)
    (case l_written => k_is)
    (case c_written => k_is)
    (case k_written => k_is)
    (case a__law_items => k_is)
    (case l__law_items => k_is)
    (case c__law_items => k_is)
    (case k__law_items => k_is)
    (case a__law_shortest => k_is)
    (case l__law_shortest => k_is)
    (case c__law_shortest => k_is)
    (case k__law_shortest => k_is)
    (case a_law => k_is)
    (case l_law => k_is)
    (case c_law => k_is)
    (case k_law => k_is)
    (case a_RingError => k_is)
    (case e_RingError => k_exc)
    (case k_RingError => k_is)
    (case b_RingError => k_is)
    (case t_RingError => k_is)
    (case a_BadTouch => k_is)
    (case e_BadTouch => k_exc)
    (case k_BadTouch => k_is)
    (case b_BadTouch => k_is)
    (case t_BadTouch => k_is)
    (case h_BadTouch => k_is)
    (case s_RingError_BadTouch => k_is)
    (case s_BadTouch_BadTouch => k_is)
    (case z_range => k_is)
    (case z_len => k_is)
    (case z_list => k_is)
    (case z_tuple => k_is)
    (case z_str => k_is)
    (case z_int => k_is)
    (case z_bool => k_is)
    (case z_isinstance => k_is)
    (case z_min => k_is)
