import PyProof.Rows.All
import Wide.All
import OpenK.AllK
import Wide.FinOn
import HandS.ForMost
import HandS.IsInst
import HandS.Defaults
import HandS.TupLe
import HandS.Style
import HandS.Replace
import KE.KStateDown
import HandS.More
import HandS.WordsExc
import HandS.Head0
import HandS.Head1
import HandS.Head2
import HandS.HeadEnd
import HandS.HeadHook1
import HandS.HeadHook2
import HandS.HeadHook3
import HandS.HeadHook4
import PySem.Challenge.RW_foldpress_k01_words
set_option Elab.async false
set_option linter.all false
set_option autoImplicit false
set_option maxRecDepth 100000
set_option maxHeartbeats 1000000
namespace Pu
open PySem L2

/-! ### data without addresses -/
inductive D where
  | non | bl (b : Bool) | int (i : Int) | str (x : Str) | ty (n : String) | adr (a : Addr)
  | lst (xs : List D) | tup (xs : List D) | fz (xs : List D)
  | obj (C : Addr) (ns : List Str) (xs : List D)
  | dK (ks : List Key) (xs : List D) | dT (ks : List (List Key)) (xs : List D)
/-- data of which some parts are one's own, to be changed -/
inductive Ow where
  | per (d : D) | lst (os : List Ow) | ins (C : Addr) (ns : List Str) (os : List Ow)
  | dK (ks : List Key) (os : List Ow) | dT (ks : List (List Key)) (os : List Ow)

section
variable (K : PySem.W.Frag) (G H : Hp)
mutual
def Rp : D → V → Prop
  | .non, v => v = .non
  | .bl b, v => v = .bl b
  | .int i, v => v = .int i
  | .str x, v => v = .str x
  | .ty n, v => v = .ty n
  | .adr a, v => v = .ref a
  | .lst ds, v => ∃ a xs, v = .ref a ∧ G a = some (.lst xs) ∧ Rps ds xs
  | .fz ds, v => ∃ a xs, v = .ref a ∧ SqL K G a xs ∧ Rps ds xs
  | .tup ds, v => ∃ a xs, v = .ref a ∧ SqT K G a xs ∧ Rps ds xs
  | .obj C ns ds, v => ∃ a dx xs, v = .ref a ∧ G a = some (.ins C dx (ns.zip xs)) ∧ ns.length = ds.length ∧ Rps ds xs
  | .dK ks ds, v => ∃ a xs, v = .ref a ∧ Rd G a (.dK (ks.zip xs)) ∧ ks.length = ds.length ∧ Rps ds xs
  | .dT ks ds, v => ∃ a xs, v = .ref a ∧ G a = some (.dT (ks.zip xs)) ∧ ks.length = ds.length ∧ Rps ds xs
def Rps : List D → List V → Prop
  | [], xs => xs = []
  | d :: ds, xs => ∃ v vs, xs = v :: vs ∧ Rp d v ∧ Rps ds vs
end
mutual
def RO : Ow → V → List Addr → Prop
  | .per d, v, fp => fp = [] ∧ Rp K G d v
  | .lst os, v, fp => ∃ a xs fq, v = .ref a ∧ fp = a :: fq ∧ G a = none ∧ H a = some (.lst xs) ∧ ROs os xs fq
  | .ins C ns os, v, fp => ∃ a dx xs fq, v = .ref a ∧ fp = a :: fq ∧ G a = none ∧ H a = some (.ins C dx (ns.zip xs)) ∧ ns.length = os.length ∧ ROs os xs fq
  | .dK ks os, v, fp => ∃ a xs fq, v = .ref a ∧ fp = a :: fq ∧ G a = none ∧ H a = some (.dK (ks.zip xs)) ∧ ks.length = os.length ∧ ROs os xs fq
  | .dT ks os, v, fp => ∃ a xs fq, v = .ref a ∧ fp = a :: fq ∧ G a = none ∧ H a = some (.dT (ks.zip xs)) ∧ ks.length = os.length ∧ ROs os xs fq
def ROs : List Ow → List V → List Addr → Prop
  | [], xs, fp => xs = [] ∧ fp = []
  | o :: os, xs, fp => ∃ v vs f1 f2, xs = v :: vs ∧ fp = f1 ++ f2 ∧ RO o v f1 ∧ ROs os vs f2
end
end

mutual
def Ow.fr : Ow → D
  | .per d => d
  | .lst os => .lst (frs os)
  | .ins C ns os => .obj C ns (frs os)
  | .dK ks os => .dK ks (frs os)
  | .dT ks os => .dT ks (frs os)
def frs : List Ow → List D
  | [] => []
  | o :: os => o.fr :: frs os
end
theorem frs_eq : ∀ os : List Ow, frs os = os.map Ow.fr
  | [] => rfl
  | o :: os => by simp only [frs, List.map_cons, frs_eq os]
theorem frs_per : ∀ ds : List D, frs (ds.map Ow.per) = ds
  | [] => rfl
  | d :: ds => by simp only [List.map_cons, frs, Ow.fr, frs_per ds]

/-! ### heaps grow -/
theorem rd_mono {G G' : Hp} {a : Addr} {u : HO} (e : ∀ a o, G a = some o → G' a = some o) (h : Rd G a u) : Rd G' a u := by
  rcases h with h | ⟨o, h⟩
  · exact .inl (e _ _ h)
  · exact .inr ⟨o, e _ _ h⟩
theorem sqL_mono {K : PySem.W.Frag} {G G' : Hp} {a : Addr} {xs : List V} (e : ∀ a o, G a = some o → G' a = some o) (h : SqL K G a xs) : SqL K G' a xs := by
  rcases h with h | h
  · exact .inl (rd_mono e h)
  · exact .inr h
theorem sqT_mono {K : PySem.W.Frag} {G G' : Hp} {a : Addr} {xs : List V} (e : ∀ a o, G a = some o → G' a = some o) (h : SqT K G a xs) : SqT K G' a xs := by
  rcases h with h | h
  · exact .inl (rd_mono e h)
  · exact .inr h
section
variable {K : PySem.W.Frag} {G G' H H' : Hp}
mutual
theorem Rp.mono (e : ∀ a o, G a = some o → G' a = some o) : ∀ {d : D} {v : V}, Rp K G d v → Rp K G' d v
  | .non, _, h => by simpa only [Rp] using h
  | .bl b, _, h => by simpa only [Rp] using h
  | .int i, _, h => by simpa only [Rp] using h
  | .str x, _, h => by simpa only [Rp] using h
  | .ty x, _, h => by simpa only [Rp] using h
  | .adr x, _, h => by simpa only [Rp] using h
  | .lst ds, v, h => by
    simp only [Rp] at h ⊢
    obtain ⟨a, xs, h1, h2, h3⟩ := h
    exact ⟨a, xs, h1, e _ _ h2, Rps.mono e h3⟩
  | .fz ds, v, h => by
    simp only [Rp] at h ⊢
    obtain ⟨a, xs, h1, h2, h3⟩ := h
    exact ⟨a, xs, h1, sqL_mono e h2, Rps.mono e h3⟩
  | .tup ds, v, h => by
    simp only [Rp] at h ⊢
    obtain ⟨a, xs, h1, h2, h3⟩ := h
    exact ⟨a, xs, h1, sqT_mono e h2, Rps.mono e h3⟩
  | .obj C ns ds, v, h => by
    simp only [Rp] at h ⊢
    obtain ⟨a, dx, xs, h1, h2, h4, h3⟩ := h
    exact ⟨a, dx, xs, h1, e _ _ h2, h4, Rps.mono e h3⟩
  | .dK ks ds, v, h => by
    simp only [Rp] at h ⊢
    obtain ⟨a, xs, h1, h2, h4, h3⟩ := h
    exact ⟨a, xs, h1, rd_mono e h2, h4, Rps.mono e h3⟩
  | .dT ks ds, v, h => by
    simp only [Rp] at h ⊢
    obtain ⟨a, xs, h1, h2, h4, h3⟩ := h
    exact ⟨a, xs, h1, e _ _ h2, h4, Rps.mono e h3⟩
theorem Rps.mono (e : ∀ a o, G a = some o → G' a = some o) : ∀ {ds : List D} {vs : List V}, Rps K G ds vs → Rps K G' ds vs
  | [], _, h => by simpa only [Rps] using h
  | d :: ds, _, h => by
    simp only [Rps] at h ⊢
    obtain ⟨v, vs, h1, h2, h3⟩ := h
    exact ⟨v, vs, h1, Rp.mono e h2, Rps.mono e h3⟩
end
mutual
/-- what is one's own stands while its cells stand -/
theorem RO.frame (e : ∀ a o, G a = some o → G' a = some o) : ∀ {o : Ow} {v : V} {fp : List Addr}, (∀ a ∈ fp, H' a = H a ∧ G' a = none) → RO K G H o v fp → RO K G' H' o v fp
  | .per d, v, fp, _, h => by
    simp only [RO] at h ⊢
    exact ⟨h.1, Rp.mono e h.2⟩
  | .lst os, v, fp, k, h => by
    simp only [RO] at h ⊢
    obtain ⟨a, xs, fq, h1, rfl, h3, h4, h5⟩ := h
    refine ⟨a, xs, fq, h1, rfl, (k a List.mem_cons_self).2, ?_, ROs.frame e (fun b hb => k b (List.mem_cons_of_mem _ hb)) h5⟩
    rw [(k a List.mem_cons_self).1]; exact h4
  | .ins C ns os, v, fp, k, h => by
    simp only [RO] at h ⊢
    obtain ⟨a, dx, xs, fq, h1, rfl, h3, h4, h6, h5⟩ := h
    refine ⟨a, dx, xs, fq, h1, rfl, (k a List.mem_cons_self).2, ?_, h6, ROs.frame e (fun b hb => k b (List.mem_cons_of_mem _ hb)) h5⟩
    rw [(k a List.mem_cons_self).1]; exact h4
  | .dK ks os, v, fp, k, h => by
    simp only [RO] at h ⊢
    obtain ⟨a, xs, fq, h1, rfl, h3, h4, h6, h5⟩ := h
    refine ⟨a, xs, fq, h1, rfl, (k a List.mem_cons_self).2, ?_, h6, ROs.frame e (fun b hb => k b (List.mem_cons_of_mem _ hb)) h5⟩
    rw [(k a List.mem_cons_self).1]; exact h4
  | .dT ks os, v, fp, k, h => by
    simp only [RO] at h ⊢
    obtain ⟨a, xs, fq, h1, rfl, h3, h4, h6, h5⟩ := h
    refine ⟨a, xs, fq, h1, rfl, (k a List.mem_cons_self).2, ?_, h6, ROs.frame e (fun b hb => k b (List.mem_cons_of_mem _ hb)) h5⟩
    rw [(k a List.mem_cons_self).1]; exact h4
theorem ROs.frame (e : ∀ a o, G a = some o → G' a = some o) : ∀ {os : List Ow} {vs : List V} {fp : List Addr}, (∀ a ∈ fp, H' a = H a ∧ G' a = none) → ROs K G H os vs fp → ROs K G' H' os vs fp
  | [], _, _, _, h => by simpa only [ROs] using h
  | o :: os, _, _, k, h => by
    simp only [ROs] at h ⊢
    obtain ⟨v, vs, f1, f2, h1, rfl, h3, h4⟩ := h
    exact ⟨v, vs, f1, f2, h1, rfl, RO.frame e (fun b hb => k b (List.mem_append_left _ hb)) h3, ROs.frame e (fun b hb => k b (List.mem_append_right _ hb)) h4⟩
end
mutual
/-- the cells of what is one's own are none of the lasting ones -/
theorem RO.out : ∀ {o : Ow} {v : V} {fp : List Addr}, RO K G H o v fp → ∀ a ∈ fp, G a = none ∧ H a ≠ none
  | .per d, v, fp, h, a, ha => by
    simp only [RO] at h
    rw [h.1] at ha; cases ha
  | .lst os, v, fp, h, a, ha => by
    simp only [RO] at h
    obtain ⟨b, xs, fq, h1, rfl, h3, h4, h5⟩ := h
    rcases List.mem_cons.mp ha with rfl | ha
    · exact ⟨h3, by rw [h4]; simp⟩
    · exact ROs.out h5 a ha
  | .ins C ns os, v, fp, h, a, ha => by
    simp only [RO] at h
    obtain ⟨b, dx, xs, fq, h1, rfl, h3, h4, h6, h5⟩ := h
    rcases List.mem_cons.mp ha with rfl | ha
    · exact ⟨h3, by rw [h4]; simp⟩
    · exact ROs.out h5 a ha
  | .dK ks os, v, fp, h, a, ha => by
    simp only [RO] at h
    obtain ⟨b, xs, fq, h1, rfl, h3, h4, h6, h5⟩ := h
    rcases List.mem_cons.mp ha with rfl | ha
    · exact ⟨h3, by rw [h4]; simp⟩
    · exact ROs.out h5 a ha
  | .dT ks os, v, fp, h, a, ha => by
    simp only [RO] at h
    obtain ⟨b, xs, fq, h1, rfl, h3, h4, h6, h5⟩ := h
    rcases List.mem_cons.mp ha with rfl | ha
    · exact ⟨h3, by rw [h4]; simp⟩
    · exact ROs.out h5 a ha
theorem ROs.out : ∀ {os : List Ow} {vs : List V} {fp : List Addr}, ROs K G H os vs fp → ∀ a ∈ fp, G a = none ∧ H a ≠ none
  | [], _, _, h, a, ha => by
    simp only [ROs] at h
    rw [h.2] at ha; cases ha
  | o :: os, _, _, h, a, ha => by
    simp only [ROs] at h
    obtain ⟨v, vs, f1, f2, h1, rfl, h3, h4⟩ := h
    rcases List.mem_append.mp ha with ha | ha
    · exact RO.out h3 a ha
    · exact ROs.out h4 a ha
end
/-- the lasting heap with some cells more -/
def more (G H : Hp) (fp : List Addr) : Hp := fun a => if a ∈ fp then H a else G a
theorem more_in {fp : List Addr} {a : Addr} (h : a ∈ fp) : more G H fp a = H a := by unfold more; rw [if_pos h]
theorem more_out {fp : List Addr} {a : Addr} (h : a ∉ fp) : more G H fp a = G a := by unfold more; rw [if_neg h]
mutual
theorem RO.fr : ∀ {o : Ow} {v : V} {fp : List Addr}, RO K G H o v fp → (∀ a o, G a = some o → G' a = some o) → (∀ a ∈ fp, G' a = H a) → Rp K G' o.fr v
  | .per d, v, fp, h, e, k => by
    simp only [RO] at h
    exact Rp.mono e h.2
  | .lst os, v, fp, h, e, k => by
    simp only [RO] at h
    obtain ⟨a, xs, fq, h1, rfl, h3, h4, h5⟩ := h
    simp only [Ow.fr, Rp]
    exact ⟨a, xs, h1, by rw [k a List.mem_cons_self]; exact h4, ROs.fr h5 e fun b hb => k b (List.mem_cons_of_mem _ hb)⟩
  | .ins C ns os, v, fp, h, e, k => by
    simp only [RO] at h
    obtain ⟨a, dx, xs, fq, h1, rfl, h3, h4, h6, h5⟩ := h
    simp only [Ow.fr, Rp]
    exact ⟨a, dx, xs, h1, by rw [k a List.mem_cons_self]; exact h4, by rw [frs_eq, List.length_map]; exact h6, ROs.fr h5 e fun b hb => k b (List.mem_cons_of_mem _ hb)⟩
  | .dK ks os, v, fp, h, e, k => by
    simp only [RO] at h
    obtain ⟨a, xs, fq, h1, rfl, h3, h4, h6, h5⟩ := h
    simp only [Ow.fr, Rp]
    exact ⟨a, xs, h1, .inl (by rw [k a List.mem_cons_self]; exact h4), by rw [frs_eq, List.length_map]; exact h6, ROs.fr h5 e fun b hb => k b (List.mem_cons_of_mem _ hb)⟩
  | .dT ks os, v, fp, h, e, k => by
    simp only [RO] at h
    obtain ⟨a, xs, fq, h1, rfl, h3, h4, h6, h5⟩ := h
    simp only [Ow.fr, Rp]
    exact ⟨a, xs, h1, by rw [k a List.mem_cons_self]; exact h4, by rw [frs_eq, List.length_map]; exact h6, ROs.fr h5 e fun b hb => k b (List.mem_cons_of_mem _ hb)⟩
theorem ROs.fr : ∀ {os : List Ow} {vs : List V} {fp : List Addr}, ROs K G H os vs fp → (∀ a o, G a = some o → G' a = some o) → (∀ a ∈ fp, G' a = H a) → Rps K G' (frs os) vs
  | [], _, _, h, e, k => by
    simp only [ROs] at h
    simp only [frs, Rps]
    exact h.1
  | o :: os, _, _, h, e, k => by
    simp only [ROs] at h
    obtain ⟨v, vs, f1, f2, h1, rfl, h3, h4⟩ := h
    simp only [frs, Rps]
    exact ⟨v, vs, h1, RO.fr h3 e fun b hb => k b (List.mem_append_left _ hb), ROs.fr h4 e fun b hb => k b (List.mem_append_right _ hb)⟩
end

/-! ### lists of data -/
theorem Rps.length : ∀ {ds : List D} {vs : List V}, Rps K G ds vs → vs.length = ds.length
  | [], _, h => by simp only [Rps] at h; subst h; rfl
  | d :: ds, _, h => by
    simp only [Rps] at h
    obtain ⟨v, vs, rfl, _, h3⟩ := h
    simp only [List.length_cons, Rps.length h3]
theorem Rps.get : ∀ {ds : List D} {vs : List V} {i : Nat} {d : D}, Rps K G ds vs → ds[i]? = some d → ∃ v, vs[i]? = some v ∧ Rp K G d v
  | [], _, i, d, h, e => by simp at e
  | d :: ds, _, 0, _, h, e => by
    simp only [Rps] at h
    obtain ⟨v, vs, rfl, h2, h3⟩ := h
    simp at e; subst e
    exact ⟨v, rfl, h2⟩
  | d :: ds, _, i + 1, _, h, e => by
    simp only [Rps] at h
    obtain ⟨v, vs, rfl, h2, h3⟩ := h
    obtain ⟨u, q1, q2⟩ := Rps.get (i := i) h3 (by simpa using e)
    exact ⟨u, by simpa using q1, q2⟩
theorem Rps.at : ∀ {ds : List D} {vs : List V} {i : Nat} {v : V}, Rps K G ds vs → vs[i]? = some v → ∃ d, ds[i]? = some d ∧ Rp K G d v
  | [], _, i, d, h, e => by simp only [Rps] at h; subst h; simp at e
  | d :: ds, _, 0, _, h, e => by
    simp only [Rps] at h
    obtain ⟨v, vs, rfl, h2, h3⟩ := h
    simp at e; subst e
    exact ⟨d, rfl, h2⟩
  | d :: ds, _, i + 1, _, h, e => by
    simp only [Rps] at h
    obtain ⟨v, vs, rfl, h2, h3⟩ := h
    obtain ⟨u, q1, q2⟩ := Rps.at (i := i) h3 (by simpa using e)
    exact ⟨u, by simpa using q1, q2⟩
theorem Rps.append : ∀ {ds es : List D} {vs us : List V}, Rps K G ds vs → Rps K G es us → Rps K G (ds ++ es) (vs ++ us)
  | [], _, _, _, h, h' => by simp only [Rps] at h; subst h; exact h'
  | d :: ds, _, _, _, h, h' => by
    simp only [Rps] at h
    obtain ⟨v, vs, rfl, h2, h3⟩ := h
    simp only [List.cons_append, Rps]
    exact ⟨v, _, rfl, h2, Rps.append h3 h'⟩
theorem Rps.take : ∀ {ds : List D} {vs : List V} (n : Nat), Rps K G ds vs → Rps K G (ds.take n) (vs.take n)
  | _, _, 0, h => by simp only [List.take_zero, Rps]
  | [], _, n + 1, h => by simp only [Rps] at h; subst h; simp only [List.take_nil, Rps]
  | d :: ds, _, n + 1, h => by
    simp only [Rps] at h
    obtain ⟨v, vs, rfl, h2, h3⟩ := h
    simp only [List.take_succ_cons, Rps]
    exact ⟨v, _, rfl, h2, Rps.take n h3⟩
theorem Rps.drop : ∀ {ds : List D} {vs : List V} (n : Nat), Rps K G ds vs → Rps K G (ds.drop n) (vs.drop n)
  | _, _, 0, h => h
  | [], _, n + 1, h => by simp only [Rps] at h; subst h; simp only [List.drop_nil, Rps]
  | d :: ds, _, n + 1, h => by
    simp only [Rps] at h
    obtain ⟨v, vs, rfl, h2, h3⟩ := h
    simp only [List.drop_succ_cons]
    exact Rps.drop n h3
theorem Rps.reverse : ∀ {ds : List D} {vs : List V}, Rps K G ds vs → Rps K G ds.reverse vs.reverse
  | [], _, h => by simp only [Rps] at h; subst h; simp only [List.reverse_nil, Rps]
  | d :: ds, _, h => by
    simp only [Rps] at h
    obtain ⟨v, vs, rfl, h2, h3⟩ := h
    simp only [List.reverse_cons]
    refine Rps.append (Rps.reverse h3) ?_
    simp only [Rps]
    exact ⟨v, [], rfl, h2, rfl⟩
theorem ROs.per : ∀ {ds : List D} {vs : List V}, Rps K G ds vs → ROs K G H (ds.map Ow.per) vs []
  | [], _, h => by
    simp only [Rps] at h
    simp only [List.map_nil, ROs]
    exact ⟨h, trivial⟩
  | d :: ds, _, h => by
    simp only [Rps] at h
    obtain ⟨v, vs, rfl, h2, h3⟩ := h
    simp only [List.map_cons, ROs, RO]
    exact ⟨v, vs, [], [], rfl, rfl, ⟨rfl, h2⟩, ROs.per h3⟩
theorem ROs.of_per : ∀ {ds : List D} {vs : List V} {fp : List Addr}, ROs K G H (ds.map Ow.per) vs fp → fp = [] ∧ Rps K G ds vs
  | [], _, _, h => by
    simp only [List.map_nil, ROs] at h
    simp only [Rps]
    exact ⟨h.2, h.1⟩
  | d :: ds, _, _, h => by
    simp only [List.map_cons, ROs, RO] at h
    obtain ⟨v, vs, f1, f2, rfl, rfl, ⟨rfl, h2⟩, h3⟩ := h
    obtain ⟨rfl, q⟩ := ROs.of_per h3
    simp only [Rps]
    exact ⟨rfl, v, vs, rfl, h2, q⟩
theorem ROs.length : ∀ {os : List Ow} {vs : List V} {fp : List Addr}, ROs K G H os vs fp → vs.length = os.length
  | [], _, _, h => by simp only [ROs] at h; rw [h.1]; rfl
  | o :: os, _, _, h => by
    simp only [ROs] at h
    obtain ⟨v, vs, f1, f2, rfl, _, _, h3⟩ := h
    simp only [List.length_cons, ROs.length h3]
theorem ROs.append : ∀ {os ps : List Ow} {vs us : List V} {f f' : List Addr}, ROs K G H os vs f → ROs K G H ps us f' → ROs K G H (os ++ ps) (vs ++ us) (f ++ f')
  | [], _, _, _, _, _, h, h' => by simp only [ROs] at h; obtain ⟨rfl, rfl⟩ := h; exact h'
  | o :: os, _, _, _, _, _, h, h' => by
    simp only [ROs] at h
    obtain ⟨v, vs, f1, f2, rfl, rfl, h2, h3⟩ := h
    simp only [List.cons_append, ROs]
    exact ⟨v, _, f1, _, rfl, by rw [List.append_assoc], h2, ROs.append h3 h'⟩
theorem ROs.one {o : Ow} {v : V} {f : List Addr} (h : RO K G H o v f) : ROs K G H [o] [v] f := by
  simp only [ROs]
  exact ⟨v, [], f, [], rfl, by simp, h, rfl, rfl⟩
end
end Pu

set_option Elab.async false
set_option linter.all false
set_option autoImplicit false
set_option maxRecDepth 100000
set_option maxHeartbeats 1000000
namespace Pu
open PySem L2

abbrev Ev := List (Option Ow)
/-- the slots' values by the slots' data -/
def Ens (K : PySem.W.Frag) (G H : Hp) : Ev → St → List Addr → Prop
  | [], σ, fp => σ = [] ∧ fp = []
  | none :: es, σ, fp => ∃ s r, σ = s :: r ∧ Ens K G H es r fp
  | some o :: es, σ, fp => ∃ v r f1 f2, σ = some v :: r ∧ fp = f1 ++ f2 ∧ RO K G H o v f1 ∧ Ens K G H es r f2
/-- from a state to a later one: nothing is changed, what lasts goes on, and only new things begin to last -/
structure Ex2 (G H G' H' : Hp) : Prop where
  s : ∀ a o, G' a = some o → H' a = some o
  g : ∀ a o, G a = some o → G' a = some o
  h : ∀ a o, H a = some o → H' a = some o
  n : ∀ a, G a = none → H a ≠ none → G' a = none
def Sub (G H : Hp) : Prop := ∀ a o, G a = some o → H a = some o
theorem Ex2.refl {G H : Hp} (s : Sub G H) : Ex2 G H G H := ⟨s, fun _ _ h => h, fun _ _ h => h, fun _ h _ => h⟩
theorem ne_none {H H' : Hp} {a : Addr} (e : ∀ a o, H a = some o → H' a = some o) (h : H a ≠ none) : H' a ≠ none := by
  cases q : H a with
  | none => exact absurd q h
  | some o => rw [e a o q]; simp
theorem back_none {H H' : Hp} {a : Addr} (e : ∀ a o, H a = some o → H' a = some o) (h : H' a = none) : H a = none := by
  cases q : H a with
  | none => rfl
  | some o => rw [e a o q] at h; cases h
theorem Ex2.trans {G H G1 H1 G2 H2 : Hp} (a : Ex2 G H G1 H1) (b : Ex2 G1 H1 G2 H2) : Ex2 G H G2 H2 :=
  ⟨b.s, fun x o h => b.g _ _ (a.g _ _ h), fun x o h => b.h _ _ (a.h _ _ h), fun x h1 h2 => b.n x (a.n x h1 h2) (ne_none a.h h2)⟩
/-- a new object that lasts -/
theorem Ex2.new {G H : Hp} {p : Addr} {o : HO} (s : Sub G H) (hp : H p = none) : Ex2 G H (upd G p o) (upd H p o) := by
  have gp : G p = none := back_none s hp
  refine ⟨fun a u h => ?_, fun a u h => ?_, fun a u h => ?_, fun a h1 h2 => ?_⟩
  · by_cases e : a = p
    · subst e; rw [upd_same] at h ⊢; exact h
    · rw [upd_ne e] at h ⊢; exact s _ _ h
  · rw [upd_ne (ne_of_none h gp)]; exact h
  · rw [upd_ne (ne_of_none h hp)]; exact h
  · have e : a ≠ p := fun e => h2 (by rw [e]; exact hp)
    rw [upd_ne e]; exact h1
/-- a new object of one's own -/
theorem Ex2.newOwn {G H : Hp} {p : Addr} {o : HO} (s : Sub G H) (hp : H p = none) : Ex2 G H G (upd H p o) := by
  refine ⟨fun a u h => ?_, fun a u h => h, fun a u h => ?_, fun a h1 h2 => h1⟩
  · rw [upd_ne (ne_of_none (s _ _ h) hp)]; exact s _ _ h
  · rw [upd_ne (ne_of_none h hp)]; exact h
/-- new own things are made to last -/
theorem Ex2.last {G H G' H' : Hp} {fp : List Addr} (x : Ex2 G H G' H') (hn : ∀ a ∈ fp, H a = none) (hg : ∀ a ∈ fp, G' a = none) : Ex2 G H (more G' H' fp) H' := by
  refine ⟨fun a o h => ?_, fun a o h => ?_, x.h, fun a h1 h2 => ?_⟩
  · by_cases e : a ∈ fp
    · rw [more_in e] at h; exact h
    · rw [more_out e] at h; exact x.s _ _ h
  · have h' := x.g _ _ h
    by_cases e : a ∈ fp
    · rw [hg a e] at h'; cases h'
    · rw [more_out e]; exact h'
  · have e : a ∉ fp := fun e => h2 (hn a e)
    rw [more_out e]; exact x.n a h1 h2

section
variable {K : PySem.W.Frag} {G H G' H' : Hp}
theorem Ens.frame (e : ∀ a o, G a = some o → G' a = some o) : ∀ {env : Ev} {σ : St} {fp : List Addr}, (∀ a ∈ fp, H' a = H a ∧ G' a = none) → Ens K G H env σ fp → Ens K G' H' env σ fp
  | [], σ, fp, _, h => h
  | none :: es, σ, fp, k, h => by
    obtain ⟨s, r, h1, h2⟩ := h
    exact ⟨s, r, h1, Ens.frame e k h2⟩
  | some o :: es, σ, fp, k, h => by
    obtain ⟨v, r, f1, f2, h1, rfl, h3, h4⟩ := h
    exact ⟨v, r, f1, f2, h1, rfl, h3.frame e fun a ha => k a (List.mem_append_left _ ha), Ens.frame e (fun a ha => k a (List.mem_append_right _ ha)) h4⟩
theorem Ens.length : ∀ {env : Ev} {σ : St} {fp : List Addr}, Ens K G H env σ fp → σ.length = env.length
  | [], σ, fp, h => by rw [h.1]; rfl
  | none :: es, σ, fp, h => by
    obtain ⟨s, r, rfl, h2⟩ := h
    simp only [List.length_cons, Ens.length h2]
  | some o :: es, σ, fp, h => by
    obtain ⟨v, r, f1, f2, rfl, rfl, h3, h4⟩ := h
    simp only [List.length_cons, Ens.length h4]
theorem Ens.out : ∀ {env : Ev} {σ : St} {fp : List Addr}, Ens K G H env σ fp → ∀ a ∈ fp, G a = none ∧ H a ≠ none
  | [], σ, fp, h, a, ha => by rw [h.2] at ha; cases ha
  | none :: es, σ, fp, h, a, ha => by
    obtain ⟨s, r, rfl, h2⟩ := h
    exact Ens.out h2 a ha
  | some o :: es, σ, fp, h, a, ha => by
    obtain ⟨v, r, f1, f2, rfl, rfl, h3, h4⟩ := h
    rcases List.mem_append.mp ha with ha | ha
    · exact h3.out a ha
    · exact Ens.out h4 a ha
/-- one slot taken out, to be put back otherwise -/
theorem Ens.slot : ∀ {env : Ev} {σ : St} {fp : List Addr} {i : Nat} {o : Ow}, Ens K G H env σ fp → env[i]? = some (some o) →
    ∃ v fa f1 fb, σ[i]? = some (some v) ∧ fp = fa ++ (f1 ++ fb) ∧ RO K G H o v f1 ∧
      ∀ (G' H' : Hp) (o' : Option Ow) (s' : Option V) (f1' : List Addr), (∀ a o, G a = some o → G' a = some o) → (∀ a ∈ fa ++ fb, H' a = H a ∧ G' a = none) →
        (match o' with | none => f1' = [] | some o => ∃ v', s' = some v' ∧ RO K G' H' o v' f1') → Ens K G' H' (env.set i o') (σ.set i s') (fa ++ (f1' ++ fb))
  | [], σ, fp, i, o, h, e => by simp at e
  | none :: es, σ, fp, 0, o, h, e => by simp at e
  | some p :: es, σ, fp, 0, o, h, e => by
    simp at e; subst e
    obtain ⟨v, r, f1, f2, rfl, rfl, h3, h4⟩ := h
    refine ⟨v, [], f1, f2, rfl, rfl, h3, fun G' H' o' s' f1' eg k ho => ?_⟩
    have h4' := Ens.frame (H' := H') eg (fun a ha => k a (by simpa using ha)) h4
    cases o' with
    | none =>
      simp only at ho
      subst ho
      exact ⟨s', r, rfl, h4'⟩
    | some q =>
      obtain ⟨v', rfl, ho⟩ := ho
      exact ⟨v', r, f1', f2, rfl, rfl, ho, h4'⟩
  | none :: es, σ, fp, i + 1, o, h, e => by
    obtain ⟨s, r, rfl, h2⟩ := h
    obtain ⟨v, fa, f1, fb, q1, q2, q3, q4⟩ := Ens.slot (i := i) h2 (by simpa using e)
    refine ⟨v, fa, f1, fb, by simpa using q1, q2, q3, fun G' H' o' s' f1' eg k ho => ?_⟩
    exact ⟨s, _, rfl, q4 G' H' o' s' f1' eg k ho⟩
  | some p :: es, σ, fp, i + 1, o, h, e => by
    obtain ⟨u, r, g1, g2, rfl, rfl, h3, h4⟩ := h
    obtain ⟨v, fa, f1, fb, q1, q2, q3, q4⟩ := Ens.slot (i := i) h4 (by simpa using e)
    subst q2
    refine ⟨v, g1 ++ fa, f1, fb, by simpa using q1, by simp, q3, fun G' H' o' s' f1' eg k ho => ?_⟩
    refine ⟨u, _, g1, fa ++ (f1' ++ fb), rfl, by simp, h3.frame eg fun a ha => k a (by simp [ha]), ?_⟩
    exact q4 G' H' o' s' f1' eg (fun a ha => k a (by
      rcases List.mem_append.mp ha with ha | ha
      · simp [ha]
      · simp [ha])) ho
/-- a slot set anew -/
theorem Ens.set : ∀ {env : Ev} {σ : St} {fp : List Addr} {i : Nat} {o : Ow} {v : V} {f : List Addr}, Ens K G H env σ fp → i < env.length → RO K G H o v f →
    ∃ fp', Ens K G H (env.set i (some o)) (σ.set i (some v)) fp' ∧ (∀ a ∈ fp', a ∈ f ∨ a ∈ fp) ∧ (fp.Nodup → f.Nodup → (∀ a ∈ f, a ∉ fp) → fp'.Nodup)
  | [], σ, fp, i, o, v, f, h, hi, r => by simp at hi
  | none :: es, σ, fp, 0, o, v, f, h, hi, r => by
    obtain ⟨s, q, rfl, h2⟩ := h
    refine ⟨f ++ fp, ⟨v, q, f, fp, rfl, rfl, r, h2⟩, fun a ha => List.mem_append.mp ha, fun n1 n2 d => ?_⟩
    exact List.nodup_append.mpr ⟨n2, n1, fun a ha b hb e => d a ha (e ▸ hb)⟩
  | some p :: es, σ, fp, 0, o, v, f, h, hi, r => by
    obtain ⟨u, q, g1, g2, rfl, rfl, h3, h4⟩ := h
    refine ⟨f ++ g2, ⟨v, q, f, g2, rfl, rfl, r, h4⟩, fun a ha => ?_, fun n1 n2 d => ?_⟩
    · rcases List.mem_append.mp ha with ha | ha
      · exact .inl ha
      · exact .inr (List.mem_append_right _ ha)
    · exact List.nodup_append.mpr ⟨n2, (List.nodup_append.mp n1).2.1, fun a ha b hb e => d a ha (List.mem_append_right _ (e ▸ hb))⟩
  | none :: es, σ, fp, i + 1, o, v, f, h, hi, r => by
    obtain ⟨s, q, rfl, h2⟩ := h
    obtain ⟨fp', k1, k2, k3⟩ := Ens.set (i := i) h2 (by simpa using hi) r
    exact ⟨fp', ⟨s, _, rfl, k1⟩, k2, k3⟩
  | some p :: es, σ, fp, i + 1, o, v, f, h, hi, r => by
    obtain ⟨u, q, g1, g2, rfl, rfl, h3, h4⟩ := h
    obtain ⟨fp', k1, k2, k3⟩ := Ens.set (i := i) h4 (by simpa using hi) r
    refine ⟨g1 ++ fp', ⟨u, _, g1, fp', rfl, rfl, h3, k1⟩, fun a ha => ?_, fun n1 n2 d => ?_⟩
    · rcases List.mem_append.mp ha with ha | ha
      · exact .inr (List.mem_append_left _ ha)
      · rcases k2 a ha with z | z
        · exact .inl z
        · exact .inr (List.mem_append_right _ z)
    · obtain ⟨m1, m2, m3⟩ := List.nodup_append.mp n1
      refine List.nodup_append.mpr ⟨m1, k3 m2 n2 fun a ha hb => d a ha (List.mem_append_right _ hb), fun a ha b hb e => ?_⟩
      subst e
      rcases k2 a hb with z | z
      · exact d a z (List.mem_append_left _ ha)
      · exact m3 a ha a z rfl
/-- slots forgotten -/
theorem Ens.drop : ∀ {env : Ev} {σ : St} {fp : List Addr} {i : Nat} {s' : Option V}, Ens K G H env σ fp → ∃ fp', Ens K G H (env.set i none) (σ.set i s') fp' ∧ List.Sublist fp' fp
  | [], σ, fp, i, s', h => ⟨[], by rw [h.1]; exact ⟨rfl, rfl⟩, List.nil_sublist _⟩
  | none :: es, σ, fp, 0, s', h => by
    obtain ⟨s, q, rfl, h2⟩ := h
    exact ⟨fp, ⟨s', q, rfl, h2⟩, List.Sublist.refl _⟩
  | some p :: es, σ, fp, 0, s', h => by
    obtain ⟨u, q, g1, g2, rfl, rfl, h3, h4⟩ := h
    exact ⟨g2, ⟨s', q, rfl, h4⟩, List.sublist_append_right _ _⟩
  | none :: es, σ, fp, i + 1, s', h => by
    obtain ⟨s, q, rfl, h2⟩ := h
    obtain ⟨fp', k1, k2⟩ := Ens.drop (i := i) (s' := s') h2
    exact ⟨fp', ⟨s, _, rfl, k1⟩, k2⟩
  | some p :: es, σ, fp, i + 1, s', h => by
    obtain ⟨u, q, g1, g2, rfl, rfl, h3, h4⟩ := h
    obtain ⟨fp', k1, k2⟩ := Ens.drop (i := i) (s' := s') h4
    exact ⟨g1 ++ fp', ⟨u, _, g1, fp', rfl, rfl, h3, k1⟩, (List.append_sublist_append_left _).mpr k2⟩

/-- the state's slots, its own things being younger than H0 -/
def En (K : PySem.W.Frag) (H0 G H : Hp) (σ : St) (env : Ev) : Prop := ∃ fp, Ens K G H env σ fp ∧ fp.Nodup ∧ ∀ a ∈ fp, H0 a = none
theorem En.later {H0 : Hp} {σ : St} {env : Ev} (x : Ex2 G H G' H') (h : En K H0 G H σ env) : En K H0 G' H' σ env := by
  obtain ⟨fp, h1, h2, h3⟩ := h
  refine ⟨fp, h1.frame x.g fun a ha => ?_, h2, h3⟩
  obtain ⟨q1, q2⟩ := h1.out a ha
  refine ⟨?_, x.n a q1 q2⟩
  cases q : H a with
  | none => exact absurd q q2
  | some o => exact x.h a o q
theorem En.set {H0 : Hp} {σ : St} {env : Ev} {i : Nat} {o : Ow} {v : V} {f : List Addr} (h : En K H0 G H σ env) (hi : i < env.length) (r : RO K G H o v f) (nf : f.Nodup) (h0 : ∀ a ∈ f, H0 a = none)
    (hd : ∀ fp, Ens K G H env σ fp → ∀ a ∈ f, a ∉ fp) : En K H0 G H (σ.set i (some v)) (env.set i (some o)) := by
  obtain ⟨fp, h1, h2, h3⟩ := h
  obtain ⟨fp', k1, k2, k3⟩ := Ens.set h1 hi r
  refine ⟨fp', k1, k3 h2 nf (hd fp h1), fun a ha => ?_⟩
  rcases k2 a ha with z | z
  · exact h0 a z
  · exact h3 a z
theorem En.get {H0 : Hp} {σ : St} {env : Ev} {i : Nat} {d : D} (h : En K H0 G H σ env) (e : env[i]? = some (some (.per d))) : ∃ v, σ[i]? = some (some v) ∧ Rp K G d v := by
  obtain ⟨fp, h1, h2, h3⟩ := h
  obtain ⟨v, fa, f1, fb, q1, q2, q3, _⟩ := h1.slot e
  simp only [RO] at q3
  exact ⟨v, q1, q3.2⟩
end

/-! ### the meaning of expressions, tests, blocks -/
section
variable (X : Cx)
def WE (e : Expr) : TE := fun σ H Q => ∀ (pins : List (Addr × Obj)) (s : Shared), Inv X pins σ H s → wpAny (model X.prog X.w) X.A (eval e X.env) (EP X pins σ Q) X.xe s
def WT (e : Expr) : TT := fun σ H Q => ∀ (pins : List (Addr × Obj)) (s : Shared), Inv X pins σ H s → wpAny (model X.prog X.w) X.A (isTrue e X.env (eval e X.env)) (TP X pins σ Q) X.xe s
def WA (es : List Expr) : TA := fun σ H Q => ∀ (pos : Pos) (pins : List (Addr × Obj)) (s : Shared), Inv X pins σ H s → wpAny (model X.prog X.w) X.A (spliced (backTo pos (starEach es X.env))) (AP X pins σ Q) X.xe s
def WS (st : Stmt) : TS := fun D σ H => ∀ (pins : List (Addr × Obj)) (s : Shared), Inv X pins σ H s → wpAny (model X.prog X.w) X.A (exec st X.env) (SP X pins D) X.xe s
def WSs (st : List Stmt) : TS := fun D σ H => ∀ (pins : List (Addr × Obj)) (s : Shared), Inv X pins σ H s → wpAny (model X.prog X.w) X.A (execs st X.env) (SP X pins D) X.xe s
end
section
variable {X : Cx} {e : Expr} {es : List Expr} {st : Stmt} {ss : List Stmt} {σ : St} {H : Hp}
theorem pWE : PE X e (WE X e) := ⟨fun pins s _ _ _ I h => h pins s I⟩
theorem pWT : PT X e (WT X e) := ⟨fun pins s _ _ _ I h => h pins s I⟩
theorem pWA : PA X es (WA X es) := ⟨fun pos pins s _ _ _ I h => h pos pins s I⟩
theorem pWS : PS X st (WS X st) := ⟨fun pins s _ _ _ I h => h pins s I⟩
theorem pWSs : PSs X ss (WSs X ss) := ⟨fun pins s _ _ _ I h => h pins s I⟩
theorem WE.of {t : TE} {Q : VK} (h : PE X e t) (k : t σ H Q) : WE X e σ H Q := fun pins s I => h.run pins s σ H Q I k
theorem WT.of {t : TT} {Q : Bool → Hp → Prop} (h : PT X e t) (k : t σ H Q) : WT X e σ H Q := fun pins s I => h.run pins s σ H Q I k
theorem WA.of {t : TA} {Q : List V → Hp → Prop} (h : PA X es t) (k : t σ H Q) : WA X es σ H Q := fun pos pins s I => h.run pos pins s σ H Q I k
theorem WS.of {t : TS} {D : Ends} (h : PS X st t) (k : t D σ H) : WS X st D σ H := fun pins s I => h.run pins s σ H D I k
theorem WSs.of {t : TS} {D : Ends} (h : PSs X ss t) (k : t D σ H) : WSs X ss D σ H := fun pins s I => h.run pins s σ H D I k
/-- what the state's objects say may be used -/
theorem WE.inv {Q : VK} (h : (∃ pins s, Inv X pins σ H s) → WE X e σ H Q) : WE X e σ H Q := fun pins s I => h ⟨pins, s, I⟩ pins s I
theorem WSs.inv {D : Ends} (h : (∃ pins s, Inv X pins σ H s) → WSs X ss D σ H) : WSs X ss D σ H := fun pins s I => h ⟨pins, s, I⟩ pins s I
end

/-- what an expression must give -/
def Gv (K : PySem.W.Frag) (G H : Hp) (o : Ow) (Q : VK) : Prop := ∀ v G' H' fp, Ex2 G H G' H' → RO K G' H' o v fp → (∀ a ∈ fp, H a = none) → fp.Nodup → Q v H'
/-- an expression is worth o in every state with these slots -/
structure P (X : Cx) (env : Ev) (e : Expr) (o : Ow) : Prop where
  run : ∀ (H0 : Hp) (σ : St) (G H : Hp), Sub G H → En X.K H0 G H σ env → ∀ Q : VK, Gv X.K G H o Q → WE X e σ H Q
/-- a test has this outcome -/
structure T (X : Cx) (env : Ev) (e : Expr) (b : Bool) : Prop where
  run : ∀ (H0 : Hp) (σ : St) (G H : Hp), Sub G H → En X.K H0 G H σ env → ∀ Q : Bool → Hp → Prop,
  (∀ G' H', Ex2 G H G' H' → Q b H') → WT X e σ H Q
/-- arguments -/
structure As (X : Cx) (env : Ev) (es : List Expr) (ds : List D) : Prop where
  run : ∀ (H0 : Hp) (σ : St) (G H : Hp), Sub G H → En X.K H0 G H σ env → ∀ Q : List V → Hp → Prop,
  (∀ vs G' H', Ex2 G H G' H' → Rps X.K G' ds vs → Q vs H') → WA X es σ H Q
inductive Out where
  | nx (env : Ev) | bk (env : Ev) | ct (env : Ev) | rt (o : Ow)
structure Endsk (K : PySem.W.Frag) (Φ : Out → Prop) (G0 H0 : Hp) (D : Ends) : Prop where
  nx : ∀ env σ G H, Φ (.nx env) → Ex2 G0 H0 G H → En K H0 G H σ env → D.nx σ H
  bk : ∀ env σ G H, Φ (.bk env) → Ex2 G0 H0 G H → En K H0 G H σ env → D.bk σ H
  ct : ∀ env σ G H, Φ (.ct env) → Ex2 G0 H0 G H → En K H0 G H σ env → D.ct σ H
  rt : ∀ o v G H fp, Φ (.rt o) → Ex2 G0 H0 G H → RO K G H o v fp → fp.Nodup → (∀ a ∈ fp, H0 a = none) → D.rt v H
/-- a block, from these slots, ends as Φ tells -/
structure S (X : Cx) (ss : List Stmt) (env : Ev) (Φ : Out → Prop) : Prop where
  run : ∀ (σ : St) (G0 H0 G H : Hp), Ex2 G0 H0 G H → En X.K H0 G H σ env → ∀ D : Ends, Endsk X.K Φ G0 H0 D → WSs X ss D σ H
structure S1 (X : Cx) (st : Stmt) (env : Ev) (Φ : Out → Prop) : Prop where
  run : ∀ (σ : St) (G0 H0 G H : Hp), Ex2 G0 H0 G H → En X.K H0 G H σ env → ∀ D : Ends, Endsk X.K Φ G0 H0 D → WS X st D σ H
end Pu

set_option Elab.async false
set_option linter.all false
set_option autoImplicit false
set_option maxRecDepth 100000
set_option maxHeartbeats 1000000
namespace Pu
open PySem L2

/-- the module: the program, the world, the written part, the globals, the base -/
structure Md where
  P : Program
  w : World
  K : PySem.W.Frag
  mg : Str → Option Value
  base : Heap
/-- where a body stands -/
structure Cs (X : Cx) (m : Md) (N : List Str) (sc fs : Scope) (k : Nat) : Prop where
  hP : X.prog = m.P
  hW : X.w = m.w
  hK : X.K = m.K
  hM : X.mg = m.mg
  hB : X.base = m.base
  hN : X.N = N
  hS : X.env.scope = sc
  calm : X.calm = true
  room : Room k X.A
  nd : N.Nodup
  fn : ∀ x, fs.names.lookup x = some .cell → X.fn x = true
  own : PassesOwn (model X.prog X.w) X.A X.env X.xe
/-- the name x has the place i -/
structure Ix (N : List Str) (i : Nat) (x : Str) : Prop where
  at_ : N[i]? = some x
  d1 : (x == ("__debug__" : Str)) = false
  d2 : (x == ("__classdict__" : Str)) = false
def visB (sc : Scope) (x : Str) : Bool := match sc.names.lookup x with
  | some .local => true
  | some .cell => true
  | some .free => true
  | _ => false
def locB (sc fs : Scope) (x : Str) : Bool := match sc.names.lookup x with
  | some .local => true
  | some .cell => (match fs.names.lookup x with
    | some .cell => true
    | _ => false)
  | _ => false
def gloB (sc : Scope) (x : Str) : Bool := match sc.names.lookup x with
  | some .globalImplicit => true
  | _ => false
theorem vis_of {sc : Scope} {x : Str} (h : visB sc x = true) : Vis sc x := by
  unfold visB at h
  unfold Vis
  split at h
  · exact .inl ‹_›
  · exact .inr (.inl ‹_›)
  · exact .inr (.inr ‹_›)
  · cases h
theorem loc_of {sc fs : Scope} {x : Str} (h : locB sc fs x = true) : sc.names.lookup x = some .local ∨ (sc.names.lookup x = some .cell ∧ fs.names.lookup x = some .cell) := by
  unfold locB at h
  split at h
  · exact .inl ‹_›
  · split at h
    · exact .inr ⟨‹_›, ‹_›⟩
    · cases h
  · cases h
theorem glo_of {sc : Scope} {x : Str} (h : gloB sc x = true) : sc.names.lookup x = some .globalImplicit := by
  unfold gloB at h
  split at h
  · assumption
  · cases h
section
variable {X : Cx} {m : Md} {N : List Str} {sc fs : Scope} {k : Nat}
theorem Cs.gl (hX : Cs X m N sc fs k) {x : Str} (h : gloB sc x = true) : Gl X x := by
  show X.env.scope.names.lookup x = _
  rw [hX.hS]
  exact glo_of h
theorem Cs.hf (hX : Cs X m N sc fs k) {x : Str} (h : locB sc fs x = true) : X.fn x = true ∨ X.env.scope.names.lookup x = some .local := by
  rcases loc_of h with q | q
  · exact .inr (by rw [hX.hS]; exact q)
  · exact .inl (hX.fn x q.2)
theorem Cs.loc (hX : Cs X m N sc fs k) {x : Str} (h : locB sc fs x = true) : L2.Loc X.env.scope x := by
  rw [hX.hS]
  rcases loc_of h with q | q
  · exact .inl q
  · exact .inr q.1
theorem Cs.mono (hX : Cs X m N sc fs k) {j : Nat} (h : j ≤ k) : Cs X m N sc fs j := { hX with room := hX.room.mono h }
end

theorem Gv.val {K : PySem.W.Frag} {G H : Hp} {d : D} {Q : VK} {v : V} (g : Gv K G H (.per d) Q) (s : Sub G H) (h : Rp K G d v) : Q v H :=
  g v G H [] (Ex2.refl s) (by simp only [RO]; exact ⟨trivial, h⟩) (fun a ha => by cases ha) List.nodup_nil
theorem Gv.trans {K : PySem.W.Frag} {G H G1 H1 : Hp} {o : Ow} {Q : VK} (g : Gv K G H o Q) (x : Ex2 G H G1 H1) : Gv K G1 H1 o Q :=
  fun v G' H' fp y r n d => g v G' H' fp (x.trans y) r (fun a ha => back_none x.h (n a ha)) d
/-- a new lasting tuple -/
theorem Gv.tup {K : PySem.W.Frag} {G H : Hp} {ds : List D} {xs : List V} {Q : VK} {p : Addr} (g : Gv K G H (.per (.tup ds)) Q) (s : Sub G H) (h : Rps K G ds xs) (hp : H p = none) : Q (.ref p) (upd H p (.tup xs)) := by
  have x : Ex2 G H (upd G p (.tup xs)) (upd H p (.tup xs)) := Ex2.new s hp
  refine g _ _ _ [] x ?_ (fun a ha => by cases ha) List.nodup_nil
  simp only [RO, Rp]
  exact ⟨trivial, p, xs, rfl, SqT.of upd_same, h.mono x.g⟩
/-- a new list of one's own, of lasting things -/
theorem Gv.lst {K : PySem.W.Frag} {G H : Hp} {ds : List D} {xs : List V} {Q : VK} {p : Addr} (g : Gv K G H (.lst (ds.map Ow.per)) Q) (s : Sub G H) (h : Rps K G ds xs) (hp : H p = none) : Q (.ref p) (upd H p (.lst xs)) := by
  have x : Ex2 G H G (upd H p (.lst xs)) := Ex2.newOwn s hp
  refine g _ _ _ [p] x ?_ (fun a ha => ?_) (List.nodup_cons.mpr ⟨by simp, List.nodup_nil⟩)
  · simp only [RO]
    exact ⟨p, xs, [], rfl, rfl, back_none s hp, upd_same, ROs.per h⟩
  · rw [List.mem_singleton.mp ha]; exact hp
theorem P.go {X : Cx} {env : Ev} {e : Expr} {d : D} {H0 : Hp} {σ : St} {G H : Hp} {Q : VK} (h : P X env e (.per d)) (s : Sub G H) (E : En X.K H0 G H σ env) (k : ∀ v G' H', Ex2 G H G' H' → Rp X.K G' d v → Q v H') : WE X e σ H Q :=
  h.run H0 σ G H s E Q fun v G' H' fp x r _ _ => k v G' H' x (by simp only [RO] at r; exact r.2)
/-- what is made is made to last -/
theorem P.last {X : Cx} {env : Ev} {e : Expr} {o : Ow} (h : P X env e o) : P X env e (.per o.fr) := .mk fun H0 σ G H s E Q g =>
  h.run H0 σ G H s E Q fun v G' H' fp x r n d => by
    have x' := x.last n fun a ha => (r.out a ha).1
    refine g v _ H' [] x' ?_ (fun a ha => by cases ha) List.nodup_nil
    simp only [RO]
    exact ⟨trivial, r.fr (fun a o e => by
      by_cases q : a ∈ fp
      · rw [(r.out a q).1] at e; cases e
      · rw [more_out q]; exact e) fun a ha => more_in ha⟩
theorem P.lastL {X : Cx} {env : Ev} {e : Expr} {ds : List D} (h : P X env e (.lst (ds.map Ow.per))) : P X env e (.per (.lst ds)) := by
  have q := h.last
  simp only [Ow.fr, frs_per] at q
  exact q

section
variable {X : Cx} {m : Md} {N : List Str} {sc fs : Scope} {k : Nat} {env : Ev} {a b c e : Expr} {es : List Expr} {pos : Pos}
/-! ### names, constants -/
theorem p_var (hX : Cs X m N sc fs k) {i : Nat} {x : Str} {d : D} (hi : Ix N i x) (hv : visB sc x = true) (he : env[i]? = some (some (.per d))) : P X env (.Name x pos) (.per d) := .mk fun H0 σ G H s E Q g => by
  obtain ⟨v, h1, h2⟩ := E.get he
  exact WE.of (pe_var (by rw [hX.hN]; exact hi.at_) (by rw [hX.hS]; exact vis_of hv) hi.d1 hi.d2) ⟨v, h1, g.val s h2⟩
theorem p_int {i : Int} {j : Nat} : P X env (.Constant (.int i) j pos) (.per (.int i)) := .mk fun H0 σ G H s E Q g => WE.of pe_int (g.val (v := .int i) s (by simp only [Rp]))
theorem p_bl {i : Bool} {j : Nat} : P X env (.Constant (.bool i) j pos) (.per (.bl i)) := .mk fun H0 σ G H s E Q g => WE.of pe_bl (g.val (v := .bl i) s (by simp only [Rp]))
theorem p_non {j : Nat} : P X env (.Constant .none j pos) (.per .non) := .mk fun H0 σ G H s E Q g => WE.of pe_non (g.val (v := .non) s (by simp only [Rp]))
theorem p_str {i : Str} {j : Nat} : P X env (.Constant (.str i) j pos) (.per (.str i)) := .mk fun H0 σ G H s E Q g => WE.of pe_str (g.val (v := .str i) s (by simp only [Rp]))
/-- a constant of the module -/
theorem p_glob (hX : Cs X m N sc fs k) {x : Str} {d : D} {v : V} {u : Value} (hg : gloB sc x = true) (hm : m.mg x = some u) (hr : RelV v u) (hd : ∀ G, Rp m.K G d v) (hx : (x == ("__debug__" : Str)) = false := by decide +kernel) : P X env (.Name x pos) (.per d) := .mk fun H0 σ G H s E Q g =>
  WE.of (pe_glob (hX.gl hg) (by rw [hX.hM]; exact hm) hr hx) (g.val s (by rw [hX.hK]; exact hd G))

/-! ### operators -/
/-- two operands, by the operator's rule -/
theorem p_op {op : Operator} {r : R2} {da db : D} {o : Ow} (ho : OpR X (binaryOp op) r) (ha : P X env a (.per da)) (hb : P X env b (.per db))
    (hr : ∀ G H x y Q, Sub G H → Rp X.K G da x → Rp X.K G db y → Gv X.K G H o Q → r x y H Q) : P X env (.BinOp a op b pos) o := .mk fun H0 σ G H s E Q g =>
  WE.of (pe_op ho pWE pWE) (ha.go s E fun x G1 H1 x1 r1 => hb.go x1.s (E.later x1) fun y G2 H2 x2 r2 => hr G2 H2 x y Q x2.s (r1.mono x2.g) r2 (g.trans (x1.trans x2)))
theorem p_cmp {op : CmpOp} {r : R2} {da db : D} {o : Ow} (ho : OpR X (compareOp op) r) (ha : P X env a (.per da)) (hb : P X env b (.per db))
    (hr : ∀ G H x y Q, Sub G H → Rp X.K G da x → Rp X.K G db y → Gv X.K G H o Q → r x y H Q) (hm : behindInMarks op b = false) : P X env (.Compare a [op] [b] pos) o := .mk fun H0 σ G H s E Q g =>
  WE.of (pe_cmpR ho pWE pWE hm) (ha.go s E fun x G1 H1 x1 r1 => hb.go x1.s (E.later x1) fun y G2 H2 x2 r2 => hr G2 H2 x y Q x2.s (r1.mono x2.g) r2 (g.trans (x1.trans x2)))
/-- .. as a test -/
theorem t_cmp {op : CmpOp} {r : R2} {da db : D} {q : Bool} (ho : OpR X (compareOp op) r) (ha : P X env a (.per da)) (hb : P X env b (.per db))
    (hr : ∀ G H x y Q, Sub G H → Rp X.K G da x → Rp X.K G db y → Gv X.K G H (.per (.bl q)) Q → r x y H Q) (hm : behindInMarks op b = false) : T X env (.Compare a [op] [b] pos) q := .mk fun H0 σ G H s E Q g =>
  WT.of (pt_cmpR ho pWE pWE hm) (ha.go s E fun x G1 H1 x1 r1 => hb.go x1.s (E.later x1) fun y G2 H2 x2 r2 => hr G2 H2 x y _ x2.s (r1.mono x2.g) r2 fun v G3 H3 fp x3 r3 _ _ => by
    simp only [RO, Rp] at r3
    exact ⟨q, r3.2, g G3 H3 ((x1.trans x2).trans x3)⟩)
theorem rI0_of {K : PySem.W.Frag} {G H : Hp} {f : Int → Int → V} {i j : Int} {d : D} {x y : V} {Q : VK} (s : Sub G H) (h1 : Rp K G (.int i) x) (h2 : Rp K G (.int j) y) (hd : ∀ G, Rp K G d (f i j)) (g : Gv K G H (.per d) Q) : rI0 f x y H Q := by
  simp only [Rp] at h1 h2
  exact ⟨i, j, h1, h2, g.val s (hd G)⟩
theorem rI_of {K : PySem.W.Frag} {G H : Hp} {C : Int → Int → Prop} {f : Int → Int → V} {i j : Int} {d : D} {x y : V} {Q : VK} (s : Sub G H) (h1 : Rp K G (.int i) x) (h2 : Rp K G (.int j) y) (hc : C i j) (hd : ∀ G, Rp K G d (f i j)) (g : Gv K G H (.per d) Q) : rI C f x y H Q := by
  simp only [Rp] at h1 h2
  exact ⟨i, j, h1, h2, hc, g.val s (hd G)⟩
variable {i j : Int}
theorem p_add (ha : P X env a (.per (.int i))) (hb : P X env b (.per (.int j))) : P X env (.BinOp a .Add b pos) (.per (.int (i + j))) :=
  p_op op_add ha hb fun G H x y Q s h1 h2 g => rI0_of s h1 h2 (fun _ => by simp only [Rp]) g
theorem p_sub (ha : P X env a (.per (.int i))) (hb : P X env b (.per (.int j))) : P X env (.BinOp a .Sub b pos) (.per (.int (i - j))) :=
  p_op op_sub ha hb fun G H x y Q s h1 h2 g => rI0_of s h1 h2 (fun _ => by simp only [Rp]) g
theorem p_mul (hc : CMul i j) (ha : P X env a (.per (.int i))) (hb : P X env b (.per (.int j))) : P X env (.BinOp a .Mult b pos) (.per (.int (i * j))) :=
  p_op op_mul ha hb fun G H x y Q s h1 h2 g => rI_of s h1 h2 hc (fun _ => by simp only [Rp]) g
theorem p_mod (hc : 0 < j) (ha : P X env a (.per (.int i))) (hb : P X env b (.per (.int j))) : P X env (.BinOp a .Mod b pos) (.per (.int (i % j))) :=
  p_op op_mod ha hb fun G H x y Q s h1 h2 g => rI_of s h1 h2 hc (fun _ => by simp only [Rp]) g
theorem p_fdiv (hc : 0 < j ∧ j < 1073741824) (ha : P X env a (.per (.int i))) (hb : P X env b (.per (.int j))) : P X env (.BinOp a .FloorDiv b pos) (.per (.int (i / j))) :=
  p_op op_fdiv ha hb fun G H x y Q s h1 h2 g => rI_of s h1 h2 hc (fun _ => by simp only [Rp]) g
theorem p_pow (hc : CPow i j) (ha : P X env a (.per (.int i))) (hb : P X env b (.per (.int j))) : P X env (.BinOp a .Pow b pos) (.per (.int (i ^ j.toNat))) :=
  p_op op_pow ha hb fun G H x y Q s h1 h2 g => rI_of s h1 h2 hc (fun _ => by simp only [Rp]) g
theorem p_neg (ha : P X env a (.per (.int i))) : P X env (.UnaryOp .USub a pos) (.per (.int (-i))) := .mk fun H0 σ G H s E Q g =>
  WE.of (pe_un un_neg pWE) (ha.go s E fun x G1 H1 x1 r1 => by
    simp only [Rp] at r1
    exact ⟨i, r1, (g.trans x1).val x1.s (by simp only [Rp])⟩)
theorem p_lt (ha : P X env a (.per (.int i))) (hb : P X env b (.per (.int j))) : P X env (.Compare a [.Lt] [b] pos) (.per (.bl (decide (i < j)))) :=
  p_cmp op_lt ha hb (fun G H x y Q s h1 h2 g => rI0_of s h1 h2 (fun _ => by simp only [Rp]) g) (nomark _)
theorem p_le (ha : P X env a (.per (.int i))) (hb : P X env b (.per (.int j))) : P X env (.Compare a [.LtE] [b] pos) (.per (.bl (decide (i ≤ j)))) :=
  p_cmp op_le ha hb (fun G H x y Q s h1 h2 g => rI0_of s h1 h2 (fun _ => by simp only [Rp]) g) (nomark _)
theorem p_gt (ha : P X env a (.per (.int i))) (hb : P X env b (.per (.int j))) : P X env (.Compare a [.Gt] [b] pos) (.per (.bl (decide (j < i)))) :=
  p_cmp op_gt ha hb (fun G H x y Q s h1 h2 g => rI0_of s h1 h2 (fun _ => by simp only [Rp]) g) (nomark _)
theorem p_ge (ha : P X env a (.per (.int i))) (hb : P X env b (.per (.int j))) : P X env (.Compare a [.GtE] [b] pos) (.per (.bl (decide (j ≤ i)))) :=
  p_cmp op_ge ha hb (fun G H x y Q s h1 h2 g => rI0_of s h1 h2 (fun _ => by simp only [Rp]) g) (nomark _)
end
end Pu

set_option Elab.async false
set_option linter.all false
set_option autoImplicit false
set_option maxRecDepth 100000
set_option maxHeartbeats 1000000
namespace Pu
open PySem L2
theorem sub_sqL {K : PySem.W.Frag} {G H : Hp} {a : Addr} {xs : List V} (s : Sub G H) (h : SqL K G a xs) : SqL K H a xs := sqL_mono s h
theorem sub_sqT {K : PySem.W.Frag} {G H : Hp} {a : Addr} {xs : List V} (s : Sub G H) (h : SqT K G a xs) : SqT K H a xs := sqT_mono s h
/-- a list that is read -/
theorem Rp.seq {K : PySem.W.Frag} {G : Hp} {ds : List D} {v : V} (h : Rp K G (.lst ds) v ∨ Rp K G (.fz ds) v) : ∃ a xs, v = .ref a ∧ SqL K G a xs ∧ Rps K G ds xs := by
  rcases h with h | h
  · simp only [Rp] at h
    obtain ⟨a, xs, h1, h2, h3⟩ := h
    exact ⟨a, xs, h1, SqL.of h2, h3⟩
  · simpa only [Rp] using h
/-- d is a list (or the script) of these -/
inductive IsL : D → List D → Prop where
  | lst (ds : List D) : IsL (.lst ds) ds
  | fz (ds : List D) : IsL (.fz ds) ds
inductive IsS : D → List D → Prop where
  | lst (ds : List D) : IsS (.lst ds) ds
  | fz (ds : List D) : IsS (.fz ds) ds
  | tup (ds : List D) : IsS (.tup ds) ds
theorem IsL.seq {K : PySem.W.Frag} {G : Hp} {d : D} {ds : List D} {v : V} (i : IsL d ds) (h : Rp K G d v) : ∃ a xs, v = .ref a ∧ SqL K G a xs ∧ Rps K G ds xs := by
  cases i with
  | lst => exact Rp.seq (.inl h)
  | fz => exact Rp.seq (.inr h)
theorem IsS.seq {K : PySem.W.Frag} {G : Hp} {d : D} {ds : List D} {v : V} (i : IsS d ds) (h : Rp K G d v) : ∃ a xs, v = .ref a ∧ (SqL K G a xs ∨ SqT K G a xs) ∧ Rps K G ds xs := by
  cases i with
  | lst =>
    obtain ⟨a, xs, h1, h2, h3⟩ := Rp.seq (.inl h)
    exact ⟨a, xs, h1, .inl h2, h3⟩
  | fz =>
    obtain ⟨a, xs, h1, h2, h3⟩ := Rp.seq (.inr h)
    exact ⟨a, xs, h1, .inl h2, h3⟩
  | tup =>
    simp only [Rp] at h
    obtain ⟨a, xs, h1, h2, h3⟩ := h
    exact ⟨a, xs, h1, .inr h2, h3⟩
theorem Rps.ints {K : PySem.W.Frag} {G : Hp} : ∀ {ns : List Int} {xs : List V}, Rps K G (ns.map D.int) xs → xs = ns.map V.int
  | [], _, h => by simpa only [List.map_nil, Rps] using h
  | n :: ns, _, h => by
    simp only [List.map_cons, Rps, Rp] at h
    obtain ⟨v, vs, rfl, rfl, h3⟩ := h
    rw [Rps.ints h3]; rfl
theorem Rps.of_ints {K : PySem.W.Frag} {G : Hp} : ∀ (ns : List Int), Rps K G (ns.map D.int) (ns.map V.int)
  | [] => by simp only [List.map_nil, Rps]
  | n :: ns => by
    simp only [List.map_cons, Rps, Rp]
    exact ⟨_, _, rfl, rfl, Rps.of_ints ns⟩
theorem Rps.bls {K : PySem.W.Frag} {G : Hp} : ∀ {ns : List Bool} {xs : List V}, Rps K G (ns.map D.bl) xs → xs = ns.map V.bl
  | [], _, h => by simpa only [List.map_nil, Rps] using h
  | n :: ns, _, h => by
    simp only [List.map_cons, Rps, Rp] at h
    obtain ⟨v, vs, rfl, rfl, h3⟩ := h
    rw [Rps.bls h3]; rfl
theorem Rps.strs {K : PySem.W.Frag} {G : Hp} : ∀ {ns : List Str} {xs : List V}, Rps K G (ns.map D.str) xs → xs = ns.map V.str
  | [], _, h => by simpa only [List.map_nil, Rps] using h
  | n :: ns, _, h => by
    simp only [List.map_cons, Rps, Rp] at h
    obtain ⟨v, vs, rfl, rfl, h3⟩ := h
    rw [Rps.strs h3]; rfl
theorem Rps.of_strs {K : PySem.W.Frag} {G : Hp} : ∀ (ns : List Str), Rps K G (ns.map D.str) (ns.map V.str)
  | [] => by simp only [List.map_nil, Rps]
  | n :: ns => by
    simp only [List.map_cons, Rps, Rp]
    exact ⟨_, _, rfl, rfl, Rps.of_strs ns⟩
theorem atI_rps {K : PySem.W.Frag} {G : Hp} {ds : List D} {xs : List V} {i : Int} {d : D} (h : Rps K G ds xs) (e : atI ds i = some d) : ∃ v, atI xs i = some v ∧ Rp K G d v := by
  unfold atI at e ⊢
  rw [h.length]
  cases q : ixN ds.length i with
  | none => rw [q] at e; cases e
  | some j =>
    rw [q] at e
    obtain ⟨v, h1, h2⟩ := h.get (i := j) e
    exact ⟨v, h1, h2⟩

section
variable {X : Cx} {m : Md} {N : List Str} {sc fs : Scope} {k : Nat} {env : Ev} {a b c e : Expr} {es : List Expr} {pos : Pos}
/-! ### arguments, displays -/
theorem as_nil : As X env [] [] := .mk fun H0 σ G H s E Q g => WA.of pa_nil (g [] G H (Ex2.refl s) (by simp only [Rps]))
theorem as_cons {d : D} {ds : List D} (ha : P X env e (.per d)) (hr : As X env es ds) (hs : ∀ en, starEach (e :: es) en = (false, eval e en) :: starEach es en := by intro _; rfl) : As X env (e :: es) (d :: ds) := .mk fun H0 σ G H s E Q g =>
  WA.of (pa_cons pWE pWA (hs _)) (ha.go s E fun v G1 H1 x1 r1 => hr.run H0 σ G1 H1 x1.s (E.later x1) _ fun vs G2 H2 x2 r2 => g _ G2 H2 (x1.trans x2) (by
    simp only [Rps]
    exact ⟨v, vs, rfl, r1.mono x2.g, r2⟩))
/-- what is known of every state: lists have their bound -/
theorem sz_list {pins : List (Addr × Obj)} {s : Shared} {σ : St} {H : Hp} {p : Addr} {xs : List V} (I : Inv X pins σ H s) (h : SqL X.K H p xs) : xs.length ≤ sizeLine := by
  obtain ⟨_, _, _, q⟩ := I.list h
  exact q
theorem p_tup {ds : List D} {x1 : Nat} (h : As X env es ds) (hz : ds.length ≤ 1000) : P X env (.Tuple es x1 pos) (.per (.tup ds)) := .mk fun H0 σ G H s E Q g =>
  WE.of (pe_tup pWA) (h.run H0 σ G H s E _ fun vs G1 H1 x1 r1 => ⟨by rw [r1.length]; exact Nat.le_trans hz (by decide), fun p hp => (g.trans x1).tup x1.s r1 hp⟩)
theorem p_lst {ds : List D} (h : As X env es ds) (hz : ds.length ≤ 1000) : P X env (.List es pos) (.lst (ds.map Ow.per)) := .mk fun H0 σ G H s E Q g =>
  WE.of (pe_lst pWA) (h.run H0 σ G H s E _ fun vs G1 H1 x1 r1 => ⟨by rw [r1.length]; exact Nat.le_trans hz (by decide), fun p hp => (g.trans x1).lst x1.s r1 hp⟩)
/-! ### built-ins -/
def bltB (x : Str) (id : String) : Bool := decide (bootBuiltins x = some (.builtin id)) && (decide (x ≠ "__name__") && !(x == ("__debug__" : Str)))
def bltT (x : Str) (id : String) : Bool := decide (bootBuiltins x = some (.type id)) && (decide (x ≠ "__name__") && !(x == ("__debug__" : Str)))
theorem p_callB (hX : Cs X m N sc fs k) {r : List V → Hp → VK → Prop} {x : Str} {id : String} {p : Pos} {ds : List D} {o : Ow} (hc : CallR X (.builtin id) r) (hg : gloB sc x = true) (hm : m.mg x = none) (hb : bltB x id = true) (ha : As X env (e :: es) ds)
    (hr : ∀ G H vs Q, Sub G H → Rps X.K G ds vs → Gv X.K G H o Q → r vs H Q)
    (he : ∀ en, starEach (e :: es) en = (false, eval e en) :: starEach es en := by intro _; rfl) (hpl : ∀ en, (backTo pos (starEach es en)).any (·.1) = false := by intro _; rfl) : P X env (.Call (.Name x p) (e :: es) [] pos) o := .mk fun H0 σ G H s E Q g => by
  obtain ⟨b1, b2⟩ := Bool.and_eq_true_iff.mp hb
  obtain ⟨b2, b3⟩ := Bool.and_eq_true_iff.mp b2
  refine WE.of (pe_callB hc (hX.gl hg) (by rw [hX.hM]; exact hm) (of_decide_eq_true b1) pWA (of_decide_eq_true b2) (by simpa using b3) (he _) (hpl _)) ?_
  exact ha.run H0 σ G H s E _ fun vs G1 H1 x1 r1 => hr G1 H1 vs Q x1.s r1 (g.trans x1)
theorem p_callT (hX : Cs X m N sc fs k) {r : List V → Hp → VK → Prop} {x : Str} {id : String} {p : Pos} {ds : List D} {o : Ow} (hc : CallR X (.type id) r) (hg : gloB sc x = true) (hm : m.mg x = none) (hb : bltT x id = true) (ha : As X env (e :: es) ds)
    (hr : ∀ G H vs Q, Sub G H → Rps X.K G ds vs → Gv X.K G H o Q → r vs H Q)
    (he : ∀ en, starEach (e :: es) en = (false, eval e en) :: starEach es en := by intro _; rfl) (hpl : ∀ en, (backTo pos (starEach es en)).any (·.1) = false := by intro _; rfl) : P X env (.Call (.Name x p) (e :: es) [] pos) o := .mk fun H0 σ G H s E Q g => by
  obtain ⟨b1, b2⟩ := Bool.and_eq_true_iff.mp hb
  obtain ⟨b2, b3⟩ := Bool.and_eq_true_iff.mp b2
  refine WE.of (pe_callTy hc (hX.gl hg) (by rw [hX.hM]; exact hm) (of_decide_eq_true b1) pWA (of_decide_eq_true b2) (by simpa using b3) (he _) (hpl _)) ?_
  exact ha.run H0 σ G H s E _ fun vs G1 H1 x1 r1 => hr G1 H1 vs Q x1.s r1 (g.trans x1)
theorem rps1 {K : PySem.W.Frag} {G : Hp} {d : D} {vs : List V} (h : Rps K G [d] vs) : ∃ v, vs = [v] ∧ Rp K G d v := by
  simp only [Rps] at h
  obtain ⟨v, _, rfl, h1, rfl⟩ := h
  exact ⟨v, rfl, h1⟩
theorem rps2 {K : PySem.W.Frag} {G : Hp} {d d' : D} {vs : List V} (h : Rps K G [d, d'] vs) : ∃ v v', vs = [v, v'] ∧ Rp K G d v ∧ Rp K G d' v' := by
  simp only [Rps] at h
  obtain ⟨v, _, rfl, h1, v', _, rfl, h2, rfl⟩ := h
  exact ⟨v, v', rfl, h1, h2⟩
/-- a type's name, as a value -/
theorem p_ty (hX : Cs X m N sc fs k) {x : Str} {id : String} {p : Pos} (hg : gloB sc x = true) (hm : m.mg x = none) (hb : bltT x id = true) : P X env (.Name x p) (.per (.ty id)) := .mk fun H0 σ G H s E Q g => by
  obtain ⟨b1, b2⟩ := Bool.and_eq_true_iff.mp hb
  obtain ⟨b2, b3⟩ := Bool.and_eq_true_iff.mp b2
  exact WE.of (pe_bltn (v := .ty id) (hX.gl hg) (by rw [hX.hM]; exact hm) (of_decide_eq_true b1) rfl (of_decide_eq_true b2) (by simpa using b3)) (g.val s (by simp only [Rp]))
theorem p_len (hX : Cs X m N sc fs k) {p : Pos} {d : D} {ds : List D} (i : IsS d ds) (hg : gloB sc "len" = true) (hm : m.mg "len" = none) (ha : P X env e (.per d)) (he : ∀ en, starEach [e] en = [(false, eval e en)] := by intro _; rfl) : P X env (.Call (.Name "len" p) [e] [] pos) (.per (.int ds.length)) :=
  p_callB hX call_len_seq hg hm (by decide +kernel) (as_cons ha as_nil he) (fun G H vs Q s r g => by
    obtain ⟨v, rfl, r1⟩ := rps1 r
    obtain ⟨a, xs, rfl, h2, h3⟩ := i.seq r1
    refine ⟨a, xs, rfl, ?_, ?_⟩
    · rcases h2 with h2 | h2
      · exact .inl (sub_sqL s h2)
      · exact .inr (sub_sqT s h2)
    · rw [h3.length]; exact g.val s (by simp only [Rp])) he
theorem p_lenS (hX : Cs X m N sc fs k) {p : Pos} {z : Str} (hz : z.length ≤ sizeLine) (hg : gloB sc "len" = true) (hm : m.mg "len" = none) (ha : P X env e (.per (.str z))) (he : ∀ en, starEach [e] en = [(false, eval e en)] := by intro _; rfl) : P X env (.Call (.Name "len" p) [e] [] pos) (.per (.int z.length)) :=
  p_callB hX call_len_str hg hm (by decide +kernel) (as_cons ha as_nil he) (fun G H vs Q s r g => by
    obtain ⟨v, rfl, r1⟩ := rps1 r
    simp only [Rp] at r1
    exact ⟨z, by rw [r1], hz, g.val s (by simp only [Rp])⟩) he
theorem p_sum (hX : Cs X m N sc fs k) {p : Pos} {d : D} {ns : List Int} (i : IsL d (ns.map D.int)) (hg : gloB sc "sum" = true) (hm : m.mg "sum" = none) (ha : P X env e (.per d)) (he : ∀ en, starEach [e] en = [(false, eval e en)] := by intro _; rfl) : P X env (.Call (.Name "sum" p) [e] [] pos) (.per (.int ns.sum)) :=
  p_callB hX (cr_sum hX.calm) hg hm (by decide +kernel) (as_cons ha as_nil he) (fun G H vs Q s r g => by
    obtain ⟨v, rfl, r1⟩ := rps1 r
    obtain ⟨a, xs, rfl, h2, h3⟩ := i.seq r1
    rw [h3.ints] at h2
    exact ⟨a, ns, rfl, sub_sqL s h2, g.val s (by simp only [Rp])⟩) he
theorem p_all (hX : Cs X m N sc fs k) {p : Pos} {d : D} {bs : List Bool} (i : IsL d (bs.map D.bl)) (hg : gloB sc "all" = true) (hm : m.mg "all" = none) (ha : P X env e (.per d)) (he : ∀ en, starEach [e] en = [(false, eval e en)] := by intro _; rfl) : P X env (.Call (.Name "all" p) [e] [] pos) (.per (.bl (bs.all id))) :=
  p_callB hX (cr_all hX.calm) hg hm (by decide +kernel) (as_cons ha as_nil he) (fun G H vs Q s r g => by
    obtain ⟨v, rfl, r1⟩ := rps1 r
    obtain ⟨a, xs, rfl, h2, h3⟩ := i.seq r1
    rw [h3.bls] at h2
    exact ⟨a, bs, rfl, sub_sqL s h2, g.val s (by simp only [Rp])⟩) he
theorem p_any (hX : Cs X m N sc fs k) {p : Pos} {d : D} {bs : List Bool} (i : IsL d (bs.map D.bl)) (hg : gloB sc "any" = true) (hm : m.mg "any" = none) (ha : P X env e (.per d)) (he : ∀ en, starEach [e] en = [(false, eval e en)] := by intro _; rfl) : P X env (.Call (.Name "any" p) [e] [] pos) (.per (.bl (bs.any id))) :=
  p_callB hX (cr_any hX.calm) hg hm (by decide +kernel) (as_cons ha as_nil he) (fun G H vs Q s r g => by
    obtain ⟨v, rfl, r1⟩ := rps1 r
    obtain ⟨a, xs, rfl, h2, h3⟩ := i.seq r1
    rw [h3.bls] at h2
    exact ⟨a, bs, rfl, sub_sqL s h2, g.val s (by simp only [Rp])⟩) he
theorem p_min2 (hX : Cs X m N sc fs k) {p : Pos} {i j : Int} (hg : gloB sc "min" = true) (hm : m.mg "min" = none) (ha : P X env a (.per (.int i))) (hb : P X env b (.per (.int j)))
    (he : ∀ en, starEach [a, b] en = [(false, eval a en), (false, eval b en)] := by intro _; rfl) (he2 : ∀ en, starEach [b] en = [(false, eval b en)] := by intro _; rfl) : P X env (.Call (.Name "min" p) [a, b] [] pos) (.per (.int (if j < i then j else i))) :=
  p_callB hX (call_min2 hX.calm) hg hm (by decide +kernel) (as_cons ha (as_cons hb as_nil he2) (fun en => by rw [he, he2])) (fun G H vs Q s r g => by
    obtain ⟨v, v', rfl, r1, r2⟩ := rps2 r
    simp only [Rp] at r1 r2
    exact ⟨i, j, by rw [r1, r2], g.val s (by simp only [Rp])⟩) (fun en => by rw [he, he2]) (fun en => by rw [he2]; rfl)
theorem p_max2 (hX : Cs X m N sc fs k) {p : Pos} {i j : Int} (hg : gloB sc "max" = true) (hm : m.mg "max" = none) (ha : P X env a (.per (.int i))) (hb : P X env b (.per (.int j)))
    (he : ∀ en, starEach [a, b] en = [(false, eval a en), (false, eval b en)] := by intro _; rfl) (he2 : ∀ en, starEach [b] en = [(false, eval b en)] := by intro _; rfl) : P X env (.Call (.Name "max" p) [a, b] [] pos) (.per (.int (if j > i then j else i))) :=
  p_callB hX (call_max2 hX.calm) hg hm (by decide +kernel) (as_cons ha (as_cons hb as_nil he2) (fun en => by rw [he, he2])) (fun G H vs Q s r g => by
    obtain ⟨v, v', rfl, r1, r2⟩ := rps2 r
    simp only [Rp] at r1 r2
    exact ⟨i, j, by rw [r1, r2], g.val s (by simp only [Rp])⟩) (fun en => by rw [he, he2]) (fun en => by rw [he2]; rfl)
theorem p_intB (hX : Cs X m N sc fs k) {p : Pos} {q : Bool} (hg : gloB sc "int" = true) (hm : m.mg "int" = none) (ha : P X env e (.per (.bl q))) (he : ∀ en, starEach [e] en = [(false, eval e en)] := by intro _; rfl) : P X env (.Call (.Name "int" p) [e] [] pos) (.per (.int (if q then 1 else 0))) :=
  p_callT hX call_int1 hg hm (by decide +kernel) (as_cons ha as_nil he) (fun G H vs Q s r g => by
    obtain ⟨v, rfl, r1⟩ := rps1 r
    simp only [Rp] at r1
    exact .inr ⟨q, by rw [r1], g.val s (by simp only [Rp])⟩) he
theorem p_intS (hX : Cs X m N sc fs k) {p : Pos} {z : Str} {n : Int} (hn : PySem.intText? z = some n) (hz : z.length ≤ 640) (hg : gloB sc "int" = true) (hm : m.mg "int" = none) (ha : P X env e (.per (.str z))) (he : ∀ en, starEach [e] en = [(false, eval e en)] := by intro _; rfl) : P X env (.Call (.Name "int" p) [e] [] pos) (.per (.int n)) :=
  p_callT hX call_int_str hg hm (by decide +kernel) (as_cons ha as_nil he) (fun G H vs Q s r g => by
    obtain ⟨v, rfl, r1⟩ := rps1 r
    simp only [Rp] at r1
    exact ⟨z, n, by rw [r1], hn, hz, g.val s (by simp only [Rp])⟩) he
theorem p_strI (hX : Cs X m N sc fs k) {p : Pos} {i : Int} (hi : i.natAbs.log2 < 1920) (hg : gloB sc "str" = true) (hm : m.mg "str" = none) (ha : P X env e (.per (.int i))) (he : ∀ en, starEach [e] en = [(false, eval e en)] := by intro _; rfl) : P X env (.Call (.Name "str" p) [e] [] pos) (.per (.str (toString i))) :=
  p_callT hX call_str_int hg hm (by decide +kernel) (as_cons ha as_nil he) (fun G H vs Q s r g => by
    obtain ⟨v, rfl, r1⟩ := rps1 r
    simp only [Rp] at r1
    exact ⟨i, by rw [r1], hi, g.val s (by simp only [Rp])⟩) he
theorem p_list (hX : Cs X m N sc fs k) {p : Pos} {d : D} {ds : List D} (i : IsS d ds) (hg : gloB sc "list" = true) (hm : m.mg "list" = none) (ha : P X env e (.per d)) (he : ∀ en, starEach [e] en = [(false, eval e en)] := by intro _; rfl) : P X env (.Call (.Name "list" p) [e] [] pos) (.lst (ds.map Ow.per)) :=
  p_callT hX call_list_of hg hm (by decide +kernel) (as_cons ha as_nil he) (fun G H vs Q s r g => by
    obtain ⟨v, rfl, r1⟩ := rps1 r
    obtain ⟨a, xs, rfl, h2, h3⟩ := i.seq r1
    refine ⟨a, xs, rfl, ?_, fun l hl => g.lst s h3 hl⟩
    rcases h2 with h2 | h2
    · exact .inl (sub_sqL s h2)
    · exact .inr (sub_sqT s h2)) he
theorem p_tupleL (hX : Cs X m N sc fs k) {p : Pos} {d : D} {ds : List D} (i : IsL d ds) (hg : gloB sc "tuple" = true) (hm : m.mg "tuple" = none) (ha : P X env e (.per d)) (he : ∀ en, starEach [e] en = [(false, eval e en)] := by intro _; rfl) : P X env (.Call (.Name "tuple" p) [e] [] pos) (.per (.tup ds)) :=
  p_callT hX call_tuple_of hg hm (by decide +kernel) (as_cons ha as_nil he) (fun G H vs Q s r g => by
    obtain ⟨v, rfl, r1⟩ := rps1 r
    obtain ⟨a, xs, rfl, h2, h3⟩ := i.seq r1
    exact ⟨a, xs, rfl, .inl ⟨sub_sqL s h2, fun l hl => g.tup s h3 hl⟩⟩) he
/-! ### isinstance -/
def tyN : D → Option String
  | .non => some "NoneType" | .bl _ => some "bool" | .int _ => some "int" | .str _ => some "str" | .lst _ => some "list" | .fz _ => some "list" | .tup _ => some "tuple" | .dK _ _ => some "dict" | .dT _ _ => some "dict" | _ => none
theorem tyX_of {K : PySem.W.Frag} {G H : Hp} {d : D} {v : V} {n : String} (s : Sub G H) (h : Rp K G d v) (e : tyN d = some n) : TyX K H v (.type n) := by
  cases d with
  | non => simp only [Rp] at h; cases e; subst h; exact .base .non
  | bl b => simp only [Rp] at h; cases e; subst h; exact .base (.bl b)
  | int b => simp only [Rp] at h; cases e; subst h; exact .base (.int b)
  | str b => simp only [Rp] at h; cases e; subst h; exact .base (.str b)
  | lst ds =>
    simp only [Rp] at h; cases e
    obtain ⟨a, xs, rfl, h2, h3⟩ := h
    exact .base (.lst (s _ _ h2))
  | fz ds =>
    simp only [Rp] at h; cases e
    obtain ⟨a, xs, rfl, h2, h3⟩ := h
    rcases h2 with (h2 | ⟨o, h2⟩) | ⟨o, its, nn, h2, hc, _⟩
    · exact .base (.lst (s _ _ h2))
    · exact .base (.frz (s _ _ h2))
    · exact .kList h2 hc
  | tup ds =>
    simp only [Rp] at h; cases e
    obtain ⟨a, xs, rfl, h2, h3⟩ := h
    rcases h2 with (h2 | ⟨o, h2⟩) | ⟨o, its, nn, h2, hc, _⟩
    · exact .base (.tup (s _ _ h2))
    · exact .fTuple (s _ _ h2)
    · exact .kTuple h2 hc
  | dK ks ds =>
    simp only [Rp] at h; cases e
    obtain ⟨a, xs, rfl, h2, h4, h3⟩ := h
    rcases h2 with h2 | ⟨o, h2⟩
    · exact .base (.dK (s _ _ h2))
    · exact .fDict (s _ _ h2)
  | dT ks ds =>
    simp only [Rp] at h; cases e
    obtain ⟨a, xs, rfl, h2, h4, h3⟩ := h
    exact .base (.dT (s _ _ h2))
  | _ => cases e
theorem p_isi (hX : Cs X m N sc fs k) {p : Pos} {d : D} {t n : String} {q : Bool} (ht : tyN d = some t) (hk : kitB t n = some q) (hg : gloB sc "isinstance" = true) (hm : m.mg "isinstance" = none) (ha : P X env a (.per d)) (hb : P X env b (.per (.ty n)))
    (he : ∀ en, starEach [a, b] en = [(false, eval a en), (false, eval b en)] := by intro _; rfl) (he2 : ∀ en, starEach [b] en = [(false, eval b en)] := by intro _; rfl) : P X env (.Call (.Name "isinstance" p) [a, b] [] pos) (.per (.bl q)) :=
  p_callB hX call_isi hg hm (by decide +kernel) (as_cons ha (as_cons hb as_nil he2) (fun en => by rw [he, he2])) (fun G H vs Q s r g => by
    obtain ⟨v, v', rfl, r1, r2⟩ := rps2 r
    have ty := tyX_of s r1 ht
    simp only [Rp] at r2
    subst r2
    exact ⟨v, .ty n, .type t, .type n, q, rfl, .ty n, ty, kit_ty hk, g.val s (by simp only [Rp])⟩) (fun en => by rw [he, he2]) (fun en => by rw [he2]; rfl)
/-! ### subscripts -/
theorem p_ixL {d : D} {ds : List D} {i : Int} {r : D} (hl : IsL d ds) (hr : atI ds i = some r) (ha : P X env a (.per d)) (hb : P X env b (.per (.int i))) (hs : PlainIx b := by intro _ _; rfl) : P X env (.Subscript a b pos) (.per r) := .mk fun H0 σ G H s E Q g =>
  WE.of (pe_ix ix_list pWE pWE hs) (ha.go s E fun x G1 H1 x1 r1 => hb.go x1.s (E.later x1) fun y G2 H2 x2 r2 => by
    obtain ⟨p, xs, rfl, h2, h3⟩ := hl.seq (r1.mono x2.g)
    obtain ⟨v, h4, h5⟩ := atI_rps h3 hr
    simp only [Rp] at r2
    exact ⟨p, xs, i, v, rfl, r2, sub_sqL x2.s h2, h4, (g.trans (x1.trans x2)).val x2.s h5⟩)
theorem p_ixT {ds : List D} {i : Int} {r : D} (hr : atI ds i = some r) (ha : P X env a (.per (.tup ds))) (hb : P X env b (.per (.int i))) (hs : PlainIx b := by intro _ _; rfl) : P X env (.Subscript a b pos) (.per r) := .mk fun H0 σ G H s E Q g =>
  WE.of (pe_ix ix_tup pWE pWE hs) (ha.go s E fun x G1 H1 x1 r1 => hb.go x1.s (E.later x1) fun y G2 H2 x2 r2 => by
    have r1' := r1.mono x2.g
    simp only [Rp] at r1' r2
    obtain ⟨p, xs, rfl, h2, h3⟩ := r1'
    obtain ⟨v, h4, h5⟩ := atI_rps h3 hr
    exact ⟨p, xs, i, v, rfl, r2, sub_sqT x2.s h2, h4, (g.trans (x1.trans x2)).val x2.s h5⟩)
theorem p_ixS {z : Str} {i : Int} {c' : Nat} (hz : z.length ≤ sizeLine) (hr : atI z.cps.toList i = some c') (ha : P X env a (.per (.str z))) (hb : P X env b (.per (.int i))) (hs : PlainIx b := by intro _ _; rfl) : P X env (.Subscript a b pos) (.per (.str ⟨#[c']⟩)) := .mk fun H0 σ G H s E Q g =>
  WE.of (pe_ix ix_str pWE pWE hs) (ha.go s E fun x G1 H1 x1 r1 => hb.go x1.s (E.later x1) fun y G2 H2 x2 r2 => by
    simp only [Rp] at r1 r2
    exact ⟨z, i, c', r1, r2, hz, hr, (g.trans (x1.trans x2)).val x2.s (by simp only [Rp])⟩)
/-- a part of a slice -/
def Pt (X : Cx) (env : Ev) : Option Expr → Option Int → Prop
  | none, none => True
  | some e, some i => P X env e (.per (.int i))
  | _, _ => False
def WO (X : Cx) : Option Expr → TO
  | none => tNoPart
  | some e => tPart (WE X e)
theorem pWO : ∀ {o : Option Expr}, PO X o (WO X o)
  | none => po_none
  | some e => po_some pWE
theorem Pt.go {H0 : Hp} {σ : St} {G H : Hp} {Q : Option Int → Hp → Prop} (s : Sub G H) (E : En X.K H0 G H σ env) : ∀ {o : Option Expr} {i : Option Int}, Pt X env o i → (∀ G' H', Ex2 G H G' H' → Q i H') → WO X o σ H Q
  | none, none, _, k => k G H (Ex2.refl s)
  | some e, some i, h, k => P.go h s E fun v G' H' x r => by
    simp only [Rp] at r
    exact ⟨i, r, k G' H' x⟩
  | none, some _, h, _ => h.elim
  | some _, none, h, _ => h.elim
def cutD (ds : List D) (lo hi : Option Int) : List D := (ds.drop (HT.sIx ds.length 0 lo)).take (HT.sIx ds.length ds.length hi - HT.sIx ds.length 0 lo)
theorem cut_rps {K : PySem.W.Frag} {G : Hp} {ds : List D} {xs : List V} {lo hi : Option Int} (h : Rps K G ds xs) : Rps K G (cutD ds lo hi) (cutV xs lo hi) := by
  unfold cutD cutV
  rw [h.length]
  exact (h.drop _).take _
theorem p_slL {d : D} {ds : List D} {lo hi : Option Expr} {i j : Option Int} {p2 : Pos} (hl : IsL d ds) (ha : P X env a (.per d)) (h1 : Pt X env lo i) (h2 : Pt X env hi j) : P X env (.Subscript a (.Slice lo hi none p2) pos) (.lst ((cutD ds i j).map Ow.per)) := .mk fun H0 σ G H s E Q g =>
  WE.of (pe_slice sl_list pWE pWO pWO) (ha.go s E fun x G1 H1 x1 r1 => h1.go x1.s (E.later x1) fun G2 H2 x2 => h2.go x2.s (E.later (x1.trans x2)) fun G3 H3 x3 => by
    obtain ⟨p, xs, rfl, h4, h5⟩ := hl.seq (r1.mono (x2.trans x3).g)
    exact ⟨p, xs, rfl, sub_sqL x3.s h4, fun q hq => ((g.trans (x1.trans (x2.trans x3)))).lst x3.s (cut_rps h5) hq⟩)
theorem p_slS {z : Str} {lo hi : Option Expr} {i j : Option Int} {p2 : Pos} (hz : z.length ≤ sizeLine) (ha : P X env a (.per (.str z))) (h1 : Pt X env lo i) (h2 : Pt X env hi j) : P X env (.Subscript a (.Slice lo hi none p2) pos) (.per (.str (cutS z i j))) := .mk fun H0 σ G H s E Q g =>
  WE.of (pe_slice sl_str pWE pWO pWO) (ha.go s E fun x G1 H1 x1 r1 => h1.go x1.s (E.later x1) fun G2 H2 x2 => h2.go x2.s (E.later (x1.trans x2)) fun G3 H3 x3 => by
    simp only [Rp] at r1
    exact ⟨z, r1, hz, ((g.trans (x1.trans (x2.trans x3)))).val x3.s (by simp only [Rp])⟩)
/-! ### lists, texts put together -/
theorem p_cat {ds es' : List D} (hz : ds.length + es'.length ≤ sizeLine) (ha : P X env a (.per (.lst ds))) (hb : P X env b (.per (.lst es'))) : P X env (.BinOp a .Add b pos) (.lst ((ds ++ es').map Ow.per)) :=
  p_op op_cat ha hb fun G H x y Q s h1 h2 g => by
    simp only [Rp] at h1 h2
    obtain ⟨p, xs, rfl, h3, h4⟩ := h1
    obtain ⟨q, ys, rfl, h5, h6⟩ := h2
    exact ⟨p, q, xs, ys, rfl, rfl, s _ _ h3, s _ _ h5, by rw [h4.length, h6.length]; exact hz, fun r hr => g.lst s (h4.append h6) hr⟩
theorem p_addS {x y : Str} (hz : x.length + y.length ≤ sizeLine) (ha : P X env a (.per (.str x))) (hb : P X env b (.per (.str y))) : P X env (.BinOp a .Add b pos) (.per (.str (x ++ y))) :=
  p_op op_add_str ha hb fun G H v w Q s h1 h2 g => by
    simp only [Rp] at h1 h2
    exact ⟨x, y, h1, h2, hz, g.val s (by simp only [Rp])⟩
theorem Rps.rep {K : PySem.W.Frag} {G : Hp} {ds : List D} {xs : List V} (h : Rps K G ds xs) : ∀ n : Nat, Rps K G (List.replicate n ds).flatten (List.replicate n xs).flatten
  | 0 => by simp only [List.replicate_zero, List.flatten_nil, Rps]
  | n + 1 => by
    simp only [List.replicate_succ, List.flatten_cons]
    exact h.append (Rps.rep h n)
/-! ### is None, in -/
theorem p_isN {d : D} {q : Bool} {j : Nat} {p' : Pos} (hq : q = match d with | .non => true | _ => false) (ha : P X env a (.per d)) : P X env (.Compare a [.Is] [.Constant .none j p'] pos) (.per (.bl q)) :=
  p_cmp op_isN ha p_non (fun G H x y Q s h1 h2 g => by
    simp only [Rp] at h2
    refine ⟨h2, ?_⟩
    have e : decide (x = V.non) = q := by
      rw [hq]
      cases d <;> (try simp only [Rp] at h1) <;> (try (subst h1; rfl)) <;> (obtain ⟨_, h1⟩ := h1; first | (obtain ⟨_, rfl, _⟩ := h1; rfl) | (obtain ⟨_, _, rfl, _⟩ := h1; rfl))
    rw [e]
    exact g.val s (by simp only [Rp])) (nomark _)
theorem p_notN {d : D} {q : Bool} {j : Nat} {p' : Pos} (hq : q = match d with | .non => false | _ => true) (ha : P X env a (.per d)) : P X env (.Compare a [.IsNot] [.Constant .none j p'] pos) (.per (.bl q)) :=
  p_cmp op_notN ha p_non (fun G H x y Q s h1 h2 g => by
    simp only [Rp] at h2
    refine ⟨h2, ?_⟩
    have e : (!decide (x = V.non)) = q := by
      rw [hq]
      cases d <;> (try simp only [Rp] at h1) <;> (try (subst h1; rfl)) <;> (obtain ⟨_, h1⟩ := h1; first | (obtain ⟨_, rfl, _⟩ := h1; rfl) | (obtain ⟨_, _, rfl, _⟩ := h1; rfl))
    rw [e]
    exact g.val s (by simp only [Rp])) (nomark _)
/-- one sign in a text -/
theorem p_inSign {c' : Nat} {z : Str} (ha : P X env a (.per (.str ⟨#[c']⟩))) (hb : P X env b (.per (.str z))) (hm : behindInMarks .In b = false := by rfl) : P X env (.Compare a [.In] [b] pos) (.per (.bl (decide (c' ∈ z.cps.toList)))) :=
  p_cmp op_in_sign ha hb (fun G H x y Q s h1 h2 g => by
    simp only [Rp] at h1 h2
    exact ⟨c', z, h1, h2, g.val s (by simp only [Rp])⟩) hm
theorem p_notInSign {c' : Nat} {z : Str} (ha : P X env a (.per (.str ⟨#[c']⟩))) (hb : P X env b (.per (.str z))) (hm : behindInMarks .NotIn b = false := by rfl) : P X env (.Compare a [.NotIn] [b] pos) (.per (.bl (!decide (c' ∈ z.cps.toList)))) :=
  p_cmp op_notIn_sign ha hb (fun G H x y Q s h1 h2 g => by
    simp only [Rp] at h1 h2
    exact ⟨c', z, h1, h2, g.val s (by simp only [Rp])⟩) hm
/-! ### and, or, not, if else -/
theorem p_not {q : Bool} (ha : P X env a (.per (.bl q))) : P X env (.UnaryOp .Not a pos) (.per (.bl (!q))) := .mk fun H0 σ G H s E Q g =>
  WE.of (pe_not pWE) (ha.go s E fun x G1 H1 x1 r1 => by
    simp only [Rp] at r1
    exact ⟨q, r1, (g.trans x1).val x1.s (by simp only [Rp])⟩)
theorem p_one {op : BoolOp} {o : Ow} (ha : P X env a o) : P X env (.BoolOp op [a] pos) o := .mk fun H0 σ G H s E Q g => WE.of (pe_one pWE) (ha.run H0 σ G H s E Q g)
theorem p_and {q r : Bool} (ha : P X env a (.per (.bl q))) (hb : q = true → P X env (.BoolOp .And (b :: es) pos) (.per (.bl r))) : P X env (.BoolOp .And (a :: b :: es) pos) (.per (.bl (q && r))) := .mk fun H0 σ G H s E Q g =>
  WE.of (pe_and pWE pWE) (ha.go s E fun x G1 H1 x1 r1 => by
    simp only [Rp] at r1
    refine ⟨q, r1, ?_⟩
    cases q with
    | true => exact iteT ((hb rfl).run H0 σ G1 H1 x1.s (E.later x1) Q (by simpa using g.trans x1))
    | false => exact iteF ((g.trans x1).val x1.s (by simp [Rp])))
theorem p_or {q r : Bool} (ha : P X env a (.per (.bl q))) (hb : q = false → P X env (.BoolOp .Or (b :: es) pos) (.per (.bl r))) : P X env (.BoolOp .Or (a :: b :: es) pos) (.per (.bl (q || r))) := .mk fun H0 σ G H s E Q g =>
  WE.of (pe_or pWE pWE) (ha.go s E fun x G1 H1 x1 r1 => by
    simp only [Rp] at r1
    refine ⟨q, r1, ?_⟩
    cases q with
    | false => exact iteF ((hb rfl).run H0 σ G1 H1 x1.s (E.later x1) Q (by simpa using g.trans x1))
    | true => exact iteT ((g.trans x1).val x1.s (by simp [Rp])))
/-- .. of whatever the right one is worth, by the left one -/
theorem p_andO {o : Ow} {q : Bool} (ha : P X env a (.per (.bl q))) (h1 : q = true → P X env (.BoolOp .And (b :: es) pos) o) (h2 : q = false → o = .per (.bl false)) : P X env (.BoolOp .And (a :: b :: es) pos) o := .mk fun H0 σ G H s E Q g =>
  WE.of (pe_and pWE pWE) (ha.go s E fun x G1 H1 x1 r1 => by
    simp only [Rp] at r1
    refine ⟨q, r1, ?_⟩
    cases q with
    | true => exact iteT ((h1 rfl).run H0 σ G1 H1 x1.s (E.later x1) Q (g.trans x1))
    | false =>
      have g' := g.trans x1
      rw [h2 rfl] at g'
      exact iteF (g'.val x1.s (by simp only [Rp])))
theorem p_if {q : Bool} {o : Ow} (hc : T X env c q) (ha : q = true → P X env a o) (hb : q = false → P X env b o) : P X env (.IfExp c a b pos) o := .mk fun H0 σ G H s E Q g =>
  WE.of (pe_ifExp pWT pWE pWE) (hc.run H0 σ G H s E _ fun G1 H1 x1 => by
    cases q with
    | true => exact iteT ((ha rfl).run H0 σ G1 H1 x1.s (E.later x1) Q (g.trans x1))
    | false => exact iteF ((hb rfl).run H0 σ G1 H1 x1.s (E.later x1) Q (g.trans x1)))
/-! ### tests -/
theorem t_val {q : Bool} (h : P X env e (.per (.bl q))) (he : ∀ en whole, isTrue e en whole = (do let v ← whole; standAt e.pos; holding [v] (truthy v)) := by intro _ _; rfl) : T X env e q := .mk fun H0 σ G H s E Q g =>
  WT.of (pt_val pWE (he _)) (h.go s E fun x G1 H1 x1 r1 => by
    simp only [Rp] at r1
    exact ⟨q, r1, g G1 H1 x1⟩)
theorem t_not {q : Bool} (h : T X env e q) : T X env (.UnaryOp .Not e pos) (!q) := .mk fun H0 σ G H s E Q g => WT.of (pt_not pWT) (h.run H0 σ G H s E _ fun G1 H1 x1 => g G1 H1 x1)
/-- and, or: whatever the whole -/
structure TW (X : Cx) (env : Ev) (e : Expr) (b : Bool) : Prop where
  run : ∀ (H0 : Hp) (σ : St) (G H : Hp), Sub G H → En X.K H0 G H σ env → ∀ Q : Bool → Hp → Prop,
  (∀ G' H', Ex2 G H G' H' → Q b H') → ∀ (whole : Sem Value) (pins : List (Addr × Obj)) (s : Shared), Inv X pins σ H s → wpAny (model X.prog X.w) X.A (isTrue e X.env whole) (TP X pins σ Q) X.xe s
def WW (X : Cx) (e : Expr) : TT := fun σ H Q => ∀ (whole : Sem Value) (pins : List (Addr × Obj)) (s : Shared), Inv X pins σ H s → wpAny (model X.prog X.w) X.A (isTrue e X.env whole) (TP X pins σ Q) X.xe s
theorem pWW : PW X e (WW X e) := ⟨fun wh pins s _ _ _ I h => h wh pins s I⟩
theorem TW.t {q : Bool} (h : TW X env e q) : T X env e q := .mk fun H0 σ G H s E Q g pins sh I => h.run H0 σ G H s E Q g _ pins sh I
theorem tw_and1 {q : Bool} (h : T X env a q) : TW X env (.BoolOp .And [a] pos) q := .mk fun H0 σ G H s E Q g wh pins sh I => (pw_and1 pWT).run wh pins sh σ H Q I (h.run H0 σ G H s E Q g)
theorem tw_or1 {q : Bool} (h : T X env a q) : TW X env (.BoolOp .Or [a] pos) q := .mk fun H0 σ G H s E Q g wh pins sh I => (pw_or1 pWT).run wh pins sh σ H Q I (h.run H0 σ G H s E Q g)
theorem tw_and {q r : Bool} (ha : T X env a q) (hb : q = true → TW X env (.BoolOp .And (b :: es) pos) r) : TW X env (.BoolOp .And (a :: b :: es) pos) (q && r) := .mk fun H0 σ G H s E Q g wh pins sh I =>
  (pw_and pWT pWW).run wh pins sh σ H Q I (ha.run H0 σ G H s E _ fun G1 H1 x1 => by
    cases q with
    | true => exact iteT ((hb rfl).run H0 σ G1 H1 x1.s (E.later x1) Q fun G2 H2 x2 => g G2 H2 (x1.trans x2))
    | false => exact iteF (g G1 H1 x1))
theorem tw_or {q r : Bool} (ha : T X env a q) (hb : q = false → TW X env (.BoolOp .Or (b :: es) pos) r) : TW X env (.BoolOp .Or (a :: b :: es) pos) (q || r) := .mk fun H0 σ G H s E Q g wh pins sh I =>
  (pw_or pWT pWW).run wh pins sh σ H Q I (ha.run H0 σ G H s E _ fun G1 H1 x1 => by
    cases q with
    | false => exact iteF ((hb rfl).run H0 σ G1 H1 x1.s (E.later x1) Q fun G2 H2 x2 => g G2 H2 (x1.trans x2))
    | true => exact iteT (g G1 H1 x1))
end
end Pu

set_option Elab.async false
set_option linter.all false
set_option autoImplicit false
set_option maxRecDepth 100000
set_option maxHeartbeats 1000000
namespace Pu
open PySem L2
/-! ### targets -/
def WG (X : Cx) (tg : Expr) : TG := fun v σ H Q => ∀ (pins : List (Addr × Obj)) (s : Shared) (u : Value), Inv X pins σ H s → RelV v u →
    wpAny (model X.prog X.w) X.A (assign tg X.env u) (fun _ s' => ∃ σ' H', Inv X pins σ' H' s' ∧ Q σ' H') X.xe s
theorem pWG {X : Cx} {tg : Expr} : PG X tg (WG X tg) := ⟨fun pins s _ _ _ u _ I r h => h pins s u I r⟩
theorem WG.of {X : Cx} {tg : Expr} {t : TG} {v : V} {σ : St} {H : Hp} {Q : St → Hp → Prop} (h : PG X tg t) (k : t v σ H Q) : WG X tg v σ H Q := fun pins s u I r => h.run pins s σ H v u Q I r k
/-- only the slots js were set -/
def Wp (js : List Nat) (σ σ' : St) : Prop := ∀ vs : List Nat, (∀ j ∈ js, j ∈ vs) → wipe σ' vs = wipe σ vs
theorem wipe_set {σ : St} {j : Nat} {s : Option V} : ∀ {vs : List Nat}, j ∈ vs → wipe (σ.set j s) vs = wipe σ vs
  | [], h => by cases h
  | v :: vs, h => by
    by_cases e : j ∈ vs
    · simp only [wipe, wipe_set e]
    · have e2 : j = v := by
        rcases List.mem_cons.mp h with q | q
        · exact q
        · exact absurd q e
      subst e2
      simp only [wipe]
      have : ∀ (vs : List Nat) (τ : St), (wipe (τ.set j s) vs).set j none = (wipe τ vs).set j none := by
        intro vs
        induction vs with
        | nil => intro τ; simp [wipe]
        | cons w ws ih =>
          intro τ
          simp only [wipe]
          by_cases q : w = j
          · subst q; rw [ih]
          · rw [List.set_comm none none q, ih, List.set_comm none none (Ne.symm q)]
      exact this vs σ
/-- data given to a target -/
structure Tg (X : Cx) (env : Ev) (tg : Expr) (d : D) (env' : Ev) (js : List Nat) : Prop where
  run : ∀ (H0 G H : Hp) (σ : St) (v : V) (Q : St → Hp → Prop), Sub G H → En X.K H0 G H σ env → Rp X.K G d v →
  (∀ σ', En X.K H0 G H σ' env' → Wp js σ σ' → Q σ' H) → WG X tg v σ H Q
structure Tgs (X : Cx) (env : Ev) (tgs : List Expr) (ds : List D) (env' : Ev) (js : List Nat) : Prop where
  run : ∀ (H0 G H : Hp) (σ : St) (vs : List V) (Q : St → Hp → Prop), Sub G H → En X.K H0 G H σ env → Rps X.K G ds vs →
  (∀ σ', En X.K H0 G H σ' env' → Wp js σ σ' → Q σ' H) → ∃ t : TGs, PGs X tgs t ∧ t vs σ H Q
section
variable {X : Cx} {m : Md} {N : List Str} {sc fs : Scope} {k : Nat} {env env' env'' : Ev} {a b c e tg iter elt : Expr} {es tgs : List Expr} {pos : Pos}
theorem en_per {K : PySem.W.Frag} {H0 G H : Hp} {σ : St} {i : Nat} {d : D} {v : V} (E : En K H0 G H σ env) (hi : i < env.length) (r : Rp K G d v) : En K H0 G H (σ.set i (some v)) (env.set i (some (.per d))) :=
  E.set (f := []) hi (by simp only [RO]; exact ⟨trivial, r⟩) List.nodup_nil (fun a ha => by cases ha) (fun _ _ a ha => by cases ha)
theorem tg_name (hX : Cs X m N sc fs k) {i : Nat} {x : Str} {d : D} (hi : Ix N i x) (hl : locB sc fs x = true) (hn : i < env.length) : Tg X env (.Name x pos) d (env.set i (some (.per d))) [i] := .mk fun H0 G H σ v Q s E r kk =>
  WG.of (pg_name (i := i) (by rw [hX.hN]; exact hX.nd) (by rw [hX.hN]; exact hi.at_) (hX.loc hl) (hX.hf hl)) (kk _ (en_per E hn r) fun vs h => wipe_set (h i (List.mem_singleton.mpr rfl)))
theorem tgs_nil : Tgs X env [] [] env [] := .mk fun H0 G H σ vs Q s E r kk => ⟨gNil, pgs_nil, by
  simp only [Rps] at r
  exact ⟨r, kk σ E fun _ _ => rfl⟩⟩
theorem tgs_cons {d : D} {ds : List D} {js js' : List Nat} (h1 : Tg X env tg d env' js) (h2 : Tgs X env' tgs ds env'' js')
    (hs : ∀ en, (assignEach (tg :: tgs) en).map (·.2) = assign tg en :: (assignEach tgs en).map (·.2) := by intro _; rfl) : Tgs X env (tg :: tgs) (d :: ds) env'' (js ++ js') := by
  refine .mk fun H0 G H σ vs Q s E r kk => ?_
  simp only [Rps] at r
  obtain ⟨v, vr, rfl, r1, r2⟩ := r
  refine ⟨gCons (WG X tg) (fun us σ' H' Q' => ∃ t : TGs, PGs X tgs t ∧ t us σ' H' Q'), ?_, v, vr, rfl, ?_⟩
  · exact pgs_cons pWG ⟨fun pins s σ H vs us Q I rv ⟨t, ht, hq⟩ => ht.run pins s σ H vs us Q I rv hq⟩ (hs _)
  · refine h1.run H0 G H σ v _ s E r1 fun σ' E' w1 => ?_
    exact h2.run H0 G H σ' vr Q s E' r2 fun σ'' E'' w2 => kk σ'' E'' fun us hu => (w2 us fun j hj => hu j (List.mem_append_right _ hj)).trans (w1 us fun j hj => hu j (List.mem_append_left _ hj))
theorem tg_tup (hX : Cs X m N sc fs k) {ds : List D} {js : List Nat} {kk : Nat} (h : Tgs X env tgs ds env' js) (hn : ∀ en, (assignEach tgs en).length = ds.length := by intro _; rfl) (hst : ∀ en, (assignEach tgs en).findIdx? (·.1) = none := by intro _; rfl) :
    Tg X env (.Tuple tgs kk pos) (.tup ds) env' js := .mk fun H0 G H σ v Q s E r go => by
  simp only [Rp] at r
  obtain ⟨p, xs, rfl, h2, h3⟩ := r
  obtain ⟨t, ht, hq⟩ := h.run H0 G H σ xs Q s E h3 go
  exact WG.of (pg_tup hX.calm ht (hn _) (hst _)) ⟨p, xs, rfl, sub_sqT s h2, h3.length, hq⟩

/-! ### what is walked -/
def WI (X : Cx) (tg iter : Expr) : TI := fun σ H R => ∀ (pins : List (Addr × Obj)) (s : Shared), Inv X pins σ H s →
    wpAny (model X.prog X.w) X.A (eval iter X.env) (fun v s1 => wpAny (model X.prog X.w) X.A (pyIter v) (PIE X pins σ tg R) X.xe s1) X.xe s
theorem pWI : PI X tg iter (WI X tg iter) := ⟨fun pins s _ _ _ I h => h pins s I⟩
theorem WI.of {wi : TI} {σ : St} {H : Hp} {R : It → Hp → Prop} (h : PI X tg iter wi) (kk : wi σ H R) : WI X tg iter σ H R := fun pins s I => h.run pins s σ H R I kk
/-- J goes through ds, as long as what lasts in G lasts -/
def Walks (K : PySem.W.Frag) (J : It) (G : Hp) (ds : List D) : Prop := ∀ (i : Nat) (G' H : Hp), (∀ a o, G a = some o → G' a = some o) → Sub G' H →
  (∀ d, ds[i]? = some d → J.go i H ∧ ∀ x H', J.yld i H x H' → ∃ G'', Ex2 G' H G'' H' ∧ Rp K G'' d x) ∧ (i = ds.length → J.stop i H)
structure Iter (X : Cx) (env : Ev) (tg iter : Expr) (ds : List D) : Prop where
  run : ∀ (H0 : Hp) (σ : St) (G H : Hp), Sub G H → En X.K H0 G H σ env → ∀ R : It → Hp → Prop,
  (∀ J G' H', Ex2 G H G' H' → Walks X.K J G' ds → R J H') → WI X tg iter σ H R
theorem it_list {d : D} {ds : List D} (hl : IsL d ds) (ha : P X env iter (.per d)) : Iter X env tg iter ds := .mk fun H0 σ G H s E R kk =>
  WI.of (pi_list pWE) (ha.go s E fun v G1 H1 x1 r1 => by
    obtain ⟨p, xs, rfl, h2, h3⟩ := hl.seq r1
    refine ⟨p, rfl, ⟨xs, sub_sqL x1.s h2⟩, kk _ G1 H1 x1 fun i G' H' eg s' => ⟨fun d hd => ?_, fun hi => ?_⟩⟩
    · have q := sub_sqL s' (sqL_mono eg h2)
      obtain ⟨v, h4, h5⟩ := h3.get hd
      refine ⟨⟨xs, v, q, h4⟩, fun x H'' ⟨e1, e2⟩ => ?_⟩
      subst e1
      refine ⟨G', Ex2.refl s', ?_⟩
      have := e2 xs q
      rw [h4] at this
      cases this
      exact h5.mono eg
    · subst hi
      exact ⟨xs, sub_sqL s' (sqL_mono eg h2), by rw [h3.length]; exact Nat.le_refl _⟩)
theorem it_tup {ds : List D} (ha : P X env iter (.per (.tup ds))) : Iter X env tg iter ds := .mk fun H0 σ G H s E R kk =>
  WI.of (pi_tup pWE) (ha.go s E fun v G1 H1 x1 r1 => by
    simp only [Rp] at r1
    obtain ⟨p, xs, rfl, h2, h3⟩ := r1
    refine ⟨p, rfl, ⟨xs, sub_sqT x1.s h2⟩, kk _ G1 H1 x1 fun i G' H' eg s' => ⟨fun d hd => ?_, fun hi => ?_⟩⟩
    · have q := sub_sqT s' (sqT_mono eg h2)
      obtain ⟨v, h4, h5⟩ := h3.get hd
      refine ⟨⟨xs, v, q, h4⟩, fun x H'' ⟨e1, e2⟩ => ?_⟩
      subst e1
      refine ⟨G', Ex2.refl s', ?_⟩
      have := e2 xs q
      rw [h4] at this
      cases this
      exact h5.mono eg
    · subst hi
      exact ⟨xs, sub_sqT s' (sqT_mono eg h2), by rw [h3.length]; exact Nat.le_refl _⟩)
/-- lo, lo + 1, .. -/
def rangeD (lo : Int) (n : Nat) : List D := (List.range n).map fun (i : Nat) => D.int (lo + i)
theorem rangeD_length (lo : Int) (n : Nat) : (rangeD lo n).length = n := by simp [rangeD]
theorem rangeD_get {lo : Int} {n i : Nat} {d : D} (h : (rangeD lo n)[i]? = some d) : i < n ∧ d = .int (lo + i) := by
  unfold rangeD at h
  rw [List.getElem?_map] at h
  cases q : (List.range n)[i]? with
  | none => rw [q] at h; cases h
  | some j =>
    rw [q] at h
    have hi : i < n := by
      have := (List.getElem?_eq_some_iff.mp q).1
      simpa using this
    rw [List.getElem?_range hi] at q
    cases q
    cases h
    exact ⟨hi, rfl⟩
theorem walks_rng {K : PySem.W.Frag} {G : Hp} {lo : Int} {n : Nat} : Walks K (Itr lo n) G (rangeD lo n) := fun i G' H' eg s' => by
  refine ⟨fun d hd => ?_, fun hi => ?_⟩
  · obtain ⟨h1, rfl⟩ := rangeD_get hd
    refine ⟨h1, fun x H'' ⟨e1, e2⟩ => ?_⟩
    subst e1 e2
    exact ⟨G', Ex2.refl s', by simp only [Rp]⟩
  · rw [rangeD_length] at hi
    exact Nat.le_of_eq hi.symm
theorem it_range1 (hX : Cs X m N sc fs k) {p : Pos} {j : Int} (hj : -(2 ^ 62) ≤ j ∧ j < 2 ^ 62) (hg : gloB sc "range" = true) (hm : m.mg "range" = none) (ha : P X env a (.per (.int j))) (he : ∀ en, starEach [a] en = [(false, eval a en)] := by intro _; rfl) :
    Iter X env tg (.Call (.Name "range" p) [a] [] pos) (rangeD 0 j.toNat) := .mk fun H0 σ G H s E R kk =>
  WI.of (pi_range1 (hX.gl hg) (by rw [hX.hM]; exact hm) pWA (he _)) ((as_cons ha as_nil he).run H0 σ G H s E _ fun vs G1 H1 x1 r1 => by
    obtain ⟨v, rfl, r2⟩ := rps1 r1
    simp only [Rp] at r2
    exact ⟨j, by rw [r2], hj.1, hj.2, kk _ G1 H1 x1 walks_rng⟩)
theorem it_range2 (hX : Cs X m N sc fs k) {p : Pos} {i j : Int} (hj : -(2 ^ 62) ≤ i ∧ i < 2 ^ 62 ∧ -(2 ^ 62) ≤ j ∧ j < 2 ^ 62) (hg : gloB sc "range" = true) (hm : m.mg "range" = none) (ha : P X env a (.per (.int i))) (hb : P X env b (.per (.int j)))
    (he : ∀ en, starEach [a, b] en = [(false, eval a en), (false, eval b en)] := by intro _; rfl) (he2 : ∀ en, starEach [b] en = [(false, eval b en)] := by intro _; rfl) :
    Iter X env tg (.Call (.Name "range" p) [a, b] [] pos) (rangeD i (j - i).toNat) := .mk fun H0 σ G H s E R kk =>
  WI.of (pi_range2 (hX.gl hg) (by rw [hX.hM]; exact hm) pWA (he _) (he2 _)) ((as_cons ha (as_cons hb as_nil he2) (fun en => by rw [he, he2])).run H0 σ G H s E _ fun vs G1 H1 x1 r1 => by
    obtain ⟨v, v', rfl, r2, r3⟩ := rps2 r1
    simp only [Rp] at r2 r3
    exact ⟨i, j, by rw [r2, r3], hj, kk _ G1 H1 x1 walks_rng⟩)

/-! ### blocks -/
theorem Endsk.imp {K : PySem.W.Frag} {Φ Ψ : Out → Prop} {G0 H0 : Hp} {D : Ends} (h : Endsk K Ψ G0 H0 D) (i : ∀ o, Φ o → Ψ o) : Endsk K Φ G0 H0 D :=
  ⟨fun env σ G H f => h.nx env σ G H (i _ f), fun env σ G H f => h.bk env σ G H (i _ f), fun env σ G H f => h.ct env σ G H (i _ f), fun o v G H fp f => h.rt o v G H fp (i _ f)⟩
theorem S.imp {ss : List Stmt} {Φ Ψ : Out → Prop} (h : S X ss env Φ) (i : ∀ o, Φ o → Ψ o) : S X ss env Ψ := .mk fun σ G0 H0 G H x E D kk => h.run σ G0 H0 G H x E D (kk.imp i)
theorem s_nil {Φ : Out → Prop} (h : Φ (.nx env)) : S X [] env Φ := .mk fun σ G0 H0 G H x E D kk => WSs.of pss_nil (kk.nx env σ G H h x E)
/-- what a statement must reach so that the rest goes on -/
def Nxt (X : Cx) (rest : List Stmt) (Φ : Out → Prop) : Out → Prop
  | .nx env => S X rest env Φ
  | o => Φ o
theorem s_cons {st : Stmt} {rest : List Stmt} {Φ : Out → Prop} (h : S1 X st env (Nxt X rest Φ)) : S X (st :: rest) env Φ := .mk fun σ G0 H0 G H x E D kk =>
  WSs.of (pss_cons pWS pWSs) (h.run σ G0 H0 G H x E _ ⟨fun env' σ' G' H' f x' E' => f.run σ' G0 H0 G' H' x' E' D kk, fun env' σ' G' H' f => kk.bk env' σ' G' H' f, fun env' σ' G' H' f => kk.ct env' σ' G' H' f, fun o v G' H' fp f => kk.rt o v G' H' fp f⟩)
variable {st : Stmt} {rest ss ss' : List Stmt} {Φ : Out → Prop}
theorem s1_expr {o : Ow} (he : P X env e o) (h : Φ (.nx env)) (hs : ∀ en, swapsWith e none pos.line en = pure false := by intro _; rfl) : S1 X (.Expr e pos) env Φ := .mk fun σ G0 H0 G H x E D kk =>
  WS.of (ps_expr pWE (hs _)) (he.run H0 σ G H x.s E _ fun v G' H' fp x' r n d => kk.nx env σ G' H' h (x.trans x') (E.later x'))
theorem s1_ret {o : Ow} (he : P X env e o) (h : Φ (.rt o)) : S1 X (.Return (some e) pos) env Φ := .mk fun σ G0 H0 G H x E D kk =>
  WS.of (ps_ret pWE) (he.run H0 σ G H x.s E _ fun v G' H' fp x' r n d => kk.rt o v G' H' fp h (x.trans x') r d fun a ha => back_none x.h (n a ha))
theorem s1_retN (h : Φ (.rt (.per .non))) : S1 X (.Return none pos) env Φ := .mk fun σ G0 H0 G H x E D kk =>
  WS.of ps_retN (kk.rt (.per .non) .non G H [] h x (by simp only [RO, Rp]; exact ⟨trivial, trivial⟩) List.nodup_nil fun a ha => by cases ha)
theorem s1_pass (h : Φ (.nx env)) : S1 X (.Pass pos) env Φ := .mk fun σ G0 H0 G H x E D kk => WS.of ps_pass (kk.nx env σ G H h x E)
theorem s1_if {q : Bool} (hc : T X env c q) (h1 : q = true → S X ss env Φ) (h2 : q = false → S X ss' env Φ) : S1 X (.If c ss ss' pos) env Φ := .mk fun σ G0 H0 G H x E D kk =>
  WS.of (ps_if pWT pWSs pWSs) (hc.run H0 σ G H x.s E _ fun G' H' x' => by
    cases q with
    | true => exact iteT ((h1 rfl).run σ G0 H0 G' H' (x.trans x') (E.later x') D kk)
    | false => exact iteF ((h2 rfl).run σ G0 H0 G' H' (x.trans x') (E.later x') D kk))
/-- what was made is new -/
theorem En.fresh {K : PySem.W.Frag} {H0 G H G' H' : Hp} {σ : St} {o : Ow} {v : V} {fp : List Addr} {i : Nat} (E : En K H0 G H σ env) (x' : Ex2 G H G' H') (r : RO K G' H' o v fp) (n : ∀ a ∈ fp, H a = none) (d : fp.Nodup) (hi : i < env.length) (h0 : ∀ a ∈ fp, H0 a = none) :
    En K H0 G' H' (σ.set i (some v)) (env.set i (some o)) := by
  obtain ⟨f0, e1, e2, e3⟩ := E
  have E' : En K H0 G' H' σ env := En.later x' ⟨f0, e1, e2, e3⟩
  obtain ⟨f0', e1', e2', e3'⟩ := E'
  have e1l : Ens K G' H' env σ f0 := e1.frame x'.g fun a ha => by
    obtain ⟨q1, q2⟩ := e1.out a ha
    refine ⟨?_, x'.n a q1 q2⟩
    cases q : H a with
    | none => exact absurd q q2
    | some o => exact x'.h a o q
  obtain ⟨fp', k1, k2, k3⟩ := Ens.set e1l hi r
  refine ⟨fp', k1, k3 e2 d fun a ha hb => (e1.out a hb).2 (n a ha), fun a ha => ?_⟩
  rcases k2 a ha with z | z
  · exact h0 a z
  · exact e3 a z
theorem s1_set (hX : Cs X m N sc fs k) {i : Nat} {x : Str} {o : Ow} {pos' : Pos} (hi : Ix N i x) (hl : locB sc fs x = true) (hn : i < env.length) (he : P X env e o) (h : Φ (.nx (env.set i (some o))))
    (hs : ∀ en, swapsWith e (some (.Name x pos')) pos.line en = pure false := by intro _; rfl) : S1 X (.Assign [.Name x pos'] e pos) env Φ := .mk fun σ G0 H0 G H y E D kk =>
  WS.of (ps_set (i := i) (by rw [hX.hN]; exact hX.nd) (by rw [hX.hN]; exact hi.at_) (hX.loc hl) pWE (hs _) (hX.hf hl)) (he.run H0 σ G H y.s E _ fun v G' H' fp x' r n d =>
    kk.nx _ _ G' H' h (y.trans x') (E.fresh x' r n d hn fun a ha => back_none y.h (n a ha)))
theorem s1_asg {d : D} {js : List Nat} (he : P X env e (.per d)) (hg : Tg X env tg d env' js) (h : Φ (.nx env')) (hs : ∀ en, swapsWithSole [tg] e pos.line en = pure false := by intro _; rfl) (hw : ∀ en, swappedStores [tg] e en = pure none := by intro _; rfl)
    (h1 : ∀ en, (assignEach [tg] en).map (·.2) = [assign tg en] := by intro _; rfl) : S1 X (.Assign [tg] e pos) env Φ := .mk fun σ G0 H0 G H y E D kk =>
  WS.of (ps_asg pWE pWG (hs _) (hw _) (h1 _)) (he.go y.s E fun v G' H' x' r => hg.run H0 G' H' σ v _ x'.s (E.later x') r fun σ' E' _ => kk.nx env' σ' G' H' h (y.trans x') E')
/-- what is one's own begins to last -/
theorem s_last {i : Nat} {o : Ow} (he : env[i]? = some (some o)) (h : S X ss (env.set i (some (.per o.fr))) Φ) : S X ss env Φ := .mk fun σ G0 H0 G H x E D kk => by
  obtain ⟨fp, e1, e2, e3⟩ := E
  obtain ⟨v, fa, f1, fb, q1, q2, q3, q4⟩ := e1.slot he
  subst q2
  have h0 : ∀ a ∈ f1, H0 a = none := fun a ha => e3 a (List.mem_append_right _ (List.mem_append_left _ ha))
  have x2 : Ex2 G0 H0 (more G H f1) H := x.last h0 fun a ha => (q3.out a ha).1
  have eg : ∀ a o, G a = some o → more G H f1 a = some o := fun a o q => by
    by_cases z : a ∈ f1
    · rw [(q3.out a z).1] at q; cases q
    · rw [more_out z]; exact q
  obtain ⟨n1, n2, n3⟩ := List.nodup_append.mp e2
  obtain ⟨n4, n5, n6⟩ := List.nodup_append.mp n2
  have E2 : Ens X.K (more G H f1) H (env.set i (some (.per o.fr))) (σ.set i (some v)) (fa ++ ([] ++ fb)) := by
    refine q4 (more G H f1) H (some (.per o.fr)) (some v) [] eg (fun a ha => ⟨rfl, ?_⟩) ⟨v, rfl, ?_⟩
    · have z : a ∉ f1 := fun z => by
        rcases List.mem_append.mp ha with w | w
        · exact n3 a w a (List.mem_append_left _ z) rfl
        · exact n6 a z a w rfl
      rw [more_out z]
      refine (e1.out a ?_).1
      rcases List.mem_append.mp ha with w | w
      · exact List.mem_append_left _ w
      · exact List.mem_append_right _ (List.mem_append_right _ w)
    · simp only [RO]
      exact ⟨trivial, q3.fr eg fun a ha => more_in ha⟩
  have eσ : σ.set i (some v) = σ := by
    apply List.ext_getElem?
    intro j
    by_cases z : i = j
    · subst z
      have hi : i < σ.length := (List.getElem?_eq_some_iff.mp q1).1
      rw [List.getElem?_set_self hi, q1]
    · rw [List.getElem?_set_ne z]
  rw [eσ] at E2
  refine h.run σ G0 H0 (more G H f1) H x2 ⟨_, E2, ?_, fun a ha => e3 a ?_⟩ D kk
  · simp only [List.nil_append]
    exact List.nodup_append.mpr ⟨n1, n5, fun a ha b hb => n3 a ha b (List.mem_append_right _ hb)⟩
  · rcases List.mem_append.mp ha with w | w
    · exact List.mem_append_left _ w
    · exact List.mem_append_right _ (List.mem_append_right _ (by simpa using w))
end
end Pu

set_option Elab.async false
set_option linter.all false
set_option autoImplicit false
set_option maxRecDepth 100000
set_option maxHeartbeats 1000000
namespace Pu
open PySem L2
theorem Ex2.from {G0 H0 G1 H1 G H : Hp} (x : Ex2 G0 H0 G1 H1) (y : Ex2 G0 H0 G H) (e : ∀ a o, G1 a = some o → G a = some o) : Ex2 G1 H0 G H :=
  ⟨y.s, e, y.h, fun a h1 h2 => y.n a (back_none x.g h1) h2⟩
theorem Ex2.to {G0 H0 G1 H1 G H : Hp} (x : Ex2 G0 H0 G1 H1) (y : Ex2 G1 H0 G H) : Ex2 G0 H0 G H :=
  ⟨y.s, fun a o h => y.g _ _ (x.g _ _ h), y.h, fun a h1 h2 => y.n a (x.n a h1 h2) h2⟩
section
variable {X : Cx} {m : Md} {N : List Str} {sc fs : Scope} {k : Nat} {env env' env'' : Ev} {a b c e tg iter elt : Expr} {es tgs ifs : List Expr} {pos : Pos} {body ss : List Stmt} {Φ : Out → Prop}
/-- a loop's turn must come to the next, or leave -/
def Trn (I : Ev → Prop) (Φ : Out → Prop) : Out → Prop
  | .nx e => I e
  | .ct e => I e
  | .bk e => Φ (.nx e)
  | .rt o => Φ (.rt o)
theorem s1_for (hX : Cs X m N sc fs k) {ds : List D} (hit : Iter X env tg iter ds) (I : Nat → Ev → Prop) (h0 : I 0 env)
    (hb : ∀ i d env', ds[i]? = some d → I i env' → ∃ env'' js, Tg X env' tg d env'' js ∧ S X body env'' (Trn (I (i + 1)) Φ)) (hd : ∀ env', I ds.length env' → Φ (.nx env'))
    (hs : ∀ en x, foldedSetIterable iter en x = pure x := by intro _ _; rfl) : S1 X (.For tg iter body [] pos) env Φ := .mk fun σ G0 H0 G H x E D kk => by
  refine WS.of (ps_for hX.own hX.calm pWI pWG pWSs (hs _)) (hit.run H0 σ G H x.s E _ fun J G1 H1 x1 wk => ?_)
  have x01 := x.trans x1
  refine ⟨fun i mm σ' H' => mm = ds.length - i ∧ i ≤ ds.length ∧ ∃ env' G', I i env' ∧ Ex2 G1 H0 G' H' ∧ En X.K H0 G' H' σ' env', ⟨ds.length, by simp, Nat.zero_le _, env, G1, h0, x01.from x01 fun _ _ q => q, E.later x1⟩, ?_⟩
  rintro i mm σ' H' ⟨rfl, hi, env', G', hI, x', E'⟩
  obtain ⟨w1, w2⟩ := wk i G' H' x'.g x'.s
  by_cases hlt : i < ds.length
  · obtain ⟨go, yl⟩ := w1 ds[i] (by simp [hlt])
    obtain ⟨env'', js, ht, hS⟩ := hb i ds[i] env' (by simp [hlt]) hI
    refine .inr ⟨go, fun σ2 H2 => ∃ env2 G2, I (i + 1) env2 ∧ Ex2 G1 H0 G2 H2 ∧ En X.K H0 G2 H2 σ2 env2, fun σ2 H2 q => ⟨ds.length - (i + 1), by omega, rfl, hlt, q⟩, fun y H2 hy => ?_⟩
    obtain ⟨G2, x2, r2⟩ := yl y H2 hy
    refine ht.run H0 G2 H2 σ' y _ x2.s (E'.later x2) r2 fun σ3 E3 _ => ?_
    exact hS.run σ3 G1 H0 G2 H2 (x'.trans x2) E3 _ ⟨fun env2 σ2 G3 H3 f x3 E3 => ⟨env2, G3, f, x3, E3⟩, fun env2 σ2 G3 H3 f x3 E3 => kk.nx env2 σ2 G3 H3 f (x01.to x3) E3, fun env2 σ2 G3 H3 f x3 E3 => ⟨env2, G3, f, x3, E3⟩, fun o v G3 H3 fp f x3 r3 d3 n3 => kk.rt o v G3 H3 fp f (x01.to x3) r3 d3 n3⟩
  · have e1 : i = ds.length := by omega
    subst e1
    exact .inl ⟨w2 rfl, kk.nx env' σ' G' H' (hd env' hI) (x01.to x') E'⟩
theorem s1_while (hX : Cs X m N sc fs k) (I : Nat → Ev → Prop) {m0 : Nat} (h0 : I m0 env)
    (hb : ∀ n env', I n env' → ∃ q, T X env' c q ∧ (q = true → S X body env' (Trn (fun e => ∃ n', n' < n ∧ I n' e) Φ)) ∧ (q = false → Φ (.nx env'))) : S1 X (.While c body [] pos) env Φ := .mk fun σ G0 H0 G H x E D kk => by
  refine WS.of (ps_while hX.own pWT pWSs) ⟨fun n σ' H' => ∃ env' G', I n env' ∧ Ex2 G0 H0 G' H' ∧ En X.K H0 G' H' σ' env', ⟨m0, env, G, h0, x, E⟩, ?_⟩
  rintro n σ' H' ⟨env', G', hI, x', E'⟩
  obtain ⟨q, hT, h1, h2⟩ := hb n env' hI
  refine hT.run H0 σ' G' H' x'.s E' _ fun G2 H2 x2 => ?_
  cases q with
  | true =>
    refine iteT ⟨fun σ3 H3 => ∃ env3 G3, (∃ n', n' < n ∧ I n' env3) ∧ Ex2 G0 H0 G3 H3 ∧ En X.K H0 G3 H3 σ3 env3, fun σ3 H3 ⟨env3, G3, ⟨n', hn, hI'⟩, x3, E3⟩ => ⟨n', hn, env3, G3, hI', x3, E3⟩, ?_⟩
    exact (h1 rfl).run σ' G0 H0 G2 H2 (x'.trans x2) (E'.later x2) _ ⟨fun env2 σ2 G3 H3 f x3 E3 => ⟨env2, G3, f, x3, E3⟩, fun env2 σ2 G3 H3 f x3 E3 => kk.nx env2 σ2 G3 H3 f x3 E3, fun env2 σ2 G3 H3 f x3 E3 => ⟨env2, G3, f, x3, E3⟩, fun o v G3 H3 fp f x3 r3 d3 n3 => kk.rt o v G3 H3 fp f x3 r3 d3 n3⟩
  | false => exact iteF (kk.nx env' σ' G2 H2 (h2 rfl) (x'.trans x2) (E'.later x2))

/-! ### list comprehensions -/
def WTs (X : Cx) (ifs : List Expr) : TT := fun σ H Q => ∀ (pins : List (Addr × Obj)) (s : Shared), Inv X pins σ H s →
    wpAny (model X.prog X.w) X.A (forIn ifs true fun c r => if r = true then do let ok ← isTrue c X.env (eval c X.env); pure (ForInStep.yield ok) else pure (ForInStep.yield r)) (TP X pins σ Q) X.xe s
theorem pWTs : PTs X ifs (WTs X ifs) := ⟨fun pins s _ _ _ I h => h pins s I⟩
/-- a clause's tests have this outcome -/
structure Ts (X : Cx) (env : Ev) (ifs : List Expr) (b : Bool) : Prop where
  run : ∀ (H0 : Hp) (σ : St) (G H : Hp), Sub G H → En X.K H0 G H σ env → ∀ Q : Bool → Hp → Prop, (∀ G' H', Ex2 G H G' H' → Q b H') → WTs X ifs σ H Q
theorem ts_nil : Ts X env [] true := .mk fun H0 σ G H s E Q g pins sh I => pts_nil.run pins sh σ H Q I (g G H (Ex2.refl s))
theorem ts_one {q : Bool} (h : T X env c q) : Ts X env [c] q := .mk fun H0 σ G H s E Q g pins sh I => (pts_one pWT).run pins sh σ H Q I (h.run H0 σ G H s E Q g)
/-- a comprehension's block: its context -/
abbrev BX (X : Cx) (s : Shared) (H : Hp) (scope : Scope) (C : Addr) (cl : List (Str × Addr)) (fp : List Addr) : Cx := X.blk s H scope (compEnvC scope cl C X.env) fp
theorem Cs.blk (hX : Cs X m N sc fs k) (s : Shared) (H : Hp) (scope : Scope) (C : Addr) (cl : List (Str × Addr)) (fp : List Addr) : Cs (BX X s H scope C cl fp) m N (relS scope sc) scope k :=
  ⟨hX.hP, hX.hW, hX.hK, hX.hM, hX.hB, hX.hN, by rw [← hX.hS]; rfl, hX.calm, hX.room, hX.nd, fun x h => by show (scope.names.lookup x == some NameKind.cell) = true; rw [h]; rfl, PassesOwn.never⟩
/-- the slots of the block hold nothing ahead of it -/
def wipeE (env : Ev) : List Nat → Ev
  | [] => env
  | v :: vs => (wipeE env vs).set v none
theorem ens_wipe {K : PySem.W.Frag} {G H : Hp} {σ : St} {fp : List Addr} (h : Ens K G H env σ fp) : ∀ vs : List Nat, ∃ fp', Ens K G H (wipeE env vs) (wipe σ vs) fp' ∧ List.Sublist fp' fp
  | [] => ⟨fp, h, List.Sublist.refl _⟩
  | v :: vs => by
    obtain ⟨fp1, h1, h2⟩ := ens_wipe h vs
    obtain ⟨fp2, h3, h4⟩ := Ens.drop (i := v) (s' := none) h1
    exact ⟨fp2, h3, h4.trans h2⟩
theorem En.wipe {K : PySem.W.Frag} {H0 G H : Hp} {σ : St} (vs : List Nat) (E : En K H0 G H σ env) : En K H0 G H (wipe σ vs) (wipeE env vs) := by
  obtain ⟨fp, e1, e2, e3⟩ := E
  obtain ⟨fp', h1, h2⟩ := ens_wipe e1 vs
  exact ⟨fp', h1, e2.sublist h2, fun a ha => e3 a (h2.subset ha)⟩
/-- what is taken of each item: nothing, or what the element is worth -/
def takeO : List (Option Ow) → List Ow := List.filterMap id
def BWE (X : Cx) (scope : Scope) (elt : Expr) : TE := fun σ H Q => ∀ (s : Shared) (H' : Hp) (C : Addr) (cl : List (Str × Addr)) (fp : List Addr), WE (BX X s H' scope C cl fp) elt σ H Q
def BWT (X : Cx) (scope : Scope) (ifs : List Expr) : TT := fun σ H Q => ∀ (s : Shared) (H' : Hp) (C : Addr) (cl : List (Str × Addr)) (fp : List Addr), WTs (BX X s H' scope C cl fp) ifs σ H Q
def BWG (X : Cx) (scope : Scope) (tg : Expr) : TG := fun v σ H Q => ∀ (s : Shared) (H' : Hp) (C : Addr) (cl : List (Str × Addr)) (fp : List Addr), WG (BX X s H' scope C cl fp) tg v σ H Q
/-- what a comprehension's block asks of each item -/
def LcB (m : Md) (N : List Str) (sc scope : Scope) (k : Nat) (own : List (Str × Nat)) (tg elt : Expr) (ifs : List Expr) (env : Ev) (f : Nat → D → Option Ow) (ds : List D) : Prop := ∀ i d, ds[i]? = some d → ∃ env' js, (∀ j ∈ js, j ∈ own.map (·.2)) ∧ ∀ (X' : Cx), Cs X' m N (relS scope sc) scope k → Tg X' (wipeE env (own.map (·.2))) tg d env' js ∧
      match f i d with
      | none => Ts X' env' ifs false
      | some o => Ts X' env' ifs true ∧ P X' env' elt o
theorem lc_read (hX : Cs X m N sc fs k) {scope : Scope} {own : List (Str × Nat)} {ds : List D} (f : Nat → D → Option Ow) (hit : Iter X env tg iter ds) (hk : blkC N sc scope own = true)
    (hsz : ds.length ≤ sizeLine) (hb : LcB m N sc scope k own tg elt ifs env f ds) {H0 : Hp} {σ : St} {G H : Hp} {Q : VK} (s : Sub G H) (E : En X.K H0 G H σ env) (g : Gv X.K G H (.lst ((ds.mapIdx f).filterMap id)) Q) :
    tLc (WI X tg iter) (BWG X scope tg) (BWT X scope ifs) (BWE X scope elt) (own.map (·.2)) σ H Q := by
  refine hit.run H0 σ G H s E _ fun J G1 H1 x1 wk Dp hD => ?_
  have gD : G1 Dp = none := back_none x1.s hD
  have E1 := E.later x1
  -- so far: i items gone through
  refine ⟨fun i mm H' => mm = ds.length - i ∧ i ≤ ds.length ∧ ∃ G' xs fq, Ex2 G1 H1 G' H' ∧ H' Dp = some (.lst xs) ∧ G' Dp = none ∧ ROs X.K G' H' (((ds.take i).mapIdx f).filterMap id) xs fq ∧ Dp ∉ fq ∧ fq.Nodup ∧ ∀ a ∈ fq, H1 a = none,
    ⟨ds.length, by simp, Nat.zero_le _, G1, [], [], Ex2.newOwn x1.s hD, upd_same, gD, by simp [ROs], by simp, List.nodup_nil, fun a ha => by cases ha⟩, ?_⟩
  rintro i mm H' ⟨rfl, hi, G', xs, fq, x', hDx, gD', hR, nD, dq, n1⟩
  have E' := E1.later x'
  have Ew := E'.wipe (own.map (·.2))
  obtain ⟨w1, w2⟩ := wk i G' H' x'.g x'.s
  by_cases hlt : i < ds.length
  · obtain ⟨go, yl⟩ := w1 ds[i] (by simp [hlt])
    have hdi : ds[i]? = some ds[i] := by simp [hlt]
    have htk : ((ds.take (i + 1)).mapIdx f).filterMap id = ((ds.take i).mapIdx f).filterMap id ++ (f i ds[i]).toList := by
      rw [List.take_succ_eq_append_getElem hlt, List.mapIdx_append, List.filterMap_append]
      simp [Nat.min_eq_left (Nat.le_of_lt hlt)]
      cases f i ds[i] <;> simp
    have hxl : xs.length ≤ i := by
      rw [hR.length]
      refine Nat.le_trans (List.length_filterMap_le _ _) ?_
      simp
      omega
    refine .inr ⟨go, fun H2 => ∃ G2 xs2 fq2, Ex2 G1 H1 G2 H2 ∧ H2 Dp = some (.lst xs2) ∧ G2 Dp = none ∧ ROs X.K G2 H2 (((ds.take (i + 1)).mapIdx f).filterMap id) xs2 fq2 ∧ Dp ∉ fq2 ∧ fq2.Nodup ∧ ∀ a ∈ fq2, H1 a = none, fun H2 q => ⟨ds.length - (i + 1), by omega, rfl, hlt, q⟩, fun y H2 hy => ?_⟩
    obtain ⟨G2, x2, r2⟩ := yl y H2 hy
    have E2 := Ew.later x2
    obtain ⟨env', js, hjs, hall⟩ := hb i ds[i] hdi
    intro sb Hb C cl fpb
    refine (hall _ (hX.blk sb Hb scope C cl fpb)).1.run H0 G2 H2 _ y _ x2.s E2 r2 fun σ3 E3 hw => ⟨?_, ?_⟩
    · rw [hw _ hjs]
      have : ∀ (vs : List Nat) (τ : St), L2.wipe (L2.wipe τ vs) vs = L2.wipe τ vs := by
        intro vs
        have aux : ∀ (ws us : List Nat) (τ : St), (∀ j ∈ ws, j ∈ us) → L2.wipe (L2.wipe τ ws) us = L2.wipe τ us := by
          intro ws
          induction ws with
          | nil => intro us τ _; rfl
          | cons w ws ih =>
            intro us τ h
            simp only [L2.wipe]
            rw [wipe_set (h w List.mem_cons_self)]
            exact ih us τ fun j hj => h j (List.mem_cons_of_mem _ hj)
        exact fun τ => aux vs vs τ fun j hj => hj
      exact this _ _
    intro sb Hb C cl fpb
    have hm := (hall _ (hX.blk sb Hb scope C cl fpb)).2
    have hDn : H' Dp ≠ none := by rw [hDx]; simp
    have n1' : ∀ {Gz Hz : Hp}, Ex2 G' H' Gz Hz → ∀ a ∈ fq, Hz a = H' a ∧ Gz a = none := fun {Gz Hz} y a ha => by
      obtain ⟨q1, q2⟩ := hR.out a ha
      refine ⟨?_, y.n a q1 q2⟩
      cases q : H' a with
      | none => exact absurd q q2
      | some o => exact y.h a o q
    cases hf : f i ds[i] with
    | none =>
      rw [hf] at hm htk
      refine hm.run H0 σ3 G2 H2 x2.s E3 _ fun G3 H3 x3 => ?_
      refine iteF ⟨G3, xs, fq, x'.trans (x2.trans x3), (x2.trans x3).h _ _ hDx, (x2.trans x3).n _ gD' hDn, ?_, nD, dq, n1⟩
      rw [htk]
      simp only [Option.toList_none, List.append_nil]
      exact hR.frame (x2.trans x3).g (n1' (x2.trans x3))
    | some o =>
      rw [hf] at hm htk
      obtain ⟨hm1, hm2⟩ := hm
      refine hm1.run H0 σ3 G2 H2 x2.s E3 _ fun G3 H3 x3 => iteT ?_
      intro sb Hb C cl fpb
      have hm2 : P (BX X sb Hb scope C cl fpb) env' elt o := by
        have := (hall _ (hX.blk sb Hb scope C cl fpb)).2
        rw [hf] at this
        exact this.2
      refine hm2.run H0 σ3 G3 H3 x3.s (E3.later x3) _ fun v G4 H4 fp x4 r4 n4 d4 => ?_
      have y4 := x2.trans (x3.trans x4)
      have hD4 : H4 Dp = some (.lst xs) := y4.h _ _ hDx
      have gD4 : G4 Dp = none := y4.n _ gD' hDn
      have ndp : Dp ∉ fp := fun z => by
        have := n4 Dp z
        rw [(x2.trans x3).h _ _ hDx] at this
        cases this
      have dis : ∀ a ∈ fq, a ∉ fp := fun a ha z => by
        obtain ⟨q1, q2⟩ := hR.out a ha
        exact ne_none (x2.trans x3).h q2 (n4 a z)
      refine ⟨xs, hD4, Nat.lt_of_le_of_lt hxl (Nat.lt_of_lt_of_le hlt hsz), G4, xs ++ [v], fq ++ fp, ?_, upd_same, gD4, ?_, ?_, ?_, ?_⟩
      · refine ⟨fun a u q => ?_, (x'.trans y4).g, fun a u q => ?_, (x'.trans y4).n⟩
        · have : a ≠ Dp := fun z => by rw [z, gD4] at q; cases q
          rw [upd_ne this]; exact y4.s _ _ q
        · have : a ≠ Dp := fun z => by rw [z, hD] at q; cases q
          rw [upd_ne this]; exact (x'.trans y4).h _ _ q
      · rw [htk]
        simp only [Option.toList_some]
        refine ROs.append (hR.frame y4.g fun a ha => ?_) (ROs.one (r4.frame (fun _ _ q => q) fun a ha => ?_))
        · obtain ⟨z1, z2⟩ := n1' y4 a ha
          have : a ≠ Dp := fun z => nD (z ▸ ha)
          rw [upd_ne this]; exact ⟨z1, z2⟩
        · have : a ≠ Dp := fun z => ndp (z ▸ ha)
          rw [upd_ne this]; exact ⟨rfl, (r4.out a ha).1⟩
      · intro z
        rcases List.mem_append.mp z with z | z
        · exact nD z
        · exact ndp z
      · exact List.nodup_append.mpr ⟨dq, d4, fun a ha b hb q => dis a ha (q ▸ hb)⟩
      · intro a ha
        rcases List.mem_append.mp ha with z | z
        · exact n1 a z
        · exact back_none (x'.trans (x2.trans x3)).h (n4 a z)
  · have e1 : i = ds.length := by omega
    subst e1
    refine .inl ⟨w2 rfl, ?_⟩
    rw [List.take_length] at hR
    refine (g.trans x1) (.ref Dp) G' H' (Dp :: fq) ⟨x'.s, x'.g, x'.h, x'.n⟩ ?_ (fun a ha => ?_) (List.nodup_cons.mpr ⟨nD, dq⟩)
    · simp only [RO]
      exact ⟨Dp, xs, fq, rfl, rfl, gD', hDx, hR⟩
    · rcases List.mem_cons.mp ha with rfl | ha
      · exact hD
      · exact n1 a ha
/-- [elt for tg in iter if ..] : f tells of each item what comes of it -/
theorem p_lc (hX : Cs X m N sc fs k) {scope : Scope} {own : List (Str × Nat)} {ds : List D} (f : Nat → D → Option Ow) (hit : Iter X env tg iter ds) (hk : blkC N sc scope own = true) (hsz : ds.length ≤ sizeLine) (hb : LcB m N sc scope k own tg elt ifs env f ds)
    (hs : ∀ en x, foldedSetIterable iter en x = pure x := by intro _ _; rfl) : P X env (.ListComp elt [⟨tg, iter, ifs, 0⟩] scope pos) (.lst ((ds.mapIdx f).filterMap id)) := .mk fun H0 σ G H s E Q g => by
  have ok : BlkOk X.N X.env.scope scope own := by rw [hX.hN, hX.hS]; exact blkOk_by hk
  exact WE.of (pe_lc (te := BWE X scope elt) (tt := BWT X scope ifs) (g := BWG X scope tg) (own := own) hX.calm (by rw [hX.hN]; exact hX.nd) pWI ok
    (fun s H C cl fp => ⟨fun pins s' σ' H' v u Q' I r h => h s H C cl fp pins s' u I r⟩)
    (fun s H C cl fp => ⟨fun pins s' σ' H' Q' I h => h s H C cl fp pins s' I⟩)
    (fun s H C cl fp => ⟨fun pins s' σ' H' Q' I h => h s H C cl fp pins s' I⟩) (hs _)) (lc_read hX f hit hk hsz hb s E g)
/-- y = [..], stored within the comprehension -/
theorem s1_setLc (hX : Cs X m N sc fs k) {i : Nat} {y : Str} {py spos : Pos} {scope : Scope} {own : List (Str × Nat)} {ds : List D} (hi : Ix N i y) (hl : sc.names.lookup y = some .local) (hn : i < env.length) (f : Nat → D → Option Ow) (hit : Iter X env tg iter ds) (hk : blkC N sc scope own = true)
    (hsz : ds.length ≤ sizeLine) (hb : LcB m N sc scope k own tg elt ifs env f ds)
    (h : Φ (.nx (env.set i (some (.lst ((ds.mapIdx f).filterMap id))))))
    (hsw : (py.line == pos.line) = true := by rfl) (ha : (scope.names.any fun (n, kk) => n == y && (kk == .local || kk == .cell)) = false := by decide +kernel)
    (hs : ∀ en x, foldedSetIterable iter en x = pure x := by intro _ _; rfl) : S1 X (.Assign [.Name y py] (.ListComp elt [⟨tg, iter, ifs, 0⟩] scope pos) spos) env Φ := .mk fun σ G0 H0 G H z E D kk pins s I => by
  have ok : BlkOk X.N X.env.scope scope own := by rw [hX.hN, hX.hS]; exact blkOk_by hk
  have hl' : X.env.scope.names.lookup y = some .local := by rw [hX.hS]; exact hl
  exact WS.of (ps_setLc (i := i) (te := BWE X scope elt) (tt := BWT X scope ifs) (g := BWG X scope tg) (own := own) hX.calm (by rw [hX.hN]; exact hX.nd) (by rw [hX.hN]; exact hi.at_) hl' (sw_true I.ok.kind hl' hsw ha) pWI ok
    (fun s H C cl fp => ⟨fun pins s' σ' H' v u Q' I r h => h s H C cl fp pins s' u I r⟩)
    (fun s H C cl fp => ⟨fun pins s' σ' H' Q' I h => h s H C cl fp pins s' I⟩)
    (fun s H C cl fp => ⟨fun pins s' σ' H' Q' I h => h s H C cl fp pins s' I⟩) (hs _)) (lc_read hX f hit hk hsz hb z.s E fun v G' H' fp x' r n d =>
      kk.nx _ _ G' H' h (z.trans x') (E.fresh x' r n d hn fun a ha => back_none z.h (n a ha))) pins s I
end
end Pu

set_option Elab.async false
set_option linter.all false
set_option autoImplicit false
set_option maxRecDepth 100000
set_option maxHeartbeats 1000000
namespace Pu
open PySem L2
section
variable {X : Cx} {m : Md} {N : List Str} {sc fs : Scope} {k : Nat} {env env' env'' : Ev} {a b c e tg iter elt : Expr} {es tgs ifs : List Expr} {pos : Pos} {body ss : List Stmt} {Φ : Out → Prop}
/-! ### changing lists of one's own -/
/-- a slot that holds a list of one's own: its address, its cells; and the state with the list changed -/
theorem En.own {K : PySem.W.Frag} {H0 G H : Hp} {σ : St} {i : Nat} {os : List Ow} (hH : ∀ a o, H0 a = some o → H a = some o) (E : En K H0 G H σ env) (he : env[i]? = some (some (.lst os))) :
    ∃ p vs fq, σ[i]? = some (some (.ref p)) ∧ H p = some (.lst vs) ∧ G p = none ∧ H0 p = none ∧ ROs K G H os vs fq ∧ p ∉ fq ∧ fq.Nodup ∧
      ∀ (os' : List Ow) (vs' : List V) (fq' : List Addr) (G' H' : Hp), Ex2 G H G' H' → ROs K G' H' os' vs' fq' → p ∉ fq' → fq'.Nodup → (∀ a ∈ fq', a ∈ fq ∨ H a = none) →
        En K H0 G' (upd H' p (.lst vs')) σ (env.set i (some (.lst os'))) := by
  obtain ⟨fp, e1, e2, e3⟩ := E
  obtain ⟨v, fa, f1, fb, q1, q2, q3, q4⟩ := e1.slot he
  subst q2
  simp only [RO] at q3
  obtain ⟨p, vs, fq, rfl, rfl, g1, h1, r1⟩ := q3
  obtain ⟨n1, n2, n3⟩ := List.nodup_append.mp e2
  obtain ⟨n4, n5, n6⟩ := List.nodup_append.mp n2
  obtain ⟨n7, n8⟩ := List.nodup_cons.mp n4
  refine ⟨p, vs, fq, q1, h1, g1, e3 p (by simp), r1, n7, n8, fun os' vs' fq' G' H' x r' np nd hq => ?_⟩
  have hp' : H' p = some (.lst vs) := x.h _ _ h1
  have gp' : G' p = none := x.n p g1 (by rw [h1]; simp)
  have frs : ∀ a ∈ fa ++ fb, upd H' p (.lst vs') a = H a ∧ G' a = none := fun a ha => by
    have hm : a ∈ fa ++ (p :: fq ++ fb) := by
      rcases List.mem_append.mp ha with w | w
      · exact List.mem_append_left _ w
      · exact List.mem_append_right _ (List.mem_append_right _ w)
    obtain ⟨z1, z2⟩ := e1.out a hm
    have nap : a ≠ p := fun z => by
      subst z
      rcases List.mem_append.mp ha with w | w
      · exact n3 a w a (by simp) rfl
      · exact n6 a (by simp) a w rfl
    rw [upd_ne nap]
    refine ⟨?_, x.n a z1 z2⟩
    cases q : H a with
    | none => exact absurd q z2
    | some o => exact x.h a o q
  have eσ : σ.set i (some (V.ref p)) = σ := by
    apply List.ext_getElem?
    intro j
    by_cases z : i = j
    · subst z
      have hi : i < σ.length := (List.getElem?_eq_some_iff.mp q1).1
      rw [List.getElem?_set_self hi, q1]
    · rw [List.getElem?_set_ne z]
  have E2 := q4 G' (upd H' p (.lst vs')) (some (.lst os')) (some (.ref p)) (p :: fq') x.g frs ⟨.ref p, rfl, by
    simp only [RO]
    refine ⟨p, vs', fq', rfl, rfl, gp', upd_same, r'.frame (fun _ _ q => q) fun a ha => ?_⟩
    have : a ≠ p := fun z => np (z ▸ ha)
    rw [upd_ne this]
    exact ⟨rfl, (r'.out a ha).1⟩⟩
  rw [eσ] at E2
  refine ⟨_, E2, ?_, fun a ha => ?_⟩
  · have dis : ∀ a ∈ fa ++ fb, a ∉ p :: fq' := fun a ha z => by
      have hm : a ∈ fa ++ (p :: fq ++ fb) := by
        rcases List.mem_append.mp ha with w | w
        · exact List.mem_append_left _ w
        · exact List.mem_append_right _ (List.mem_append_right _ w)
      have old : a ∉ p :: fq := fun z => by
        rcases List.mem_append.mp ha with w | w
        · exact n3 a w a (List.mem_append_left _ z) rfl
        · exact n6 a z a w rfl
      rcases List.mem_cons.mp z with z | z
      · exact old (by simp [z])
      · rcases hq a z with w | w
        · exact old (List.mem_cons_of_mem _ w)
        · exact (e1.out a hm).2 w
    refine List.nodup_append.mpr ⟨n1, List.nodup_append.mpr ⟨List.nodup_cons.mpr ⟨np, nd⟩, n5, fun a ha b hb q => dis b (List.mem_append_right _ hb) (q ▸ ha)⟩, fun a ha b hb q => ?_⟩
    subst q
    rcases List.mem_append.mp hb with w | w
    · exact dis a (List.mem_append_left _ ha) w
    · exact n3 a ha a (List.mem_append_right _ w) rfl
  · rcases List.mem_append.mp ha with w | w
    · exact e3 a (List.mem_append_left _ w)
    · rcases List.mem_append.mp w with w | w
      · rcases List.mem_cons.mp w with rfl | w
        · exact e3 a (by simp)
        · rcases hq a w with w | w
          · exact e3 a (by simp [w])
          · exact back_none hH w
      · exact e3 a (by simp [w])

theorem wp_mono {K : PySem.W.Frag} {G0 H0 G H G' : Hp} {p : Addr} {o : HO} {H' : Hp} (x : Ex2 G0 H0 G' H') (h0 : H0 p = none) (g : G' p = none) : Ex2 G0 H0 G' (upd H' p o) :=
  ⟨fun a u q => by
    have : a ≠ p := fun z => by rw [z, g] at q; cases q
    rw [upd_ne this]; exact x.s _ _ q, x.g, fun a u q => by
    have : a ≠ p := fun z => by rw [z, h0] at q; cases q
    rw [upd_ne this]; exact x.h _ _ q, x.n⟩
variable {apos : Pos}
/-- xs.append(e) -/
theorem s1_append (hX : Cs X m N sc fs k) {i : Nat} {x : Str} {os : List Ow} {o : Ow} {p1 : Pos} (hi : Ix N i x) (hv : visB sc x = true) (he : env[i]? = some (some (.lst os))) (hz : os.length < sizeLine) (hp : P X env e o) (h : Φ (.nx (env.set i (some (.lst (os ++ [o]))))))
    (hbase : ∀ en, attributeBase (.Name x p1) "append" en (eval (.Name x p1) en) = eval (.Name x p1) en := by intro _; rfl)
    (hfew : ∀ en, ((backTo pos (starEach [e] en)).all (fun x => !x.1) && (backToKw pos (keywordEach [] en)).all (fun x => x.1.isSome) && decide (([e]).length + ([] : List Keyword).length + (if ([] : List Keyword).isEmpty then 0 else 1) < 30)) = true := by intro _; rfl)
    (hline : (apos.endLine == pos.line) = true := by rfl) (hs : ∀ en, starEach [e] en = [(false, eval e en)] := by intro _; rfl) {pos2 : Pos} :
    S1 X (.Expr (.Call (.Attribute (.Name x p1) "append" apos) [e] [] pos) pos2) env Φ := .mk fun σ G0 H0 G H y E D kk => by
  obtain ⟨p, vs, fq, q1, q2, q3, q4, q5, q6, q7, q8⟩ := E.own y.h he
  refine WS.of (ps_expr (pe_bm PySem.F.plainAttrs_list PySem.F.slot_list_append PySem.F.type_list_append mt_append (pe_var (i := i) (by rw [hX.hN]; exact hi.at_) (by rw [hX.hS]; exact vis_of hv) hi.d1 hi.d2) (pa_cons pWE pa_nil (by rw [hs]; rfl)) (hbase _) (hfew _) hline (by rw [hs]; rfl)) rfl) ?_
  refine ⟨.ref p, q1, .inl ⟨rfl, _, SqL.of q2⟩, ?_⟩
  refine hp.run H0 σ G H y.s E _ fun v G' H' fp x' r n d => ⟨p, vs, v, rfl, rfl, x'.h _ _ q2, by rw [q5.length]; exact hz, ?_⟩
  have hpn : H p ≠ none := by rw [q2]; simp
  have nfp : p ∉ fp := fun z => hpn (n p z)
  have r' : ROs X.K G' H' os vs fq := q5.frame x'.g fun a ha => by
    obtain ⟨z1, z2⟩ := q5.out a ha
    refine ⟨?_, x'.n a z1 z2⟩
    cases q : H a with
    | none => exact absurd q z2
    | some o => exact x'.h a o q
  have dis : ∀ a ∈ fq, a ∉ fp := fun a ha z => (q5.out a ha).2 (n a z)
  refine kk.nx _ σ G' _ h (wp_mono (K := X.K) (G := G) (H := H) (y.trans x') q4 (x'.n p q3 hpn)) (q8 _ _ (fq ++ fp) G' H' x' (r'.append (ROs.one r)) (fun z => ?_) ?_ fun a ha => ?_)
  · rcases List.mem_append.mp z with z | z
    · exact q6 z
    · exact nfp z
  · exact List.nodup_append.mpr ⟨q7, d, fun a ha b hb q => dis a ha (q ▸ hb)⟩
  · rcases List.mem_append.mp ha with z | z
    · exact .inl z
    · exact .inr (n a z)

theorem keepR {K : PySem.W.Frag} {G H G' H' : Hp} {os : List Ow} {vs : List V} {fq : List Addr} (x' : Ex2 G H G' H') (q5 : ROs K G H os vs fq) : ROs K G' H' os vs fq := q5.frame x'.g fun a ha => by
    obtain ⟨z1, z2⟩ := q5.out a ha
    refine ⟨?_, x'.n a z1 z2⟩
    cases q : H a with
    | none => exact absurd q z2
    | some o => exact x'.h a o q
theorem keepO {K : PySem.W.Frag} {G H G' H' : Hp} {o : Ow} {v : V} {fq : List Addr} (x' : Ex2 G H G' H') (q5 : RO K G H o v fq) : RO K G' H' o v fq := q5.frame x'.g fun a ha => by
    obtain ⟨z1, z2⟩ := q5.out a ha
    refine ⟨?_, x'.n a z1 z2⟩
    cases q : H a with
    | none => exact absurd q z2
    | some o => exact x'.h a o q
/-- xs.extend(e) -/
theorem s1_extend (hX : Cs X m N sc fs k) {i : Nat} {x : Str} {os : List Ow} {ds : List D} {p1 : Pos} (hi : Ix N i x) (hv : visB sc x = true) (he : env[i]? = some (some (.lst os))) (hz : os.length + ds.length ≤ sizeLine) (hp : P X env e (.per (.lst ds))) (h : Φ (.nx (env.set i (some (.lst (os ++ ds.map Ow.per))))))
    (hbase : ∀ en, attributeBase (.Name x p1) "extend" en (eval (.Name x p1) en) = eval (.Name x p1) en := by intro _; rfl)
    (hfew : ∀ en, ((backTo pos (starEach [e] en)).all (fun x => !x.1) && (backToKw pos (keywordEach [] en)).all (fun x => x.1.isSome) && decide (([e]).length + ([] : List Keyword).length + (if ([] : List Keyword).isEmpty then 0 else 1) < 30)) = true := by intro _; rfl)
    (hline : (apos.endLine == pos.line) = true := by rfl) (hs : ∀ en, starEach [e] en = [(false, eval e en)] := by intro _; rfl) {pos2 : Pos} :
    S1 X (.Expr (.Call (.Attribute (.Name x p1) "extend" apos) [e] [] pos) pos2) env Φ := .mk fun σ G0 H0 G H y E D kk => by
  obtain ⟨p, vs, fq, q1, q2, q3, q4, q5, q6, q7, q8⟩ := E.own y.h he
  refine WS.of (ps_expr (pe_bm PySem.F.plainAttrs_list PySem.F.slot_list_extend PySem.F.type_list_extend mt_extend (pe_var (i := i) (by rw [hX.hN]; exact hi.at_) (by rw [hX.hS]; exact vis_of hv) hi.d1 hi.d2) (pa_cons pWE pa_nil (by rw [hs]; rfl)) (hbase _) (hfew _) hline (by rw [hs]; rfl)) rfl) ?_
  refine ⟨.ref p, q1, .inl ⟨rfl, _, SqL.of q2⟩, ?_⟩
  refine hp.go y.s E fun v G' H' x' r => ?_
  simp only [Rp] at r
  obtain ⟨b, zs, rfl, r2, r3⟩ := r
  have hpn : H p ≠ none := by rw [q2]; simp
  refine ⟨p, b, vs, zs, rfl, rfl, x'.h _ _ q2, x'.s _ _ r2, by rw [q5.length, r3.length]; exact hz, ?_⟩
  refine kk.nx _ σ G' _ h (wp_mono (K := X.K) (G := G) (H := H) (y.trans x') q4 (x'.n p q3 hpn)) (q8 _ _ (fq ++ []) G' H' x' ((keepR x' q5).append (ROs.per r3)) (by simpa using q6) (by simpa using q7) fun a ha => .inl (by simpa using ha))
/-- xs.clear() -/
theorem s1_clear (hX : Cs X m N sc fs k) {i : Nat} {x : Str} {os : List Ow} {p1 : Pos} (hi : Ix N i x) (hv : visB sc x = true) (he : env[i]? = some (some (.lst os))) (h : Φ (.nx (env.set i (some (.lst [])))))
    (hbase : ∀ en, attributeBase (.Name x p1) "clear" en (eval (.Name x p1) en) = eval (.Name x p1) en := by intro _; rfl) (hline : (apos.endLine == pos.line) = true := by rfl) {pos2 : Pos} :
    S1 X (.Expr (.Call (.Attribute (.Name x p1) "clear" apos) [] [] pos) pos2) env Φ := .mk fun σ G0 H0 G H y E D kk => by
  obtain ⟨p, vs, fq, q1, q2, q3, q4, q5, q6, q7, q8⟩ := E.own y.h he
  refine WS.of (ps_expr (pe_bm0 PySem.F.plainAttrs_list PySem.F.slot_list_clear PySem.F.type_list_clear mt_clear (pe_var (i := i) (by rw [hX.hN]; exact hi.at_) (by rw [hX.hS]; exact vis_of hv) hi.d1 hi.d2) (hbase _) hline) rfl) ?_
  refine ⟨.ref p, q1, .inl ⟨rfl, _, SqL.of q2⟩, p, vs, rfl, rfl, q2, ?_⟩
  refine kk.nx _ σ G _ h (wp_mono (K := X.K) (G := G) (H := H) y q4 q3) (q8 _ _ [] G H (Ex2.refl y.s) (by simp [ROs]) (by simp) List.nodup_nil fun a ha => by cases ha)
theorem ROs.dropLast {K : PySem.W.Frag} {G H : Hp} : ∀ {os : List Ow} {o : Ow} {vs : List V} {fq : List Addr}, ROs K G H (os ++ [o]) vs fq → ∃ vs' v f1 f2, vs = vs' ++ [v] ∧ fq = f1 ++ f2 ∧ ROs K G H os vs' f1 ∧ RO K G H o v f2
  | [], o, vs, fq, h => by
    simp only [List.nil_append, ROs] at h
    obtain ⟨v, _, f1, _, rfl, rfl, h1, rfl, rfl⟩ := h
    exact ⟨[], v, [], f1, rfl, by simp, by simp [ROs], h1⟩
  | p :: os, o, vs, fq, h => by
    simp only [List.cons_append, ROs] at h
    obtain ⟨v, vr, f1, f2, rfl, rfl, h1, h2⟩ := h
    obtain ⟨vs', w, g1, g2, rfl, rfl, k1, k2⟩ := ROs.dropLast h2
    refine ⟨v :: vs', w, f1 ++ g1, g2, rfl, by simp, ?_, k2⟩
    simp only [ROs]
    exact ⟨v, vs', f1, g1, rfl, rfl, h1, k1⟩
/-- xs.pop() -/
theorem s1_pop (hX : Cs X m N sc fs k) {i : Nat} {x : Str} {os : List Ow} {o : Ow} {p1 : Pos} (hi : Ix N i x) (hv : visB sc x = true) (he : env[i]? = some (some (.lst (os ++ [o])))) (h : Φ (.nx (env.set i (some (.lst os)))))
    (hbase : ∀ en, attributeBase (.Name x p1) "pop" en (eval (.Name x p1) en) = eval (.Name x p1) en := by intro _; rfl) (hline : (apos.endLine == pos.line) = true := by rfl) {pos2 : Pos} :
    S1 X (.Expr (.Call (.Attribute (.Name x p1) "pop" apos) [] [] pos) pos2) env Φ := .mk fun σ G0 H0 G H y E D kk => by
  obtain ⟨p, vs, fq, q1, q2, q3, q4, q5, q6, q7, q8⟩ := E.own y.h he
  obtain ⟨vs', v, f1, f2, rfl, rfl, r1, r2⟩ := q5.dropLast
  refine WS.of (ps_expr (pe_bm0 PySem.F.plainAttrs_list PySem.F.slot_list_pop PySem.F.type_list_pop mt_pop (pe_var (i := i) (by rw [hX.hN]; exact hi.at_) (by rw [hX.hS]; exact vis_of hv) hi.d1 hi.d2) (hbase _) hline) rfl) ?_
  refine ⟨.ref p, q1, .inl ⟨rfl, _, SqL.of q2⟩, p, _, v, rfl, rfl, q2, by simp, ?_⟩
  rw [List.dropLast_concat]
  refine kk.nx _ σ G _ h (wp_mono (K := X.K) (G := G) (H := H) y q4 q3) (q8 _ _ f1 G H (Ex2.refl y.s) r1 (fun z => q6 (List.mem_append_left _ z)) (List.nodup_append.mp q7).1 fun a ha => .inl (List.mem_append_left _ ha))
/-- tg = xs.pop() -/
theorem s1_asgPop (hX : Cs X m N sc fs k) {i : Nat} {x : Str} {os : List Ow} {d : D} {js : List Nat} {p1 : Pos} (hi : Ix N i x) (hv : visB sc x = true) (he : env[i]? = some (some (.lst (os ++ [.per d])))) (hg : Tg X (env.set i (some (.lst os))) tg d env' js) (h : Φ (.nx env'))
    (hbase : ∀ en, attributeBase (.Name x p1) "pop" en (eval (.Name x p1) en) = eval (.Name x p1) en := by intro _; rfl) (hline : (apos.endLine == pos.line) = true := by rfl) {pos2 : Pos}
    (hs : ∀ en, swapsWithSole [tg] (.Call (.Attribute (.Name x p1) "pop" apos) [] [] pos) pos2.line en = pure false := by intro _; rfl) (hw : ∀ en, swappedStores [tg] (.Call (.Attribute (.Name x p1) "pop" apos) [] [] pos) en = pure none := by intro _; rfl)
    (h1 : ∀ en, (assignEach [tg] en).map (·.2) = [assign tg en] := by intro _; rfl) :
    S1 X (.Assign [tg] (.Call (.Attribute (.Name x p1) "pop" apos) [] [] pos) pos2) env Φ := .mk fun σ G0 H0 G H y E D kk => by
  obtain ⟨p, vs, fq, q1, q2, q3, q4, q5, q6, q7, q8⟩ := E.own y.h he
  obtain ⟨vs', v, f1, f2, rfl, rfl, r1, r2⟩ := q5.dropLast
  refine WS.of (ps_asg (pe_bm0 PySem.F.plainAttrs_list PySem.F.slot_list_pop PySem.F.type_list_pop mt_pop (pe_var (i := i) (by rw [hX.hN]; exact hi.at_) (by rw [hX.hS]; exact vis_of hv) hi.d1 hi.d2) (hbase _) hline) pWG (hs _) (hw _) (h1 _)) ?_
  refine ⟨.ref p, q1, .inl ⟨rfl, _, SqL.of q2⟩, p, _, v, rfl, rfl, q2, by simp, ?_⟩
  rw [List.dropLast_concat]
  have xx := wp_mono (K := X.K) (G := G) (H := H) (o := HO.lst vs') y q4 q3
  simp only [RO] at r2
  refine hg.run H0 G _ σ v _ xx.s (q8 _ _ f1 G H (Ex2.refl y.s) r1 (fun z => q6 (List.mem_append_left _ z)) (List.nodup_append.mp q7).1 fun a ha => .inl (List.mem_append_left _ ha)) r2.2 fun σ' E' _ => ?_
  exact kk.nx _ σ' G _ h xx E'
theorem ROs.set {K : PySem.W.Frag} {G H : Hp} : ∀ {os : List Ow} {vs : List V} {fp : List Addr} {i : Nat} {o : Ow} {v : V} {f : List Addr}, ROs K G H os vs fp → i < os.length → RO K G H o v f →
    ∃ fp', ROs K G H (os.set i o) (vs.set i v) fp' ∧ (∀ a ∈ fp', a ∈ f ∨ a ∈ fp) ∧ (fp.Nodup → f.Nodup → (∀ a ∈ f, a ∉ fp) → fp'.Nodup)
  | [], vs, fp, i, o, v, f, h, hi, r => by simp at hi
  | p :: os, vs, fp, 0, o, v, f, h, hi, r => by
    simp only [ROs] at h
    obtain ⟨u, q, g1, g2, rfl, rfl, h3, h4⟩ := h
    refine ⟨f ++ g2, by simp only [List.set_cons_zero, ROs]; exact ⟨v, q, f, g2, rfl, rfl, r, h4⟩, fun a ha => ?_, fun n1 n2 d => ?_⟩
    · rcases List.mem_append.mp ha with ha | ha
      · exact .inl ha
      · exact .inr (List.mem_append_right _ ha)
    · exact List.nodup_append.mpr ⟨n2, (List.nodup_append.mp n1).2.1, fun a ha b hb e => d a ha (List.mem_append_right _ (e ▸ hb))⟩
  | p :: os, vs, fp, i + 1, o, v, f, h, hi, r => by
    simp only [ROs] at h
    obtain ⟨u, q, g1, g2, rfl, rfl, h3, h4⟩ := h
    obtain ⟨fp', k1, k2, k3⟩ := ROs.set (i := i) h4 (by simpa using hi) r
    refine ⟨g1 ++ fp', by simp only [List.set_cons_succ, ROs]; exact ⟨u, _, g1, fp', rfl, rfl, h3, k1⟩, fun a ha => ?_, fun n1 n2 d => ?_⟩
    · rcases List.mem_append.mp ha with ha | ha
      · exact .inr (List.mem_append_left _ ha)
      · rcases k2 a ha with z | z
        · exact .inl z
        · exact .inr (List.mem_append_right _ z)
    · obtain ⟨m1, m2, m3⟩ := List.nodup_append.mp n1
      refine List.nodup_append.mpr ⟨m1, k3 m2 n2 fun a ha hb => d a ha (List.mem_append_right _ hb), fun a ha b hb e => ?_⟩
      subst e
      rcases k2 a hb with z | z
      · exact d a z (List.mem_append_left _ ha)
      · exact m3 a ha a z rfl
/-- xs[b] = e -/
theorem s1_setItem (hX : Cs X m N sc fs k) {i : Nat} {x : Str} {os : List Ow} {o : Ow} {j : Int} {n : Nat} {p1 p2 p3 : Pos} (hi : Ix N i x) (hv : visB sc x = true) (he : env[i]? = some (some (.lst os))) (hj : ixN os.length j = some n) (hp : P X env e o) (hb : P X env b (.per (.int j)))
    (h : Φ (.nx (env.set i (some (.lst (os.set n o))))))
    (ha : ∀ en v, assign (.Subscript (.Name x p1) b p2) en v = (do
      let ov ← holding [v] (eval (.Name x p1) en)
      let iv ← holding [v, ov] (eval b en)
      standAt p2
      holding [v, ov, iv] (setItem ov iv v)
      release [v, ov, iv] []) := by intro _ _; rfl)
    (hs : ∀ en, swapsWithSole [.Subscript (.Name x p1) b p2] e p3.line en = pure false := by intro _; rfl) (hw : ∀ en, swappedStores [.Subscript (.Name x p1) b p2] e en = pure none := by intro _; rfl)
    (h1 : ∀ en, (assignEach [.Subscript (.Name x p1) b p2] en).map (·.2) = [assign (.Subscript (.Name x p1) b p2) en] := by intro _; rfl) :
    S1 X (.Assign [.Subscript (.Name x p1) b p2] e p3) env Φ := .mk fun σ G0 H0 G H y E D kk => by
  refine WS.of (ps_asg pWE (pg_sub (pe_var (i := i) (by rw [hX.hN]; exact hi.at_) (by rw [hX.hS]; exact vis_of hv) hi.d1 hi.d2) pWE set_list (ha _)) (hs _) (hw _) (h1 _)) ?_
  obtain ⟨p, vs, fq, q1, q2, q3, q4, q5, q6, q7, q8⟩ := E.own y.h he
  refine hp.run H0 σ G H y.s E _ fun v G1 H1 fp x1 r1 n1 d1 => ?_
  refine ⟨.ref p, q1, ?_⟩
  refine hb.go x1.s (E.later x1) fun w G2 H2 x2 r2 => ?_
  simp only [Rp] at r2
  subst r2
  have hpn : H p ≠ none := by rw [q2]; simp
  have x12 := x1.trans x2
  refine ⟨p, vs, j, n, rfl, rfl, x12.h _ _ q2, by rw [q5.length]; exact hj, ?_⟩
  have hn : n < os.length := by
    unfold ixN at hj
    split at hj
    · split at hj
      · cases hj; omega
      · cases hj
    · split at hj
      · cases hj; omega
      · cases hj
  obtain ⟨fq', k1, k2, k3⟩ := ROs.set (keepR x12 q5) hn (keepO x2 r1)
  refine kk.nx _ σ G2 _ h (wp_mono (K := X.K) (G := G) (H := H) (y.trans x12) q4 (x12.n p q3 hpn)) (q8 _ _ fq' G2 H2 x12 k1 (fun z => ?_) (k3 q7 d1 fun a ha z => (q5.out a z).2 (n1 a ha)) fun a ha => ?_)
  · rcases k2 p z with z | z
    · exact hpn (n1 p z)
    · exact q6 z
  · rcases k2 a ha with z | z
    · exact .inr (n1 a z)
    · exact .inl z
end
end Pu

set_option Elab.async false
set_option linter.all false
set_option autoImplicit false
set_option maxRecDepth 100000
set_option maxHeartbeats 1000000
namespace Pu
open PySem L2
/-- a def's promise over data: R tells which arguments are taken and what comes of them -/
def spP (K : PySem.W.Frag) (R : List D → Ow → Prop) : Sp := fun vs H Q _ => ∃ G ds o, Sub G H ∧ Rps K G ds vs ∧ R ds o ∧ Gv K G H o Q
/-- the module's def x, with n arguments, keeps R -/
def FnAt (m : Md) (k : Nat) (x : Str) (n : Nat) (R : List D → Ow → Prop) : Prop := ∃ (f : Addr) (fd : FuncData) (ps : List Str), ps.length = n ∧ m.mg x = some (.ref f) ∧ PySem.W.keepIn m.K (.ref f) = true ∧ Binds m.K fd ps [] ∧ FnOk m.P m.w m.K m.mg m.base CX0 k f fd ps (spP m.K R)
/-- a body gives o -/
def Ret (o : Ow) : Out → Prop
  | .rt o' => o' = o
  | .nx _ => o = .per .non
  | _ => False
/-- the slots at a def's entry -/
def ent (N : List Str) (ds : List D) : Ev := ds.map (fun d => some (Ow.per d)) ++ List.replicate (N.length - ds.length) none
theorem ens_none {K : PySem.W.Frag} {G H : Hp} : ∀ n : Nat, Ens K G H (List.replicate n none) (List.replicate n none) []
  | 0 => ⟨rfl, rfl⟩
  | n + 1 => ⟨none, _, rfl, ens_none n⟩
theorem ens_args {K : PySem.W.Frag} {G H : Hp} {env : Ev} {σ : St} : ∀ {ds : List D} {vs : List V}, Rps K G ds vs → Ens K G H env σ [] → Ens K G H (ds.map (fun d => some (Ow.per d)) ++ env) (vs.map some ++ σ) []
  | [], _, h, h' => by simp only [Rps] at h; subst h; exact h'
  | d :: ds, _, h, h' => by
    simp only [Rps] at h
    obtain ⟨v, vs, rfl, h2, h3⟩ := h
    exact ⟨v, _, [], [], rfl, rfl, by simp only [RO]; exact ⟨trivial, h2⟩, ens_args h3 h'⟩
section
variable {m : Md} {N ps : List Str} {k : Nat} {x qual : Str} {params : Arguments} {body : List Stmt} {scope : Scope} {kws : List (Str × V)} {f : Addr} {fd : FuncData} {R : List D → Ow → Prop}
theorem fnOk (F : FunD m.K x qual params body scope [] kws f fd) (Sc : FnScope N ps scope) (hR : ∀ ds o, R ds o → ds.length = ps.length)
    (h : ∀ X, Cs X m N scope scope k → ∀ ds o, R ds o → S X body (ent N ds) (Ret o)) : FnOk m.P m.w m.K m.mg m.base CX0 (k + 1) f fd ps (spP m.K R) := by
  refine F.ok Sc (fun vs H Q E ⟨G, ds, o, _, r, hr, _⟩ => by rw [r.length]; exact hR ds o hr) fun cdv A outer s H vs Q E hr hsp => ?_
  obtain ⟨G, ds, o, sub, r, hRd, g⟩ := hsp
  refine ⟨WSs (cxOf CX0 m.P m.w m.K m.mg m.base N qual scope f cdv A outer s H E).nox body, PSs.nox pWSs, ?_⟩
  have hX : Cs (cxOf CX0 m.P m.w m.K m.mg m.base N qual scope f cdv A outer s H E).nox m N scope scope k := ⟨rfl, rfl, rfl, rfl, rfl, rfl, rfl, rfl, hr, Sc.nd, fun _ _ => rfl, PassesOwn.never⟩
  have hl := r.length
  refine (h _ hX ds o hRd).run (L2.start N vs) G H G H (Ex2.refl sub) ⟨[], ?_, List.nodup_nil, fun a ha => by cases ha⟩ _ ⟨?_, ?_, ?_, ?_⟩
  · unfold ent L2.start
    rw [hl]
    exact ens_args r (ens_none _)
  · intro env σ G' H' ho x' E'
    have ho : o = .per .non := ho
    subst ho
    exact g .non G' H' [] x' (by simp only [RO, Rp]; exact ⟨trivial, trivial⟩) (fun a ha => by cases ha) List.nodup_nil
  · intro env σ G' H' ho; exact ho.elim
  · intro env σ G' H' ho; exact ho.elim
  · intro o' v G' H' fp ho x' r' d' n'
    have ho : o' = o := ho
    subst ho
    exact g v G' H' fp x' r' n' d'
theorem fnAt (F : FunD m.K x qual params body scope [] kws f fd) (Sc : FnScope N ps scope) (hm : m.mg x = some (.ref f)) (hb : Binds m.K fd ps []) (hR : ∀ ds o, R ds o → ds.length = ps.length)
    (h : ∀ X, Cs X m N scope scope k → ∀ ds o, R ds o → S X body (ent N ds) (Ret o)) : FnAt m (k + 1) x ps.length R := ⟨f, fd, ps, rfl, hm, F.kp, hb, fnOk F Sc hR h⟩
end
section
variable {X : Cx} {m : Md} {N : List Str} {sc fs : Scope} {k j n : Nat} {env : Ev} {e : Expr} {es : List Expr} {pos p : Pos} {x : Str} {R : List D → Ow → Prop} {ds : List D} {o : Ow}
theorem p_call (hX : Cs X m N sc fs k) (F : FnAt m j x n R) (hj : j ≤ k) (hg : gloB sc x = true) (ha : As X env (e :: es) ds) (hR : R ds o) (hdb : (x == ("__debug__" : Str)) = false := by decide +kernel)
    (he : ∀ en, starEach (e :: es) en = (false, eval e en) :: starEach es en := by intro _; rfl) (hpl : ∀ en, (backTo pos (starEach es en)).any (·.1) = false := by intro _; rfl) : P X env (.Call (.Name x p) (e :: es) [] pos) o := .mk fun H0 σ G H s E Q g => by
  obtain ⟨f, fd, ps, hn, hm, hk, hb, F⟩ := F
  have F' : FnOk X.prog X.w X.K X.mg X.base CX0 j f fd ps (spP X.K R) := by rw [hX.hP, hX.hW, hX.hK, hX.hM, hX.hB]; exact F
  refine WE.of (pe_call F' (hX.room.mono hj) (hX.gl hg) (by rw [hX.hM]; exact hm) (by rw [hX.hK]; exact hk) (by rw [hX.hK]; exact hb) .nil pass0 pWA hdb (he _) (hpl _)) ?_
  refine ha.run H0 σ G H s E _ fun vs G1 H1 x1 r1 => ⟨G1, ds, o, x1.s, by rw [List.append_nil]; exact r1, hR, g.trans x1⟩
theorem p_call0 (hX : Cs X m N sc fs k) (F : FnAt m j x n R) (hj : j ≤ k) (hg : gloB sc x = true) (hR : R [] o) (hdb : (x == ("__debug__" : Str)) = false := by decide +kernel) : P X env (.Call (.Name x p) [] [] pos) o := .mk fun H0 σ G H s E Q g => by
  obtain ⟨f, fd, ps, hn, hm, hk, hb, F⟩ := F
  have F' : FnOk X.prog X.w X.K X.mg X.base CX0 j f fd ps (spP X.K R) := by rw [hX.hP, hX.hW, hX.hK, hX.hM, hX.hB]; exact F
  refine WE.of (pe_call0 F' (hX.room.mono hj) (hX.gl hg) (by rw [hX.hM]; exact hm) (by rw [hX.hK]; exact hk) (by rw [hX.hK]; exact hb) .nil pass0 hdb) ?_
  exact ⟨G, [], o, s, by simp only [List.append_nil, Rps], hR, g⟩
end
end Pu

set_option Elab.async false
set_option linter.all false
set_option autoImplicit false
set_option maxRecDepth 100000
set_option maxHeartbeats 1000000
namespace Pu
open PySem L2
/-! ### kinds -/
def D.pl (d : D) : Bool := (tyN d).isSome
def D.isInt : D → Bool | .int _ => true | .bl _ => true | _ => false
def D.isBool : D → Bool | .bl _ => true | _ => false
def D.isStr : D → Bool | .str _ => true | _ => false
def D.isList : D → Bool | .lst _ => true | .fz _ => true | _ => false
def D.isTuple : D → Bool | .tup _ => true | _ => false
def D.isDict : D → Bool | .dK _ _ => true | .dT _ _ => true | _ => false
section
variable {X : Cx} {m : Md} {N : List Str} {sc fs : Scope} {k : Nat} {env : Ev} {a b c e : Expr} {es : List Expr} {pos p p' : Pos} {d : D}
theorem p_isK (hX : Cs X m N sc fs k) {x : Str} {n : String} {q : D → Bool} (hk : ∀ d t, tyN d = some t → kitB t n = some (q d)) (hb : bltT x n = true) (hd : d.pl = true) (hg : gloB sc "isinstance" = true) (hm : m.mg "isinstance" = none) (hg2 : gloB sc x = true) (hm2 : m.mg x = none) (ha : P X env a (.per d))
    (he : ∀ en, starEach [a, .Name x p'] en = [(false, eval a en), (false, eval (.Name x p') en)] := by intro _; rfl) : P X env (.Call (.Name "isinstance" p) [a, .Name x p'] [] pos) (.per (.bl (q d))) := by
  cases ht : tyN d with
  | none => unfold D.pl at hd; rw [ht] at hd; cases hd
  | some t => exact p_isi hX ht (hk d t ht) hg hm ha (p_ty hX hg2 hm2 hb) he
theorem kI (d : D) (t : String) (h : tyN d = some t) : kitB t "int" = some d.isInt := by
  cases d <;> simp only [tyN] at h <;> cases h <;> simp only [D.isInt] <;> decide +kernel
theorem kB (d : D) (t : String) (h : tyN d = some t) : kitB t "bool" = some d.isBool := by
  cases d <;> simp only [tyN] at h <;> cases h <;> simp only [D.isBool] <;> decide +kernel
theorem kS (d : D) (t : String) (h : tyN d = some t) : kitB t "str" = some d.isStr := by
  cases d <;> simp only [tyN] at h <;> cases h <;> simp only [D.isStr] <;> decide +kernel
theorem kL (d : D) (t : String) (h : tyN d = some t) : kitB t "list" = some d.isList := by
  cases d <;> simp only [tyN] at h <;> cases h <;> simp only [D.isList] <;> decide +kernel
theorem kT (d : D) (t : String) (h : tyN d = some t) : kitB t "tuple" = some d.isTuple := by
  cases d <;> simp only [tyN] at h <;> cases h <;> simp only [D.isTuple] <;> decide +kernel
theorem kD (d : D) (t : String) (h : tyN d = some t) : kitB t "dict" = some d.isDict := by
  cases d <;> simp only [tyN] at h <;> cases h <;> simp only [D.isDict] <;> decide +kernel
variable (hX : Cs X m N sc fs k) (hd : d.pl = true) (hg : gloB sc "isinstance" = true) (hm : m.mg "isinstance" = none)
include hX hd hg hm
theorem p_isInt (hg2 : gloB sc "int" = true) (hm2 : m.mg "int" = none) (ha : P X env a (.per d)) (he : ∀ en, starEach [a, .Name "int" p'] en = [(false, eval a en), (false, eval (.Name "int" p') en)] := by intro _; rfl) : P X env (.Call (.Name "isinstance" p) [a, .Name "int" p'] [] pos) (.per (.bl d.isInt)) := p_isK hX kI (by decide +kernel) hd hg hm hg2 hm2 ha he
theorem p_isBool (hg2 : gloB sc "bool" = true) (hm2 : m.mg "bool" = none) (ha : P X env a (.per d)) (he : ∀ en, starEach [a, .Name "bool" p'] en = [(false, eval a en), (false, eval (.Name "bool" p') en)] := by intro _; rfl) : P X env (.Call (.Name "isinstance" p) [a, .Name "bool" p'] [] pos) (.per (.bl d.isBool)) := p_isK hX kB (by decide +kernel) hd hg hm hg2 hm2 ha he
theorem p_isStr (hg2 : gloB sc "str" = true) (hm2 : m.mg "str" = none) (ha : P X env a (.per d)) (he : ∀ en, starEach [a, .Name "str" p'] en = [(false, eval a en), (false, eval (.Name "str" p') en)] := by intro _; rfl) : P X env (.Call (.Name "isinstance" p) [a, .Name "str" p'] [] pos) (.per (.bl d.isStr)) := p_isK hX kS (by decide +kernel) hd hg hm hg2 hm2 ha he
theorem p_isList (hg2 : gloB sc "list" = true) (hm2 : m.mg "list" = none) (ha : P X env a (.per d)) (he : ∀ en, starEach [a, .Name "list" p'] en = [(false, eval a en), (false, eval (.Name "list" p') en)] := by intro _; rfl) : P X env (.Call (.Name "isinstance" p) [a, .Name "list" p'] [] pos) (.per (.bl d.isList)) := p_isK hX kL (by decide +kernel) hd hg hm hg2 hm2 ha he
theorem p_isTuple (hg2 : gloB sc "tuple" = true) (hm2 : m.mg "tuple" = none) (ha : P X env a (.per d)) (he : ∀ en, starEach [a, .Name "tuple" p'] en = [(false, eval a en), (false, eval (.Name "tuple" p') en)] := by intro _; rfl) : P X env (.Call (.Name "isinstance" p) [a, .Name "tuple" p'] [] pos) (.per (.bl d.isTuple)) := p_isK hX kT (by decide +kernel) hd hg hm hg2 hm2 ha he
end
/-! ### chains of two comparisons of ints -/
section
variable {X : Cx} {m : Md} {N : List Str} {sc fs : Scope} {k : Nat} {env : Ev} {a b c e : Expr} {es : List Expr} {pos p p' : Pos} {i j l : Int}
theorem p_chain {op op' : CmpOp} {f f' : Int → Int → Bool} (ho : OpR X (compareOp op) (rI0 fun i j => .bl (f i j))) (ho' : OpR X (compareOp op') (rI0 fun i j => .bl (f' i j))) (ha : P X env a (.per (.int i))) (hb : P X env b (.per (.int j))) (hc : P X env c (.per (.int l)))
    (hm : lastMarks [op, op'] [b, c] = false) : P X env (.Compare a [op, op'] [b, c] pos) (.per (.bl (f i j && f' j l))) := .mk fun H0 σ G H s E Q g =>
  WE.of (pe_chain ho ho' pWE pWE pWE hm) (ha.go s E fun x G1 H1 x1 r1 => hb.go x1.s (E.later x1) fun y G2 H2 x2 r2 => by
    simp only [Rp] at r1 r2
    refine ⟨i, j, r1, r2, f i j, rfl, ?_⟩
    cases q : f i j with
    | false =>
      rw [q] at g
      exact iteF ((g.trans (x1.trans x2)).val x2.s (by simp [Rp]))
    | true =>
      rw [q] at g
      refine iteT (hc.go x2.s ((E.later x1).later x2) fun z G3 H3 x3 r3 => ?_)
      simp only [Rp] at r3
      exact ⟨j, l, r2, r3, (g.trans (x1.trans (x2.trans x3))).val x3.s (by simp [Rp])⟩)
theorem p_leLe (ha : P X env a (.per (.int i))) (hb : P X env b (.per (.int j))) (hc : P X env c (.per (.int l))) (hm : lastMarks [.LtE, .LtE] [b, c] = false := by with_unfolding_all rfl) : P X env (.Compare a [.LtE, .LtE] [b, c] pos) (.per (.bl (decide (i ≤ j) && decide (j ≤ l)))) :=
  p_chain (f := fun i j => decide (i ≤ j)) (f' := fun i j => decide (i ≤ j)) op_le op_le ha hb hc hm
end
/-! ### equality of data -/
mutual
def toPy : D → PyData
  | .non => .none
  | .bl b => .bool b
  | .int i => .int i
  | .str x => .str x
  | .lst xs => .list (toPys xs)
  | .fz xs => .list (toPys xs)
  | .tup xs => .tuple (toPys xs)
  | _ => .dict []
def toPys : List D → List PyData
  | [] => []
  | d :: ds => toPy d :: toPys ds
end
mutual
/-- data of lists and tuples, at most n deep -/
def D.flat : Nat → D → Bool
  | _, .non => true
  | _, .bl _ => true
  | _, .int _ => true
  | _, .str x => PyData.strOk x
  | n, .lst xs => match n with | 0 => false | n + 1 => flats n xs
  | n, .fz xs => match n with | 0 => false | n + 1 => flats n xs
  | n, .tup xs => match n with | 0 => false | n + 1 => flats n xs
  | _, _ => false
def flats : Nat → List D → Bool
  | _, [] => true
  | n, d :: ds => D.flat n d && flats n ds
end
theorem flats_all {n : Nat} : ∀ {ds : List D}, flats n ds = ds.all (D.flat n)
  | [] => rfl
  | d :: ds => by simp only [flats, List.all_cons, flats_all]

section
variable {K : PySem.W.Frag} {G H : Hp}
mutual
theorem Rp.dp (s : Sub G H) : ∀ {n : Nat} {d : D} {v : V}, D.flat n d = true → Rp K G d v → Dp K H v (toPy d)
  | _, .non, v, _, h => by simp only [Rp] at h; subst h; exact .non
  | _, .bl b, v, _, h => by simp only [Rp] at h; subst h; exact .bl b
  | _, .int b, v, _, h => by simp only [Rp] at h; subst h; exact .int b
  | _, .str b, v, _, h => by simp only [Rp] at h; subst h; exact .str b
  | 0, .lst ds, v, f, h => by simp [D.flat] at f
  | n + 1, .lst ds, v, f, h => by
    simp only [Rp] at h
    obtain ⟨a, xs, rfl, h2, h3⟩ := h
    simp only [toPy]
    exact .lst (SqL.of (s _ _ h2)) (Rps.dp s (n := n) (by simpa only [D.flat] using f) h3)
  | 0, .fz ds, v, f, h => by simp [D.flat] at f
  | n + 1, .fz ds, v, f, h => by
    simp only [Rp] at h
    obtain ⟨a, xs, rfl, h2, h3⟩ := h
    simp only [toPy]
    exact .lst (sub_sqL s h2) (Rps.dp s (n := n) (by simpa only [D.flat] using f) h3)
  | 0, .tup ds, v, f, h => by simp [D.flat] at f
  | n + 1, .tup ds, v, f, h => by
    simp only [Rp] at h
    obtain ⟨a, xs, rfl, h2, h3⟩ := h
    simp only [toPy]
    exact .tup (sub_sqT s h2) (Rps.dp s (n := n) (by simpa only [D.flat] using f) h3)
  | _, .ty _, v, f, h => by simp [D.flat] at f
  | _, .adr _, v, f, h => by simp [D.flat] at f
  | _, .obj _ _ _, v, f, h => by simp [D.flat] at f
  | _, .dK _ _, v, f, h => by simp [D.flat] at f
  | _, .dT _ _, v, f, h => by simp [D.flat] at f
theorem Rps.dp (s : Sub G H) : ∀ {n : Nat} {ds : List D} {vs : List V}, flats n ds = true → Rps K G ds vs → DpAll K H vs (toPys ds)
  | _, [], vs, _, h => by simp only [Rps] at h; subst h; exact .nil
  | n, d :: ds, vs, f, h => by
    simp only [Rps] at h
    obtain ⟨v, vr, rfl, h2, h3⟩ := h
    simp only [flats, Bool.and_eq_true] at f
    simp only [toPys]
    exact .cons (Rp.dp s f.1 h2) (Rps.dp s f.2 h3)
end
mutual
theorem flat_lay : ∀ {n : Nat} {d : D}, D.flat n d = true → (toPy d).canLay0 = true ∧ (toPy d).depth ≤ n
  | _, .non, _ => ⟨rfl, Nat.zero_le _⟩
  | _, .bl b, _ => ⟨rfl, Nat.zero_le _⟩
  | _, .int b, _ => ⟨rfl, Nat.zero_le _⟩
  | _, .str b, f => ⟨by simpa only [D.flat, toPy, PyData.canLay0] using f, Nat.zero_le _⟩
  | 0, .lst ds, f => by simp [D.flat] at f
  | n + 1, .lst ds, f => by
    obtain ⟨h1, h2⟩ := flats_lay (n := n) (ds := ds) (by simpa only [D.flat] using f)
    simp only [toPy, PyData.canLay0, PyData.depth]
    exact ⟨h1, Nat.succ_le_succ h2⟩
  | 0, .fz ds, f => by simp [D.flat] at f
  | n + 1, .fz ds, f => by
    obtain ⟨h1, h2⟩ := flats_lay (n := n) (ds := ds) (by simpa only [D.flat] using f)
    simp only [toPy, PyData.canLay0, PyData.depth]
    exact ⟨h1, Nat.succ_le_succ h2⟩
  | 0, .tup ds, f => by simp [D.flat] at f
  | n + 1, .tup ds, f => by
    obtain ⟨h1, h2⟩ := flats_lay (n := n) (ds := ds) (by simpa only [D.flat] using f)
    simp only [toPy, PyData.canLay0, PyData.depth]
    exact ⟨h1, Nat.succ_le_succ h2⟩
  | _, .ty _, f => by simp [D.flat] at f
  | _, .adr _, f => by simp [D.flat] at f
  | _, .obj _ _ _, f => by simp [D.flat] at f
  | _, .dK _ _, f => by simp [D.flat] at f
  | _, .dT _ _, f => by simp [D.flat] at f
theorem flats_lay : ∀ {n : Nat} {ds : List D}, flats n ds = true → PyData.canLayAll0 (toPys ds) = true ∧ PyData.depthAll (toPys ds) ≤ n
  | _, [], _ => ⟨rfl, Nat.zero_le _⟩
  | n, d :: ds, f => by
    simp only [flats, Bool.and_eq_true] at f
    obtain ⟨h1, h2⟩ := flat_lay f.1
    obtain ⟨h3, h4⟩ := flats_lay f.2
    simp only [toPys, PyData.canLayAll0, PyData.depthAll, h1, h3, Bool.and_self, true_and]
    omega
end
theorem flat_shaped {n : Nat} {d : D} (h : D.flat n d = true) (hn : n ≤ 64) : SeqAt.shaped (toPy d) = true := by
  obtain ⟨h1, h2⟩ := flat_lay h
  unfold SeqAt.shaped
  rw [h1]
  simp
  omega
end
/-- == of data -/
def D.eqv (a b : D) : Bool := PyData.eqv (toPy a) (toPy b)
def eqvs (a b : List D) : Bool := PyData.eqvAll (toPys a) (toPys b)
theorem eqv_lst (a b : List D) : D.eqv (.lst a) (.lst b) = eqvs a b := by simp only [D.eqv, toPy, PyData.eqv, eqvs]
theorem eqv_tup (a b : List D) : D.eqv (.tup a) (.tup b) = eqvs a b := by simp only [D.eqv, toPy, PyData.eqv, eqvs]
theorem eqvs_cons (a b : D) (as bs : List D) : eqvs (a :: as) (b :: bs) = (D.eqv a b && eqvs as bs) := by simp only [eqvs, toPys, PyData.eqvAll, D.eqv]
theorem eqvs_nil : eqvs [] [] = true := by simp only [eqvs, toPys, PyData.eqvAll]
theorem eqvs_nc (b : D) (bs : List D) : eqvs [] (b :: bs) = false := by simp only [eqvs, toPys, PyData.eqvAll]
theorem eqvs_cn (b : D) (bs : List D) : eqvs (b :: bs) [] = false := by simp only [eqvs, toPys, PyData.eqvAll]
theorem eqv_int (a b : Int) : D.eqv (.int a) (.int b) = (a == b) := by simp only [D.eqv, toPy, PyData.eqv]
theorem eqv_str (a b : Str) : D.eqv (.str a) (.str b) = (a == b) := by simp only [D.eqv, toPy, PyData.eqv]
theorem eqv_bl (a b : Bool) : D.eqv (.bl a) (.bl b) = (a == b) := by simp only [D.eqv, toPy, PyData.eqv]
theorem eqv_refl {n : Nat} {d : D} (h : D.flat n d = true) : D.eqv d d = true := SeqAt.eqv_refl _ (flat_lay h).1
section
variable {X : Cx} {m : Md} {N : List Str} {sc fs : Scope} {k : Nat} {env : Ev} {a b c e : Expr} {es : List Expr} {pos p p' : Pos} {da db : D}
theorem p_eq (hX : Cs X m N sc fs k) (n : Nat) (fa : D.flat n da = true) (fb : D.flat n db = true) (ha : P X env a (.per da)) (hb : P X env b (.per db)) (hn : n ≤ 64 := by decide) : P X env (.Compare a [.Eq] [b] pos) (.per (.bl (D.eqv da db))) :=
  p_cmp (op_eqD hX.room.units) ha hb (fun G H x y Q s h1 h2 g => ⟨toPy da, toPy db, h1.dp s fa, h2.dp s fb, flat_shaped fa hn, flat_shaped fb hn, g.val s (by simp only [Rp, D.eqv])⟩) (nomark _)
theorem p_ne (hX : Cs X m N sc fs k) (n : Nat) (fa : D.flat n da = true) (fb : D.flat n db = true) (ha : P X env a (.per da)) (hb : P X env b (.per db)) (hn : n ≤ 64 := by decide) : P X env (.Compare a [.NotEq] [b] pos) (.per (.bl (!D.eqv da db))) :=
  p_cmp (op_neD hX.room.units) ha hb (fun G H x y Q s h1 h2 g => ⟨toPy da, toPy db, h1.dp s fa, h2.dp s fb, flat_shaped fa hn, flat_shaped fb hn, g.val s (by simp only [Rp, D.eqv])⟩) (nomark _)
end
end Pu

set_option Elab.async false
set_option linter.all false
set_option autoImplicit false
set_option maxRecDepth 100000
set_option maxHeartbeats 1000000
namespace Pu
open PySem L2
section
variable {X : Cx} {m : Md} {N : List Str} {sc fs : Scope} {k : Nat} {env : Ev} {a b c e tg : Expr} {es elts : List Expr} {pos p p' tpos apos : Pos} {d : D} {ds : List D}
/-! ### is of truth values -/
theorem p_isBl {q r : Bool} (ha : P X env a (.per (.bl q))) (hb : P X env b (.per (.bl r))) : P X env (.Compare a [.Is] [b] pos) (.per (.bl (q == r))) :=
  p_cmp op_is_bl ha hb (fun G H x y Q s h1 h2 g => by
    simp only [Rp] at h1 h2
    refine ⟨q, r, h1, h2, ?_⟩
    have : decide (q = r) = (q == r) := by cases q <;> cases r <;> rfl
    rw [this]
    exact g.val s (by simp only [Rp])) (nomark _)
theorem p_isNotBl {q r : Bool} (ha : P X env a (.per (.bl q))) (hb : P X env b (.per (.bl r))) : P X env (.Compare a [.IsNot] [b] pos) (.per (.bl (q != r))) :=
  p_cmp op_isnot_bl ha hb (fun G H x y Q s h1 h2 g => by
    simp only [Rp] at h1 h2
    refine ⟨q, r, h1, h2, ?_⟩
    have : (!decide (q = r)) = (q != r) := by cases q <;> cases r <;> rfl
    rw [this]
    exact g.val s (by simp only [Rp])) (nomark _)
/-! ### in a list or tuple of flat things -/
def D.f0 : D → Bool | .non => true | .bl _ => true | .int _ => true | .str _ => true | _ => false
def D.eq0 : D → D → Bool
  | .non, .non => true
  | .bl a, .bl b => a == b
  | .bl a, .int b => (if a then 1 else 0) == b
  | .int a, .bl b => a == (if b then 1 else 0)
  | .int a, .int b => a == b
  | .str a, .str b => a == b
  | _, _ => false
def D.in0 (d : D) (ds : List D) : Bool := ds.any fun y => y.eq0 d
theorem flat_v {K : PySem.W.Frag} {G : Hp} {d : D} {v : V} (f : d.f0 = true) (h : Rp K G d v) : flatV v = true := by
  cases d <;> first | (exact Bool.noConfusion f) | (simp only [Rp] at h; subst h; rfl)
theorem eq_v {K : PySem.W.Frag} {G : Hp} {d d' : D} {v v' : V} (f : d.f0 = true) (f' : d'.f0 = true) (h : Rp K G d v) (h' : Rp K G d' v') : eqV v v' = d.eq0 d' := by
  cases d <;> first | (exact Bool.noConfusion f) | (simp only [Rp] at h; subst h; cases d' <;> first | (exact Bool.noConfusion f') | (simp only [Rp] at h'; subst h'; rfl))
theorem in_v {K : PySem.W.Frag} {G : Hp} {d : D} {v : V} (f : d.f0 = true) (h : Rp K G d v) : ∀ {ds : List D} {vs : List V}, ds.all D.f0 = true → Rps K G ds vs → inV v vs = d.in0 ds ∧ vs.all flatV = true
  | [], vs, _, r => by simp only [Rps] at r; subst r; exact ⟨rfl, rfl⟩
  | y :: ds, vs, fy, r => by
    simp only [Rps] at r
    obtain ⟨w, vr, rfl, r1, r2⟩ := r
    simp only [List.all_cons, Bool.and_eq_true] at fy
    obtain ⟨i1, i2⟩ := in_v f h fy.2 r2
    simp only [inV, D.in0, List.any_cons, List.all_cons] at i1 i2 ⊢
    rw [eq_v fy.1 f r1 h, i1, i2, flat_v fy.1 r1]
    exact ⟨rfl, rfl⟩
theorem p_in0 {dd : D} (hl : IsS dd ds) (f : d.f0 = true) (fs' : ds.all D.f0 = true) (ha : P X env a (.per d)) (hb : P X env b (.per dd)) (hm : behindInMarks .In b = false := by rfl) : P X env (.Compare a [.In] [b] pos) (.per (.bl (d.in0 ds))) :=
  p_cmp op_in_seq ha hb (fun G H x y Q s h1 h2 g => by
    obtain ⟨q, xs, rfl, h3, h4⟩ := hl.seq h2
    obtain ⟨i1, i2⟩ := in_v f h1 fs' h4
    refine ⟨q, xs, rfl, ?_, flat_v f h1, i2, ?_⟩
    · rcases h3 with h3 | h3
      · exact .inl (sub_sqL s h3)
      · exact .inr (sub_sqT s h3)
    · exact g.val s (by simp only [Rp, i1]; rfl)) hm
theorem p_notIn0 {dd : D} (hl : IsS dd ds) (f : d.f0 = true) (fs' : ds.all D.f0 = true) (ha : P X env a (.per d)) (hb : P X env b (.per dd)) (hm : behindInMarks .NotIn b = false := by rfl) : P X env (.Compare a [.NotIn] [b] pos) (.per (.bl (!d.in0 ds))) :=
  p_cmp op_notIn_seq ha hb (fun G H x y Q s h1 h2 g => by
    obtain ⟨q, xs, rfl, h3, h4⟩ := hl.seq h2
    obtain ⟨i1, i2⟩ := in_v f h1 fs' h4
    refine ⟨q, xs, rfl, ?_, flat_v f h1, i2, ?_⟩
    · rcases h3 with h3 | h3
      · exact .inl (sub_sqL s h3)
      · exact .inr (sub_sqT s h3)
    · exact g.val s (by simp only [Rp, i1]; rfl)) hm
/-! ### a dict without entries, a list from behind -/
theorem p_dict0 : P X env (.Dict [] [] pos) (.per (.dK [] [])) := .mk fun H0 σ G H s E Q g =>
  WE.of pe_dnewK fun q hq => by
    have x : Ex2 G H (upd G q (.dK [])) (upd H q (.dK [])) := Ex2.new s hq
    refine g _ _ _ [] x ?_ (fun a ha => by cases ha) List.nodup_nil
    simp only [RO, Rp]
    exact ⟨trivial, q, [], rfl, .inl upd_same, rfl, by simp only [Rps]⟩
theorem p_rev {dd : D} {kk : Nat} {p1 p2 p3 : Pos} (hl : IsL dd ds) (ha : P X env a (.per dd)) : P X env (.Subscript a (.Slice none none (some (.UnaryOp .USub (.Constant (.int 1) kk p1) p2)) p3) pos) (.lst (ds.reverse.map Ow.per)) := .mk fun H0 σ G H s E Q g =>
  WE.of (pe_revL pWE) (ha.go s E fun x G1 H1 x1 r1 => by
    obtain ⟨q, xs, rfl, h2, h3⟩ := hl.seq r1
    exact ⟨q, xs, rfl, sub_sqL x1.s h2, fun l hl => (g.trans x1).lst x1.s h3.reverse hl⟩)
/-! ### texts -/
theorem p_m1 {id : String} {name : Str} {r : V → List V → Hp → VK → Prop} {z : Str} {o : Ow} (slot : Slot "str" name id) (ty : typeOf (.builtin id) = pure (.type "method_descriptor")) (rule : MtR X id r) (ha : P X env a (.per (.str z))) (hb : P X env b (.per d))
    (hr : ∀ G H y Q, Sub G H → Rp X.K G d y → Gv X.K G H o Q → r (.str z) [y] H Q)
    (hs : ∀ en, starEach [b] en = [(false, eval b en)] := by intro _; rfl) (hbase : ∀ en, attributeBase a name en (eval a en) = eval a en := by intro _; rfl) (hline : (apos.endLine == pos.line) = true := by rfl) : P X env (.Call (.Attribute a name apos) [b] [] pos) o := .mk fun H0 σ G H s E Q g =>
  WE.of (pe_m1 slot ty rule pWE pWE (hs _) (hbase _) hline) (ha.go s E fun x G1 H1 x1 r1 => by
    simp only [Rp] at r1
    refine ⟨⟨z, r1⟩, hb.go x1.s (E.later x1) fun y G2 H2 x2 r2 => ?_⟩
    rw [r1]
    exact hr G2 H2 y Q x2.s r2 (g.trans (x1.trans x2)))
theorem p_split {x y : Str} (hy : (y.length == 0) = false) (hz : x.length + 2 ≤ sizeLine) (ha : P X env a (.per (.str x))) (hb : P X env b (.per (.str y)))
    (hs : ∀ en, starEach [b] en = [(false, eval b en)] := by intro _; rfl) (hbase : ∀ en, attributeBase a "split" en (eval a en) = eval a en := by intro _; rfl) (hline : (apos.endLine == pos.line) = true := by rfl) :
    P X env (.Call (.Attribute a "split" apos) [b] [] pos) (.lst (((Txt.split x y).map D.str).map Ow.per)) :=
  p_m1 F.slot_str_split F.type_str_split mt_split ha hb (fun G H w Q s r g => by
    simp only [Rp] at r
    subst r
    exact ⟨x, y, rfl, rfl, hy, hz, fun q hq => g.lst s (Rps.of_strs _) hq⟩) hs hbase hline
theorem p_join {x : Str} {ys : List Str} {dd : D} (hl : IsS dd (ys.map D.str)) (hz : (ys.map (·.length)).sum + ys.length * x.length ≤ 16777216) (ha : P X env a (.per (.str x))) (hb : P X env b (.per dd))
    (hs : ∀ en, starEach [b] en = [(false, eval b en)] := by intro _; rfl) (hbase : ∀ en, attributeBase a "join" en (eval a en) = eval a en := by intro _; rfl) (hline : (apos.endLine == pos.line) = true := by rfl) :
    P X env (.Call (.Attribute a "join" apos) [b] [] pos) (.per (.str (Txt.join x ys))) :=
  p_m1 F.slot_str_join F.type_str_join mt_join ha hb (fun G H w Q s r g => by
    obtain ⟨q, xs, rfl, h3, h4⟩ := hl.seq r
    rw [h4.strs] at h3
    refine ⟨x, q, ys, rfl, rfl, ?_, hz, g.val s (by simp only [Rp])⟩
    rcases h3 with h3 | h3
    · exact .inl (sub_sqL s h3)
    · exact .inr (sub_sqT s h3)) hs hbase hline
theorem p_endswith {x y : Str} (ha : P X env a (.per (.str x))) (hb : P X env b (.per (.str y)))
    (hs : ∀ en, starEach [b] en = [(false, eval b en)] := by intro _; rfl) (hbase : ∀ en, attributeBase a "endswith" en (eval a en) = eval a en := by intro _; rfl) (hline : (apos.endLine == pos.line) = true := by rfl) :
    P X env (.Call (.Attribute a "endswith" apos) [b] [] pos) (.per (.bl (Txt.endswith x y))) :=
  p_m1 F.slot_str_endswith F.type_str_endswith mt_endswith ha hb (fun G H w Q s r g => by
    simp only [Rp] at r
    exact ⟨x, y, rfl, by rw [r], g.val s (by simp only [Rp])⟩) hs hbase hline
theorem p_sindex {x y : Str} {i : Nat} {rest : List Nat} (hi : Builtin.Str.occurrences x y 0 x.length 1 = i :: rest) (ha : P X env a (.per (.str x))) (hb : P X env b (.per (.str y)))
    (hs : ∀ en, starEach [b] en = [(false, eval b en)] := by intro _; rfl) (hbase : ∀ en, attributeBase a "index" en (eval a en) = eval a en := by intro _; rfl) (hline : (apos.endLine == pos.line) = true := by rfl) :
    P X env (.Call (.Attribute a "index" apos) [b] [] pos) (.per (.int i)) :=
  p_m1 F.slot_str_index F.type_str_index mt_sindex ha hb (fun G H w Q s r g => by
    simp only [Rp] at r
    exact ⟨x, y, i, rest, rfl, by rw [r], hi, g.val s (by simp only [Rp])⟩) hs hbase hline
/-! ### more that is walked -/
def signsD (z : Str) : List D := z.cps.toList.map fun c => D.str ⟨#[c]⟩
theorem it_str {z : Str} (ha : P X env e (.per (.str z))) : Iter X env tg e (signsD z) := .mk fun H0 σ G H s E R kk =>
  WI.of (pi_str pWE) (ha.go s E fun v G1 H1 x1 r1 => by
    simp only [Rp] at r1
    refine ⟨z, r1, kk _ G1 H1 x1 fun i G' H' eg s' => ⟨fun d hd => ?_, fun hi => ?_⟩⟩
    · unfold signsD at hd
      rw [List.getElem?_map] at hd
      cases q : z.cps.toList[i]? with
      | none => rw [q] at hd; cases hd
      | some c =>
        rw [q] at hd
        cases hd
        have hi : i < z.cps.size := by
          have := (List.getElem?_eq_some_iff.mp q).1
          simpa using this
        refine ⟨hi, fun x H'' ⟨e1, c', e2, e3⟩ => ?_⟩
        subst e1
        refine ⟨G', Ex2.refl s', ?_⟩
        simp only [Rp]
        rw [e3]
        have : z.cps[i]? = some c := by rw [← Array.getElem?_toList]; exact q
        rw [this] at e2
        cases e2
        rfl
    · show z.cps.size ≤ i
      rw [hi]
      simp [signsD])
theorem it_reversed (hX : Cs X m N sc fs k) {dd : D} (hl : IsL dd ds) (hg : gloB sc "reversed" = true) (hm : m.mg "reversed" = none) (ha : P X env e (.per dd)) (he : ∀ en, starEach [e] en = [(false, eval e en)] := by intro _; rfl) :
    Iter X env tg (.Call (.Name "reversed" p) [e] [] pos) ds.reverse := .mk fun H0 σ G H s E R kk =>
  WI.of (pi_reversed (hX.gl hg) (by rw [hX.hM]; exact hm) pWA (he _)) ((as_cons ha as_nil he).run H0 σ G H s E _ fun vs G1 H1 x1 r1 => by
    obtain ⟨v, rfl, r2⟩ := rps1 r1
    obtain ⟨q, xs, rfl, h2, h3⟩ := hl.seq r2
    refine ⟨q, xs, rfl, sub_sqL x1.s h2, kk _ G1 H1 x1 fun i G' H' eg s' => ⟨fun d hd => ?_, fun hi => ?_⟩⟩
    · have qq := sub_sqL s' (sqL_mono eg h2)
      have hi : i < ds.length := by
        have := (List.getElem?_eq_some_iff.mp hd).1
        simpa using this
      rw [List.getElem?_reverse hi] at hd
      obtain ⟨v, h4, h5⟩ := h3.get hd
      have hl' := h3.length
      refine ⟨⟨by omega, xs, v, qq, by rw [hl']; exact h4⟩, fun x H'' ⟨e1, e2⟩ => ?_⟩
      subst e1
      refine ⟨G', Ex2.refl s', ?_⟩
      have := e2 xs qq
      rw [hl', h4] at this
      cases this
      exact h5.mono eg
    · show xs.length ≤ i
      rw [hi, h3.length]
      simp)
/-- (0, x), (1, y), .. -/
def enumD (lo : Int) (ds : List D) : List D := ds.mapIdx fun i d => D.tup [.int (lo + i), d]
theorem it_enum (hX : Cs X m N sc fs k) {dd : D} {kk : Nat} (hl : IsL dd ds) (hg : gloB sc "enumerate" = true) (hm : m.mg "enumerate" = none) (ha : P X env e (.per dd)) (he : ∀ en, starEach [e] en = [(false, eval e en)] := by intro _; rfl) :
    Iter X env (.Tuple elts kk tpos) (.Call (.Name "enumerate" p) [e] [] pos) (enumD 0 ds) := .mk fun H0 σ G H s E R kk =>
  WI.of (pi_enum (hX.gl hg) (by rw [hX.hM]; exact hm) pWA (he _)) ((as_cons ha as_nil he).run H0 σ G H s E _ fun vs G1 H1 x1 r1 => by
    obtain ⟨v, rfl, r2⟩ := rps1 r1
    obtain ⟨q, xs, rfl, h2, h3⟩ := hl.seq r2
    refine ⟨q, xs, rfl, sub_sqL x1.s h2, kk _ G1 H1 x1 fun i G' H' eg s' => ⟨fun d hd => ?_, fun hi => ?_⟩⟩
    · have qq := sub_sqL s' (sqL_mono eg h2)
      unfold enumD at hd
      rw [List.getElem?_mapIdx] at hd
      cases z : ds[i]? with
      | none => rw [z] at hd; cases hd
      | some d' =>
        rw [z] at hd
        cases hd
        obtain ⟨v, h4, h5⟩ := h3.get z
        refine ⟨⟨xs, v, qq, h4⟩, fun x H'' ⟨T, y, e1, e2, e3, e4⟩ => ?_⟩
        have e5 := e4 xs qq
        rw [h4] at e5
        cases e5
        subst e1 e3
        refine ⟨upd G' T (.tup [.int (i : Nat), v]), Ex2.new s' e2, ?_⟩
        simp only [Rp, Rps]
        refine ⟨T, _, rfl, SqT.of upd_same, _, _, rfl, by simp, v, [], rfl, ?_, rfl⟩
        exact (h5.mono eg).mono (Ex2.new (o := .tup [.int (i : Nat), v]) s' e2).g
    · refine ⟨xs, sub_sqL s' (sqL_mono eg h2), ?_⟩
      rw [hi, h3.length]
      simp [enumD])
/-- pairs -/
def zipD : List D → List D → List D
  | x :: xs, y :: ys => D.tup [x, y] :: zipD xs ys
  | _, _ => []
theorem zipD_get : ∀ {xs ys : List D} {i : Nat} {d : D}, (zipD xs ys)[i]? = some d → ∃ x y, xs[i]? = some x ∧ ys[i]? = some y ∧ d = .tup [x, y]
  | [], _, i, d, h => by simp [zipD] at h
  | _ :: _, [], i, d, h => by simp [zipD] at h
  | x :: xs, y :: ys, 0, d, h => by simp [zipD] at h; exact ⟨x, y, rfl, rfl, h.symm⟩
  | x :: xs, y :: ys, i + 1, d, h => by
    obtain ⟨u, w, h1, h2, h3⟩ := zipD_get (i := i) (by simpa [zipD] using h)
    exact ⟨u, w, by simpa using h1, by simpa using h2, h3⟩
theorem zipD_length : ∀ {xs ys : List D}, (zipD xs ys).length = min xs.length ys.length
  | [], _ => by simp [zipD]
  | _ :: _, [] => by simp [zipD]
  | x :: xs, y :: ys => by simp [zipD, zipD_length]
theorem it_zip (hX : Cs X m N sc fs k) {e2 : Expr} {dd dd' : D} {ds' : List D} {kk : Nat} (hl : IsL dd ds) (hl' : IsL dd' ds') (hg : gloB sc "zip" = true) (hm : m.mg "zip" = none) (ha : P X env e (.per dd)) (hb : P X env e2 (.per dd'))
    (he : ∀ en, starEach [e, e2] en = (false, eval e en) :: starEach [e2] en := by intro _; rfl) (he2 : ∀ en, starEach [e2] en = [(false, eval e2 en)] := by intro _; rfl) :
    Iter X env (.Tuple elts kk tpos) (.Call (.Name "zip" p) [e, e2] [] pos) (zipD ds ds') := .mk fun H0 σ G H s E R kk =>
  WI.of (pi_zip (hX.gl hg) (by rw [hX.hM]; exact hm) pWA (he _) (by rw [he2]; rfl)) ((as_cons ha (as_cons hb as_nil he2) he).run H0 σ G H s E _ fun vs G1 H1 x1 r1 => by
    obtain ⟨v, v', rfl, r2, r3⟩ := rps2 r1
    obtain ⟨q, xs, rfl, h2, h3⟩ := hl.seq r2
    obtain ⟨q', ys, rfl, h4, h5⟩ := hl'.seq r3
    refine ⟨q, q', xs, ys, rfl, sub_sqL x1.s h2, sub_sqL x1.s h4, kk _ G1 H1 x1 fun i G' H' eg s' => ⟨fun d hd => ?_, fun hi => ?_⟩⟩
    · have qq := sub_sqL s' (sqL_mono eg h2)
      have qq' := sub_sqL s' (sqL_mono eg h4)
      obtain ⟨dx, dy, z1, z2, rfl⟩ := zipD_get hd
      obtain ⟨v, w1, w2⟩ := h3.get z1
      obtain ⟨u, w3, w4⟩ := h5.get z2
      refine ⟨⟨xs, ys, v, u, qq, qq', w1, w3⟩, fun x H'' ⟨T, y, y', e1, e2, e3, e4, e6⟩ => ?_⟩
      have e5 := e4 xs qq
      rw [w1] at e5
      cases e5
      have e7 := e6 ys qq'
      rw [w3] at e7
      cases e7
      subst e1 e3
      have xx := Ex2.new (o := .tup [v, u]) s' e2
      refine ⟨upd G' T (.tup [v, u]), xx, ?_⟩
      simp only [Rp, Rps]
      exact ⟨T, _, rfl, SqT.of upd_same, _, _, rfl, (w2.mono eg).mono xx.g, u, [], rfl, (w4.mono eg).mono xx.g, rfl⟩
    · refine ⟨xs, ys, sub_sqL s' (sqL_mono eg h2), sub_sqL s' (sqL_mono eg h4), ?_⟩
      rw [hi, zipD_length, h3.length, h5.length]
      omega)
end
end Pu

set_option Elab.async false
set_option linter.all false
set_option autoImplicit false
set_option maxRecDepth 100000
set_option maxHeartbeats 1000000
namespace Pu
open PySem L2
/-- a comparison has this outcome -/
def C (X : Cx) (env : Ev) (op : CmpOp) (a b : Expr) (q : Bool) : Prop := ∃ (da db : D) (r : R2), OpR X (compareOp op) r ∧ P X env a (.per da) ∧ P X env b (.per db) ∧ (∀ G H x y Q, Sub G H → Rp X.K G da x → Rp X.K G db y → Gv X.K G H (.per (.bl q)) Q → r x y H Q) ∧ behindInMarks op b = false
section
variable {X : Cx} {m : Md} {N : List Str} {sc fs : Scope} {k : Nat} {env : Ev} {a b c e tg : Expr} {es elts : List Expr} {pos p p' tpos apos : Pos} {d : D} {ds : List D} {op : CmpOp} {q : Bool} {i j l : Int}
theorem p_of_c (h : C X env op a b q) : P X env (.Compare a [op] [b] pos) (.per (.bl q)) := by
  obtain ⟨da, db, r, h1, h2, h3, h4, h5⟩ := h
  exact p_cmp h1 h2 h3 h4 h5
theorem t_of_c (h : C X env op a b q) : T X env (.Compare a [op] [b] pos) q := by
  obtain ⟨da, db, r, h1, h2, h3, h4, h5⟩ := h
  exact t_cmp h1 h2 h3 h4 h5
theorem c_lt (ha : P X env a (.per (.int i))) (hb : P X env b (.per (.int j))) : C X env .Lt a b (decide (i < j)) := ⟨_, _, _, op_lt, ha, hb, fun G H x y Q s h1 h2 g => rI0_of s h1 h2 (fun _ => by simp only [Rp]) g, nomark _⟩
theorem c_le (ha : P X env a (.per (.int i))) (hb : P X env b (.per (.int j))) : C X env .LtE a b (decide (i ≤ j)) := ⟨_, _, _, op_le, ha, hb, fun G H x y Q s h1 h2 g => rI0_of s h1 h2 (fun _ => by simp only [Rp]) g, nomark _⟩
theorem c_gt (ha : P X env a (.per (.int i))) (hb : P X env b (.per (.int j))) : C X env .Gt a b (decide (j < i)) := ⟨_, _, _, op_gt, ha, hb, fun G H x y Q s h1 h2 g => rI0_of s h1 h2 (fun _ => by simp only [Rp]) g, nomark _⟩
theorem c_ge (ha : P X env a (.per (.int i))) (hb : P X env b (.per (.int j))) : C X env .GtE a b (decide (j ≤ i)) := ⟨_, _, _, op_ge, ha, hb, fun G H x y Q s h1 h2 g => rI0_of s h1 h2 (fun _ => by simp only [Rp]) g, nomark _⟩
theorem c_eq {da db : D} (hX : Cs X m N sc fs k) (n : Nat) (fa : D.flat n da = true) (fb : D.flat n db = true) (ha : P X env a (.per da)) (hb : P X env b (.per db)) (hn : n ≤ 64 := by decide) : C X env .Eq a b (D.eqv da db) :=
  ⟨_, _, _, op_eqD hX.room.units, ha, hb, fun G H x y Q s h1 h2 g => ⟨toPy da, toPy db, h1.dp s fa, h2.dp s fb, flat_shaped fa hn, flat_shaped fb hn, g.val s (by simp only [Rp, D.eqv])⟩, nomark _⟩
theorem c_ne {da db : D} (hX : Cs X m N sc fs k) (n : Nat) (fa : D.flat n da = true) (fb : D.flat n db = true) (ha : P X env a (.per da)) (hb : P X env b (.per db)) (hn : n ≤ 64 := by decide) : C X env .NotEq a b (!D.eqv da db) :=
  ⟨_, _, _, op_neD hX.room.units, ha, hb, fun G H x y Q s h1 h2 g => ⟨toPy da, toPy db, h1.dp s fa, h2.dp s fb, flat_shaped fa hn, flat_shaped fb hn, g.val s (by simp only [Rp, D.eqv])⟩, nomark _⟩
/-- of ints, of texts, of truth values -/
theorem c_eqI (hX : Cs X m N sc fs k) (ha : P X env a (.per (.int i))) (hb : P X env b (.per (.int j))) : C X env .Eq a b (decide (i = j)) := by
  have h := c_eq hX 0 rfl rfl ha hb
  rw [eqv_int] at h
  exact h
theorem c_neI (hX : Cs X m N sc fs k) (ha : P X env a (.per (.int i))) (hb : P X env b (.per (.int j))) : C X env .NotEq a b (!decide (i = j)) := by
  have h := c_ne hX 0 rfl rfl ha hb
  rw [eqv_int] at h
  exact h
theorem scal_eq {r : R2} (f : d.f0 = true) {d' : D} (f' : d'.f0 = true) {K : PySem.W.Frag} {G : Hp} {x y : V} (h1 : Rp K G d x) (h2 : Rp K G d' y) (hs : scal x y = true) : True := trivial
theorem c_eqS {x y : Str} (ha : P X env a (.per (.str x))) (hb : P X env b (.per (.str y))) : C X env .Eq a b (x == y) := ⟨_, _, _, op_eq, ha, hb, fun G H v w Q s h1 h2 g => by
  simp only [Rp] at h1 h2
  subst h1 h2
  exact ⟨rfl, by rw [dec_str]; exact g.val s (by simp only [Rp])⟩, nomark _⟩
theorem c_neS {x y : Str} (ha : P X env a (.per (.str x))) (hb : P X env b (.per (.str y))) : C X env .NotEq a b (!(x == y)) := ⟨_, _, _, op_ne, ha, hb, fun G H v w Q s h1 h2 g => by
  simp only [Rp] at h1 h2
  subst h1 h2
  exact ⟨rfl, by rw [dec_str]; exact g.val s (by simp only [Rp])⟩, nomark _⟩
theorem c_eqB {x y : Bool} (ha : P X env a (.per (.bl x))) (hb : P X env b (.per (.bl y))) : C X env .Eq a b (x == y) := ⟨_, _, _, op_eq, ha, hb, fun G H v w Q s h1 h2 g => by
  simp only [Rp] at h1 h2
  subst h1 h2
  exact ⟨rfl, by rw [dec_bl]; exact g.val s (by simp only [Rp])⟩, nomark _⟩
theorem c_neB {x y : Bool} (ha : P X env a (.per (.bl x))) (hb : P X env b (.per (.bl y))) : C X env .NotEq a b (!(x == y)) := ⟨_, _, _, op_ne, ha, hb, fun G H v w Q s h1 h2 g => by
  simp only [Rp] at h1 h2
  subst h1 h2
  exact ⟨rfl, by rw [dec_bl]; exact g.val s (by simp only [Rp])⟩, nomark _⟩
def D.isN : D → Bool | .non => true | _ => false
theorem isN_v {K : PySem.W.Frag} {G : Hp} {x : V} (h1 : Rp K G d x) : decide (x = V.non) = d.isN := by
  cases d <;> (try simp only [Rp] at h1) <;> (try (subst h1; rfl)) <;> (obtain ⟨_, h1⟩ := h1; first | (obtain ⟨_, rfl, _⟩ := h1; rfl) | (obtain ⟨_, _, rfl, _⟩ := h1; rfl))
theorem c_isN {jj : Nat} (ha : P X env a (.per d)) : C X env .Is a (.Constant .none jj p') d.isN := ⟨_, _, _, op_isN, ha, p_non, fun G H x y Q s h1 h2 g => by
  simp only [Rp] at h2
  exact ⟨h2, by rw [isN_v h1]; exact g.val s (by simp only [Rp])⟩, nomark _⟩
theorem c_notN {jj : Nat} (ha : P X env a (.per d)) : C X env .IsNot a (.Constant .none jj p') (!d.isN) := ⟨_, _, _, op_notN, ha, p_non, fun G H x y Q s h1 h2 g => by
  simp only [Rp] at h2
  exact ⟨h2, by rw [isN_v h1]; exact g.val s (by simp only [Rp])⟩, nomark _⟩
theorem c_isBl {q r : Bool} (ha : P X env a (.per (.bl q))) (hb : P X env b (.per (.bl r))) : C X env .Is a b (q == r) := ⟨_, _, _, op_is_bl, ha, hb, fun G H x y Q s h1 h2 g => by
  simp only [Rp] at h1 h2
  refine ⟨q, r, h1, h2, ?_⟩
  have : decide (q = r) = (q == r) := by cases q <;> cases r <;> rfl
  rw [this]
  exact g.val s (by simp only [Rp]), nomark _⟩
theorem c_isNotBl {q r : Bool} (ha : P X env a (.per (.bl q))) (hb : P X env b (.per (.bl r))) : C X env .IsNot a b (q != r) := ⟨_, _, _, op_isnot_bl, ha, hb, fun G H x y Q s h1 h2 g => by
  simp only [Rp] at h1 h2
  refine ⟨q, r, h1, h2, ?_⟩
  have : (!decide (q = r)) = (q != r) := by cases q <;> cases r <;> rfl
  rw [this]
  exact g.val s (by simp only [Rp]), nomark _⟩
theorem c_in0 {dd : D} (hl : IsS dd ds) (f : d.f0 = true) (fs' : ds.all D.f0 = true) (ha : P X env a (.per d)) (hb : P X env b (.per dd)) (hm : behindInMarks .In b = false := by rfl) : C X env .In a b (d.in0 ds) := ⟨_, _, _, op_in_seq, ha, hb, fun G H x y Q s h1 h2 g => by
    obtain ⟨q, xs, rfl, h3, h4⟩ := hl.seq h2
    obtain ⟨i1, i2⟩ := in_v f h1 fs' h4
    refine ⟨q, xs, rfl, ?_, flat_v f h1, i2, ?_⟩
    · rcases h3 with h3 | h3
      · exact .inl (sub_sqL s h3)
      · exact .inr (sub_sqT s h3)
    · exact g.val s (by simp only [Rp, i1]; rfl), hm⟩
theorem c_notIn0 {dd : D} (hl : IsS dd ds) (f : d.f0 = true) (fs' : ds.all D.f0 = true) (ha : P X env a (.per d)) (hb : P X env b (.per dd)) (hm : behindInMarks .NotIn b = false := by rfl) : C X env .NotIn a b (!d.in0 ds) := ⟨_, _, _, op_notIn_seq, ha, hb, fun G H x y Q s h1 h2 g => by
    obtain ⟨q, xs, rfl, h3, h4⟩ := hl.seq h2
    obtain ⟨i1, i2⟩ := in_v f h1 fs' h4
    refine ⟨q, xs, rfl, ?_, flat_v f h1, i2, ?_⟩
    · rcases h3 with h3 | h3
      · exact .inl (sub_sqL s h3)
      · exact .inr (sub_sqT s h3)
    · exact g.val s (by simp only [Rp, i1]; rfl), hm⟩
theorem c_inSign {c' : Nat} {z : Str} (ha : P X env a (.per (.str ⟨#[c']⟩))) (hb : P X env b (.per (.str z))) (hm : behindInMarks .In b = false := by rfl) : C X env .In a b (decide (c' ∈ z.cps.toList)) := ⟨_, _, _, op_in_sign, ha, hb, fun G H x y Q s h1 h2 g => by
    simp only [Rp] at h1 h2
    exact ⟨c', z, h1, h2, g.val s (by simp only [Rp])⟩, hm⟩
theorem c_notInSign {c' : Nat} {z : Str} (ha : P X env a (.per (.str ⟨#[c']⟩))) (hb : P X env b (.per (.str z))) (hm : behindInMarks .NotIn b = false := by rfl) : C X env .NotIn a b (!decide (c' ∈ z.cps.toList)) := ⟨_, _, _, op_notIn_sign, ha, hb, fun G H x y Q s h1 h2 g => by
    simp only [Rp] at h1 h2
    exact ⟨c', z, h1, h2, g.val s (by simp only [Rp])⟩, hm⟩
/-- a chain as a test -/
theorem t_chain {op op' : CmpOp} {f f' : Int → Int → Bool} (ho : OpR X (compareOp op) (rI0 fun i j => .bl (f i j))) (ho' : OpR X (compareOp op') (rI0 fun i j => .bl (f' i j))) (ha : P X env a (.per (.int i))) (hb : P X env b (.per (.int j))) (hc : P X env c (.per (.int l)))
    (hm : lastMarks [op, op'] [b, c] = false) : T X env (.Compare a [op, op'] [b, c] pos) (f i j && f' j l) := .mk fun H0 σ G H s E Q g =>
  WT.of (pt_chain ho ho' pWE pWE pWE hm) (ha.go s E fun x G1 H1 x1 r1 => hb.go x1.s (E.later x1) fun y G2 H2 x2 r2 => by
    simp only [Rp] at r1 r2
    refine ⟨i, j, r1, r2, f i j, rfl, ?_⟩
    cases q : f i j with
    | false =>
      rw [q] at g
      exact iteF ⟨false, rfl, g G2 H2 (x1.trans x2)⟩
    | true =>
      rw [q] at g
      refine iteT (hc.go x2.s ((E.later x1).later x2) fun z G3 H3 x3 r3 => ?_)
      simp only [Rp] at r3
      exact ⟨j, l, r2, r3, f' j l, rfl, g G3 H3 (x1.trans (x2.trans x3))⟩)
theorem t_leLe (ha : P X env a (.per (.int i))) (hb : P X env b (.per (.int j))) (hc : P X env c (.per (.int l))) (hm : lastMarks [.LtE, .LtE] [b, c] = false := by with_unfolding_all rfl) : T X env (.Compare a [.LtE, .LtE] [b, c] pos) (decide (i ≤ j) && decide (j ≤ l)) :=
  t_chain (f := fun i j => decide (i ≤ j)) (f' := fun i j => decide (i ≤ j)) op_le op_le ha hb hc hm
/-- a list, a text as a test -/
theorem t_list {dd : D} (hl : IsS dd ds) (ha : P X env a (.per dd)) (he : ∀ en whole, isTrue a en whole = (do let v ← whole; standAt a.pos; holding [v] (truthy v)) := by intro _ _; rfl) : T X env a (!ds.isEmpty) := .mk fun H0 σ G H s E Q g =>
  WT.of (pt_truth pWE (he _)) (ha.go s E fun x G1 H1 x1 r1 => by
    obtain ⟨q, xs, rfl, h3, h4⟩ := hl.seq r1
    refine ⟨!ds.isEmpty, ?_, g G1 H1 x1⟩
    have hl := h4.length
    have e : xs.isEmpty = ds.isEmpty := by
      cases xs <;> cases ds <;> simp at hl ⊢
    rcases h3 with h3 | h3
    · exact .inl ⟨xs, sub_sqL x1.s h3, by rw [e]⟩
    · exact .inr (.inl ⟨xs, sub_sqT x1.s h3, by rw [e]⟩))
end
end Pu

set_option Elab.async false
set_option linter.all false
set_option autoImplicit false
set_option maxRecDepth 100000
set_option maxHeartbeats 1000000
namespace Pu
open PySem L2
/-- a constant of the module -/
def GInt (m : Md) (x : Str) (i : Int) : Prop := ∃ t, m.mg x = some (.int i t)
def GStr (m : Md) (x z : Str) : Prop := ∃ t, m.mg x = some (.str z t)
def GTup (m : Md) (x : Str) (zs : List Str) : Prop := ∃ a, m.mg x = some (.ref a) ∧ ∀ H, SqT m.K H a (zs.map V.str)
section
variable {X : Cx} {m : Md} {N : List Str} {sc fs : Scope} {k : Nat} {env : Ev} {pos : Pos} {x : Str}
theorem p_gint (hX : Cs X m N sc fs k) {i : Int} (h : GInt m x i) (hg : gloB sc x = true) (hx : (x == ("__debug__" : Str)) = false := by decide +kernel) : P X env (.Name x pos) (.per (.int i)) := by
  obtain ⟨t, h⟩ := h
  exact p_glob hX (v := .int i) hg h ⟨t, rfl⟩ (fun _ => by simp only [Rp]) hx
theorem p_gstr (hX : Cs X m N sc fs k) {z : Str} (h : GStr m x z) (hg : gloB sc x = true) (hx : (x == ("__debug__" : Str)) = false := by decide +kernel) : P X env (.Name x pos) (.per (.str z)) := by
  obtain ⟨t, h⟩ := h
  exact p_glob hX (v := .str z) hg h ⟨t, rfl⟩ (fun _ => by simp only [Rp]) hx
theorem p_gtup (hX : Cs X m N sc fs k) {zs : List Str} (h : GTup m x zs) (hg : gloB sc x = true) (hx : (x == ("__debug__" : Str)) = false := by decide +kernel) : P X env (.Name x pos) (.per (.tup (zs.map D.str))) := by
  obtain ⟨a, h, h2⟩ := h
  exact p_glob hX (v := .ref a) hg h rfl (fun G => by simp only [Rp]; exact ⟨a, _, rfl, h2 G, Rps.of_strs zs⟩) hx
end
/-- no slots beyond the arguments -/
theorem ent_eq {N : List Str} {ds : List D} {env : Ev} (h : ds.map (fun d => some (Ow.per d)) ++ List.replicate (N.length - ds.length) none = env) : ent N ds = env := h
/-- the module's name y stands for the def st -/
def Df (m : Md) (y x qual : Str) (st : Stmt) : Prop := ∃ (f : Addr) (fd : FuncData), FunD m.K x qual (defArgs st) (defBody st) (defScope st) [] [] f fd ∧ m.mg y = some (.ref f)
/-- how its arguments are bound -/
def Bd (x qual : Str) (st : Stmt) (ps : List Str) : Prop := ∀ (kV doc pm : Value) (an : Option Addr) (cdv ct : Value) (us : List Value), us.length = ps.length → bindArgs (PySem.W.fnOf x qual (defArgs st) (defBody st) (defScope st) .none kV doc pm an cdv ct) ⟨us, []⟩ = pure (ps.zip us)
theorem Df.at {m : Md} {y x qual : Str} {st : Stmt} {N ps : List Str} {k : Nat} {R : List D → Ow → Prop} (hd : Df m y x qual st) (Sc : FnScope N ps (defScope st)) (hb : Bd x qual st ps) (hR : ∀ ds o, R ds o → ds.length = ps.length)
    (h : ∀ X, Cs X m N (defScope st) (defScope st) k → ∀ ds o, R ds o → S X (defBody st) (ent N ds) (Ret o)) : FnAt m (k + 1) y ps.length R := by
  obtain ⟨f, fd, F, hm⟩ := hd
  exact ⟨f, fd, ps, rfl, hm, F.kp, F.bindsN hb, fnOk F Sc hR h⟩
/-! ### comprehensions over lists of any kind -/
theorem lc_sum {α : Type} (c : α → Bool) (f : α → Ow) (enc : α → D) : ∀ (xs ys : List α) (n : Nat), (∀ (i : Nat) (x : α), xs[i]? = some x → ys[n + i]? = some x) →
    ((xs.map enc).mapIdx fun i _ => match ys[n + i]? with | some x => if c x = true then some (f x) else none | none => none).filterMap id = (xs.filter c).map f
  | [], ys, n, _ => by simp
  | x :: xs, ys, n, h => by
    have h0 := h 0 x rfl
    have ih := lc_sum c f enc xs ys (n + 1) fun i y hy => by
      have := h (i + 1) y (by simpa using hy)
      rw [← this]
      congr 1
      omega
    simp only [List.map_cons, List.mapIdx_cons, List.filterMap_cons, Nat.add_zero] at h0 ⊢
    rw [h0]
    have e : (fun (i : Nat) (_ : D) => match ys[n + (i + 1)]? with | some x => if c x = true then some (f x) else none | none => none) = fun (i : Nat) (_ : D) => match ys[n + 1 + i]? with | some x => if c x = true then some (f x) else none | none => none := by
      funext i _
      have : n + (i + 1) = n + 1 + i := by omega
      rw [this]
    rw [e]
    cases hc : c x with
    | true => simp [hc, ih]
    | false => simp [hc, ih]
section
variable {X : Cx} {m : Md} {N : List Str} {sc fs : Scope} {k : Nat} {env : Ev} {tg iter elt : Expr} {ifs : List Expr} {pos : Pos} {α : Type} {Φ : Out → Prop}
def LcA (m : Md) (N : List Str) (sc scope : Scope) (k : Nat) (own : List (Str × Nat)) (tg elt : Expr) (ifs : List Expr) (env : Ev) (xs : List α) (enc : α → D) (c : α → Bool) (f : α → Ow) : Prop :=
  ∀ (i : Nat) (x : α), xs[i]? = some x → ∃ env' js, (∀ j ∈ js, j ∈ own.map (·.2)) ∧ ∀ (X' : Cx), Cs X' m N (relS scope sc) scope k → Tg X' (wipeE env (own.map (·.2))) tg (enc x) env' js ∧ Ts X' env' ifs (c x) ∧ (c x = true → P X' env' elt (f x))
theorem lca_b {scope : Scope} {own : List (Str × Nat)} {xs : List α} {enc : α → D} {c : α → Bool} {f : α → Ow} (hb : LcA m N sc scope k own tg elt ifs env xs enc c f) :
    LcB m N sc scope k own tg elt ifs env (fun i _ => match xs[0 + i]? with | some x => if c x = true then some (f x) else none | none => none) (xs.map enc) := fun i d hd => by
  rw [List.getElem?_map] at hd
  cases q : xs[i]? with
  | none => rw [q] at hd; cases hd
  | some x =>
    rw [q] at hd
    cases hd
    obtain ⟨env', js, h1, h2⟩ := hb i x q
    refine ⟨env', js, h1, fun X' hX' => ?_⟩
    obtain ⟨h3, h4, h5⟩ := h2 X' hX'
    refine ⟨h3, ?_⟩
    have e : xs[0 + i]? = some x := by rw [Nat.zero_add]; exact q
    simp only [e]
    cases hc : c x with
    | true =>
      rw [hc] at h4
      simp only [if_true]
      exact ⟨h4, h5 hc⟩
    | false =>
      rw [hc] at h4
      simp only [Bool.false_eq_true, if_false]
      exact h4
theorem p_lcA (hX : Cs X m N sc fs k) {scope : Scope} (own : List (Str × Nat)) (xs : List α) (enc : α → D) (c : α → Bool) (f : α → Ow) (hit : Iter X env tg iter (xs.map enc)) (hk : blkC N sc scope own = true) (hsz : xs.length ≤ sizeLine) (hb : LcA m N sc scope k own tg elt ifs env xs enc c f)
    (hs : ∀ en x, foldedSetIterable iter en x = pure x := by intro _ _; rfl) : P X env (.ListComp elt [⟨tg, iter, ifs, 0⟩] scope pos) (.lst ((xs.filter c).map f)) := by
  have h := p_lc (pos := pos) hX _ hit hk (by rw [List.length_map]; exact hsz) (lca_b hb) hs
  rw [lc_sum c f enc xs xs 0 fun i x hx => by rw [Nat.zero_add]; exact hx] at h
  exact h
theorem s1_setLcA (hX : Cs X m N sc fs k) {i : Nat} {y : Str} {py spos : Pos} {scope : Scope} (own : List (Str × Nat)) (xs : List α) (enc : α → D) (c : α → Bool) (f : α → Ow) (hi : Ix N i y) (hl : sc.names.lookup y = some .local) (hn : i < env.length) (hit : Iter X env tg iter (xs.map enc)) (hk : blkC N sc scope own = true) (hsz : xs.length ≤ sizeLine) (hb : LcA m N sc scope k own tg elt ifs env xs enc c f)
    (h : Φ (.nx (env.set i (some (.lst ((xs.filter c).map f))))))
    (hsw : (py.line == pos.line) = true := by rfl) (ha : (scope.names.any fun (n, kk) => n == y && (kk == .local || kk == .cell)) = false := by decide +kernel)
    (hs : ∀ en x, foldedSetIterable iter en x = pure x := by intro _ _; rfl) : S1 X (.Assign [.Name y py] (.ListComp elt [⟨tg, iter, ifs, 0⟩] scope pos) spos) env Φ := by
  refine s1_setLc hX hi hl hn _ hit hk (by rw [List.length_map]; exact hsz) (lca_b hb) ?_ hsw ha hs
  rw [lc_sum c f enc xs xs 0 fun i x hx => by rw [Nat.zero_add]; exact hx]
  exact h
theorem filter_true (xs : List α) : xs.filter (fun _ => true) = xs := by simp
end
theorem P.cong {X : Cx} {env : Ev} {e : Expr} {o o' : Ow} (h : P X env e o) (q : o = o') : P X env e o' := q ▸ h
theorem T.cong {X : Cx} {env : Ev} {e : Expr} {o o' : Bool} (h : T X env e o) (q : o = o') : T X env e o' := q ▸ h
theorem P.bl {X : Cx} {env : Ev} {e : Expr} {o o' : Bool} (h : P X env e (.per (.bl o))) (q : o = o') : P X env e (.per (.bl o')) := q ▸ h
theorem p_lcD {X : Cx} {m : Md} {N : List Str} {sc fs : Scope} {k : Nat} {env : Ev} {tg iter elt : Expr} {ifs : List Expr} {pos : Pos} {α : Type} (hX : Cs X m N sc fs k) {scope : Scope} (own : List (Str × Nat)) (xs : List α) (enc : α → D) (c : α → Bool) (f : α → D) (hit : Iter X env tg iter (xs.map enc)) (hk : blkC N sc scope own = true) (hsz : xs.length ≤ sizeLine) (hb : LcA m N sc scope k own tg elt ifs env xs enc c (fun x => .per (f x)))
    (hs : ∀ en x, foldedSetIterable iter en x = pure x := by intro _ _; rfl) : P X env (.ListComp elt [⟨tg, iter, ifs, 0⟩] scope pos) (.lst (((xs.filter c).map f).map Ow.per)) :=
  (p_lcA (pos := pos) hX own xs enc c _ hit hk hsz hb hs).cong (congrArg Ow.lst (by rw [List.map_map]; rfl))
/-! ### what is one's own is looked at -/
/-- no tuple, nothing locked -/
def notT : HO → Bool | .tup _ => false | .frz _ _ => false | _ => true
section
variable {K : PySem.W.Frag} {G H G' H' : Hp}
mutual
theorem RO.kind : ∀ {o : Ow} {v : V} {fp : List Addr}, RO K G H o v fp → ∀ a ∈ fp, ∃ u, H a = some u ∧ notT u = true
  | .per d, v, fp, h, a, ha => by
    simp only [RO] at h
    rw [h.1] at ha; cases ha
  | .lst os, v, fp, h, a, ha => by
    simp only [RO] at h
    obtain ⟨b, xs, fq, h1, rfl, h3, h4, h5⟩ := h
    rcases List.mem_cons.mp ha with rfl | ha
    · exact ⟨_, h4, rfl⟩
    · exact ROs.kind h5 a ha
  | .ins C ns os, v, fp, h, a, ha => by
    simp only [RO] at h
    obtain ⟨b, dx, xs, fq, h1, rfl, h3, h4, h6, h5⟩ := h
    rcases List.mem_cons.mp ha with rfl | ha
    · exact ⟨_, h4, rfl⟩
    · exact ROs.kind h5 a ha
  | .dK ks os, v, fp, h, a, ha => by
    simp only [RO] at h
    obtain ⟨b, xs, fq, h1, rfl, h3, h4, h6, h5⟩ := h
    rcases List.mem_cons.mp ha with rfl | ha
    · exact ⟨_, h4, rfl⟩
    · exact ROs.kind h5 a ha
  | .dT ks os, v, fp, h, a, ha => by
    simp only [RO] at h
    obtain ⟨b, xs, fq, h1, rfl, h3, h4, h6, h5⟩ := h
    rcases List.mem_cons.mp ha with rfl | ha
    · exact ⟨_, h4, rfl⟩
    · exact ROs.kind h5 a ha
theorem ROs.kind : ∀ {os : List Ow} {vs : List V} {fp : List Addr}, ROs K G H os vs fp → ∀ a ∈ fp, ∃ u, H a = some u ∧ notT u = true
  | [], _, _, h, a, ha => by
    simp only [ROs] at h
    rw [h.2] at ha; cases ha
  | o :: os, _, _, h, a, ha => by
    simp only [ROs] at h
    obtain ⟨v, vs, f1, f2, h1, rfl, h3, h4⟩ := h
    rcases List.mem_append.mp ha with ha | ha
    · exact RO.kind h3 a ha
    · exact ROs.kind h4 a ha
end
/-- without some cells -/
def less (G : Hp) (fp : List Addr) : Hp := fun a => if a ∈ fp then none else G a
theorem less_in {fp : List Addr} {a : Addr} (h : a ∈ fp) : less G fp a = none := by unfold less; rw [if_pos h]
theorem less_out {fp : List Addr} {a : Addr} (h : a ∉ fp) : less G fp a = G a := by unfold less; rw [if_neg h]
theorem Ex2.less {fp : List Addr} (hg : ∀ a ∈ fp, G a = none) (x : Ex2 (more G H fp) H G' H') : Ex2 G H (less G' fp) H' := by
  refine ⟨fun a o h => ?_, fun a o h => ?_, x.h, fun a h1 h2 => ?_⟩
  · by_cases e : a ∈ fp
    · rw [less_in e] at h; cases h
    · rw [less_out e] at h; exact x.s _ _ h
  · have e : a ∉ fp := fun e => by rw [hg a e] at h; cases h
    rw [less_out e]
    exact x.g _ _ (by rw [more_out e]; exact h)
  · by_cases e : a ∈ fp
    · exact less_in e
    · rw [less_out e]
      exact x.n a (by rw [more_out e]; exact h1) h2
mutual
/-- data without lists, objects, dicts -/
def D.nl : D → Bool
  | .non => true
  | .bl _ => true
  | .int _ => true
  | .str _ => true
  | .ty _ => true
  | .adr _ => true
  | .tup xs => nls xs
  | _ => false
def nls : List D → Bool
  | [] => true
  | d :: ds => D.nl d && nls ds
end
mutual
theorem Rp.less {fp : List Addr} (k : ∀ a ∈ fp, ∃ u, H a = some u ∧ notT u = true) (s : Sub G H) : ∀ {d : D} {v : V}, d.nl = true → Rp K G d v → Rp K (less G fp) d v
  | .non, _, _, h => by simpa only [Rp] using h
  | .bl _, _, _, h => by simpa only [Rp] using h
  | .int _, _, _, h => by simpa only [Rp] using h
  | .str _, _, _, h => by simpa only [Rp] using h
  | .ty _, _, _, h => by simpa only [Rp] using h
  | .adr _, _, _, h => by simpa only [Rp] using h
  | .tup ds, v, f, h => by
    simp only [Rp] at h ⊢
    obtain ⟨a, xs, h1, h2, h3⟩ := h
    refine ⟨a, xs, h1, ?_, Rps.less k s (by simpa only [D.nl] using f) h3⟩
    rcases h2 with (h2 | ⟨o, h2⟩) | h2
    · refine .inl (.inl ?_)
      have e : a ∉ fp := fun e => by
        obtain ⟨u, e1, e2⟩ := k a e
        rw [s _ _ h2] at e1
        cases e1; cases e2
      rw [less_out e]; exact h2
    · refine .inl (.inr ⟨o, ?_⟩)
      have e : a ∉ fp := fun e => by
        obtain ⟨u, e1, e2⟩ := k a e
        rw [s _ _ h2] at e1
        cases e1; cases e2
      rw [less_out e]; exact h2
    · exact .inr h2
  | .lst _, _, f, _ => by simp [D.nl] at f
  | .fz _, _, f, _ => by simp [D.nl] at f
  | .obj _ _ _, _, f, _ => by simp [D.nl] at f
  | .dK _ _, _, f, _ => by simp [D.nl] at f
  | .dT _ _, _, f, _ => by simp [D.nl] at f
theorem Rps.less {fp : List Addr} (k : ∀ a ∈ fp, ∃ u, H a = some u ∧ notT u = true) (s : Sub G H) : ∀ {ds : List D} {vs : List V}, nls ds = true → Rps K G ds vs → Rps K (less G fp) ds vs
  | [], _, _, h => by simpa only [Rps] using h
  | d :: ds, _, f, h => by
    simp only [Rps] at h ⊢
    simp only [nls, Bool.and_eq_true] at f
    obtain ⟨v, vs, h1, h2, h3⟩ := h
    exact ⟨v, vs, h1, Rp.less k s f.1 h2, Rps.less k s f.2 h3⟩
end
end
section
variable {X : Cx} {m : Md} {N : List Str} {sc fs : Scope} {k : Nat} {env : Ev} {e : Expr} {pos : Pos} {Φ : Out → Prop}
/-- the state, a slot's own things counted among what lasts -/
theorem En.lent {K : PySem.W.Frag} {H0 G H : Hp} {σ : St} {i : Nat} {o : Ow} (E : En K H0 G H σ env) (he : env[i]? = some (some o)) :
    ∃ f1, (∀ a ∈ f1, G a = none ∧ ∃ u, H a = some u ∧ notT u = true) ∧ (∀ a ∈ f1, H0 a = none) ∧ En K H0 (more G H f1) H σ (env.set i (some (.per o.fr))) := by
  obtain ⟨fp, e1, e2, e3⟩ := E
  obtain ⟨v, fa, f1, fb, q1, q2, q3, q4⟩ := e1.slot he
  subst q2
  have eg : ∀ a o, G a = some o → more G H f1 a = some o := fun a o q => by
    by_cases z : a ∈ f1
    · rw [(q3.out a z).1] at q; cases q
    · rw [more_out z]; exact q
  obtain ⟨n1, n2, n3⟩ := List.nodup_append.mp e2
  obtain ⟨n4, n5, n6⟩ := List.nodup_append.mp n2
  refine ⟨f1, fun a ha => ⟨(q3.out a ha).1, q3.kind a ha⟩, fun a ha => e3 a (List.mem_append_right _ (List.mem_append_left _ ha)), ?_⟩
  have E2 : Ens K (more G H f1) H (env.set i (some (.per o.fr))) (σ.set i (some v)) (fa ++ ([] ++ fb)) := by
    refine q4 (more G H f1) H (some (.per o.fr)) (some v) [] eg (fun a ha => ⟨rfl, ?_⟩) ⟨v, rfl, ?_⟩
    · have z : a ∉ f1 := fun z => by
        rcases List.mem_append.mp ha with w | w
        · exact n3 a w a (List.mem_append_left _ z) rfl
        · exact n6 a z a w rfl
      rw [more_out z]
      refine (e1.out a ?_).1
      rcases List.mem_append.mp ha with w | w
      · exact List.mem_append_left _ w
      · exact List.mem_append_right _ (List.mem_append_right _ w)
    · simp only [RO]
      exact ⟨trivial, q3.fr eg fun a ha => more_in ha⟩
  have eσ : σ.set i (some v) = σ := by
    apply List.ext_getElem?
    intro j
    by_cases z : i = j
    · subst z
      have hi : i < σ.length := (List.getElem?_eq_some_iff.mp q1).1
      rw [List.getElem?_set_self hi, q1]
    · rw [List.getElem?_set_ne z]
  rw [eσ] at E2
  refine ⟨_, E2, ?_, fun a ha => e3 a ?_⟩
  · simp only [List.nil_append]
    exact List.nodup_append.mpr ⟨n1, n5, fun a ha b hb => n3 a ha b (List.mem_append_right _ hb)⟩
  · rcases List.mem_append.mp ha with w | w
    · exact List.mem_append_left _ w
    · exact List.mem_append_right _ (List.mem_append_right _ (by simpa using w))
theorem sub_more {G H : Hp} {f1 : List Addr} (s : Sub G H) : Sub (more G H f1) H := fun a o h => by
  by_cases z : a ∈ f1
  · rw [more_in z] at h; exact h
  · rw [more_out z] at h; exact s _ _ h
theorem T.lent {i : Nat} {o : Ow} {q : Bool} (he : env[i]? = some (some o)) (h : T X (env.set i (some (.per o.fr))) e q) : T X env e q := .mk fun H0 σ G H s E Q g => by
  obtain ⟨f1, h1, h2, E2⟩ := E.lent he
  exact h.run H0 σ _ H (sub_more s) E2 Q fun G' H' x => g _ H' (x.less fun a ha => (h1 a ha).1)
theorem P.lent {i : Nat} {o : Ow} {d : D} (he : env[i]? = some (some o)) (hd : d.nl = true) (h : P X (env.set i (some (.per o.fr))) e (.per d)) : P X env e (.per d) := .mk fun H0 σ G H s E Q g => by
  obtain ⟨f1, h1, h2, E2⟩ := E.lent he
  refine h.run H0 σ _ H (sub_more s) E2 Q fun v G' H' fp x r n dd => ?_
  simp only [RO] at r
  refine g v (less G' f1) H' [] (x.less fun a ha => (h1 a ha).1) ?_ (fun a ha => by cases ha) List.nodup_nil
  simp only [RO]
  exact ⟨trivial, Rp.less (fun a ha => by
    obtain ⟨_, u, e1, e2⟩ := h1 a ha
    exact ⟨u, x.h _ _ e1, e2⟩) x.s hd r.2⟩
/-- return x, x one's own -/
theorem s1_retVar (hX : Cs X m N sc fs k) {i : Nat} {x : Str} {o : Ow} {p1 : Pos} (hi : Ix N i x) (hv : visB sc x = true) (he : env[i]? = some (some o)) (h : Φ (.rt o)) : S1 X (.Return (some (.Name x p1)) pos) env Φ := .mk fun σ G0 H0 G H y E D kk => by
  obtain ⟨fp, e1, e2, e3⟩ := E
  obtain ⟨v, fa, f1, fb, q1, q2, q3, q4⟩ := e1.slot he
  subst q2
  refine WS.of (ps_ret (pe_var (i := i) (by rw [hX.hN]; exact hi.at_) (by rw [hX.hS]; exact vis_of hv) hi.d1 hi.d2)) ⟨v, q1, ?_⟩
  exact kk.rt o v G H f1 h y q3 (List.nodup_append.mp (List.nodup_append.mp e2).2.1).1 fun a ha => e3 a (List.mem_append_right _ (List.mem_append_left _ ha))
end
end Pu

set_option Elab.async false
set_option linter.all false
set_option maxRecDepth 100000
set_option maxHeartbeats 4000000
namespace Lw
open PySem PySem.Spec PyProof.Rows L2
/-! ### the text by places -/
def top (i : Nat) : Stmt := PySem.Challenge.pw_foldpress_k01_words.main.body.getD i (.Pass ⟨0, 0, 0, 0⟩)
abbrev s_is_whole : Stmt := (top 5)
abbrev N_is_whole : List Str := ["thing"]
theorem sc_is_whole : FnScope N_is_whole ["thing"] (defScope s_is_whole) := ⟨rfl, rfl, rfl, by decide +kernel, rfl, by decide +kernel, by decide +kernel⟩
theorem bd_is_whole : Pu.Bd "is_whole" "is_whole" s_is_whole ["thing"] := fun _ _ _ _ _ _ us hl => match us, hl with | [_], _ => rfl
theorem ix_is_whole_0 : Pu.Ix N_is_whole 0 "thing" := ⟨rfl, by decide +kernel, by decide +kernel⟩
abbrev s_is_among : Stmt := (top 6)
abbrev N_is_among : List Str := ["thing", "least", "most"]
theorem sc_is_among : FnScope N_is_among ["thing", "least", "most"] (defScope s_is_among) := ⟨rfl, rfl, rfl, by decide +kernel, rfl, by decide +kernel, by decide +kernel⟩
theorem bd_is_among : Pu.Bd "is_among" "is_among" s_is_among ["thing", "least", "most"] := fun _ _ _ _ _ _ us hl => match us, hl with | [_, _, _], _ => rfl
theorem ix_is_among_0 : Pu.Ix N_is_among 0 "thing" := ⟨rfl, by decide +kernel, by decide +kernel⟩
theorem ix_is_among_1 : Pu.Ix N_is_among 1 "least" := ⟨rfl, by decide +kernel, by decide +kernel⟩
theorem ix_is_among_2 : Pu.Ix N_is_among 2 "most" := ⟨rfl, by decide +kernel, by decide +kernel⟩
abbrev s_is_name : Stmt := (top 7)
abbrev N_is_name : List Str := ["thing", "sign"]
theorem sc_is_name : FnScope N_is_name ["thing"] (defScope s_is_name) := ⟨rfl, rfl, rfl, by decide +kernel, rfl, by decide +kernel, by decide +kernel⟩
theorem bd_is_name : Pu.Bd "is_name" "is_name" s_is_name ["thing"] := fun _ _ _ _ _ _ us hl => match us, hl with | [_], _ => rfl
theorem ix_is_name_0 : Pu.Ix N_is_name 0 "thing" := ⟨rfl, by decide +kernel, by decide +kernel⟩
theorem ix_is_name_1 : Pu.Ix N_is_name 1 "sign" := ⟨rfl, by decide +kernel, by decide +kernel⟩
abbrev s_number_of : Stmt := (top 8)
abbrev N_number_of : List Str := ["word", "sign"]
theorem sc_number_of : FnScope N_number_of ["word"] (defScope s_number_of) := ⟨rfl, rfl, rfl, by decide +kernel, rfl, by decide +kernel, by decide +kernel⟩
theorem bd_number_of : Pu.Bd "number_of" "number_of" s_number_of ["word"] := fun _ _ _ _ _ _ us hl => match us, hl with | [_], _ => rfl
theorem ix_number_of_0 : Pu.Ix N_number_of 0 "word" := ⟨rfl, by decide +kernel, by decide +kernel⟩
theorem ix_number_of_1 : Pu.Ix N_number_of 1 "sign" := ⟨rfl, by decide +kernel, by decide +kernel⟩
abbrev s_words_of : Stmt := (top 9)
abbrev N_words_of : List Str := ["row", "found"]
theorem sc_words_of : FnScope N_words_of ["row"] (defScope s_words_of) := ⟨rfl, rfl, rfl, by decide +kernel, rfl, by decide +kernel, by decide +kernel⟩
theorem bd_words_of : Pu.Bd "words_of" "words_of" s_words_of ["row"] := fun _ _ _ _ _ _ us hl => match us, hl with | [_], _ => rfl
theorem ix_words_of_0 : Pu.Ix N_words_of 0 "row" := ⟨rfl, by decide +kernel, by decide +kernel⟩
theorem ix_words_of_1 : Pu.Ix N_words_of 1 "found" := ⟨rfl, by decide +kernel, by decide +kernel⟩
abbrev s_l_mixed : Stmt := (top 11)
abbrev N_l_mixed : List Str := ["_law_cell", "_law_k"]
theorem sc_l_mixed : FnScope N_l_mixed ["_law_cell", "_law_k"] (defScope s_l_mixed) := ⟨rfl, rfl, rfl, by decide +kernel, rfl, by decide +kernel, by decide +kernel⟩
theorem bd_l_mixed : Pu.Bd "_law_mixed" "_law_mixed" s_l_mixed ["_law_cell", "_law_k"] := fun _ _ _ _ _ _ us hl => match us, hl with | [_, _], _ => rfl
theorem ix_l_mixed_0 : Pu.Ix N_l_mixed 0 "_law_cell" := ⟨rfl, by decide +kernel, by decide +kernel⟩
theorem ix_l_mixed_1 : Pu.Ix N_l_mixed 1 "_law_k" := ⟨rfl, by decide +kernel, by decide +kernel⟩
abbrev s_l_word : Stmt := (top 12)
abbrev N_l_word : List Str := ["_law_number_here", "_law_signs", "_law_k"]
theorem sc_l_word : FnScope N_l_word ["_law_number_here", "_law_signs"] (defScope s_l_word) := ⟨rfl, rfl, rfl, by decide +kernel, rfl, by decide +kernel, by decide +kernel⟩
theorem bd_l_word : Pu.Bd "_law_word" "_law_word" s_l_word ["_law_number_here", "_law_signs"] := fun _ _ _ _ _ _ us hl => match us, hl with | [_, _], _ => rfl
theorem ix_l_word_0 : Pu.Ix N_l_word 0 "_law_number_here" := ⟨rfl, by decide +kernel, by decide +kernel⟩
theorem ix_l_word_1 : Pu.Ix N_l_word 1 "_law_signs" := ⟨rfl, by decide +kernel, by decide +kernel⟩
theorem ix_l_word_2 : Pu.Ix N_l_word 2 "_law_k" := ⟨rfl, by decide +kernel, by decide +kernel⟩
abbrev s_l_number : Stmt := (top 13)
abbrev N_l_number : List Str := ["_law_word_here", "_law_found", "_law_sign"]
theorem sc_l_number : FnScope N_l_number ["_law_word_here"] (defScope s_l_number) := ⟨rfl, rfl, rfl, by decide +kernel, rfl, by decide +kernel, by decide +kernel⟩
theorem bd_l_number : Pu.Bd "_law_number" "_law_number" s_l_number ["_law_word_here"] := fun _ _ _ _ _ _ us hl => match us, hl with | [_], _ => rfl
theorem ix_l_number_0 : Pu.Ix N_l_number 0 "_law_word_here" := ⟨rfl, by decide +kernel, by decide +kernel⟩
theorem ix_l_number_1 : Pu.Ix N_l_number 1 "_law_found" := ⟨rfl, by decide +kernel, by decide +kernel⟩
theorem ix_l_number_2 : Pu.Ix N_l_number 2 "_law_sign" := ⟨rfl, by decide +kernel, by decide +kernel⟩
abbrev s_l_one : Stmt := (top 14)
abbrev N_l_one : List Str := ["_law_word_here", "_law_letters", "_law_due", "_law_found", "_law_sign"]
theorem sc_l_one : FnScope N_l_one ["_law_word_here"] (defScope s_l_one) := ⟨rfl, rfl, rfl, by decide +kernel, rfl, by decide +kernel, by decide +kernel⟩
theorem bd_l_one : Pu.Bd "_law_one" "_law_one" s_l_one ["_law_word_here"] := fun _ _ _ _ _ _ us hl => match us, hl with | [_], _ => rfl
theorem ix_l_one_0 : Pu.Ix N_l_one 0 "_law_word_here" := ⟨rfl, by decide +kernel, by decide +kernel⟩
theorem ix_l_one_1 : Pu.Ix N_l_one 1 "_law_letters" := ⟨rfl, by decide +kernel, by decide +kernel⟩
theorem ix_l_one_2 : Pu.Ix N_l_one 2 "_law_due" := ⟨rfl, by decide +kernel, by decide +kernel⟩
theorem ix_l_one_3 : Pu.Ix N_l_one 3 "_law_found" := ⟨rfl, by decide +kernel, by decide +kernel⟩
theorem ix_l_one_4 : Pu.Ix N_l_one 4 "_law_sign" := ⟨rfl, by decide +kernel, by decide +kernel⟩
abbrev s_l_row : Stmt := (top 15)
abbrev N_l_row : List Str := ["_law_words", "_law_number_here", "_law_row_here", "_law_turn", "_law_found", "_law_at", "_law_parts"]
theorem sc_l_row : FnScope N_l_row ["_law_words", "_law_number_here"] (defScope s_l_row) := ⟨rfl, rfl, rfl, by decide +kernel, rfl, by decide +kernel, by decide +kernel⟩
theorem bd_l_row : Pu.Bd "_law_row" "_law_row" s_l_row ["_law_words", "_law_number_here"] := fun _ _ _ _ _ _ us hl => match us, hl with | [_, _], _ => rfl
theorem ix_l_row_0 : Pu.Ix N_l_row 0 "_law_words" := ⟨rfl, by decide +kernel, by decide +kernel⟩
theorem ix_l_row_1 : Pu.Ix N_l_row 1 "_law_number_here" := ⟨rfl, by decide +kernel, by decide +kernel⟩
theorem ix_l_row_2 : Pu.Ix N_l_row 2 "_law_row_here" := ⟨rfl, by decide +kernel, by decide +kernel⟩
theorem ix_l_row_3 : Pu.Ix N_l_row 3 "_law_turn" := ⟨rfl, by decide +kernel, by decide +kernel⟩
theorem ix_l_row_4 : Pu.Ix N_l_row 4 "_law_found" := ⟨rfl, by decide +kernel, by decide +kernel⟩
theorem ix_l_row_5 : Pu.Ix N_l_row 5 "_law_at" := ⟨rfl, by decide +kernel, by decide +kernel⟩
theorem ix_l_row_6 : Pu.Ix N_l_row 6 "_law_parts" := ⟨rfl, by decide +kernel, by decide +kernel⟩
abbrev s_law : Stmt := (top 16)
abbrev N_law : List Str := ["_law_script", "_law_words", "_law_cell", "_law_number_here", "_law_signs", "_law_odd", "_law_due", "_law_big"]
theorem sc_law : FnScope N_law ["_law_script"] (defScope s_law) := ⟨rfl, rfl, rfl, by decide +kernel, rfl, by decide +kernel, by decide +kernel⟩
theorem bd_law : Pu.Bd "law" "law" s_law ["_law_script"] := fun _ _ _ _ _ _ us hl => match us, hl with | [_], _ => rfl
theorem ix_law_0 : Pu.Ix N_law 0 "_law_script" := ⟨rfl, by decide +kernel, by decide +kernel⟩
theorem ix_law_1 : Pu.Ix N_law 1 "_law_words" := ⟨rfl, by decide +kernel, by decide +kernel⟩
theorem ix_law_2 : Pu.Ix N_law 2 "_law_cell" := ⟨rfl, by decide +kernel, by decide +kernel⟩
theorem ix_law_3 : Pu.Ix N_law 3 "_law_number_here" := ⟨rfl, by decide +kernel, by decide +kernel⟩
theorem ix_law_4 : Pu.Ix N_law 4 "_law_signs" := ⟨rfl, by decide +kernel, by decide +kernel⟩
theorem ix_law_5 : Pu.Ix N_law 5 "_law_odd" := ⟨rfl, by decide +kernel, by decide +kernel⟩
theorem ix_law_6 : Pu.Ix N_law 6 "_law_due" := ⟨rfl, by decide +kernel, by decide +kernel⟩
theorem ix_law_7 : Pu.Ix N_law 7 "_law_big" := ⟨rfl, by decide +kernel, by decide +kernel⟩
/-- the built-in names and constants -/
structure Gm (m : Pu.Md) : Prop where
  b_all : m.mg "all" = none
  b_int : m.mg "int" = none
  b_range : m.mg "range" = none
  b_isinstance : m.mg "isinstance" = none
  b_str : m.mg "str" = none
  b_bool : m.mg "bool" = none
  b_len : m.mg "len" = none
  b_sum : m.mg "sum" = none
  b_list : m.mg "list" = none
  c_LETTERS : Pu.GStr m "LETTERS" "abcdefghijklmnopqrstuvwxyz"
  c_FIGURES : Pu.GStr m "FIGURES" "0123456789"
  c_MOST_LETTERS : Pu.GInt m "MOST_LETTERS" 8
  c_MOST_FIGURES : Pu.GInt m "MOST_FIGURES" 4
-- obtain ⟨g0, g1, g2, g3, g4, g5, g6, g7, g8, g9, g10, g11, g12⟩ := g

set_option Elab.async false
set_option linter.all false
set_option maxRecDepth 100000
set_option maxHeartbeats 4000000
local macro_rules | `(tactic| walk_at "side") => `(tactic| first | assumption | decide | omega | rfl | exact Or.inl ⟨by omega, by omega⟩ | exact Or.inr ⟨by omega, by omega⟩ | exact ⟨by omega, by omega⟩ | simp)
local macro_rules | `(tactic| walk_at "var") => `(tactic| (refine' Pu.p_var ?h1 ?h2 ?h3 ?h4; (case h1 => assumption); (case h2 => with_reducible assumption); (case h3 => decide +kernel); (case h4 => rfl)))
local macro_rules | `(tactic| walk_at "args") => `(tactic| first | exact Pu.as_nil | (refine' Pu.as_cons ?a ?b; (case a => walk_at "ev"); (case b => walk_at "args")))
local macro_rules | `(tactic| walk_at "cmp") => `(tactic| first
  | (refine' Pu.c_lt ?a ?b; (case a => walk_at "ev"); (case b => walk_at "ev"))
  | (refine' Pu.c_le ?a ?b; (case a => walk_at "ev"); (case b => walk_at "ev"))
  | (refine' Pu.c_gt ?a ?b; (case a => walk_at "ev"); (case b => walk_at "ev"))
  | (refine' Pu.c_ge ?a ?b; (case a => walk_at "ev"); (case b => walk_at "ev"))
  | (refine' Pu.c_isN ?a; (case a => walk_at "ev"))
  | (refine' Pu.c_notN ?a; (case a => walk_at "ev"))
  | (refine' Pu.c_isBl ?a ?b; (case a => walk_at "ev"); (case b => walk_at "ev"))
  | (refine' Pu.c_isNotBl ?a ?b; (case a => walk_at "ev"); (case b => walk_at "ev"))
  | (refine' Pu.c_eqI ?x ?a ?b; (case x => assumption); (case a => walk_at "ev"); (case b => walk_at "ev"))
  | (refine' Pu.c_neI ?x ?a ?b; (case x => assumption); (case a => walk_at "ev"); (case b => walk_at "ev"))
  | (refine' Pu.c_eqS ?a ?b; (case a => walk_at "ev"); (case b => walk_at "ev"))
  | (refine' Pu.c_neS ?a ?b; (case a => walk_at "ev"); (case b => walk_at "ev"))
  | (refine' Pu.c_eqB ?a ?b; (case a => walk_at "ev"); (case b => walk_at "ev"))
  | (refine' Pu.c_neB ?a ?b; (case a => walk_at "ev"); (case b => walk_at "ev"))
  | (refine' Pu.c_inSign ?a ?b; (case a => walk_at "ev"); (case b => walk_at "ev"))
  | (refine' Pu.c_notInSign ?a ?b; (case a => walk_at "ev"); (case b => walk_at "ev"))
  | walk_at "cmp2")
local macro_rules | `(tactic| walk_at "test") => `(tactic| first
  | (refine' Pu.t_of_c ?a; (case a => walk_at "cmp"))
  | (refine' Pu.t_not ?a; (case a => walk_at "test"))
  | (refine' Pu.t_leLe ?a ?b ?c; (case a => walk_at "ev"); (case b => walk_at "ev"); (case c => walk_at "ev"))
  | (refine' Pu.t_val ?a; (case a => walk_at "ev"))
  | walk_at "test2")
local macro_rules | `(tactic| walk_at "ev") => `(tactic| first
  | exact Pu.p_int
  | exact Pu.p_str
  | exact Pu.p_bl
  | exact Pu.p_non
  | walk_at "var"
  | (refine' Pu.p_of_c ?a; (case a => walk_at "cmp"))
  | (refine' Pu.p_leLe ?a ?b ?c; (case a => walk_at "ev"); (case b => walk_at "ev"); (case c => walk_at "ev"))
  | (refine' Pu.p_add ?a ?b; (case a => walk_at "ev"); (case b => walk_at "ev"))
  | (refine' Pu.p_sub ?a ?b; (case a => walk_at "ev"); (case b => walk_at "ev"))
  | (refine' Pu.p_mul ?c ?a ?b; (case a => walk_at "ev"); (case b => walk_at "ev"); (case c => walk_at "side"))
  | (refine' Pu.p_mod ?c ?a ?b; (case a => walk_at "ev"); (case b => walk_at "ev"); (case c => walk_at "side"))
  | (refine' Pu.p_fdiv ?c ?a ?b; (case a => walk_at "ev"); (case b => walk_at "ev"); (case c => walk_at "side"))
  | (refine' Pu.p_neg ?a; (case a => walk_at "ev"))
  | (refine' Pu.p_not ?a; (case a => walk_at "ev"))
  | (refine' Pu.p_gint ?h1 ?h2 ?h3; (case h1 => assumption); (case h2 => with_reducible assumption); (case h3 => decide +kernel))
  | (refine' Pu.p_gstr ?h1 ?h2 ?h3; (case h1 => assumption); (case h2 => with_reducible assumption); (case h3 => decide +kernel))
  | (refine' Pu.p_gtup ?h1 ?h2 ?h3; (case h1 => assumption); (case h2 => with_reducible assumption); (case h3 => decide +kernel))
  | ((with_reducible show Pu.P _ _ (PySem.Expr.Call (PySem.Expr.Name (PySem.Str.ofString "isinstance") _) [_, PySem.Expr.Name (PySem.Str.ofString "int") _] _ _) _); refine' Pu.p_isInt ?h1 ?h2 ?h3 ?h4 ?h5 ?h6 ?h7; (case h1 => assumption); (case h7 => walk_at "ev"); (case h2 => walk_at "side"); (case h3 => decide +kernel); (case h4 => with_reducible assumption); (case h5 => decide +kernel); (case h6 => with_reducible assumption))
  | ((with_reducible show Pu.P _ _ (PySem.Expr.Call (PySem.Expr.Name (PySem.Str.ofString "isinstance") _) [_, PySem.Expr.Name (PySem.Str.ofString "bool") _] _ _) _); refine' Pu.p_isBool ?h1 ?h2 ?h3 ?h4 ?h5 ?h6 ?h7; (case h1 => assumption); (case h7 => walk_at "ev"); (case h2 => walk_at "side"); (case h3 => decide +kernel); (case h4 => with_reducible assumption); (case h5 => decide +kernel); (case h6 => with_reducible assumption))
  | ((with_reducible show Pu.P _ _ (PySem.Expr.Call (PySem.Expr.Name (PySem.Str.ofString "isinstance") _) [_, PySem.Expr.Name (PySem.Str.ofString "str") _] _ _) _); refine' Pu.p_isStr ?h1 ?h2 ?h3 ?h4 ?h5 ?h6 ?h7; (case h1 => assumption); (case h7 => walk_at "ev"); (case h2 => walk_at "side"); (case h3 => decide +kernel); (case h4 => with_reducible assumption); (case h5 => decide +kernel); (case h6 => with_reducible assumption))
  | ((with_reducible show Pu.P _ _ (PySem.Expr.Call (PySem.Expr.Name (PySem.Str.ofString "isinstance") _) [_, PySem.Expr.Name (PySem.Str.ofString "list") _] _ _) _); refine' Pu.p_isList ?h1 ?h2 ?h3 ?h4 ?h5 ?h6 ?h7; (case h1 => assumption); (case h7 => walk_at "ev"); (case h2 => walk_at "side"); (case h3 => decide +kernel); (case h4 => with_reducible assumption); (case h5 => decide +kernel); (case h6 => with_reducible assumption))
  | ((with_reducible show Pu.P _ _ (PySem.Expr.Call (PySem.Expr.Name (PySem.Str.ofString "isinstance") _) [_, PySem.Expr.Name (PySem.Str.ofString "tuple") _] _ _) _); refine' Pu.p_isTuple ?h1 ?h2 ?h3 ?h4 ?h5 ?h6 ?h7; (case h1 => assumption); (case h7 => walk_at "ev"); (case h2 => walk_at "side"); (case h3 => decide +kernel); (case h4 => with_reducible assumption); (case h5 => decide +kernel); (case h6 => with_reducible assumption))
  | ((with_reducible show Pu.P _ _ (PySem.Expr.Call (PySem.Expr.Name (PySem.Str.ofString "len") _) _ _ _) _); refine' Pu.p_len ?h1 ?h2 ?h3 ?h4 ?h5; (case h1 => assumption); (case h5 => walk_at "ev"); (case h2 => constructor); (case h3 => decide +kernel); (case h4 => with_reducible assumption))
  | ((with_reducible show Pu.P _ _ (PySem.Expr.Call (PySem.Expr.Name (PySem.Str.ofString "len") _) _ _ _) _); refine' Pu.p_lenS ?h1 ?h2 ?h3 ?h4 ?h5; (case h1 => assumption); (case h5 => walk_at "ev"); (case h2 => walk_at "side"); (case h3 => decide +kernel); (case h4 => with_reducible assumption))
  | ((with_reducible show Pu.P _ _ (PySem.Expr.Call (PySem.Expr.Name (PySem.Str.ofString "int") _) _ _ _) _); refine' Pu.p_intB ?h1 ?h3 ?h4 ?h5; (case h1 => assumption); (case h5 => walk_at "ev"); (case h3 => decide +kernel); (case h4 => with_reducible assumption))
  | (refine' Pu.p_tup ?a ?z; (case a => walk_at "args"); (case z => simp))
  | (refine' Pu.p_one ?a; (case a => walk_at "ev"))
  | ((with_reducible show Pu.P _ _ (PySem.Expr.Call (PySem.Expr.Name (PySem.Str.ofString "sum") _) _ _ _) _); refine' Pu.p_sum ?h1 ?h2 ?h3 ?h4 ?h5; (case h1 => assumption); (case h5 => walk_at "ev"); (case h2 => constructor); (case h3 => decide +kernel); (case h4 => with_reducible assumption))
  | (refine' Pu.P.lastL (Pu.p_lst ?a ?z); (case a => walk_at "args"); (case z => simp))
  | exact Pu.p_dict0
  | walk_at "ev2")
open Pu
variable {m : Md}
def isWh (d : D) : Bool := d.isInt && !d.isBool
def R_is_whole (ds : List D) (o : Ow) : Prop := ∃ d, ds = [d] ∧ d.pl = true ∧ o = .per (.bl (isWh d))
theorem f_is_whole (g : Gm m) (hd : Df m "is_whole" "is_whole" "is_whole" s_is_whole) : FnAt m 1 "is_whole" 1 R_is_whole := by
  refine hd.at sc_is_whole bd_is_whole (fun ds o h => by obtain ⟨d, rfl, _⟩ := h; rfl) fun X hX ds o h => ?_
  obtain ⟨d, rfl, hp, rfl⟩ := h
  have i0 := ix_is_whole_0
  obtain ⟨g0, g1, g2, g3, g4, g5, g6, g7, g8, g9, g10, g11, g12⟩ := g
  show S X _ [some (.per d)] _
  refine s_cons (s1_ret (o := .per (.bl (isWh d))) ?_ rfl)
  refine p_and ?_ fun _ => p_one ?_
  · walk_at "ev"
  · walk_at "ev"
/-- a whole number from l to h -/
def amg (d : D) (l h : Int) : Bool := match d with
  | .int i => decide (l ≤ i) && decide (i ≤ h)
  | _ => false
def R_is_among (ds : List D) (o : Ow) : Prop := ∃ d l h, ds = [d, .int l, .int h] ∧ d.pl = true ∧ o = .per (.bl (amg d l h))
theorem f_is_among (g : Gm m) (F : FnAt m 1 "is_whole" 1 R_is_whole) (hd : Df m "is_among" "is_among" "is_among" s_is_among) : FnAt m 2 "is_among" 3 R_is_among := by
  refine hd.at sc_is_among bd_is_among (fun ds o h => by obtain ⟨d, l, h, rfl, _⟩ := h; rfl) fun X hX ds o h => ?_
  obtain ⟨d, l, h, rfl, hp, rfl⟩ := h
  have i0 := ix_is_among_0
  have i1 := ix_is_among_1
  have i2 := ix_is_among_2
  obtain ⟨g0, g1, g2, g3, g4, g5, g6, g7, g8, g9, g10, g11, g12⟩ := g
  show S X _ [some (.per d), some (.per (.int l)), some (.per (.int h))] _
  refine s_cons (s1_ret (o := .per (.bl (amg d l h))) ?_ rfl)
  refine p_andO (q := isWh d) ?_ (fun hw => p_one ?_) (fun hw => ?_)
  · refine p_call hX F (by decide) (by decide +kernel) (ds := [d]) ?_ ⟨d, rfl, hp, rfl⟩
    walk_at "args"
  · cases d <;> first | cases hw | skip
    walk_at "ev"
  · cases d <;> first | rfl | cases hw
/-- the codes of a text -/
abbrev tl (z : Str) : List Nat := z.cps.toList
theorem len_tl (z : Str) : z.length = (tl z).length := by simp [tl, Str.length]

def nameB (d : D) : Bool := match d with
  | .str z => (decide ((1 : Int) ≤ z.length) && decide ((z.length : Int) ≤ 8)) && (tl z).all fun c => decide (c ∈ tl "abcdefghijklmnopqrstuvwxyz")
  | _ => false
def shortS (d : D) : Prop := ∀ z, d = .str z → z.length ≤ 1000
theorem sz1000 {n : Nat} (h : n ≤ 1000) : n ≤ sizeLine := Nat.le_trans h (by decide)
def R_is_name (ds : List D) (o : Ow) : Prop := ∃ d, ds = [d] ∧ d.pl = true ∧ shortS d ∧ o = .per (.bl (nameB d))
/-- [sign in LETTERS for sign in z] and its like -/
theorem all_signs {X : Cx} {N : List Str} {sc fs scope : Scope} {k i : Nat} {env : Ev} {z w : Str} {x : Str} {e b : Expr} {p1 p2 p3 p4 : Pos} (hX : Cs X m N sc fs k) (hi : Ix N i x) (hk : blkC N sc scope [(x, i)] = true) (hn : i < env.length)
    (hl : locB (relS scope sc) scope x = true) (hv : visB (relS scope sc) x = true) (hz : z.length ≤ 1000) (he : P X env e (.per (.str z))) (hb : ∀ X' c, Cs X' m N (relS scope sc) scope k → P X' ((wipeE env [i]).set i (some (.per (.str ⟨#[c]⟩)))) b (.per (.str w)))
    (hs : ∀ en x, foldedSetIterable e en x = pure x := by intro _ _; rfl) (hm : behindInMarks .In b = false := by rfl) :
    P X env (.ListComp (.Compare (.Name x p1) [.In] [b] p2) [⟨.Name x p3, e, [], 0⟩] scope p4) (.per (.lst (((tl z).map fun c => decide (c ∈ tl w)).map D.bl))) := by
  have hlen : (wipeE env [i]).length = env.length := by simp [wipeE]
  have h := p_lcA (pos := p4) hX [(x, i)] (tl z) (fun c => D.str ⟨#[c]⟩) (fun _ => true) (fun c => .per (.bl (decide (c ∈ tl w)))) (it_str (tg := .Name x p3) he) hk (by rw [← len_tl]; exact sz1000 hz) (elt := .Compare (.Name x p1) [.In] [b] p2) (ifs := []) (fun j c hc =>
    ⟨_, [i], by simp, fun X' hX' => ⟨tg_name hX' hi hl (by show i < (wipeE env [i]).length; rw [hlen]; exact hn), ts_nil, fun _ => p_of_c (c_inSign (p_var hX' hi hv (by simp [hn, wipeE])) (hb X' c hX') hm)⟩⟩) hs
  rw [filter_true] at h
  have e : ((tl z).map fun c => Ow.per (D.bl (decide (c ∈ tl w)))) = ((((tl z).map fun c => decide (c ∈ tl w)).map D.bl)).map Ow.per := by simp
  rw [e] at h
  exact h.lastL
theorem all_map {α : Type} (f : α → Bool) (xs : List α) : (xs.map f).all id = xs.all f := by simp
theorem f_is_name (g : Gm m) (hd : Df m "is_name" "is_name" "is_name" s_is_name) : FnAt m 1 "is_name" 1 R_is_name := by
  refine hd.at sc_is_name bd_is_name (fun ds o h => by obtain ⟨d, rfl, _⟩ := h; rfl) fun X hX ds o h => ?_
  obtain ⟨d, rfl, hp, hz, rfl⟩ := h
  have i0 := ix_is_name_0
  have i1 := ix_is_name_1
  obtain ⟨g0, g1, g2, g3, g4, g5, g6, g7, g8, g9, g10, g11, g12⟩ := g
  show S X _ [some (.per d), none] _
  by_cases hs : d.isStr = true
  · cases d <;> first | (exact Bool.noConfusion hs) | skip
    rename_i z
    have hz := hz z rfl
    have hzs := sz1000 hz
    refine' s_cons (s1_if (TW.t (tw_or ?t1 fun _ => tw_or1 ?t2)) ?y ?n)
    (case t1 => walk_at "test")
    (case t2 => walk_at "test")
    (case y =>
      intro hq
      refine s_cons (s1_ret p_bl ?_)
      simp only [D.isStr, Bool.not_true, Bool.false_or, Bool.not_eq_true'] at hq
      show Ow.per (D.bl false) = _
      simp only [nameB, hq, Bool.false_and])
    (case n =>
      intro hq
      simp only [D.isStr, Bool.not_true, Bool.false_or, Bool.not_eq_false'] at hq
      refine s_nil (s_cons (s1_ret (o := .per (.bl (nameB (.str z)))) ?_ rfl))
      refine P.bl (p_all hX (IsL.lst _) (by decide +kernel) (by assumption) (all_signs hX i1 (by decide +kernel) (by simp) (by decide +kernel) (by decide +kernel) hz (w := "abcdefghijklmnopqrstuvwxyz") ?a fun X' c hX' => ?b)) ?e
      (case a => walk_at "ev")
      (case b => walk_at "ev")
      (case e => rw [all_map]; simp only [nameB, hq, Bool.true_and]))
  · have hs : d.isStr = false := by simpa using hs
    have e : nameB d = false := by cases d <;> first | rfl | cases hs
    rw [e]
    refine' s_cons (s1_if (TW.t (tw_or (r := true) ?t1 fun h => ?t2)) ?y ?n)
    (case t1 => walk_at "test")
    (case t2 => rw [hs] at h; cases h)
    (case y => intro _; exact s_cons (s1_ret p_bl rfl))
    (case n => intro h; rw [hs] at h; cases h)

def isDig (c : Nat) : Bool := decide (c ∈ tl "0123456789")
theorem dig_iff (c : Nat) : isDig c = true ↔ 48 ≤ c ∧ c ≤ 57 := by
  have e : tl "0123456789" = [48, 49, 50, 51, 52, 53, 54, 55, 56, 57] := by decide +kernel
  unfold isDig
  rw [e]
  simp
  omega
def okNum (z : Str) : Bool := (decide ((1 : Int) ≤ z.length) && decide ((z.length : Int) ≤ 4)) && ((tl z).all isDig && !((tl z).head? == some 48 && !(z == "0")))
def numD (d : D) : D := match d with
  | .str z => if okNum z = true then .int (NumText.digitsVal (tl z) : Nat) else .non
  | _ => .non
def R_number_of (ds : List D) (o : Ow) : Prop := ∃ d, ds = [d] ∧ d.pl = true ∧ shortS d ∧ o = .per (numD d)
theorem f_number_of (g : Gm m) (hd : Df m "number_of" "number_of" "number_of" s_number_of) : FnAt m 1 "number_of" 1 R_number_of := by
  refine hd.at sc_number_of bd_number_of (fun ds o h => by obtain ⟨d, rfl, _⟩ := h; rfl) fun X hX ds o h => ?_
  obtain ⟨d, rfl, hp, hz, rfl⟩ := h
  have i0 := ix_number_of_0
  have i1 := ix_number_of_1
  obtain ⟨g0, g1, g2, g3, g4, g5, g6, g7, g8, g9, g10, g11, g12⟩ := g
  show S X _ [some (.per d), none] _
  by_cases hs : d.isStr = true
  · cases d <;> first | (exact Bool.noConfusion hs) | skip
    rename_i z
    have hz := hz z rfl
    have hzs := sz1000 hz
    refine' s_cons (s1_if (TW.t (tw_or ?t1 fun _ => tw_or1 ?t2)) ?y ?n)
    (case t1 => walk_at "test")
    (case t2 => walk_at "test")
    (case y =>
      intro hq
      refine s_cons (s1_ret p_non ?_)
      simp only [D.isStr, Bool.not_true, Bool.false_or, Bool.not_eq_true'] at hq
      show Ow.per D.non = _
      simp only [numD, okNum, hq, Bool.false_and]
      rfl)
    (case n =>
      intro hq
      simp only [D.isStr, Bool.not_true, Bool.false_or, Bool.not_eq_false'] at hq
      have hlen : 1 ≤ (tl z).length ∧ (tl z).length ≤ 4 := by
        simp only [Bool.and_eq_true, decide_eq_true_eq] at hq
        rw [← len_tl]
        omega
      obtain ⟨c, cs, hcs⟩ : ∃ c cs, tl z = c :: cs := by
        cases h : tl z with
        | nil => rw [h] at hlen; simp at hlen
        | cons c cs => exact ⟨c, cs, rfl⟩
      have hat : atI (tl z) 0 = some c := by rw [hcs]; simp [atI, ixN]
      have hz640 : z.length ≤ 640 := by rw [len_tl]; omega
      have eh : ((⟨#[c]⟩ : Str) == ("0" : Str)) = ((tl z).head? == some 48) := by
        rw [hcs]
        have e0 : ("0" : Str) = ⟨#[48]⟩ := by decide +kernel
        rw [e0, Bool.eq_iff_iff]
        simp
      have ed : ((tl z).all fun c => decide (c ∈ tl "0123456789")) = (tl z).all isDig := rfl
      refine s_nil ?_
      refine' s_cons (s1_if (TW.t (tw_or (t_not (t_val (P.bl (p_all hX (IsL.lst _) (by decide +kernel) (by assumption) (all_signs hX i1 (by decide +kernel) (by simp) (by decide +kernel) (by decide +kernel) hz (w := "0123456789") ?a fun X' c hX' => ?b)) (all_map _ _)))) fun _ => tw_or1 (TW.t (tw_and (t_of_c (c_eqS (p_ixS hzs hat ?c ?d) ?e)) fun _ => tw_and1 (t_of_c (c_neS ?f ?g)))))) ?y ?n)
      (case a => walk_at "ev")
      (case b => walk_at "ev")
      (case c => walk_at "ev")
      (case d => walk_at "ev")
      (case e => walk_at "ev")
      (case f => walk_at "ev")
      (case g => walk_at "ev")
      (case y =>
        intro h2
        refine s_cons (s1_ret p_non ?_)
        rw [eh, ed] at h2
        show Ow.per D.non = _
        have : okNum z = false := by
          unfold okNum
          rw [hq, Bool.true_and]
          generalize (tl z).all isDig = p at h2 ⊢
          generalize ((tl z).head? == some 48 && !(z == "0")) = q at h2 ⊢
          cases p <;> cases q <;> simp_all
        simp only [numD, this]
        rfl)
      (case n =>
        intro h2
        rw [eh, ed] at h2
        have h3 : (tl z).all isDig = true ∧ okNum z = true := by
          unfold okNum
          rw [hq, Bool.true_and]
          generalize (tl z).all isDig = p at h2 ⊢
          generalize ((tl z).head? == some 48 && !(z == "0")) = q at h2 ⊢
          cases p <;> cases q <;> simp_all
        refine s_nil (s_cons (s1_ret (p_intS hX (n := (NumText.digitsVal (tl z) : Nat)) ?a hz640 (by decide +kernel) (by assumption) ?b) ?_))
        (case a =>
          refine intText_digits (fun c hc => ?_) (fun z0 => by have z0 : tl z = [] := z0; rw [hcs] at z0; cases z0) (by rw [len_tl]; omega)
          exact (dig_iff c).mp (List.all_eq_true.mp h3.1 c hc))
        (case b => walk_at "ev")
        show Ow.per _ = _
        simp only [numD, h3.2]
        rfl))
  · have hs : d.isStr = false := by simpa using hs
    have e : numD d = .non := by cases d <;> first | rfl | cases hs
    rw [e]
    refine' s_cons (s1_if (TW.t (tw_or (r := true) ?t1 fun h => ?t2)) ?y ?n)
    (case t1 => walk_at "test")
    (case t2 => rw [hs] at h; cases h)
    (case y => intro _; exact s_cons (s1_ret p_non rfl))
    (case n => intro h; rw [hs] at h; cases h)
/-- the words of a row -/
def wordsD (d : D) : Ow := match d with
  | .str z => if ("" : Str) ∈ Txt.split z " " then .per .non else .lst (((Txt.split z " ").map D.str).map Ow.per)
  | _ => .per .non
def longS (d : D) : Prop := ∀ z, d = .str z → z.length ≤ 100000
def R_words_of (ds : List D) (o : Ow) : Prop := ∃ d, ds = [d] ∧ d.pl = true ∧ longS d ∧ o = wordsD d
theorem in0_strs (z : Str) (ys : List Str) : D.in0 (.str z) (ys.map D.str) = decide (z ∈ ys) := by
  unfold D.in0
  rw [List.any_map]
  induction ys with
  | nil => rfl
  | cons y ys ih =>
    simp only [List.any_cons, List.mem_cons, ih]
    have : ((fun y => y.eq0 (D.str z)) ∘ D.str) y = decide (z = y) := by
      show (y == z) = decide (z = y)
      by_cases h : z = y
      · subst h; simp
      · rw [decide_eq_false h]
        exact beq_eq_false_iff_ne.mpr (Ne.symm h)
    rw [this]
    simp
theorem strs_f0 : ∀ ys : List Str, (ys.map D.str).all D.f0 = true
  | [] => rfl
  | y :: ys => by
    show (true && (ys.map D.str).all D.f0) = true
    rw [strs_f0 ys]; rfl
theorem f_words_of (g : Gm m) (hd : Df m "words_of" "words_of" "words_of" s_words_of) : FnAt m 1 "words_of" 1 R_words_of := by
  refine hd.at sc_words_of bd_words_of (fun ds o h => by obtain ⟨d, rfl, _⟩ := h; rfl) fun X hX ds o h => ?_
  obtain ⟨d, rfl, hp, hz, rfl⟩ := h
  have i0 := ix_words_of_0
  have i1 := ix_words_of_1
  obtain ⟨g0, g1, g2, g3, g4, g5, g6, g7, g8, g9, g10, g11, g12⟩ := g
  show S X _ [some (.per d), none] _
  by_cases hs : d.isStr = true
  · cases d <;> first | (exact Bool.noConfusion hs) | skip
    rename_i z
    have hz := hz z rfl
    refine' s_cons (s1_if ?t ?y ?n)
    (case t => walk_at "test")
    (case y => intro h; cases h)
    (case n =>
      intro _
      refine s_nil (s_cons (s1_set hX i1 (by decide +kernel) (by simp) (p_split (y := " ") (by decide +kernel) (Nat.le_trans (Nat.add_le_add_right hz 2) (by decide)) ?a ?b) ?_))
      (case a => walk_at "ev")
      (case b => walk_at "ev")
      refine' s_cons (s1_if (T.lent (i := 1) rfl (t_of_c (c_in0 (IsS.lst ((Txt.split z " ").map D.str)) ?f1 ?f2 ?a ?b))) ?y ?n)
      (case a => exact p_str)
      (case b => exact P.cong (p_var hX i1 (by decide +kernel) rfl) (by rw [Ow.fr, frs_per]))
      (case f1 => rfl)
      (case f2 => exact strs_f0 _)
      all_goals rw [in0_strs]
      (case y =>
        intro h
        refine s_cons (s1_ret p_non ?_)
        show Ow.per .non = _
        simp only [wordsD]
        rw [if_pos (of_decide_eq_true h)])
      (case n =>
        intro h
        refine s_nil (s_cons (s1_retVar hX i1 (by decide +kernel) rfl ?_))
        show Ow.lst _ = _
        simp only [wordsD]
        rw [if_neg (of_decide_eq_false h)]))
  · have hs : d.isStr = false := by simpa using hs
    have e : wordsD d = .per .non := by cases d <;> first | rfl | cases hs
    rw [e]
    refine' s_cons (s1_if ?t ?y ?n)
    (case t => walk_at "test")
    (case y => intro _; exact s_cons (s1_ret p_non rfl))
    (case n => intro h; rw [hs] at h; cases h)


set_option Elab.async false
set_option linter.all false
set_option maxRecDepth 100000
set_option maxHeartbeats 4000000
def mixI (c k : Int) : Int := (c % 1000000007 + 7919 * k + 13) * (c % 1000000007 + 7919 * k + 13) % 1000000007 * 48271 % 2147483647
theorem mixI_lo (c k : Int) : 0 ≤ mixI c k := Int.emod_nonneg _ (by decide)
theorem mixI_hi (c k : Int) : mixI c k < 2147483647 := Int.emod_lt_of_pos _ (by decide)
def R_l_mixed (ds : List D) (o : Ow) : Prop := ∃ c k : Int, ds = [.int c, .int k] ∧ 0 ≤ k ∧ k ≤ 1000000 ∧ o = .per (.int (mixI c k))
theorem f_l_mixed (g : Gm m) (hd : Df m "_law_mixed" "_law_mixed" "_law_mixed" s_l_mixed) : FnAt m 1 "_law_mixed" 2 R_l_mixed := by
  refine hd.at sc_l_mixed bd_l_mixed (fun ds o h => by obtain ⟨c, k, rfl, _⟩ := h; rfl) fun X hX ds o h => ?_
  obtain ⟨c, k, rfl, hk0, hk1, rfl⟩ := h
  have i0 := ix_l_mixed_0
  have i1 := ix_l_mixed_1
  show S X _ [some (.per (.int c)), some (.per (.int k))] _
  refine s_cons (s1_set hX i0 (by decide +kernel) (by simp) (o := .per (.int (c % 1000000007 + 7919 * k + 13))) ?_ ?_)
  · walk_at "ev"
  · refine s_cons (s1_ret (o := .per (.int (mixI c k))) ?_ rfl)
    have h1 : 0 ≤ c % 1000000007 := Int.emod_nonneg _ (by decide)
    have h2 : c % 1000000007 < 1000000007 := Int.emod_lt_of_pos _ (by decide)
    show P X [some (.per (.int (c % 1000000007 + 7919 * k + 13))), some (.per (.int k))] _ _
    unfold mixI
    generalize hn : c % 1000000007 + 7919 * k + 13 = n
    have h3 : 0 ≤ n := by omega
    have h4 : n < 10000000000 := by omega
    walk_at "ev"

/-- a word of some signs -/
def wordF (n : Int) (z : Str) : Str := Txt.join "" ((List.range (n % 11).toNat).map fun (k : Nat) => (⟨#[(tl z).getD (mixI n k % z.length).toNat 0]⟩ : Str))
theorem join_empty : ∀ ys : List Str, tl (Txt.join "" ys) = (ys.map tl).flatten := by
  intro ys
  have e : tl ("" : Str) = [] := by decide +kernel
  have h := TL.tl_join ("" : Str) ys
  rw [← TL.join_eq] at h
  refine h.trans ?_
  have : ∀ l : List (List Nat), TL.joinL [] l = l.flatten := by
    intro l
    induction l with
    | nil => rfl
    | cons p r ih =>
      cases r with
      | nil => simp [TL.joinL]
      | cons q r =>
        simp only [TL.joinL, List.nil_append]
        rw [ih]
        simp
  have e2 : TL.tl ("" : Str) = [] := e
  rw [e2]
  exact this _
theorem wordF_tl (n : Int) (z : Str) : tl (wordF n z) = (List.range (n % 11).toNat).map fun (k : Nat) => (tl z).getD (mixI n k % z.length).toNat 0 := by
  unfold wordF
  rw [join_empty, List.map_map]
  induction (List.range (n % 11).toNat) with
  | nil => rfl
  | cons x xs ih => simp only [List.map_cons, List.flatten_cons, ih]; rfl
theorem wordF_len (n : Int) (z : Str) : (wordF n z).length ≤ 10 := by
  rw [len_tl, wordF_tl]
  simp
  omega
theorem wordF_mem {n : Int} {z : Str} (hz : 0 < z.length) {c : Nat} (h : c ∈ tl (wordF n z)) : c ∈ tl z := by
  rw [wordF_tl] at h
  obtain ⟨k, _, rfl⟩ := List.mem_map.mp h
  have hz' : (0 : Int) < z.length := by omega
  have h1 : 0 ≤ mixI n k % z.length := Int.emod_nonneg _ (by omega)
  have h2 : mixI n k % z.length < z.length := Int.emod_lt_of_pos _ hz'
  have h3 : (mixI n k % z.length).toNat < (tl z).length := by rw [← len_tl]; omega
  rw [List.getD_eq_getElem?_getD, List.getElem?_eq_getElem h3]
  exact List.getElem_mem h3
def R_l_word (ds : List D) (o : Ow) : Prop := ∃ (n : Int) (z : Str), ds = [.int n, .str z] ∧ 0 < z.length ∧ z.length ≤ 100 ∧ o = .per (.str (wordF n z))
theorem f_l_word (g : Gm m) (F : FnAt m 1 "_law_mixed" 2 R_l_mixed) (hd : Df m "_law_word" "_law_word" "_law_word" s_l_word) : FnAt m 2 "_law_word" 2 R_l_word := by
  refine hd.at sc_l_word bd_l_word (fun ds o h => by obtain ⟨n, z, rfl, _⟩ := h; rfl) fun X hX ds o h => ?_
  obtain ⟨n, z, rfl, hz0, hz1, rfl⟩ := h
  have i0 := ix_l_word_0
  have i1 := ix_l_word_1
  have i2 := ix_l_word_2
  obtain ⟨g0, g1, g2, g3, g4, g5, g6, g7, g8, g9, g10, g11, g12⟩ := g
  have hzs : z.length ≤ sizeLine := Nat.le_trans hz1 (by decide)
  have hn0 : 0 ≤ n % 11 := Int.emod_nonneg _ (by decide)
  have hn1 : n % 11 < 11 := Int.emod_lt_of_pos _ (by decide)
  show S X _ [some (.per (.int n)), some (.per (.str z)), none] _
  refine s_cons (s1_ret (o := .per (.str (wordF n z))) ?_ rfl)
  refine p_join (ys := (List.range (n % 11).toNat).map fun (k : Nat) => (⟨#[(tl z).getD (mixI n k % z.length).toNat 0]⟩ : Str)) (IsS.lst _) ?hz p_str ?b
  case hz =>
    have e1 : ("" : Str).length = 0 := by decide +kernel
    rw [e1, List.map_map, Nat.mul_zero, Nat.add_zero]
    have : ∀ l : List Nat, (l.map (Str.length ∘ fun (k : Nat) => (⟨#[(tl z).getD (mixI n k % z.length).toNat 0]⟩ : Str))).sum = l.length := by
      intro l
      induction l with
      | nil => rfl
      | cons x xs ih => rw [List.map_cons, List.sum_cons, ih, List.length_cons]; show 1 + _ = _; omega
    refine Nat.le_trans (Nat.le_of_eq (this _)) ?_
    rw [List.length_range]
    omega
  case b =>
    refine P.lastL (P.cong (p_lcA hX [("_law_k", 2)] (List.range (n % 11).toNat) (fun (k : Nat) => D.int (0 + k)) (fun _ => true) (fun (k : Nat) => .per (.str ⟨#[(tl z).getD (mixI n k % z.length).toNat 0]⟩)) (it_range1 hX ?h1 (by decide +kernel) (by assumption) ?h2) (by decide +kernel) ?h3 ?h4) ?h5)
    (case h1 => exact ⟨by omega, by omega⟩)
    (case h2 => walk_at "ev")
    (case h3 => rw [List.length_range]; exact Nat.le_trans (show (n % 11).toNat ≤ 100 by omega) (by decide))
    (case h5 => rw [filter_true]; simp)
    (case h4 =>
      intro i k hk
      have hkn : k < (n % 11).toNat := List.mem_range.mp (List.mem_of_getElem? hk)
      refine ⟨_, [2], by simp, fun X' hX' => ⟨tg_name hX' i2 (by decide +kernel) (by simp [wipeE]), ts_nil, fun _ => ?_⟩⟩
      have hzi : (0 : Int) < z.length := by omega
      have h1 : 0 ≤ mixI n k % z.length := Int.emod_nonneg _ (by omega)
      have h2 : mixI n k % z.length < z.length := Int.emod_lt_of_pos _ hzi
      refine p_ixS (i := mixI n k % z.length) hzs ?_ ?_ (p_mod hzi (P.cong (p_call hX' F (by decide) (by decide +kernel) (ds := [.int n, .int (0 + k)]) ?_ ⟨n, 0 + k, rfl, by omega, by omega, rfl⟩) (by rw [Int.zero_add])) ?_)
      · have h3 : (mixI n k % z.length).toNat < (tl z).length := by rw [← len_tl]; omega
        unfold atI ixN
        rw [if_pos h1, if_pos (by rw [← len_tl]; exact h2)]
        show (tl z)[(mixI n k % z.length).toNat]? = _
        rw [List.getD_eq_getElem?_getD, List.getElem?_eq_getElem h3]
        rfl
      · walk_at "ev"
      · walk_at "args"
      · walk_at "ev")

/-! ### the law's own number -/
theorem occ_dig : ∀ c : Nat, 48 ≤ c → c ≤ 57 → ∃ rest, Builtin.Str.occurrences ("0123456789" : Str) ⟨#[c]⟩ 0 ("0123456789" : Str).length 1 = (c - 48) :: rest := by
  intro c h1 h2
  have : c = 48 ∨ c = 49 ∨ c = 50 ∨ c = 51 ∨ c = 52 ∨ c = 53 ∨ c = 54 ∨ c = 55 ∨ c = 56 ∨ c = 57 := by omega
  rcases this with rfl | rfl | rfl | rfl | rfl | rfl | rfl | rfl | rfl | rfl <;> exact ⟨[], by decide +kernel⟩
def R_l_number (ds : List D) (o : Ow) : Prop := ∃ z : Str, ds = [.str z] ∧ z.length ≤ 1000 ∧ o = .per (numD (.str z))
theorem not_digs (z : Str) : D.eqv (.lst (((tl z).filter fun c => !isDig c).map fun c => D.str ⟨#[c]⟩)) (.lst []) = (tl z).all isDig := by
  rw [eqv_lst]
  induction tl z with
  | nil => exact eqvs_nil
  | cons c cs ih =>
    cases h : isDig c with
    | true => simp only [List.filter_cons, h, Bool.not_true, Bool.false_eq_true, if_false, List.all_cons, Bool.true_and]; exact ih
    | false => simp only [List.filter_cons, h, Bool.not_false, if_true, List.map_cons, List.all_cons, Bool.false_and]; exact eqvs_cn _ _
theorem flats_signs (cs : List Nat) (h : ∀ c ∈ cs, c < 0x110000) : flats 0 (cs.map fun c => D.str ⟨#[c]⟩) = true := by
  rw [flats_all, List.all_map, List.all_eq_true]
  intro c hc
  show PyData.strOk ⟨#[c]⟩ = true
  have := h c hc
  simp [PyData.strOk, this]
theorem f_l_number (g : Gm m) (hd : Df m "_law_number" "_law_number" "_law_number" s_l_number) : FnAt m 1 "_law_number" 1 (fun ds o => ∃ z : Str, ds = [.str z] ∧ z.length ≤ 1000 ∧ (∀ c ∈ tl z, c < 0x110000) ∧ o = .per (numD (.str z))) := by
  refine hd.at sc_l_number bd_l_number (fun ds o h => by obtain ⟨z, rfl, _⟩ := h; rfl) fun X hX ds o h => ?_
  obtain ⟨z, rfl, hz, hok, rfl⟩ := h
  have i0 := ix_l_number_0
  have i1 := ix_l_number_1
  have i2 := ix_l_number_2
  have hzs := sz1000 hz
  obtain ⟨g0, g1, g2, g3, g4, g5, g6, g7, g8, g9, g10, g11, g12⟩ := g
  show S X _ [some (.per (.str z)), none, none] _
  have hlc : ∀ {e b : Expr} {p1 p2 p3 p4 p5 : Pos} {scope : Scope}, True := fun {_ _ _ _ _ _ _ _} => trivial
  refine' s_cons (s1_if (TW.t (tw_or ?t1 fun _ => tw_or1 (t_of_c (c_ne hX 1 ?f1 ?f2 (P.lastL (p_lcD hX [("_law_sign", 2)] (tl z) (fun c => D.str ⟨#[c]⟩) (fun c => !isDig c) (fun c => D.str ⟨#[c]⟩) (it_str ?a) (by decide +kernel) (by rw [← len_tl]; exact hzs) ?b)) (P.lastL (p_lst (ds := []) as_nil (by decide))))))) ?y ?n)
  (case t1 => walk_at "test")
  (case a => walk_at "ev")
  (case b =>
    intro i c hc
    refine ⟨_, [2], by simp, fun X' hX' => ⟨tg_name hX' i2 (by decide +kernel) (by simp [wipeE]), ts_one (t_of_c (c_notInSign (c' := c) ?_ ?_)), fun _ => ?_⟩⟩
    · walk_at "ev"
    · walk_at "ev"
    · walk_at "ev")
  (case f1 =>
    simp only [D.flat]
    exact flats_signs _ fun c hc => hok c (List.mem_filter.mp hc).1)
  (case f2 => rfl)
  all_goals rw [not_digs]
  (case y =>
    intro hq
    refine s_cons (s1_ret p_non ?_)
    show Ow.per D.non = _
    have : okNum z = false := by
      unfold okNum
      generalize (decide ((1 : Int) ≤ z.length) && decide ((z.length : Int) ≤ 4)) = a at hq ⊢
      generalize (tl z).all isDig = b at hq ⊢
      cases a <;> cases b <;> simp_all
    simp only [numD, this]
    rfl)
  (case n =>
    intro hq
    have hq2 : (decide ((1 : Int) ≤ z.length) && decide ((z.length : Int) ≤ 4)) = true ∧ (tl z).all isDig = true := by
      generalize (decide ((1 : Int) ≤ z.length) && decide ((z.length : Int) ≤ 4)) = a at hq ⊢
      generalize (tl z).all isDig = b at hq ⊢
      cases a <;> cases b <;> simp_all
    obtain ⟨hq, hdg⟩ := hq2
    have hlen : 1 ≤ (tl z).length ∧ (tl z).length ≤ 4 := by
      simp only [Bool.and_eq_true, decide_eq_true_eq] at hq
      rw [← len_tl]
      omega
    obtain ⟨c, cs, hcs⟩ : ∃ c cs, tl z = c :: cs := by
      cases h : tl z with
      | nil => rw [h] at hlen; simp at hlen
      | cons c cs => exact ⟨c, cs, rfl⟩
    have hat : atI (tl z) 0 = some c := by rw [hcs]; simp [atI, ixN]
    have eh : ((⟨#[c]⟩ : Str) == ("0" : Str)) = ((tl z).head? == some 48) := by
      rw [hcs]
      have e0 : ("0" : Str) = ⟨#[48]⟩ := by decide +kernel
      rw [e0, Bool.eq_iff_iff]
      simp
    have e00 : (decide ((1 : Int) < z.length) && (tl z).head? == some 48) = ((tl z).head? == some 48 && !(z == "0")) := by
      have hz0 : (z == ("0" : Str)) = decide (tl z = [48]) := by
        rw [Bool.eq_iff_iff, beq_iff_eq, decide_eq_true_eq]
        constructor
        · intro h; rw [h]; decide +kernel
        · intro h; exact TL.ext_tl (h.trans (by decide +kernel))
      rw [hz0, len_tl, hcs]
      cases cs with
      | nil => by_cases h : c = 48 <;> simp [h]
      | cons c2 cs => simp; omega
    refine s_nil ?_
    refine' s_cons (s1_if (TW.t (tw_and ?t1 fun _ => tw_and1 (t_of_c (c_eqS (p_ixS hzs hat ?c ?d) ?e)))) ?y ?n)
    (case t1 => walk_at "test")
    (case c => walk_at "ev")
    (case d => walk_at "ev")
    (case e => walk_at "ev")
    all_goals rw [eh, e00]
    (case y =>
      intro h2
      refine s_cons (s1_ret p_non ?_)
      show Ow.per D.non = _
      have : okNum z = false := by
        unfold okNum
        rw [hq, hdg, h2]
        rfl
      simp only [numD, this]
      rfl)
    (case n =>
      intro h2
      have h3 : okNum z = true := by
        unfold okNum
        rw [hq, hdg, h2]
        rfl
      refine s_nil (s_cons (s1_set hX i1 (by decide +kernel) (by simp) p_int ?_))
      show S X _ [some (.per (.str z)), some (.per (.int 0)), none] _
      refine s_cons (s1_for hX (it_str (z := z) ?a1) (fun i env => ∃ s, env = [some (.per (.str z)), some (.per (.int (((tl z).take i).foldl (fun (acc : Nat) c => acc * 10 + (c - 48)) 0 : Nat))), s]) ⟨none, rfl⟩ ?b1 ?d1)
      (case a1 => walk_at "ev")
      (case b1 =>
        rintro i d env hd ⟨s, rfl⟩
        unfold signsD at hd
        rw [List.getElem?_map] at hd
        cases hc : z.cps.toList[i]? with
        | none => rw [hc] at hd; cases hd
        | some c =>
          rw [hc] at hd
          cases hd
          have hcd := (dig_iff c).mp (List.all_eq_true.mp hdg c (List.mem_of_getElem? hc))
          obtain ⟨rest, ho⟩ := occ_dig c hcd.1 hcd.2
          have hi : i < (tl z).length := (List.getElem?_eq_some_iff.mp hc).1
          generalize hacc : ((tl z).take i).foldl (fun (acc : Nat) c => acc * 10 + (c - 48)) 0 = acc
          have hb : acc < 10000 := by
            have : ∀ (l : List Nat) (a : Nat), (∀ c ∈ l, 48 ≤ c ∧ c ≤ 57) → l.foldl (fun (acc : Nat) c => acc * 10 + (c - 48)) a < (a + 1) * 10 ^ l.length := by
              intro l
              induction l with
              | nil => intro a _; simp
              | cons x xs ih =>
                intro a h
                have hx := h x List.mem_cons_self
                have := ih (a * 10 + (x - 48)) fun c hc => h c (List.mem_cons_of_mem _ hc)
                rw [List.foldl_cons, List.length_cons, Nat.pow_succ]
                refine Nat.lt_of_lt_of_le this ?_
                rw [Nat.mul_comm (10 ^ xs.length) 10, ← Nat.mul_assoc]
                exact Nat.mul_le_mul_right _ (by omega)
            have h5 := this ((tl z).take i) 0 fun c hc => (dig_iff c).mp (List.all_eq_true.mp hdg c (List.mem_of_mem_take hc))
            rw [hacc] at h5
            have h6 : ((tl z).take i).length ≤ 4 := by rw [List.length_take]; omega
            exact Nat.lt_of_lt_of_le h5 (by
              rw [Nat.zero_add, Nat.one_mul]
              exact Nat.le_trans (Nat.pow_le_pow_right (by decide) h6) (by decide))
          refine ⟨_, [2], tg_name hX i2 (by decide +kernel) (by simp), ?_⟩
          show S X _ [some (.per (.str z)), some (.per (.int (acc : Nat))), some (.per (.str ⟨#[c]⟩))] _
          refine s_cons (s1_set hX i1 (by decide +kernel) (by simp) (p_add (p_mul (i := (acc : Nat)) (j := 10) (.inr ⟨by omega, by omega⟩) ?_ p_int) (p_sindex ho p_str ?_)) ?_)
          · walk_at "ev"
          · walk_at "ev"
          · refine s_nil ⟨some (.per (.str ⟨#[c]⟩)), ?_⟩
            have e : (tl z).take (i + 1) = (tl z).take i ++ [c] := by
              rw [List.take_succ_eq_append_getElem hi]
              have := (List.getElem?_eq_some_iff.mp hc).2
              rw [← this]
            rw [e, List.foldl_append, hacc]
            simp only [List.foldl_cons, List.foldl_nil]
            show _ = [some (Ow.per (D.str z)), _, some (.per (.str ⟨#[c]⟩))]
            simp)
      (case d1 =>
        rintro env ⟨s, rfl⟩
        refine s_cons (s1_ret (o := .per (numD (.str z))) ?_ rfl)
        have hl : (signsD z).length = (tl z).length := by simp [signsD]
        rw [hl, List.take_length]
        simp only [numD, h3, if_true]
        walk_at "ev")))


set_option Elab.async false
set_option linter.all false
set_option maxRecDepth 100000
set_option maxHeartbeats 4000000

def R_l_num (ds : List D) (o : Ow) : Prop := ∃ z : Str, ds = [.str z] ∧ z.length ≤ 1000 ∧ (∀ c ∈ tl z, c < 0x110000) ∧ o = .per (numD (.str z))
def R_l_one (ds : List D) (o : Ow) : Prop := ∃ z : Str, ds = [.str z] ∧ z.length ≤ 1000 ∧ (∀ c ∈ tl z, c < 0x110000) ∧ o = .per (.bl true)
theorem numD_cases (z : Str) : numD (.str z) = .non ∨ ∃ i, numD (.str z) = .int i := by
  by_cases h : okNum z = true
  · exact .inr ⟨_, by simp only [numD, h, if_true]; rfl⟩
  · exact .inl (by simp only [numD, h, if_false]; rfl)
theorem filter_len {α : Type} (p : α → Bool) : ∀ l : List α, decide (((l.filter p).length : Int) = (l.length : Int)) = l.all p := by
  intro l
  induction l with
  | nil => rfl
  | cons x xs ih =>
    have hle := List.length_filter_le p xs
    cases h : p x with
    | true =>
      rw [List.filter_cons_of_pos h, List.all_cons, h, Bool.true_and, ← ih]
      rw [Bool.eq_iff_iff, decide_eq_true_eq, decide_eq_true_eq]
      simp only [List.length_cons]
      omega
    | false =>
      rw [List.filter_cons_of_neg (by rw [h]; simp), List.all_cons, h, Bool.false_and]
      refine decide_eq_false ?_
      simp only [List.length_cons]
      omega
theorem f_l_one (g : Gm m) (F1 : FnAt m 1 "_law_number" 1 R_l_num) (F2 : FnAt m 1 "number_of" 1 R_number_of) (F3 : FnAt m 1 "is_name" 1 R_is_name) (hd : Df m "_law_one" "_law_one" "_law_one" s_l_one) : FnAt m 2 "_law_one" 1 R_l_one := by
  refine hd.at sc_l_one bd_l_one (fun ds o h => by obtain ⟨z, rfl, _⟩ := h; rfl) fun X hX ds o h => ?_
  obtain ⟨z, rfl, hz, hok, rfl⟩ := h
  have i0 := ix_l_one_0
  have i1 := ix_l_one_1
  have i2 := ix_l_one_2
  have i3 := ix_l_one_3
  have i4 := ix_l_one_4
  have hzs := sz1000 hz
  obtain ⟨g0, g1, g2, g3, g4, g5, g6, g7, g8, g9, g10, g11, g12⟩ := g
  show S X _ [some (.per (.str z)), none, none, none, none] _
  refine s_cons (s1_setLcA hX [("_law_sign", 4)] (tl z) (fun c => D.str ⟨#[c]⟩) (fun c => decide (c ∈ tl "abcdefghijklmnopqrstuvwxyz")) (fun c => .per (.str ⟨#[c]⟩)) i1 (by decide +kernel) (by simp) (it_str ?a1) (by decide +kernel) (by rw [← len_tl]; exact hzs) ?b1 ?c1)
  (case a1 => walk_at "ev")
  (case b1 =>
    intro i c hc
    refine ⟨_, [4], by simp, fun X' hX' => ⟨tg_name hX' i4 (by decide +kernel) (by simp [wipeE]), ts_one (t_of_c (c_inSign (c' := c) ?_ ?_)), fun _ => ?_⟩⟩
    · walk_at "ev"
    · walk_at "ev"
    · walk_at "ev")
  generalize hL : (tl z).filter (fun c => decide (c ∈ tl "abcdefghijklmnopqrstuvwxyz")) = L
  have hLl : decide ((L.length : Int) = (z.length : Int)) = (tl z).all fun c => decide (c ∈ tl "abcdefghijklmnopqrstuvwxyz") := by
    rw [← filter_len, hL, len_tl]
  show S X _ [some (.per (.str z)), some (.lst (L.map fun c => .per (.str ⟨#[c]⟩))), none, none, none] _
  refine s_cons (s1_set hX i2 (by decide +kernel) (by simp) (o := .per (numD (.str z))) (p_call hX F1 (by decide) (by decide +kernel) (ds := [.str z]) ?a2 ⟨z, rfl, hz, hok, rfl⟩) ?b2)
  (case a2 => walk_at "args")
  show S X _ [some (.per (.str z)), some (.lst (L.map fun c => .per (.str ⟨#[c]⟩))), some (.per (numD (.str z))), none, none] _
  refine s_cons (s1_set hX i3 (by decide +kernel) (by simp) (o := .per (numD (.str z))) (p_call hX F2 (by decide) (by decide +kernel) (ds := [.str z]) ?a3 ⟨.str z, rfl, rfl, fun w hw => by cases hw; exact hz, rfl⟩) ?b3)
  (case a3 => walk_at "args")
  show S X _ [some (.per (.str z)), some (.lst (L.map fun c => .per (.str ⟨#[c]⟩))), some (.per (numD (.str z))), some (.per (numD (.str z))), none] _
  have hpl : (numD (.str z)).pl = true ∧ (numD (.str z)).isBool = false ∧ D.flat 0 (numD (.str z)) = true := by
    rcases numD_cases z with h | ⟨i, h⟩ <;> rw [h] <;> exact ⟨rfl, rfl, rfl⟩
  obtain ⟨hp1, hp2, hp3⟩ := hpl
  generalize hnd : numD (.str z) = nd at *
  refine' s_cons (s1_if (TW.t (tw_or ?t1 fun _ => tw_or (t_of_c (c_ne hX 0 hp3 hp3 ?t2 ?t3)) fun _ => tw_or1 ?t4)) ?y ?n)
  (case t1 => walk_at "test")
  (case t2 => walk_at "ev")
  (case t3 => walk_at "ev")
  (case t4 => walk_at "test")
  (case y =>
    intro h
    rw [hp2, eqv_refl hp3] at h
    generalize nd.isN = b at h
    cases b <;> cases h)
  (case n =>
    intro _
    refine s_nil (s_cons (s1_ret (o := .per (.bl true)) ?_ rfl))
    have hnm : nameB (.str z) = (decide ((L.length : Int) = (z.length : Int)) && (decide ((1 : Int) ≤ z.length) && decide ((z.length : Int) ≤ 8))) := by
      rw [hLl]
      simp only [nameB]
      rw [Bool.and_comm]
    refine' P.bl (p_of_c (c_eqB (p_call hX F3 (by decide) (by decide +kernel) (ds := [.str z]) ?a4 ⟨.str z, rfl, rfl, fun w hw => by cases hw; exact hz, rfl⟩) (p_and (p_of_c (c_eqI hX (P.lent (i := 1) rfl rfl (p_len hX (IsS.lst (L.map fun c => D.str ⟨#[c]⟩)) (by decide +kernel) (by assumption) ?a5)) ?a6)) fun _ => p_one ?a7))) ?e4
    (case a4 => walk_at "args")
    (case a5 =>
      refine P.cong (p_var hX i1 (by decide +kernel) rfl) ?_
      show Ow.per (Ow.lst _).fr = _
      rw [Ow.fr, frs_eq, List.map_map]
      rfl)
    (case a6 => walk_at "ev")
    (case a7 => walk_at "ev")
    (case e4 =>
      rw [List.length_map, hnm]
      exact beq_self_eq_true _))

/-! ### rows -/
theorem spl_mem (S : List Nat) : ∀ (l : List Nat) (k : Nat) (acc p : List Nat) (c : Nat), p ∈ TL.spl S k acc l → c ∈ p → c ∈ acc ∨ c ∈ l
  | [], k, acc, p, c, h, hc => by
    rw [TL.spl_nil] at h
    rw [List.mem_singleton.mp h] at hc
    exact .inl hc
  | x :: r, 0, acc, p, c, h, hc => by
    cases hp : TL.pre S (x :: r) with
    | true =>
      rw [TL.spl_hit hp] at h
      rcases List.mem_cons.mp h with h | h
      · rw [h] at hc; exact .inl hc
      · rcases spl_mem S r _ _ p c h hc with z | z
        · cases z
        · exact .inr (List.mem_cons_of_mem _ z)
    | false =>
      rw [TL.spl_miss hp] at h
      rcases spl_mem S r _ _ p c h hc with z | z
      · rcases List.mem_append.mp z with z | z
        · exact .inl z
        · rw [List.mem_singleton.mp z]; exact .inr List.mem_cons_self
      · exact .inr (List.mem_cons_of_mem _ z)
  | x :: r, k + 1, acc, p, c, h, hc => by
    rcases spl_mem S r k acc p c h hc with z | z
    · exact .inl z
    · exact .inr (List.mem_cons_of_mem _ z)
theorem blank_tl : tl (" " : Str) = [32] := by decide +kernel
theorem split_mem {z w : Str} {c : Nat} (h : w ∈ Txt.split z " ") (hc : c ∈ tl w) : c ∈ tl z := by
  have hs := TL.split_spl z (" " : Str) (fun q => by have : tl (" " : Str) = [] := q; rw [blank_tl] at this; cases this) (TL.kind_ok (by decide +kernel))
  have hm : tl w ∈ TL.spl (TL.tl (" " : Str)) 0 [] (TL.tl z) := by rw [← hs]; exact List.mem_map.mpr ⟨w, h, rfl⟩
  rcases spl_mem _ _ _ _ _ c hm hc with q | q
  · cases q
  · exact q
theorem join_mem {ws : List Str} {c : Nat} (h : c ∈ tl (Txt.join " " ws)) : c = 32 ∨ ∃ w ∈ ws, c ∈ tl w := by
  have e := TL.tl_join (" " : Str) ws
  rw [← TL.join_eq] at e
  have h' : c ∈ TL.joinL (TL.tl (" " : Str)) (ws.map TL.tl) := by rw [← e]; exact h
  have key : ∀ l : List Str, c ∈ TL.joinL [32] (l.map TL.tl) → c = 32 ∨ ∃ w ∈ l, c ∈ tl w := by
    intro l
    induction l with
    | nil => intro q; cases q
    | cons p r ih =>
      intro q
      cases r with
      | nil => exact .inr ⟨p, List.mem_cons_self, by simpa [TL.joinL] using q⟩
      | cons p2 r =>
        simp only [List.map_cons, TL.joinL] at q
        rcases List.mem_append.mp q with q | q
        · exact .inr ⟨p, List.mem_cons_self, q⟩
        · rcases List.mem_append.mp q with q | q
          · exact .inl (List.mem_singleton.mp q)
          · rcases ih q with z | ⟨w, hw, z⟩
            · exact .inl z
            · exact .inr ⟨w, List.mem_cons_of_mem _ hw, z⟩
  have e3 : TL.tl (" " : Str) = [32] := blank_tl
  rw [e3] at h'
  exact key ws h'
theorem join_len {ws : List Str} {n : Nat} (h : ∀ w ∈ ws, w.length ≤ n) : (Txt.join " " ws).length ≤ ws.length * (n + 1) := by
  have e := TL.tl_join (" " : Str) ws
  rw [← TL.join_eq] at e
  rw [len_tl]
  refine Nat.le_trans (Nat.le_of_eq (congrArg List.length e)) ?_
  have e3 : TL.tl (" " : Str) = [32] := blank_tl
  rw [e3]
  clear e
  induction ws with
  | nil => simp [TL.joinL]
  | cons p r ih =>
    have hp : (TL.tl p).length ≤ n := by rw [← TL.len_tl]; exact h p List.mem_cons_self
    cases r with
    | nil => simp only [List.map_cons, List.map_nil, TL.joinL, List.length_cons, List.length_nil]; omega
    | cons p2 r =>
      have := ih fun w hw => h w (List.mem_cons_of_mem _ hw)
      simp only [List.map_cons, TL.joinL, List.length_append, List.length_cons, List.length_nil] at this ⊢
      rw [Nat.succ_mul]
      omega
theorem sum_len {ws : List Str} {n : Nat} (h : ∀ w ∈ ws, w.length ≤ n) : (ws.map (·.length)).sum ≤ ws.length * n := by
  induction ws with
  | nil => simp
  | cons p r ih =>
    have := ih fun w hw => h w (List.mem_cons_of_mem _ hw)
    have := h p List.mem_cons_self
    simp only [List.map_cons, List.sum_cons, List.length_cons]
    rw [Nat.succ_mul]
    omega
def okW (w : Str) : Prop := 0 < w.length ∧ w.length ≤ 20 ∧ ∀ c ∈ tl w, c ≠ 32 ∧ c < 0x110000
def R_l_row (ds : List D) (o : Ow) : Prop := ∃ (ws : List Str) (n : Int), ds = [.lst (ws.map D.str), .int n] ∧ ws ≠ [] ∧ ws.length ≤ 200 ∧ (∀ w ∈ ws, okW w) ∧ o = .per (.bl true)
theorem strs_flat {ws : List Str} (h : ∀ w ∈ ws, ∀ c ∈ tl w, c < 0x110000) : flats 0 (ws.map D.str) = true := by
  rw [flats_all, List.all_map, List.all_eq_true]
  intro w hw
  show PyData.strOk w = true
  unfold PyData.strOk
  rw [Array.all_eq_true]
  intro i hi
  have := h w hw w.cps[i] (by simp [tl])
  simpa using this
theorem cutS_mem {z : Str} {a b : Option Int} {c : Nat} (h : c ∈ tl (cutS z a b)) : c ∈ tl z := List.mem_of_mem_drop (List.mem_of_mem_take (by simpa [cutS, tl] using h))

theorem f_l_row (g : Gm m) (F : FnAt m 1 "words_of" 1 R_words_of) (hd : Df m "_law_row" "_law_row" "_law_row" s_l_row) : FnAt m 2 "_law_row" 2 R_l_row := by
  refine hd.at sc_l_row bd_l_row (fun ds o h => by obtain ⟨ws, n, rfl, _⟩ := h; rfl) fun X hX ds o h => ?_
  obtain ⟨ws, n, rfl, hne, hl, hw, rfl⟩ := h
  have i0 := ix_l_row_0
  have i1 := ix_l_row_1
  have i2 := ix_l_row_2
  have i3 := ix_l_row_3
  have i4 := ix_l_row_4
  have i5 := ix_l_row_5
  have i6 := ix_l_row_6
  obtain ⟨g0, g1, g2, g3, g4, g5, g6, g7, g8, g9, g10, g11, g12⟩ := g
  show S X _ [some (.per (.lst (ws.map D.str))), some (.per (.int n)), none, none, none, none, none] _
  have hb1 : (" " : Str).length = 1 := by decide +kernel
  have hsum := sum_len (ws := ws) (n := 20) fun w hw' => (hw w hw').2.1
  refine' s_cons (s1_set hX i2 (by decide +kernel) (by simp) (p_join (ys := ws) (IsS.lst _) ?z1 p_str ?a1) ?b1)
  (case z1 => rw [hb1]; omega)
  (case a1 => walk_at "ev")
  generalize hrow : Txt.join (" " : Str) ws = row
  have hrl : row.length ≤ 4200 := by
    have := join_len (ws := ws) (n := 20) fun w hw' => (hw w hw').2.1
    rw [hrow] at this
    omega
  have hrs : row.length ≤ sizeLine := Nat.le_trans hrl (by decide)
  have hrc : ∀ c ∈ tl row, c < 0x110000 := fun c hc => by
    rw [← hrow] at hc
    rcases join_mem hc with rfl | ⟨w, hw', hc⟩
    · decide
    · exact ((hw w hw').2.2 c hc).2
  have hsp : Txt.split row " " = ws := by
    rw [← hrow]
    exact TL.split_join (s := 32) (S := []) blank_tl (by decide +kernel) hne fun p hp hc => ((hw p hp).2.2 32 hc).1 rfl
  have hnoe : ("" : Str) ∉ ws := fun h => by
    have := (hw _ h).1
    have e : ("" : Str).length = 0 := by decide +kernel
    omega
  have hwd : wordsD (.str row) = .lst ((ws.map D.str).map Ow.per) := by
    simp only [wordsD, hsp]
    rw [if_neg hnoe]
  have hfl : D.flat 1 (.lst (ws.map D.str)) = true := by
    simp only [D.flat]
    exact strs_flat fun w hw' c hc => ((hw w hw').2.2 c hc).2
  show S X _ [some (.per (.lst (ws.map D.str))), some (.per (.int n)), some (.per (.str row)), none, none, none, none] _
  refine' s_cons (s1_for hX (it_range1 hX (j := 2) ⟨by decide, by decide⟩ (by decide +kernel) (by assumption) p_int) (fun i env => ∃ s3 s4, env = [some (.per (.lst (ws.map D.str))), some (.per (.int n)), some (.per (.str row)), s3, s4, none, none]) ⟨none, none, rfl⟩ ?b2 ?d2)
  (case b2 =>
    rintro i d env hdd ⟨s3, s4, rfl⟩
    obtain ⟨hi, rfl⟩ := rangeD_get hdd
    refine ⟨_, [3], tg_name hX i3 (by decide +kernel) (by simp), ?_⟩
    show S X _ [some (.per (.lst (ws.map D.str))), some (.per (.int n)), some (.per (.str row)), some (.per (.int (0 + i))), s4, none, none] _
    refine' s_cons (s1_set hX i4 (by decide +kernel) (by simp) (P.cong (p_call hX F (by decide) (by decide +kernel) (ds := [.str row]) ?a3 ⟨.str row, rfl, rfl, fun z hz => by cases hz; omega, rfl⟩) hwd) ?b3)
    (case a3 => walk_at "args")
    show S X _ [some (.per (.lst (ws.map D.str))), some (.per (.int n)), some (.per (.str row)), some (.per (.int (0 + i))), some (.lst ((ws.map D.str).map Ow.per)), none, none] _
    have hfr : Ow.per (Ow.lst ((ws.map D.str).map Ow.per)).fr = .per (.lst (ws.map D.str)) := by rw [Ow.fr, frs_per]
    refine' s_cons (s1_if (T.lent (i := 4) rfl (TW.t (tw_or (t_not (t_val (p_isList hX (d := .lst (ws.map D.str)) rfl (by decide +kernel) (by assumption) (by decide +kernel) (by assumption) (P.cong (p_var hX i4 (by decide +kernel) rfl) hfr)))) fun _ => tw_or1 (t_of_c (c_ne hX 1 hfl hfl (P.cong (p_var hX i4 (by decide +kernel) rfl) hfr) ?a4))))) ?y4 ?n4)
    (case a4 => walk_at "ev")
    (case y4 =>
      intro h
      rw [eqv_refl hfl] at h
      cases h)
    (case n4 =>
      intro _
      refine s_nil (s_cons (s1_append hX i4 (by decide +kernel) rfl ?_ p_str ?_))
      · rw [List.length_map, List.length_map]
        exact Nat.lt_of_le_of_lt hl (by decide)
      · exact s_nil ⟨_, _, rfl⟩))
  rintro env ⟨s3, s4, rfl⟩
  have hrp : (0 : Int) < (row.length : Int) + 1 := by omega
  refine' s_cons (s1_set hX i5 (by decide +kernel) (by simp) (o := .per (.int (n % ((row.length : Int) + 1)))) ?a5 ?b5)
  (case a5 => walk_at "ev")
  generalize hat : n % ((row.length : Int) + 1) = at_
  show S X _ [some (.per (.lst (ws.map D.str))), some (.per (.int n)), some (.per (.str row)), s3, s4, some (.per (.int at_)), none] _
  generalize hr2 : cutS row none (some at_) ++ (" " : Str) ++ cutS row (some at_) none = r2
  have hca : (cutS row none (some at_)).length ≤ 4200 := Nat.le_trans (cutS_length _ _ _) hrl
  have hcb : (cutS row (some at_) none).length ≤ 4200 := Nat.le_trans (cutS_length _ _ _) hrl
  have happ : ∀ x y : Str, (x ++ y).length = x.length + y.length := fun x y => by rw [len_tl, len_tl x, len_tl y]; exact (congrArg List.length (TL.tl_append x y)).trans List.length_append
  have hr2l : r2.length ≤ 8401 := by rw [← hr2, happ, happ, hb1]; omega
  have hsl : (4200 : Nat) + 4203 ≤ sizeLine := by decide
  have hr2c : ∀ c ∈ tl r2, c < 0x110000 := fun c hc => by
    rw [← hr2] at hc
    have hc : c ∈ tl (cutS row none (some at_) ++ (" " : Str)) ++ tl (cutS row (some at_) none) := by rw [← TL.tl_append]; exact hc
    rcases List.mem_append.mp hc with hc | hc
    · have hc : c ∈ tl (cutS row none (some at_)) ++ tl (" " : Str) := by rw [← TL.tl_append]; exact hc
      rcases List.mem_append.mp hc with hc | hc
      · exact hrc c (cutS_mem hc)
      · rw [blank_tl] at hc
        rw [List.mem_singleton.mp hc]; decide
    · exact hrc c (cutS_mem hc)
  have hz1 : (cutS row none (some at_)).length + (" " : Str).length ≤ sizeLine := by rw [hb1]; omega
  have hz2 : (cutS row none (some at_) ++ (" " : Str)).length + (cutS row (some at_) none).length ≤ sizeLine := by rw [happ, hb1]; omega
  refine' s_cons (s1_set hX i6 (by decide +kernel) (by simp) (p_split (x := r2) (y := " ") (by decide +kernel) ?z6 (P.cong (p_addS hz2 (p_addS hz1 (p_slS hrs ?a6 (i := none) trivial (j := some at_) ?b6) p_str) (p_slS hrs ?c6 (i := some at_) ?d6 (j := none) trivial)) ?e6) p_str) ?f6)
  (case z6 => omega)
  (case a6 => walk_at "ev")
  (case b6 => show P X _ _ _; walk_at "ev")
  (case c6 => walk_at "ev")
  (case d6 => show P X _ _ _; walk_at "ev")
  (case e6 => rw [hr2])
  generalize hps : Txt.split r2 (" " : Str) = ps
  refine s_last (i := 6) (o := .lst ((ps.map D.str).map Ow.per)) rfl ?_
  show S X _ [some (.per (.lst (ws.map D.str))), some (.per (.int n)), some (.per (.str row)), s3, s4, some (.per (.int at_)), some (.per (Ow.lst ((ps.map D.str).map Ow.per)).fr)] _
  have hfr2 : Ow.per (Ow.lst ((ps.map D.str).map Ow.per)).fr = .per (.lst (ps.map D.str)) := by rw [Ow.fr, frs_per]
  rw [hfr2]
  have hwd2 : Ow.per (wordsD (.str r2)).fr = .per (if ("" : Str) ∈ ps then .non else .lst (ps.map D.str)) := by
    simp only [wordsD, hps]
    split
    · rfl
    · exact hfr2
  have hfl2 : D.flat 1 (if ("" : Str) ∈ ps then .non else .lst (ps.map D.str)) = true := by
    split
    · rfl
    · simp only [D.flat]
      exact strs_flat fun w hw' c hc => hr2c c (split_mem (hps ▸ hw') hc)
  refine s_cons (s1_ret (o := .per (.bl true)) ?_ rfl)
  refine' P.bl (p_of_c (c_eq hX 1 hfl2 hfl2 (P.cong (P.last (p_call hX F (by decide) (by decide +kernel) (ds := [.str r2]) (as_cons (P.cong (p_addS hz2 (p_addS hz1 (p_slS hrs ?a7 (i := none) trivial (j := some at_) ?b7) p_str) (p_slS hrs ?c7 (i := some at_) ?d7 (j := none) trivial)) ?e7) as_nil) ⟨.str r2, rfl, rfl, fun z hz => by cases hz; omega, rfl⟩)) hwd2) (p_if (t_of_c (c_in0 (IsS.lst (ps.map D.str)) (d := .str "") rfl (strs_f0 _) p_str ?f7)) ?g7 ?h7))) (eqv_refl hfl2)
  (case a7 => walk_at "ev")
  (case b7 => show P X _ _ _; walk_at "ev")
  (case c7 => walk_at "ev")
  (case d7 => show P X _ _ _; walk_at "ev")
  (case e7 => rw [hr2])
  (case f7 => walk_at "ev")
  (case g7 =>
    intro h
    rw [in0_strs] at h
    rw [if_pos (of_decide_eq_true h)]
    exact p_non)
  (case h7 =>
    intro h
    rw [in0_strs] at h
    rw [if_neg (of_decide_eq_false h)]
    walk_at "ev")


set_option Elab.async false
set_option linter.all false
set_option maxRecDepth 100000
set_option maxHeartbeats 4000000

def cutI (ns : List Int) (lo hi : Option Int) : List Int := (ns.drop (HT.sIx ns.length 0 lo)).take (HT.sIx ns.length ns.length hi - HT.sIx ns.length 0 lo)
theorem cutD_ints (ns : List Int) (lo hi : Option Int) : Pu.cutD (ns.map D.int) lo hi = (cutI ns lo hi).map D.int := by
  unfold Pu.cutD cutI
  rw [List.length_map, List.map_take, List.map_drop]
theorem cutI_len (ns : List Int) (lo hi : Option Int) : (cutI ns lo hi).length ≤ ns.length := by
  unfold cutI
  rw [List.length_take, List.length_drop]
  omega
def R_law (ds : List D) (o : Ow) : Prop := ∃ ns : List Int, ds = [.fz (ns.map D.int)] ∧ ns.length ≤ 63 ∧ o = .per (.bl true)
/-- the odd things -/
def oddL : List D := [.non, .bl true, .int 7, .lst [], .lst [.str "1"], .dK [] [], .tup [.str "a"], .int (-2)]
theorem odd_cases (r : Int) (h0 : 0 ≤ r) (h1 : r < 8) : ∃ d, atI oddL r = some d ∧ d.pl = true ∧ shortS d ∧ longS d ∧ numD d = .non ∧ wordsD d = .per .non ∧ nameB d = false ∧ isWh d = D.in0 (.int r) [.int 2, .int 7] ∧ amg d (-2) 7 = D.in0 (.int r) [.int 2, .int 7] ∧ amg d (-1) 6 = false := by
  have : r = 0 ∨ r = 1 ∨ r = 2 ∨ r = 3 ∨ r = 4 ∨ r = 5 ∨ r = 6 ∨ r = 7 := by omega
  rcases this with rfl | rfl | rfl | rfl | rfl | rfl | rfl | rfl <;>
    exact ⟨_, rfl, rfl, (fun z h => by cases h), (fun z h => by cases h), rfl, rfl, rfl, by decide +kernel, by decide +kernel, by decide +kernel⟩
theorem num_ok (k : Nat) (hk : k < 20000) : (Str.ofString (toString (k : Int))).length ≤ 5 ∧ 0 < (Str.ofString (toString (k : Int))).length ∧ ∀ c ∈ tl (Str.ofString (toString (k : Int))), 48 ≤ c ∧ c ≤ 57 := by
  have e : tl (Str.ofString (toString (k : Int))) = TL.numL k := TL.tl_num k
  rw [len_tl, e]
  refine ⟨TL.numL_len (by decide) (Nat.lt_of_lt_of_le hk (by decide)), ?_, TL.numL_digits k⟩
  have := TL.numL_ne k
  exact List.length_pos_iff.mpr this
theorem log_ok (i : Int) (h : i.natAbs < 20000) : i.natAbs.log2 < 1920 := by
  by_cases h0 : i.natAbs = 0
  · rw [h0]; decide
  · exact (Nat.log2_lt h0).mpr (Nat.lt_of_lt_of_le h (by decide))
theorem app_len (x y : Str) : (x ++ y).length = x.length + y.length := by rw [len_tl, len_tl x, len_tl y]; exact (congrArg List.length (TL.tl_append x y)).trans List.length_append
theorem app_mem {x y : Str} {c : Nat} (h : c ∈ tl (x ++ y)) : c ∈ tl x ∨ c ∈ tl y := by
  have h : c ∈ tl x ++ tl y := by rw [← TL.tl_append]; exact h
  exact List.mem_append.mp h
theorem f_law (g : Gm m) (F1 : FnAt m 1 "_law_mixed" 2 R_l_mixed) (F2 : FnAt m 2 "_law_word" 2 R_l_word) (F3 : FnAt m 2 "_law_one" 1 R_l_one) (F4 : FnAt m 2 "_law_row" 2 R_l_row) (F5 : FnAt m 1 "number_of" 1 R_number_of) (F6 : FnAt m 1 "words_of" 1 R_words_of) (F7 : FnAt m 1 "is_name" 1 R_is_name)
    (F8 : FnAt m 1 "is_whole" 1 R_is_whole) (F9 : FnAt m 2 "is_among" 3 R_is_among) {f : Addr} {fd : FuncData} (F : FunD m.K "law" "law" (defArgs s_law) (defBody s_law) (defScope s_law) [] [] f fd) : FnOk m.P m.w m.K m.mg m.base CX0 3 f fd ["_law_script"] (spP m.K R_law) := by
  refine fnOk F sc_law (fun ds o h => by obtain ⟨ws, rfl, _⟩ := h; rfl) fun X hX ds o h => ?_
  obtain ⟨ns, rfl, hl, rfl⟩ := h
  have i0 := ix_law_0
  have i1 := ix_law_1
  have i2 := ix_law_2
  have i3 := ix_law_3
  have i4 := ix_law_4
  have i5 := ix_law_5
  have i6 := ix_law_6
  have i7 := ix_law_7
  obtain ⟨g0, g1, g2, g3, g4, g5, g6, g7, g8, g9, g10, g11, g12⟩ := g
  show S X _ [some (.per (.fz (ns.map D.int))), none, none, none, none, none, none, none] _
  refine s_cons (s1_set hX i1 (by decide +kernel) (by simp) (P.lastL (p_lst (ds := []) as_nil (by decide))) ?_)
  show S X _ [some (.per (.fz (ns.map D.int))), some (.per (.lst [])), none, none, none, none, none, none] _
  generalize hcs : cutI ns none (some 200) ++ [ns.sum] = cs
  have hcl : cs.length ≤ 64 := by
    rw [← hcs, List.length_append]
    have := cutI_len ns none (some 200)
    simp
    omega
  refine' s_cons (s1_for hX (it_list (IsL.lst (cs.map D.int)) (P.lastL (P.cong (p_cat (ds := (cutI ns none (some 200)).map D.int) (es' := [.int ns.sum]) ?z1 (P.lastL (P.cong (p_slL (IsL.fz _) ?a1 (i := none) trivial (j := some 200) ?b1) ?e1)) (P.lastL (p_lst (ds := [.int ns.sum]) ?c1 (by simp)))) ?e2)))
    (fun i env => ∃ (ws : List Str) (s2 s3 s4 s5 s6 s7 : Option Ow), env = [some (.per (.fz (ns.map D.int))), some (.per (.lst (ws.map D.str))), s2, s3, s4, s5, s6, s7] ∧ ws.length = 2 * i ∧ ∀ w ∈ ws, okW w) ?h0 ?hb ?hd)
  (case z1 =>
    rw [List.length_map]
    have := cutI_len ns none (some 200)
    exact Nat.le_trans (show _ ≤ 64 by simp; omega) (by decide))
  (case a1 => walk_at "ev")
  (case b1 => show P X _ _ _; walk_at "ev")
  (case e1 => rw [cutD_ints])
  (case c1 => walk_at "args")
  (case e2 => rw [← hcs]; simp)
  (case h0 => exact ⟨[], none, none, none, none, none, none, rfl, rfl, fun w hw => by cases hw⟩)
  (case hb =>
    rintro i d env hdd ⟨ws, s2, s3, s4, s5, s6, s7, rfl, hwl, hok⟩
    rw [List.getElem?_map] at hdd
    cases hci : cs[i]? with
    | none => rw [hci] at hdd; cases hdd
    | some cell =>
    rw [hci] at hdd
    cases hdd
    have hi : i < 64 := Nat.lt_of_lt_of_le (List.getElem?_eq_some_iff.mp hci).1 hcl
    refine ⟨_, [2], tg_name hX i2 (by decide +kernel) (by simp), ?_⟩
    show S X _ [some (.per (.fz (ns.map D.int))), some (.per (.lst (ws.map D.str))), some (.per (.int cell)), s3, s4, s5, s6, s7] _
    refine' s_cons (s1_set hX i3 (by decide +kernel) (by simp) (p_call hX F1 (by decide) (by decide +kernel) (ds := [.int cell, .int 1]) ?a3 ⟨cell, 1, rfl, by decide, by decide, rfl⟩) ?b3)
    (case a3 => walk_at "args")
    have hn0 := mixI_lo cell 1
    have hn1 := mixI_hi cell 1
    generalize hnn : mixI cell 1 = n at hn0 hn1
    show S X _ [some (.per (.fz (ns.map D.int))), some (.per (.lst (ws.map D.str))), some (.per (.int cell)), some (.per (.int n)), s4, s5, s6, s7] _
    have hone : ∀ {env : Ev} {e : Expr} {p1 p2 : Pos} {z : Str}, P X env e (.per (.str z)) → z.length ≤ 1000 → (∀ c ∈ tl z, c < 0x110000) → (∀ en, starEach [e] en = [(false, eval e en)]) → P X env (.Call (.Name "_law_one" p1) [e] [] p2) (.per (.bl true)) :=
      fun h h1 h2 h3 => p_call hX F3 (by decide) (by decide +kernel) (as_cons h as_nil h3) ⟨_, rfl, h1, h2, rfl⟩ (by decide +kernel) h3 (fun _ => rfl)
    have hone2 : ∀ {env : Ev} {e : Expr} {p1 p2 p3 : Pos} {z : Str}, P X env e (.per (.str z)) → z.length ≤ 1000 → (∀ c ∈ tl z, c < 0x110000) → (∀ en, starEach [e] en = [(false, eval e en)]) → T X env (.UnaryOp .Not (.Call (.Name "_law_one" p1) [e] [] p2) p3) (!true) :=
      fun h h1 h2 h3 => t_not (t_val (hone h h1 h2 h3))
    -- words of five kinds of signs
    refine' s_cons (s1_for hX (it_tup (ds := (["0123456789", "abcxyz", "01a", "0 9+-.'", "Ab{}`z"] : List Str).map D.str) (p_tup ?a4 (by decide))) (fun _ env => ∃ s4, env = [some (.per (.fz (ns.map D.int))), some (.per (.lst (ws.map D.str))), some (.per (.int cell)), some (.per (.int n)), s4, s5, s6, s7]) ⟨_, rfl⟩ ?b4 ?d4)
    (case a4 => walk_at "args")
    (case b4 =>
      rintro i' d' env' hd' ⟨s4', rfl⟩
      rw [List.getElem?_map] at hd'
      cases hz : (["0123456789", "abcxyz", "01a", "0 9+-.'", "Ab{}`z"] : List Str)[i']? with
      | none => rw [hz] at hd'; cases hd'
      | some z =>
      rw [hz] at hd'
      cases hd'
      have hzz : 0 < z.length ∧ z.length ≤ 100 ∧ ∀ c ∈ tl z, c < 0x110000 := by
        have hall : ∀ z ∈ (["0123456789", "abcxyz", "01a", "0 9+-.'", "Ab{}`z"] : List Str), 0 < z.length ∧ z.length ≤ 100 ∧ ∀ c ∈ tl z, c < 0x110000 := by decide +kernel
        exact hall z (List.mem_of_getElem? hz)
      refine ⟨_, [4], tg_name hX i4 (by decide +kernel) (by simp), ?_⟩
      show S X _ [some (.per (.fz (ns.map D.int))), some (.per (.lst (ws.map D.str))), some (.per (.int cell)), some (.per (.int n)), some (.per (.str z)), s5, s6, s7] _
      refine' s_cons (s1_if (hone2 (p_call hX F2 (by decide) (by decide +kernel) (ds := [.int n, .str z]) ?a5 ⟨n, z, rfl, hzz.1, hzz.2.1, rfl⟩) (Nat.le_trans (wordF_len n z) (by decide)) (fun c hc => hzz.2.2 c (wordF_mem hzz.1 hc)) (fun _ => rfl)) ?y5 ?n5)
      (case a5 => walk_at "args")
      (case y5 => intro h; cases h)
      (case n5 => intro _; exact s_nil (s_nil ⟨_, rfl⟩)))
    (case d4 =>
    rintro env ⟨s4', rfl⟩
    -- numbers as words
    obtain ⟨k1, hk1⟩ : ∃ k1 : Nat, (k1 : Int) = n % 12000 := ⟨(n % 12000).toNat, by omega⟩
    obtain ⟨k2, hk2⟩ : ∃ k2 : Nat, (k2 : Int) = n % 100 := ⟨(n % 100).toNat, by omega⟩
    obtain ⟨k3, hk3⟩ : ∃ k3 : Nat, (k3 : Int) = n % 99 := ⟨(n % 99).toNat, by omega⟩
    obtain ⟨l1, l2, l3⟩ := num_ok k1 (by omega)
    obtain ⟨m1, m2, m3⟩ := num_ok k2 (by omega)
    obtain ⟨n1, n2, n3⟩ := num_ok k3 (by omega)
    have h01 : ("0" : Str).length = 1 := by decide +kernel
    have h02 : tl ("0" : Str) = [48] := by decide +kernel
    have ha1 : ("a" : Str).length = 1 := by decide +kernel
    have ha2 : tl ("a" : Str) = [97] := by decide +kernel
    have hsl : (1000 : Nat) ≤ sizeLine := by decide
    have hb4 : 0 < ("b9+\n" : Str).length ∧ ("b9+\n" : Str).length ≤ 100 ∧ ∀ c ∈ tl ("b9+\n" : Str), c ≠ 32 ∧ c < 0x110000 := by decide +kernel
    refine' s_cons (s1_if (TW.t (tw_or (hone2 (p_strI hX (i := (k1 : Nat)) ?z6 (by decide +kernel) (by assumption) (P.cong ?a6 (by rw [hk1]))) ?l6 ?c6 (fun _ => rfl)) fun _ => tw_or1 (hone2 (p_addS ?z7 p_str (p_strI hX (i := (k2 : Nat)) ?y7 (by decide +kernel) (by assumption) (P.cong ?a7 (by rw [hk2])))) ?l7 ?c7 (fun _ => rfl)))) ?y8 ?n8)
    (case z6 => exact log_ok _ (by omega))
    (case a6 => walk_at "ev")
    (case l6 => omega)
    (case c6 => intro c hc; have := l3 c hc; omega)
    (case z7 => rw [h01]; omega)
    (case y7 => exact log_ok _ (by omega))
    (case a7 => walk_at "ev")
    (case l7 => rw [app_len, h01]; omega)
    (case c7 =>
      intro c hc
      rcases app_mem hc with hc | hc
      · rw [h02] at hc
        rw [List.mem_singleton.mp hc]; decide
      · have := m3 c hc; omega)
    (case y8 => intro h; cases h)
    (case n8 =>
    intro _
    refine s_nil ?_
    -- two words more
    refine' s_cons (s1_set hX i1 (by decide +kernel) (by simp) (o := .per (.lst ((ws ++ ["a" ++ wordF n "b9+\n", Str.ofString (toString (k3 : Int))]).map D.str))) (P.lastL (P.cong (p_cat (ds := ws.map D.str) (es' := [.str ("a" ++ wordF n "b9+\n"), .str (Str.ofString (toString (k3 : Int)))]) ?z9 ?a9 (P.lastL (p_lst (ds := [.str ("a" ++ wordF n "b9+\n"), .str (Str.ofString (toString (k3 : Int)))]) (as_cons (p_addS ?y9 p_str (p_call hX F2 (by decide) (by decide +kernel) (ds := [.int n, .str "b9+\n"]) ?b9 ⟨n, "b9+\n", rfl, hb4.1, hb4.2.1, rfl⟩)) (as_cons (p_strI hX (i := (k3 : Nat)) ?x9 (by decide +kernel) (by assumption) (P.cong ?c9 (by rw [hk3]))) as_nil)) (by simp)))) ?e9)) ?d9)
    (case z9 => rw [List.length_map, hwl]; exact Nat.le_trans (show _ ≤ 1000 by simp; omega) hsl)
    (case a9 => walk_at "ev")
    (case y9 => have := wordF_len n "b9+\n"; rw [ha1]; omega)
    (case b9 => walk_at "args")
    (case x9 => exact log_ok _ (by omega))
    (case c9 => walk_at "ev")
    (case e9 => simp)
    (case d9 =>
    generalize hws : ws ++ ["a" ++ wordF n "b9+\n", Str.ofString (toString (k3 : Int))] = ws2
    have hwl2 : ws2.length = 2 * (i + 1) := by rw [← hws, List.length_append, hwl]; simp; omega
    have hok2 : ∀ w ∈ ws2, okW w := fun w hw => by
      rw [← hws] at hw
      rcases List.mem_append.mp hw with hw | hw
      · exact hok w hw
      · rcases List.mem_cons.mp hw with rfl | hw
        · have := wordF_len n "b9+\n"
          refine ⟨by rw [app_len, ha1]; omega, by rw [app_len, ha1]; omega, fun c hc => ?_⟩
          rcases app_mem hc with hc | hc
          · rw [ha2] at hc
            rw [List.mem_singleton.mp hc]; decide
          · exact hb4.2.2 c (wordF_mem hb4.1 hc)
        · rw [List.mem_singleton.mp hw]
          refine ⟨n2, by omega, fun c hc => ?_⟩
          have := n3 c hc
          omega
    show S X _ [some (.per (.fz (ns.map D.int))), some (.per (.lst (ws2.map D.str))), some (.per (.int cell)), some (.per (.int n)), s4', s5, s6, s7] _
    -- things that are no texts
    have hr0 : 0 ≤ cell % 8 := Int.emod_nonneg _ (by decide)
    have hr1 : cell % 8 < 8 := Int.emod_lt_of_pos _ (by decide)
    obtain ⟨od, q1, q2, q3, q4, q5, q6, q7, q8, q9, q10⟩ := odd_cases (cell % 8) hr0 hr1
    refine' s_cons (s1_set hX ?x10 ?y10 ?z10 (p_ixL (IsL.lst oddL) q1 (P.lastL (p_lst (ds := oddL) ?a10 (by simp [oddL]))) ?b10) ?c10)
    (case x10 => exact i5)
    (case y10 => decide +kernel)
    (case z10 => simp)
    (case a10 => unfold oddL; walk_at "args")
    (case b10 => walk_at "ev")
    show S X _ [some (.per (.fz (ns.map D.int))), some (.per (.lst (ws2.map D.str))), some (.per (.int cell)), some (.per (.int n)), s4', some (.per od), s6, s7] _
    refine' s_cons (s1_if (TW.t (tw_or (t_of_c (c_notN (p_call hX F5 (by decide) (by decide +kernel) (ds := [od]) ?a11 ⟨od, rfl, q2, q3, rfl⟩))) fun _ => tw_or (t_of_c (c_notN (P.cong (p_call hX F6 (by decide) (by decide +kernel) (ds := [od]) ?b11 ⟨od, rfl, q2, q4, rfl⟩) q6))) fun _ => tw_or1 (t_of_c (c_isNotBl (p_call hX F7 (by decide) (by decide +kernel) (ds := [od]) ?c11 ⟨od, rfl, q2, q3, rfl⟩) p_bl)))) ?y11 ?n11)
    (case a11 => walk_at "args")
    (case b11 => walk_at "args")
    (case c11 => walk_at "args")
    (case y11 => intro h; rw [q5, q7] at h; cases h)
    (case n11 =>
    intro _
    refine s_nil ?_
    refine' s_cons (s1_set hX i6 (by decide +kernel) (by simp) (p_of_c (c_in0 (IsS.tup [.int 2, .int 7]) (d := .int (cell % 8)) rfl rfl ?a12 (p_tup ?b12 (by decide)))) ?c12)
    (case a12 => walk_at "ev")
    (case b12 => walk_at "args")
    generalize hdue : D.in0 (.int (cell % 8)) [.int 2, .int 7] = due at q8 q9
    show S X _ [some (.per (.fz (ns.map D.int))), some (.per (.lst (ws2.map D.str))), some (.per (.int cell)), some (.per (.int n)), s4', some (.per od), some (.per (.bl due)), s7] _
    refine' s_cons (s1_if (TW.t (tw_or (t_of_c (c_neB (p_call hX F8 (by decide) (by decide +kernel) (ds := [od]) ?a13 ⟨od, rfl, q2, rfl⟩) ?b13)) fun _ => tw_or (t_of_c (c_neB (p_call hX F9 (by decide) (by decide +kernel) (ds := [od, .int (-2), .int 7]) ?c13 ⟨od, -2, 7, rfl, q2, rfl⟩) ?d13)) fun _ => tw_or1 (t_of_c (c_isNotBl (p_call hX F9 (by decide) (by decide +kernel) (ds := [od, .int (-1), .int 6]) ?e13 ⟨od, -1, 6, rfl, q2, rfl⟩) p_bl)))) ?y13 ?n13)
    (case a13 => walk_at "args")
    (case b13 => walk_at "ev")
    (case c13 => walk_at "args")
    (case d13 => walk_at "ev")
    (case e13 => walk_at "args")
    (case y13 => intro h; rw [q8, q9, q10] at h; cases due <;> cases h)
    (case n13 =>
    intro _
    refine s_nil ?_
    have hp : (0 : Int) < 10 ^ (60 : Int).toNat := by decide
    refine' s_cons (s1_set hX i7 (by decide +kernel) (by simp) (p_mod hp ?a14 (p_pow ⟨by decide, by decide, by decide⟩ p_int p_int)) ?b14)
    (case a14 => walk_at "ev")
    generalize cell % 10 ^ (60 : Int).toNat = big
    show S X _ [some (.per (.fz (ns.map D.int))), some (.per (.lst (ws2.map D.str))), some (.per (.int cell)), some (.per (.int n)), s4', some (.per od), some (.per (.bl due)), some (.per (.int big))] _
    have hb1 : amg (.int big) (big - 1) big = true := by simp only [amg, Bool.and_eq_true, decide_eq_true_eq]; omega
    have hb2 : amg (.int big) (big + 1) (big + 2) = false := by simp only [amg]; rw [decide_eq_false (by omega)]; rfl
    refine' s_cons (s1_if (TW.t (tw_or (t_of_c (c_isNotBl (p_call hX F9 (by decide) (by decide +kernel) (ds := [.int big, .int (big - 1), .int big]) ?a15 ⟨.int big, big - 1, big, rfl, rfl, rfl⟩) p_bl)) fun _ => tw_or1 (t_of_c (c_isNotBl (p_call hX F9 (by decide) (by decide +kernel) (ds := [.int big, .int (big + 1), .int (big + 2)]) ?b15 ⟨.int big, big + 1, big + 2, rfl, rfl, rfl⟩) p_bl)))) ?y15 ?n15)
    (case a15 => walk_at "args")
    (case b15 => walk_at "args")
    (case y15 => intro h; rw [hb1, hb2] at h; cases h)
    (case n15 =>
      intro _
      exact s_nil (s_nil ⟨ws2, _, _, _, _, _, _, rfl, hwl2, hok2⟩))))))))
  rintro env ⟨ws, s2, s3, s4, s5, s6, s7, rfl, hwl, hok⟩
  rw [List.length_map] at hwl
  refine s_cons (s1_ret (o := .per (.bl true)) ?_ rfl)
  have hwe : wordsD (.str "") = .per .non := by
    have : ("" : Str) ∈ Txt.split ("" : Str) " " := by decide +kernel
    simp only [wordsD]
    rw [if_pos this]
  have hcs1 : 1 ≤ cs.length := by rw [← hcs]; simp
  refine' P.bl (p_and (p_of_c (c_isN (P.cong (p_call hX F6 (by decide) (by decide +kernel) (ds := [.str ""]) ?a16 ⟨.str "", rfl, rfl, fun z hz => by cases hz; decide +kernel, rfl⟩) hwe))) fun _ => p_one (p_call hX F4 (by decide) (by decide +kernel) (ds := [.lst (ws.map D.str), .int (mixI ns.sum 2)]) (as_cons ?b16 (as_cons (p_call hX F1 (by decide) (by decide +kernel) (ds := [.int ns.sum, .int 2]) ?c16 ⟨ns.sum, 2, rfl, by decide, by decide, rfl⟩) as_nil)) ⟨ws, mixI ns.sum 2, rfl, ?d16, by omega, hok, rfl⟩)) ?e16
  (case a16 => walk_at "args")
  (case b16 => walk_at "ev")
  (case c16 => walk_at "args")
  (case d16 => intro h; rw [h] at hwl; simp at hwl; omega)
  (case e16 => rfl)


set_option Elab.async false
set_option linter.all false
set_option maxRecDepth 100000
set_option maxHeartbeats 4000000
/-! ### the head: facts by names, the run -/
def d_is_whole : He.DefD := ⟨("is_whole", none), "is_whole", "is_whole", defArgs s_is_whole, defBody s_is_whole, defScope s_is_whole, [], []⟩
def d_is_among : He.DefD := ⟨("is_among", none), "is_among", "is_among", defArgs s_is_among, defBody s_is_among, defScope s_is_among, [], []⟩
def d_is_name : He.DefD := ⟨("is_name", none), "is_name", "is_name", defArgs s_is_name, defBody s_is_name, defScope s_is_name, [], []⟩
def d_number_of : He.DefD := ⟨("number_of", none), "number_of", "number_of", defArgs s_number_of, defBody s_number_of, defScope s_number_of, [], []⟩
def d_words_of : He.DefD := ⟨("words_of", none), "words_of", "words_of", defArgs s_words_of, defBody s_words_of, defScope s_words_of, [], []⟩
def d_l_mixed : He.DefD := ⟨("_law_mixed", none), "_law_mixed", "_law_mixed", defArgs s_l_mixed, defBody s_l_mixed, defScope s_l_mixed, [], []⟩
def d_l_word : He.DefD := ⟨("_law_word", none), "_law_word", "_law_word", defArgs s_l_word, defBody s_l_word, defScope s_l_word, [], []⟩
def d_l_number : He.DefD := ⟨("_law_number", none), "_law_number", "_law_number", defArgs s_l_number, defBody s_l_number, defScope s_l_number, [], []⟩
def d_l_one : He.DefD := ⟨("_law_one", none), "_law_one", "_law_one", defArgs s_l_one, defBody s_l_one, defScope s_l_one, [], []⟩
def d_l_row : He.DefD := ⟨("_law_row", none), "_law_row", "_law_row", defArgs s_l_row, defBody s_l_row, defScope s_l_row, [], []⟩
def d_law : He.DefD := ⟨("law", none), "law", "law", defArgs s_law, defBody s_law, defScope s_law, [], []⟩
def fn0 : List He.DefD := [d_is_whole, d_is_among, d_is_name, d_number_of, d_words_of, d_l_mixed, d_l_word, d_l_number, d_l_one, d_l_row, d_law]
def fn : List He.DefD := fn0
def fa0 : List He.Fa := [.glo "is_whole", .glo "is_among", .glo "is_name", .glo "number_of", .glo "words_of", .glo "_law_mixed", .glo "_law_word", .glo "_law_number", .glo "_law_one", .glo "_law_row", .glo "law", .free "all", .free "int", .free "range", .free "isinstance", .free "str", .free "bool", .free "len", .free "sum", .free "list"]
def fa1 : List He.Fa := [.str "LETTERS" "abcdefghijklmnopqrstuvwxyz", .str "FIGURES" "0123456789", .int "MOST_LETTERS" 8, .int "MOST_FIGURES" 4]
def fa : List He.Fa := fa0 ++ fa1
def ex (K : PySem.W.Frag) : Bool := true
abbrev Rw : PySem.W.OpenRow := PySem.W.OpenLaw.row PySem.Challenge.rw_foldpress_k01_words
abbrev hk : PySem.W.Hook := He.hookX 5 fa fn [] [] ex
def ob (s : PySem.W.SharedT) : He.AlX := He.obsX 5 fa fn [] [] ex (HandSHeadRun.getT s)
theorem ob_eq (s : PySem.W.SharedT) : ob s = hk.obs s.abs := He.obsX_eq (HandSHeadRun.getT_eq s)
def loose0 : List PySem.Str := ["LETTERS", "FIGURES", "MOST_LETTERS", "MOST_FIGURES", "is_whole", "is_among", "is_name", "number_of", "words_of", "_law_mixed", "_law_word", "_law_number", "_law_one", "_law_row"]
def loose : List PySem.Str := loose0
theorem run (w : World) : HandSHeadRun.RunEq Rw (PySem.W.view Rw.prog [16]) hk ob 3000 loose w := by
  intro os
  kernel_rfl
theorem facts {P : Program} {w : World} {K : PySem.W.Frag} {h : Heap} {mg : Str → Option Value} {f : Addr} (X : K.In h) (G : h.Ns mainGlobals mg) (hfa : mg ("law" : Str) = some (.ref f)) (c : He.SaysX fa fn [] [] ex w h K) :
    ∃ fd : FuncData, (∀ (s : Shared) (v : Value), BindsTo s fd ⟨[v], []⟩ [("_law_script", v)]) ∧ ∀ base : Heap, K.In base → base.Ns mainGlobals mg → FnOk P w K mg base CX0 3 f fd ["_law_script"] (Pu.spP K R_law) := by
  have cd := c.t.d
  have cm : ex K = true := c.more
  obtain ⟨fdL, FL⟩ := cd.def_ 10 (d := d_law) rfl
  have e := hfa.symm.trans (He.glo_ok X G (cd.fact 10 (f := .glo "law") rfl))
  cases e
  have b := FunD.bindsA (ps := ["_law_script"]) FL bd_law
  refine ⟨fdL, fun s v => b s [v] rfl, fun base hb1 hb2 => ?_⟩
  let m : Pu.Md := ⟨P, w, K, mg, base⟩
  have g : Gm m := ⟨He.free_ok X G (cd.fact 11 (f := .free "all") rfl), He.free_ok X G (cd.fact 12 (f := .free "int") rfl), He.free_ok X G (cd.fact 13 (f := .free "range") rfl), He.free_ok X G (cd.fact 14 (f := .free "isinstance") rfl), He.free_ok X G (cd.fact 15 (f := .free "str") rfl), He.free_ok X G (cd.fact 16 (f := .free "bool") rfl), He.free_ok X G (cd.fact 17 (f := .free "len") rfl), He.free_ok X G (cd.fact 18 (f := .free "sum") rfl), He.free_ok X G (cd.fact 19 (f := .free "list") rfl), He.str_ok X G (cd.fact 20 (f := .str "LETTERS" "abcdefghijklmnopqrstuvwxyz") rfl), He.str_ok X G (cd.fact 21 (f := .str "FIGURES" "0123456789") rfl), He.int_ok X G (cd.fact 22 (f := .int "MOST_LETTERS" 8) rfl), He.int_ok X G (cd.fact 23 (f := .int "MOST_FIGURES" 4) rfl)⟩
  have D_is_whole : Pu.Df m "is_whole" "is_whole" "is_whole" s_is_whole := by
    obtain ⟨fd, F⟩ := cd.def_ 0 (d := d_is_whole) rfl
    exact ⟨_, fd, F, He.glo_ok X G (cd.fact 0 (f := .glo "is_whole") rfl)⟩
  have D_is_among : Pu.Df m "is_among" "is_among" "is_among" s_is_among := by
    obtain ⟨fd, F⟩ := cd.def_ 1 (d := d_is_among) rfl
    exact ⟨_, fd, F, He.glo_ok X G (cd.fact 1 (f := .glo "is_among") rfl)⟩
  have D_is_name : Pu.Df m "is_name" "is_name" "is_name" s_is_name := by
    obtain ⟨fd, F⟩ := cd.def_ 2 (d := d_is_name) rfl
    exact ⟨_, fd, F, He.glo_ok X G (cd.fact 2 (f := .glo "is_name") rfl)⟩
  have D_number_of : Pu.Df m "number_of" "number_of" "number_of" s_number_of := by
    obtain ⟨fd, F⟩ := cd.def_ 3 (d := d_number_of) rfl
    exact ⟨_, fd, F, He.glo_ok X G (cd.fact 3 (f := .glo "number_of") rfl)⟩
  have D_words_of : Pu.Df m "words_of" "words_of" "words_of" s_words_of := by
    obtain ⟨fd, F⟩ := cd.def_ 4 (d := d_words_of) rfl
    exact ⟨_, fd, F, He.glo_ok X G (cd.fact 4 (f := .glo "words_of") rfl)⟩
  have D_l_mixed : Pu.Df m "_law_mixed" "_law_mixed" "_law_mixed" s_l_mixed := by
    obtain ⟨fd, F⟩ := cd.def_ 5 (d := d_l_mixed) rfl
    exact ⟨_, fd, F, He.glo_ok X G (cd.fact 5 (f := .glo "_law_mixed") rfl)⟩
  have D_l_word : Pu.Df m "_law_word" "_law_word" "_law_word" s_l_word := by
    obtain ⟨fd, F⟩ := cd.def_ 6 (d := d_l_word) rfl
    exact ⟨_, fd, F, He.glo_ok X G (cd.fact 6 (f := .glo "_law_word") rfl)⟩
  have D_l_number : Pu.Df m "_law_number" "_law_number" "_law_number" s_l_number := by
    obtain ⟨fd, F⟩ := cd.def_ 7 (d := d_l_number) rfl
    exact ⟨_, fd, F, He.glo_ok X G (cd.fact 7 (f := .glo "_law_number") rfl)⟩
  have D_l_one : Pu.Df m "_law_one" "_law_one" "_law_one" s_l_one := by
    obtain ⟨fd, F⟩ := cd.def_ 8 (d := d_l_one) rfl
    exact ⟨_, fd, F, He.glo_ok X G (cd.fact 8 (f := .glo "_law_one") rfl)⟩
  have D_l_row : Pu.Df m "_law_row" "_law_row" "_law_row" s_l_row := by
    obtain ⟨fd, F⟩ := cd.def_ 9 (d := d_l_row) rfl
    exact ⟨_, fd, F, He.glo_ok X G (cd.fact 9 (f := .glo "_law_row") rfl)⟩
  have F_is_whole := f_is_whole (m := m) g  D_is_whole
  have F_is_among := f_is_among (m := m) g F_is_whole D_is_among
  have F_is_name := f_is_name (m := m) g  D_is_name
  have F_number_of := f_number_of (m := m) g  D_number_of
  have F_words_of := f_words_of (m := m) g  D_words_of
  have F_l_mixed := f_l_mixed (m := m) g  D_l_mixed
  have F_l_word := f_l_word (m := m) g F_l_mixed D_l_word
  have F_l_number := f_l_number (m := m) g  D_l_number
  have F_l_one := f_l_one (m := m) g F_l_number F_number_of F_is_name D_l_one
  have F_l_row := f_l_row (m := m) g F_words_of D_l_row
  exact f_law (m := m) g F_l_mixed F_l_word F_l_one F_l_row F_number_of F_words_of F_is_name F_is_whole F_is_among FL
end Lw
open PySem PySem.W PySem.Calls PyProof.Rows
set_option maxHeartbeats 0 in
theorem PySem.Challenge.cw_foldpress_k01_words_holds : PySem.Challenge.rw_foldpress_k01_words.Holds := by
  w_on; o_law
  refine HandSHeadRun.head_any (r := OpenLaw.row PySem.Challenge.rw_foldpress_k01_words) (q := view (OpenLaw.row PySem.Challenge.rw_foldpress_k01_words).prog [16]) (H := Lw.hk) (ob := Lw.ob) (M := 3000) (loose := Lw.loose) (d := HandSHeadRun.topDef (OpenLaw.row PySem.Challenge.rw_foldpress_k01_words).prog 16) (kwd := []) Lw.ob_eq
    (by kernel_rfl) (fun s => by kernel_rfl) Lw.run (by kernel_rfl) (by kernel_rfl) (by kernel_rfl) (by rfl) (by first | assumption | decide +kernel) (by decide +kernel) ⟨rfl, rfl, rfl, rfl, rfl, by decide +kernel⟩ ?hw ?hc
  case hw => w_witness2
  case hc =>
    refine L2.walk_ofE (l := PySem.Challenge.rw_foldpress_k01_words) (n := 63) (k := 3) (x := "_law_script") (CX := L2.CX0) rfl (by decide) (by kernel_rfl) ⟨rfl, by decide, by decide⟩ ?F (fun _ _ _ _ z => z)
    intro w mg fa h Y G hmg0
    obtain ⟨K, KX, c⟩ := Y
    have hmg : mg ("law" : PySem.Str) = some (.ref fa) := by
      have e : (HandSHeadRun.topDef (OpenLaw.row PySem.Challenge.rw_foldpress_k01_words).prog 16).name = ("law" : PySem.Str) := by kernel_rfl
      rw [← e]
      exact hmg0
    obtain ⟨fd, hb, hF⟩ := Lw.facts (P := (PySem.Challenge.rw_foldpress_k01_words).prog) (w := w) KX G hmg c
    refine ⟨K, fd, Pu.spP K Lw.R_law, KX, hb, fun H a ns hl _ hS => ?_, hF⟩
    refine ⟨H, [.fz (ns.map Pu.D.int)], .per (.bl true), fun _ _ z => z, ?_, ⟨ns, rfl, hl, rfl⟩, fun v G' H' fp _ r _ _ => ?_⟩
    · simp only [Pu.Rps, Pu.Rp]
      exact ⟨.ref a, [], rfl, ⟨a, ns.map L2.V.int, rfl, hS, Pu.Rps.of_ints ns⟩, rfl⟩
    · simp only [Pu.RO, Pu.Rp] at r
      exact r.2
