import PyProof.Rows.All
import Wide.All
import OpenK.AllK
import Wide.FinOn
import HandS.ForMost
import HandS.HeadHook1
import HandS.Exc
import HandS.IsInst
import HandS.Defaults
import HandS.ExcOwn
import HandS.TupLe
import HandS.Style
import HandS.Replace
import HandS.ExcIs
import HandS.ExcValue
import HandS.ExcField
import HandS.ExcInit
import HandS.Small
import KE.KExcIs
import HandS.Flow
import HandS.TupAny
import HandS.Wide
import HandS.SortInts
import HandS.SortRule
import KE.GoesEnum
import KE.GoesEnumKw
import KE.KRevIter
import PyProof.Rows.TupDisplay
import HandS.HeadHook2
import HandS.HeadHook3
import HandS.HeadHook4
import HandS.HeadEnd
import KE.KStateDown
import HandS.More
import HandS.WordsExc
import HandS.Head0
import HandS.Head1
import HandS.Head2
import PySem.Challenge.RW_foldpress_k05_stacks_folded
set_option Elab.async false
set_option linter.all false
set_option autoImplicit false
set_option maxRecDepth 100000
set_option maxHeartbeats 1000001
namespace Pu
open PySem L2

/-! ### data without addresses -/
inductive D where
  | non | bl (b : Bool) | int (i : Int) | str (x : Str) | ty (n : String) | adr (a : Addr)
  | lst (xs : List D) | tup (xs : List D) | fz (xs : List D) | ft (xs : List D)
  | obj (C : Str) (ns : List Str) (xs : List D)
  /-- a caught exception -/
  | exc (C : Str) (ns : List Str) (xs : List D)
  | dK (ks : List Key) (xs : List D) | dT (ks : List (List Key)) (xs : List D)
  /-- a dict, its keys tuples, that stays for good -/
  | dL (ks : List (List Key)) (xs : List D)
/-- data of which some parts are one's own, to be changed -/
inductive Ow where
  | per (d : D) | lst (os : List Ow) | tup (os : List Ow) | ins (C : Str) (ns : List Str) (os : List Ow)
  | dK (ks : List Key) (os : List Ow) | dT (ks : List (List Key)) (os : List Ow)
  /-- the thing, which is known to lie at a -/
  | at (a : Addr) (o : Ow)

/-- at a: an exception of the class at C, its dict -/
def XO (a C : Addr) (d : Option Addr) : HO := .ext fun h => ∃ (oe : Obj) (vs : Array Value), h.get? a = some oe ∧ Zc (.ref C) d oe ∧ oe.data = .fields vs
/-- its fields -/
def XF (G : Hp) (d : Option Addr) (ns : List Str) (xs : List V) : Prop := (ns = [] ∧ d = none) ∨ ∃ (e : Addr) (fs : List (Str × V)), d = some e ∧ G e = some (.xd fs) ∧ ∀ f x, (f, x) ∈ ns.zip xs → fs.lookup f = some x
section
variable (K : PySem.W.Frag) (G H : Hp)
mutual
def Rp : D → V → Prop
  | .non, v => v = .non
  | .bl b, v => v = .bl b
  | .int i, v => v = .int i
  | .str x, v => v = .str x
  | .ty n, v => v = .ty n
  | .adr a, v => v = .ref a
  | .lst ds, v => ∃ a xs, v = .ref a ∧ G a = some (.lst xs) ∧ Rps ds xs
  | .fz ds, v => ∃ a xs, v = .ref a ∧ SqL K G a xs ∧ Rps ds xs
  | .ft ds, v => ∃ a xs, v = .ref a ∧ SqT K G a xs ∧ Rps ds xs
  | .tup ds, v => ∃ a xs, v = .ref a ∧ G a = some (.tup xs) ∧ Rps ds xs
  | .obj C ns ds, v => ∃ a dx xs, v = .ref a ∧ G a = some (.ins (He.ga K C) dx (ns.zip xs)) ∧ ns.length = ds.length ∧ Rps ds xs
  | .exc C ns ds, v => ∃ a d xs, v = .ref a ∧ G a = some (XO a (He.ga K C) d) ∧ XF G d ns xs ∧ Rps ds xs
  | .dK ks ds, v => ∃ a xs, v = .ref a ∧ Rd G a (.dK (ks.zip xs)) ∧ ks.length = ds.length ∧ Rps ds xs
  | .dT ks ds, v => ∃ a xs, v = .ref a ∧ Rd G a (.dT (ks.zip xs)) ∧ ks.length = ds.length ∧ Rps ds xs
  | .dL ks ds, v => ∃ a xs, v = .ref a ∧ (∃ o, G a = some (.frz o (.dT (ks.zip xs)))) ∧ ks.length = ds.length ∧ Rps ds xs
def Rps : List D → List V → Prop
  | [], xs => xs = []
  | d :: ds, xs => ∃ v vs, xs = v :: vs ∧ Rp d v ∧ Rps ds vs
end
mutual
def RO : Ow → V → List Addr → Prop
  | .per d, v, fp => fp = [] ∧ Rp K G d v
  | .lst os, v, fp => ∃ a xs fq, v = .ref a ∧ fp = a :: fq ∧ G a = none ∧ H a = some (.lst xs) ∧ ROs os xs fq
  | .tup os, v, fp => ∃ a xs, v = .ref a ∧ G a = some (.tup xs) ∧ ROs os xs fp
  | .ins C ns os, v, fp => ∃ a dx xs fq, v = .ref a ∧ fp = a :: fq ∧ G a = none ∧ H a = some (.ins (He.ga K C) dx (ns.zip xs)) ∧ ns.length = os.length ∧ ROs os xs fq
  | .dK ks os, v, fp => ∃ a xs fq, v = .ref a ∧ fp = a :: fq ∧ G a = none ∧ H a = some (.dK (ks.zip xs)) ∧ ks.length = os.length ∧ ROs os xs fq
  | .dT ks os, v, fp => ∃ a xs fq, v = .ref a ∧ fp = a :: fq ∧ G a = none ∧ H a = some (.dT (ks.zip xs)) ∧ ks.length = os.length ∧ ROs os xs fq
  | .at a o, v, fp => v = .ref a ∧ RO o v fp
def ROs : List Ow → List V → List Addr → Prop
  | [], xs, fp => xs = [] ∧ fp = []
  | o :: os, xs, fp => ∃ v vs f1 f2, xs = v :: vs ∧ fp = f1 ++ f2 ∧ RO o v f1 ∧ ROs os vs f2
end
end

mutual
def Ow.fr : Ow → D
  | .per d => d
  | .lst os => .lst (frs os)
  | .tup os => .tup (frs os)
  | .ins C ns os => .obj C ns (frs os)
  | .dK ks os => .dK ks (frs os)
  | .dT ks os => .dT ks (frs os)
  | .at _ o => o.fr
def frs : List Ow → List D
  | [] => []
  | o :: os => o.fr :: frs os
end
theorem frs_eq : ∀ os : List Ow, frs os = os.map Ow.fr
  | [] => rfl
  | o :: os => by simp only [frs, List.map_cons, frs_eq os]
theorem frs_per : ∀ ds : List D, frs (ds.map Ow.per) = ds
  | [] => rfl
  | d :: ds => by simp only [List.map_cons, frs, Ow.fr, frs_per ds]

/-! ### heaps grow -/
theorem rd_mono {G G' : Hp} {a : Addr} {u : HO} (e : ∀ a o, G a = some o → G' a = some o) (h : Rd G a u) : Rd G' a u := by
  rcases h with h | ⟨o, h⟩
  · exact .inl (e _ _ h)
  · exact .inr ⟨o, e _ _ h⟩
theorem sqL_mono {K : PySem.W.Frag} {G G' : Hp} {a : Addr} {xs : List V} (e : ∀ a o, G a = some o → G' a = some o) (h : SqL K G a xs) : SqL K G' a xs := by
  rcases h with h | h
  · exact .inl (rd_mono e h)
  · exact .inr h
theorem sqT_mono {K : PySem.W.Frag} {G G' : Hp} {a : Addr} {xs : List V} (e : ∀ a o, G a = some o → G' a = some o) (h : SqT K G a xs) : SqT K G' a xs := by
  rcases h with h | h
  · exact .inl (rd_mono e h)
  · exact .inr h
theorem XF.mono {G G' : Hp} {d : Option Addr} {ns : List Str} {xs : List V} (e : ∀ a o, G a = some o → G' a = some o) (h : XF G d ns xs) : XF G' d ns xs := by
  rcases h with h | ⟨b, fs, h1, h2, h3⟩
  · exact .inl h
  · exact .inr ⟨b, fs, h1, e _ _ h2, h3⟩
section
variable {K : PySem.W.Frag} {G G' H H' : Hp}
mutual
theorem Rp.mono (e : ∀ a o, G a = some o → G' a = some o) : ∀ {d : D} {v : V}, Rp K G d v → Rp K G' d v
  | .non, _, h => by simpa only [Rp] using h
  | .bl b, _, h => by simpa only [Rp] using h
  | .int i, _, h => by simpa only [Rp] using h
  | .str x, _, h => by simpa only [Rp] using h
  | .ty x, _, h => by simpa only [Rp] using h
  | .adr x, _, h => by simpa only [Rp] using h
  | .lst ds, v, h => by
    simp only [Rp] at h ⊢
    obtain ⟨a, xs, h1, h2, h3⟩ := h
    exact ⟨a, xs, h1, e _ _ h2, Rps.mono e h3⟩
  | .fz ds, v, h => by
    simp only [Rp] at h ⊢
    obtain ⟨a, xs, h1, h2, h3⟩ := h
    exact ⟨a, xs, h1, sqL_mono e h2, Rps.mono e h3⟩
  | .ft ds, v, h => by
    simp only [Rp] at h ⊢
    obtain ⟨a, xs, h1, h2, h3⟩ := h
    exact ⟨a, xs, h1, sqT_mono e h2, Rps.mono e h3⟩
  | .tup ds, v, h => by
    simp only [Rp] at h ⊢
    obtain ⟨a, xs, h1, h2, h3⟩ := h
    exact ⟨a, xs, h1, e _ _ h2, Rps.mono e h3⟩
  | .obj C ns ds, v, h => by
    simp only [Rp] at h ⊢
    obtain ⟨a, dx, xs, h1, h2, h4, h3⟩ := h
    exact ⟨a, dx, xs, h1, e _ _ h2, h4, Rps.mono e h3⟩
  | .exc C ns ds, v, h => by
    simp only [Rp] at h ⊢
    obtain ⟨a, d, xs, h1, h2, h4, h3⟩ := h
    exact ⟨a, d, xs, h1, e _ _ h2, h4.mono e, Rps.mono e h3⟩
  | .dK ks ds, v, h => by
    simp only [Rp] at h ⊢
    obtain ⟨a, xs, h1, h2, h4, h3⟩ := h
    exact ⟨a, xs, h1, rd_mono e h2, h4, Rps.mono e h3⟩
  | .dT ks ds, v, h => by
    simp only [Rp] at h ⊢
    obtain ⟨a, xs, h1, h2, h4, h3⟩ := h
    exact ⟨a, xs, h1, rd_mono e h2, h4, Rps.mono e h3⟩
  | .dL ks ds, v, h => by
    simp only [Rp] at h ⊢
    obtain ⟨a, xs, h1, ⟨o, h2⟩, h4, h3⟩ := h
    exact ⟨a, xs, h1, ⟨o, e _ _ h2⟩, h4, Rps.mono e h3⟩
theorem Rps.mono (e : ∀ a o, G a = some o → G' a = some o) : ∀ {ds : List D} {vs : List V}, Rps K G ds vs → Rps K G' ds vs
  | [], _, h => by simpa only [Rps] using h
  | d :: ds, _, h => by
    simp only [Rps] at h ⊢
    obtain ⟨v, vs, h1, h2, h3⟩ := h
    exact ⟨v, vs, h1, Rp.mono e h2, Rps.mono e h3⟩
end
mutual
/-- what is one's own stands while its cells stand -/
theorem RO.frame (e : ∀ a o, G a = some o → G' a = some o) : ∀ {o : Ow} {v : V} {fp : List Addr}, (∀ a ∈ fp, H' a = H a ∧ G' a = none) → RO K G H o v fp → RO K G' H' o v fp
  | .per d, v, fp, _, h => by
    simp only [RO] at h ⊢
    exact ⟨h.1, Rp.mono e h.2⟩
  | .lst os, v, fp, k, h => by
    simp only [RO] at h ⊢
    obtain ⟨a, xs, fq, h1, rfl, h3, h4, h5⟩ := h
    refine ⟨a, xs, fq, h1, rfl, (k a List.mem_cons_self).2, ?_, ROs.frame e (fun b hb => k b (List.mem_cons_of_mem _ hb)) h5⟩
    rw [(k a List.mem_cons_self).1]; exact h4
  | .tup os, v, fp, k, h => by
    simp only [RO] at h ⊢
    obtain ⟨a, xs, h1, h3, h5⟩ := h
    exact ⟨a, xs, h1, e _ _ h3, ROs.frame e k h5⟩
  | .ins C ns os, v, fp, k, h => by
    simp only [RO] at h ⊢
    obtain ⟨a, dx, xs, fq, h1, rfl, h3, h4, h6, h5⟩ := h
    refine ⟨a, dx, xs, fq, h1, rfl, (k a List.mem_cons_self).2, ?_, h6, ROs.frame e (fun b hb => k b (List.mem_cons_of_mem _ hb)) h5⟩
    rw [(k a List.mem_cons_self).1]; exact h4
  | .dK ks os, v, fp, k, h => by
    simp only [RO] at h ⊢
    obtain ⟨a, xs, fq, h1, rfl, h3, h4, h6, h5⟩ := h
    refine ⟨a, xs, fq, h1, rfl, (k a List.mem_cons_self).2, ?_, h6, ROs.frame e (fun b hb => k b (List.mem_cons_of_mem _ hb)) h5⟩
    rw [(k a List.mem_cons_self).1]; exact h4
  | .dT ks os, v, fp, k, h => by
    simp only [RO] at h ⊢
    obtain ⟨a, xs, fq, h1, rfl, h3, h4, h6, h5⟩ := h
    refine ⟨a, xs, fq, h1, rfl, (k a List.mem_cons_self).2, ?_, h6, ROs.frame e (fun b hb => k b (List.mem_cons_of_mem _ hb)) h5⟩
    rw [(k a List.mem_cons_self).1]; exact h4
  | .at b o, v, fp, k, h => by
    simp only [RO] at h ⊢
    exact ⟨h.1, RO.frame e k h.2⟩
theorem ROs.frame (e : ∀ a o, G a = some o → G' a = some o) : ∀ {os : List Ow} {vs : List V} {fp : List Addr}, (∀ a ∈ fp, H' a = H a ∧ G' a = none) → ROs K G H os vs fp → ROs K G' H' os vs fp
  | [], _, _, _, h => by simpa only [ROs] using h
  | o :: os, _, _, k, h => by
    simp only [ROs] at h ⊢
    obtain ⟨v, vs, f1, f2, h1, rfl, h3, h4⟩ := h
    exact ⟨v, vs, f1, f2, h1, rfl, RO.frame e (fun b hb => k b (List.mem_append_left _ hb)) h3, ROs.frame e (fun b hb => k b (List.mem_append_right _ hb)) h4⟩
end
mutual
/-- the cells of what is one's own are none of the lasting ones -/
theorem RO.out : ∀ {o : Ow} {v : V} {fp : List Addr}, RO K G H o v fp → ∀ a ∈ fp, G a = none ∧ H a ≠ none
  | .per d, v, fp, h, a, ha => by
    simp only [RO] at h
    rw [h.1] at ha; cases ha
  | .lst os, v, fp, h, a, ha => by
    simp only [RO] at h
    obtain ⟨b, xs, fq, h1, rfl, h3, h4, h5⟩ := h
    rcases List.mem_cons.mp ha with rfl | ha
    · exact ⟨h3, by rw [h4]; simp⟩
    · exact ROs.out h5 a ha
  | .tup os, v, fp, h, a, ha => by
    simp only [RO] at h
    obtain ⟨b, xs, h1, h3, h5⟩ := h
    exact ROs.out h5 a ha
  | .ins C ns os, v, fp, h, a, ha => by
    simp only [RO] at h
    obtain ⟨b, dx, xs, fq, h1, rfl, h3, h4, h6, h5⟩ := h
    rcases List.mem_cons.mp ha with rfl | ha
    · exact ⟨h3, by rw [h4]; simp⟩
    · exact ROs.out h5 a ha
  | .dK ks os, v, fp, h, a, ha => by
    simp only [RO] at h
    obtain ⟨b, xs, fq, h1, rfl, h3, h4, h6, h5⟩ := h
    rcases List.mem_cons.mp ha with rfl | ha
    · exact ⟨h3, by rw [h4]; simp⟩
    · exact ROs.out h5 a ha
  | .dT ks os, v, fp, h, a, ha => by
    simp only [RO] at h
    obtain ⟨b, xs, fq, h1, rfl, h3, h4, h6, h5⟩ := h
    rcases List.mem_cons.mp ha with rfl | ha
    · exact ⟨h3, by rw [h4]; simp⟩
    · exact ROs.out h5 a ha
  | .at b o, v, fp, h, a, ha => by
    simp only [RO] at h
    exact RO.out h.2 a ha
theorem ROs.out : ∀ {os : List Ow} {vs : List V} {fp : List Addr}, ROs K G H os vs fp → ∀ a ∈ fp, G a = none ∧ H a ≠ none
  | [], _, _, h, a, ha => by
    simp only [ROs] at h
    rw [h.2] at ha; cases ha
  | o :: os, _, _, h, a, ha => by
    simp only [ROs] at h
    obtain ⟨v, vs, f1, f2, h1, rfl, h3, h4⟩ := h
    rcases List.mem_append.mp ha with ha | ha
    · exact RO.out h3 a ha
    · exact ROs.out h4 a ha
end
/-- the lasting heap with some cells more -/
def more (G H : Hp) (fp : List Addr) : Hp := fun a => if a ∈ fp then H a else G a
theorem more_in {fp : List Addr} {a : Addr} (h : a ∈ fp) : more G H fp a = H a := by unfold more; rw [if_pos h]
theorem more_out {fp : List Addr} {a : Addr} (h : a ∉ fp) : more G H fp a = G a := by unfold more; rw [if_neg h]
mutual
theorem RO.fr : ∀ {o : Ow} {v : V} {fp : List Addr}, RO K G H o v fp → (∀ a o, G a = some o → G' a = some o) → (∀ a ∈ fp, G' a = H a) → Rp K G' o.fr v
  | .per d, v, fp, h, e, k => by
    simp only [RO] at h
    exact Rp.mono e h.2
  | .lst os, v, fp, h, e, k => by
    simp only [RO] at h
    obtain ⟨a, xs, fq, h1, rfl, h3, h4, h5⟩ := h
    simp only [Ow.fr, Rp]
    exact ⟨a, xs, h1, by rw [k a List.mem_cons_self]; exact h4, ROs.fr h5 e fun b hb => k b (List.mem_cons_of_mem _ hb)⟩
  | .tup os, v, fp, h, e, k => by
    simp only [RO] at h
    obtain ⟨a, xs, h1, h3, h5⟩ := h
    simp only [Ow.fr, Rp]
    exact ⟨a, xs, h1, e _ _ h3, ROs.fr h5 e k⟩
  | .ins C ns os, v, fp, h, e, k => by
    simp only [RO] at h
    obtain ⟨a, dx, xs, fq, h1, rfl, h3, h4, h6, h5⟩ := h
    simp only [Ow.fr, Rp]
    exact ⟨a, dx, xs, h1, by rw [k a List.mem_cons_self]; exact h4, by rw [frs_eq, List.length_map]; exact h6, ROs.fr h5 e fun b hb => k b (List.mem_cons_of_mem _ hb)⟩
  | .dK ks os, v, fp, h, e, k => by
    simp only [RO] at h
    obtain ⟨a, xs, fq, h1, rfl, h3, h4, h6, h5⟩ := h
    simp only [Ow.fr, Rp]
    exact ⟨a, xs, h1, .inl (by rw [k a List.mem_cons_self]; exact h4), by rw [frs_eq, List.length_map]; exact h6, ROs.fr h5 e fun b hb => k b (List.mem_cons_of_mem _ hb)⟩
  | .dT ks os, v, fp, h, e, k => by
    simp only [RO] at h
    obtain ⟨a, xs, fq, h1, rfl, h3, h4, h6, h5⟩ := h
    simp only [Ow.fr, Rp]
    exact ⟨a, xs, h1, .inl (by rw [k a List.mem_cons_self]; exact h4), by rw [frs_eq, List.length_map]; exact h6, ROs.fr h5 e fun b hb => k b (List.mem_cons_of_mem _ hb)⟩
  | .at b o, v, fp, h, e, k => by
    simp only [RO] at h
    simp only [Ow.fr]
    exact RO.fr h.2 e k
theorem ROs.fr : ∀ {os : List Ow} {vs : List V} {fp : List Addr}, ROs K G H os vs fp → (∀ a o, G a = some o → G' a = some o) → (∀ a ∈ fp, G' a = H a) → Rps K G' (frs os) vs
  | [], _, _, h, e, k => by
    simp only [ROs] at h
    simp only [frs, Rps]
    exact h.1
  | o :: os, _, _, h, e, k => by
    simp only [ROs] at h
    obtain ⟨v, vs, f1, f2, h1, rfl, h3, h4⟩ := h
    simp only [frs, Rps]
    exact ⟨v, vs, h1, RO.fr h3 e fun b hb => k b (List.mem_append_left _ hb), ROs.fr h4 e fun b hb => k b (List.mem_append_right _ hb)⟩
end

/-! ### lists of data -/
theorem Rps.length : ∀ {ds : List D} {vs : List V}, Rps K G ds vs → vs.length = ds.length
  | [], _, h => by simp only [Rps] at h; subst h; rfl
  | d :: ds, _, h => by
    simp only [Rps] at h
    obtain ⟨v, vs, rfl, _, h3⟩ := h
    simp only [List.length_cons, Rps.length h3]
theorem Rps.get : ∀ {ds : List D} {vs : List V} {i : Nat} {d : D}, Rps K G ds vs → ds[i]? = some d → ∃ v, vs[i]? = some v ∧ Rp K G d v
  | [], _, i, d, h, e => by simp at e
  | d :: ds, _, 0, _, h, e => by
    simp only [Rps] at h
    obtain ⟨v, vs, rfl, h2, h3⟩ := h
    simp at e; subst e
    exact ⟨v, rfl, h2⟩
  | d :: ds, _, i + 1, _, h, e => by
    simp only [Rps] at h
    obtain ⟨v, vs, rfl, h2, h3⟩ := h
    obtain ⟨u, q1, q2⟩ := Rps.get (i := i) h3 (by simpa using e)
    exact ⟨u, by simpa using q1, q2⟩
theorem Rps.at : ∀ {ds : List D} {vs : List V} {i : Nat} {v : V}, Rps K G ds vs → vs[i]? = some v → ∃ d, ds[i]? = some d ∧ Rp K G d v
  | [], _, i, d, h, e => by simp only [Rps] at h; subst h; simp at e
  | d :: ds, _, 0, _, h, e => by
    simp only [Rps] at h
    obtain ⟨v, vs, rfl, h2, h3⟩ := h
    simp at e; subst e
    exact ⟨d, rfl, h2⟩
  | d :: ds, _, i + 1, _, h, e => by
    simp only [Rps] at h
    obtain ⟨v, vs, rfl, h2, h3⟩ := h
    obtain ⟨u, q1, q2⟩ := Rps.at (i := i) h3 (by simpa using e)
    exact ⟨u, by simpa using q1, q2⟩
theorem Rps.append : ∀ {ds es : List D} {vs us : List V}, Rps K G ds vs → Rps K G es us → Rps K G (ds ++ es) (vs ++ us)
  | [], _, _, _, h, h' => by simp only [Rps] at h; subst h; exact h'
  | d :: ds, _, _, _, h, h' => by
    simp only [Rps] at h
    obtain ⟨v, vs, rfl, h2, h3⟩ := h
    simp only [List.cons_append, Rps]
    exact ⟨v, _, rfl, h2, Rps.append h3 h'⟩
theorem Rps.take : ∀ {ds : List D} {vs : List V} (n : Nat), Rps K G ds vs → Rps K G (ds.take n) (vs.take n)
  | _, _, 0, h => by simp only [List.take_zero, Rps]
  | [], _, n + 1, h => by simp only [Rps] at h; subst h; simp only [List.take_nil, Rps]
  | d :: ds, _, n + 1, h => by
    simp only [Rps] at h
    obtain ⟨v, vs, rfl, h2, h3⟩ := h
    simp only [List.take_succ_cons, Rps]
    exact ⟨v, _, rfl, h2, Rps.take n h3⟩
theorem Rps.drop : ∀ {ds : List D} {vs : List V} (n : Nat), Rps K G ds vs → Rps K G (ds.drop n) (vs.drop n)
  | _, _, 0, h => h
  | [], _, n + 1, h => by simp only [Rps] at h; subst h; simp only [List.drop_nil, Rps]
  | d :: ds, _, n + 1, h => by
    simp only [Rps] at h
    obtain ⟨v, vs, rfl, h2, h3⟩ := h
    simp only [List.drop_succ_cons]
    exact Rps.drop n h3
theorem Rps.reverse : ∀ {ds : List D} {vs : List V}, Rps K G ds vs → Rps K G ds.reverse vs.reverse
  | [], _, h => by simp only [Rps] at h; subst h; simp only [List.reverse_nil, Rps]
  | d :: ds, _, h => by
    simp only [Rps] at h
    obtain ⟨v, vs, rfl, h2, h3⟩ := h
    simp only [List.reverse_cons]
    refine Rps.append (Rps.reverse h3) ?_
    simp only [Rps]
    exact ⟨v, [], rfl, h2, rfl⟩
theorem ROs.per : ∀ {ds : List D} {vs : List V}, Rps K G ds vs → ROs K G H (ds.map Ow.per) vs []
  | [], _, h => by
    simp only [Rps] at h
    simp only [List.map_nil, ROs]
    exact ⟨h, trivial⟩
  | d :: ds, _, h => by
    simp only [Rps] at h
    obtain ⟨v, vs, rfl, h2, h3⟩ := h
    simp only [List.map_cons, ROs, RO]
    exact ⟨v, vs, [], [], rfl, rfl, ⟨rfl, h2⟩, ROs.per h3⟩
theorem ROs.of_per : ∀ {ds : List D} {vs : List V} {fp : List Addr}, ROs K G H (ds.map Ow.per) vs fp → fp = [] ∧ Rps K G ds vs
  | [], _, _, h => by
    simp only [List.map_nil, ROs] at h
    simp only [Rps]
    exact ⟨h.2, h.1⟩
  | d :: ds, _, _, h => by
    simp only [List.map_cons, ROs, RO] at h
    obtain ⟨v, vs, f1, f2, rfl, rfl, ⟨rfl, h2⟩, h3⟩ := h
    obtain ⟨rfl, q⟩ := ROs.of_per h3
    simp only [Rps]
    exact ⟨rfl, v, vs, rfl, h2, q⟩
theorem ROs.length : ∀ {os : List Ow} {vs : List V} {fp : List Addr}, ROs K G H os vs fp → vs.length = os.length
  | [], _, _, h => by simp only [ROs] at h; rw [h.1]; rfl
  | o :: os, _, _, h => by
    simp only [ROs] at h
    obtain ⟨v, vs, f1, f2, rfl, _, _, h3⟩ := h
    simp only [List.length_cons, ROs.length h3]
theorem ROs.append : ∀ {os ps : List Ow} {vs us : List V} {f f' : List Addr}, ROs K G H os vs f → ROs K G H ps us f' → ROs K G H (os ++ ps) (vs ++ us) (f ++ f')
  | [], _, _, _, _, _, h, h' => by simp only [ROs] at h; obtain ⟨rfl, rfl⟩ := h; exact h'
  | o :: os, _, _, _, _, _, h, h' => by
    simp only [ROs] at h
    obtain ⟨v, vs, f1, f2, rfl, rfl, h2, h3⟩ := h
    simp only [List.cons_append, ROs]
    exact ⟨v, _, f1, _, rfl, by rw [List.append_assoc], h2, ROs.append h3 h'⟩
theorem ROs.one {o : Ow} {v : V} {f : List Addr} (h : RO K G H o v f) : ROs K G H [o] [v] f := by
  simp only [ROs]
  exact ⟨v, [], f, [], rfl, by simp, h, rfl, rfl⟩
end
end Pu

set_option Elab.async false
set_option linter.all false
set_option autoImplicit false
set_option maxRecDepth 100000
set_option maxHeartbeats 1000001
namespace Pu
open PySem L2

abbrev Ev := List (Option Ow)
/-- the slots' values by the slots' data -/
def Ens (K : PySem.W.Frag) (G H : Hp) : Ev → St → List Addr → Prop
  | [], σ, fp => σ = [] ∧ fp = []
  | none :: es, σ, fp => ∃ s r, σ = s :: r ∧ Ens K G H es r fp
  | some o :: es, σ, fp => ∃ v r f1 f2, σ = some v :: r ∧ fp = f1 ++ f2 ∧ RO K G H o v f1 ∧ Ens K G H es r f2
/-- what lasts is there; all tuples last -/
structure Sub (G H : Hp) : Prop where
  f : ∀ a o, G a = some o → H a = some o
  t : ∀ a xs, H a = some (.tup xs) → G a = some (.tup xs)
instance {G H : Hp} : CoeFun (Sub G H) (fun _ => ∀ a o, G a = some o → H a = some o) := ⟨Sub.f⟩
instance {G H : Hp} : Coe (Sub G H) (∀ a o, G a = some o → H a = some o) := ⟨Sub.f⟩
/-- from a state to a later one: nothing is changed, what lasts goes on, and only new things begin to last -/
structure Ex2 (G H G' H' : Hp) : Prop where
  s : Sub G' H'
  g : ∀ a o, G a = some o → G' a = some o
  h : ∀ a o, H a = some o → H' a = some o
  n : ∀ a, G a = none → H a ≠ none → G' a = none
theorem Ex2.refl {G H : Hp} (s : Sub G H) : Ex2 G H G H := ⟨s, fun _ _ h => h, fun _ _ h => h, fun _ h _ => h⟩
theorem ne_none {H H' : Hp} {a : Addr} (e : ∀ a o, H a = some o → H' a = some o) (h : H a ≠ none) : H' a ≠ none := by
  cases q : H a with
  | none => exact absurd q h
  | some o => rw [e a o q]; simp
theorem back_none {H H' : Hp} {a : Addr} (e : ∀ a o, H a = some o → H' a = some o) (h : H' a = none) : H a = none := by
  cases q : H a with
  | none => rfl
  | some o => rw [e a o q] at h; cases h
theorem Ex2.trans {G H G1 H1 G2 H2 : Hp} (a : Ex2 G H G1 H1) (b : Ex2 G1 H1 G2 H2) : Ex2 G H G2 H2 :=
  ⟨b.s, fun x o h => b.g _ _ (a.g _ _ h), fun x o h => b.h _ _ (a.h _ _ h), fun x h1 h2 => b.n x (a.n x h1 h2) (ne_none a.h h2)⟩
/-- a new object that lasts -/
theorem Ex2.new {G H : Hp} {p : Addr} {o : HO} (s : Sub G H) (hp : H p = none) : Ex2 G H (upd G p o) (upd H p o) := by
  have gp : G p = none := back_none s hp
  refine ⟨⟨fun a u h => ?_, fun a u h => ?_⟩, fun a u h => ?_, fun a u h => ?_, fun a h1 h2 => ?_⟩
  · by_cases e : a = p
    · subst e; rw [upd_same] at h ⊢; exact h
    · rw [upd_ne e] at h ⊢; exact s _ _ h
  · by_cases e : a = p
    · subst e; rw [upd_same] at h ⊢; exact h
    · rw [upd_ne e] at h ⊢; exact s.t _ _ h
  · rw [upd_ne (ne_of_none h gp)]; exact h
  · rw [upd_ne (ne_of_none h hp)]; exact h
  · have e : a ≠ p := fun e => h2 (by rw [e]; exact hp)
    rw [upd_ne e]; exact h1
/-- a new object of one's own -/
theorem Ex2.newOwn {G H : Hp} {p : Addr} {o : HO} (s : Sub G H) (hp : H p = none) (ht : ∀ xs, o ≠ .tup xs := by intro _ h; cases h) : Ex2 G H G (upd H p o) := by
  refine ⟨⟨fun a u h => ?_, fun a u h => ?_⟩, fun a u h => h, fun a u h => ?_, fun a h1 h2 => h1⟩
  · rw [upd_ne (ne_of_none (s _ _ h) hp)]; exact s _ _ h
  · by_cases e : a = p
    · subst e; rw [upd_same] at h; cases h; exact absurd rfl (ht _)
    · rw [upd_ne e] at h; exact s.t _ _ h
  · rw [upd_ne (ne_of_none h hp)]; exact h
/-- new own things are made to last -/
theorem Ex2.last {G H G' H' : Hp} {fp : List Addr} (x : Ex2 G H G' H') (hn : ∀ a ∈ fp, H a = none) (hg : ∀ a ∈ fp, G' a = none) : Ex2 G H (more G' H' fp) H' := by
  refine ⟨⟨fun a o h => ?_, fun a o h => ?_⟩, fun a o h => ?_, x.h, fun a h1 h2 => ?_⟩
  · by_cases e : a ∈ fp
    · rw [more_in e] at h; exact h
    · rw [more_out e] at h; exact x.s _ _ h
  · by_cases e : a ∈ fp
    · rw [more_in e]; exact h
    · rw [more_out e]; exact x.s.t _ _ h
  · have h' := x.g _ _ h
    by_cases e : a ∈ fp
    · rw [hg a e] at h'; cases h'
    · rw [more_out e]; exact h'
  · have e : a ∉ fp := fun e => h2 (hn a e)
    rw [more_out e]; exact x.n a h1 h2

section
variable {K : PySem.W.Frag} {G H G' H' : Hp}
theorem Ens.frame (e : ∀ a o, G a = some o → G' a = some o) : ∀ {env : Ev} {σ : St} {fp : List Addr}, (∀ a ∈ fp, H' a = H a ∧ G' a = none) → Ens K G H env σ fp → Ens K G' H' env σ fp
  | [], σ, fp, _, h => h
  | none :: es, σ, fp, k, h => by
    obtain ⟨s, r, h1, h2⟩ := h
    exact ⟨s, r, h1, Ens.frame e k h2⟩
  | some o :: es, σ, fp, k, h => by
    obtain ⟨v, r, f1, f2, h1, rfl, h3, h4⟩ := h
    exact ⟨v, r, f1, f2, h1, rfl, h3.frame e fun a ha => k a (List.mem_append_left _ ha), Ens.frame e (fun a ha => k a (List.mem_append_right _ ha)) h4⟩
theorem Ens.length : ∀ {env : Ev} {σ : St} {fp : List Addr}, Ens K G H env σ fp → σ.length = env.length
  | [], σ, fp, h => by rw [h.1]; rfl
  | none :: es, σ, fp, h => by
    obtain ⟨s, r, rfl, h2⟩ := h
    simp only [List.length_cons, Ens.length h2]
  | some o :: es, σ, fp, h => by
    obtain ⟨v, r, f1, f2, rfl, rfl, h3, h4⟩ := h
    simp only [List.length_cons, Ens.length h4]
theorem Ens.out : ∀ {env : Ev} {σ : St} {fp : List Addr}, Ens K G H env σ fp → ∀ a ∈ fp, G a = none ∧ H a ≠ none
  | [], σ, fp, h, a, ha => by rw [h.2] at ha; cases ha
  | none :: es, σ, fp, h, a, ha => by
    obtain ⟨s, r, rfl, h2⟩ := h
    exact Ens.out h2 a ha
  | some o :: es, σ, fp, h, a, ha => by
    obtain ⟨v, r, f1, f2, rfl, rfl, h3, h4⟩ := h
    rcases List.mem_append.mp ha with ha | ha
    · exact h3.out a ha
    · exact Ens.out h4 a ha
/-- one slot taken out, to be put back otherwise -/
theorem Ens.slot : ∀ {env : Ev} {σ : St} {fp : List Addr} {i : Nat} {o : Ow}, Ens K G H env σ fp → env[i]? = some (some o) →
    ∃ v fa f1 fb, σ[i]? = some (some v) ∧ fp = fa ++ (f1 ++ fb) ∧ RO K G H o v f1 ∧
      ∀ (G' H' : Hp) (o' : Option Ow) (s' : Option V) (f1' : List Addr), (∀ a o, G a = some o → G' a = some o) → (∀ a ∈ fa ++ fb, H' a = H a ∧ G' a = none) →
        (match o' with | none => f1' = [] | some o => ∃ v', s' = some v' ∧ RO K G' H' o v' f1') → Ens K G' H' (env.set i o') (σ.set i s') (fa ++ (f1' ++ fb))
  | [], σ, fp, i, o, h, e => by simp at e
  | none :: es, σ, fp, 0, o, h, e => by simp at e
  | some p :: es, σ, fp, 0, o, h, e => by
    simp at e; subst e
    obtain ⟨v, r, f1, f2, rfl, rfl, h3, h4⟩ := h
    refine ⟨v, [], f1, f2, rfl, rfl, h3, fun G' H' o' s' f1' eg k ho => ?_⟩
    have h4' := Ens.frame (H' := H') eg (fun a ha => k a (by simpa using ha)) h4
    cases o' with
    | none =>
      simp only at ho
      subst ho
      exact ⟨s', r, rfl, h4'⟩
    | some q =>
      obtain ⟨v', rfl, ho⟩ := ho
      exact ⟨v', r, f1', f2, rfl, rfl, ho, h4'⟩
  | none :: es, σ, fp, i + 1, o, h, e => by
    obtain ⟨s, r, rfl, h2⟩ := h
    obtain ⟨v, fa, f1, fb, q1, q2, q3, q4⟩ := Ens.slot (i := i) h2 (by simpa using e)
    refine ⟨v, fa, f1, fb, by simpa using q1, q2, q3, fun G' H' o' s' f1' eg k ho => ?_⟩
    exact ⟨s, _, rfl, q4 G' H' o' s' f1' eg k ho⟩
  | some p :: es, σ, fp, i + 1, o, h, e => by
    obtain ⟨u, r, g1, g2, rfl, rfl, h3, h4⟩ := h
    obtain ⟨v, fa, f1, fb, q1, q2, q3, q4⟩ := Ens.slot (i := i) h4 (by simpa using e)
    subst q2
    refine ⟨v, g1 ++ fa, f1, fb, by simpa using q1, by simp, q3, fun G' H' o' s' f1' eg k ho => ?_⟩
    refine ⟨u, _, g1, fa ++ (f1' ++ fb), rfl, by simp, h3.frame eg fun a ha => k a (by simp [ha]), ?_⟩
    exact q4 G' H' o' s' f1' eg (fun a ha => k a (by
      rcases List.mem_append.mp ha with ha | ha
      · simp [ha]
      · simp [ha])) ho
/-- a slot set anew -/
theorem Ens.set : ∀ {env : Ev} {σ : St} {fp : List Addr} {i : Nat} {o : Ow} {v : V} {f : List Addr}, Ens K G H env σ fp → i < env.length → RO K G H o v f →
    ∃ fp', Ens K G H (env.set i (some o)) (σ.set i (some v)) fp' ∧ (∀ a ∈ fp', a ∈ f ∨ a ∈ fp) ∧ (fp.Nodup → f.Nodup → (∀ a ∈ f, a ∉ fp) → fp'.Nodup)
  | [], σ, fp, i, o, v, f, h, hi, r => by simp at hi
  | none :: es, σ, fp, 0, o, v, f, h, hi, r => by
    obtain ⟨s, q, rfl, h2⟩ := h
    refine ⟨f ++ fp, ⟨v, q, f, fp, rfl, rfl, r, h2⟩, fun a ha => List.mem_append.mp ha, fun n1 n2 d => ?_⟩
    exact List.nodup_append.mpr ⟨n2, n1, fun a ha b hb e => d a ha (e ▸ hb)⟩
  | some p :: es, σ, fp, 0, o, v, f, h, hi, r => by
    obtain ⟨u, q, g1, g2, rfl, rfl, h3, h4⟩ := h
    refine ⟨f ++ g2, ⟨v, q, f, g2, rfl, rfl, r, h4⟩, fun a ha => ?_, fun n1 n2 d => ?_⟩
    · rcases List.mem_append.mp ha with ha | ha
      · exact .inl ha
      · exact .inr (List.mem_append_right _ ha)
    · exact List.nodup_append.mpr ⟨n2, (List.nodup_append.mp n1).2.1, fun a ha b hb e => d a ha (List.mem_append_right _ (e ▸ hb))⟩
  | none :: es, σ, fp, i + 1, o, v, f, h, hi, r => by
    obtain ⟨s, q, rfl, h2⟩ := h
    obtain ⟨fp', k1, k2, k3⟩ := Ens.set (i := i) h2 (by simpa using hi) r
    exact ⟨fp', ⟨s, _, rfl, k1⟩, k2, k3⟩
  | some p :: es, σ, fp, i + 1, o, v, f, h, hi, r => by
    obtain ⟨u, q, g1, g2, rfl, rfl, h3, h4⟩ := h
    obtain ⟨fp', k1, k2, k3⟩ := Ens.set (i := i) h4 (by simpa using hi) r
    refine ⟨g1 ++ fp', ⟨u, _, g1, fp', rfl, rfl, h3, k1⟩, fun a ha => ?_, fun n1 n2 d => ?_⟩
    · rcases List.mem_append.mp ha with ha | ha
      · exact .inr (List.mem_append_left _ ha)
      · rcases k2 a ha with z | z
        · exact .inl z
        · exact .inr (List.mem_append_right _ z)
    · obtain ⟨m1, m2, m3⟩ := List.nodup_append.mp n1
      refine List.nodup_append.mpr ⟨m1, k3 m2 n2 fun a ha hb => d a ha (List.mem_append_right _ hb), fun a ha b hb e => ?_⟩
      subst e
      rcases k2 a hb with z | z
      · exact d a z (List.mem_append_left _ ha)
      · exact m3 a ha a z rfl
/-- slots forgotten -/
theorem Ens.drop : ∀ {env : Ev} {σ : St} {fp : List Addr} {i : Nat} {s' : Option V}, Ens K G H env σ fp → ∃ fp', Ens K G H (env.set i none) (σ.set i s') fp' ∧ List.Sublist fp' fp
  | [], σ, fp, i, s', h => ⟨[], by rw [h.1]; exact ⟨rfl, rfl⟩, List.nil_sublist _⟩
  | none :: es, σ, fp, 0, s', h => by
    obtain ⟨s, q, rfl, h2⟩ := h
    exact ⟨fp, ⟨s', q, rfl, h2⟩, List.Sublist.refl _⟩
  | some p :: es, σ, fp, 0, s', h => by
    obtain ⟨u, q, g1, g2, rfl, rfl, h3, h4⟩ := h
    exact ⟨g2, ⟨s', q, rfl, h4⟩, List.sublist_append_right _ _⟩
  | none :: es, σ, fp, i + 1, s', h => by
    obtain ⟨s, q, rfl, h2⟩ := h
    obtain ⟨fp', k1, k2⟩ := Ens.drop (i := i) (s' := s') h2
    exact ⟨fp', ⟨s, _, rfl, k1⟩, k2⟩
  | some p :: es, σ, fp, i + 1, s', h => by
    obtain ⟨u, q, g1, g2, rfl, rfl, h3, h4⟩ := h
    obtain ⟨fp', k1, k2⟩ := Ens.drop (i := i) (s' := s') h4
    exact ⟨g1 ++ fp', ⟨u, _, g1, fp', rfl, rfl, h3, k1⟩, (List.append_sublist_append_left _).mpr k2⟩

/-- the state's slots, its own things being younger than H0 -/
def En (K : PySem.W.Frag) (H0 G H : Hp) (σ : St) (env : Ev) : Prop := ∃ fp, Ens K G H env σ fp ∧ fp.Nodup ∧ ∀ a ∈ fp, H0 a = none
theorem En.later {H0 : Hp} {σ : St} {env : Ev} (x : Ex2 G H G' H') (h : En K H0 G H σ env) : En K H0 G' H' σ env := by
  obtain ⟨fp, h1, h2, h3⟩ := h
  refine ⟨fp, h1.frame x.g fun a ha => ?_, h2, h3⟩
  obtain ⟨q1, q2⟩ := h1.out a ha
  refine ⟨?_, x.n a q1 q2⟩
  cases q : H a with
  | none => exact absurd q q2
  | some o => exact x.h a o q
theorem En.set {H0 : Hp} {σ : St} {env : Ev} {i : Nat} {o : Ow} {v : V} {f : List Addr} (h : En K H0 G H σ env) (hi : i < env.length) (r : RO K G H o v f) (nf : f.Nodup) (h0 : ∀ a ∈ f, H0 a = none)
    (hd : ∀ fp, Ens K G H env σ fp → ∀ a ∈ f, a ∉ fp) : En K H0 G H (σ.set i (some v)) (env.set i (some o)) := by
  obtain ⟨fp, h1, h2, h3⟩ := h
  obtain ⟨fp', k1, k2, k3⟩ := Ens.set h1 hi r
  refine ⟨fp', k1, k3 h2 nf (hd fp h1), fun a ha => ?_⟩
  rcases k2 a ha with z | z
  · exact h0 a z
  · exact h3 a z
theorem set_self {σ : St} {i : Nat} {v : V} (q1 : σ[i]? = some (some v)) : σ.set i (some v) = σ := by
  apply List.ext_getElem?
  intro j
  by_cases z : i = j
  · subst z
    have hi : i < σ.length := (List.getElem?_eq_some_iff.mp q1).1
    rw [List.getElem?_set_self hi, q1]
  · rw [List.getElem?_set_ne z]
/-- one thing more, new or not among the slots' cells -/
theorem En.push {H0 : Hp} {σ : St} {env : Ev} {o : Ow} {v : V} {f : List Addr} (h : En K H0 G H σ env) (x : Ex2 G H G' H') (r : RO K G' H' o v f) (nf : f.Nodup) (n : ∀ a ∈ f, H a = none) (h0 : ∀ a ∈ f, H0 a = none) : En K H0 G' H' (some v :: σ) (some o :: env) := by
  obtain ⟨fp, h1, h2, h3⟩ := h
  have h1' : Ens K G' H' env σ fp := h1.frame x.g fun a ha => by
    obtain ⟨q1, q2⟩ := h1.out a ha
    refine ⟨?_, x.n a q1 q2⟩
    cases q : H a with
    | none => exact absurd q q2
    | some o => exact x.h a o q
  refine ⟨f ++ fp, ⟨v, σ, f, fp, rfl, rfl, r, h1'⟩, List.nodup_append.mpr ⟨nf, h2, fun a ha b hb e => ?_⟩, fun a ha => ?_⟩
  · subst e
    exact (h1.out a hb).2 (n a ha)
  · rcases List.mem_append.mp ha with z | z
    · exact h0 a z
    · exact h3 a z
theorem En.get {H0 : Hp} {σ : St} {env : Ev} {i : Nat} {d : D} (h : En K H0 G H σ env) (e : env[i]? = some (some (.per d))) : ∃ v, σ[i]? = some (some v) ∧ Rp K G d v := by
  obtain ⟨fp, h1, h2, h3⟩ := h
  obtain ⟨v, fa, f1, fb, q1, q2, q3, _⟩ := h1.slot e
  simp only [RO] at q3
  exact ⟨v, q1, q3.2⟩
end

/-! ### the meaning of expressions, tests, blocks -/
section
variable (X : Cx)
def WE (e : Expr) : TE := fun σ H Q => ∀ (pins : List (Addr × Obj)) (s : Shared), Inv X pins σ H s → wpAny (model X.prog X.w) X.A (eval e X.env) (EP X pins σ Q) X.xe s
def WT (e : Expr) : TT := fun σ H Q => ∀ (pins : List (Addr × Obj)) (s : Shared), Inv X pins σ H s → wpAny (model X.prog X.w) X.A (isTrue e X.env (eval e X.env)) (TP X pins σ Q) X.xe s
def WA (es : List Expr) : TA := fun σ H Q => ∀ (pos : Pos) (pins : List (Addr × Obj)) (s : Shared), Inv X pins σ H s → wpAny (model X.prog X.w) X.A (spliced (backTo pos (starEach es X.env))) (AP X pins σ Q) X.xe s
def WS (st : Stmt) : TS := fun D σ H => ∀ (pins : List (Addr × Obj)) (s : Shared), Inv X pins σ H s → wpAny (model X.prog X.w) X.A (exec st X.env) (SP X pins D) X.xe s
def WSs (st : List Stmt) : TS := fun D σ H => ∀ (pins : List (Addr × Obj)) (s : Shared), Inv X pins σ H s → wpAny (model X.prog X.w) X.A (execs st X.env) (SP X pins D) X.xe s
end
section
variable {X : Cx} {e : Expr} {es : List Expr} {st : Stmt} {ss : List Stmt} {σ : St} {H : Hp}
theorem pWE : PE X e (WE X e) := ⟨fun pins s _ _ _ I h => h pins s I⟩
theorem pWT : PT X e (WT X e) := ⟨fun pins s _ _ _ I h => h pins s I⟩
theorem pWA : PA X es (WA X es) := ⟨fun pos pins s _ _ _ I h => h pos pins s I⟩
theorem pWS : PS X st (WS X st) := ⟨fun pins s _ _ _ I h => h pins s I⟩
theorem pWSs : PSs X ss (WSs X ss) := ⟨fun pins s _ _ _ I h => h pins s I⟩
theorem WE.of {t : TE} {Q : VK} (h : PE X e t) (k : t σ H Q) : WE X e σ H Q := fun pins s I => h.run pins s σ H Q I k
theorem WT.of {t : TT} {Q : Bool → Hp → Prop} (h : PT X e t) (k : t σ H Q) : WT X e σ H Q := fun pins s I => h.run pins s σ H Q I k
theorem WA.of {t : TA} {Q : List V → Hp → Prop} (h : PA X es t) (k : t σ H Q) : WA X es σ H Q := fun pos pins s I => h.run pos pins s σ H Q I k
theorem WS.of {t : TS} {D : Ends} (h : PS X st t) (k : t D σ H) : WS X st D σ H := fun pins s I => h.run pins s σ H D I k
theorem WSs.of {t : TS} {D : Ends} (h : PSs X ss t) (k : t D σ H) : WSs X ss D σ H := fun pins s I => h.run pins s σ H D I k
/-- what the state's objects say may be used -/
theorem WE.inv {Q : VK} (h : (∃ pins s, Inv X pins σ H s) → WE X e σ H Q) : WE X e σ H Q := fun pins s I => h ⟨pins, s, I⟩ pins s I
theorem WSs.inv {D : Ends} (h : (∃ pins s, Inv X pins σ H s) → WSs X ss D σ H) : WSs X ss D σ H := fun pins s I => h ⟨pins, s, I⟩ pins s I
end

/-- what an expression must give -/
def Gv (K : PySem.W.Frag) (G H : Hp) (o : Ow) (Q : VK) : Prop := ∀ v G' H' fp, Ex2 G H G' H' → RO K G' H' o v fp → (∀ a ∈ fp, H a = none) → fp.Nodup → Q v H'
/-- an expression is worth o in every state with these slots -/
structure P (X : Cx) (env : Ev) (e : Expr) (o : Ow) : Prop where
  run : ∀ (H0 : Hp) (σ : St) (G H : Hp), Sub G H → En X.K H0 G H σ env → ∀ Q : VK, Gv X.K G H o Q → WE X e σ H Q
/-- a test has this outcome -/
structure T (X : Cx) (env : Ev) (e : Expr) (b : Bool) : Prop where
  run : ∀ (H0 : Hp) (σ : St) (G H : Hp), Sub G H → En X.K H0 G H σ env → ∀ Q : Bool → Hp → Prop,
  (∀ G' H', Ex2 G H G' H' → Q b H') → WT X e σ H Q
/-- arguments -/
structure As (X : Cx) (env : Ev) (es : List Expr) (ds : List D) : Prop where
  run : ∀ (H0 : Hp) (σ : St) (G H : Hp), Sub G H → En X.K H0 G H σ env → ∀ Q : List V → Hp → Prop,
  (∀ vs G' H', Ex2 G H G' H' → Rps X.K G' ds vs → Q vs H') → WA X es σ H Q
/-- an exception: its class, its fields -/
structure Xc where
  C : Str
  ns : List Str
  ds : List D
def RX (K : PySem.W.Frag) (G : Hp) (c : Xc) (cls : Value) (d : Option Addr) : Prop := cls = .ref (He.ga K c.C) ∧ ∃ xs, XF G d c.ns xs ∧ Rps K G c.ds xs
inductive Out where
  | nx (env : Ev) | bk (env : Ev) | ct (env : Ev) | rt (o : Ow) (env : Ev) | ex (c : Xc) (env : Ev)
structure Endsk (X : Cx) (Φ : Out → Prop) (G0 H0 : Hp) (D : Ends) : Prop where
  nx : ∀ env σ G H, Φ (.nx env) → Ex2 G0 H0 G H → En X.K H0 G H σ env → D.nx σ H
  bk : ∀ env σ G H, Φ (.bk env) → Ex2 G0 H0 G H → En X.K H0 G H σ env → D.bk σ H
  ct : ∀ env σ G H, Φ (.ct env) → Ex2 G0 H0 G H → En X.K H0 G H σ env → D.ct σ H
  rt : ∀ o env v σ G H, Φ (.rt o env) → Ex2 G0 H0 G H → En X.K H0 G H (some v :: σ) (some o :: env) → D.rt v H
  ex : ∃ W : WX, L2.Takes X W ∧ ∀ c env cls d σ G H, Φ (.ex c env) → Ex2 G0 H0 G H → En X.K H0 G H σ env → RX X.K G c cls d → W cls d σ H
/-- a block, from these slots, ends as Φ tells -/
structure S (X : Cx) (ss : List Stmt) (env : Ev) (Φ : Out → Prop) : Prop where
  run : ∀ (σ : St) (G0 H0 G H : Hp), Ex2 G0 H0 G H → En X.K H0 G H σ env → ∀ D : Ends, Endsk X Φ G0 H0 D → WSs X ss D σ H
structure S1 (X : Cx) (st : Stmt) (env : Ev) (Φ : Out → Prop) : Prop where
  run : ∀ (σ : St) (G0 H0 G H : Hp), Ex2 G0 H0 G H → En X.K H0 G H σ env → ∀ D : Ends, Endsk X Φ G0 H0 D → WS X st D σ H
end Pu

set_option Elab.async false
set_option linter.all false
set_option autoImplicit false
set_option maxRecDepth 100000
set_option maxHeartbeats 1000001
namespace Pu
open PySem L2

/-- the module: the program, the world, the written part, the globals, the base -/
structure Md where
  P : Program
  w : World
  K : PySem.W.Frag
  mg : Str → Option Value
  base : Heap
/-- where a body stands -/
structure Cs (X : Cx) (m : Md) (N : List Str) (sc fs : Scope) (k : Nat) : Prop where
  hP : X.prog = m.P
  hW : X.w = m.w
  hK : X.K = m.K
  hM : X.mg = m.mg
  hB : X.base = m.base
  hN : X.N = N
  hS : X.env.scope = sc
  calm : X.calm = true
  room : Room k X.A
  nd : N.Nodup
  fn : ∀ x, fs.names.lookup x = some .cell → X.fn x = true
  own : PassesOwn (model X.prog X.w) X.A X.env X.xe
/-- the name x has the place i -/
structure Ix (N : List Str) (i : Nat) (x : Str) : Prop where
  at_ : N[i]? = some x
  d1 : (x == ("__debug__" : Str)) = false
  d2 : (x == ("__classdict__" : Str)) = false
def visB (sc : Scope) (x : Str) : Bool := match sc.names.lookup x with
  | some .local => true
  | some .cell => true
  | some .free => true
  | _ => false
def locB (sc fs : Scope) (x : Str) : Bool := match sc.names.lookup x with
  | some .local => true
  | some .cell => (match fs.names.lookup x with
    | some .cell => true
    | _ => false)
  | _ => false
def gloB (sc : Scope) (x : Str) : Bool := match sc.names.lookup x with
  | some .globalImplicit => true
  | _ => false
theorem vis_of {sc : Scope} {x : Str} (h : visB sc x = true) : Vis sc x := by
  unfold visB at h
  unfold Vis
  split at h
  · exact .inl ‹_›
  · exact .inr (.inl ‹_›)
  · exact .inr (.inr ‹_›)
  · cases h
theorem loc_of {sc fs : Scope} {x : Str} (h : locB sc fs x = true) : sc.names.lookup x = some .local ∨ (sc.names.lookup x = some .cell ∧ fs.names.lookup x = some .cell) := by
  unfold locB at h
  split at h
  · exact .inl ‹_›
  · split at h
    · exact .inr ⟨‹_›, ‹_›⟩
    · cases h
  · cases h
theorem glo_of {sc : Scope} {x : Str} (h : gloB sc x = true) : sc.names.lookup x = some .globalImplicit := by
  unfold gloB at h
  split at h
  · assumption
  · cases h
section
variable {X : Cx} {m : Md} {N : List Str} {sc fs : Scope} {k : Nat}
theorem Cs.gl (hX : Cs X m N sc fs k) {x : Str} (h : gloB sc x = true) : Gl X x := by
  show X.env.scope.names.lookup x = _
  rw [hX.hS]
  exact glo_of h
theorem Cs.hf (hX : Cs X m N sc fs k) {x : Str} (h : locB sc fs x = true) : X.fn x = true ∨ X.env.scope.names.lookup x = some .local := by
  rcases loc_of h with q | q
  · exact .inr (by rw [hX.hS]; exact q)
  · exact .inl (hX.fn x q.2)
theorem Cs.loc (hX : Cs X m N sc fs k) {x : Str} (h : locB sc fs x = true) : L2.Loc X.env.scope x := by
  rw [hX.hS]
  rcases loc_of h with q | q
  · exact .inl q
  · exact .inr q.1
theorem Cs.mono (hX : Cs X m N sc fs k) {j : Nat} (h : j ≤ k) : Cs X m N sc fs j := { hX with room := hX.room.mono h }
end

theorem Gv.val {K : PySem.W.Frag} {G H : Hp} {d : D} {Q : VK} {v : V} (g : Gv K G H (.per d) Q) (s : Sub G H) (h : Rp K G d v) : Q v H :=
  g v G H [] (Ex2.refl s) (by simp only [RO]; exact ⟨trivial, h⟩) (fun a ha => by cases ha) List.nodup_nil
theorem Gv.trans {K : PySem.W.Frag} {G H G1 H1 : Hp} {o : Ow} {Q : VK} (g : Gv K G H o Q) (x : Ex2 G H G1 H1) : Gv K G1 H1 o Q :=
  fun v G' H' fp y r n d => g v G' H' fp (x.trans y) r (fun a ha => back_none x.h (n a ha)) d
/-- a new lasting tuple -/
theorem Gv.tup {K : PySem.W.Frag} {G H : Hp} {ds : List D} {xs : List V} {Q : VK} {p : Addr} (g : Gv K G H (.per (.tup ds)) Q) (s : Sub G H) (h : Rps K G ds xs) (hp : H p = none) : Q (.ref p) (upd H p (.tup xs)) := by
  have x : Ex2 G H (upd G p (.tup xs)) (upd H p (.tup xs)) := Ex2.new s hp
  refine g _ _ _ [] x ?_ (fun a ha => by cases ha) List.nodup_nil
  simp only [RO, Rp]
  exact ⟨trivial, p, xs, rfl, upd_same, h.mono x.g⟩
/-- a new list of one's own, of lasting things -/
theorem Gv.lst {K : PySem.W.Frag} {G H : Hp} {ds : List D} {xs : List V} {Q : VK} {p : Addr} (g : Gv K G H (.lst (ds.map Ow.per)) Q) (s : Sub G H) (h : Rps K G ds xs) (hp : H p = none) : Q (.ref p) (upd H p (.lst xs)) := by
  have x : Ex2 G H G (upd H p (.lst xs)) := Ex2.newOwn s hp
  refine g _ _ _ [p] x ?_ (fun a ha => ?_) (List.nodup_cons.mpr ⟨by simp, List.nodup_nil⟩)
  · simp only [RO]
    exact ⟨p, xs, [], rfl, rfl, back_none s hp, upd_same, ROs.per h⟩
  · rw [List.mem_singleton.mp ha]; exact hp
theorem P.go {X : Cx} {env : Ev} {e : Expr} {d : D} {H0 : Hp} {σ : St} {G H : Hp} {Q : VK} (h : P X env e (.per d)) (s : Sub G H) (E : En X.K H0 G H σ env) (k : ∀ v G' H', Ex2 G H G' H' → Rp X.K G' d v → Q v H') : WE X e σ H Q :=
  h.run H0 σ G H s E Q fun v G' H' fp x r _ _ => k v G' H' x (by simp only [RO] at r; exact r.2)
/-- what is made is made to last -/
theorem P.last {X : Cx} {env : Ev} {e : Expr} {o : Ow} (h : P X env e o) : P X env e (.per o.fr) := .mk fun H0 σ G H s E Q g =>
  h.run H0 σ G H s E Q fun v G' H' fp x r n d => by
    have x' := x.last n fun a ha => (r.out a ha).1
    refine g v _ H' [] x' ?_ (fun a ha => by cases ha) List.nodup_nil
    simp only [RO]
    exact ⟨trivial, r.fr (fun a o e => by
      by_cases q : a ∈ fp
      · rw [(r.out a q).1] at e; cases e
      · rw [more_out q]; exact e) fun a ha => more_in ha⟩
theorem P.lastL {X : Cx} {env : Ev} {e : Expr} {ds : List D} (h : P X env e (.lst (ds.map Ow.per))) : P X env e (.per (.lst ds)) := by
  have q := h.last
  simp only [Ow.fr, frs_per] at q
  exact q

section
variable {X : Cx} {m : Md} {N : List Str} {sc fs : Scope} {k : Nat} {env : Ev} {a b c e : Expr} {es : List Expr} {pos : Pos}
/-! ### names, constants -/
theorem p_var (hX : Cs X m N sc fs k) {i : Nat} {x : Str} {d : D} (hi : Ix N i x) (hv : visB sc x = true) (he : env[i]? = some (some (.per d))) : P X env (.Name x pos) (.per d) := .mk fun H0 σ G H s E Q g => by
  obtain ⟨v, h1, h2⟩ := E.get he
  exact WE.of (pe_var (by rw [hX.hN]; exact hi.at_) (by rw [hX.hS]; exact vis_of hv) hi.d1 hi.d2) ⟨v, h1, g.val s h2⟩
theorem p_int {i : Int} {j : Nat} : P X env (.Constant (.int i) j pos) (.per (.int i)) := .mk fun H0 σ G H s E Q g => WE.of pe_int (g.val (v := .int i) s (by simp only [Rp]))
theorem p_bl {i : Bool} {j : Nat} : P X env (.Constant (.bool i) j pos) (.per (.bl i)) := .mk fun H0 σ G H s E Q g => WE.of pe_bl (g.val (v := .bl i) s (by simp only [Rp]))
theorem p_non {j : Nat} : P X env (.Constant .none j pos) (.per .non) := .mk fun H0 σ G H s E Q g => WE.of pe_non (g.val (v := .non) s (by simp only [Rp]))
theorem p_str {i : Str} {j : Nat} : P X env (.Constant (.str i) j pos) (.per (.str i)) := .mk fun H0 σ G H s E Q g => WE.of pe_str (g.val (v := .str i) s (by simp only [Rp]))
/-- a constant of the module -/
theorem p_glob (hX : Cs X m N sc fs k) {x : Str} {d : D} {v : V} {u : Value} (hg : gloB sc x = true) (hm : m.mg x = some u) (hr : RelV v u) (hd : ∀ G, Rp m.K G d v) (hx : (x == ("__debug__" : Str)) = false := by decide +kernel) : P X env (.Name x pos) (.per d) := .mk fun H0 σ G H s E Q g =>
  WE.of (pe_glob (hX.gl hg) (by rw [hX.hM]; exact hm) hr hx) (g.val s (by rw [hX.hK]; exact hd G))

/-! ### operators -/
/-- two operands, by the operator's rule -/
theorem p_op {op : Operator} {r : R2} {da db : D} {o : Ow} (ho : OpR X (binaryOp op) r) (ha : P X env a (.per da)) (hb : P X env b (.per db))
    (hr : ∀ G H x y Q, Sub G H → Rp X.K G da x → Rp X.K G db y → Gv X.K G H o Q → r x y H Q) : P X env (.BinOp a op b pos) o := .mk fun H0 σ G H s E Q g =>
  WE.of (pe_op ho pWE pWE) (ha.go s E fun x G1 H1 x1 r1 => hb.go x1.s (E.later x1) fun y G2 H2 x2 r2 => hr G2 H2 x y Q x2.s (r1.mono x2.g) r2 (g.trans (x1.trans x2)))
theorem p_cmp {op : CmpOp} {r : R2} {da db : D} {o : Ow} (ho : OpR X (compareOp op) r) (ha : P X env a (.per da)) (hb : P X env b (.per db))
    (hr : ∀ G H x y Q, Sub G H → Rp X.K G da x → Rp X.K G db y → Gv X.K G H o Q → r x y H Q) (hm : behindInMarks op b = false) : P X env (.Compare a [op] [b] pos) o := .mk fun H0 σ G H s E Q g =>
  WE.of (pe_cmpR ho pWE pWE hm) (ha.go s E fun x G1 H1 x1 r1 => hb.go x1.s (E.later x1) fun y G2 H2 x2 r2 => hr G2 H2 x y Q x2.s (r1.mono x2.g) r2 (g.trans (x1.trans x2)))
/-- .. as a test -/
theorem t_cmp {op : CmpOp} {r : R2} {da db : D} {q : Bool} (ho : OpR X (compareOp op) r) (ha : P X env a (.per da)) (hb : P X env b (.per db))
    (hr : ∀ G H x y Q, Sub G H → Rp X.K G da x → Rp X.K G db y → Gv X.K G H (.per (.bl q)) Q → r x y H Q) (hm : behindInMarks op b = false) : T X env (.Compare a [op] [b] pos) q := .mk fun H0 σ G H s E Q g =>
  WT.of (pt_cmpR ho pWE pWE hm) (ha.go s E fun x G1 H1 x1 r1 => hb.go x1.s (E.later x1) fun y G2 H2 x2 r2 => hr G2 H2 x y _ x2.s (r1.mono x2.g) r2 fun v G3 H3 fp x3 r3 _ _ => by
    simp only [RO, Rp] at r3
    exact ⟨q, r3.2, g G3 H3 ((x1.trans x2).trans x3)⟩)
theorem rI0_of {K : PySem.W.Frag} {G H : Hp} {f : Int → Int → V} {i j : Int} {d : D} {x y : V} {Q : VK} (s : Sub G H) (h1 : Rp K G (.int i) x) (h2 : Rp K G (.int j) y) (hd : ∀ G, Rp K G d (f i j)) (g : Gv K G H (.per d) Q) : rI0 f x y H Q := by
  simp only [Rp] at h1 h2
  exact ⟨i, j, h1, h2, g.val s (hd G)⟩
theorem rI_of {K : PySem.W.Frag} {G H : Hp} {C : Int → Int → Prop} {f : Int → Int → V} {i j : Int} {d : D} {x y : V} {Q : VK} (s : Sub G H) (h1 : Rp K G (.int i) x) (h2 : Rp K G (.int j) y) (hc : C i j) (hd : ∀ G, Rp K G d (f i j)) (g : Gv K G H (.per d) Q) : rI C f x y H Q := by
  simp only [Rp] at h1 h2
  exact ⟨i, j, h1, h2, hc, g.val s (hd G)⟩
variable {i j : Int}
theorem p_add (ha : P X env a (.per (.int i))) (hb : P X env b (.per (.int j))) : P X env (.BinOp a .Add b pos) (.per (.int (i + j))) :=
  p_op op_add ha hb fun G H x y Q s h1 h2 g => rI0_of s h1 h2 (fun _ => by simp only [Rp]) g
theorem p_sub (ha : P X env a (.per (.int i))) (hb : P X env b (.per (.int j))) : P X env (.BinOp a .Sub b pos) (.per (.int (i - j))) :=
  p_op op_sub ha hb fun G H x y Q s h1 h2 g => rI0_of s h1 h2 (fun _ => by simp only [Rp]) g
theorem p_mul (hc : CMul i j) (ha : P X env a (.per (.int i))) (hb : P X env b (.per (.int j))) : P X env (.BinOp a .Mult b pos) (.per (.int (i * j))) :=
  p_op op_mul ha hb fun G H x y Q s h1 h2 g => rI_of s h1 h2 hc (fun _ => by simp only [Rp]) g
theorem p_mod (hc : 0 < j) (ha : P X env a (.per (.int i))) (hb : P X env b (.per (.int j))) : P X env (.BinOp a .Mod b pos) (.per (.int (i % j))) :=
  p_op op_mod ha hb fun G H x y Q s h1 h2 g => rI_of s h1 h2 hc (fun _ => by simp only [Rp]) g
theorem p_fdiv (hc : 0 < j ∧ j < 1073741824) (ha : P X env a (.per (.int i))) (hb : P X env b (.per (.int j))) : P X env (.BinOp a .FloorDiv b pos) (.per (.int (i / j))) :=
  p_op op_fdiv ha hb fun G H x y Q s h1 h2 g => rI_of s h1 h2 hc (fun _ => by simp only [Rp]) g
theorem p_pow (hc : CPow i j) (ha : P X env a (.per (.int i))) (hb : P X env b (.per (.int j))) : P X env (.BinOp a .Pow b pos) (.per (.int (i ^ j.toNat))) :=
  p_op op_pow ha hb fun G H x y Q s h1 h2 g => rI_of s h1 h2 hc (fun _ => by simp only [Rp]) g
theorem p_neg (ha : P X env a (.per (.int i))) : P X env (.UnaryOp .USub a pos) (.per (.int (-i))) := .mk fun H0 σ G H s E Q g =>
  WE.of (pe_un un_neg pWE) (ha.go s E fun x G1 H1 x1 r1 => by
    simp only [Rp] at r1
    exact ⟨i, r1, (g.trans x1).val x1.s (by simp only [Rp])⟩)
theorem p_lt (ha : P X env a (.per (.int i))) (hb : P X env b (.per (.int j))) : P X env (.Compare a [.Lt] [b] pos) (.per (.bl (decide (i < j)))) :=
  p_cmp op_lt ha hb (fun G H x y Q s h1 h2 g => rI0_of s h1 h2 (fun _ => by simp only [Rp]) g) (nomark _)
theorem p_le (ha : P X env a (.per (.int i))) (hb : P X env b (.per (.int j))) : P X env (.Compare a [.LtE] [b] pos) (.per (.bl (decide (i ≤ j)))) :=
  p_cmp op_le ha hb (fun G H x y Q s h1 h2 g => rI0_of s h1 h2 (fun _ => by simp only [Rp]) g) (nomark _)
theorem p_gt (ha : P X env a (.per (.int i))) (hb : P X env b (.per (.int j))) : P X env (.Compare a [.Gt] [b] pos) (.per (.bl (decide (j < i)))) :=
  p_cmp op_gt ha hb (fun G H x y Q s h1 h2 g => rI0_of s h1 h2 (fun _ => by simp only [Rp]) g) (nomark _)
theorem p_ge (ha : P X env a (.per (.int i))) (hb : P X env b (.per (.int j))) : P X env (.Compare a [.GtE] [b] pos) (.per (.bl (decide (j ≤ i)))) :=
  p_cmp op_ge ha hb (fun G H x y Q s h1 h2 g => rI0_of s h1 h2 (fun _ => by simp only [Rp]) g) (nomark _)
end
end Pu

set_option Elab.async false
set_option linter.all false
set_option autoImplicit false
set_option maxRecDepth 100000
set_option maxHeartbeats 1000001
namespace Pu
open PySem L2
theorem sub_sqL {K : PySem.W.Frag} {G H : Hp} {a : Addr} {xs : List V} (s : Sub G H) (h : SqL K G a xs) : SqL K H a xs := sqL_mono s h
theorem sub_sqT {K : PySem.W.Frag} {G H : Hp} {a : Addr} {xs : List V} (s : Sub G H) (h : SqT K G a xs) : SqT K H a xs := sqT_mono s h
/-- a list that is read -/
theorem Rp.seq {K : PySem.W.Frag} {G : Hp} {ds : List D} {v : V} (h : Rp K G (.lst ds) v ∨ Rp K G (.fz ds) v) : ∃ a xs, v = .ref a ∧ SqL K G a xs ∧ Rps K G ds xs := by
  rcases h with h | h
  · simp only [Rp] at h
    obtain ⟨a, xs, h1, h2, h3⟩ := h
    exact ⟨a, xs, h1, SqL.of h2, h3⟩
  · simpa only [Rp] using h
/-- d is a list (or the script) of these -/
inductive IsL : D → List D → Prop where
  | lst (ds : List D) : IsL (.lst ds) ds
  | fz (ds : List D) : IsL (.fz ds) ds
inductive IsS : D → List D → Prop where
  | lst (ds : List D) : IsS (.lst ds) ds
  | fz (ds : List D) : IsS (.fz ds) ds
  | tup (ds : List D) : IsS (.tup ds) ds
  | ft (ds : List D) : IsS (.ft ds) ds
inductive IsT : D → List D → Prop where
  | tup (ds : List D) : IsT (.tup ds) ds
  | ft (ds : List D) : IsT (.ft ds) ds
theorem IsT.seq {K : PySem.W.Frag} {G : Hp} {d : D} {ds : List D} {v : V} (i : IsT d ds) (h : Rp K G d v) : ∃ a xs, v = .ref a ∧ SqT K G a xs ∧ Rps K G ds xs := by
  cases i with
  | tup =>
    simp only [Rp] at h
    obtain ⟨a, xs, h1, h2, h3⟩ := h
    exact ⟨a, xs, h1, SqT.of h2, h3⟩
  | ft => simpa only [Rp] using h
theorem IsL.seq {K : PySem.W.Frag} {G : Hp} {d : D} {ds : List D} {v : V} (i : IsL d ds) (h : Rp K G d v) : ∃ a xs, v = .ref a ∧ SqL K G a xs ∧ Rps K G ds xs := by
  cases i with
  | lst => exact Rp.seq (.inl h)
  | fz => exact Rp.seq (.inr h)
theorem IsS.seq {K : PySem.W.Frag} {G : Hp} {d : D} {ds : List D} {v : V} (i : IsS d ds) (h : Rp K G d v) : ∃ a xs, v = .ref a ∧ (SqL K G a xs ∨ SqT K G a xs) ∧ Rps K G ds xs := by
  cases i with
  | lst =>
    obtain ⟨a, xs, h1, h2, h3⟩ := Rp.seq (.inl h)
    exact ⟨a, xs, h1, .inl h2, h3⟩
  | fz =>
    obtain ⟨a, xs, h1, h2, h3⟩ := Rp.seq (.inr h)
    exact ⟨a, xs, h1, .inl h2, h3⟩
  | tup =>
    simp only [Rp] at h
    obtain ⟨a, xs, h1, h2, h3⟩ := h
    exact ⟨a, xs, h1, .inr (SqT.of h2), h3⟩
  | ft =>
    simp only [Rp] at h
    obtain ⟨a, xs, h1, h2, h3⟩ := h
    exact ⟨a, xs, h1, .inr h2, h3⟩
theorem Rps.ints {K : PySem.W.Frag} {G : Hp} : ∀ {ns : List Int} {xs : List V}, Rps K G (ns.map D.int) xs → xs = ns.map V.int
  | [], _, h => by simpa only [List.map_nil, Rps] using h
  | n :: ns, _, h => by
    simp only [List.map_cons, Rps, Rp] at h
    obtain ⟨v, vs, rfl, rfl, h3⟩ := h
    rw [Rps.ints h3]; rfl
theorem Rps.of_ints {K : PySem.W.Frag} {G : Hp} : ∀ (ns : List Int), Rps K G (ns.map D.int) (ns.map V.int)
  | [] => by simp only [List.map_nil, Rps]
  | n :: ns => by
    simp only [List.map_cons, Rps, Rp]
    exact ⟨_, _, rfl, rfl, Rps.of_ints ns⟩
theorem Rps.bls {K : PySem.W.Frag} {G : Hp} : ∀ {ns : List Bool} {xs : List V}, Rps K G (ns.map D.bl) xs → xs = ns.map V.bl
  | [], _, h => by simpa only [List.map_nil, Rps] using h
  | n :: ns, _, h => by
    simp only [List.map_cons, Rps, Rp] at h
    obtain ⟨v, vs, rfl, rfl, h3⟩ := h
    rw [Rps.bls h3]; rfl
theorem Rps.strs {K : PySem.W.Frag} {G : Hp} : ∀ {ns : List Str} {xs : List V}, Rps K G (ns.map D.str) xs → xs = ns.map V.str
  | [], _, h => by simpa only [List.map_nil, Rps] using h
  | n :: ns, _, h => by
    simp only [List.map_cons, Rps, Rp] at h
    obtain ⟨v, vs, rfl, rfl, h3⟩ := h
    rw [Rps.strs h3]; rfl
theorem Rps.of_strs {K : PySem.W.Frag} {G : Hp} : ∀ (ns : List Str), Rps K G (ns.map D.str) (ns.map V.str)
  | [] => by simp only [List.map_nil, Rps]
  | n :: ns => by
    simp only [List.map_cons, Rps, Rp]
    exact ⟨_, _, rfl, rfl, Rps.of_strs ns⟩
theorem atI_rps {K : PySem.W.Frag} {G : Hp} {ds : List D} {xs : List V} {i : Int} {d : D} (h : Rps K G ds xs) (e : atI ds i = some d) : ∃ v, atI xs i = some v ∧ Rp K G d v := by
  unfold atI at e ⊢
  rw [h.length]
  cases q : ixN ds.length i with
  | none => rw [q] at e; cases e
  | some j =>
    rw [q] at e
    obtain ⟨v, h1, h2⟩ := h.get (i := j) e
    exact ⟨v, h1, h2⟩

section
variable {X : Cx} {m : Md} {N : List Str} {sc fs : Scope} {k : Nat} {env : Ev} {a b c e : Expr} {es : List Expr} {pos : Pos}
/-! ### arguments, displays -/
theorem as_nil : As X env [] [] := .mk fun H0 σ G H s E Q g => WA.of pa_nil (g [] G H (Ex2.refl s) (by simp only [Rps]))
theorem as_cons {d : D} {ds : List D} (ha : P X env e (.per d)) (hr : As X env es ds) (hs : ∀ en, starEach (e :: es) en = (false, eval e en) :: starEach es en := by intro _; rfl) : As X env (e :: es) (d :: ds) := .mk fun H0 σ G H s E Q g =>
  WA.of (pa_cons pWE pWA (hs _)) (ha.go s E fun v G1 H1 x1 r1 => hr.run H0 σ G1 H1 x1.s (E.later x1) _ fun vs G2 H2 x2 r2 => g _ G2 H2 (x1.trans x2) (by
    simp only [Rps]
    exact ⟨v, vs, rfl, r1.mono x2.g, r2⟩))
/-- what is known of every state: lists have their bound -/
theorem sz_list {pins : List (Addr × Obj)} {s : Shared} {σ : St} {H : Hp} {p : Addr} {xs : List V} (I : Inv X pins σ H s) (h : SqL X.K H p xs) : xs.length ≤ sizeLine := by
  obtain ⟨_, _, _, q⟩ := I.list h
  exact q
theorem p_tup {ds : List D} {x1 : Nat} (h : As X env es ds) (hz : ds.length ≤ 1000) : P X env (.Tuple es x1 pos) (.per (.tup ds)) := .mk fun H0 σ G H s E Q g =>
  WE.of (pe_tup pWA) (h.run H0 σ G H s E _ fun vs G1 H1 x1 r1 => ⟨by rw [r1.length]; exact Nat.le_trans hz (by decide), fun p hp => (g.trans x1).tup x1.s r1 hp⟩)
theorem p_lst {ds : List D} (h : As X env es ds) (hz : ds.length ≤ 1000) : P X env (.List es pos) (.lst (ds.map Ow.per)) := .mk fun H0 σ G H s E Q g =>
  WE.of (pe_lst pWA) (h.run H0 σ G H s E _ fun vs G1 H1 x1 r1 => ⟨by rw [r1.length]; exact Nat.le_trans hz (by decide), fun p hp => (g.trans x1).lst x1.s r1 hp⟩)
/-! ### built-ins -/
def bltB (x : Str) (id : String) : Bool := decide (bootBuiltins x = some (.builtin id)) && (decide (x ≠ "__name__") && !(x == ("__debug__" : Str)))
def bltT (x : Str) (id : String) : Bool := decide (bootBuiltins x = some (.type id)) && (decide (x ≠ "__name__") && !(x == ("__debug__" : Str)))
theorem p_callB (hX : Cs X m N sc fs k) {r : List V → Hp → VK → Prop} {x : Str} {id : String} {p : Pos} {ds : List D} {o : Ow} (hc : CallR X (.builtin id) r) (hg : gloB sc x = true) (hm : m.mg x = none) (hb : bltB x id = true) (ha : As X env (e :: es) ds)
    (hr : ∀ G H vs Q, Sub G H → Rps X.K G ds vs → Gv X.K G H o Q → r vs H Q)
    (he : ∀ en, starEach (e :: es) en = (false, eval e en) :: starEach es en := by intro _; rfl) (hpl : ∀ en, (backTo pos (starEach es en)).any (·.1) = false := by intro _; rfl) : P X env (.Call (.Name x p) (e :: es) [] pos) o := .mk fun H0 σ G H s E Q g => by
  obtain ⟨b1, b2⟩ := Bool.and_eq_true_iff.mp hb
  obtain ⟨b2, b3⟩ := Bool.and_eq_true_iff.mp b2
  refine WE.of (pe_callB hc (hX.gl hg) (by rw [hX.hM]; exact hm) (of_decide_eq_true b1) pWA (of_decide_eq_true b2) (by simpa using b3) (he _) (hpl _)) ?_
  exact ha.run H0 σ G H s E _ fun vs G1 H1 x1 r1 => hr G1 H1 vs Q x1.s r1 (g.trans x1)
theorem p_callT (hX : Cs X m N sc fs k) {r : List V → Hp → VK → Prop} {x : Str} {id : String} {p : Pos} {ds : List D} {o : Ow} (hc : CallR X (.type id) r) (hg : gloB sc x = true) (hm : m.mg x = none) (hb : bltT x id = true) (ha : As X env (e :: es) ds)
    (hr : ∀ G H vs Q, Sub G H → Rps X.K G ds vs → Gv X.K G H o Q → r vs H Q)
    (he : ∀ en, starEach (e :: es) en = (false, eval e en) :: starEach es en := by intro _; rfl) (hpl : ∀ en, (backTo pos (starEach es en)).any (·.1) = false := by intro _; rfl) : P X env (.Call (.Name x p) (e :: es) [] pos) o := .mk fun H0 σ G H s E Q g => by
  obtain ⟨b1, b2⟩ := Bool.and_eq_true_iff.mp hb
  obtain ⟨b2, b3⟩ := Bool.and_eq_true_iff.mp b2
  refine WE.of (pe_callTy hc (hX.gl hg) (by rw [hX.hM]; exact hm) (of_decide_eq_true b1) pWA (of_decide_eq_true b2) (by simpa using b3) (he _) (hpl _)) ?_
  exact ha.run H0 σ G H s E _ fun vs G1 H1 x1 r1 => hr G1 H1 vs Q x1.s r1 (g.trans x1)
theorem rps1 {K : PySem.W.Frag} {G : Hp} {d : D} {vs : List V} (h : Rps K G [d] vs) : ∃ v, vs = [v] ∧ Rp K G d v := by
  simp only [Rps] at h
  obtain ⟨v, _, rfl, h1, rfl⟩ := h
  exact ⟨v, rfl, h1⟩
theorem rps2 {K : PySem.W.Frag} {G : Hp} {d d' : D} {vs : List V} (h : Rps K G [d, d'] vs) : ∃ v v', vs = [v, v'] ∧ Rp K G d v ∧ Rp K G d' v' := by
  simp only [Rps] at h
  obtain ⟨v, _, rfl, h1, v', _, rfl, h2, rfl⟩ := h
  exact ⟨v, v', rfl, h1, h2⟩
/-- a type's name, as a value -/
theorem p_ty (hX : Cs X m N sc fs k) {x : Str} {id : String} {p : Pos} (hg : gloB sc x = true) (hm : m.mg x = none) (hb : bltT x id = true) : P X env (.Name x p) (.per (.ty id)) := .mk fun H0 σ G H s E Q g => by
  obtain ⟨b1, b2⟩ := Bool.and_eq_true_iff.mp hb
  obtain ⟨b2, b3⟩ := Bool.and_eq_true_iff.mp b2
  exact WE.of (pe_bltn (v := .ty id) (hX.gl hg) (by rw [hX.hM]; exact hm) (of_decide_eq_true b1) rfl (of_decide_eq_true b2) (by simpa using b3)) (g.val s (by simp only [Rp]))
theorem p_len (hX : Cs X m N sc fs k) {p : Pos} {d : D} {ds : List D} (i : IsS d ds) (hg : gloB sc "len" = true) (hm : m.mg "len" = none) (ha : P X env e (.per d)) (he : ∀ en, starEach [e] en = [(false, eval e en)] := by intro _; rfl) : P X env (.Call (.Name "len" p) [e] [] pos) (.per (.int ds.length)) :=
  p_callB hX call_len_seq hg hm (by decide +kernel) (as_cons ha as_nil he) (fun G H vs Q s r g => by
    obtain ⟨v, rfl, r1⟩ := rps1 r
    obtain ⟨a, xs, rfl, h2, h3⟩ := i.seq r1
    refine ⟨a, xs, rfl, ?_, ?_⟩
    · rcases h2 with h2 | h2
      · exact .inl (sub_sqL s h2)
      · exact .inr (sub_sqT s h2)
    · rw [h3.length]; exact g.val s (by simp only [Rp])) he
theorem p_lenS (hX : Cs X m N sc fs k) {p : Pos} {z : Str} (hz : z.length ≤ sizeLine) (hg : gloB sc "len" = true) (hm : m.mg "len" = none) (ha : P X env e (.per (.str z))) (he : ∀ en, starEach [e] en = [(false, eval e en)] := by intro _; rfl) : P X env (.Call (.Name "len" p) [e] [] pos) (.per (.int z.length)) :=
  p_callB hX call_len_str hg hm (by decide +kernel) (as_cons ha as_nil he) (fun G H vs Q s r g => by
    obtain ⟨v, rfl, r1⟩ := rps1 r
    simp only [Rp] at r1
    exact ⟨z, by rw [r1], hz, g.val s (by simp only [Rp])⟩) he
theorem p_sum (hX : Cs X m N sc fs k) {p : Pos} {d : D} {ns : List Int} (i : IsL d (ns.map D.int)) (hg : gloB sc "sum" = true) (hm : m.mg "sum" = none) (ha : P X env e (.per d)) (he : ∀ en, starEach [e] en = [(false, eval e en)] := by intro _; rfl) : P X env (.Call (.Name "sum" p) [e] [] pos) (.per (.int ns.sum)) :=
  p_callB hX (cr_sum hX.calm) hg hm (by decide +kernel) (as_cons ha as_nil he) (fun G H vs Q s r g => by
    obtain ⟨v, rfl, r1⟩ := rps1 r
    obtain ⟨a, xs, rfl, h2, h3⟩ := i.seq r1
    rw [h3.ints] at h2
    exact ⟨a, ns, rfl, sub_sqL s h2, g.val s (by simp only [Rp])⟩) he
theorem p_all (hX : Cs X m N sc fs k) {p : Pos} {d : D} {bs : List Bool} (i : IsL d (bs.map D.bl)) (hg : gloB sc "all" = true) (hm : m.mg "all" = none) (ha : P X env e (.per d)) (he : ∀ en, starEach [e] en = [(false, eval e en)] := by intro _; rfl) : P X env (.Call (.Name "all" p) [e] [] pos) (.per (.bl (bs.all id))) :=
  p_callB hX (cr_all hX.calm) hg hm (by decide +kernel) (as_cons ha as_nil he) (fun G H vs Q s r g => by
    obtain ⟨v, rfl, r1⟩ := rps1 r
    obtain ⟨a, xs, rfl, h2, h3⟩ := i.seq r1
    rw [h3.bls] at h2
    exact ⟨a, bs, rfl, sub_sqL s h2, g.val s (by simp only [Rp])⟩) he
theorem p_any (hX : Cs X m N sc fs k) {p : Pos} {d : D} {bs : List Bool} (i : IsL d (bs.map D.bl)) (hg : gloB sc "any" = true) (hm : m.mg "any" = none) (ha : P X env e (.per d)) (he : ∀ en, starEach [e] en = [(false, eval e en)] := by intro _; rfl) : P X env (.Call (.Name "any" p) [e] [] pos) (.per (.bl (bs.any id))) :=
  p_callB hX (cr_any hX.calm) hg hm (by decide +kernel) (as_cons ha as_nil he) (fun G H vs Q s r g => by
    obtain ⟨v, rfl, r1⟩ := rps1 r
    obtain ⟨a, xs, rfl, h2, h3⟩ := i.seq r1
    rw [h3.bls] at h2
    exact ⟨a, bs, rfl, sub_sqL s h2, g.val s (by simp only [Rp])⟩) he
theorem p_min2 (hX : Cs X m N sc fs k) {p : Pos} {i j : Int} (hg : gloB sc "min" = true) (hm : m.mg "min" = none) (ha : P X env a (.per (.int i))) (hb : P X env b (.per (.int j)))
    (he : ∀ en, starEach [a, b] en = [(false, eval a en), (false, eval b en)] := by intro _; rfl) (he2 : ∀ en, starEach [b] en = [(false, eval b en)] := by intro _; rfl) : P X env (.Call (.Name "min" p) [a, b] [] pos) (.per (.int (if j < i then j else i))) :=
  p_callB hX (call_min2 hX.calm) hg hm (by decide +kernel) (as_cons ha (as_cons hb as_nil he2) (fun en => by rw [he, he2])) (fun G H vs Q s r g => by
    obtain ⟨v, v', rfl, r1, r2⟩ := rps2 r
    simp only [Rp] at r1 r2
    exact ⟨i, j, by rw [r1, r2], g.val s (by simp only [Rp])⟩) (fun en => by rw [he, he2]) (fun en => by rw [he2]; rfl)
theorem p_max2 (hX : Cs X m N sc fs k) {p : Pos} {i j : Int} (hg : gloB sc "max" = true) (hm : m.mg "max" = none) (ha : P X env a (.per (.int i))) (hb : P X env b (.per (.int j)))
    (he : ∀ en, starEach [a, b] en = [(false, eval a en), (false, eval b en)] := by intro _; rfl) (he2 : ∀ en, starEach [b] en = [(false, eval b en)] := by intro _; rfl) : P X env (.Call (.Name "max" p) [a, b] [] pos) (.per (.int (if j > i then j else i))) :=
  p_callB hX (call_max2 hX.calm) hg hm (by decide +kernel) (as_cons ha (as_cons hb as_nil he2) (fun en => by rw [he, he2])) (fun G H vs Q s r g => by
    obtain ⟨v, v', rfl, r1, r2⟩ := rps2 r
    simp only [Rp] at r1 r2
    exact ⟨i, j, by rw [r1, r2], g.val s (by simp only [Rp])⟩) (fun en => by rw [he, he2]) (fun en => by rw [he2]; rfl)
theorem p_intB (hX : Cs X m N sc fs k) {p : Pos} {q : Bool} (hg : gloB sc "int" = true) (hm : m.mg "int" = none) (ha : P X env e (.per (.bl q))) (he : ∀ en, starEach [e] en = [(false, eval e en)] := by intro _; rfl) : P X env (.Call (.Name "int" p) [e] [] pos) (.per (.int (if q then 1 else 0))) :=
  p_callT hX call_int1 hg hm (by decide +kernel) (as_cons ha as_nil he) (fun G H vs Q s r g => by
    obtain ⟨v, rfl, r1⟩ := rps1 r
    simp only [Rp] at r1
    exact .inr ⟨q, by rw [r1], g.val s (by simp only [Rp])⟩) he
theorem p_intS (hX : Cs X m N sc fs k) {p : Pos} {z : Str} {n : Int} (hn : PySem.intText? z = some n) (hz : z.length ≤ 640) (hg : gloB sc "int" = true) (hm : m.mg "int" = none) (ha : P X env e (.per (.str z))) (he : ∀ en, starEach [e] en = [(false, eval e en)] := by intro _; rfl) : P X env (.Call (.Name "int" p) [e] [] pos) (.per (.int n)) :=
  p_callT hX call_int_str hg hm (by decide +kernel) (as_cons ha as_nil he) (fun G H vs Q s r g => by
    obtain ⟨v, rfl, r1⟩ := rps1 r
    simp only [Rp] at r1
    exact ⟨z, n, by rw [r1], hn, hz, g.val s (by simp only [Rp])⟩) he
theorem p_strI (hX : Cs X m N sc fs k) {p : Pos} {i : Int} (hi : i.natAbs.log2 < 1920) (hg : gloB sc "str" = true) (hm : m.mg "str" = none) (ha : P X env e (.per (.int i))) (he : ∀ en, starEach [e] en = [(false, eval e en)] := by intro _; rfl) : P X env (.Call (.Name "str" p) [e] [] pos) (.per (.str (toString i))) :=
  p_callT hX call_str_int hg hm (by decide +kernel) (as_cons ha as_nil he) (fun G H vs Q s r g => by
    obtain ⟨v, rfl, r1⟩ := rps1 r
    simp only [Rp] at r1
    exact ⟨i, by rw [r1], hi, g.val s (by simp only [Rp])⟩) he
theorem p_list (hX : Cs X m N sc fs k) {p : Pos} {d : D} {ds : List D} (i : IsS d ds) (hg : gloB sc "list" = true) (hm : m.mg "list" = none) (ha : P X env e (.per d)) (he : ∀ en, starEach [e] en = [(false, eval e en)] := by intro _; rfl) : P X env (.Call (.Name "list" p) [e] [] pos) (.lst (ds.map Ow.per)) :=
  p_callT hX call_list_of hg hm (by decide +kernel) (as_cons ha as_nil he) (fun G H vs Q s r g => by
    obtain ⟨v, rfl, r1⟩ := rps1 r
    obtain ⟨a, xs, rfl, h2, h3⟩ := i.seq r1
    refine ⟨a, xs, rfl, ?_, fun l hl => g.lst s h3 hl⟩
    rcases h2 with h2 | h2
    · exact .inl (sub_sqL s h2)
    · exact .inr (sub_sqT s h2)) he
theorem p_tupleL (hX : Cs X m N sc fs k) {p : Pos} {d : D} {ds : List D} (i : IsL d ds) (hg : gloB sc "tuple" = true) (hm : m.mg "tuple" = none) (ha : P X env e (.per d)) (he : ∀ en, starEach [e] en = [(false, eval e en)] := by intro _; rfl) : P X env (.Call (.Name "tuple" p) [e] [] pos) (.per (.tup ds)) :=
  p_callT hX call_tuple_of hg hm (by decide +kernel) (as_cons ha as_nil he) (fun G H vs Q s r g => by
    obtain ⟨v, rfl, r1⟩ := rps1 r
    obtain ⟨a, xs, rfl, h2, h3⟩ := i.seq r1
    exact ⟨a, xs, rfl, .inl ⟨sub_sqL s h2, fun l hl => g.tup s h3 hl⟩⟩) he
/-! ### isinstance -/
def tyN : D → Option String
  | .non => some "NoneType" | .bl _ => some "bool" | .int _ => some "int" | .str _ => some "str" | .lst _ => some "list" | .fz _ => some "list" | .tup _ => some "tuple" | .ft _ => some "tuple" | .dK _ _ => some "dict"  | _ => none
theorem tyX_of {K : PySem.W.Frag} {G H : Hp} {d : D} {v : V} {n : String} (s : Sub G H) (h : Rp K G d v) (e : tyN d = some n) : TyX K H v (.type n) := by
  cases d with
  | non => simp only [Rp] at h; cases e; subst h; exact .base .non
  | bl b => simp only [Rp] at h; cases e; subst h; exact .base (.bl b)
  | int b => simp only [Rp] at h; cases e; subst h; exact .base (.int b)
  | str b => simp only [Rp] at h; cases e; subst h; exact .base (.str b)
  | lst ds =>
    simp only [Rp] at h; cases e
    obtain ⟨a, xs, rfl, h2, h3⟩ := h
    exact .base (.lst (s _ _ h2))
  | fz ds =>
    simp only [Rp] at h; cases e
    obtain ⟨a, xs, rfl, h2, h3⟩ := h
    rcases h2 with (h2 | ⟨o, h2⟩) | ⟨o, its, nn, h2, hc, _⟩
    · exact .base (.lst (s _ _ h2))
    · exact .base (.frz (s _ _ h2))
    · exact .kList h2 hc
  | tup ds =>
    simp only [Rp] at h; cases e
    obtain ⟨a, xs, rfl, h2, h3⟩ := h
    exact .base (.tup (s _ _ h2))
  | ft ds =>
    simp only [Rp] at h; cases e
    obtain ⟨a, xs, rfl, h2, h3⟩ := h
    rcases h2 with (h2 | ⟨o, h2⟩) | ⟨o, its, nn, h2, hc, _⟩
    · exact .base (.tup (s _ _ h2))
    · exact .fTuple (s _ _ h2)
    · exact .kTuple h2 hc
  | dK ks ds =>
    simp only [Rp] at h; cases e
    obtain ⟨a, xs, rfl, h2, h4, h3⟩ := h
    rcases h2 with h2 | ⟨o, h2⟩
    · exact .base (.dK (s _ _ h2))
    · exact .fDict (s _ _ h2)
  | _ => cases e
theorem p_isi (hX : Cs X m N sc fs k) {p : Pos} {d : D} {t n : String} {q : Bool} (ht : tyN d = some t) (hk : kitB t n = some q) (hg : gloB sc "isinstance" = true) (hm : m.mg "isinstance" = none) (ha : P X env a (.per d)) (hb : P X env b (.per (.ty n)))
    (he : ∀ en, starEach [a, b] en = [(false, eval a en), (false, eval b en)] := by intro _; rfl) (he2 : ∀ en, starEach [b] en = [(false, eval b en)] := by intro _; rfl) : P X env (.Call (.Name "isinstance" p) [a, b] [] pos) (.per (.bl q)) :=
  p_callB hX call_isi hg hm (by decide +kernel) (as_cons ha (as_cons hb as_nil he2) (fun en => by rw [he, he2])) (fun G H vs Q s r g => by
    obtain ⟨v, v', rfl, r1, r2⟩ := rps2 r
    have ty := tyX_of s r1 ht
    simp only [Rp] at r2
    subst r2
    exact ⟨v, .ty n, .type t, .type n, q, rfl, .ty n, ty, kit_ty hk, g.val s (by simp only [Rp])⟩) (fun en => by rw [he, he2]) (fun en => by rw [he2]; rfl)
/-! ### subscripts -/
theorem p_ixL {d : D} {ds : List D} {i : Int} {r : D} (hl : IsL d ds) (hr : atI ds i = some r) (ha : P X env a (.per d)) (hb : P X env b (.per (.int i))) (hs : PlainIx b := by intro _ _; rfl) : P X env (.Subscript a b pos) (.per r) := .mk fun H0 σ G H s E Q g =>
  WE.of (pe_ix ix_list pWE pWE hs) (ha.go s E fun x G1 H1 x1 r1 => hb.go x1.s (E.later x1) fun y G2 H2 x2 r2 => by
    obtain ⟨p, xs, rfl, h2, h3⟩ := hl.seq (r1.mono x2.g)
    obtain ⟨v, h4, h5⟩ := atI_rps h3 hr
    simp only [Rp] at r2
    exact ⟨p, xs, i, v, rfl, r2, sub_sqL x2.s h2, h4, (g.trans (x1.trans x2)).val x2.s h5⟩)
theorem p_ixT {dd : D} {ds : List D} {i : Int} {r : D} (hl : IsT dd ds) (hr : atI ds i = some r) (ha : P X env a (.per dd)) (hb : P X env b (.per (.int i))) (hs : PlainIx b := by intro _ _; rfl) : P X env (.Subscript a b pos) (.per r) := .mk fun H0 σ G H s E Q g =>
  WE.of (pe_ix ix_tup pWE pWE hs) (ha.go s E fun x G1 H1 x1 r1 => hb.go x1.s (E.later x1) fun y G2 H2 x2 r2 => by
    have r1' := r1.mono x2.g
    simp only [Rp] at r2
    obtain ⟨p, xs, rfl, h2, h3⟩ := hl.seq r1'
    obtain ⟨v, h4, h5⟩ := atI_rps h3 hr
    exact ⟨p, xs, i, v, rfl, r2, sub_sqT x2.s h2, h4, (g.trans (x1.trans x2)).val x2.s h5⟩)
theorem p_ixS {z : Str} {i : Int} {c' : Nat} (hz : z.length ≤ sizeLine) (hr : atI z.cps.toList i = some c') (ha : P X env a (.per (.str z))) (hb : P X env b (.per (.int i))) (hs : PlainIx b := by intro _ _; rfl) : P X env (.Subscript a b pos) (.per (.str ⟨#[c']⟩)) := .mk fun H0 σ G H s E Q g =>
  WE.of (pe_ix ix_str pWE pWE hs) (ha.go s E fun x G1 H1 x1 r1 => hb.go x1.s (E.later x1) fun y G2 H2 x2 r2 => by
    simp only [Rp] at r1 r2
    exact ⟨z, i, c', r1, r2, hz, hr, (g.trans (x1.trans x2)).val x2.s (by simp only [Rp])⟩)
/-- a part of a slice -/
def Pt (X : Cx) (env : Ev) : Option Expr → Option Int → Prop
  | none, none => True
  | some e, some i => P X env e (.per (.int i))
  | _, _ => False
def WO (X : Cx) : Option Expr → TO
  | none => tNoPart
  | some e => tPart (WE X e)
theorem pWO : ∀ {o : Option Expr}, PO X o (WO X o)
  | none => po_none
  | some e => po_some pWE
theorem Pt.go {H0 : Hp} {σ : St} {G H : Hp} {Q : Option Int → Hp → Prop} (s : Sub G H) (E : En X.K H0 G H σ env) : ∀ {o : Option Expr} {i : Option Int}, Pt X env o i → (∀ G' H', Ex2 G H G' H' → Q i H') → WO X o σ H Q
  | none, none, _, k => k G H (Ex2.refl s)
  | some e, some i, h, k => P.go h s E fun v G' H' x r => by
    simp only [Rp] at r
    exact ⟨i, r, k G' H' x⟩
  | none, some _, h, _ => h.elim
  | some _, none, h, _ => h.elim
def cutD (ds : List D) (lo hi : Option Int) : List D := (ds.drop (HT.sIx ds.length 0 lo)).take (HT.sIx ds.length ds.length hi - HT.sIx ds.length 0 lo)
theorem cut_rps {K : PySem.W.Frag} {G : Hp} {ds : List D} {xs : List V} {lo hi : Option Int} (h : Rps K G ds xs) : Rps K G (cutD ds lo hi) (cutV xs lo hi) := by
  unfold cutD cutV
  rw [h.length]
  exact (h.drop _).take _
theorem p_slL {d : D} {ds : List D} {lo hi : Option Expr} {i j : Option Int} {p2 : Pos} (hl : IsL d ds) (ha : P X env a (.per d)) (h1 : Pt X env lo i) (h2 : Pt X env hi j) : P X env (.Subscript a (.Slice lo hi none p2) pos) (.lst ((cutD ds i j).map Ow.per)) := .mk fun H0 σ G H s E Q g =>
  WE.of (pe_slice sl_list pWE pWO pWO) (ha.go s E fun x G1 H1 x1 r1 => h1.go x1.s (E.later x1) fun G2 H2 x2 => h2.go x2.s (E.later (x1.trans x2)) fun G3 H3 x3 => by
    obtain ⟨p, xs, rfl, h4, h5⟩ := hl.seq (r1.mono (x2.trans x3).g)
    exact ⟨p, xs, rfl, sub_sqL x3.s h4, fun q hq => ((g.trans (x1.trans (x2.trans x3)))).lst x3.s (cut_rps h5) hq⟩)
theorem p_slS {z : Str} {lo hi : Option Expr} {i j : Option Int} {p2 : Pos} (hz : z.length ≤ sizeLine) (ha : P X env a (.per (.str z))) (h1 : Pt X env lo i) (h2 : Pt X env hi j) : P X env (.Subscript a (.Slice lo hi none p2) pos) (.per (.str (cutS z i j))) := .mk fun H0 σ G H s E Q g =>
  WE.of (pe_slice sl_str pWE pWO pWO) (ha.go s E fun x G1 H1 x1 r1 => h1.go x1.s (E.later x1) fun G2 H2 x2 => h2.go x2.s (E.later (x1.trans x2)) fun G3 H3 x3 => by
    simp only [Rp] at r1
    exact ⟨z, r1, hz, ((g.trans (x1.trans (x2.trans x3)))).val x3.s (by simp only [Rp])⟩)
/-! ### lists, texts put together -/
theorem p_cat {ds es' : List D} (hz : ds.length + es'.length ≤ sizeLine) (ha : P X env a (.per (.lst ds))) (hb : P X env b (.per (.lst es'))) : P X env (.BinOp a .Add b pos) (.lst ((ds ++ es').map Ow.per)) :=
  p_op op_cat ha hb fun G H x y Q s h1 h2 g => by
    simp only [Rp] at h1 h2
    obtain ⟨p, xs, rfl, h3, h4⟩ := h1
    obtain ⟨q, ys, rfl, h5, h6⟩ := h2
    exact ⟨p, q, xs, ys, rfl, rfl, s _ _ h3, s _ _ h5, by rw [h4.length, h6.length]; exact hz, fun r hr => g.lst s (h4.append h6) hr⟩
theorem p_addS {x y : Str} (hz : x.length + y.length ≤ sizeLine) (ha : P X env a (.per (.str x))) (hb : P X env b (.per (.str y))) : P X env (.BinOp a .Add b pos) (.per (.str (x ++ y))) :=
  p_op op_add_str ha hb fun G H v w Q s h1 h2 g => by
    simp only [Rp] at h1 h2
    exact ⟨x, y, h1, h2, hz, g.val s (by simp only [Rp])⟩
theorem Rps.rep {K : PySem.W.Frag} {G : Hp} {ds : List D} {xs : List V} (h : Rps K G ds xs) : ∀ n : Nat, Rps K G (List.replicate n ds).flatten (List.replicate n xs).flatten
  | 0 => by simp only [List.replicate_zero, List.flatten_nil, Rps]
  | n + 1 => by
    simp only [List.replicate_succ, List.flatten_cons]
    exact h.append (Rps.rep h n)
/-! ### is None, in -/
theorem p_isN {d : D} {q : Bool} {j : Nat} {p' : Pos} (hq : q = match d with | .non => true | _ => false) (ha : P X env a (.per d)) : P X env (.Compare a [.Is] [.Constant .none j p'] pos) (.per (.bl q)) :=
  p_cmp op_isN ha p_non (fun G H x y Q s h1 h2 g => by
    simp only [Rp] at h2
    refine ⟨h2, ?_⟩
    have e : decide (x = V.non) = q := by
      rw [hq]
      cases d <;> (try simp only [Rp] at h1) <;> (try (subst h1; rfl)) <;> (obtain ⟨_, h1⟩ := h1; first | (obtain ⟨_, rfl, _⟩ := h1; rfl) | (obtain ⟨_, _, rfl, _⟩ := h1; rfl))
    rw [e]
    exact g.val s (by simp only [Rp])) (nomark _)
theorem p_notN {d : D} {q : Bool} {j : Nat} {p' : Pos} (hq : q = match d with | .non => false | _ => true) (ha : P X env a (.per d)) : P X env (.Compare a [.IsNot] [.Constant .none j p'] pos) (.per (.bl q)) :=
  p_cmp op_notN ha p_non (fun G H x y Q s h1 h2 g => by
    simp only [Rp] at h2
    refine ⟨h2, ?_⟩
    have e : (!decide (x = V.non)) = q := by
      rw [hq]
      cases d <;> (try simp only [Rp] at h1) <;> (try (subst h1; rfl)) <;> (obtain ⟨_, h1⟩ := h1; first | (obtain ⟨_, rfl, _⟩ := h1; rfl) | (obtain ⟨_, _, rfl, _⟩ := h1; rfl))
    rw [e]
    exact g.val s (by simp only [Rp])) (nomark _)
/-- one sign in a text -/
theorem p_inSign {c' : Nat} {z : Str} (ha : P X env a (.per (.str ⟨#[c']⟩))) (hb : P X env b (.per (.str z))) (hm : behindInMarks .In b = false := by rfl) : P X env (.Compare a [.In] [b] pos) (.per (.bl (decide (c' ∈ z.cps.toList)))) :=
  p_cmp op_in_sign ha hb (fun G H x y Q s h1 h2 g => by
    simp only [Rp] at h1 h2
    exact ⟨c', z, h1, h2, g.val s (by simp only [Rp])⟩) hm
theorem p_notInSign {c' : Nat} {z : Str} (ha : P X env a (.per (.str ⟨#[c']⟩))) (hb : P X env b (.per (.str z))) (hm : behindInMarks .NotIn b = false := by rfl) : P X env (.Compare a [.NotIn] [b] pos) (.per (.bl (!decide (c' ∈ z.cps.toList)))) :=
  p_cmp op_notIn_sign ha hb (fun G H x y Q s h1 h2 g => by
    simp only [Rp] at h1 h2
    exact ⟨c', z, h1, h2, g.val s (by simp only [Rp])⟩) hm
/-! ### and, or, not, if else -/
theorem p_not {q : Bool} (ha : P X env a (.per (.bl q))) : P X env (.UnaryOp .Not a pos) (.per (.bl (!q))) := .mk fun H0 σ G H s E Q g =>
  WE.of (pe_not pWE) (ha.go s E fun x G1 H1 x1 r1 => by
    simp only [Rp] at r1
    exact ⟨q, r1, (g.trans x1).val x1.s (by simp only [Rp])⟩)
theorem p_one {op : BoolOp} {o : Ow} (ha : P X env a o) : P X env (.BoolOp op [a] pos) o := .mk fun H0 σ G H s E Q g => WE.of (pe_one pWE) (ha.run H0 σ G H s E Q g)
theorem p_and {q r : Bool} (ha : P X env a (.per (.bl q))) (hb : q = true → P X env (.BoolOp .And (b :: es) pos) (.per (.bl r))) : P X env (.BoolOp .And (a :: b :: es) pos) (.per (.bl (q && r))) := .mk fun H0 σ G H s E Q g =>
  WE.of (pe_and pWE pWE) (ha.go s E fun x G1 H1 x1 r1 => by
    simp only [Rp] at r1
    refine ⟨q, r1, ?_⟩
    cases q with
    | true => exact iteT ((hb rfl).run H0 σ G1 H1 x1.s (E.later x1) Q (by simpa using g.trans x1))
    | false => exact iteF ((g.trans x1).val x1.s (by simp [Rp])))
theorem p_or {q r : Bool} (ha : P X env a (.per (.bl q))) (hb : q = false → P X env (.BoolOp .Or (b :: es) pos) (.per (.bl r))) : P X env (.BoolOp .Or (a :: b :: es) pos) (.per (.bl (q || r))) := .mk fun H0 σ G H s E Q g =>
  WE.of (pe_or pWE pWE) (ha.go s E fun x G1 H1 x1 r1 => by
    simp only [Rp] at r1
    refine ⟨q, r1, ?_⟩
    cases q with
    | false => exact iteF ((hb rfl).run H0 σ G1 H1 x1.s (E.later x1) Q (by simpa using g.trans x1))
    | true => exact iteT ((g.trans x1).val x1.s (by simp [Rp])))
/-- .. of whatever the right one is worth, by the left one -/
theorem p_andO {o : Ow} {q : Bool} (ha : P X env a (.per (.bl q))) (h1 : q = true → P X env (.BoolOp .And (b :: es) pos) o) (h2 : q = false → o = .per (.bl false)) : P X env (.BoolOp .And (a :: b :: es) pos) o := .mk fun H0 σ G H s E Q g =>
  WE.of (pe_and pWE pWE) (ha.go s E fun x G1 H1 x1 r1 => by
    simp only [Rp] at r1
    refine ⟨q, r1, ?_⟩
    cases q with
    | true => exact iteT ((h1 rfl).run H0 σ G1 H1 x1.s (E.later x1) Q (g.trans x1))
    | false =>
      have g' := g.trans x1
      rw [h2 rfl] at g'
      exact iteF (g'.val x1.s (by simp only [Rp])))
theorem p_if {q : Bool} {o : Ow} (hc : T X env c q) (ha : q = true → P X env a o) (hb : q = false → P X env b o) : P X env (.IfExp c a b pos) o := .mk fun H0 σ G H s E Q g =>
  WE.of (pe_ifExp pWT pWE pWE) (hc.run H0 σ G H s E _ fun G1 H1 x1 => by
    cases q with
    | true => exact iteT ((ha rfl).run H0 σ G1 H1 x1.s (E.later x1) Q (g.trans x1))
    | false => exact iteF ((hb rfl).run H0 σ G1 H1 x1.s (E.later x1) Q (g.trans x1)))
/-! ### tests -/
theorem t_val {q : Bool} (h : P X env e (.per (.bl q))) (he : ∀ en whole, isTrue e en whole = (do let v ← whole; standAt e.pos; holding [v] (truthy v)) := by intro _ _; rfl) : T X env e q := .mk fun H0 σ G H s E Q g =>
  WT.of (pt_val pWE (he _)) (h.go s E fun x G1 H1 x1 r1 => by
    simp only [Rp] at r1
    exact ⟨q, r1, g G1 H1 x1⟩)
theorem t_not {q : Bool} (h : T X env e q) : T X env (.UnaryOp .Not e pos) (!q) := .mk fun H0 σ G H s E Q g => WT.of (pt_not pWT) (h.run H0 σ G H s E _ fun G1 H1 x1 => g G1 H1 x1)
/-- and, or: whatever the whole -/
structure TW (X : Cx) (env : Ev) (e : Expr) (b : Bool) : Prop where
  run : ∀ (H0 : Hp) (σ : St) (G H : Hp), Sub G H → En X.K H0 G H σ env → ∀ Q : Bool → Hp → Prop,
  (∀ G' H', Ex2 G H G' H' → Q b H') → ∀ (whole : Sem Value) (pins : List (Addr × Obj)) (s : Shared), Inv X pins σ H s → wpAny (model X.prog X.w) X.A (isTrue e X.env whole) (TP X pins σ Q) X.xe s
def WW (X : Cx) (e : Expr) : TT := fun σ H Q => ∀ (whole : Sem Value) (pins : List (Addr × Obj)) (s : Shared), Inv X pins σ H s → wpAny (model X.prog X.w) X.A (isTrue e X.env whole) (TP X pins σ Q) X.xe s
theorem pWW : PW X e (WW X e) := ⟨fun wh pins s _ _ _ I h => h wh pins s I⟩
theorem TW.t {q : Bool} (h : TW X env e q) : T X env e q := .mk fun H0 σ G H s E Q g pins sh I => h.run H0 σ G H s E Q g _ pins sh I
theorem tw_and1 {q : Bool} (h : T X env a q) : TW X env (.BoolOp .And [a] pos) q := .mk fun H0 σ G H s E Q g wh pins sh I => (pw_and1 pWT).run wh pins sh σ H Q I (h.run H0 σ G H s E Q g)
theorem tw_or1 {q : Bool} (h : T X env a q) : TW X env (.BoolOp .Or [a] pos) q := .mk fun H0 σ G H s E Q g wh pins sh I => (pw_or1 pWT).run wh pins sh σ H Q I (h.run H0 σ G H s E Q g)
theorem tw_and {q r : Bool} (ha : T X env a q) (hb : q = true → TW X env (.BoolOp .And (b :: es) pos) r) : TW X env (.BoolOp .And (a :: b :: es) pos) (q && r) := .mk fun H0 σ G H s E Q g wh pins sh I =>
  (pw_and pWT pWW).run wh pins sh σ H Q I (ha.run H0 σ G H s E _ fun G1 H1 x1 => by
    cases q with
    | true => exact iteT ((hb rfl).run H0 σ G1 H1 x1.s (E.later x1) Q fun G2 H2 x2 => g G2 H2 (x1.trans x2))
    | false => exact iteF (g G1 H1 x1))
theorem tw_or {q r : Bool} (ha : T X env a q) (hb : q = false → TW X env (.BoolOp .Or (b :: es) pos) r) : TW X env (.BoolOp .Or (a :: b :: es) pos) (q || r) := .mk fun H0 σ G H s E Q g wh pins sh I =>
  (pw_or pWT pWW).run wh pins sh σ H Q I (ha.run H0 σ G H s E _ fun G1 H1 x1 => by
    cases q with
    | false => exact iteF ((hb rfl).run H0 σ G1 H1 x1.s (E.later x1) Q fun G2 H2 x2 => g G2 H2 (x1.trans x2))
    | true => exact iteT (g G1 H1 x1))
end
end Pu

set_option Elab.async false
set_option linter.all false
set_option autoImplicit false
set_option maxRecDepth 100000
set_option maxHeartbeats 1000001
namespace Pu
open PySem L2
/-! ### targets -/
def WG (X : Cx) (tg : Expr) : TG := fun v σ H Q => ∀ (pins : List (Addr × Obj)) (s : Shared) (u : Value), Inv X pins σ H s → RelV v u →
    wpAny (model X.prog X.w) X.A (assign tg X.env u) (fun _ s' => ∃ σ' H', Inv X pins σ' H' s' ∧ Q σ' H') X.xe s
theorem pWG {X : Cx} {tg : Expr} : PG X tg (WG X tg) := ⟨fun pins s _ _ _ u _ I r h => h pins s u I r⟩
theorem WG.of {X : Cx} {tg : Expr} {t : TG} {v : V} {σ : St} {H : Hp} {Q : St → Hp → Prop} (h : PG X tg t) (k : t v σ H Q) : WG X tg v σ H Q := fun pins s u I r => h.run pins s σ H v u Q I r k
/-- only the slots js were set -/
def Wp (js : List Nat) (σ σ' : St) : Prop := ∀ vs : List Nat, (∀ j ∈ js, j ∈ vs) → wipe σ' vs = wipe σ vs
theorem wipe_set {σ : St} {j : Nat} {s : Option V} : ∀ {vs : List Nat}, j ∈ vs → wipe (σ.set j s) vs = wipe σ vs
  | [], h => by cases h
  | v :: vs, h => by
    by_cases e : j ∈ vs
    · simp only [wipe, wipe_set e]
    · have e2 : j = v := by
        rcases List.mem_cons.mp h with q | q
        · exact q
        · exact absurd q e
      subst e2
      simp only [wipe]
      have : ∀ (vs : List Nat) (τ : St), (wipe (τ.set j s) vs).set j none = (wipe τ vs).set j none := by
        intro vs
        induction vs with
        | nil => intro τ; simp [wipe]
        | cons w ws ih =>
          intro τ
          simp only [wipe]
          by_cases q : w = j
          · subst q; rw [ih]
          · rw [List.set_comm none none q, ih, List.set_comm none none (Ne.symm q)]
      exact this vs σ
/-- data given to a target -/
structure Tg (X : Cx) (env : Ev) (tg : Expr) (d : D) (env' : Ev) (js : List Nat) : Prop where
  run : ∀ (H0 G H : Hp) (σ : St) (v : V) (Q : St → Hp → Prop), Sub G H → En X.K H0 G H σ env → Rp X.K G d v →
  (∀ σ', En X.K H0 G H σ' env' → Wp js σ σ' → Q σ' H) → WG X tg v σ H Q
structure Tgs (X : Cx) (env : Ev) (tgs : List Expr) (ds : List D) (env' : Ev) (js : List Nat) : Prop where
  run : ∀ (H0 G H : Hp) (σ : St) (vs : List V) (Q : St → Hp → Prop), Sub G H → En X.K H0 G H σ env → Rps X.K G ds vs →
  (∀ σ', En X.K H0 G H σ' env' → Wp js σ σ' → Q σ' H) → ∃ t : TGs, PGs X tgs t ∧ t vs σ H Q
section
variable {X : Cx} {m : Md} {N : List Str} {sc fs : Scope} {k : Nat} {env env' env'' : Ev} {a b c e tg iter elt : Expr} {es tgs : List Expr} {pos : Pos}
theorem en_per {K : PySem.W.Frag} {H0 G H : Hp} {σ : St} {i : Nat} {d : D} {v : V} (E : En K H0 G H σ env) (hi : i < env.length) (r : Rp K G d v) : En K H0 G H (σ.set i (some v)) (env.set i (some (.per d))) :=
  E.set (f := []) hi (by simp only [RO]; exact ⟨trivial, r⟩) List.nodup_nil (fun a ha => by cases ha) (fun _ _ a ha => by cases ha)
theorem tg_name (hX : Cs X m N sc fs k) {i : Nat} {x : Str} {d : D} (hi : Ix N i x) (hl : locB sc fs x = true) (hn : i < env.length) : Tg X env (.Name x pos) d (env.set i (some (.per d))) [i] := .mk fun H0 G H σ v Q s E r kk =>
  WG.of (pg_name (i := i) (by rw [hX.hN]; exact hX.nd) (by rw [hX.hN]; exact hi.at_) (hX.loc hl) (hX.hf hl)) (kk _ (en_per E hn r) fun vs h => wipe_set (h i (List.mem_singleton.mpr rfl)))
theorem tgs_nil : Tgs X env [] [] env [] := .mk fun H0 G H σ vs Q s E r kk => ⟨gNil, pgs_nil, by
  simp only [Rps] at r
  exact ⟨r, kk σ E fun _ _ => rfl⟩⟩
theorem tgs_cons {d : D} {ds : List D} {js js' : List Nat} (h1 : Tg X env tg d env' js) (h2 : Tgs X env' tgs ds env'' js')
    (hs : ∀ en, (assignEach (tg :: tgs) en).map (·.2) = assign tg en :: (assignEach tgs en).map (·.2) := by intro _; rfl) : Tgs X env (tg :: tgs) (d :: ds) env'' (js ++ js') := by
  refine .mk fun H0 G H σ vs Q s E r kk => ?_
  simp only [Rps] at r
  obtain ⟨v, vr, rfl, r1, r2⟩ := r
  refine ⟨gCons (WG X tg) (fun us σ' H' Q' => ∃ t : TGs, PGs X tgs t ∧ t us σ' H' Q'), ?_, v, vr, rfl, ?_⟩
  · exact pgs_cons pWG ⟨fun pins s σ H vs us Q I rv ⟨t, ht, hq⟩ => ht.run pins s σ H vs us Q I rv hq⟩ (hs _)
  · refine h1.run H0 G H σ v _ s E r1 fun σ' E' w1 => ?_
    exact h2.run H0 G H σ' vr Q s E' r2 fun σ'' E'' w2 => kk σ'' E'' fun us hu => (w2 us fun j hj => hu j (List.mem_append_right _ hj)).trans (w1 us fun j hj => hu j (List.mem_append_left _ hj))
theorem tg_tup (hX : Cs X m N sc fs k) {ds : List D} {js : List Nat} {kk : Nat} (h : Tgs X env tgs ds env' js) (hn : ∀ en, (assignEach tgs en).length = ds.length := by intro _; rfl) (hst : ∀ en, (assignEach tgs en).findIdx? (·.1) = none := by intro _; rfl) :
    Tg X env (.Tuple tgs kk pos) (.tup ds) env' js := .mk fun H0 G H σ v Q s E r go => by
  simp only [Rp] at r
  obtain ⟨p, xs, rfl, h2, h3⟩ := r
  obtain ⟨t, ht, hq⟩ := h.run H0 G H σ xs Q s E h3 go
  exact WG.of (pg_tup hX.calm ht (hn _) (hst _)) ⟨p, xs, rfl, SqT.of (s _ _ h2), h3.length, hq⟩

/-! ### what is walked -/
def WI (X : Cx) (tg iter : Expr) : TI := fun σ H R => ∀ (pins : List (Addr × Obj)) (s : Shared), Inv X pins σ H s →
    wpAny (model X.prog X.w) X.A (eval iter X.env) (fun v s1 => wpAny (model X.prog X.w) X.A (pyIter v) (PIE X pins σ tg R) X.xe s1) X.xe s
theorem pWI : PI X tg iter (WI X tg iter) := ⟨fun pins s _ _ _ I h => h pins s I⟩
theorem WI.of {wi : TI} {σ : St} {H : Hp} {R : It → Hp → Prop} (h : PI X tg iter wi) (kk : wi σ H R) : WI X tg iter σ H R := fun pins s I => h.run pins s σ H R I kk
/-- J goes through ds, as long as what lasts in G lasts -/
def Walks (K : PySem.W.Frag) (J : It) (G : Hp) (ds : List D) : Prop := ∀ (i : Nat) (G' H : Hp), (∀ a o, G a = some o → G' a = some o) → Sub G' H →
  (∀ d, ds[i]? = some d → J.go i H ∧ ∀ x H', J.yld i H x H' → ∃ G'', Ex2 G' H G'' H' ∧ Rp K G'' d x) ∧ (i = ds.length → J.stop i H)
structure Iter (X : Cx) (env : Ev) (tg iter : Expr) (ds : List D) : Prop where
  run : ∀ (H0 : Hp) (σ : St) (G H : Hp), Sub G H → En X.K H0 G H σ env → ∀ R : It → Hp → Prop,
  (∀ J G' H', Ex2 G H G' H' → Walks X.K J G' ds → R J H') → WI X tg iter σ H R
theorem it_list {d : D} {ds : List D} (hl : IsL d ds) (ha : P X env iter (.per d)) : Iter X env tg iter ds := .mk fun H0 σ G H s E R kk =>
  WI.of (pi_list pWE) (ha.go s E fun v G1 H1 x1 r1 => by
    obtain ⟨p, xs, rfl, h2, h3⟩ := hl.seq r1
    refine ⟨p, rfl, ⟨xs, sub_sqL x1.s h2⟩, kk _ G1 H1 x1 fun i G' H' eg s' => ⟨fun d hd => ?_, fun hi => ?_⟩⟩
    · have q := sub_sqL s' (sqL_mono eg h2)
      obtain ⟨v, h4, h5⟩ := h3.get hd
      refine ⟨⟨xs, v, q, h4⟩, fun x H'' ⟨e1, e2⟩ => ?_⟩
      subst e1
      refine ⟨G', Ex2.refl s', ?_⟩
      have := e2 xs q
      rw [h4] at this
      cases this
      exact h5.mono eg
    · subst hi
      exact ⟨xs, sub_sqL s' (sqL_mono eg h2), by rw [h3.length]; exact Nat.le_refl _⟩)
theorem it_tup {dd : D} {ds : List D} (hl : IsT dd ds) (ha : P X env iter (.per dd)) : Iter X env tg iter ds := .mk fun H0 σ G H s E R kk =>
  WI.of (pi_tup pWE) (ha.go s E fun v G1 H1 x1 r1 => by
    obtain ⟨p, xs, rfl, h2, h3⟩ := hl.seq r1
    refine ⟨p, rfl, ⟨xs, sub_sqT x1.s h2⟩, kk _ G1 H1 x1 fun i G' H' eg s' => ⟨fun d hd => ?_, fun hi => ?_⟩⟩
    · have q := sub_sqT s' (sqT_mono eg h2)
      obtain ⟨v, h4, h5⟩ := h3.get hd
      refine ⟨⟨xs, v, q, h4⟩, fun x H'' ⟨e1, e2⟩ => ?_⟩
      subst e1
      refine ⟨G', Ex2.refl s', ?_⟩
      have := e2 xs q
      rw [h4] at this
      cases this
      exact h5.mono eg
    · subst hi
      exact ⟨xs, sub_sqT s' (sqT_mono eg h2), by rw [h3.length]; exact Nat.le_refl _⟩)
/-- lo, lo + 1, .. -/
def rangeD (lo : Int) (n : Nat) : List D := (List.range n).map fun (i : Nat) => D.int (lo + i)
theorem rangeD_length (lo : Int) (n : Nat) : (rangeD lo n).length = n := by simp [rangeD]
theorem rangeD_get {lo : Int} {n i : Nat} {d : D} (h : (rangeD lo n)[i]? = some d) : i < n ∧ d = .int (lo + i) := by
  unfold rangeD at h
  rw [List.getElem?_map] at h
  cases q : (List.range n)[i]? with
  | none => rw [q] at h; cases h
  | some j =>
    rw [q] at h
    have hi : i < n := by
      have := (List.getElem?_eq_some_iff.mp q).1
      simpa using this
    rw [List.getElem?_range hi] at q
    cases q
    cases h
    exact ⟨hi, rfl⟩
theorem walks_rng {K : PySem.W.Frag} {G : Hp} {lo : Int} {n : Nat} : Walks K (Itr lo n) G (rangeD lo n) := fun i G' H' eg s' => by
  refine ⟨fun d hd => ?_, fun hi => ?_⟩
  · obtain ⟨h1, rfl⟩ := rangeD_get hd
    refine ⟨h1, fun x H'' ⟨e1, e2⟩ => ?_⟩
    subst e1 e2
    exact ⟨G', Ex2.refl s', by simp only [Rp]⟩
  · rw [rangeD_length] at hi
    exact Nat.le_of_eq hi.symm
theorem it_range1 (hX : Cs X m N sc fs k) {p : Pos} {j : Int} (hj : -(2 ^ 62) ≤ j ∧ j < 2 ^ 62) (hg : gloB sc "range" = true) (hm : m.mg "range" = none) (ha : P X env a (.per (.int j))) (he : ∀ en, starEach [a] en = [(false, eval a en)] := by intro _; rfl) :
    Iter X env tg (.Call (.Name "range" p) [a] [] pos) (rangeD 0 j.toNat) := .mk fun H0 σ G H s E R kk =>
  WI.of (pi_range1 (hX.gl hg) (by rw [hX.hM]; exact hm) pWA (he _)) ((as_cons ha as_nil he).run H0 σ G H s E _ fun vs G1 H1 x1 r1 => by
    obtain ⟨v, rfl, r2⟩ := rps1 r1
    simp only [Rp] at r2
    exact ⟨j, by rw [r2], hj.1, hj.2, kk _ G1 H1 x1 walks_rng⟩)
theorem it_range2 (hX : Cs X m N sc fs k) {p : Pos} {i j : Int} (hj : -(2 ^ 62) ≤ i ∧ i < 2 ^ 62 ∧ -(2 ^ 62) ≤ j ∧ j < 2 ^ 62) (hg : gloB sc "range" = true) (hm : m.mg "range" = none) (ha : P X env a (.per (.int i))) (hb : P X env b (.per (.int j)))
    (he : ∀ en, starEach [a, b] en = [(false, eval a en), (false, eval b en)] := by intro _; rfl) (he2 : ∀ en, starEach [b] en = [(false, eval b en)] := by intro _; rfl) :
    Iter X env tg (.Call (.Name "range" p) [a, b] [] pos) (rangeD i (j - i).toNat) := .mk fun H0 σ G H s E R kk =>
  WI.of (pi_range2 (hX.gl hg) (by rw [hX.hM]; exact hm) pWA (he _) (he2 _)) ((as_cons ha (as_cons hb as_nil he2) (fun en => by rw [he, he2])).run H0 σ G H s E _ fun vs G1 H1 x1 r1 => by
    obtain ⟨v, v', rfl, r2, r3⟩ := rps2 r1
    simp only [Rp] at r2 r3
    exact ⟨i, j, by rw [r2, r3], hj, kk _ G1 H1 x1 walks_rng⟩)

/-! ### blocks -/
theorem Endsk.imp {Φ Ψ : Out → Prop} {G0 H0 : Hp} {D : Ends} (h : Endsk X Ψ G0 H0 D) (i : ∀ o, Φ o → Ψ o) : Endsk X Φ G0 H0 D :=
  ⟨fun env σ G H f => h.nx env σ G H (i _ f), fun env σ G H f => h.bk env σ G H (i _ f), fun env σ G H f => h.ct env σ G H (i _ f), fun o env v σ G H f => h.rt o env v σ G H (i _ f), by
    obtain ⟨W, tk, w⟩ := h.ex
    exact ⟨W, tk, fun c env cls d σ G H f => w c env cls d σ G H (i _ f)⟩⟩
theorem S.imp {ss : List Stmt} {Φ Ψ : Out → Prop} (h : S X ss env Φ) (i : ∀ o, Φ o → Ψ o) : S X ss env Ψ := .mk fun σ G0 H0 G H x E D kk => h.run σ G0 H0 G H x E D (kk.imp i)
theorem s_nil {Φ : Out → Prop} (h : Φ (.nx env)) : S X [] env Φ := .mk fun σ G0 H0 G H x E D kk => WSs.of pss_nil (kk.nx env σ G H h x E)
/-- what a statement must reach so that the rest goes on -/
def Nxt (X : Cx) (rest : List Stmt) (Φ : Out → Prop) : Out → Prop
  | .nx env => S X rest env Φ
  | o => Φ o
theorem s_cons {st : Stmt} {rest : List Stmt} {Φ : Out → Prop} (h : S1 X st env (Nxt X rest Φ)) : S X (st :: rest) env Φ := .mk fun σ G0 H0 G H x E D kk =>
  WSs.of (pss_cons pWS pWSs) (h.run σ G0 H0 G H x E _ ⟨fun env' σ' G' H' f x' E' => f.run σ' G0 H0 G' H' x' E' D kk, fun env' σ' G' H' f => kk.bk env' σ' G' H' f, fun env' σ' G' H' f => kk.ct env' σ' G' H' f, kk.rt, kk.ex⟩)
variable {st : Stmt} {rest ss ss' : List Stmt} {Φ : Out → Prop}
theorem s1_expr {o : Ow} (he : P X env e o) (h : Φ (.nx env)) (hs : ∀ en, swapsWith e none pos.line en = pure false := by intro _; rfl) : S1 X (.Expr e pos) env Φ := .mk fun σ G0 H0 G H x E D kk =>
  WS.of (ps_expr pWE (hs _)) (he.run H0 σ G H x.s E _ fun v G' H' fp x' r n d => kk.nx env σ G' H' h (x.trans x') (E.later x'))
theorem s1_ret {o : Ow} (he : P X env e o) (h : Φ (.rt o env)) : S1 X (.Return (some e) pos) env Φ := .mk fun σ G0 H0 G H x E D kk =>
  WS.of (ps_ret pWE) (he.run H0 σ G H x.s E _ fun v G' H' fp x' r n d => kk.rt o env v σ G' H' h (x.trans x') (E.push x' r d n fun a ha => back_none x.h (n a ha)))
theorem s1_retN (h : Φ (.rt (.per .non) env)) : S1 X (.Return none pos) env Φ := .mk fun σ G0 H0 G H x E D kk =>
  WS.of ps_retN (kk.rt (.per .non) env .non σ G H h x (E.push (f := []) (Ex2.refl x.s) (by simp only [RO, Rp]; exact ⟨trivial, trivial⟩) List.nodup_nil (fun a ha => by cases ha) fun a ha => by cases ha))
theorem s1_pass (h : Φ (.nx env)) : S1 X (.Pass pos) env Φ := .mk fun σ G0 H0 G H x E D kk => WS.of ps_pass (kk.nx env σ G H h x E)
theorem s1_if {q : Bool} (hc : T X env c q) (h1 : q = true → S X ss env Φ) (h2 : q = false → S X ss' env Φ) : S1 X (.If c ss ss' pos) env Φ := .mk fun σ G0 H0 G H x E D kk =>
  WS.of (ps_if pWT pWSs pWSs) (hc.run H0 σ G H x.s E _ fun G' H' x' => by
    cases q with
    | true => exact iteT ((h1 rfl).run σ G0 H0 G' H' (x.trans x') (E.later x') D kk)
    | false => exact iteF ((h2 rfl).run σ G0 H0 G' H' (x.trans x') (E.later x') D kk))
/-- what was made is new -/
theorem En.fresh {K : PySem.W.Frag} {H0 G H G' H' : Hp} {σ : St} {o : Ow} {v : V} {fp : List Addr} {i : Nat} (E : En K H0 G H σ env) (x' : Ex2 G H G' H') (r : RO K G' H' o v fp) (n : ∀ a ∈ fp, H a = none) (d : fp.Nodup) (hi : i < env.length) (h0 : ∀ a ∈ fp, H0 a = none) :
    En K H0 G' H' (σ.set i (some v)) (env.set i (some o)) := by
  obtain ⟨f0, e1, e2, e3⟩ := E
  have E' : En K H0 G' H' σ env := En.later x' ⟨f0, e1, e2, e3⟩
  obtain ⟨f0', e1', e2', e3'⟩ := E'
  have e1l : Ens K G' H' env σ f0 := e1.frame x'.g fun a ha => by
    obtain ⟨q1, q2⟩ := e1.out a ha
    refine ⟨?_, x'.n a q1 q2⟩
    cases q : H a with
    | none => exact absurd q q2
    | some o => exact x'.h a o q
  obtain ⟨fp', k1, k2, k3⟩ := Ens.set e1l hi r
  refine ⟨fp', k1, k3 e2 d fun a ha hb => (e1.out a hb).2 (n a ha), fun a ha => ?_⟩
  rcases k2 a ha with z | z
  · exact h0 a z
  · exact e3 a z
theorem s1_set (hX : Cs X m N sc fs k) {i : Nat} {x : Str} {o : Ow} {pos' : Pos} (hi : Ix N i x) (hl : locB sc fs x = true) (hn : i < env.length) (he : P X env e o) (h : Φ (.nx (env.set i (some o))))
    (hs : ∀ en, swapsWith e (some (.Name x pos')) pos.line en = pure false := by intro _; rfl) : S1 X (.Assign [.Name x pos'] e pos) env Φ := .mk fun σ G0 H0 G H y E D kk =>
  WS.of (ps_set (i := i) (by rw [hX.hN]; exact hX.nd) (by rw [hX.hN]; exact hi.at_) (hX.loc hl) pWE (hs _) (hX.hf hl)) (he.run H0 σ G H y.s E _ fun v G' H' fp x' r n d =>
    kk.nx _ _ G' H' h (y.trans x') (E.fresh x' r n d hn fun a ha => back_none y.h (n a ha)))
theorem s1_asg {d : D} {js : List Nat} (he : P X env e (.per d)) (hg : Tg X env tg d env' js) (h : Φ (.nx env')) (hs : ∀ en, swapsWithSole [tg] e pos.line en = pure false := by intro _; rfl) (hw : ∀ en, swappedStores [tg] e en = pure none := by intro _; rfl)
    (h1 : ∀ en, (assignEach [tg] en).map (·.2) = [assign tg en] := by intro _; rfl) : S1 X (.Assign [tg] e pos) env Φ := .mk fun σ G0 H0 G H y E D kk =>
  WS.of (ps_asg pWE pWG (hs _) (hw _) (h1 _)) (he.go y.s E fun v G' H' x' r => hg.run H0 G' H' σ v _ x'.s (E.later x') r fun σ' E' _ => kk.nx env' σ' G' H' h (y.trans x') E')
/-- what is one's own begins to last -/
theorem s_last {i : Nat} {o : Ow} (he : env[i]? = some (some o)) (h : S X ss (env.set i (some (.per o.fr))) Φ) : S X ss env Φ := .mk fun σ G0 H0 G H x E D kk => by
  obtain ⟨fp, e1, e2, e3⟩ := E
  obtain ⟨v, fa, f1, fb, q1, q2, q3, q4⟩ := e1.slot he
  subst q2
  have h0 : ∀ a ∈ f1, H0 a = none := fun a ha => e3 a (List.mem_append_right _ (List.mem_append_left _ ha))
  have x2 : Ex2 G0 H0 (more G H f1) H := x.last h0 fun a ha => (q3.out a ha).1
  have eg : ∀ a o, G a = some o → more G H f1 a = some o := fun a o q => by
    by_cases z : a ∈ f1
    · rw [(q3.out a z).1] at q; cases q
    · rw [more_out z]; exact q
  obtain ⟨n1, n2, n3⟩ := List.nodup_append.mp e2
  obtain ⟨n4, n5, n6⟩ := List.nodup_append.mp n2
  have E2 : Ens X.K (more G H f1) H (env.set i (some (.per o.fr))) (σ.set i (some v)) (fa ++ ([] ++ fb)) := by
    refine q4 (more G H f1) H (some (.per o.fr)) (some v) [] eg (fun a ha => ⟨rfl, ?_⟩) ⟨v, rfl, ?_⟩
    · have z : a ∉ f1 := fun z => by
        rcases List.mem_append.mp ha with w | w
        · exact n3 a w a (List.mem_append_left _ z) rfl
        · exact n6 a z a w rfl
      rw [more_out z]
      refine (e1.out a ?_).1
      rcases List.mem_append.mp ha with w | w
      · exact List.mem_append_left _ w
      · exact List.mem_append_right _ (List.mem_append_right _ w)
    · simp only [RO]
      exact ⟨trivial, q3.fr eg fun a ha => more_in ha⟩
  have eσ : σ.set i (some v) = σ := by
    apply List.ext_getElem?
    intro j
    by_cases z : i = j
    · subst z
      have hi : i < σ.length := (List.getElem?_eq_some_iff.mp q1).1
      rw [List.getElem?_set_self hi, q1]
    · rw [List.getElem?_set_ne z]
  rw [eσ] at E2
  refine h.run σ G0 H0 (more G H f1) H x2 ⟨_, E2, ?_, fun a ha => e3 a ?_⟩ D kk
  · simp only [List.nil_append]
    exact List.nodup_append.mpr ⟨n1, n5, fun a ha b hb => n3 a ha b (List.mem_append_right _ hb)⟩
  · rcases List.mem_append.mp ha with w | w
    · exact List.mem_append_left _ w
    · exact List.mem_append_right _ (List.mem_append_right _ (by simpa using w))
end
end Pu

set_option Elab.async false
set_option linter.all false
set_option autoImplicit false
set_option maxRecDepth 100000
set_option maxHeartbeats 1000001
namespace Pu
open PySem L2
theorem Ex2.from {G0 H0 G1 H1 G H : Hp} (x : Ex2 G0 H0 G1 H1) (y : Ex2 G0 H0 G H) (e : ∀ a o, G1 a = some o → G a = some o) : Ex2 G1 H0 G H :=
  ⟨y.s, e, y.h, fun a h1 h2 => y.n a (back_none x.g h1) h2⟩
theorem Ex2.to {G0 H0 G1 H1 G H : Hp} (x : Ex2 G0 H0 G1 H1) (y : Ex2 G1 H0 G H) : Ex2 G0 H0 G H :=
  ⟨y.s, fun a o h => y.g _ _ (x.g _ _ h), y.h, fun a h1 h2 => y.n a (x.n a h1 h2) h2⟩
section
variable {X : Cx} {m : Md} {N : List Str} {sc fs : Scope} {k : Nat} {env env' env'' : Ev} {a b c e tg iter elt : Expr} {es tgs ifs : List Expr} {pos : Pos} {body ss : List Stmt} {Φ : Out → Prop}
/-- a loop's turn must come to the next, or leave -/
def Trn (I : Ev → Prop) (Φ : Out → Prop) : Out → Prop
  | .nx e => I e
  | .ct e => I e
  | .bk e => Φ (.nx e)
  | .rt o e => Φ (.rt o e)
  | .ex c e => Φ (.ex c e)
theorem s1_for (hX : Cs X m N sc fs k) {ds : List D} (hit : Iter X env tg iter ds) (I : Nat → Ev → Prop) (h0 : I 0 env)
    (hb : ∀ i d env', ds[i]? = some d → I i env' → ∃ env'' js, Tg X env' tg d env'' js ∧ S X body env'' (Trn (I (i + 1)) Φ)) (hd : ∀ env', I ds.length env' → Φ (.nx env'))
    (hs : ∀ en x, foldedSetIterable iter en x = pure x := by intro _ _; rfl) : S1 X (.For tg iter body [] pos) env Φ := .mk fun σ G0 H0 G H x E D kk => by
  refine WS.of (ps_for hX.own hX.calm pWI pWG pWSs (hs _)) (hit.run H0 σ G H x.s E _ fun J G1 H1 x1 wk => ?_)
  have x01 := x.trans x1
  refine ⟨fun i mm σ' H' => mm = ds.length - i ∧ i ≤ ds.length ∧ ∃ env' G', I i env' ∧ Ex2 G1 H0 G' H' ∧ En X.K H0 G' H' σ' env', ⟨ds.length, by simp, Nat.zero_le _, env, G1, h0, x01.from x01 fun _ _ q => q, E.later x1⟩, ?_⟩
  rintro i mm σ' H' ⟨rfl, hi, env', G', hI, x', E'⟩
  obtain ⟨w1, w2⟩ := wk i G' H' x'.g x'.s
  by_cases hlt : i < ds.length
  · obtain ⟨go, yl⟩ := w1 ds[i] (by simp [hlt])
    obtain ⟨env'', js, ht, hS⟩ := hb i ds[i] env' (by simp [hlt]) hI
    refine .inr ⟨go, fun σ2 H2 => ∃ env2 G2, I (i + 1) env2 ∧ Ex2 G1 H0 G2 H2 ∧ En X.K H0 G2 H2 σ2 env2, fun σ2 H2 q => ⟨ds.length - (i + 1), by omega, rfl, hlt, q⟩, fun y H2 hy => ?_⟩
    obtain ⟨G2, x2, r2⟩ := yl y H2 hy
    refine ht.run H0 G2 H2 σ' y _ x2.s (E'.later x2) r2 fun σ3 E3 _ => ?_
    exact hS.run σ3 G1 H0 G2 H2 (x'.trans x2) E3 _ ⟨fun env2 σ2 G3 H3 f x3 E3 => ⟨env2, G3, f, x3, E3⟩, fun env2 σ2 G3 H3 f x3 E3 => kk.nx env2 σ2 G3 H3 f (x01.to x3) E3, fun env2 σ2 G3 H3 f x3 E3 => ⟨env2, G3, f, x3, E3⟩, fun o env2 v σ2 G3 H3 f x3 E3 => kk.rt o env2 v σ2 G3 H3 f (x01.to x3) E3, by
      obtain ⟨W, tk, w⟩ := kk.ex
      exact ⟨W, tk, fun c env2 cls d σ2 G3 H3 f x3 E3 => w c env2 cls d σ2 G3 H3 f (x01.to x3) E3⟩⟩
  · have e1 : i = ds.length := by omega
    subst e1
    exact .inl ⟨w2 rfl, kk.nx env' σ' G' H' (hd env' hI) (x01.to x') E'⟩
theorem s1_while (hX : Cs X m N sc fs k) (I : Nat → Ev → Prop) {m0 : Nat} (h0 : I m0 env)
    (hb : ∀ n env', I n env' → ∃ q, T X env' c q ∧ (q = true → S X body env' (Trn (fun e => ∃ n', n' < n ∧ I n' e) Φ)) ∧ (q = false → Φ (.nx env'))) : S1 X (.While c body [] pos) env Φ := .mk fun σ G0 H0 G H x E D kk => by
  refine WS.of (ps_while hX.own pWT pWSs) ⟨fun n σ' H' => ∃ env' G', I n env' ∧ Ex2 G0 H0 G' H' ∧ En X.K H0 G' H' σ' env', ⟨m0, env, G, h0, x, E⟩, ?_⟩
  rintro n σ' H' ⟨env', G', hI, x', E'⟩
  obtain ⟨q, hT, h1, h2⟩ := hb n env' hI
  refine hT.run H0 σ' G' H' x'.s E' _ fun G2 H2 x2 => ?_
  cases q with
  | true =>
    refine iteT ⟨fun σ3 H3 => ∃ env3 G3, (∃ n', n' < n ∧ I n' env3) ∧ Ex2 G0 H0 G3 H3 ∧ En X.K H0 G3 H3 σ3 env3, fun σ3 H3 ⟨env3, G3, ⟨n', hn, hI'⟩, x3, E3⟩ => ⟨n', hn, env3, G3, hI', x3, E3⟩, ?_⟩
    exact (h1 rfl).run σ' G0 H0 G2 H2 (x'.trans x2) (E'.later x2) _ ⟨fun env2 σ2 G3 H3 f x3 E3 => ⟨env2, G3, f, x3, E3⟩, fun env2 σ2 G3 H3 f x3 E3 => kk.nx env2 σ2 G3 H3 f x3 E3, fun env2 σ2 G3 H3 f x3 E3 => ⟨env2, G3, f, x3, E3⟩, kk.rt, kk.ex⟩
  | false => exact iteF (kk.nx env' σ' G2 H2 (h2 rfl) (x'.trans x2) (E'.later x2))

/-! ### list comprehensions -/
def WTs (X : Cx) (ifs : List Expr) : TT := fun σ H Q => ∀ (pins : List (Addr × Obj)) (s : Shared), Inv X pins σ H s →
    wpAny (model X.prog X.w) X.A (forIn ifs true fun c r => if r = true then do let ok ← isTrue c X.env (eval c X.env); pure (ForInStep.yield ok) else pure (ForInStep.yield r)) (TP X pins σ Q) X.xe s
theorem pWTs : PTs X ifs (WTs X ifs) := ⟨fun pins s _ _ _ I h => h pins s I⟩
/-- a clause's tests have this outcome -/
structure Ts (X : Cx) (env : Ev) (ifs : List Expr) (b : Bool) : Prop where
  run : ∀ (H0 : Hp) (σ : St) (G H : Hp), Sub G H → En X.K H0 G H σ env → ∀ Q : Bool → Hp → Prop, (∀ G' H', Ex2 G H G' H' → Q b H') → WTs X ifs σ H Q
theorem ts_nil : Ts X env [] true := .mk fun H0 σ G H s E Q g pins sh I => pts_nil.run pins sh σ H Q I (g G H (Ex2.refl s))
theorem ts_one {q : Bool} (h : T X env c q) : Ts X env [c] q := .mk fun H0 σ G H s E Q g pins sh I => (pts_one pWT).run pins sh σ H Q I (h.run H0 σ G H s E Q g)
/-- a comprehension's block: its context -/
abbrev BX (X : Cx) (s : Shared) (H : Hp) (scope : Scope) (C : Addr) (cl : List (Str × Addr)) (fp : List Addr) : Cx := X.blk s H scope (compEnvC scope cl C X.env) fp
theorem Cs.blk (hX : Cs X m N sc fs k) (s : Shared) (H : Hp) (scope : Scope) (C : Addr) (cl : List (Str × Addr)) (fp : List Addr) : Cs (BX X s H scope C cl fp) m N (relS scope sc) scope k :=
  ⟨hX.hP, hX.hW, hX.hK, hX.hM, hX.hB, hX.hN, by rw [← hX.hS]; rfl, hX.calm, hX.room, hX.nd, fun x h => by show (scope.names.lookup x == some NameKind.cell) = true; rw [h]; rfl, PassesOwn.never⟩
/-- the slots of the block hold nothing ahead of it -/
def wipeE (env : Ev) : List Nat → Ev
  | [] => env
  | v :: vs => (wipeE env vs).set v none
theorem ens_wipe {K : PySem.W.Frag} {G H : Hp} {σ : St} {fp : List Addr} (h : Ens K G H env σ fp) : ∀ vs : List Nat, ∃ fp', Ens K G H (wipeE env vs) (wipe σ vs) fp' ∧ List.Sublist fp' fp
  | [] => ⟨fp, h, List.Sublist.refl _⟩
  | v :: vs => by
    obtain ⟨fp1, h1, h2⟩ := ens_wipe h vs
    obtain ⟨fp2, h3, h4⟩ := Ens.drop (i := v) (s' := none) h1
    exact ⟨fp2, h3, h4.trans h2⟩
theorem En.wipe {K : PySem.W.Frag} {H0 G H : Hp} {σ : St} (vs : List Nat) (E : En K H0 G H σ env) : En K H0 G H (wipe σ vs) (wipeE env vs) := by
  obtain ⟨fp, e1, e2, e3⟩ := E
  obtain ⟨fp', h1, h2⟩ := ens_wipe e1 vs
  exact ⟨fp', h1, e2.sublist h2, fun a ha => e3 a (h2.subset ha)⟩
/-- what is taken of each item: nothing, or what the element is worth -/
def takeO : List (Option Ow) → List Ow := List.filterMap id
def BWE (X : Cx) (scope : Scope) (elt : Expr) : TE := fun σ H Q => ∀ (s : Shared) (H' : Hp) (C : Addr) (cl : List (Str × Addr)) (fp : List Addr), WE (BX X s H' scope C cl fp) elt σ H Q
def BWT (X : Cx) (scope : Scope) (ifs : List Expr) : TT := fun σ H Q => ∀ (s : Shared) (H' : Hp) (C : Addr) (cl : List (Str × Addr)) (fp : List Addr), WTs (BX X s H' scope C cl fp) ifs σ H Q
def BWG (X : Cx) (scope : Scope) (tg : Expr) : TG := fun v σ H Q => ∀ (s : Shared) (H' : Hp) (C : Addr) (cl : List (Str × Addr)) (fp : List Addr), WG (BX X s H' scope C cl fp) tg v σ H Q
/-- what a comprehension's block asks of each item -/
def LcB (m : Md) (N : List Str) (sc scope : Scope) (k : Nat) (own : List (Str × Nat)) (tg elt : Expr) (ifs : List Expr) (env : Ev) (f : Nat → D → Option Ow) (ds : List D) : Prop := ∀ i d, ds[i]? = some d → ∃ env' js, (∀ j ∈ js, j ∈ own.map (·.2)) ∧ ∀ (X' : Cx), Cs X' m N (relS scope sc) scope k → Tg X' (wipeE env (own.map (·.2))) tg d env' js ∧
      match f i d with
      | none => Ts X' env' ifs false
      | some o => Ts X' env' ifs true ∧ P X' env' elt o
theorem lc_read (hX : Cs X m N sc fs k) {scope : Scope} {own : List (Str × Nat)} {ds : List D} (f : Nat → D → Option Ow) (hit : Iter X env tg iter ds) (hk : blkC N sc scope own = true)
    (hsz : ds.length ≤ sizeLine) (hb : LcB m N sc scope k own tg elt ifs env f ds) {H0 : Hp} {σ : St} {G H : Hp} {Q : VK} (s : Sub G H) (E : En X.K H0 G H σ env) (g : Gv X.K G H (.lst ((ds.mapIdx f).filterMap id)) Q) :
    tLc (WI X tg iter) (BWG X scope tg) (BWT X scope ifs) (BWE X scope elt) (own.map (·.2)) σ H Q := by
  refine hit.run H0 σ G H s E _ fun J G1 H1 x1 wk Dp hD => ?_
  have gD : G1 Dp = none := back_none x1.s hD
  have E1 := E.later x1
  -- so far: i items gone through
  refine ⟨fun i mm H' => mm = ds.length - i ∧ i ≤ ds.length ∧ ∃ G' xs fq, Ex2 G1 H1 G' H' ∧ H' Dp = some (.lst xs) ∧ G' Dp = none ∧ ROs X.K G' H' (((ds.take i).mapIdx f).filterMap id) xs fq ∧ Dp ∉ fq ∧ fq.Nodup ∧ ∀ a ∈ fq, H1 a = none,
    ⟨ds.length, by simp, Nat.zero_le _, G1, [], [], Ex2.newOwn x1.s hD, upd_same, gD, by simp [ROs], by simp, List.nodup_nil, fun a ha => by cases ha⟩, ?_⟩
  rintro i mm H' ⟨rfl, hi, G', xs, fq, x', hDx, gD', hR, nD, dq, n1⟩
  have E' := E1.later x'
  have Ew := E'.wipe (own.map (·.2))
  obtain ⟨w1, w2⟩ := wk i G' H' x'.g x'.s
  by_cases hlt : i < ds.length
  · obtain ⟨go, yl⟩ := w1 ds[i] (by simp [hlt])
    have hdi : ds[i]? = some ds[i] := by simp [hlt]
    have htk : ((ds.take (i + 1)).mapIdx f).filterMap id = ((ds.take i).mapIdx f).filterMap id ++ (f i ds[i]).toList := by
      rw [List.take_succ_eq_append_getElem hlt, List.mapIdx_append, List.filterMap_append]
      simp [Nat.min_eq_left (Nat.le_of_lt hlt)]
      cases f i ds[i] <;> simp
    have hxl : xs.length ≤ i := by
      rw [hR.length]
      refine Nat.le_trans (List.length_filterMap_le _ _) ?_
      simp
      omega
    refine .inr ⟨go, fun H2 => ∃ G2 xs2 fq2, Ex2 G1 H1 G2 H2 ∧ H2 Dp = some (.lst xs2) ∧ G2 Dp = none ∧ ROs X.K G2 H2 (((ds.take (i + 1)).mapIdx f).filterMap id) xs2 fq2 ∧ Dp ∉ fq2 ∧ fq2.Nodup ∧ ∀ a ∈ fq2, H1 a = none, fun H2 q => ⟨ds.length - (i + 1), by omega, rfl, hlt, q⟩, fun y H2 hy => ?_⟩
    obtain ⟨G2, x2, r2⟩ := yl y H2 hy
    have E2 := Ew.later x2
    obtain ⟨env', js, hjs, hall⟩ := hb i ds[i] hdi
    intro sb Hb C cl fpb
    refine (hall _ (hX.blk sb Hb scope C cl fpb)).1.run H0 G2 H2 _ y _ x2.s E2 r2 fun σ3 E3 hw => ⟨?_, ?_⟩
    · rw [hw _ hjs]
      have : ∀ (vs : List Nat) (τ : St), L2.wipe (L2.wipe τ vs) vs = L2.wipe τ vs := by
        intro vs
        have aux : ∀ (ws us : List Nat) (τ : St), (∀ j ∈ ws, j ∈ us) → L2.wipe (L2.wipe τ ws) us = L2.wipe τ us := by
          intro ws
          induction ws with
          | nil => intro us τ _; rfl
          | cons w ws ih =>
            intro us τ h
            simp only [L2.wipe]
            rw [wipe_set (h w List.mem_cons_self)]
            exact ih us τ fun j hj => h j (List.mem_cons_of_mem _ hj)
        exact fun τ => aux vs vs τ fun j hj => hj
      exact this _ _
    intro sb Hb C cl fpb
    have hm := (hall _ (hX.blk sb Hb scope C cl fpb)).2
    have hDn : H' Dp ≠ none := by rw [hDx]; simp
    have n1' : ∀ {Gz Hz : Hp}, Ex2 G' H' Gz Hz → ∀ a ∈ fq, Hz a = H' a ∧ Gz a = none := fun {Gz Hz} y a ha => by
      obtain ⟨q1, q2⟩ := hR.out a ha
      refine ⟨?_, y.n a q1 q2⟩
      cases q : H' a with
      | none => exact absurd q q2
      | some o => exact y.h a o q
    cases hf : f i ds[i] with
    | none =>
      rw [hf] at hm htk
      refine hm.run H0 σ3 G2 H2 x2.s E3 _ fun G3 H3 x3 => ?_
      refine iteF ⟨G3, xs, fq, x'.trans (x2.trans x3), (x2.trans x3).h _ _ hDx, (x2.trans x3).n _ gD' hDn, ?_, nD, dq, n1⟩
      rw [htk]
      simp only [Option.toList_none, List.append_nil]
      exact hR.frame (x2.trans x3).g (n1' (x2.trans x3))
    | some o =>
      rw [hf] at hm htk
      obtain ⟨hm1, hm2⟩ := hm
      refine hm1.run H0 σ3 G2 H2 x2.s E3 _ fun G3 H3 x3 => iteT ?_
      intro sb Hb C cl fpb
      have hm2 : P (BX X sb Hb scope C cl fpb) env' elt o := by
        have := (hall _ (hX.blk sb Hb scope C cl fpb)).2
        rw [hf] at this
        exact this.2
      refine hm2.run H0 σ3 G3 H3 x3.s (E3.later x3) _ fun v G4 H4 fp x4 r4 n4 d4 => ?_
      have y4 := x2.trans (x3.trans x4)
      have hD4 : H4 Dp = some (.lst xs) := y4.h _ _ hDx
      have gD4 : G4 Dp = none := y4.n _ gD' hDn
      have ndp : Dp ∉ fp := fun z => by
        have := n4 Dp z
        rw [(x2.trans x3).h _ _ hDx] at this
        cases this
      have dis : ∀ a ∈ fq, a ∉ fp := fun a ha z => by
        obtain ⟨q1, q2⟩ := hR.out a ha
        exact ne_none (x2.trans x3).h q2 (n4 a z)
      refine ⟨xs, hD4, Nat.lt_of_le_of_lt hxl (Nat.lt_of_lt_of_le hlt hsz), G4, xs ++ [v], fq ++ fp, ?_, upd_same, gD4, ?_, ?_, ?_, ?_⟩
      · refine ⟨⟨fun a u q => ?_, fun a u q => ?_⟩, (x'.trans y4).g, fun a u q => ?_, (x'.trans y4).n⟩
        · have : a ≠ Dp := fun z => by rw [z, gD4] at q; cases q
          rw [upd_ne this]; exact y4.s _ _ q
        · by_cases z : a = Dp
          · rw [z, upd_same] at q; cases q
          · rw [upd_ne z] at q; exact y4.s.t _ _ q
        · have : a ≠ Dp := fun z => by rw [z, hD] at q; cases q
          rw [upd_ne this]; exact (x'.trans y4).h _ _ q
      · rw [htk]
        simp only [Option.toList_some]
        refine ROs.append (hR.frame y4.g fun a ha => ?_) (ROs.one (r4.frame (fun _ _ q => q) fun a ha => ?_))
        · obtain ⟨z1, z2⟩ := n1' y4 a ha
          have : a ≠ Dp := fun z => nD (z ▸ ha)
          rw [upd_ne this]; exact ⟨z1, z2⟩
        · have : a ≠ Dp := fun z => ndp (z ▸ ha)
          rw [upd_ne this]; exact ⟨rfl, (r4.out a ha).1⟩
      · intro z
        rcases List.mem_append.mp z with z | z
        · exact nD z
        · exact ndp z
      · exact List.nodup_append.mpr ⟨dq, d4, fun a ha b hb q => dis a ha (q ▸ hb)⟩
      · intro a ha
        rcases List.mem_append.mp ha with z | z
        · exact n1 a z
        · exact back_none (x'.trans (x2.trans x3)).h (n4 a z)
  · have e1 : i = ds.length := by omega
    subst e1
    refine .inl ⟨w2 rfl, ?_⟩
    rw [List.take_length] at hR
    refine (g.trans x1) (.ref Dp) G' H' (Dp :: fq) ⟨x'.s, x'.g, x'.h, x'.n⟩ ?_ (fun a ha => ?_) (List.nodup_cons.mpr ⟨nD, dq⟩)
    · simp only [RO]
      exact ⟨Dp, xs, fq, rfl, rfl, gD', hDx, hR⟩
    · rcases List.mem_cons.mp ha with rfl | ha
      · exact hD
      · exact n1 a ha
/-- [elt for tg in iter if ..] : f tells of each item what comes of it -/
theorem p_lc (hX : Cs X m N sc fs k) {scope : Scope} {own : List (Str × Nat)} {ds : List D} (f : Nat → D → Option Ow) (hit : Iter X env tg iter ds) (hk : blkC N sc scope own = true) (hsz : ds.length ≤ sizeLine) (hb : LcB m N sc scope k own tg elt ifs env f ds)
    (hs : ∀ en x, foldedSetIterable iter en x = pure x := by intro _ _; rfl) : P X env (.ListComp elt [⟨tg, iter, ifs, 0⟩] scope pos) (.lst ((ds.mapIdx f).filterMap id)) := .mk fun H0 σ G H s E Q g => by
  have ok : BlkOk X.N X.env.scope scope own := by rw [hX.hN, hX.hS]; exact blkOk_by hk
  exact WE.of (pe_lc (te := BWE X scope elt) (tt := BWT X scope ifs) (g := BWG X scope tg) (own := own) hX.calm (by rw [hX.hN]; exact hX.nd) pWI ok
    (fun s H C cl fp => ⟨fun pins s' σ' H' v u Q' I r h => h s H C cl fp pins s' u I r⟩)
    (fun s H C cl fp => ⟨fun pins s' σ' H' Q' I h => h s H C cl fp pins s' I⟩)
    (fun s H C cl fp => ⟨fun pins s' σ' H' Q' I h => h s H C cl fp pins s' I⟩) (hs _)) (lc_read hX f hit hk hsz hb s E g)
/-- y = [..], stored within the comprehension -/
theorem s1_setLc (hX : Cs X m N sc fs k) {i : Nat} {y : Str} {py spos : Pos} {scope : Scope} {own : List (Str × Nat)} {ds : List D} (hi : Ix N i y) (hl : sc.names.lookup y = some .local) (hn : i < env.length) (f : Nat → D → Option Ow) (hit : Iter X env tg iter ds) (hk : blkC N sc scope own = true)
    (hsz : ds.length ≤ sizeLine) (hb : LcB m N sc scope k own tg elt ifs env f ds)
    (h : Φ (.nx (env.set i (some (.lst ((ds.mapIdx f).filterMap id))))))
    (hsw : (py.line == pos.line) = true := by rfl) (ha : (scope.names.any fun (n, kk) => n == y && (kk == .local || kk == .cell)) = false := by decide +kernel)
    (hs : ∀ en x, foldedSetIterable iter en x = pure x := by intro _ _; rfl) : S1 X (.Assign [.Name y py] (.ListComp elt [⟨tg, iter, ifs, 0⟩] scope pos) spos) env Φ := .mk fun σ G0 H0 G H z E D kk pins s I => by
  have ok : BlkOk X.N X.env.scope scope own := by rw [hX.hN, hX.hS]; exact blkOk_by hk
  have hl' : X.env.scope.names.lookup y = some .local := by rw [hX.hS]; exact hl
  exact WS.of (ps_setLc (i := i) (te := BWE X scope elt) (tt := BWT X scope ifs) (g := BWG X scope tg) (own := own) hX.calm (by rw [hX.hN]; exact hX.nd) (by rw [hX.hN]; exact hi.at_) hl' (sw_true I.ok.kind hl' hsw ha) pWI ok
    (fun s H C cl fp => ⟨fun pins s' σ' H' v u Q' I r h => h s H C cl fp pins s' u I r⟩)
    (fun s H C cl fp => ⟨fun pins s' σ' H' Q' I h => h s H C cl fp pins s' I⟩)
    (fun s H C cl fp => ⟨fun pins s' σ' H' Q' I h => h s H C cl fp pins s' I⟩) (hs _)) (lc_read hX f hit hk hsz hb z.s E fun v G' H' fp x' r n d =>
      kk.nx _ _ G' H' h (z.trans x') (E.fresh x' r n d hn fun a ha => back_none z.h (n a ha))) pins s I
end
end Pu

set_option Elab.async false
set_option linter.all false
set_option autoImplicit false
set_option maxRecDepth 100000
set_option maxHeartbeats 1000001
namespace Pu
open PySem L2
section
variable {X : Cx} {m : Md} {N : List Str} {sc fs : Scope} {k : Nat} {env env' env'' : Ev} {a b c e tg iter elt : Expr} {es tgs ifs : List Expr} {pos : Pos} {body ss : List Stmt} {Φ : Out → Prop}
/-! ### changing lists of one's own -/
/-- a slot that holds a list of one's own: its address, its cells; and the state with the list changed -/
theorem En.own {K : PySem.W.Frag} {H0 G H : Hp} {σ : St} {i : Nat} {os : List Ow} (hH : ∀ a o, H0 a = some o → H a = some o) (E : En K H0 G H σ env) (he : env[i]? = some (some (.lst os))) :
    ∃ p vs fq, σ[i]? = some (some (.ref p)) ∧ H p = some (.lst vs) ∧ G p = none ∧ H0 p = none ∧ ROs K G H os vs fq ∧ p ∉ fq ∧ fq.Nodup ∧
      ∀ (os' : List Ow) (vs' : List V) (fq' : List Addr) (G' H' : Hp), Ex2 G H G' H' → ROs K G' H' os' vs' fq' → p ∉ fq' → fq'.Nodup → (∀ a ∈ fq', a ∈ fq ∨ H a = none) →
        En K H0 G' (upd H' p (.lst vs')) σ (env.set i (some (.lst os'))) := by
  obtain ⟨fp, e1, e2, e3⟩ := E
  obtain ⟨v, fa, f1, fb, q1, q2, q3, q4⟩ := e1.slot he
  subst q2
  simp only [RO] at q3
  obtain ⟨p, vs, fq, rfl, rfl, g1, h1, r1⟩ := q3
  obtain ⟨n1, n2, n3⟩ := List.nodup_append.mp e2
  obtain ⟨n4, n5, n6⟩ := List.nodup_append.mp n2
  obtain ⟨n7, n8⟩ := List.nodup_cons.mp n4
  refine ⟨p, vs, fq, q1, h1, g1, e3 p (by simp), r1, n7, n8, fun os' vs' fq' G' H' x r' np nd hq => ?_⟩
  have hp' : H' p = some (.lst vs) := x.h _ _ h1
  have gp' : G' p = none := x.n p g1 (by rw [h1]; simp)
  have frs : ∀ a ∈ fa ++ fb, upd H' p (.lst vs') a = H a ∧ G' a = none := fun a ha => by
    have hm : a ∈ fa ++ (p :: fq ++ fb) := by
      rcases List.mem_append.mp ha with w | w
      · exact List.mem_append_left _ w
      · exact List.mem_append_right _ (List.mem_append_right _ w)
    obtain ⟨z1, z2⟩ := e1.out a hm
    have nap : a ≠ p := fun z => by
      subst z
      rcases List.mem_append.mp ha with w | w
      · exact n3 a w a (by simp) rfl
      · exact n6 a (by simp) a w rfl
    rw [upd_ne nap]
    refine ⟨?_, x.n a z1 z2⟩
    cases q : H a with
    | none => exact absurd q z2
    | some o => exact x.h a o q
  have eσ : σ.set i (some (V.ref p)) = σ := by
    apply List.ext_getElem?
    intro j
    by_cases z : i = j
    · subst z
      have hi : i < σ.length := (List.getElem?_eq_some_iff.mp q1).1
      rw [List.getElem?_set_self hi, q1]
    · rw [List.getElem?_set_ne z]
  have E2 := q4 G' (upd H' p (.lst vs')) (some (.lst os')) (some (.ref p)) (p :: fq') x.g frs ⟨.ref p, rfl, by
    simp only [RO]
    refine ⟨p, vs', fq', rfl, rfl, gp', upd_same, r'.frame (fun _ _ q => q) fun a ha => ?_⟩
    have : a ≠ p := fun z => np (z ▸ ha)
    rw [upd_ne this]
    exact ⟨rfl, (r'.out a ha).1⟩⟩
  rw [eσ] at E2
  refine ⟨_, E2, ?_, fun a ha => ?_⟩
  · have dis : ∀ a ∈ fa ++ fb, a ∉ p :: fq' := fun a ha z => by
      have hm : a ∈ fa ++ (p :: fq ++ fb) := by
        rcases List.mem_append.mp ha with w | w
        · exact List.mem_append_left _ w
        · exact List.mem_append_right _ (List.mem_append_right _ w)
      have old : a ∉ p :: fq := fun z => by
        rcases List.mem_append.mp ha with w | w
        · exact n3 a w a (List.mem_append_left _ z) rfl
        · exact n6 a z a w rfl
      rcases List.mem_cons.mp z with z | z
      · exact old (by simp [z])
      · rcases hq a z with w | w
        · exact old (List.mem_cons_of_mem _ w)
        · exact (e1.out a hm).2 w
    refine List.nodup_append.mpr ⟨n1, List.nodup_append.mpr ⟨List.nodup_cons.mpr ⟨np, nd⟩, n5, fun a ha b hb q => dis b (List.mem_append_right _ hb) (q ▸ ha)⟩, fun a ha b hb q => ?_⟩
    subst q
    rcases List.mem_append.mp hb with w | w
    · exact dis a (List.mem_append_left _ ha) w
    · exact n3 a ha a (List.mem_append_right _ w) rfl
  · rcases List.mem_append.mp ha with w | w
    · exact e3 a (List.mem_append_left _ w)
    · rcases List.mem_append.mp w with w | w
      · rcases List.mem_cons.mp w with rfl | w
        · exact e3 a (by simp)
        · rcases hq a w with w | w
          · exact e3 a (by simp [w])
          · exact back_none hH w
      · exact e3 a (by simp [w])

theorem wp_mono {K : PySem.W.Frag} {G0 H0 G H G' : Hp} {p : Addr} {o : HO} {H' : Hp} (x : Ex2 G0 H0 G' H') (h0 : H0 p = none) (g : G' p = none) (ht : ∀ xs, o ≠ .tup xs := by intro _ h; cases h) : Ex2 G0 H0 G' (upd H' p o) :=
  ⟨⟨fun a u q => by
    have : a ≠ p := fun z => by rw [z, g] at q; cases q
    rw [upd_ne this]; exact x.s _ _ q, fun a u q => by
    by_cases e : a = p
    · subst e; rw [upd_same] at q; cases q; exact absurd rfl (ht _)
    · rw [upd_ne e] at q; exact x.s.t _ _ q⟩, x.g, fun a u q => by
    have : a ≠ p := fun z => by rw [z, h0] at q; cases q
    rw [upd_ne this]; exact x.h _ _ q, x.n⟩
variable {apos : Pos}
/-- xs.append(e) -/
theorem s1_append (hX : Cs X m N sc fs k) {i : Nat} {x : Str} {os : List Ow} {o : Ow} {p1 : Pos} (hi : Ix N i x) (hv : visB sc x = true) (he : env[i]? = some (some (.lst os))) (hz : os.length < sizeLine) (hp : P X env e o) (h : Φ (.nx (env.set i (some (.lst (os ++ [o]))))))
    (hbase : ∀ en, attributeBase (.Name x p1) "append" en (eval (.Name x p1) en) = eval (.Name x p1) en := by intro _; rfl)
    (hfew : ∀ en, ((backTo pos (starEach [e] en)).all (fun x => !x.1) && (backToKw pos (keywordEach [] en)).all (fun x => x.1.isSome) && decide (([e]).length + ([] : List Keyword).length + (if ([] : List Keyword).isEmpty then 0 else 1) < 30)) = true := by intro _; rfl)
    (hline : (apos.endLine == pos.line) = true := by rfl) (hs : ∀ en, starEach [e] en = [(false, eval e en)] := by intro _; rfl) {pos2 : Pos} :
    S1 X (.Expr (.Call (.Attribute (.Name x p1) "append" apos) [e] [] pos) pos2) env Φ := .mk fun σ G0 H0 G H y E D kk => by
  obtain ⟨p, vs, fq, q1, q2, q3, q4, q5, q6, q7, q8⟩ := E.own y.h he
  refine WS.of (ps_expr (pe_bm PySem.F.plainAttrs_list PySem.F.slot_list_append PySem.F.type_list_append mt_append (pe_var (i := i) (by rw [hX.hN]; exact hi.at_) (by rw [hX.hS]; exact vis_of hv) hi.d1 hi.d2) (pa_cons pWE pa_nil (by rw [hs]; rfl)) (hbase _) (hfew _) hline (by rw [hs]; rfl)) rfl) ?_
  refine ⟨.ref p, q1, .inl ⟨rfl, _, SqL.of q2⟩, ?_⟩
  refine hp.run H0 σ G H y.s E _ fun v G' H' fp x' r n d => ⟨p, vs, v, rfl, rfl, x'.h _ _ q2, by rw [q5.length]; exact hz, ?_⟩
  have hpn : H p ≠ none := by rw [q2]; simp
  have nfp : p ∉ fp := fun z => hpn (n p z)
  have r' : ROs X.K G' H' os vs fq := q5.frame x'.g fun a ha => by
    obtain ⟨z1, z2⟩ := q5.out a ha
    refine ⟨?_, x'.n a z1 z2⟩
    cases q : H a with
    | none => exact absurd q z2
    | some o => exact x'.h a o q
  have dis : ∀ a ∈ fq, a ∉ fp := fun a ha z => (q5.out a ha).2 (n a z)
  refine kk.nx _ σ G' _ h (wp_mono (K := X.K) (G := G) (H := H) (y.trans x') q4 (x'.n p q3 hpn)) (q8 _ _ (fq ++ fp) G' H' x' (r'.append (ROs.one r)) (fun z => ?_) ?_ fun a ha => ?_)
  · rcases List.mem_append.mp z with z | z
    · exact q6 z
    · exact nfp z
  · exact List.nodup_append.mpr ⟨q7, d, fun a ha b hb q => dis a ha (q ▸ hb)⟩
  · rcases List.mem_append.mp ha with z | z
    · exact .inl z
    · exact .inr (n a z)

theorem keepR {K : PySem.W.Frag} {G H G' H' : Hp} {os : List Ow} {vs : List V} {fq : List Addr} (x' : Ex2 G H G' H') (q5 : ROs K G H os vs fq) : ROs K G' H' os vs fq := q5.frame x'.g fun a ha => by
    obtain ⟨z1, z2⟩ := q5.out a ha
    refine ⟨?_, x'.n a z1 z2⟩
    cases q : H a with
    | none => exact absurd q z2
    | some o => exact x'.h a o q
theorem keepO {K : PySem.W.Frag} {G H G' H' : Hp} {o : Ow} {v : V} {fq : List Addr} (x' : Ex2 G H G' H') (q5 : RO K G H o v fq) : RO K G' H' o v fq := q5.frame x'.g fun a ha => by
    obtain ⟨z1, z2⟩ := q5.out a ha
    refine ⟨?_, x'.n a z1 z2⟩
    cases q : H a with
    | none => exact absurd q z2
    | some o => exact x'.h a o q
/-- xs.extend(e) -/
theorem s1_extend (hX : Cs X m N sc fs k) {i : Nat} {x : Str} {os : List Ow} {ds : List D} {p1 : Pos} (hi : Ix N i x) (hv : visB sc x = true) (he : env[i]? = some (some (.lst os))) (hz : os.length + ds.length ≤ sizeLine) (hp : P X env e (.per (.lst ds))) (h : Φ (.nx (env.set i (some (.lst (os ++ ds.map Ow.per))))))
    (hbase : ∀ en, attributeBase (.Name x p1) "extend" en (eval (.Name x p1) en) = eval (.Name x p1) en := by intro _; rfl)
    (hfew : ∀ en, ((backTo pos (starEach [e] en)).all (fun x => !x.1) && (backToKw pos (keywordEach [] en)).all (fun x => x.1.isSome) && decide (([e]).length + ([] : List Keyword).length + (if ([] : List Keyword).isEmpty then 0 else 1) < 30)) = true := by intro _; rfl)
    (hline : (apos.endLine == pos.line) = true := by rfl) (hs : ∀ en, starEach [e] en = [(false, eval e en)] := by intro _; rfl) {pos2 : Pos} :
    S1 X (.Expr (.Call (.Attribute (.Name x p1) "extend" apos) [e] [] pos) pos2) env Φ := .mk fun σ G0 H0 G H y E D kk => by
  obtain ⟨p, vs, fq, q1, q2, q3, q4, q5, q6, q7, q8⟩ := E.own y.h he
  refine WS.of (ps_expr (pe_bm PySem.F.plainAttrs_list PySem.F.slot_list_extend PySem.F.type_list_extend mt_extend (pe_var (i := i) (by rw [hX.hN]; exact hi.at_) (by rw [hX.hS]; exact vis_of hv) hi.d1 hi.d2) (pa_cons pWE pa_nil (by rw [hs]; rfl)) (hbase _) (hfew _) hline (by rw [hs]; rfl)) rfl) ?_
  refine ⟨.ref p, q1, .inl ⟨rfl, _, SqL.of q2⟩, ?_⟩
  refine hp.go y.s E fun v G' H' x' r => ?_
  simp only [Rp] at r
  obtain ⟨b, zs, rfl, r2, r3⟩ := r
  have hpn : H p ≠ none := by rw [q2]; simp
  refine ⟨p, b, vs, zs, rfl, rfl, x'.h _ _ q2, x'.s _ _ r2, by rw [q5.length, r3.length]; exact hz, ?_⟩
  refine kk.nx _ σ G' _ h (wp_mono (K := X.K) (G := G) (H := H) (y.trans x') q4 (x'.n p q3 hpn)) (q8 _ _ (fq ++ []) G' H' x' ((keepR x' q5).append (ROs.per r3)) (by simpa using q6) (by simpa using q7) fun a ha => .inl (by simpa using ha))
/-- xs.clear() -/
theorem s1_clear (hX : Cs X m N sc fs k) {i : Nat} {x : Str} {os : List Ow} {p1 : Pos} (hi : Ix N i x) (hv : visB sc x = true) (he : env[i]? = some (some (.lst os))) (h : Φ (.nx (env.set i (some (.lst [])))))
    (hbase : ∀ en, attributeBase (.Name x p1) "clear" en (eval (.Name x p1) en) = eval (.Name x p1) en := by intro _; rfl) (hline : (apos.endLine == pos.line) = true := by rfl) {pos2 : Pos} :
    S1 X (.Expr (.Call (.Attribute (.Name x p1) "clear" apos) [] [] pos) pos2) env Φ := .mk fun σ G0 H0 G H y E D kk => by
  obtain ⟨p, vs, fq, q1, q2, q3, q4, q5, q6, q7, q8⟩ := E.own y.h he
  refine WS.of (ps_expr (pe_bm0 PySem.F.plainAttrs_list PySem.F.slot_list_clear PySem.F.type_list_clear mt_clear (pe_var (i := i) (by rw [hX.hN]; exact hi.at_) (by rw [hX.hS]; exact vis_of hv) hi.d1 hi.d2) (hbase _) hline) rfl) ?_
  refine ⟨.ref p, q1, .inl ⟨rfl, _, SqL.of q2⟩, p, vs, rfl, rfl, q2, ?_⟩
  refine kk.nx _ σ G _ h (wp_mono (K := X.K) (G := G) (H := H) y q4 q3) (q8 _ _ [] G H (Ex2.refl y.s) (by simp [ROs]) (by simp) List.nodup_nil fun a ha => by cases ha)
theorem ROs.dropLast {K : PySem.W.Frag} {G H : Hp} : ∀ {os : List Ow} {o : Ow} {vs : List V} {fq : List Addr}, ROs K G H (os ++ [o]) vs fq → ∃ vs' v f1 f2, vs = vs' ++ [v] ∧ fq = f1 ++ f2 ∧ ROs K G H os vs' f1 ∧ RO K G H o v f2
  | [], o, vs, fq, h => by
    simp only [List.nil_append, ROs] at h
    obtain ⟨v, _, f1, _, rfl, rfl, h1, rfl, rfl⟩ := h
    exact ⟨[], v, [], f1, rfl, by simp, by simp [ROs], h1⟩
  | p :: os, o, vs, fq, h => by
    simp only [List.cons_append, ROs] at h
    obtain ⟨v, vr, f1, f2, rfl, rfl, h1, h2⟩ := h
    obtain ⟨vs', w, g1, g2, rfl, rfl, k1, k2⟩ := ROs.dropLast h2
    refine ⟨v :: vs', w, f1 ++ g1, g2, rfl, by simp, ?_, k2⟩
    simp only [ROs]
    exact ⟨v, vs', f1, g1, rfl, rfl, h1, k1⟩
/-- xs.pop() -/
theorem s1_pop (hX : Cs X m N sc fs k) {i : Nat} {x : Str} {os : List Ow} {o : Ow} {p1 : Pos} (hi : Ix N i x) (hv : visB sc x = true) (he : env[i]? = some (some (.lst (os ++ [o])))) (h : Φ (.nx (env.set i (some (.lst os)))))
    (hbase : ∀ en, attributeBase (.Name x p1) "pop" en (eval (.Name x p1) en) = eval (.Name x p1) en := by intro _; rfl) (hline : (apos.endLine == pos.line) = true := by rfl) {pos2 : Pos} :
    S1 X (.Expr (.Call (.Attribute (.Name x p1) "pop" apos) [] [] pos) pos2) env Φ := .mk fun σ G0 H0 G H y E D kk => by
  obtain ⟨p, vs, fq, q1, q2, q3, q4, q5, q6, q7, q8⟩ := E.own y.h he
  obtain ⟨vs', v, f1, f2, rfl, rfl, r1, r2⟩ := q5.dropLast
  refine WS.of (ps_expr (pe_bm0 PySem.F.plainAttrs_list PySem.F.slot_list_pop PySem.F.type_list_pop mt_pop (pe_var (i := i) (by rw [hX.hN]; exact hi.at_) (by rw [hX.hS]; exact vis_of hv) hi.d1 hi.d2) (hbase _) hline) rfl) ?_
  refine ⟨.ref p, q1, .inl ⟨rfl, _, SqL.of q2⟩, p, _, v, rfl, rfl, q2, by simp, ?_⟩
  rw [List.dropLast_concat]
  refine kk.nx _ σ G _ h (wp_mono (K := X.K) (G := G) (H := H) y q4 q3) (q8 _ _ f1 G H (Ex2.refl y.s) r1 (fun z => q6 (List.mem_append_left _ z)) (List.nodup_append.mp q7).1 fun a ha => .inl (List.mem_append_left _ ha))
/-- tg = xs.pop() -/
theorem s1_asgPop (hX : Cs X m N sc fs k) {i : Nat} {x : Str} {os : List Ow} {d : D} {js : List Nat} {p1 : Pos} (hi : Ix N i x) (hv : visB sc x = true) (he : env[i]? = some (some (.lst (os ++ [.per d])))) (hg : Tg X (env.set i (some (.lst os))) tg d env' js) (h : Φ (.nx env'))
    (hbase : ∀ en, attributeBase (.Name x p1) "pop" en (eval (.Name x p1) en) = eval (.Name x p1) en := by intro _; rfl) (hline : (apos.endLine == pos.line) = true := by rfl) {pos2 : Pos}
    (hs : ∀ en, swapsWithSole [tg] (.Call (.Attribute (.Name x p1) "pop" apos) [] [] pos) pos2.line en = pure false := by intro _; rfl) (hw : ∀ en, swappedStores [tg] (.Call (.Attribute (.Name x p1) "pop" apos) [] [] pos) en = pure none := by intro _; rfl)
    (h1 : ∀ en, (assignEach [tg] en).map (·.2) = [assign tg en] := by intro _; rfl) :
    S1 X (.Assign [tg] (.Call (.Attribute (.Name x p1) "pop" apos) [] [] pos) pos2) env Φ := .mk fun σ G0 H0 G H y E D kk => by
  obtain ⟨p, vs, fq, q1, q2, q3, q4, q5, q6, q7, q8⟩ := E.own y.h he
  obtain ⟨vs', v, f1, f2, rfl, rfl, r1, r2⟩ := q5.dropLast
  refine WS.of (ps_asg (pe_bm0 PySem.F.plainAttrs_list PySem.F.slot_list_pop PySem.F.type_list_pop mt_pop (pe_var (i := i) (by rw [hX.hN]; exact hi.at_) (by rw [hX.hS]; exact vis_of hv) hi.d1 hi.d2) (hbase _) hline) pWG (hs _) (hw _) (h1 _)) ?_
  refine ⟨.ref p, q1, .inl ⟨rfl, _, SqL.of q2⟩, p, _, v, rfl, rfl, q2, by simp, ?_⟩
  rw [List.dropLast_concat]
  have xx := wp_mono (K := X.K) (G := G) (H := H) (o := HO.lst vs') y q4 q3
  simp only [RO] at r2
  refine hg.run H0 G _ σ v _ xx.s (q8 _ _ f1 G H (Ex2.refl y.s) r1 (fun z => q6 (List.mem_append_left _ z)) (List.nodup_append.mp q7).1 fun a ha => .inl (List.mem_append_left _ ha)) r2.2 fun σ' E' _ => ?_
  exact kk.nx _ σ' G _ h xx E'
theorem ROs.set {K : PySem.W.Frag} {G H : Hp} : ∀ {os : List Ow} {vs : List V} {fp : List Addr} {i : Nat} {o : Ow} {v : V} {f : List Addr}, ROs K G H os vs fp → i < os.length → RO K G H o v f →
    ∃ fp', ROs K G H (os.set i o) (vs.set i v) fp' ∧ (∀ a ∈ fp', a ∈ f ∨ a ∈ fp) ∧ (fp.Nodup → f.Nodup → (∀ a ∈ f, a ∉ fp) → fp'.Nodup)
  | [], vs, fp, i, o, v, f, h, hi, r => by simp at hi
  | p :: os, vs, fp, 0, o, v, f, h, hi, r => by
    simp only [ROs] at h
    obtain ⟨u, q, g1, g2, rfl, rfl, h3, h4⟩ := h
    refine ⟨f ++ g2, by simp only [List.set_cons_zero, ROs]; exact ⟨v, q, f, g2, rfl, rfl, r, h4⟩, fun a ha => ?_, fun n1 n2 d => ?_⟩
    · rcases List.mem_append.mp ha with ha | ha
      · exact .inl ha
      · exact .inr (List.mem_append_right _ ha)
    · exact List.nodup_append.mpr ⟨n2, (List.nodup_append.mp n1).2.1, fun a ha b hb e => d a ha (List.mem_append_right _ (e ▸ hb))⟩
  | p :: os, vs, fp, i + 1, o, v, f, h, hi, r => by
    simp only [ROs] at h
    obtain ⟨u, q, g1, g2, rfl, rfl, h3, h4⟩ := h
    obtain ⟨fp', k1, k2, k3⟩ := ROs.set (i := i) h4 (by simpa using hi) r
    refine ⟨g1 ++ fp', by simp only [List.set_cons_succ, ROs]; exact ⟨u, _, g1, fp', rfl, rfl, h3, k1⟩, fun a ha => ?_, fun n1 n2 d => ?_⟩
    · rcases List.mem_append.mp ha with ha | ha
      · exact .inr (List.mem_append_left _ ha)
      · rcases k2 a ha with z | z
        · exact .inl z
        · exact .inr (List.mem_append_right _ z)
    · obtain ⟨m1, m2, m3⟩ := List.nodup_append.mp n1
      refine List.nodup_append.mpr ⟨m1, k3 m2 n2 fun a ha hb => d a ha (List.mem_append_right _ hb), fun a ha b hb e => ?_⟩
      subst e
      rcases k2 a hb with z | z
      · exact d a z (List.mem_append_left _ ha)
      · exact m3 a ha a z rfl
/-- xs[b] = e -/
theorem s1_setItem (hX : Cs X m N sc fs k) {i : Nat} {x : Str} {os : List Ow} {o : Ow} {j : Int} {n : Nat} {p1 p2 p3 : Pos} (hi : Ix N i x) (hv : visB sc x = true) (he : env[i]? = some (some (.lst os))) (hj : ixN os.length j = some n) (hp : P X env e o) (hb : P X env b (.per (.int j)))
    (h : Φ (.nx (env.set i (some (.lst (os.set n o))))))
    (ha : ∀ en v, assign (.Subscript (.Name x p1) b p2) en v = (do
      let ov ← holding [v] (eval (.Name x p1) en)
      let iv ← holding [v, ov] (eval b en)
      standAt p2
      holding [v, ov, iv] (setItem ov iv v)
      release [v, ov, iv] []) := by intro _ _; rfl)
    (hs : ∀ en, swapsWithSole [.Subscript (.Name x p1) b p2] e p3.line en = pure false := by intro _; rfl) (hw : ∀ en, swappedStores [.Subscript (.Name x p1) b p2] e en = pure none := by intro _; rfl)
    (h1 : ∀ en, (assignEach [.Subscript (.Name x p1) b p2] en).map (·.2) = [assign (.Subscript (.Name x p1) b p2) en] := by intro _; rfl) :
    S1 X (.Assign [.Subscript (.Name x p1) b p2] e p3) env Φ := .mk fun σ G0 H0 G H y E D kk => by
  refine WS.of (ps_asg pWE (pg_sub (pe_var (i := i) (by rw [hX.hN]; exact hi.at_) (by rw [hX.hS]; exact vis_of hv) hi.d1 hi.d2) pWE set_list (ha _)) (hs _) (hw _) (h1 _)) ?_
  obtain ⟨p, vs, fq, q1, q2, q3, q4, q5, q6, q7, q8⟩ := E.own y.h he
  refine hp.run H0 σ G H y.s E _ fun v G1 H1 fp x1 r1 n1 d1 => ?_
  refine ⟨.ref p, q1, ?_⟩
  refine hb.go x1.s (E.later x1) fun w G2 H2 x2 r2 => ?_
  simp only [Rp] at r2
  subst r2
  have hpn : H p ≠ none := by rw [q2]; simp
  have x12 := x1.trans x2
  refine ⟨p, vs, j, n, rfl, rfl, x12.h _ _ q2, by rw [q5.length]; exact hj, ?_⟩
  have hn : n < os.length := by
    unfold ixN at hj
    split at hj
    · split at hj
      · cases hj; omega
      · cases hj
    · split at hj
      · cases hj; omega
      · cases hj
  obtain ⟨fq', k1, k2, k3⟩ := ROs.set (keepR x12 q5) hn (keepO x2 r1)
  refine kk.nx _ σ G2 _ h (wp_mono (K := X.K) (G := G) (H := H) (y.trans x12) q4 (x12.n p q3 hpn)) (q8 _ _ fq' G2 H2 x12 k1 (fun z => ?_) (k3 q7 d1 fun a ha z => (q5.out a z).2 (n1 a ha)) fun a ha => ?_)
  · rcases k2 p z with z | z
    · exact hpn (n1 p z)
    · exact q6 z
  · rcases k2 a ha with z | z
    · exact .inr (n1 a z)
    · exact .inl z
end
end Pu

set_option Elab.async false
set_option linter.all false
set_option autoImplicit false
set_option maxRecDepth 100000
set_option maxHeartbeats 1000001
namespace Pu
open PySem L2
open PyProof.Rows (envOfC)
/-- how a call ends -/
inductive Res where
  | ok (o : Ow) | ex (c : Xc)
def GvR (K : PySem.W.Frag) (G H : Hp) : Res → VK → XK → Prop
  | .ok o, Q, _ => Gv K G H o Q
  | .ex c, _, E => ∀ cls d G' H', Ex2 G H G' H' → RX K G' c cls d → E cls d H'
/-- a def's promise over data: R tells which arguments are taken and what comes of them -/
def spP (K : PySem.W.Frag) (R : List D → Res → Prop) : Sp := fun vs H Q E => ∃ G ds r, Sub G H ∧ Rps K G ds vs ∧ R ds r ∧ GvR K G H r Q E
/-- the module's def x, with n arguments, keeps R -/
def FnX (m : Md) (k : Nat) (x : Str) (n : Nat) (R : List D → Res → Prop) : Prop := ∃ (f : Addr) (fd : FuncData) (ps : List Str), ps.length = n ∧ m.mg x = some (.ref f) ∧ PySem.W.keepIn m.K (.ref f) = true ∧ Binds m.K fd ps [] ∧ FnOk m.P m.w m.K m.mg m.base (L2.CX m.P m.w) k f fd ps (spP m.K R)
/-- a def that never raises -/
def noX (R : List D → Ow → Prop) : List D → Res → Prop := fun ds r => ∃ o, r = .ok o ∧ R ds o
abbrev FnAt (m : Md) (k : Nat) (x : Str) (n : Nat) (R : List D → Ow → Prop) : Prop := FnX m k x n (noX R)
/-- what a body does -/
def RetR : Res → Out → Prop
  | .ok o, .rt o' _ => o' = o
  | .ok o, .nx _ => o = .per .non
  | .ex c, .ex c' _ => c' = c
  | _, _ => False
/-- a body gives o -/
def Ret (o : Ow) : Out → Prop
  | .rt o' _ => o' = o
  | .nx _ => o = .per .non
  | _ => False
/-- the slots at a def's entry -/
def ent (N : List Str) (ds : List D) : Ev := ds.map (fun d => some (Ow.per d)) ++ List.replicate (N.length - ds.length) none
theorem ens_none {K : PySem.W.Frag} {G H : Hp} : ∀ n : Nat, Ens K G H (List.replicate n none) (List.replicate n none) []
  | 0 => ⟨rfl, rfl⟩
  | n + 1 => ⟨none, _, rfl, ens_none n⟩
theorem ens_args {K : PySem.W.Frag} {G H : Hp} {env : Ev} {σ : St} : ∀ {ds : List D} {vs : List V}, Rps K G ds vs → Ens K G H env σ [] → Ens K G H (ds.map (fun d => some (Ow.per d)) ++ env) (vs.map some ++ σ) []
  | [], _, h, h' => by simp only [Rps] at h; subst h; exact h'
  | d :: ds, _, h, h' => by
    simp only [Rps] at h
    obtain ⟨v, vs, rfl, h2, h3⟩ := h
    exact ⟨v, _, [], [], rfl, rfl, by simp only [RO]; exact ⟨trivial, h2⟩, ens_args h3 h'⟩
/-- a body's frame (not a comprehension's) -/
structure Ft (X : Cx) (sc : Scope) : Prop where
  hs : X.stack = X.env :: X.outer
  hf : X.env.frame = some X.env.locals
  kd : ∀ x, sc.names.lookup x = some .local → X.env.kindOf x = some .local
  hx : X.ex = []
theorem En.pop {K : PySem.W.Frag} {H0 G H : Hp} {σ : St} {env : Ev} {o : Ow} {v : V} (E : En K H0 G H (some v :: σ) (some o :: env)) : ∃ fp, RO K G H o v fp ∧ fp.Nodup ∧ ∀ a ∈ fp, H0 a = none := by
  obtain ⟨fp, ⟨v', r, f1, f2, e1, rfl, r1, _⟩, n, h0⟩ := E
  cases e1
  exact ⟨f1, r1, (List.nodup_append.mp n).1, fun a ha => h0 a (List.mem_append_left _ ha)⟩
section
variable {m : Md} {N ps : List Str} {k : Nat} {x qual : Str} {params : Arguments} {body : List Stmt} {scope : Scope} {kws : List (Str × V)} {f : Addr} {fd : FuncData} {R : List D → Res → Prop}
theorem cs_of (Sc : FnScope N ps scope) {cdv : Value} {A : Around} {outer : List Env} {s : Shared} {H : Hp} {E : XK} (hr : Room k (A.deeper (envOfC qual scope s.heap.objs.size f cdv))) :
    Cs (cxOf (L2.CX m.P m.w) m.P m.w m.K m.mg m.base N qual scope f cdv A outer s H E) m N scope scope k :=
  ⟨rfl, rfl, rfl, rfl, rfl, rfl, rfl, rfl, hr, Sc.nd, fun _ _ => rfl, passes_of (E₁ := fun e' s'' => L2.CX m.P m.w outer H s E e' s'') rfl⟩
theorem ft_of {cdv : Value} {A : Around} {outer : List Env} {s : Shared} {H : Hp} {E : XK} : Ft (cxOf (L2.CX m.P m.w) m.P m.w m.K m.mg m.base N qual scope f cdv A outer s H E) scope := ⟨rfl, rfl, fun _ h => h, rfl⟩
theorem fnOkT (F : FunD m.K x qual params body scope [] kws f fd) (Sc : FnScope N ps scope) (hR : ∀ ds o, R ds o → ds.length = ps.length)
    (h : ∀ X, Cs X m N scope scope k → Ft X scope → ∀ ds r, R ds r → S X body (ent N ds) (RetR r)) : FnOk m.P m.w m.K m.mg m.base (L2.CX m.P m.w) (k + 1) f fd ps (spP m.K R) := by
  refine F.ok Sc (fun vs H Q E ⟨G, ds, o, _, r, hr, _⟩ => by rw [r.length]; exact hR ds o hr) fun cdv A outer s H vs Q E hr hsp => ?_
  obtain ⟨G, ds, rr, sub, r, hRd, g⟩ := hsp
  refine ⟨WSs (cxOf (L2.CX m.P m.w) m.P m.w m.K m.mg m.base N qual scope f cdv A outer s H E) body, pWSs, ?_⟩
  have hl := r.length
  refine (h _ (cs_of Sc hr) ft_of ds rr hRd).run (L2.start N vs) G H G H (Ex2.refl sub) ⟨[], ?_, List.nodup_nil, fun a ha => by cases ha⟩ _ ⟨?_, ?_, ?_, ?_, ?_⟩
  · unfold ent L2.start
    rw [hl]
    exact ens_args r (ens_none _)
  · intro env σ G' H' ho x' E'
    cases rr with
    | ok o =>
      have ho : o = .per .non := ho
      subst ho
      exact g .non G' H' [] x' (by simp only [RO, Rp]; exact ⟨trivial, trivial⟩) (fun a ha => by cases ha) List.nodup_nil
    | ex c => exact ho.elim
  · intro env σ G' H' ho; cases rr <;> exact ho.elim
  · intro env σ G' H' ho; cases rr <;> exact ho.elim
  · intro o' env v σ G' H' ho x' E'
    cases rr with
    | ok o =>
      have ho : o' = o := ho
      subst ho
      obtain ⟨fp, r', d', n'⟩ := E'.pop
      exact g v G' H' fp x' r' n' d'
    | ex c => exact ho.elim
  · refine ⟨_, takes_of (E := E) (E₁ := fun e' s'' => L2.CX m.P m.w outer H s E e' s'') rfl rfl rfl rfl, fun c env cls d σ G' H' ho x' E' rx => ?_⟩
    cases rr with
    | ok o => exact ho.elim
    | ex c' =>
      have ho : c = c' := ho
      subst ho
      exact g cls d G' H' x' rx
theorem fnX (F : FunD m.K x qual params body scope [] kws f fd) (Sc : FnScope N ps scope) (hm : m.mg x = some (.ref f)) (hb : Binds m.K fd ps []) (hR : ∀ ds o, R ds o → ds.length = ps.length)
    (h : ∀ X, Cs X m N scope scope k → Ft X scope → ∀ ds r, R ds r → S X body (ent N ds) (RetR r)) : FnX m (k + 1) x ps.length R := ⟨f, fd, ps, rfl, hm, F.kp, hb, fnOkT F Sc hR h⟩
end
section
variable {m : Md} {N ps : List Str} {k : Nat} {x qual : Str} {params : Arguments} {body : List Stmt} {scope : Scope} {kws : List (Str × V)} {f : Addr} {fd : FuncData} {R : List D → Ow → Prop}
theorem fnOk (F : FunD m.K x qual params body scope [] kws f fd) (Sc : FnScope N ps scope) (hR : ∀ ds o, R ds o → ds.length = ps.length)
    (h : ∀ X, Cs X m N scope scope k → ∀ ds o, R ds o → S X body (ent N ds) (Ret o)) : FnOk m.P m.w m.K m.mg m.base (L2.CX m.P m.w) (k + 1) f fd ps (spP m.K (noX R)) :=
  fnOkT F Sc (fun ds r ⟨o, _, q⟩ => hR ds o q) fun X hX _ ds r ⟨o, e, q⟩ => (h X hX ds o q).imp fun u hu => by
    subst e
    cases u <;> first | exact hu | exact hu.elim
theorem fnAt (F : FunD m.K x qual params body scope [] kws f fd) (Sc : FnScope N ps scope) (hm : m.mg x = some (.ref f)) (hb : Binds m.K fd ps []) (hR : ∀ ds o, R ds o → ds.length = ps.length)
    (h : ∀ X, Cs X m N scope scope k → ∀ ds o, R ds o → S X body (ent N ds) (Ret o)) : FnAt m (k + 1) x ps.length R := ⟨f, fd, ps, rfl, hm, F.kp, hb, fnOk F Sc hR h⟩
end
/-- nothing is raised -/
theorem passN {X : Cx} {P : Program} {w : World} : Passes (L2.CX P w) X E0 := fun _ _ _ _ _ _ _ ⟨_, _, _, _, _, _, _, _, _, _, _, _, h⟩ => h.elim
section
variable {X : Cx} {m : Md} {N : List Str} {sc fs : Scope} {k j n : Nat} {env : Ev} {e : Expr} {es : List Expr} {pos p : Pos} {x : Str} {R : List D → Res → Prop} {ds : List D} {o : Ow}
theorem p_callX (hX : Cs X m N sc fs k) (F : FnX m j x n R) (hj : j ≤ k) (hg : gloB sc x = true) (ha : As X env (e :: es) ds) (hR : R ds (.ok o)) (hdb : (x == ("__debug__" : Str)) = false := by decide +kernel)
    (he : ∀ en, starEach (e :: es) en = (false, eval e en) :: starEach es en := by intro _; rfl) (hpl : ∀ en, (backTo pos (starEach es en)).any (·.1) = false := by intro _; rfl) : P X env (.Call (.Name x p) (e :: es) [] pos) o := .mk fun H0 σ G H s E Q g => by
  obtain ⟨f, fd, ps, hn, hm, hk, hb, F⟩ := F
  have F' : FnOk X.prog X.w X.K X.mg X.base (L2.CX m.P m.w) j f fd ps (spP X.K R) := by rw [hX.hP, hX.hW, hX.hK, hX.hM, hX.hB]; exact F
  refine WE.of (pe_call F' (hX.room.mono hj) (hX.gl hg) (by rw [hX.hM]; exact hm) (by rw [hX.hK]; exact hk) (by rw [hX.hK]; exact hb) .nil passN pWA hdb (he _) (hpl _)) ?_
  refine ha.run H0 σ G H s E _ fun vs G1 H1 x1 r1 => ⟨G1, ds, .ok o, x1.s, by rw [List.append_nil]; exact r1, hR, g.trans x1⟩
theorem p_callX0 (hX : Cs X m N sc fs k) (F : FnX m j x n R) (hj : j ≤ k) (hg : gloB sc x = true) (hR : R [] (.ok o)) (hdb : (x == ("__debug__" : Str)) = false := by decide +kernel) : P X env (.Call (.Name x p) [] [] pos) o := .mk fun H0 σ G H s E Q g => by
  obtain ⟨f, fd, ps, hn, hm, hk, hb, F⟩ := F
  have F' : FnOk X.prog X.w X.K X.mg X.base (L2.CX m.P m.w) j f fd ps (spP X.K R) := by rw [hX.hP, hX.hW, hX.hK, hX.hM, hX.hB]; exact F
  refine WE.of (pe_call0 F' (hX.room.mono hj) (hX.gl hg) (by rw [hX.hM]; exact hm) (by rw [hX.hK]; exact hk) (by rw [hX.hK]; exact hb) .nil passN hdb) ?_
  exact ⟨G, [], .ok o, s, by simp only [List.append_nil, Rps], hR, g⟩
end
section
variable {X : Cx} {m : Md} {N : List Str} {sc fs : Scope} {k j n : Nat} {env : Ev} {e : Expr} {es : List Expr} {pos p : Pos} {x : Str} {R : List D → Ow → Prop} {ds : List D} {o : Ow}
theorem p_call (hX : Cs X m N sc fs k) (F : FnAt m j x n R) (hj : j ≤ k) (hg : gloB sc x = true) (ha : As X env (e :: es) ds) (hR : R ds o) (hdb : (x == ("__debug__" : Str)) = false := by decide +kernel)
    (he : ∀ en, starEach (e :: es) en = (false, eval e en) :: starEach es en := by intro _; rfl) (hpl : ∀ en, (backTo pos (starEach es en)).any (·.1) = false := by intro _; rfl) : P X env (.Call (.Name x p) (e :: es) [] pos) o :=
  p_callX hX F hj hg ha ⟨o, rfl, hR⟩ hdb he hpl
theorem p_call0 (hX : Cs X m N sc fs k) (F : FnAt m j x n R) (hj : j ≤ k) (hg : gloB sc x = true) (hR : R [] o) (hdb : (x == ("__debug__" : Str)) = false := by decide +kernel) : P X env (.Call (.Name x p) [] [] pos) o :=
  p_callX0 hX F hj hg ⟨o, rfl, hR⟩ hdb
end
end Pu

set_option Elab.async false
set_option linter.all false
set_option autoImplicit false
set_option maxRecDepth 100000
set_option maxHeartbeats 1000001
namespace Pu
open PySem L2
/-! ### kinds -/
def D.pl (d : D) : Bool := (tyN d).isSome
def D.isInt : D → Bool | .int _ => true | .bl _ => true | _ => false
def D.isBool : D → Bool | .bl _ => true | _ => false
def D.isStr : D → Bool | .str _ => true | _ => false
def D.isList : D → Bool | .lst _ => true | .fz _ => true | _ => false
def D.isTuple : D → Bool | .tup _ => true | .ft _ => true | _ => false
def D.isDict : D → Bool | .dK _ _ => true | .dT _ _ => true | .dL _ _ => true | _ => false
section
variable {X : Cx} {m : Md} {N : List Str} {sc fs : Scope} {k : Nat} {env : Ev} {a b c e : Expr} {es : List Expr} {pos p p' : Pos} {d : D}
theorem p_isK (hX : Cs X m N sc fs k) {x : Str} {n : String} {q : D → Bool} (hk : ∀ d t, tyN d = some t → kitB t n = some (q d)) (hb : bltT x n = true) (hd : d.pl = true) (hg : gloB sc "isinstance" = true) (hm : m.mg "isinstance" = none) (hg2 : gloB sc x = true) (hm2 : m.mg x = none) (ha : P X env a (.per d))
    (he : ∀ en, starEach [a, .Name x p'] en = [(false, eval a en), (false, eval (.Name x p') en)] := by intro _; rfl) : P X env (.Call (.Name "isinstance" p) [a, .Name x p'] [] pos) (.per (.bl (q d))) := by
  cases ht : tyN d with
  | none => unfold D.pl at hd; rw [ht] at hd; cases hd
  | some t => exact p_isi hX ht (hk d t ht) hg hm ha (p_ty hX hg2 hm2 hb) he
theorem kI (d : D) (t : String) (h : tyN d = some t) : kitB t "int" = some d.isInt := by
  cases d <;> simp only [tyN] at h <;> cases h <;> simp only [D.isInt] <;> decide +kernel
theorem kB (d : D) (t : String) (h : tyN d = some t) : kitB t "bool" = some d.isBool := by
  cases d <;> simp only [tyN] at h <;> cases h <;> simp only [D.isBool] <;> decide +kernel
theorem kS (d : D) (t : String) (h : tyN d = some t) : kitB t "str" = some d.isStr := by
  cases d <;> simp only [tyN] at h <;> cases h <;> simp only [D.isStr] <;> decide +kernel
theorem kL (d : D) (t : String) (h : tyN d = some t) : kitB t "list" = some d.isList := by
  cases d <;> simp only [tyN] at h <;> cases h <;> simp only [D.isList] <;> decide +kernel
theorem kT (d : D) (t : String) (h : tyN d = some t) : kitB t "tuple" = some d.isTuple := by
  cases d <;> simp only [tyN] at h <;> cases h <;> simp only [D.isTuple] <;> decide +kernel
theorem kD (d : D) (t : String) (h : tyN d = some t) : kitB t "dict" = some d.isDict := by
  cases d <;> simp only [tyN] at h <;> cases h <;> simp only [D.isDict] <;> decide +kernel
variable (hX : Cs X m N sc fs k) (hd : d.pl = true) (hg : gloB sc "isinstance" = true) (hm : m.mg "isinstance" = none)
include hX hd hg hm
theorem p_isInt (hg2 : gloB sc "int" = true) (hm2 : m.mg "int" = none) (ha : P X env a (.per d)) (he : ∀ en, starEach [a, .Name "int" p'] en = [(false, eval a en), (false, eval (.Name "int" p') en)] := by intro _; rfl) : P X env (.Call (.Name "isinstance" p) [a, .Name "int" p'] [] pos) (.per (.bl d.isInt)) := p_isK hX kI (by decide +kernel) hd hg hm hg2 hm2 ha he
theorem p_isBool (hg2 : gloB sc "bool" = true) (hm2 : m.mg "bool" = none) (ha : P X env a (.per d)) (he : ∀ en, starEach [a, .Name "bool" p'] en = [(false, eval a en), (false, eval (.Name "bool" p') en)] := by intro _; rfl) : P X env (.Call (.Name "isinstance" p) [a, .Name "bool" p'] [] pos) (.per (.bl d.isBool)) := p_isK hX kB (by decide +kernel) hd hg hm hg2 hm2 ha he
theorem p_isStr (hg2 : gloB sc "str" = true) (hm2 : m.mg "str" = none) (ha : P X env a (.per d)) (he : ∀ en, starEach [a, .Name "str" p'] en = [(false, eval a en), (false, eval (.Name "str" p') en)] := by intro _; rfl) : P X env (.Call (.Name "isinstance" p) [a, .Name "str" p'] [] pos) (.per (.bl d.isStr)) := p_isK hX kS (by decide +kernel) hd hg hm hg2 hm2 ha he
theorem p_isList (hg2 : gloB sc "list" = true) (hm2 : m.mg "list" = none) (ha : P X env a (.per d)) (he : ∀ en, starEach [a, .Name "list" p'] en = [(false, eval a en), (false, eval (.Name "list" p') en)] := by intro _; rfl) : P X env (.Call (.Name "isinstance" p) [a, .Name "list" p'] [] pos) (.per (.bl d.isList)) := p_isK hX kL (by decide +kernel) hd hg hm hg2 hm2 ha he
theorem p_isTuple (hg2 : gloB sc "tuple" = true) (hm2 : m.mg "tuple" = none) (ha : P X env a (.per d)) (he : ∀ en, starEach [a, .Name "tuple" p'] en = [(false, eval a en), (false, eval (.Name "tuple" p') en)] := by intro _; rfl) : P X env (.Call (.Name "isinstance" p) [a, .Name "tuple" p'] [] pos) (.per (.bl d.isTuple)) := p_isK hX kT (by decide +kernel) hd hg hm hg2 hm2 ha he
end
/-! ### chains of two comparisons of ints -/
section
variable {X : Cx} {m : Md} {N : List Str} {sc fs : Scope} {k : Nat} {env : Ev} {a b c e : Expr} {es : List Expr} {pos p p' : Pos} {i j l : Int}
theorem p_chain {op op' : CmpOp} {f f' : Int → Int → Bool} (ho : OpR X (compareOp op) (rI0 fun i j => .bl (f i j))) (ho' : OpR X (compareOp op') (rI0 fun i j => .bl (f' i j))) (ha : P X env a (.per (.int i))) (hb : P X env b (.per (.int j))) (hc : P X env c (.per (.int l)))
    (hm : lastMarks [op, op'] [b, c] = false) : P X env (.Compare a [op, op'] [b, c] pos) (.per (.bl (f i j && f' j l))) := .mk fun H0 σ G H s E Q g =>
  WE.of (pe_chain ho ho' pWE pWE pWE hm) (ha.go s E fun x G1 H1 x1 r1 => hb.go x1.s (E.later x1) fun y G2 H2 x2 r2 => by
    simp only [Rp] at r1 r2
    refine ⟨i, j, r1, r2, f i j, rfl, ?_⟩
    cases q : f i j with
    | false =>
      rw [q] at g
      exact iteF ((g.trans (x1.trans x2)).val x2.s (by simp [Rp]))
    | true =>
      rw [q] at g
      refine iteT (hc.go x2.s ((E.later x1).later x2) fun z G3 H3 x3 r3 => ?_)
      simp only [Rp] at r3
      exact ⟨j, l, r2, r3, (g.trans (x1.trans (x2.trans x3))).val x3.s (by simp [Rp])⟩)
theorem p_leLe (ha : P X env a (.per (.int i))) (hb : P X env b (.per (.int j))) (hc : P X env c (.per (.int l))) (hm : lastMarks [.LtE, .LtE] [b, c] = false := by with_unfolding_all rfl) : P X env (.Compare a [.LtE, .LtE] [b, c] pos) (.per (.bl (decide (i ≤ j) && decide (j ≤ l)))) :=
  p_chain (f := fun i j => decide (i ≤ j)) (f' := fun i j => decide (i ≤ j)) op_le op_le ha hb hc hm
end
/-! ### equality of data -/
mutual
def toPy : D → PyData
  | .non => .none
  | .bl b => .bool b
  | .int i => .int i
  | .str x => .str x
  | .lst xs => .list (toPys xs)
  | .fz xs => .list (toPys xs)
  | .tup xs => .tuple (toPys xs)
  | .ft xs => .tuple (toPys xs)
  | _ => .dict []
def toPys : List D → List PyData
  | [] => []
  | d :: ds => toPy d :: toPys ds
end
mutual
/-- data of lists and tuples, at most n deep -/
def D.flat : Nat → D → Bool
  | _, .non => true
  | _, .bl _ => true
  | _, .int _ => true
  | _, .str x => PyData.strOk x
  | n, .lst xs => match n with | 0 => false | n + 1 => flats n xs
  | n, .fz xs => match n with | 0 => false | n + 1 => flats n xs
  | n, .tup xs => match n with | 0 => false | n + 1 => flats n xs
  | n, .ft xs => match n with | 0 => false | n + 1 => flats n xs
  | _, _ => false
def flats : Nat → List D → Bool
  | _, [] => true
  | n, d :: ds => D.flat n d && flats n ds
end
theorem flats_all {n : Nat} : ∀ {ds : List D}, flats n ds = ds.all (D.flat n)
  | [] => rfl
  | d :: ds => by simp only [flats, List.all_cons, flats_all]

section
variable {K : PySem.W.Frag} {G H : Hp}
mutual
theorem Rp.dp (s : Sub G H) : ∀ {n : Nat} {d : D} {v : V}, D.flat n d = true → Rp K G d v → Dp K H v (toPy d)
  | _, .non, v, _, h => by simp only [Rp] at h; subst h; exact .non
  | _, .bl b, v, _, h => by simp only [Rp] at h; subst h; exact .bl b
  | _, .int b, v, _, h => by simp only [Rp] at h; subst h; exact .int b
  | _, .str b, v, _, h => by simp only [Rp] at h; subst h; exact .str b
  | 0, .lst ds, v, f, h => by simp [D.flat] at f
  | n + 1, .lst ds, v, f, h => by
    simp only [Rp] at h
    obtain ⟨a, xs, rfl, h2, h3⟩ := h
    simp only [toPy]
    exact .lst (SqL.of (s _ _ h2)) (Rps.dp s (n := n) (by simpa only [D.flat] using f) h3)
  | 0, .fz ds, v, f, h => by simp [D.flat] at f
  | n + 1, .fz ds, v, f, h => by
    simp only [Rp] at h
    obtain ⟨a, xs, rfl, h2, h3⟩ := h
    simp only [toPy]
    exact .lst (sub_sqL s h2) (Rps.dp s (n := n) (by simpa only [D.flat] using f) h3)
  | 0, .tup ds, v, f, h => by simp [D.flat] at f
  | 0, .ft ds, v, f, h => by simp [D.flat] at f
  | n + 1, .ft ds, v, f, h => by
    simp only [Rp] at h
    obtain ⟨a, xs, rfl, h2, h3⟩ := h
    simp only [toPy]
    exact .tup (sub_sqT s h2) (Rps.dp s (n := n) (by simpa only [D.flat] using f) h3)
  | n + 1, .tup ds, v, f, h => by
    simp only [Rp] at h
    obtain ⟨a, xs, rfl, h2, h3⟩ := h
    simp only [toPy]
    exact .tup (SqT.of (s _ _ h2)) (Rps.dp s (n := n) (by simpa only [D.flat] using f) h3)
  | _, .ty _, v, f, h => by simp [D.flat] at f
  | _, .adr _, v, f, h => by simp [D.flat] at f
  | _, .obj _ _ _, v, f, h => by simp [D.flat] at f
  | _, .exc _ _ _, v, f, h => by simp [D.flat] at f
  | _, .dK _ _, v, f, h => by simp [D.flat] at f
  | _, .dT _ _, v, f, h => by simp [D.flat] at f
  | _, .dL _ _, v, f, h => by simp [D.flat] at f
theorem Rps.dp (s : Sub G H) : ∀ {n : Nat} {ds : List D} {vs : List V}, flats n ds = true → Rps K G ds vs → DpAll K H vs (toPys ds)
  | _, [], vs, _, h => by simp only [Rps] at h; subst h; exact .nil
  | n, d :: ds, vs, f, h => by
    simp only [Rps] at h
    obtain ⟨v, vr, rfl, h2, h3⟩ := h
    simp only [flats, Bool.and_eq_true] at f
    simp only [toPys]
    exact .cons (Rp.dp s f.1 h2) (Rps.dp s f.2 h3)
end
mutual
theorem flat_lay : ∀ {n : Nat} {d : D}, D.flat n d = true → (toPy d).canLay0 = true ∧ (toPy d).depth ≤ n
  | _, .non, _ => ⟨rfl, Nat.zero_le _⟩
  | _, .bl b, _ => ⟨rfl, Nat.zero_le _⟩
  | _, .int b, _ => ⟨rfl, Nat.zero_le _⟩
  | _, .str b, f => ⟨by simpa only [D.flat, toPy, PyData.canLay0] using f, Nat.zero_le _⟩
  | 0, .lst ds, f => by simp [D.flat] at f
  | n + 1, .lst ds, f => by
    obtain ⟨h1, h2⟩ := flats_lay (n := n) (ds := ds) (by simpa only [D.flat] using f)
    simp only [toPy, PyData.canLay0, PyData.depth]
    exact ⟨h1, Nat.succ_le_succ h2⟩
  | 0, .fz ds, f => by simp [D.flat] at f
  | n + 1, .fz ds, f => by
    obtain ⟨h1, h2⟩ := flats_lay (n := n) (ds := ds) (by simpa only [D.flat] using f)
    simp only [toPy, PyData.canLay0, PyData.depth]
    exact ⟨h1, Nat.succ_le_succ h2⟩
  | 0, .tup ds, f => by simp [D.flat] at f
  | 0, .ft ds, f => by simp [D.flat] at f
  | n + 1, .ft ds, f => by
    obtain ⟨h1, h2⟩ := flats_lay (n := n) (ds := ds) (by simpa only [D.flat] using f)
    simp only [toPy, PyData.canLay0, PyData.depth]
    exact ⟨h1, Nat.succ_le_succ h2⟩
  | n + 1, .tup ds, f => by
    obtain ⟨h1, h2⟩ := flats_lay (n := n) (ds := ds) (by simpa only [D.flat] using f)
    simp only [toPy, PyData.canLay0, PyData.depth]
    exact ⟨h1, Nat.succ_le_succ h2⟩
  | _, .ty _, f => by simp [D.flat] at f
  | _, .adr _, f => by simp [D.flat] at f
  | _, .obj _ _ _, f => by simp [D.flat] at f
  | _, .exc _ _ _, f => by simp [D.flat] at f
  | _, .dK _ _, f => by simp [D.flat] at f
  | _, .dT _ _, f => by simp [D.flat] at f
  | _, .dL _ _, f => by simp [D.flat] at f
theorem flats_lay : ∀ {n : Nat} {ds : List D}, flats n ds = true → PyData.canLayAll0 (toPys ds) = true ∧ PyData.depthAll (toPys ds) ≤ n
  | _, [], _ => ⟨rfl, Nat.zero_le _⟩
  | n, d :: ds, f => by
    simp only [flats, Bool.and_eq_true] at f
    obtain ⟨h1, h2⟩ := flat_lay f.1
    obtain ⟨h3, h4⟩ := flats_lay f.2
    simp only [toPys, PyData.canLayAll0, PyData.depthAll, h1, h3, Bool.and_self, true_and]
    omega
end
theorem flat_shaped {n : Nat} {d : D} (h : D.flat n d = true) (hn : n ≤ 64) : SeqAt.shaped (toPy d) = true := by
  obtain ⟨h1, h2⟩ := flat_lay h
  unfold SeqAt.shaped
  rw [h1]
  simp
  omega
end
/-- == of data -/
def D.eqv (a b : D) : Bool := PyData.eqv (toPy a) (toPy b)
def eqvs (a b : List D) : Bool := PyData.eqvAll (toPys a) (toPys b)
theorem eqv_lst (a b : List D) : D.eqv (.lst a) (.lst b) = eqvs a b := by simp only [D.eqv, toPy, PyData.eqv, eqvs]
theorem eqv_tup (a b : List D) : D.eqv (.tup a) (.tup b) = eqvs a b := by simp only [D.eqv, toPy, PyData.eqv, eqvs]
theorem eqvs_cons (a b : D) (as bs : List D) : eqvs (a :: as) (b :: bs) = (D.eqv a b && eqvs as bs) := by simp only [eqvs, toPys, PyData.eqvAll, D.eqv]
theorem eqvs_nil : eqvs [] [] = true := by simp only [eqvs, toPys, PyData.eqvAll]
theorem eqvs_nc (b : D) (bs : List D) : eqvs [] (b :: bs) = false := by simp only [eqvs, toPys, PyData.eqvAll]
theorem eqvs_cn (b : D) (bs : List D) : eqvs (b :: bs) [] = false := by simp only [eqvs, toPys, PyData.eqvAll]
theorem eqv_int (a b : Int) : D.eqv (.int a) (.int b) = (a == b) := by simp only [D.eqv, toPy, PyData.eqv]
theorem eqv_str (a b : Str) : D.eqv (.str a) (.str b) = (a == b) := by simp only [D.eqv, toPy, PyData.eqv]
theorem eqv_bl (a b : Bool) : D.eqv (.bl a) (.bl b) = (a == b) := by simp only [D.eqv, toPy, PyData.eqv]
theorem eqv_refl {n : Nat} {d : D} (h : D.flat n d = true) : D.eqv d d = true := SeqAt.eqv_refl _ (flat_lay h).1
section
variable {X : Cx} {m : Md} {N : List Str} {sc fs : Scope} {k : Nat} {env : Ev} {a b c e : Expr} {es : List Expr} {pos p p' : Pos} {da db : D}
theorem p_eq (hX : Cs X m N sc fs k) (n : Nat) (fa : D.flat n da = true) (fb : D.flat n db = true) (ha : P X env a (.per da)) (hb : P X env b (.per db)) (hn : n ≤ 64 := by decide) : P X env (.Compare a [.Eq] [b] pos) (.per (.bl (D.eqv da db))) :=
  p_cmp (op_eqD hX.room.units) ha hb (fun G H x y Q s h1 h2 g => ⟨toPy da, toPy db, h1.dp s fa, h2.dp s fb, flat_shaped fa hn, flat_shaped fb hn, g.val s (by simp only [Rp, D.eqv])⟩) (nomark _)
theorem p_ne (hX : Cs X m N sc fs k) (n : Nat) (fa : D.flat n da = true) (fb : D.flat n db = true) (ha : P X env a (.per da)) (hb : P X env b (.per db)) (hn : n ≤ 64 := by decide) : P X env (.Compare a [.NotEq] [b] pos) (.per (.bl (!D.eqv da db))) :=
  p_cmp (op_neD hX.room.units) ha hb (fun G H x y Q s h1 h2 g => ⟨toPy da, toPy db, h1.dp s fa, h2.dp s fb, flat_shaped fa hn, flat_shaped fb hn, g.val s (by simp only [Rp, D.eqv])⟩) (nomark _)
end
end Pu

set_option Elab.async false
set_option linter.all false
set_option autoImplicit false
set_option maxRecDepth 100000
set_option maxHeartbeats 1000001
namespace Pu
open PySem L2
section
variable {X : Cx} {m : Md} {N : List Str} {sc fs : Scope} {k : Nat} {env : Ev} {a b c e tg : Expr} {es elts : List Expr} {pos p p' tpos apos : Pos} {d : D} {ds : List D}
/-! ### is of truth values -/
theorem p_isBl {q r : Bool} (ha : P X env a (.per (.bl q))) (hb : P X env b (.per (.bl r))) : P X env (.Compare a [.Is] [b] pos) (.per (.bl (q == r))) :=
  p_cmp op_is_bl ha hb (fun G H x y Q s h1 h2 g => by
    simp only [Rp] at h1 h2
    refine ⟨q, r, h1, h2, ?_⟩
    have : decide (q = r) = (q == r) := by cases q <;> cases r <;> rfl
    rw [this]
    exact g.val s (by simp only [Rp])) (nomark _)
theorem p_isNotBl {q r : Bool} (ha : P X env a (.per (.bl q))) (hb : P X env b (.per (.bl r))) : P X env (.Compare a [.IsNot] [b] pos) (.per (.bl (q != r))) :=
  p_cmp op_isnot_bl ha hb (fun G H x y Q s h1 h2 g => by
    simp only [Rp] at h1 h2
    refine ⟨q, r, h1, h2, ?_⟩
    have : (!decide (q = r)) = (q != r) := by cases q <;> cases r <;> rfl
    rw [this]
    exact g.val s (by simp only [Rp])) (nomark _)
/-! ### in a list or tuple of flat things -/
def D.f0 : D → Bool | .non => true | .bl _ => true | .int _ => true | .str _ => true | _ => false
def D.eq0 : D → D → Bool
  | .non, .non => true
  | .bl a, .bl b => a == b
  | .bl a, .int b => (if a then 1 else 0) == b
  | .int a, .bl b => a == (if b then 1 else 0)
  | .int a, .int b => a == b
  | .str a, .str b => a == b
  | _, _ => false
def D.in0 (d : D) (ds : List D) : Bool := ds.any fun y => y.eq0 d
theorem flat_v {K : PySem.W.Frag} {G : Hp} {d : D} {v : V} (f : d.f0 = true) (h : Rp K G d v) : flatV v = true := by
  cases d <;> first | (exact Bool.noConfusion f) | (simp only [Rp] at h; subst h; rfl)
theorem eq_v {K : PySem.W.Frag} {G : Hp} {d d' : D} {v v' : V} (f : d.f0 = true) (f' : d'.f0 = true) (h : Rp K G d v) (h' : Rp K G d' v') : eqV v v' = d.eq0 d' := by
  cases d <;> first | (exact Bool.noConfusion f) | (simp only [Rp] at h; subst h; cases d' <;> first | (exact Bool.noConfusion f') | (simp only [Rp] at h'; subst h'; rfl))
theorem in_v {K : PySem.W.Frag} {G : Hp} {d : D} {v : V} (f : d.f0 = true) (h : Rp K G d v) : ∀ {ds : List D} {vs : List V}, ds.all D.f0 = true → Rps K G ds vs → inV v vs = d.in0 ds ∧ vs.all flatV = true
  | [], vs, _, r => by simp only [Rps] at r; subst r; exact ⟨rfl, rfl⟩
  | y :: ds, vs, fy, r => by
    simp only [Rps] at r
    obtain ⟨w, vr, rfl, r1, r2⟩ := r
    simp only [List.all_cons, Bool.and_eq_true] at fy
    obtain ⟨i1, i2⟩ := in_v f h fy.2 r2
    simp only [inV, D.in0, List.any_cons, List.all_cons] at i1 i2 ⊢
    rw [eq_v fy.1 f r1 h, i1, i2, flat_v fy.1 r1]
    exact ⟨rfl, rfl⟩
theorem p_in0 {dd : D} (hl : IsS dd ds) (f : d.f0 = true) (fs' : ds.all D.f0 = true) (ha : P X env a (.per d)) (hb : P X env b (.per dd)) (hm : behindInMarks .In b = false := by rfl) : P X env (.Compare a [.In] [b] pos) (.per (.bl (d.in0 ds))) :=
  p_cmp op_in_seq ha hb (fun G H x y Q s h1 h2 g => by
    obtain ⟨q, xs, rfl, h3, h4⟩ := hl.seq h2
    obtain ⟨i1, i2⟩ := in_v f h1 fs' h4
    refine ⟨q, xs, rfl, ?_, flat_v f h1, i2, ?_⟩
    · rcases h3 with h3 | h3
      · exact .inl (sub_sqL s h3)
      · exact .inr (sub_sqT s h3)
    · exact g.val s (by simp only [Rp, i1]; rfl)) hm
theorem p_notIn0 {dd : D} (hl : IsS dd ds) (f : d.f0 = true) (fs' : ds.all D.f0 = true) (ha : P X env a (.per d)) (hb : P X env b (.per dd)) (hm : behindInMarks .NotIn b = false := by rfl) : P X env (.Compare a [.NotIn] [b] pos) (.per (.bl (!d.in0 ds))) :=
  p_cmp op_notIn_seq ha hb (fun G H x y Q s h1 h2 g => by
    obtain ⟨q, xs, rfl, h3, h4⟩ := hl.seq h2
    obtain ⟨i1, i2⟩ := in_v f h1 fs' h4
    refine ⟨q, xs, rfl, ?_, flat_v f h1, i2, ?_⟩
    · rcases h3 with h3 | h3
      · exact .inl (sub_sqL s h3)
      · exact .inr (sub_sqT s h3)
    · exact g.val s (by simp only [Rp, i1]; rfl)) hm
/-! ### a dict without entries, a list from behind -/
theorem p_dict0 : P X env (.Dict [] [] pos) (.per (.dK [] [])) := .mk fun H0 σ G H s E Q g =>
  WE.of pe_dnewK fun q hq => by
    have x : Ex2 G H (upd G q (.dK [])) (upd H q (.dK [])) := Ex2.new s hq
    refine g _ _ _ [] x ?_ (fun a ha => by cases ha) List.nodup_nil
    simp only [RO, Rp]
    exact ⟨trivial, q, [], rfl, .inl upd_same, rfl, by simp only [Rps]⟩
theorem p_rev {dd : D} {kk : Nat} {p1 p2 p3 : Pos} (hl : IsL dd ds) (ha : P X env a (.per dd)) : P X env (.Subscript a (.Slice none none (some (.UnaryOp .USub (.Constant (.int 1) kk p1) p2)) p3) pos) (.lst (ds.reverse.map Ow.per)) := .mk fun H0 σ G H s E Q g =>
  WE.of (pe_revL pWE) (ha.go s E fun x G1 H1 x1 r1 => by
    obtain ⟨q, xs, rfl, h2, h3⟩ := hl.seq r1
    exact ⟨q, xs, rfl, sub_sqL x1.s h2, fun l hl => (g.trans x1).lst x1.s h3.reverse hl⟩)
/-! ### texts -/
theorem p_m1 {id : String} {name : Str} {r : V → List V → Hp → VK → Prop} {z : Str} {o : Ow} (slot : Slot "str" name id) (ty : typeOf (.builtin id) = pure (.type "method_descriptor")) (rule : MtR X id r) (ha : P X env a (.per (.str z))) (hb : P X env b (.per d))
    (hr : ∀ G H y Q, Sub G H → Rp X.K G d y → Gv X.K G H o Q → r (.str z) [y] H Q)
    (hs : ∀ en, starEach [b] en = [(false, eval b en)] := by intro _; rfl) (hbase : ∀ en, attributeBase a name en (eval a en) = eval a en := by intro _; rfl) (hline : (apos.endLine == pos.line) = true := by rfl) : P X env (.Call (.Attribute a name apos) [b] [] pos) o := .mk fun H0 σ G H s E Q g =>
  WE.of (pe_m1 slot ty rule pWE pWE (hs _) (hbase _) hline) (ha.go s E fun x G1 H1 x1 r1 => by
    simp only [Rp] at r1
    refine ⟨⟨z, r1⟩, hb.go x1.s (E.later x1) fun y G2 H2 x2 r2 => ?_⟩
    rw [r1]
    exact hr G2 H2 y Q x2.s r2 (g.trans (x1.trans x2)))
theorem p_split {x y : Str} (hy : (y.length == 0) = false) (hz : x.length + 2 ≤ sizeLine) (ha : P X env a (.per (.str x))) (hb : P X env b (.per (.str y)))
    (hs : ∀ en, starEach [b] en = [(false, eval b en)] := by intro _; rfl) (hbase : ∀ en, attributeBase a "split" en (eval a en) = eval a en := by intro _; rfl) (hline : (apos.endLine == pos.line) = true := by rfl) :
    P X env (.Call (.Attribute a "split" apos) [b] [] pos) (.lst (((Txt.split x y).map D.str).map Ow.per)) :=
  p_m1 F.slot_str_split F.type_str_split mt_split ha hb (fun G H w Q s r g => by
    simp only [Rp] at r
    subst r
    exact ⟨x, y, rfl, rfl, hy, hz, fun q hq => g.lst s (Rps.of_strs _) hq⟩) hs hbase hline
theorem p_join {x : Str} {ys : List Str} {dd : D} (hl : IsS dd (ys.map D.str)) (hz : (ys.map (·.length)).sum + ys.length * x.length ≤ 16777216) (ha : P X env a (.per (.str x))) (hb : P X env b (.per dd))
    (hs : ∀ en, starEach [b] en = [(false, eval b en)] := by intro _; rfl) (hbase : ∀ en, attributeBase a "join" en (eval a en) = eval a en := by intro _; rfl) (hline : (apos.endLine == pos.line) = true := by rfl) :
    P X env (.Call (.Attribute a "join" apos) [b] [] pos) (.per (.str (Txt.join x ys))) :=
  p_m1 F.slot_str_join F.type_str_join mt_join ha hb (fun G H w Q s r g => by
    obtain ⟨q, xs, rfl, h3, h4⟩ := hl.seq r
    rw [h4.strs] at h3
    refine ⟨x, q, ys, rfl, rfl, ?_, hz, g.val s (by simp only [Rp])⟩
    rcases h3 with h3 | h3
    · exact .inl (sub_sqL s h3)
    · exact .inr (sub_sqT s h3)) hs hbase hline
theorem p_endswith {x y : Str} (ha : P X env a (.per (.str x))) (hb : P X env b (.per (.str y)))
    (hs : ∀ en, starEach [b] en = [(false, eval b en)] := by intro _; rfl) (hbase : ∀ en, attributeBase a "endswith" en (eval a en) = eval a en := by intro _; rfl) (hline : (apos.endLine == pos.line) = true := by rfl) :
    P X env (.Call (.Attribute a "endswith" apos) [b] [] pos) (.per (.bl (Txt.endswith x y))) :=
  p_m1 F.slot_str_endswith F.type_str_endswith mt_endswith ha hb (fun G H w Q s r g => by
    simp only [Rp] at r
    exact ⟨x, y, rfl, by rw [r], g.val s (by simp only [Rp])⟩) hs hbase hline
theorem p_sindex {x y : Str} {i : Nat} {rest : List Nat} (hi : Builtin.Str.occurrences x y 0 x.length 1 = i :: rest) (ha : P X env a (.per (.str x))) (hb : P X env b (.per (.str y)))
    (hs : ∀ en, starEach [b] en = [(false, eval b en)] := by intro _; rfl) (hbase : ∀ en, attributeBase a "index" en (eval a en) = eval a en := by intro _; rfl) (hline : (apos.endLine == pos.line) = true := by rfl) :
    P X env (.Call (.Attribute a "index" apos) [b] [] pos) (.per (.int i)) :=
  p_m1 F.slot_str_index F.type_str_index mt_sindex ha hb (fun G H w Q s r g => by
    simp only [Rp] at r
    exact ⟨x, y, i, rest, rfl, by rw [r], hi, g.val s (by simp only [Rp])⟩) hs hbase hline
/-! ### more that is walked -/
def signsD (z : Str) : List D := z.cps.toList.map fun c => D.str ⟨#[c]⟩
theorem it_str {z : Str} (ha : P X env e (.per (.str z))) : Iter X env tg e (signsD z) := .mk fun H0 σ G H s E R kk =>
  WI.of (pi_str pWE) (ha.go s E fun v G1 H1 x1 r1 => by
    simp only [Rp] at r1
    refine ⟨z, r1, kk _ G1 H1 x1 fun i G' H' eg s' => ⟨fun d hd => ?_, fun hi => ?_⟩⟩
    · unfold signsD at hd
      rw [List.getElem?_map] at hd
      cases q : z.cps.toList[i]? with
      | none => rw [q] at hd; cases hd
      | some c =>
        rw [q] at hd
        cases hd
        have hi : i < z.cps.size := by
          have := (List.getElem?_eq_some_iff.mp q).1
          simpa using this
        refine ⟨hi, fun x H'' ⟨e1, c', e2, e3⟩ => ?_⟩
        subst e1
        refine ⟨G', Ex2.refl s', ?_⟩
        simp only [Rp]
        rw [e3]
        have : z.cps[i]? = some c := by rw [← Array.getElem?_toList]; exact q
        rw [this] at e2
        cases e2
        rfl
    · show z.cps.size ≤ i
      rw [hi]
      simp [signsD])
theorem it_reversed (hX : Cs X m N sc fs k) {dd : D} (hl : IsL dd ds) (hg : gloB sc "reversed" = true) (hm : m.mg "reversed" = none) (ha : P X env e (.per dd)) (he : ∀ en, starEach [e] en = [(false, eval e en)] := by intro _; rfl) :
    Iter X env tg (.Call (.Name "reversed" p) [e] [] pos) ds.reverse := .mk fun H0 σ G H s E R kk =>
  WI.of (pi_reversed (hX.gl hg) (by rw [hX.hM]; exact hm) pWA (he _)) ((as_cons ha as_nil he).run H0 σ G H s E _ fun vs G1 H1 x1 r1 => by
    obtain ⟨v, rfl, r2⟩ := rps1 r1
    obtain ⟨q, xs, rfl, h2, h3⟩ := hl.seq r2
    refine ⟨q, xs, rfl, sub_sqL x1.s h2, kk _ G1 H1 x1 fun i G' H' eg s' => ⟨fun d hd => ?_, fun hi => ?_⟩⟩
    · have qq := sub_sqL s' (sqL_mono eg h2)
      have hi : i < ds.length := by
        have := (List.getElem?_eq_some_iff.mp hd).1
        simpa using this
      rw [List.getElem?_reverse hi] at hd
      obtain ⟨v, h4, h5⟩ := h3.get hd
      have hl' := h3.length
      refine ⟨⟨by omega, xs, v, qq, by rw [hl']; exact h4⟩, fun x H'' ⟨e1, e2⟩ => ?_⟩
      subst e1
      refine ⟨G', Ex2.refl s', ?_⟩
      have := e2 xs qq
      rw [hl', h4] at this
      cases this
      exact h5.mono eg
    · show xs.length ≤ i
      rw [hi, h3.length]
      simp)
/-- (0, x), (1, y), .. -/
def enumD (lo : Int) (ds : List D) : List D := ds.mapIdx fun i d => D.tup [.int (lo + i), d]
theorem it_enum (hX : Cs X m N sc fs k) {dd : D} {kk : Nat} (hl : IsL dd ds) (hg : gloB sc "enumerate" = true) (hm : m.mg "enumerate" = none) (ha : P X env e (.per dd)) (he : ∀ en, starEach [e] en = [(false, eval e en)] := by intro _; rfl) :
    Iter X env (.Tuple elts kk tpos) (.Call (.Name "enumerate" p) [e] [] pos) (enumD 0 ds) := .mk fun H0 σ G H s E R kk =>
  WI.of (pi_enum (hX.gl hg) (by rw [hX.hM]; exact hm) pWA (he _)) ((as_cons ha as_nil he).run H0 σ G H s E _ fun vs G1 H1 x1 r1 => by
    obtain ⟨v, rfl, r2⟩ := rps1 r1
    obtain ⟨q, xs, rfl, h2, h3⟩ := hl.seq r2
    refine ⟨q, xs, rfl, sub_sqL x1.s h2, kk _ G1 H1 x1 fun i G' H' eg s' => ⟨fun d hd => ?_, fun hi => ?_⟩⟩
    · have qq := sub_sqL s' (sqL_mono eg h2)
      unfold enumD at hd
      rw [List.getElem?_mapIdx] at hd
      cases z : ds[i]? with
      | none => rw [z] at hd; cases hd
      | some d' =>
        rw [z] at hd
        cases hd
        obtain ⟨v, h4, h5⟩ := h3.get z
        refine ⟨⟨xs, v, qq, h4⟩, fun x H'' ⟨T, y, e1, e2, e3, e4⟩ => ?_⟩
        have e5 := e4 xs qq
        rw [h4] at e5
        cases e5
        subst e1 e3
        refine ⟨upd G' T (.tup [.int (i : Nat), v]), Ex2.new s' e2, ?_⟩
        simp only [Rp, Rps]
        refine ⟨T, _, rfl, upd_same, _, _, rfl, by simp, v, [], rfl, ?_, rfl⟩
        exact (h5.mono eg).mono (Ex2.new (o := .tup [.int (i : Nat), v]) s' e2).g
    · refine ⟨xs, sub_sqL s' (sqL_mono eg h2), ?_⟩
      rw [hi, h3.length]
      simp [enumD])
/-- pairs -/
def zipD : List D → List D → List D
  | x :: xs, y :: ys => D.tup [x, y] :: zipD xs ys
  | _, _ => []
theorem zipD_get : ∀ {xs ys : List D} {i : Nat} {d : D}, (zipD xs ys)[i]? = some d → ∃ x y, xs[i]? = some x ∧ ys[i]? = some y ∧ d = .tup [x, y]
  | [], _, i, d, h => by simp [zipD] at h
  | _ :: _, [], i, d, h => by simp [zipD] at h
  | x :: xs, y :: ys, 0, d, h => by simp [zipD] at h; exact ⟨x, y, rfl, rfl, h.symm⟩
  | x :: xs, y :: ys, i + 1, d, h => by
    obtain ⟨u, w, h1, h2, h3⟩ := zipD_get (i := i) (by simpa [zipD] using h)
    exact ⟨u, w, by simpa using h1, by simpa using h2, h3⟩
theorem zipD_length : ∀ {xs ys : List D}, (zipD xs ys).length = min xs.length ys.length
  | [], _ => by simp [zipD]
  | _ :: _, [] => by simp [zipD]
  | x :: xs, y :: ys => by simp [zipD, zipD_length]
theorem it_zip (hX : Cs X m N sc fs k) {e2 : Expr} {dd dd' : D} {ds' : List D} {kk : Nat} (hl : IsL dd ds) (hl' : IsL dd' ds') (hg : gloB sc "zip" = true) (hm : m.mg "zip" = none) (ha : P X env e (.per dd)) (hb : P X env e2 (.per dd'))
    (he : ∀ en, starEach [e, e2] en = (false, eval e en) :: starEach [e2] en := by intro _; rfl) (he2 : ∀ en, starEach [e2] en = [(false, eval e2 en)] := by intro _; rfl) :
    Iter X env (.Tuple elts kk tpos) (.Call (.Name "zip" p) [e, e2] [] pos) (zipD ds ds') := .mk fun H0 σ G H s E R kk =>
  WI.of (pi_zip (hX.gl hg) (by rw [hX.hM]; exact hm) pWA (he _) (by rw [he2]; rfl)) ((as_cons ha (as_cons hb as_nil he2) he).run H0 σ G H s E _ fun vs G1 H1 x1 r1 => by
    obtain ⟨v, v', rfl, r2, r3⟩ := rps2 r1
    obtain ⟨q, xs, rfl, h2, h3⟩ := hl.seq r2
    obtain ⟨q', ys, rfl, h4, h5⟩ := hl'.seq r3
    refine ⟨q, q', xs, ys, rfl, sub_sqL x1.s h2, sub_sqL x1.s h4, kk _ G1 H1 x1 fun i G' H' eg s' => ⟨fun d hd => ?_, fun hi => ?_⟩⟩
    · have qq := sub_sqL s' (sqL_mono eg h2)
      have qq' := sub_sqL s' (sqL_mono eg h4)
      obtain ⟨dx, dy, z1, z2, rfl⟩ := zipD_get hd
      obtain ⟨v, w1, w2⟩ := h3.get z1
      obtain ⟨u, w3, w4⟩ := h5.get z2
      refine ⟨⟨xs, ys, v, u, qq, qq', w1, w3⟩, fun x H'' ⟨T, y, y', e1, e2, e3, e4, e6⟩ => ?_⟩
      have e5 := e4 xs qq
      rw [w1] at e5
      cases e5
      have e7 := e6 ys qq'
      rw [w3] at e7
      cases e7
      subst e1 e3
      have xx := Ex2.new (o := .tup [v, u]) s' e2
      refine ⟨upd G' T (.tup [v, u]), xx, ?_⟩
      simp only [Rp, Rps]
      exact ⟨T, _, rfl, upd_same, _, _, rfl, (w2.mono eg).mono xx.g, u, [], rfl, (w4.mono eg).mono xx.g, rfl⟩
    · refine ⟨xs, ys, sub_sqL s' (sqL_mono eg h2), sub_sqL s' (sqL_mono eg h4), ?_⟩
      rw [hi, zipD_length, h3.length, h5.length]
      omega)
end
end Pu

set_option Elab.async false
set_option linter.all false
set_option autoImplicit false
set_option maxRecDepth 100000
set_option maxHeartbeats 1000001
namespace Pu
open PySem L2
/-- a comparison has this outcome -/
def C (X : Cx) (env : Ev) (op : CmpOp) (a b : Expr) (q : Bool) : Prop := ∃ (da db : D) (r : R2), OpR X (compareOp op) r ∧ P X env a (.per da) ∧ P X env b (.per db) ∧ (∀ G H x y Q, Sub G H → Rp X.K G da x → Rp X.K G db y → Gv X.K G H (.per (.bl q)) Q → r x y H Q) ∧ behindInMarks op b = false
section
variable {X : Cx} {m : Md} {N : List Str} {sc fs : Scope} {k : Nat} {env : Ev} {a b c e tg : Expr} {es elts : List Expr} {pos p p' tpos apos : Pos} {d : D} {ds : List D} {op : CmpOp} {q : Bool} {i j l : Int}
theorem p_of_c (h : C X env op a b q) : P X env (.Compare a [op] [b] pos) (.per (.bl q)) := by
  obtain ⟨da, db, r, h1, h2, h3, h4, h5⟩ := h
  exact p_cmp h1 h2 h3 h4 h5
theorem t_of_c (h : C X env op a b q) : T X env (.Compare a [op] [b] pos) q := by
  obtain ⟨da, db, r, h1, h2, h3, h4, h5⟩ := h
  exact t_cmp h1 h2 h3 h4 h5
theorem c_lt (ha : P X env a (.per (.int i))) (hb : P X env b (.per (.int j))) : C X env .Lt a b (decide (i < j)) := ⟨_, _, _, op_lt, ha, hb, fun G H x y Q s h1 h2 g => rI0_of s h1 h2 (fun _ => by simp only [Rp]) g, nomark _⟩
theorem c_le (ha : P X env a (.per (.int i))) (hb : P X env b (.per (.int j))) : C X env .LtE a b (decide (i ≤ j)) := ⟨_, _, _, op_le, ha, hb, fun G H x y Q s h1 h2 g => rI0_of s h1 h2 (fun _ => by simp only [Rp]) g, nomark _⟩
theorem c_gt (ha : P X env a (.per (.int i))) (hb : P X env b (.per (.int j))) : C X env .Gt a b (decide (j < i)) := ⟨_, _, _, op_gt, ha, hb, fun G H x y Q s h1 h2 g => rI0_of s h1 h2 (fun _ => by simp only [Rp]) g, nomark _⟩
theorem c_ge (ha : P X env a (.per (.int i))) (hb : P X env b (.per (.int j))) : C X env .GtE a b (decide (j ≤ i)) := ⟨_, _, _, op_ge, ha, hb, fun G H x y Q s h1 h2 g => rI0_of s h1 h2 (fun _ => by simp only [Rp]) g, nomark _⟩
theorem c_eq {da db : D} (hX : Cs X m N sc fs k) (n : Nat) (fa : D.flat n da = true) (fb : D.flat n db = true) (ha : P X env a (.per da)) (hb : P X env b (.per db)) (hn : n ≤ 64 := by decide) : C X env .Eq a b (D.eqv da db) :=
  ⟨_, _, _, op_eqD hX.room.units, ha, hb, fun G H x y Q s h1 h2 g => ⟨toPy da, toPy db, h1.dp s fa, h2.dp s fb, flat_shaped fa hn, flat_shaped fb hn, g.val s (by simp only [Rp, D.eqv])⟩, nomark _⟩
theorem c_ne {da db : D} (hX : Cs X m N sc fs k) (n : Nat) (fa : D.flat n da = true) (fb : D.flat n db = true) (ha : P X env a (.per da)) (hb : P X env b (.per db)) (hn : n ≤ 64 := by decide) : C X env .NotEq a b (!D.eqv da db) :=
  ⟨_, _, _, op_neD hX.room.units, ha, hb, fun G H x y Q s h1 h2 g => ⟨toPy da, toPy db, h1.dp s fa, h2.dp s fb, flat_shaped fa hn, flat_shaped fb hn, g.val s (by simp only [Rp, D.eqv])⟩, nomark _⟩
/-- of ints, of texts, of truth values -/
theorem c_eqI (hX : Cs X m N sc fs k) (ha : P X env a (.per (.int i))) (hb : P X env b (.per (.int j))) : C X env .Eq a b (decide (i = j)) := by
  have h := c_eq hX 0 rfl rfl ha hb
  rw [eqv_int] at h
  exact h
theorem c_neI (hX : Cs X m N sc fs k) (ha : P X env a (.per (.int i))) (hb : P X env b (.per (.int j))) : C X env .NotEq a b (!decide (i = j)) := by
  have h := c_ne hX 0 rfl rfl ha hb
  rw [eqv_int] at h
  exact h
theorem scal_eq {r : R2} (f : d.f0 = true) {d' : D} (f' : d'.f0 = true) {K : PySem.W.Frag} {G : Hp} {x y : V} (h1 : Rp K G d x) (h2 : Rp K G d' y) (hs : scal x y = true) : True := trivial
theorem c_eqS {x y : Str} (ha : P X env a (.per (.str x))) (hb : P X env b (.per (.str y))) : C X env .Eq a b (x == y) := ⟨_, _, _, op_eq, ha, hb, fun G H v w Q s h1 h2 g => by
  simp only [Rp] at h1 h2
  subst h1 h2
  exact ⟨rfl, by rw [dec_str]; exact g.val s (by simp only [Rp])⟩, nomark _⟩
theorem c_neS {x y : Str} (ha : P X env a (.per (.str x))) (hb : P X env b (.per (.str y))) : C X env .NotEq a b (!(x == y)) := ⟨_, _, _, op_ne, ha, hb, fun G H v w Q s h1 h2 g => by
  simp only [Rp] at h1 h2
  subst h1 h2
  exact ⟨rfl, by rw [dec_str]; exact g.val s (by simp only [Rp])⟩, nomark _⟩
theorem c_eqB {x y : Bool} (ha : P X env a (.per (.bl x))) (hb : P X env b (.per (.bl y))) : C X env .Eq a b (x == y) := ⟨_, _, _, op_eq, ha, hb, fun G H v w Q s h1 h2 g => by
  simp only [Rp] at h1 h2
  subst h1 h2
  exact ⟨rfl, by rw [dec_bl]; exact g.val s (by simp only [Rp])⟩, nomark _⟩
theorem c_neB {x y : Bool} (ha : P X env a (.per (.bl x))) (hb : P X env b (.per (.bl y))) : C X env .NotEq a b (!(x == y)) := ⟨_, _, _, op_ne, ha, hb, fun G H v w Q s h1 h2 g => by
  simp only [Rp] at h1 h2
  subst h1 h2
  exact ⟨rfl, by rw [dec_bl]; exact g.val s (by simp only [Rp])⟩, nomark _⟩
def D.isN : D → Bool | .non => true | _ => false
theorem isN_v {K : PySem.W.Frag} {G : Hp} {x : V} (h1 : Rp K G d x) : decide (x = V.non) = d.isN := by
  cases d <;> (try simp only [Rp] at h1) <;> (try (subst h1; rfl)) <;> (obtain ⟨_, h1⟩ := h1; first | (obtain ⟨_, rfl, _⟩ := h1; rfl) | (obtain ⟨_, _, rfl, _⟩ := h1; rfl))
theorem c_isN {jj : Nat} (ha : P X env a (.per d)) : C X env .Is a (.Constant .none jj p') d.isN := ⟨_, _, _, op_isN, ha, p_non, fun G H x y Q s h1 h2 g => by
  simp only [Rp] at h2
  exact ⟨h2, by rw [isN_v h1]; exact g.val s (by simp only [Rp])⟩, nomark _⟩
theorem c_notN {jj : Nat} (ha : P X env a (.per d)) : C X env .IsNot a (.Constant .none jj p') (!d.isN) := ⟨_, _, _, op_notN, ha, p_non, fun G H x y Q s h1 h2 g => by
  simp only [Rp] at h2
  exact ⟨h2, by rw [isN_v h1]; exact g.val s (by simp only [Rp])⟩, nomark _⟩
theorem c_isBl {q r : Bool} (ha : P X env a (.per (.bl q))) (hb : P X env b (.per (.bl r))) : C X env .Is a b (q == r) := ⟨_, _, _, op_is_bl, ha, hb, fun G H x y Q s h1 h2 g => by
  simp only [Rp] at h1 h2
  refine ⟨q, r, h1, h2, ?_⟩
  have : decide (q = r) = (q == r) := by cases q <;> cases r <;> rfl
  rw [this]
  exact g.val s (by simp only [Rp]), nomark _⟩
theorem c_isNotBl {q r : Bool} (ha : P X env a (.per (.bl q))) (hb : P X env b (.per (.bl r))) : C X env .IsNot a b (q != r) := ⟨_, _, _, op_isnot_bl, ha, hb, fun G H x y Q s h1 h2 g => by
  simp only [Rp] at h1 h2
  refine ⟨q, r, h1, h2, ?_⟩
  have : (!decide (q = r)) = (q != r) := by cases q <;> cases r <;> rfl
  rw [this]
  exact g.val s (by simp only [Rp]), nomark _⟩
theorem c_in0 {dd : D} (hl : IsS dd ds) (f : d.f0 = true) (fs' : ds.all D.f0 = true) (ha : P X env a (.per d)) (hb : P X env b (.per dd)) (hm : behindInMarks .In b = false := by rfl) : C X env .In a b (d.in0 ds) := ⟨_, _, _, op_in_seq, ha, hb, fun G H x y Q s h1 h2 g => by
    obtain ⟨q, xs, rfl, h3, h4⟩ := hl.seq h2
    obtain ⟨i1, i2⟩ := in_v f h1 fs' h4
    refine ⟨q, xs, rfl, ?_, flat_v f h1, i2, ?_⟩
    · rcases h3 with h3 | h3
      · exact .inl (sub_sqL s h3)
      · exact .inr (sub_sqT s h3)
    · exact g.val s (by simp only [Rp, i1]; rfl), hm⟩
theorem c_notIn0 {dd : D} (hl : IsS dd ds) (f : d.f0 = true) (fs' : ds.all D.f0 = true) (ha : P X env a (.per d)) (hb : P X env b (.per dd)) (hm : behindInMarks .NotIn b = false := by rfl) : C X env .NotIn a b (!d.in0 ds) := ⟨_, _, _, op_notIn_seq, ha, hb, fun G H x y Q s h1 h2 g => by
    obtain ⟨q, xs, rfl, h3, h4⟩ := hl.seq h2
    obtain ⟨i1, i2⟩ := in_v f h1 fs' h4
    refine ⟨q, xs, rfl, ?_, flat_v f h1, i2, ?_⟩
    · rcases h3 with h3 | h3
      · exact .inl (sub_sqL s h3)
      · exact .inr (sub_sqT s h3)
    · exact g.val s (by simp only [Rp, i1]; rfl), hm⟩
theorem c_inSign {c' : Nat} {z : Str} (ha : P X env a (.per (.str ⟨#[c']⟩))) (hb : P X env b (.per (.str z))) (hm : behindInMarks .In b = false := by rfl) : C X env .In a b (decide (c' ∈ z.cps.toList)) := ⟨_, _, _, op_in_sign, ha, hb, fun G H x y Q s h1 h2 g => by
    simp only [Rp] at h1 h2
    exact ⟨c', z, h1, h2, g.val s (by simp only [Rp])⟩, hm⟩
theorem c_notInSign {c' : Nat} {z : Str} (ha : P X env a (.per (.str ⟨#[c']⟩))) (hb : P X env b (.per (.str z))) (hm : behindInMarks .NotIn b = false := by rfl) : C X env .NotIn a b (!decide (c' ∈ z.cps.toList)) := ⟨_, _, _, op_notIn_sign, ha, hb, fun G H x y Q s h1 h2 g => by
    simp only [Rp] at h1 h2
    exact ⟨c', z, h1, h2, g.val s (by simp only [Rp])⟩, hm⟩
/-- a chain as a test -/
theorem t_chain {op op' : CmpOp} {f f' : Int → Int → Bool} (ho : OpR X (compareOp op) (rI0 fun i j => .bl (f i j))) (ho' : OpR X (compareOp op') (rI0 fun i j => .bl (f' i j))) (ha : P X env a (.per (.int i))) (hb : P X env b (.per (.int j))) (hc : P X env c (.per (.int l)))
    (hm : lastMarks [op, op'] [b, c] = false) : T X env (.Compare a [op, op'] [b, c] pos) (f i j && f' j l) := .mk fun H0 σ G H s E Q g =>
  WT.of (pt_chain ho ho' pWE pWE pWE hm) (ha.go s E fun x G1 H1 x1 r1 => hb.go x1.s (E.later x1) fun y G2 H2 x2 r2 => by
    simp only [Rp] at r1 r2
    refine ⟨i, j, r1, r2, f i j, rfl, ?_⟩
    cases q : f i j with
    | false =>
      rw [q] at g
      exact iteF ⟨false, rfl, g G2 H2 (x1.trans x2)⟩
    | true =>
      rw [q] at g
      refine iteT (hc.go x2.s ((E.later x1).later x2) fun z G3 H3 x3 r3 => ?_)
      simp only [Rp] at r3
      exact ⟨j, l, r2, r3, f' j l, rfl, g G3 H3 (x1.trans (x2.trans x3))⟩)
theorem t_leLe (ha : P X env a (.per (.int i))) (hb : P X env b (.per (.int j))) (hc : P X env c (.per (.int l))) (hm : lastMarks [.LtE, .LtE] [b, c] = false := by with_unfolding_all rfl) : T X env (.Compare a [.LtE, .LtE] [b, c] pos) (decide (i ≤ j) && decide (j ≤ l)) :=
  t_chain (f := fun i j => decide (i ≤ j)) (f' := fun i j => decide (i ≤ j)) op_le op_le ha hb hc hm
/-- a list, a text as a test -/
theorem t_list {dd : D} (hl : IsS dd ds) (ha : P X env a (.per dd)) (he : ∀ en whole, isTrue a en whole = (do let v ← whole; standAt a.pos; holding [v] (truthy v)) := by intro _ _; rfl) : T X env a (!ds.isEmpty) := .mk fun H0 σ G H s E Q g =>
  WT.of (pt_truth pWE (he _)) (ha.go s E fun x G1 H1 x1 r1 => by
    obtain ⟨q, xs, rfl, h3, h4⟩ := hl.seq r1
    refine ⟨!ds.isEmpty, ?_, g G1 H1 x1⟩
    have hl := h4.length
    have e : xs.isEmpty = ds.isEmpty := by
      cases xs <;> cases ds <;> simp at hl ⊢
    rcases h3 with h3 | h3
    · exact .inl ⟨xs, sub_sqL x1.s h3, by rw [e]⟩
    · exact .inr (.inl ⟨xs, sub_sqT x1.s h3, by rw [e]⟩))
end
end Pu

set_option Elab.async false
set_option linter.all false
set_option autoImplicit false
set_option maxRecDepth 100000
set_option maxHeartbeats 1000001
namespace Pu
open PySem L2
/-- a constant of the module -/
def GInt (m : Md) (x : Str) (i : Int) : Prop := ∃ t, m.mg x = some (.int i t)
def GStr (m : Md) (x z : Str) : Prop := ∃ t, m.mg x = some (.str z t)
def GTup (m : Md) (x : Str) (zs : List Str) : Prop := ∃ a, m.mg x = some (.ref a) ∧ ∀ H, SqT m.K H a (zs.map V.str)
section
variable {X : Cx} {m : Md} {N : List Str} {sc fs : Scope} {k : Nat} {env : Ev} {pos : Pos} {x : Str}
theorem p_gint (hX : Cs X m N sc fs k) {i : Int} (h : GInt m x i) (hg : gloB sc x = true) (hx : (x == ("__debug__" : Str)) = false := by decide +kernel) : P X env (.Name x pos) (.per (.int i)) := by
  obtain ⟨t, h⟩ := h
  exact p_glob hX (v := .int i) hg h ⟨t, rfl⟩ (fun _ => by simp only [Rp]) hx
theorem p_gstr (hX : Cs X m N sc fs k) {z : Str} (h : GStr m x z) (hg : gloB sc x = true) (hx : (x == ("__debug__" : Str)) = false := by decide +kernel) : P X env (.Name x pos) (.per (.str z)) := by
  obtain ⟨t, h⟩ := h
  exact p_glob hX (v := .str z) hg h ⟨t, rfl⟩ (fun _ => by simp only [Rp]) hx
theorem p_gtup (hX : Cs X m N sc fs k) {zs : List Str} (h : GTup m x zs) (hg : gloB sc x = true) (hx : (x == ("__debug__" : Str)) = false := by decide +kernel) : P X env (.Name x pos) (.per (.ft (zs.map D.str))) := by
  obtain ⟨a, h, h2⟩ := h
  exact p_glob hX (v := .ref a) hg h rfl (fun G => by simp only [Rp]; exact ⟨a, _, rfl, h2 G, Rps.of_strs zs⟩) hx
end
/-- no slots beyond the arguments -/
theorem ent_eq {N : List Str} {ds : List D} {env : Ev} (h : ds.map (fun d => some (Ow.per d)) ++ List.replicate (N.length - ds.length) none = env) : ent N ds = env := h
/-- the module's name y stands for the def st -/
def Df (m : Md) (y x qual : Str) (st : Stmt) : Prop := ∃ (f : Addr) (fd : FuncData), FunD m.K x qual (defArgs st) (defBody st) (defScope st) [] [] f fd ∧ m.mg y = some (.ref f)
/-- how its arguments are bound -/
def Bd (x qual : Str) (st : Stmt) (ps : List Str) : Prop := ∀ (kV doc pm : Value) (an : Option Addr) (cdv ct : Value) (us : List Value), us.length = ps.length → bindArgs (PySem.W.fnOf x qual (defArgs st) (defBody st) (defScope st) .none kV doc pm an cdv ct) ⟨us, []⟩ = pure (ps.zip us)
theorem Df.at {m : Md} {y x qual : Str} {st : Stmt} {N ps : List Str} {k : Nat} {R : List D → Ow → Prop} (hd : Df m y x qual st) (Sc : FnScope N ps (defScope st)) (hb : Bd x qual st ps) (hR : ∀ ds o, R ds o → ds.length = ps.length)
    (h : ∀ X, Cs X m N (defScope st) (defScope st) k → ∀ ds o, R ds o → S X (defBody st) (ent N ds) (Ret o)) : FnAt m (k + 1) y ps.length R := by
  obtain ⟨f, fd, F, hm⟩ := hd
  exact ⟨f, fd, ps, rfl, hm, F.kp, F.bindsN hb, fnOk F Sc hR h⟩
/-! ### comprehensions over lists of any kind -/
theorem lc_sum {α : Type} (c : α → Bool) (f : α → Ow) (enc : α → D) : ∀ (xs ys : List α) (n : Nat), (∀ (i : Nat) (x : α), xs[i]? = some x → ys[n + i]? = some x) →
    ((xs.map enc).mapIdx fun i _ => match ys[n + i]? with | some x => if c x = true then some (f x) else none | none => none).filterMap id = (xs.filter c).map f
  | [], ys, n, _ => by simp
  | x :: xs, ys, n, h => by
    have h0 := h 0 x rfl
    have ih := lc_sum c f enc xs ys (n + 1) fun i y hy => by
      have := h (i + 1) y (by simpa using hy)
      rw [← this]
      congr 1
      omega
    simp only [List.map_cons, List.mapIdx_cons, List.filterMap_cons, Nat.add_zero] at h0 ⊢
    rw [h0]
    have e : (fun (i : Nat) (_ : D) => match ys[n + (i + 1)]? with | some x => if c x = true then some (f x) else none | none => none) = fun (i : Nat) (_ : D) => match ys[n + 1 + i]? with | some x => if c x = true then some (f x) else none | none => none := by
      funext i _
      have : n + (i + 1) = n + 1 + i := by omega
      rw [this]
    rw [e]
    cases hc : c x with
    | true => simp [hc, ih]
    | false => simp [hc, ih]
section
variable {X : Cx} {m : Md} {N : List Str} {sc fs : Scope} {k : Nat} {env : Ev} {tg iter elt : Expr} {ifs : List Expr} {pos : Pos} {α : Type} {Φ : Out → Prop}
def LcA (m : Md) (N : List Str) (sc scope : Scope) (k : Nat) (own : List (Str × Nat)) (tg elt : Expr) (ifs : List Expr) (env : Ev) (xs : List α) (enc : α → D) (c : α → Bool) (f : α → Ow) : Prop :=
  ∀ (i : Nat) (x : α), xs[i]? = some x → ∃ env' js, (∀ j ∈ js, j ∈ own.map (·.2)) ∧ ∀ (X' : Cx), Cs X' m N (relS scope sc) scope k → Tg X' (wipeE env (own.map (·.2))) tg (enc x) env' js ∧ Ts X' env' ifs (c x) ∧ (c x = true → P X' env' elt (f x))
theorem lca_b {scope : Scope} {own : List (Str × Nat)} {xs : List α} {enc : α → D} {c : α → Bool} {f : α → Ow} (hb : LcA m N sc scope k own tg elt ifs env xs enc c f) :
    LcB m N sc scope k own tg elt ifs env (fun i _ => match xs[0 + i]? with | some x => if c x = true then some (f x) else none | none => none) (xs.map enc) := fun i d hd => by
  rw [List.getElem?_map] at hd
  cases q : xs[i]? with
  | none => rw [q] at hd; cases hd
  | some x =>
    rw [q] at hd
    cases hd
    obtain ⟨env', js, h1, h2⟩ := hb i x q
    refine ⟨env', js, h1, fun X' hX' => ?_⟩
    obtain ⟨h3, h4, h5⟩ := h2 X' hX'
    refine ⟨h3, ?_⟩
    have e : xs[0 + i]? = some x := by rw [Nat.zero_add]; exact q
    simp only [e]
    cases hc : c x with
    | true =>
      rw [hc] at h4
      simp only [if_true]
      exact ⟨h4, h5 hc⟩
    | false =>
      rw [hc] at h4
      simp only [Bool.false_eq_true, if_false]
      exact h4
theorem p_lcA (hX : Cs X m N sc fs k) {scope : Scope} (own : List (Str × Nat)) (xs : List α) (enc : α → D) (c : α → Bool) (f : α → Ow) (hit : Iter X env tg iter (xs.map enc)) (hk : blkC N sc scope own = true) (hsz : xs.length ≤ sizeLine) (hb : LcA m N sc scope k own tg elt ifs env xs enc c f)
    (hs : ∀ en x, foldedSetIterable iter en x = pure x := by intro _ _; rfl) : P X env (.ListComp elt [⟨tg, iter, ifs, 0⟩] scope pos) (.lst ((xs.filter c).map f)) := by
  have h := p_lc (pos := pos) hX _ hit hk (by rw [List.length_map]; exact hsz) (lca_b hb) hs
  rw [lc_sum c f enc xs xs 0 fun i x hx => by rw [Nat.zero_add]; exact hx] at h
  exact h
theorem s1_setLcA (hX : Cs X m N sc fs k) {i : Nat} {y : Str} {py spos : Pos} {scope : Scope} (own : List (Str × Nat)) (xs : List α) (enc : α → D) (c : α → Bool) (f : α → Ow) (hi : Ix N i y) (hl : sc.names.lookup y = some .local) (hn : i < env.length) (hit : Iter X env tg iter (xs.map enc)) (hk : blkC N sc scope own = true) (hsz : xs.length ≤ sizeLine) (hb : LcA m N sc scope k own tg elt ifs env xs enc c f)
    (h : Φ (.nx (env.set i (some (.lst ((xs.filter c).map f))))))
    (hsw : (py.line == pos.line) = true := by rfl) (ha : (scope.names.any fun (n, kk) => n == y && (kk == .local || kk == .cell)) = false := by decide +kernel)
    (hs : ∀ en x, foldedSetIterable iter en x = pure x := by intro _ _; rfl) : S1 X (.Assign [.Name y py] (.ListComp elt [⟨tg, iter, ifs, 0⟩] scope pos) spos) env Φ := by
  refine s1_setLc hX hi hl hn _ hit hk (by rw [List.length_map]; exact hsz) (lca_b hb) ?_ hsw ha hs
  rw [lc_sum c f enc xs xs 0 fun i x hx => by rw [Nat.zero_add]; exact hx]
  exact h
theorem filter_true (xs : List α) : xs.filter (fun _ => true) = xs := by simp
end
theorem P.cong {X : Cx} {env : Ev} {e : Expr} {o o' : Ow} (h : P X env e o) (q : o = o') : P X env e o' := q ▸ h
theorem T.cong {X : Cx} {env : Ev} {e : Expr} {o o' : Bool} (h : T X env e o) (q : o = o') : T X env e o' := q ▸ h
theorem P.bl {X : Cx} {env : Ev} {e : Expr} {o o' : Bool} (h : P X env e (.per (.bl o))) (q : o = o') : P X env e (.per (.bl o')) := q ▸ h
theorem p_lcD {X : Cx} {m : Md} {N : List Str} {sc fs : Scope} {k : Nat} {env : Ev} {tg iter elt : Expr} {ifs : List Expr} {pos : Pos} {α : Type} (hX : Cs X m N sc fs k) {scope : Scope} (own : List (Str × Nat)) (xs : List α) (enc : α → D) (c : α → Bool) (f : α → D) (hit : Iter X env tg iter (xs.map enc)) (hk : blkC N sc scope own = true) (hsz : xs.length ≤ sizeLine) (hb : LcA m N sc scope k own tg elt ifs env xs enc c (fun x => .per (f x)))
    (hs : ∀ en x, foldedSetIterable iter en x = pure x := by intro _ _; rfl) : P X env (.ListComp elt [⟨tg, iter, ifs, 0⟩] scope pos) (.lst (((xs.filter c).map f).map Ow.per)) :=
  (p_lcA (pos := pos) hX own xs enc c _ hit hk hsz hb hs).cong (congrArg Ow.lst (by rw [List.map_map]; rfl))
/-! ### what is one's own is looked at -/
/-- no tuple, nothing locked -/
def notT : HO → Bool | .tup _ => false | .frz _ _ => false | .xd _ => false | _ => true
section
variable {K : PySem.W.Frag} {G H G' H' : Hp}
mutual
theorem RO.kind : ∀ {o : Ow} {v : V} {fp : List Addr}, RO K G H o v fp → ∀ a ∈ fp, ∃ u, H a = some u ∧ notT u = true
  | .per d, v, fp, h, a, ha => by
    simp only [RO] at h
    rw [h.1] at ha; cases ha
  | .lst os, v, fp, h, a, ha => by
    simp only [RO] at h
    obtain ⟨b, xs, fq, h1, rfl, h3, h4, h5⟩ := h
    rcases List.mem_cons.mp ha with rfl | ha
    · exact ⟨_, h4, rfl⟩
    · exact ROs.kind h5 a ha
  | .tup os, v, fp, h, a, ha => by
    simp only [RO] at h
    obtain ⟨b, xs, h1, h3, h5⟩ := h
    exact ROs.kind h5 a ha
  | .ins C ns os, v, fp, h, a, ha => by
    simp only [RO] at h
    obtain ⟨b, dx, xs, fq, h1, rfl, h3, h4, h6, h5⟩ := h
    rcases List.mem_cons.mp ha with rfl | ha
    · exact ⟨_, h4, rfl⟩
    · exact ROs.kind h5 a ha
  | .dK ks os, v, fp, h, a, ha => by
    simp only [RO] at h
    obtain ⟨b, xs, fq, h1, rfl, h3, h4, h6, h5⟩ := h
    rcases List.mem_cons.mp ha with rfl | ha
    · exact ⟨_, h4, rfl⟩
    · exact ROs.kind h5 a ha
  | .dT ks os, v, fp, h, a, ha => by
    simp only [RO] at h
    obtain ⟨b, xs, fq, h1, rfl, h3, h4, h6, h5⟩ := h
    rcases List.mem_cons.mp ha with rfl | ha
    · exact ⟨_, h4, rfl⟩
    · exact ROs.kind h5 a ha
  | .at b o, v, fp, h, a, ha => by
    simp only [RO] at h
    exact RO.kind h.2 a ha
theorem ROs.kind : ∀ {os : List Ow} {vs : List V} {fp : List Addr}, ROs K G H os vs fp → ∀ a ∈ fp, ∃ u, H a = some u ∧ notT u = true
  | [], _, _, h, a, ha => by
    simp only [ROs] at h
    rw [h.2] at ha; cases ha
  | o :: os, _, _, h, a, ha => by
    simp only [ROs] at h
    obtain ⟨v, vs, f1, f2, h1, rfl, h3, h4⟩ := h
    rcases List.mem_append.mp ha with ha | ha
    · exact RO.kind h3 a ha
    · exact ROs.kind h4 a ha
end
/-- without some cells -/
def less (G : Hp) (fp : List Addr) : Hp := fun a => if a ∈ fp then none else G a
theorem less_in {fp : List Addr} {a : Addr} (h : a ∈ fp) : less G fp a = none := by unfold less; rw [if_pos h]
theorem less_out {fp : List Addr} {a : Addr} (h : a ∉ fp) : less G fp a = G a := by unfold less; rw [if_neg h]
theorem Ex2.less {fp : List Addr} (hg : ∀ a ∈ fp, G a = none) (k : ∀ a ∈ fp, ∃ u, H a = some u ∧ notT u = true) (x : Ex2 (more G H fp) H G' H') : Ex2 G H (less G' fp) H' := by
  refine ⟨⟨fun a o h => ?_, fun a o h => ?_⟩, fun a o h => ?_, x.h, fun a h1 h2 => ?_⟩
  · by_cases e : a ∈ fp
    · rw [less_in e] at h; cases h
    · rw [less_out e] at h; exact x.s _ _ h
  · by_cases e : a ∈ fp
    · obtain ⟨u, h1, h2⟩ := k a e
      rw [x.h _ _ h1] at h
      cases h
      cases h2
    · rw [less_out e]; exact x.s.t _ _ h
  · have e : a ∉ fp := fun e => by rw [hg a e] at h; cases h
    rw [less_out e]
    exact x.g _ _ (by rw [more_out e]; exact h)
  · by_cases e : a ∈ fp
    · exact less_in e
    · rw [less_out e]
      exact x.n a (by rw [more_out e]; exact h1) h2
mutual
/-- data without lists, objects, dicts -/
def D.nl : D → Bool
  | .non => true
  | .bl _ => true
  | .int _ => true
  | .str _ => true
  | .ty _ => true
  | .adr _ => true
  | .tup xs => nls xs
  | .ft xs => nls xs
  | _ => false
def nls : List D → Bool
  | [] => true
  | d :: ds => D.nl d && nls ds
end
mutual
theorem Rp.less {fp : List Addr} (k : ∀ a ∈ fp, ∃ u, H a = some u ∧ notT u = true) (s : Sub G H) : ∀ {d : D} {v : V}, d.nl = true → Rp K G d v → Rp K (less G fp) d v
  | .non, _, _, h => by simpa only [Rp] using h
  | .bl _, _, _, h => by simpa only [Rp] using h
  | .int _, _, _, h => by simpa only [Rp] using h
  | .str _, _, _, h => by simpa only [Rp] using h
  | .ty _, _, _, h => by simpa only [Rp] using h
  | .adr _, _, _, h => by simpa only [Rp] using h
  | .tup ds, v, f, h => by
    simp only [Rp] at h ⊢
    obtain ⟨a, xs, h1, h2, h3⟩ := h
    refine ⟨a, xs, h1, ?_, Rps.less k s (by simpa only [D.nl] using f) h3⟩
    have e : a ∉ fp := fun e => by
      obtain ⟨u, e1, e2⟩ := k a e
      rw [s _ _ h2] at e1
      cases e1; cases e2
    rw [less_out e]; exact h2
  | .ft ds, v, f, h => by
    simp only [Rp] at h ⊢
    obtain ⟨a, xs, h1, h2, h3⟩ := h
    refine ⟨a, xs, h1, ?_, Rps.less k s (by simpa only [D.nl] using f) h3⟩
    rcases h2 with (h2 | ⟨o, h2⟩) | h2
    · refine .inl (.inl ?_)
      have e : a ∉ fp := fun e => by
        obtain ⟨u, e1, e2⟩ := k a e
        rw [s _ _ h2] at e1
        cases e1; cases e2
      rw [less_out e]; exact h2
    · refine .inl (.inr ⟨o, ?_⟩)
      have e : a ∉ fp := fun e => by
        obtain ⟨u, e1, e2⟩ := k a e
        rw [s _ _ h2] at e1
        cases e1; cases e2
      rw [less_out e]; exact h2
    · exact .inr h2
  | .lst _, _, f, _ => by simp [D.nl] at f
  | .fz _, _, f, _ => by simp [D.nl] at f
  | .obj _ _ _, _, f, _ => by simp [D.nl] at f
  | .dK _ _, _, f, _ => by simp [D.nl] at f
  | .dT _ _, _, f, _ => by simp [D.nl] at f
  | .dL _ _, _, f, _ => by simp [D.nl] at f
theorem Rps.less {fp : List Addr} (k : ∀ a ∈ fp, ∃ u, H a = some u ∧ notT u = true) (s : Sub G H) : ∀ {ds : List D} {vs : List V}, nls ds = true → Rps K G ds vs → Rps K (less G fp) ds vs
  | [], _, _, h => by simpa only [Rps] using h
  | d :: ds, _, f, h => by
    simp only [Rps] at h ⊢
    simp only [nls, Bool.and_eq_true] at f
    obtain ⟨v, vs, h1, h2, h3⟩ := h
    exact ⟨v, vs, h1, Rp.less k s f.1 h2, Rps.less k s f.2 h3⟩
end
end
section
variable {X : Cx} {m : Md} {N : List Str} {sc fs : Scope} {k : Nat} {env : Ev} {e : Expr} {pos : Pos} {Φ : Out → Prop}
/-- the state, a slot's own things counted among what lasts -/
theorem En.lent {K : PySem.W.Frag} {H0 G H : Hp} {σ : St} {i : Nat} {o : Ow} (E : En K H0 G H σ env) (he : env[i]? = some (some o)) :
    ∃ f1, (∀ a ∈ f1, G a = none ∧ ∃ u, H a = some u ∧ notT u = true) ∧ (∀ a ∈ f1, H0 a = none) ∧ En K H0 (more G H f1) H σ (env.set i (some (.per o.fr))) := by
  obtain ⟨fp, e1, e2, e3⟩ := E
  obtain ⟨v, fa, f1, fb, q1, q2, q3, q4⟩ := e1.slot he
  subst q2
  have eg : ∀ a o, G a = some o → more G H f1 a = some o := fun a o q => by
    by_cases z : a ∈ f1
    · rw [(q3.out a z).1] at q; cases q
    · rw [more_out z]; exact q
  obtain ⟨n1, n2, n3⟩ := List.nodup_append.mp e2
  obtain ⟨n4, n5, n6⟩ := List.nodup_append.mp n2
  refine ⟨f1, fun a ha => ⟨(q3.out a ha).1, q3.kind a ha⟩, fun a ha => e3 a (List.mem_append_right _ (List.mem_append_left _ ha)), ?_⟩
  have E2 : Ens K (more G H f1) H (env.set i (some (.per o.fr))) (σ.set i (some v)) (fa ++ ([] ++ fb)) := by
    refine q4 (more G H f1) H (some (.per o.fr)) (some v) [] eg (fun a ha => ⟨rfl, ?_⟩) ⟨v, rfl, ?_⟩
    · have z : a ∉ f1 := fun z => by
        rcases List.mem_append.mp ha with w | w
        · exact n3 a w a (List.mem_append_left _ z) rfl
        · exact n6 a z a w rfl
      rw [more_out z]
      refine (e1.out a ?_).1
      rcases List.mem_append.mp ha with w | w
      · exact List.mem_append_left _ w
      · exact List.mem_append_right _ (List.mem_append_right _ w)
    · simp only [RO]
      exact ⟨trivial, q3.fr eg fun a ha => more_in ha⟩
  have eσ : σ.set i (some v) = σ := by
    apply List.ext_getElem?
    intro j
    by_cases z : i = j
    · subst z
      have hi : i < σ.length := (List.getElem?_eq_some_iff.mp q1).1
      rw [List.getElem?_set_self hi, q1]
    · rw [List.getElem?_set_ne z]
  rw [eσ] at E2
  refine ⟨_, E2, ?_, fun a ha => e3 a ?_⟩
  · simp only [List.nil_append]
    exact List.nodup_append.mpr ⟨n1, n5, fun a ha b hb => n3 a ha b (List.mem_append_right _ hb)⟩
  · rcases List.mem_append.mp ha with w | w
    · exact List.mem_append_left _ w
    · exact List.mem_append_right _ (List.mem_append_right _ (by simpa using w))
theorem sub_more {G H : Hp} {f1 : List Addr} (s : Sub G H) : Sub (more G H f1) H := ⟨fun a o h => by
  by_cases z : a ∈ f1
  · rw [more_in z] at h; exact h
  · rw [more_out z] at h; exact s _ _ h, fun a o h => by
  by_cases z : a ∈ f1
  · rw [more_in z]; exact h
  · rw [more_out z]; exact s.t _ _ h⟩
theorem T.lent {i : Nat} {o : Ow} {q : Bool} (he : env[i]? = some (some o)) (h : T X (env.set i (some (.per o.fr))) e q) : T X env e q := .mk fun H0 σ G H s E Q g => by
  obtain ⟨f1, h1, h2, E2⟩ := E.lent he
  exact h.run H0 σ _ H (sub_more s) E2 Q fun G' H' x => g _ H' (x.less (fun a ha => (h1 a ha).1) fun a ha => (h1 a ha).2)
theorem P.lent {i : Nat} {o : Ow} {d : D} (he : env[i]? = some (some o)) (hd : d.nl = true) (h : P X (env.set i (some (.per o.fr))) e (.per d)) : P X env e (.per d) := .mk fun H0 σ G H s E Q g => by
  obtain ⟨f1, h1, h2, E2⟩ := E.lent he
  refine h.run H0 σ _ H (sub_more s) E2 Q fun v G' H' fp x r n dd => ?_
  simp only [RO] at r
  refine g v (less G' f1) H' [] (x.less (fun a ha => (h1 a ha).1) fun a ha => (h1 a ha).2) ?_ (fun a ha => by cases ha) List.nodup_nil
  simp only [RO]
  exact ⟨trivial, Rp.less (fun a ha => by
    obtain ⟨_, u, e1, e2⟩ := h1 a ha
    exact ⟨u, x.h _ _ e1, e2⟩) x.s hd r.2⟩
/-- return x, x one's own -/
theorem s1_retVar (hX : Cs X m N sc fs k) {i : Nat} {x : Str} {o : Ow} {p1 : Pos} (hi : Ix N i x) (hv : visB sc x = true) (he : env[i]? = some (some o)) (h : Φ (.rt o (env.set i none))) : S1 X (.Return (some (.Name x p1)) pos) env Φ := .mk fun σ G0 H0 G H y E D kk => by
  obtain ⟨fp, e1, e2, e3⟩ := E
  obtain ⟨v, fa, f1, fb, q1, q2, q3, q4⟩ := e1.slot he
  subst q2
  refine WS.of (ps_ret (pe_var (i := i) (by rw [hX.hN]; exact hi.at_) (by rw [hX.hS]; exact vis_of hv) hi.d1 hi.d2)) ⟨v, q1, ?_⟩
  have E2 := q4 G H none (some v) [] (fun _ _ q => q) (fun a ha => ⟨rfl, (e1.out a (by
    rcases List.mem_append.mp ha with w | w
    · exact List.mem_append_left _ w
    · exact List.mem_append_right _ (List.mem_append_right _ w))).1⟩) rfl
  rw [set_self q1] at E2
  obtain ⟨n1, n2, n3⟩ := List.nodup_append.mp e2
  obtain ⟨n4, n5, n6⟩ := List.nodup_append.mp n2
  refine kk.rt o _ v σ G H h y ⟨f1 ++ (fa ++ ([] ++ fb)), ⟨v, σ, f1, _, rfl, rfl, q3, E2⟩, ?_, fun a ha => e3 a ?_⟩
  · refine List.nodup_append.mpr ⟨n4, List.nodup_append.mpr ⟨n1, by simpa using n5, fun a ha b hb => n3 a ha b (List.mem_append_right _ (by simpa using hb))⟩, fun a ha b hb e => ?_⟩
    subst e
    rcases List.mem_append.mp hb with w | w
    · exact n3 a w a (List.mem_append_left _ ha) rfl
    · exact n6 a ha a (by simpa using w) rfl
  · rcases List.mem_append.mp ha with w | w
    · exact List.mem_append_right _ (List.mem_append_left _ w)
    · rcases List.mem_append.mp w with w | w
      · exact List.mem_append_left _ w
      · exact List.mem_append_right _ (List.mem_append_right _ (by simpa using w))
end
end Pu

set_option Elab.async false
set_option linter.all false
set_option autoImplicit false
set_option maxRecDepth 100000
set_option maxHeartbeats 1000001
namespace Pu
open PySem L2
/-! ### places within what is one's own -/
def Ow.strip : Ow → Ow | .at _ o => o | o => o
def Ow.over : Ow → Ow → Ow | .at a _, x => .at a x | _, x => x
def Ow.kids : Ow → List Ow | .lst os => os | .tup os => os | .ins _ _ os => os | .dK _ os => os | .dT _ os => os | _ => []
def Ow.setKids : Ow → List Ow → Ow | .lst _, xs => .lst xs | .tup _, xs => .tup xs | .ins C ns _, xs => .ins C ns xs | .dK ks _, xs => .dK ks xs | .dT ks _, xs => .dT ks xs | o, _ => o
/-- the part at a path -/
def Ow.sub : List Nat → Ow → Option Ow
  | [], o => some o.strip
  | j :: π, o => match o.strip.kids[j]? with
    | some k => Ow.sub π k
    | none => none
/-- .. changed -/
def Ow.put : List Nat → Ow → Ow → Ow
  | [], o, x => o.over x
  | j :: π, o, x => match o.strip.kids[j]? with
    | some k => o.over (o.strip.setKids (o.strip.kids.set j (Ow.put π k x)))
    | none => o
def kidV : HO → List V
  | .lst xs => xs
  | .tup xs => xs
  | .ins _ _ fs => fs.map (·.2)
  | .dK kvs => kvs.map (·.2)
  | .dT kvs => kvs.map (·.2)
  | _ => []
def vAt (H : Hp) : List Nat → V → Option V
  | [], v => some v
  | j :: π, .ref a => match H a with
    | some u => match (kidV u)[j]? with
      | some w => vAt H π w
      | none => none
    | none => none
  | _ :: _, _ => none
section
variable {K : PySem.W.Frag} {G H G' H' : Hp}
theorem vAt_mono (e : ∀ a o, H a = some o → H' a = some o) : ∀ {π : List Nat} {v w : V}, vAt H π v = some w → vAt H' π v = some w
  | [], v, w, h => h
  | j :: π, .ref a, w, h => by
    simp only [vAt] at h ⊢
    cases q : H a with
    | none => rw [q] at h; cases h
    | some u =>
      rw [q] at h
      rw [e a u q]
      simp only at h ⊢
      cases q2 : (kidV u)[j]? with
      | none => rw [q2] at h; cases h
      | some z =>
        rw [q2] at h
        exact vAt_mono e h
  | _ :: _, .non, w, h => by cases h
  | _ :: _, .bl _, w, h => by cases h
  | _ :: _, .int _, w, h => by cases h
  | _ :: _, .str _, w, h => by cases h
  | _ :: _, .ty _, w, h => by cases h
theorem vAt_snoc : ∀ {π : List Nat} {v : V} {a : Addr} {u : HO} {j : Nat} {w : V}, vAt H π v = some (.ref a) → H a = some u → (kidV u)[j]? = some w → vAt H (π ++ [j]) v = some w
  | [], v, a, u, j, w, h, h1, h2 => by
    simp only [vAt] at h
    cases h
    simp only [List.nil_append, vAt, h1, h2]
  | i :: π, .ref b, a, u, j, w, h, h1, h2 => by
    simp only [List.cons_append, vAt] at h ⊢
    cases q : H b with
    | none => rw [q] at h; cases h
    | some z =>
      rw [q] at h
      simp only at h ⊢
      cases q2 : (kidV z)[i]? with
      | none => rw [q2] at h; cases h
      | some y =>
        rw [q2] at h
        exact vAt_snoc h h1 h2
theorem RO.strip {o : Ow} {v : V} {fp : List Addr} (h : RO K G H o v fp) : RO K G H o.strip v fp := by
  cases o <;> first | exact h | (simp only [RO] at h; exact h.2)
theorem RO.over {o x : Ow} {v : V} {fp fp' : List Addr} (h : RO K G H o v fp) (h' : RO K G' H' x v fp') : RO K G' H' (o.over x) v fp' := by
  cases o <;> first | exact h' | (simp only [RO] at h; simp only [Ow.over, RO]; exact ⟨h.1, h'⟩)
theorem zip_snd : ∀ {ns : List Str} {xs : List V}, ns.length = xs.length → (ns.zip xs).map (·.2) = xs
  | [], [], _ => rfl
  | n :: ns, x :: xs, h => by simp only [List.zip_cons_cons, List.map_cons, zip_snd (Nat.succ.inj h)]
  | [], _ :: _, h => by cases h
  | _ :: _, [], h => by cases h
theorem zip_snd' {α : Type} : ∀ {ns : List α} {xs : List V}, ns.length = xs.length → (ns.zip xs).map (·.2) = xs
  | [], [], _ => rfl
  | n :: ns, x :: xs, h => by simp only [List.zip_cons_cons, List.map_cons, zip_snd' (Nat.succ.inj h)]
  | [], _ :: _, h => by cases h
  | _ :: _, [], h => by cases h
/-- a thing with parts -/
theorem RO.box {o : Ow} {v : V} {fp : List Addr} {j : Nat} {k : Ow} (sub : Sub G H) (h : RO K G H o v fp) (hk : o.strip.kids[j]? = some k) :
    ∃ a u fc fq, v = .ref a ∧ fp = fc ++ fq ∧ H a = some u ∧ ROs K G H o.strip.kids (kidV u) fq ∧
      ∀ (os' : List Ow) (G' H' : Hp) (fq' : List Addr), os'.length = o.strip.kids.length → (∀ a o, G a = some o → G' a = some o) → (∀ b ∈ fc, H' b = H b ∧ G' b = none) → ROs K G' H' os' (kidV u) fq' → RO K G' H' (o.over (o.strip.setKids os')) v (fc ++ fq') := by
  have h0 := h
  have h1 := h.strip
  revert hk h1
  generalize hs : o.strip = c
  intro hk h1
  have hov : ∀ {G' H' : Hp} {x : Ow} {fp' : List Addr}, RO K G' H' x v fp' → RO K G' H' (o.over x) v fp' := fun q => h0.over q
  cases c with
  | per d => simp [Ow.kids] at hk
  | «at» a o => simp [Ow.kids] at hk
  | lst os =>
    simp only [RO] at h1
    obtain ⟨a, xs, fq, rfl, rfl, g1, g2, g3⟩ := h1
    refine ⟨a, _, [a], fq, rfl, rfl, g2, g3, fun os' G' H' fq' hl eg q1 q3 => hov ?_⟩
    simp only [Ow.setKids, RO]
    obtain ⟨q1, q2⟩ := q1 a (by simp)
    exact ⟨a, xs, fq', rfl, rfl, q2, q1.trans g2, q3⟩
  | tup os =>
    simp only [RO] at h1
    obtain ⟨a, xs, rfl, g1, g3⟩ := h1
    refine ⟨a, _, [], fp, rfl, rfl, sub _ _ g1, g3, fun os' G' H' fq' hl eg q1 q3 => hov ?_⟩
    simp only [Ow.setKids, RO]
    exact ⟨a, xs, rfl, eg _ _ g1, q3⟩
  | ins C ns os =>
    simp only [RO] at h1
    obtain ⟨a, dx, xs, fq, rfl, rfl, g1, g2, g4, g3⟩ := h1
    have e : (ns.zip xs).map (·.2) = xs := zip_snd (by rw [g4, g3.length])
    refine ⟨a, _, [a], fq, rfl, rfl, g2, ?_, fun os' G' H' fq' hl eg q1 q3 => hov ?_⟩
    · simp only [kidV, e]; exact g3
    · simp only [kidV, e] at q3
      simp only [Ow.setKids, RO]
      obtain ⟨q1, q2⟩ := q1 a (by simp)
      exact ⟨a, dx, xs, fq', rfl, rfl, q2, q1.trans g2, g4.trans hl.symm, q3⟩
  | dK ks os =>
    simp only [RO] at h1
    obtain ⟨a, xs, fq, rfl, rfl, g1, g2, g4, g3⟩ := h1
    have e : (ks.zip xs).map (·.2) = xs := zip_snd' (by rw [g4, g3.length])
    refine ⟨a, _, [a], fq, rfl, rfl, g2, ?_, fun os' G' H' fq' hl eg q1 q3 => hov ?_⟩
    · simp only [kidV, e]; exact g3
    · simp only [kidV, e] at q3
      simp only [Ow.setKids, RO]
      obtain ⟨q1, q2⟩ := q1 a (by simp)
      exact ⟨a, xs, fq', rfl, rfl, q2, q1.trans g2, g4.trans hl.symm, q3⟩
  | dT ks os =>
    simp only [RO] at h1
    obtain ⟨a, xs, fq, rfl, rfl, g1, g2, g4, g3⟩ := h1
    have e : (ks.zip xs).map (·.2) = xs := zip_snd' (by rw [g4, g3.length])
    refine ⟨a, _, [a], fq, rfl, rfl, g2, ?_, fun os' G' H' fq' hl eg q1 q3 => hov ?_⟩
    · simp only [kidV, e]; exact g3
    · simp only [kidV, e] at q3
      simp only [Ow.setKids, RO]
      obtain ⟨q1, q2⟩ := q1 a (by simp)
      exact ⟨a, xs, fq', rfl, rfl, q2, q1.trans g2, g4.trans hl.symm, q3⟩
/-- one of several -/
theorem ROs.focus : ∀ {os : List Ow} {xs : List V} {fq : List Addr} {j : Nat} {k : Ow}, ROs K G H os xs fq → os[j]? = some k →
    ∃ w f1 fr, xs[j]? = some w ∧ RO K G H k w f1 ∧ fq.Perm (f1 ++ fr) ∧
      ∀ (G' H' : Hp) (k' : Ow) (f1' : List Addr), (∀ a o, G a = some o → G' a = some o) → (∀ a ∈ fr, H' a = H a ∧ G' a = none) → RO K G' H' k' w f1' → ∃ fq', ROs K G' H' (os.set j k') xs fq' ∧ fq'.Perm (f1' ++ fr)
  | [], xs, fq, j, k, h, e => by simp at e
  | o :: os, xs, fq, 0, k, h, e => by
    simp at e; subst e
    simp only [ROs] at h
    obtain ⟨v, vs, f1, f2, rfl, rfl, h3, h4⟩ := h
    refine ⟨v, f1, f2, rfl, h3, .refl _, fun G' H' k' f1' eg fr r => ⟨f1' ++ f2, ?_, .refl _⟩⟩
    simp only [List.set_cons_zero, ROs]
    exact ⟨v, vs, f1', f2, rfl, rfl, r, h4.frame eg fr⟩
  | o :: os, xs, fq, j + 1, k, h, e => by
    simp only [ROs] at h
    obtain ⟨v, vs, f1, f2, rfl, rfl, h3, h4⟩ := h
    obtain ⟨w, g1, gr, q1, q2, q3, q4⟩ := ROs.focus (j := j) h4 (by simpa using e)
    refine ⟨w, g1, f1 ++ gr, by simpa using q1, q2, ?_, fun G' H' k' g1' eg fr r => ?_⟩
    · exact ((List.perm_append_left_iff f1).mpr q3).trans (by
        rw [← List.append_assoc, ← List.append_assoc]
        exact (List.perm_append_right_iff gr).mpr List.perm_append_comm)
    · obtain ⟨fq', k1, k2⟩ := q4 G' H' k' g1' eg (fun a ha => fr a (List.mem_append_right _ ha)) r
      refine ⟨f1 ++ fq', ?_, ?_⟩
      · simp only [List.set_cons_succ, ROs]
        exact ⟨v, vs, f1, fq', rfl, rfl, h3.frame eg fun a ha => fr a (List.mem_append_left _ ha), k1⟩
      · exact ((List.perm_append_left_iff f1).mpr k2).trans (by
          rw [← List.append_assoc, ← List.append_assoc]
          exact (List.perm_append_right_iff gr).mpr List.perm_append_comm)
/-- the part at a path -/
theorem RO.focus (sub : Sub G H) : ∀ {π : List Nat} {o : Ow} {v : V} {fp : List Addr} {o1 : Ow}, RO K G H o v fp → o.sub π = some o1 →
    ∃ w f1 fr, vAt H π v = some w ∧ RO K G H o1 w f1 ∧ fp.Perm (f1 ++ fr) ∧
      ∀ (G' H' : Hp) (o1' : Ow) (f1' : List Addr), (∀ a o, G a = some o → G' a = some o) → (∀ a ∈ fr, H' a = H a ∧ G' a = none) → RO K G' H' o1' w f1' → ∃ fp', RO K G' H' (o.put π o1') v fp' ∧ fp'.Perm (f1' ++ fr)
  | [], o, v, fp, o1, h, e => by
    simp only [Ow.sub] at e
    cases e
    exact ⟨v, fp, [], rfl, h.strip, by simp, fun G' H' o1' f1' eg fr r => ⟨f1', h.over r, by simp⟩⟩
  | j :: π, o, v, fp, o1, h, e => by
    simp only [Ow.sub] at e
    cases hk : o.strip.kids[j]? with
    | none => rw [hk] at e; cases e
    | some k =>
      rw [hk] at e
      obtain ⟨a, u, fc, fq, rfl, rfl, g2, g3, g4⟩ := h.box sub hk
      obtain ⟨w, f1, fr, q1, q2, q3, q4⟩ := g3.focus hk
      obtain ⟨w2, f2, fr2, z1, z2, z3, z4⟩ := RO.focus sub (π := π) q2 e
      have pm : (f1 ++ fr).Perm (f2 ++ (fr2 ++ fr)) := by
        rw [← List.append_assoc]
        exact (List.perm_append_right_iff fr).mpr z3
      have mid : ∀ (x y : List Addr), (fc ++ (x ++ y)).Perm (x ++ (fc ++ y)) := fun x y => by
        rw [← List.append_assoc, ← List.append_assoc]
        exact (List.perm_append_right_iff y).mpr List.perm_append_comm
      refine ⟨w2, f2, fc ++ (fr2 ++ fr), by simp only [vAt, g2, q1]; exact z1, z2, ?_, fun G' H' o1' f1' eg fr' r => ?_⟩
      · exact ((List.perm_append_left_iff fc).mpr (q3.trans pm)).trans (mid _ _)
      · obtain ⟨fp2, y1, y2⟩ := z4 G' H' o1' f1' eg (fun b hb => fr' b (List.mem_append_right _ (List.mem_append_left _ hb))) r
        obtain ⟨fq', y3, y4⟩ := q4 G' H' _ fp2 eg (fun b hb => fr' b (List.mem_append_right _ (List.mem_append_right _ hb))) y1
        refine ⟨fc ++ fq', ?_, ?_⟩
        · simp only [Ow.put, hk]
          exact g4 _ G' H' fq' (by simp) eg (fun b hb => fr' b (List.mem_append_left _ hb)) y3
        · refine ((List.perm_append_left_iff fc).mpr (y4.trans ?_)).trans (mid _ _)
          rw [← List.append_assoc]
          exact (List.perm_append_right_iff fr).mpr y2
/-- .. of a slot -/
theorem En.focus {H0 : Hp} {σ : St} {env : Ev} {i : Nat} {π : List Nat} {o o1 : Ow} (sub : Sub G H) (E : En K H0 G H σ env) (he : env[i]? = some (some o)) (hp : o.sub π = some o1) :
    ∃ v w f1 fr, σ[i]? = some (some v) ∧ vAt H π v = some w ∧ RO K G H o1 w f1 ∧ (f1 ++ fr).Nodup ∧ (∀ a ∈ f1 ++ fr, H0 a = none ∧ G a = none ∧ H a ≠ none) ∧
      ∀ (G' H' : Hp) (o1' : Ow) (f1' : List Addr), (∀ a o, G a = some o → G' a = some o) → (∀ a ∈ fr, H' a = H a ∧ G' a = none) → RO K G' H' o1' w f1' → (f1' ++ fr).Nodup → (∀ a ∈ f1', H0 a = none) →
        En K H0 G' H' σ (env.set i (some (o.put π o1'))) := by
  obtain ⟨fp, e1, e2, e3⟩ := E
  obtain ⟨v, fa, f0, fb, q1, q2, q3, q4⟩ := e1.slot he
  subst q2
  obtain ⟨w, f1, fr, z1, z2, z3, z4⟩ := q3.focus sub hp
  have pm : (fa ++ (f0 ++ fb)).Perm (f1 ++ (fr ++ (fa ++ fb))) := by
    have p1 : (fa ++ (f0 ++ fb)).Perm (f0 ++ (fa ++ fb)) := by
      rw [← List.append_assoc, ← List.append_assoc]
      exact (List.perm_append_right_iff fb).mpr List.perm_append_comm
    refine p1.trans ?_
    rw [← List.append_assoc f1 fr]
    exact (List.perm_append_right_iff _).mpr z3
  refine ⟨v, w, f1, fr ++ (fa ++ fb), q1, z1, z2, pm.nodup_iff.mp e2, fun a ha => ?_, fun G' H' o1' f1' eg kp r nd h0 => ?_⟩
  · have := pm.mem_iff.mpr ha
    exact ⟨e3 a this, e1.out a this⟩
  · obtain ⟨fp', y1, y2⟩ := z4 G' H' o1' f1' eg (fun a ha => kp a (List.mem_append_left _ ha)) r
    have E2 := q4 G' H' (some (o.put π o1')) (some v) fp' eg (fun a ha => kp a (List.mem_append_right _ ha)) ⟨v, rfl, y1⟩
    rw [set_self q1] at E2
    have pm2 : (fa ++ (fp' ++ fb)).Perm (f1' ++ (fr ++ (fa ++ fb))) := by
      have p1 : (fa ++ (fp' ++ fb)).Perm (fp' ++ (fa ++ fb)) := by
        rw [← List.append_assoc, ← List.append_assoc]
        exact (List.perm_append_right_iff fb).mpr List.perm_append_comm
      refine p1.trans ?_
      rw [← List.append_assoc f1' fr]
      exact (List.perm_append_right_iff _).mpr y2
    refine ⟨_, E2, pm2.nodup_iff.mpr nd, fun a ha => ?_⟩
    rcases List.mem_append.mp (pm2.mem_iff.mp ha) with z | z
    · exact h0 a z
    · refine e3 a (pm.mem_iff.mpr (List.mem_append_right _ z))
end
end Pu

set_option Elab.async false
set_option linter.all false
set_option autoImplicit false
set_option maxRecDepth 100000
set_option maxHeartbeats 1000001
namespace Pu
open PySem L2
/-- e is the own thing at the slot i, path π -/
structure Loc (X : Cx) (env : Ev) (e : Expr) (i : Nat) (π : List Nat) : Prop where
  run : ∀ (H0 : Hp) (σ : St) (G H : Hp), Sub G H → En X.K H0 G H σ env → ∀ (Q : VK) (v w : V), σ[i]? = some (some v) → vAt H π v = some w → (∀ G' H', Ex2 G H G' H' → Q w H') → WE X e σ H Q
/-- what is known of a class -/
structure KC (m : Md) (x : Str) (C : Addr) : Prop where
  mg : m.mg x = some (.ref C)
  cls : Cls m.K C
  kp : PySem.W.keepIn m.K (.ref C) = true
/-- f is a field of C's instances -/
def KF (m : Md) (C : Addr) (f : Str) : Prop := NoAttr m.K C f
theorem look_zip : ∀ {ns : List Str} {xs : List V} {j : Nat} {f : Str}, ns.length = xs.length → ns.idxOf f = j → j < ns.length → ∃ v, xs[j]? = some v ∧ (ns.zip xs).lookup f = some v
  | [], [], j, f, _, _, h => by simp at h
  | [], _ :: _, j, f, h, _, _ => by cases h
  | _ :: _, [], j, f, h, _, _ => by cases h
  | n :: ns, x :: xs, j, f, h, hj, hl => by
    rw [List.idxOf_cons] at hj
    by_cases q : (n == f) = true
    · rw [q] at hj
      simp only [cond_true] at hj
      subst hj
      have q' : n = f := by simpa using q
      subst q'
      exact ⟨x, rfl, by simp [List.lookup]⟩
    · have qf : (n == f) = false := by simpa using q
      rw [qf] at hj
      simp only [cond_false] at hj
      subst hj
      obtain ⟨v, h1, h2⟩ := look_zip (ns := ns) (xs := xs) (f := f) (Nat.succ.inj h) rfl (by simpa using hl)
      refine ⟨v, by simpa using h1, ?_⟩
      have qf' : (f == n) = false := by
        cases z : f == n with
        | false => rfl
        | true => rw [beq_iff_eq] at z; subst z; simp at qf
      simp only [List.zip_cons_cons, List.lookup, qf']
      exact h2
section
variable {X : Cx} {m : Md} {N : List Str} {sc fs : Scope} {k : Nat} {env env' : Ev} {a b e : Expr} {es : List Expr} {pos apos : Pos} {i : Nat} {π : List Nat} {o : Ow} {Φ : Out → Prop}
theorem loc_var (hX : Cs X m N sc fs k) {x : Str} (hi : Ix N i x) (hv : visB sc x = true) : Loc X env (.Name x pos) i [] := .mk fun H0 σ G H s E Q v w h1 h2 g => by
  simp only [vAt] at h2
  cases h2
  exact WE.of (pe_var (by rw [hX.hN]; exact hi.at_) (by rw [hX.hS]; exact vis_of hv) hi.d1 hi.d2) ⟨v, h1, g G H (Ex2.refl s)⟩
theorem loc_fld (hX : Cs X m N sc fs k) {C : Str} {ns : List Str} {os : List Ow} {f : Str} {j : Nat} (hC : Cls m.K (He.ga m.K C)) (hf : NoAttr m.K (He.ga m.K C) f) (ha : Loc X env a i π) (he : env[i]? = some (some o)) (hs : o.sub π = some (.ins C ns os)) (hj : ns.idxOf f = j) (hl : j < ns.length)
    (hb : ∀ en, attributeBase a f en (eval a en) = eval a en := by intro _; rfl) : Loc X env (.Attribute a f pos) i (π ++ [j]) := .mk fun H0 σ G H s E Q v w h1 h2 g => by
  obtain ⟨v', w1, f1, fr, q1, q2, q3, _, _, _⟩ := E.focus s he hs
  rw [h1] at q1
  cases q1
  simp only [RO] at q3
  obtain ⟨p, dx, xs, fq, rfl, rfl, g1, g2, g4, g3⟩ := q3
  have el : ns.length = xs.length := by rw [g4, g3.length]
  obtain ⟨y, y1, y2⟩ := look_zip el hj hl
  have ew : w = y := by
    have := vAt_snoc (j := j) (w := y) q2 g2 (by simp only [kidV, zip_snd el]; exact y1)
    rw [h2] at this
    exact Option.some.inj this
  subst ew
  refine WE.of (pe_fld pWE (hb _)) (ha.run H0 σ G H s E _ v _ h1 q2 fun G' H' x => ?_)
  exact ⟨p, _, dx, _, w, rfl, x.h _ _ g2, by rw [hX.hK]; exact hC, by rw [hX.hK]; exact hf, y2, g G' H' x⟩
theorem loc_ix {os : List Ow} {j : Int} {n : Nat} (ha : Loc X env a i π) (hb : P X env b (.per (.int j))) (he : env[i]? = some (some o)) (hs : o.sub π = some (.lst os)) (hj : ixN os.length j = some n) (hp : PlainIx b := by intro _ _; rfl) : Loc X env (.Subscript a b pos) i (π ++ [n]) := .mk fun H0 σ G H s E Q v w h1 h2 g => by
  obtain ⟨v', w1, f1, fr, q1, q2, q3, _, _, _⟩ := E.focus s he hs
  rw [h1] at q1
  cases q1
  simp only [RO] at q3
  obtain ⟨p, xs, fq, rfl, rfl, g1, g2, g3⟩ := q3
  have hn : n < xs.length := by
    rw [g3.length]
    exact (ixN_seq hj).2.1
  have ew : xs[n]? = some w := by
    have := vAt_snoc (j := n) (w := xs[n]) q2 g2 (by simp only [kidV]; simp [hn])
    rw [h2] at this
    cases this
    simp [hn]
  refine WE.of (pe_ix ix_list pWE pWE hp) (ha.run H0 σ G H s E _ v _ h1 q2 fun G' H' x => hb.go x.s (E.later x) fun y G2 H2 x2 r2 => ?_)
  simp only [Rp] at r2
  refine ⟨p, xs, j, w, rfl, r2, SqL.of ((x.trans x2).h _ _ g2), ?_, g G2 H2 (x.trans x2)⟩
  unfold atI
  rw [g3.length, hj]
  exact ew
/-- a lasting part -/
theorem p_own {d : D} (h : Loc X env e i π) (he : env[i]? = some (some o)) (hs : o.sub π = some (.per d)) : P X env e (.per d) := .mk fun H0 σ G H s E Q g => by
  obtain ⟨v, w, f1, fr, q1, q2, q3, _, _, _⟩ := E.focus s he hs
  simp only [RO] at q3
  exact h.run H0 σ G H s E Q v w q1 q2 fun G' H' x => (g.trans x).val x.s (q3.2.mono x.g)
end
end Pu

set_option Elab.async false
set_option linter.all false
set_option autoImplicit false
set_option maxRecDepth 100000
set_option maxHeartbeats 1000001
namespace Pu
open PySem L2
section
variable {X : Cx} {m : Md} {N : List Str} {sc fs : Scope} {k : Nat} {env env' : Ev} {a b e e0 tg : Expr} {es : List Expr} {pos apos : Pos} {i : Nat} {π : List Nat} {o : Ow} {Φ : Out → Prop}
/-- a list of one's own at a path: its address, its cells; and the state with the list changed -/
theorem En.ownL {K : PySem.W.Frag} {H0 G H : Hp} {σ : St} {os : List Ow} (sub : Sub G H) (hH : ∀ a o, H0 a = some o → H a = some o) (E : En K H0 G H σ env) (he : env[i]? = some (some o)) (hs : o.sub π = some (.lst os)) :
    ∃ v p vs fq, σ[i]? = some (some v) ∧ vAt H π v = some (.ref p) ∧ H p = some (.lst vs) ∧ G p = none ∧ H0 p = none ∧ ROs K G H os vs fq ∧ p ∉ fq ∧ fq.Nodup ∧
      ∀ (os' : List Ow) (vs' : List V) (fq' : List Addr) (G' H' : Hp), Ex2 G H G' H' → ROs K G' H' os' vs' fq' → p ∉ fq' → fq'.Nodup → (∀ a ∈ fq', a ∈ fq ∨ H a = none) →
        En K H0 G' (upd H' p (.lst vs')) σ (env.set i (some (o.put π (.lst os')))) := by
  obtain ⟨v, w, f1, fr, q1, q2, q3, nd, hh, put⟩ := E.focus sub he hs
  simp only [RO] at q3
  obtain ⟨p, vs, fq, rfl, rfl, g1, g2, g3⟩ := q3
  obtain ⟨n1, n2, n3⟩ := List.nodup_append.mp nd
  obtain ⟨n4, n5⟩ := List.nodup_cons.mp n1
  refine ⟨v, p, vs, fq, q1, q2, g2, g1, (hh p (by simp)).1, g3, n4, n5, fun os' vs' fq' G' H' x r np nd' hq => ?_⟩
  have gp' : G' p = none := x.n p g1 (by rw [g2]; simp)
  refine put G' (upd H' p (.lst vs')) (.lst os') (p :: fq') x.g (fun a ha => ?_) ?_ ?_ fun a ha => ?_
  · obtain ⟨z0, z1, z2⟩ := hh a (List.mem_append_right _ ha)
    have nap : a ≠ p := fun z => n3 p (by simp) a ha z.symm
    rw [upd_ne nap]
    refine ⟨?_, x.n a z1 z2⟩
    cases q : H a with
    | none => exact absurd q z2
    | some o => exact x.h a o q
  · simp only [RO]
    refine ⟨p, vs', fq', rfl, rfl, gp', upd_same, r.frame (fun _ _ q => q) fun a ha => ?_⟩
    have : a ≠ p := fun z => np (z ▸ ha)
    rw [upd_ne this]
    exact ⟨rfl, (r.out a ha).1⟩
  · refine List.nodup_append.mpr ⟨List.nodup_cons.mpr ⟨np, nd'⟩, n2, fun a ha b hb q => ?_⟩
    subst q
    rcases List.mem_cons.mp ha with z | z
    · exact n3 p (by simp) a hb z.symm
    · rcases hq a z with w | w
      · exact n3 a (List.mem_cons_of_mem _ w) a hb rfl
      · exact (hh a (List.mem_append_right _ hb)).2.2 w
  · rcases List.mem_cons.mp ha with z | z
    · rw [z]; exact (hh p (by simp)).1
    · rcases hq a z with w | w
      · exact (hh a (by simp [w])).1
      · exact back_none hH w
/-- x.append(e), x a list of one's own at a path -/
theorem s1_appendL {os : List Ow} {o' : Ow} (hl : Loc X env e0 i π) (he : env[i]? = some (some o)) (hsu : o.sub π = some (.lst os)) (hz : os.length < sizeLine) (hp : P X env e o') (h : Φ (.nx (env.set i (some (o.put π (.lst (os ++ [o'])))))))
    (hbase : ∀ en, attributeBase e0 "append" en (eval e0 en) = eval e0 en := by intro _; rfl)
    (hfew : ∀ en, ((backTo pos (starEach [e] en)).all (fun x => !x.1) && (backToKw pos (keywordEach [] en)).all (fun x => x.1.isSome) && decide (([e]).length + ([] : List Keyword).length + (if ([] : List Keyword).isEmpty then 0 else 1) < 30)) = true := by intro _; rfl)
    (hline : (apos.endLine == pos.line) = true := by rfl) (hs : ∀ en, starEach [e] en = [(false, eval e en)] := by intro _; rfl) {pos2 : Pos} :
    S1 X (.Expr (.Call (.Attribute e0 "append" apos) [e] [] pos) pos2) env Φ := .mk fun σ G0 H0 G H y E D kk => by
  obtain ⟨v0, p, vs, fq, q1, qv, q2, q3, q4, q5, q6, q7, q8⟩ := E.ownL y.s y.h he hsu
  refine WS.of (ps_expr (pe_bm PySem.F.plainAttrs_list PySem.F.slot_list_append PySem.F.type_list_append mt_append pWE (pa_cons pWE pa_nil (by rw [hs]; rfl)) (hbase _) (hfew _) hline (by rw [hs]; rfl)) rfl) ?_
  refine hl.run H0 σ G H y.s E _ v0 _ q1 qv fun G1 H1 x1 => ⟨.inl ⟨rfl, _, SqL.of (x1.h _ _ q2)⟩, ?_⟩
  refine hp.run H0 σ G1 H1 x1.s (E.later x1) _ fun v G' H' fp x' r n d => ⟨p, vs, v, rfl, rfl, x'.h _ _ (x1.h _ _ q2), by rw [q5.length]; exact hz, ?_⟩
  have xx := x1.trans x'
  have n' : ∀ a ∈ fp, H a = none := fun a ha => back_none x1.h (n a ha)
  have hpn : H p ≠ none := by rw [q2]; simp
  have nfp : p ∉ fp := fun z => hpn (n' p z)
  have dis : ∀ a ∈ fq, a ∉ fp := fun a ha z => (q5.out a ha).2 (n' a z)
  refine kk.nx _ σ G' _ h (wp_mono (K := X.K) (G := G) (H := H) (y.trans xx) q4 (xx.n p q3 hpn)) (q8 _ _ (fq ++ fp) G' H' xx ((keepR xx q5).append (ROs.one r)) (fun z => ?_) ?_ fun a ha => ?_)
  · rcases List.mem_append.mp z with z | z
    · exact q6 z
    · exact nfp z
  · exact List.nodup_append.mpr ⟨q7, d, fun a ha b hb q => dis a ha (q ▸ hb)⟩
  · rcases List.mem_append.mp ha with z | z
    · exact .inl z
    · exact .inr (n' a z)
/-- x.clear() -/
theorem s1_clearL {os : List Ow} (hl : Loc X env e0 i π) (he : env[i]? = some (some o)) (hsu : o.sub π = some (.lst os)) (h : Φ (.nx (env.set i (some (o.put π (.lst []))))))
    (hbase : ∀ en, attributeBase e0 "clear" en (eval e0 en) = eval e0 en := by intro _; rfl) (hline : (apos.endLine == pos.line) = true := by rfl) {pos2 : Pos} :
    S1 X (.Expr (.Call (.Attribute e0 "clear" apos) [] [] pos) pos2) env Φ := .mk fun σ G0 H0 G H y E D kk => by
  obtain ⟨v0, p, vs, fq, q1, qv, q2, q3, q4, q5, q6, q7, q8⟩ := E.ownL y.s y.h he hsu
  refine WS.of (ps_expr (pe_bm0 PySem.F.plainAttrs_list PySem.F.slot_list_clear PySem.F.type_list_clear mt_clear pWE (hbase _) hline) rfl) ?_
  refine hl.run H0 σ G H y.s E _ v0 _ q1 qv fun G1 H1 x1 => ⟨.inl ⟨rfl, _, SqL.of (x1.h _ _ q2)⟩, p, vs, rfl, rfl, x1.h _ _ q2, ?_⟩
  have hpn : H p ≠ none := by rw [q2]; simp
  refine kk.nx _ σ G1 _ h (wp_mono (K := X.K) (G := G) (H := H) (y.trans x1) q4 (x1.n p q3 hpn)) (q8 _ _ [] G1 H1 x1 (by simp [ROs]) (by simp) List.nodup_nil fun a ha => by cases ha)
/-- x.pop() -/
theorem s1_popL {os : List Ow} {o' : Ow} (hl : Loc X env e0 i π) (he : env[i]? = some (some o)) (hsu : o.sub π = some (.lst (os ++ [o']))) (h : Φ (.nx (env.set i (some (o.put π (.lst os))))))
    (hbase : ∀ en, attributeBase e0 "pop" en (eval e0 en) = eval e0 en := by intro _; rfl) (hline : (apos.endLine == pos.line) = true := by rfl) {pos2 : Pos} :
    S1 X (.Expr (.Call (.Attribute e0 "pop" apos) [] [] pos) pos2) env Φ := .mk fun σ G0 H0 G H y E D kk => by
  obtain ⟨v0, p, vs, fq, q1, qv, q2, q3, q4, q5, q6, q7, q8⟩ := E.ownL y.s y.h he hsu
  obtain ⟨vs', v, f1, f2, rfl, rfl, r1, r2⟩ := q5.dropLast
  refine WS.of (ps_expr (pe_bm0 PySem.F.plainAttrs_list PySem.F.slot_list_pop PySem.F.type_list_pop mt_pop pWE (hbase _) hline) rfl) ?_
  refine hl.run H0 σ G H y.s E _ v0 _ q1 qv fun G1 H1 x1 => ⟨.inl ⟨rfl, _, SqL.of (x1.h _ _ q2)⟩, p, _, v, rfl, rfl, x1.h _ _ q2, by simp, ?_⟩
  rw [List.dropLast_concat]
  have hpn : H p ≠ none := by rw [q2]; simp
  refine kk.nx _ σ G1 _ h (wp_mono (K := X.K) (G := G) (H := H) (y.trans x1) q4 (x1.n p q3 hpn)) (q8 _ _ f1 G1 H1 x1 (keepR x1 r1) (fun z => q6 (List.mem_append_left _ z)) (List.nodup_append.mp q7).1 fun a ha => .inl (List.mem_append_left _ ha))
/-- x[b] = e -/
theorem s1_setItemL {os : List Ow} {o' : Ow} {j : Int} {n : Nat} {p2 p3 : Pos} (hl : Loc X env e0 i π) (he : env[i]? = some (some o)) (hsu : o.sub π = some (.lst os)) (hj : ixN os.length j = some n) (hp : P X env e o') (hb : P X env b (.per (.int j)))
    (h : Φ (.nx (env.set i (some (o.put π (.lst (os.set n o')))))))
    (ha : ∀ en v, assign (.Subscript e0 b p2) en v = (do
      let ov ← holding [v] (eval e0 en)
      let iv ← holding [v, ov] (eval b en)
      standAt p2
      holding [v, ov, iv] (setItem ov iv v)
      release [v, ov, iv] []) := by intro _ _; rfl)
    (hs : ∀ en, swapsWithSole [.Subscript e0 b p2] e p3.line en = pure false := by intro _; rfl) (hw : ∀ en, swappedStores [.Subscript e0 b p2] e en = pure none := by intro _; rfl)
    (h1 : ∀ en, (assignEach [.Subscript e0 b p2] en).map (·.2) = [assign (.Subscript e0 b p2) en] := by intro _; rfl) :
    S1 X (.Assign [.Subscript e0 b p2] e p3) env Φ := .mk fun σ G0 H0 G H y E D kk => by
  refine WS.of (ps_asg pWE (pg_sub pWE pWE set_list (ha _)) (hs _) (hw _) (h1 _)) ?_
  obtain ⟨v0, p, vs, fq, q1, qv, q2, q3, q4, q5, q6, q7, q8⟩ := E.ownL y.s y.h he hsu
  refine hp.run H0 σ G H y.s E _ fun v G1 H1 fp x1 r1 n1 d1 => ?_
  refine hl.run H0 σ G1 H1 x1.s (E.later x1) _ v0 _ q1 (vAt_mono x1.h qv) fun G3 H3 x3 => ?_
  refine hb.go x3.s ((E.later x1).later x3) fun w G2 H2 x2' r2 => ?_
  have x2 := x3.trans x2'
  simp only [Rp] at r2
  subst r2
  have hpn : H p ≠ none := by rw [q2]; simp
  have x12 := x1.trans x2
  refine ⟨p, vs, j, n, rfl, rfl, x12.h _ _ q2, by rw [q5.length]; exact hj, ?_⟩
  have hn : n < os.length := (ixN_seq hj).2.1
  obtain ⟨fq', k1, k2, k3⟩ := ROs.set (keepR x12 q5) hn (keepO x2 r1)
  refine kk.nx _ σ G2 _ h (wp_mono (K := X.K) (G := G) (H := H) (y.trans x12) q4 (x12.n p q3 hpn)) (q8 _ _ fq' G2 H2 x12 k1 (fun z => ?_) (k3 q7 d1 fun a ha z => (q5.out a z).2 (n1 a ha)) fun a ha => ?_)
  · rcases k2 p z with z | z
    · exact hpn (n1 p z)
    · exact q6 z
  · rcases k2 a ha with z | z
    · exact .inr (n1 a z)
    · exact .inl z
end
end Pu

set_option Elab.async false
set_option linter.all false
set_option autoImplicit false
set_option maxRecDepth 100000
set_option maxHeartbeats 1000001
namespace Pu
open PySem L2
/-! ### fields are set -/
/-- the names, with f -/
def addN (ns : List Str) (f : Str) : List Str := if f ∈ ns then ns else ns ++ [f]
/-- the values, with f's -/
def addV {α : Type} (ns : List Str) (f : Str) (xs : List α) (x : α) : List α := if f ∈ ns then xs.set (ns.idxOf f) x else xs ++ [x]
theorem putF_zip (f : Str) (y : V) : ∀ {ns : List Str} {xs : List V}, ns.length = xs.length → putF f y (ns.zip xs) = (addN ns f).zip (addV ns f xs y)
  | [], [], _ => rfl
  | [], _ :: _, h => by cases h
  | _ :: _, [], h => by cases h
  | n :: ns, x :: xs, h => by
    have ih := putF_zip f y (ns := ns) (xs := xs) (Nat.succ.inj h)
    simp only [List.zip_cons_cons, putF]
    by_cases q : n = f
    · subst q
      rw [if_pos rfl]
      simp [addN, addV]
    · rw [if_neg q, ih]
      have q' : ¬ f = n := fun z => q z.symm
      have qb : (n == f) = false := by simpa using q
      unfold addN addV
      by_cases hm : f ∈ ns
      · rw [if_pos hm, if_pos hm, if_pos (List.mem_cons_of_mem _ hm), if_pos (List.mem_cons_of_mem _ hm), List.idxOf_cons, qb]
        simp
      · have hm' : f ∉ n :: ns := by
          intro z
          rcases List.mem_cons.mp z with z | z
          · exact q' z
          · exact hm z
        rw [if_neg hm, if_neg hm, if_neg hm', if_neg hm']
        rfl
theorem addV_length {α : Type} {ns : List Str} {f : Str} {xs : List α} {x : α} (h : ns.length = xs.length) : (addN ns f).length = (addV ns f xs x).length := by
  unfold addN addV
  split <;> simp [h]
theorem ROs.addV {K : PySem.W.Frag} {G H : Hp} {ns : List Str} {f : Str} {os : List Ow} {vs : List V} {fp : List Addr} {o : Ow} {v : V} {f1 : List Addr} (hl : ns.length = os.length) (h : ROs K G H os vs fp) (r : RO K G H o v f1) :
    ∃ fp', ROs K G H (Pu.addV ns f os o) (Pu.addV ns f vs v) fp' ∧ (∀ a ∈ fp', a ∈ f1 ∨ a ∈ fp) ∧ (fp.Nodup → f1.Nodup → (∀ a ∈ f1, a ∉ fp) → fp'.Nodup) := by
  unfold Pu.addV
  by_cases hm : f ∈ ns
  · rw [if_pos hm, if_pos hm]
    exact ROs.set h (by rw [← hl]; exact List.idxOf_lt_length_of_mem hm) r
  · rw [if_neg hm, if_neg hm]
    refine ⟨fp ++ f1, h.append (ROs.one r), fun a ha => (List.mem_append.mp ha).symm, fun n1 n2 d => ?_⟩
    exact List.nodup_append.mpr ⟨n1, n2, fun a ha b hb e => d b hb (e ▸ ha)⟩
section
variable {X : Cx} {m : Md} {N : List Str} {sc fs : Scope} {k : Nat} {env env' : Ev} {a b e e0 tg : Expr} {es : List Expr} {pos apos : Pos} {i : Nat} {π : List Nat} {o : Ow} {Φ : Out → Prop}
/-- an instance of one's own at a path -/
theorem En.ownI {K : PySem.W.Frag} {H0 G H : Hp} {σ : St} {C : Str} {ns : List Str} {os : List Ow} (sub : Sub G H) (hH : ∀ a o, H0 a = some o → H a = some o) (E : En K H0 G H σ env) (he : env[i]? = some (some o)) (hs : o.sub π = some (.ins C ns os)) :
    ∃ v p dx vs fq, σ[i]? = some (some v) ∧ vAt H π v = some (.ref p) ∧ H p = some (.ins (He.ga K C) dx (ns.zip vs)) ∧ G p = none ∧ H0 p = none ∧ ns.length = os.length ∧ ROs K G H os vs fq ∧ p ∉ fq ∧ fq.Nodup ∧
      ∀ (ns' : List Str) (os' : List Ow) (vs' : List V) (fq' : List Addr) (G' H' : Hp), Ex2 G H G' H' → ns'.length = os'.length → ROs K G' H' os' vs' fq' → p ∉ fq' → fq'.Nodup → (∀ a ∈ fq', a ∈ fq ∨ H a = none) →
        En K H0 G' (upd H' p (.ins (He.ga K C) dx (ns'.zip vs'))) σ (env.set i (some (o.put π (.ins C ns' os')))) := by
  obtain ⟨v, w, f1, fr, q1, q2, q3, nd, hh, put⟩ := E.focus sub he hs
  simp only [RO] at q3
  obtain ⟨p, dx, vs, fq, rfl, rfl, g1, g2, g4, g3⟩ := q3
  obtain ⟨n1, n2, n3⟩ := List.nodup_append.mp nd
  obtain ⟨n4, n5⟩ := List.nodup_cons.mp n1
  refine ⟨v, p, dx, vs, fq, q1, q2, g2, g1, (hh p (by simp)).1, g4, g3, n4, n5, fun ns' os' vs' fq' G' H' x hl' r np nd' hq => ?_⟩
  have gp' : G' p = none := x.n p g1 (by rw [g2]; simp)
  refine put G' (upd H' p (.ins (He.ga K C) dx (ns'.zip vs'))) (.ins C ns' os') (p :: fq') x.g (fun a ha => ?_) ?_ ?_ fun a ha => ?_
  · obtain ⟨z0, z1, z2⟩ := hh a (List.mem_append_right _ ha)
    have nap : a ≠ p := fun z => n3 p (by simp) a ha z.symm
    rw [upd_ne nap]
    refine ⟨?_, x.n a z1 z2⟩
    cases q : H a with
    | none => exact absurd q z2
    | some o => exact x.h a o q
  · simp only [RO]
    refine ⟨p, dx, vs', fq', rfl, rfl, gp', upd_same, hl', r.frame (fun _ _ q => q) fun a ha => ?_⟩
    have : a ≠ p := fun z => np (z ▸ ha)
    rw [upd_ne this]
    exact ⟨rfl, (r.out a ha).1⟩
  · refine List.nodup_append.mpr ⟨List.nodup_cons.mpr ⟨np, nd'⟩, n2, fun a ha b hb q => ?_⟩
    subst q
    rcases List.mem_cons.mp ha with z | z
    · exact n3 p (by simp) a hb z.symm
    · rcases hq a z with w | w
      · exact n3 a (List.mem_cons_of_mem _ w) a hb rfl
      · exact (hh a (List.mem_append_right _ hb)).2.2 w
  · rcases List.mem_cons.mp ha with z | z
    · rw [z]; exact (hh p (by simp)).1
    · rcases hq a z with w | w
      · exact (hh a (by simp [w])).1
      · exact back_none hH w
/-- x.f = e -/
theorem s1_fldL (hX : Cs X m N sc fs k) {C : Str} {ns : List Str} {os : List Ow} {f : Str} {o' : Ow} {p2 p3 : Pos} (hC : Cls m.K (He.ga m.K C)) (hf : NoAttr m.K (He.ga m.K C) f) (hl : Loc X env e0 i π) (he : env[i]? = some (some o)) (hsu : o.sub π = some (.ins C ns os)) (hz : ns.length < 1000) (hp : P X env e o')
    (h : Φ (.nx (env.set i (some (o.put π (.ins C (addN ns f) (addV ns f os o')))))))
    (hs : ∀ en, swapsWith e (some (.Attribute e0 f p2)) p3.line en = pure false := by intro _; rfl) : S1 X (.Assign [.Attribute e0 f p2] e p3) env Φ := .mk fun σ G0 H0 G H y E D kk => by
  refine WS.of (ps_fld pWE pWE (hs _)) ?_
  obtain ⟨v0, p, dx, vs, fq, q1, qv, q2, q3, q4, hlen, q5, q6, q7, q8⟩ := E.ownI y.s y.h he hsu
  refine hp.run H0 σ G H y.s E _ fun v G1 H1 fp x1 r1 n1 d1 => ?_
  refine hl.run H0 σ G1 H1 x1.s (E.later x1) _ v0 _ q1 (vAt_mono x1.h qv) fun G2 H2 x2 => ?_
  have x12 := x1.trans x2
  have hpn : H p ≠ none := by rw [q2]; simp
  have el : ns.length = vs.length := by rw [hlen, q5.length]
  refine ⟨p, _, dx, _, rfl, x12.h _ _ q2, by rw [hX.hK]; exact hC, by rw [hX.hK]; exact hf, by rw [List.length_zip]; omega, ?_⟩
  rw [putF_zip f v el]
  obtain ⟨fq', k1, k2, k3⟩ := ROs.addV (f := f) hlen (keepR x12 q5) (keepO x2 r1)
  refine kk.nx _ σ G2 _ h (wp_mono (K := X.K) (G := G) (H := H) (y.trans x12) q4 (x12.n p q3 hpn)) (q8 _ _ _ fq' G2 H2 x12 (addV_length hlen) k1 (fun z => ?_) (k3 q7 d1 fun a ha z => (q5.out a z).2 (n1 a ha)) fun a ha => ?_)
  · rcases k2 p z with z | z
    · exact hpn (n1 p z)
    · exact q6 z
  · rcases k2 a ha with z | z
    · exact .inr (n1 a z)
    · exact .inl z
end
end Pu

set_option Elab.async false
set_option linter.all false
set_option autoImplicit false
set_option maxRecDepth 100000
set_option maxHeartbeats 1000001
namespace Pu
open PySem L2
open PyProof.Rows (envOfC)
theorem ex2_less0 {G H : Hp} {f : List Addr} (s : Sub G H) : Ex2 G (less H f) G H := ⟨s, fun _ _ h => h, fun a o h => by
  by_cases z : a ∈ f
  · rw [less_in z] at h; cases h
  · rw [less_out z] at h; exact h, fun _ h _ => h⟩
theorem ex2_after {G0 H0 G H G' H' : Hp} {f : List Addr} (y : Ex2 G0 H0 G H) (hf : ∀ a ∈ f, H0 a = none) (x : Ex2 G (less H f) G' H') : Ex2 G0 H0 G' H' := by
  refine ⟨x.s, fun a o h => x.g _ _ (y.g _ _ h), fun a o h => ?_, fun a h1 h2 => ?_⟩
  · have z : a ∉ f := fun z => by rw [hf a z] at h; cases h
    exact x.h _ _ (by rw [less_out z]; exact y.h _ _ h)
  · have z : a ∉ f := fun z => h2 (hf a z)
    exact x.n a (y.n a h1 h2) (by rw [less_out z]; exact ne_none y.h h2)
/-- how a call with a thing of one's own ends: the thing behind it, the result -/
inductive Rm where
  | ok (s o : Ow) | ex (c : Xc) (s : Ow)
def GvM (K : PySem.W.Frag) (G H : Hp) (f0 : List Addr) (v0 : V) : Rm → VK → XK → Prop
  | .ok s o, Q, _ => ∀ v G' H' fp, Ex2 G (less H f0) G' H' → ROs K G' H' [o, s] [v, v0] fp → fp.Nodup → (∀ a ∈ fp, less H f0 a = none) → Q v H'
  | .ex c s, _, E => ∀ cls d G' H' fp, Ex2 G (less H f0) G' H' → RO K G' H' s v0 fp → fp.Nodup → (∀ a ∈ fp, less H f0 a = none) → RX K G' c cls d → E cls d H'
/-- the promise of a def whose first argument is the caller's own -/
def spM (K : PySem.W.Frag) (R : Ow → List D → Rm → Prop) : Sp := fun vs H Q E => ∃ G a s ds f0 vr r, vs = .ref a :: vr ∧ Sub G H ∧ RO K G H s (.ref a) f0 ∧ f0.Nodup ∧ Rps K G ds vr ∧ R s ds r ∧ GvM K G H f0 (.ref a) r Q E
def RetM (a : Addr) : Rm → Out → Prop
  | .ok s o, .rt o' env => o' = o ∧ env[0]? = some (some (.at a s))
  | .ok s o, .nx env => o = .per .non ∧ env[0]? = some (some (.at a s))
  | .ex c s, .ex c' env => c' = c ∧ env[0]? = some (some (.at a s))
  | _, _ => False
/-- the slots at the entry -/
def entM (N : List Str) (a : Addr) (s : Ow) (ds : List D) : Ev := some (.at a s) :: (ds.map (fun d => some (Ow.per d)) ++ List.replicate (N.length - (ds.length + 1)) none)
section
variable {m : Md} {N ps : List Str} {k : Nat} {x qual : Str} {params : Arguments} {body : List Stmt} {scope : Scope} {kws : List (Str × V)} {f : Addr} {fd : FuncData} {R : Ow → List D → Rm → Prop}
theorem En.self {K : PySem.W.Frag} {H0 G H : Hp} {σ : St} {env : Ev} {a : Addr} {s : Ow} (E : En K H0 G H σ env) (h : env[0]? = some (some (.at a s))) : ∃ fp, RO K G H s (.ref a) fp ∧ fp.Nodup ∧ ∀ b ∈ fp, H0 b = none := by
  cases env with
  | nil => simp at h
  | cons e env =>
    simp at h
    subst h
    obtain ⟨fp, ⟨v', r, f1, f2, e1, rfl, r1, _⟩, n, h0⟩ := E
    simp only [RO] at r1
    obtain ⟨rfl, r1⟩ := r1
    exact ⟨f1, r1, (List.nodup_append.mp n).1, fun b hb => h0 b (List.mem_append_left _ hb)⟩
theorem En.self2 {K : PySem.W.Frag} {H0 G H : Hp} {σ : St} {env : Ev} {a : Addr} {s o : Ow} {v : V} (E : En K H0 G H (some v :: σ) (some o :: env)) (h : env[0]? = some (some (.at a s))) : ∃ fp, ROs K G H [o, s] [v, .ref a] fp ∧ fp.Nodup ∧ ∀ b ∈ fp, H0 b = none := by
  cases env with
  | nil => simp at h
  | cons e env =>
    simp at h
    subst h
    obtain ⟨fp, ⟨v', r, f1, f2, e1, rfl, r1, v2, r', g1, g2, rfl, rfl, r2, _⟩, n, h0⟩ := E
    cases e1
    simp only [RO] at r2
    obtain ⟨rfl, r2⟩ := r2
    obtain ⟨n1, n2, n3⟩ := List.nodup_append.mp n
    refine ⟨f1 ++ g1, ?_, List.nodup_append.mpr ⟨n1, (List.nodup_append.mp n2).1, fun a ha b hb => n3 a ha b (List.mem_append_left _ hb)⟩, fun b hb => h0 b ?_⟩
    · simp only [ROs]
      exact ⟨v, _, f1, g1, rfl, rfl, r1, _, [], g1, [], rfl, by simp, r2, rfl, rfl⟩
    · rcases List.mem_append.mp hb with z | z
      · exact List.mem_append_left _ z
      · exact List.mem_append_right _ (List.mem_append_left _ z)
theorem fnOkM (F : FunD m.K x qual params body scope [] kws f fd) (Sc : FnScope N ps scope) (hR : ∀ s ds r, R s ds r → ds.length + 1 = ps.length)
    (h : ∀ X, Cs X m N scope scope k → Ft X scope → ∀ a s ds r, R s ds r → S X body (entM N a s ds) (RetM a r)) : FnOk m.P m.w m.K m.mg m.base (L2.CX m.P m.w) (k + 1) f fd ps (spM m.K R) := by
  refine F.ok Sc (fun vs H Q E ⟨G, a, s, ds, f0, vr, r, e, _, _, _, q, hr, _⟩ => by rw [e, List.length_cons, q.length]; exact hR s ds r hr) fun cdv A outer s H vs Q E hr hsp => ?_
  obtain ⟨G, a, so, ds, f0, vr, rr, rfl, sub, r0, n0, r, hRd, g⟩ := hsp
  refine ⟨WSs (cxOf (L2.CX m.P m.w) m.P m.w m.K m.mg m.base N qual scope f cdv A outer s H E) body, pWSs, ?_⟩
  have hl := r.length
  refine (h _ (cs_of Sc hr) ft_of a so ds rr hRd).run (L2.start N (.ref a :: vr)) G (less H f0) G H (ex2_less0 sub) ⟨f0 ++ [], ?_, by simpa using n0, fun b hb => less_in (by simpa using hb)⟩ _ ⟨?_, ?_, ?_, ?_, ?_⟩
  · unfold entM L2.start
    rw [List.length_cons, hl]
    exact ⟨.ref a, _, f0, [], rfl, rfl, by simp only [RO]; exact ⟨trivial, r0⟩, ens_args r (ens_none _)⟩
  · intro env σ G' H' ho x' E'
    cases rr with
    | ok s' o =>
      obtain ⟨rfl, hs⟩ := ho
      obtain ⟨fp, y1, y2, y3⟩ := E'.self hs
      refine g .non G' H' fp x' ?_ y2 y3
      simp only [ROs]
      exact ⟨.non, _, [], fp, rfl, rfl, by simp only [RO, Rp]; exact ⟨trivial, trivial⟩, _, [], fp, [], rfl, by simp, y1, rfl, rfl⟩
    | ex c s' => exact ho.elim
  · intro env σ G' H' ho; cases rr <;> exact ho.elim
  · intro env σ G' H' ho; cases rr <;> exact ho.elim
  · intro o' env v σ G' H' ho x' E'
    cases rr with
    | ok s' o =>
      obtain ⟨rfl, hs⟩ := ho
      obtain ⟨fp, y1, y2, y3⟩ := E'.self2 hs
      exact g v G' H' fp x' y1 y2 y3
    | ex c s' => exact ho.elim
  · refine ⟨_, takes_of (E := E) (E₁ := fun e' s'' => L2.CX m.P m.w outer H s E e' s'') rfl rfl rfl rfl, fun c env cls d σ G' H' ho x' E' rx => ?_⟩
    cases rr with
    | ok s' o => exact ho.elim
    | ex c' s' =>
      obtain ⟨rfl, hs⟩ := ho
      obtain ⟨fp, y1, y2, y3⟩ := E'.self hs
      exact g cls d G' H' fp x' y1 y2 y3 rx
end
end Pu

set_option Elab.async false
set_option linter.all false
set_option autoImplicit false
set_option maxRecDepth 100000
set_option maxHeartbeats 4000001
namespace Pu
open PySem PySem.Spec L2 PyProof.Rows
/-! ### try: an exception is caught, and known behind the suite -/
theorem xo_ok {P : Program} {w : World} {H : Hp} {h : Heap} {a C : Addr} {d : Option Addr} {oe : Obj} {vs : Array Value} (e : h.get? a = some oe) (z : Zc (.ref C) d oe) (hd : oe.data = .fields vs) : ObjOk P w H h a (XO a C d) :=
  ⟨⟨oe, vs, e, z, hd⟩, ⟨oe, e⟩, fun _ _ ⟨o, v, q, r⟩ k => ⟨o, v, k o q, r⟩⟩
/-- an address at which nothing of ours stands -/
structure Apart (X : Cx) (pins : List (Addr × Obj)) (H : Hp) (a : Addr) : Prop where
  hp : H a = none
  lo : a ≠ X.env.locals
  fr : a ∉ X.fs
  old : X.s_0.heap.get? a = none
  pn : ∀ p ∈ X.pn ++ pins, p.1 ≠ a
/-- the address of an exception in the air is such a one -/
theorem apart_of {X : Cx} {pins : List (Addr × Obj)} {σ : L2.St} {H : Hp} {sI : Shared} {B h : Heap} {a : Addr} {o : Obj} {vs : Array Value} (hx : X.ex = []) (hs : X.stack = X.env :: X.outer) (hf : X.env.frame = some X.env.locals)
    (I : L2.Inv X pins σ H sI) (nb : ∀ b u, sI.heap.get? b = some u → b ∉ L2.frs X.stack → B.get? b = some u) (hB : B.get? a = none) (ff : h.FunFrames B (X.env :: X.outer)) (ho : h.get? a = some o) (hd : o.data = .fields vs) (hn : H a = none) : Apart X pins H a := by
  have out : a ∉ L2.frs (X.env :: X.outer) := by
    intro hm
    obtain ⟨_, u, hu, no⟩ := ff.mem hm
    cases ho.symm.trans hu
    exact no vs hd
  have gone : sI.heap.get? a = none := by
    rcases Option.eq_none_or_eq_some (sI.heap.get? a) with q | ⟨u, q⟩
    · exact q
    · cases hB.symm.trans (nb a u q (hs ▸ out))
  constructor
  · exact hn
  · rintro rfl
    exact out (List.mem_filterMap.mpr ⟨_, List.mem_cons_self, hf⟩)
  · intro hm
    obtain ⟨en, h1, h2⟩ := List.mem_filterMap.mp hm
    exact out (List.mem_filterMap.mpr ⟨en, List.mem_cons_of_mem _ h1, h2⟩)
  · rcases Option.eq_none_or_eq_some (X.s_0.heap.get? a) with q | ⟨u, q⟩
    · exact q
    · obtain ⟨u', z⟩ := I.base.there a u q (by rw [hx]; exact List.not_mem_nil)
      cases gone.symm.trans z
  · rintro p hp rfl
    cases gone.symm.trans (I.pin p hp).1
/-- from now on it is one of our things -/
theorem Apart.track {X : Cx} {pins : List (Addr × Obj)} {σ : L2.St} {H : Hp} {s : Shared} {a C : Addr} {d : Option Addr} {oe : Obj} {vs : Array Value} (ap : Apart X pins H a) (I : L2.Inv X pins σ H s) (ha : s.heap.get? a = some oe) (hz : Zc (.ref C) d oe) (hd : oe.data = .fields vs) :
    L2.Inv X pins σ (upd H a (XO a C d)) s where
  ok := I.ok
  os := I.os
  bare := I.bare
  loc := I.loc
  cell := I.cell
  len := I.len
  hok := I.hok.laidN (fun _ _ z => z) ap.hp (xo_ok ha hz hd)
  free := (upd_ne (Ne.symm ap.lo)).trans I.free
  freeC := fun x c e => by
    refine (upd_ne ?_).trans (I.freeC x c e)
    rintro rfl
    obtain ⟨v, o, h1, h2⟩ := I.cell x c e
    cases ha.symm.trans h1
    cases hd.symm.trans h2
  pin := fun p hp => by
    obtain ⟨h1, h2, h3⟩ := I.pin p hp
    exact ⟨h1, (upd_ne (ap.pn p hp)).trans h2, h3⟩
  base := {
    keep := I.base.keep
    slot := I.base.slot
    there := I.base.there
    free := fun b o e n hb => (upd_ne (by rintro rfl; cases ap.old.symm.trans e)).trans (I.base.free b o e n hb)
    tups := fun b xs e => by
      have z := I.base.tups b xs e
      exact (upd_ne (ne_of_none z ap.hp)).trans z
    frzs := fun b o u e => by
      have z := I.base.frzs b o u e
      exact (upd_ne (ne_of_none z ap.hp)).trans z
    tbls := fun b ps e => by
      obtain ⟨m, z⟩ := I.base.tbls b ps e
      exact ⟨m, (upd_ne (ne_of_none z ap.hp)).trans z⟩ }
/-- what the clause wishes of an exception of the body -/
def wKp (K : PySem.W.Frag) (c : Value) (i j : Nat) (D : Ends) : WX := fun cls d σ H =>
  ∃ C : Addr, cls = .ref C ∧ PySem.W.exmOne K cls c = some true ∧ ∀ a, H a = none → D.nx ((σ.set j (some (.ref a))).set i none) (upd H a (XO a C d))
theorem set3 {σ : L2.St} {i j : Nat} {v : Option V} (h : i ≠ j) : ((σ.set i v).set j v).set i none = (σ.set j v).set i none := by
  rw [List.set_comm _ _ h, List.set_set]
/-- a try's body ends as it ends outside -/
theorem sp_ofTry {X : Cx} {pins pn : List (Addr × Obj)} {xe : Value → Shared → Prop} {D : Ends} {f : Flow} {s : Shared} (ok : X.Ok) (h : SP (X.tr (X.pn ++ pins) xe) pn D f s) : SP X pins D f s := by
  cases f <;> simp only [SP] at h ⊢
  case ret u => obtain ⟨v, σ', H', J, r⟩ := h; exact ⟨v, σ', H', J.ofTry ok, r⟩
  all_goals obtain ⟨σ', H', J, r⟩ := h; exact ⟨σ', H', J.ofTry ok, r⟩
section
variable {X : Cx} {pins : List (Addr × Obj)} {σ : L2.St} {H : Hp} {s : Shared} {a C : Addr} {d : Option Addr} {oe : Obj} {vs : Array Value} {x n y : Str} {c : Value} {i j : Nat} {np py pn1 sp pos pos' : Pos} {D : Ends} {E1 E2 : Value → Shared → Prop}
/-- the suite y = n, the name n being bound ahead and unbound behind -/
theorem keep_suite (hN : X.N.Nodup) (hi : X.N[i]? = some n) (hj : X.N[j]? = some y) (hij : i ≠ j) (hln : X.env.kindOf n = some .local) (hly : X.env.kindOf y = some .local) (d1 : (n == ("__debug__" : Str)) = false) (d2 : (n == ("__classdict__" : Str)) = false)
    (I : L2.Inv X pins σ H s) (ap : Apart X pins H a) (ha : s.heap.get? a = some oe) (hz : Zc (.ref C) d oe) (hd : oe.data = .fields vs) (hD : D.nx ((σ.set j (some (.ref a))).set i none) (upd H a (XO a C d))) :
    wpAny (model X.prog X.w) (X.A.mark (some (.ref a))) (storeName X.env n (.ref a)) (fun _ s2 =>
      wpAny (model X.prog X.w) (X.A.mark (some (.ref a))) (execs [.Assign [.Name y py] (.Name n pn1) sp] X.env) (fun f s3 =>
        wpAny (model X.prog X.w) X.A (do bindName X.env n .none; unbindBehindTheSuite X.env n pos') (fun _ s4 => SP X pins D f s4) X.xe s3) E1 s2) E2 s := by
  have li : i < σ.length := I.len ▸ (List.getElem?_eq_some_iff.mp hi).1
  have asg := pss_cons (ps_set (X := X.suite a ((a, oe) :: (X.pn ++ pins))) (pos := sp) (pos' := py) hN hj (.inl hly) (pe_var (pos := pn1) hi (.inl hln) d1 d2) rfl (.inr hly)) pss_nil
  refine store_ok (X := X.suite a ((a, oe) :: (X.pn ++ pins))) (v := .ref a) (I.suite ha hd ap.hp ap.lo ap.fr) hN hi (.inl hln) rfl (fun s2 S2 => ?_) (.inr hln)
  refine wpAny_mono (asg.run [] s2 _ H ⟨fun τ G => τ = (σ.set i (some (.ref a))).set j (some (.ref a)) ∧ G = H, fun _ _ => False, fun _ _ => False, fun _ _ => False⟩ S2 ⟨.ref a, List.getElem?_set_self li, rfl, rfl⟩) (fun f s3 e => ?_) fun _ _ z => z.elim
  cases f <;> simp only [SP] at e
  case next =>
    obtain ⟨τ, G, S3, rfl, rfl⟩ := e
    have at3 := (S3.pin (a, oe) (List.mem_append_left _ List.mem_cons_self)).1
    have J : L2.Inv X ((a, oe) :: pins) ((σ.set i (some (.ref a))).set j (some (.ref a))) G s3 :=
      { S3 with ok := I.ok, pin := fun p hp => S3.pin p (List.mem_append_left _ (by simp only [List.mem_append, List.mem_cons] at hp ⊢; rcases hp with h | h | h <;> simp [h])) }
    refine gone_ok J hN hi hln fun s4 K => ?_
    have K' : L2.Inv X pins _ G s4 := { K with pin := fun p hp => K.pin p (by simp only [List.mem_append, List.mem_cons] at hp ⊢; rcases hp with h | h <;> simp [h]) }
    rw [set3 hij] at K'
    exact ⟨_, _, ap.track K' (K.pin (a, oe) (List.mem_append_right _ List.mem_cons_self)).1 hz hd, hD⟩
  case ret => obtain ⟨_, _, _, _, _, z⟩ := e; exact z.elim
  all_goals obtain ⟨_, _, _, z⟩ := e; exact z.elim
/-- the class in the clause is looked up -/
theorem names_at {W : Value → Shared → Prop} (hc : Names X x c) (I : L2.Inv X pins σ H s) (k : W c s) : wpAny (model X.prog X.w) X.A (eval (.Name x np) X.env) W E1 s := by
  obtain ⟨h1, h2, h3⟩ := hc
  rcases h3 with h3 | ⟨h3, h4, h5⟩
  · exact ld_glob I h1 h3 k h2
  · exact ld_blt I h1 h3 h4 k h5 h2
end
/-- an exception of a try's body goes to the clauses hs -/
abbrev toClauses (X : Cx) (pins : List (Addr × Obj)) (D : Ends) (hs : List ExceptHandler) (e : Value) (s1 : Shared) : Prop :=
  wpAny (model X.prog X.w) X.A (noteFrame e X.env) (fun _ s2 => wpAny (model X.prog X.w) X.A (setFlight e none) (fun _ s3 => wpAny (model X.prog X.w) X.A (handleBy e X.env hs) (SP X pins D) X.xe s3) X.xe s2) X.xe s1
theorem ps_try_keep {X : Cx} {x n y : Str} {c : Value} {i j : Nat} {body : List Stmt} {np py pn1 sp pos pos' : Pos} {tb : WX → TS} (hx : X.ex = []) (hs : X.stack = X.env :: X.outer) (hf : X.env.frame = some X.env.locals) (hN : X.N.Nodup) (hi : X.N[i]? = some n) (hj : X.N[j]? = some y) (hij : i ≠ j) (hln : X.env.kindOf n = some .local) (hly : X.env.kindOf y = some .local) (hc : Names X x c)
    (d1 : (n == ("__debug__" : Str)) = false) (d2 : (n == ("__classdict__" : Str)) = false)
    (hb : ∀ (W : WX) (pn : List (Addr × Obj)) (xe : Value → Shared → Prop), L2.Takes (X.tr pn xe) W → PassesOwn (model X.prog X.w) X.A X.env xe → PSs (X.tr pn xe) body (tb W)) :
    PS X (.Try body [.ExceptHandler (some (.Name x np)) (some n) [.Assign [.Name y py] (.Name n pn1) sp] pos'] [] [] pos) (fun D σ H => tb (wKp X.K c i j D) D σ H) where
  run := by
    intro pins s0 σ0 H0 D I0 h0
    have body' := hb (wKp X.K c i j D) (X.pn ++ pins) (toClauses X pins D [.ExceptHandler (some (.Name x np)) (some n) [.Assign [.Name y py] (.Name n pn1) sp] pos']) ?takes PassesOwn.looking
    · refine wpAny_Try_except (wpAny_mono (body'.run [] s0 σ0 H0 D (I0.toTry _) h0) (fun f s1 e => ?_) fun _ _ z => z)
      have e' := sp_ofTry I0.ok e
      cases f
      case next => exact wpAny_execs_nil e'
      all_goals exact e'
    case takes =>
      rintro _ s1 ⟨a, B, sI, _, σ, H, _, d, rfl, J, nb, up, sky, hn, os, ag, C, rfl, yes, hD⟩
      rw [hs] at sky
      have I : L2.Inv X pins σ H sI := J.ofTry I0.ok
      refine Sky.land Zc.steady (I0.ok.frames.trans (congrArg some hs)) hf sky fun h2 fly2 up2 => ?_
      obtain ⟨o2, v2, g2, z2, f2⟩ := fly2.there
      have ap := apart_of hx hs hf I nb fly2.2.1 fly2.2.2.1 g2 f2 hn
      have I2 : L2.Inv X pins σ H { s1 with heap := h2 } := I.landed nb fly2.1 (up.trans up2) os ag
      have ty : PySem.W.Looks (model X.prog X.w) h2 (typeOf (.ref a)) (.ref C) := fun _ _ _ _ k q => wpAny_typeOf_ref (k _ _ g2) (z2.1.symm ▸ q)
      refine wpAny_handleBy_cons (codeAny_handlers_test (names_at (X := X.suite a ((a, o2) :: (X.pn ++ pins))) hc (I2.suite g2 f2 hn ap.lo ap.fr) ((PySem.W.exm_one I2.kIn ty yes).here (codeAny_handlers_suite_as (HandSPX.lands_againZ fly2 fun h3 fly3 up3 => ?_))))) nofun
      obtain ⟨o3, v3, g3, z3, f3⟩ := fly3.there
      exact keep_suite hN hi hj hij hln hly d1 d2 (I.landed (s' := { s1 with heap := h3 }) nb fly3.1 ((up.trans up2).trans up3) os ag) ap g3 z3 f3 (hD a hn)
end Pu

set_option Elab.async false
set_option linter.all false
set_option autoImplicit false
set_option maxRecDepth 100000
set_option maxHeartbeats 4000001
namespace Pu
open PySem L2 PySem.Spec PyProof.Rows
/-! ### isinstance, of caught exceptions too -/
/-- a value's type -/
inductive TyZ (K : PySem.W.Frag) (H : Hp) : V → Value → Prop where
  | base {x : V} {t : Value} (h : TyX K H x t) : TyZ K H x t
  | exc {a C : Addr} {d : Option Addr} (h : H a = some (XO a C d)) (hd : ∀ e, d = some e → ∃ o, H e = some o) (c : ExcC K C) : TyZ K H (.ref a) (.ref C)
theorem kit_exc {K : PySem.W.Frag} {a C : Addr} {ox : Obj} {od : Option Obj} (c : ExcC K C) : PySem.W.KitX K (.ref a) (.ref C) (fun h => PySem.W.InstAt h a ox C od) :=
  PySem.W.kitx_exc (Option.isSome_iff_exists.mpr ((PySem.W.any_some c.hd).imp fun _ h => h.1)) c.hg c.hk c.hs c.ha c.hn c.ht c.hm
section
variable {X : Cx} {pins : List (Addr × Obj)} {H : Hp} {σ : L2.St} {s : Shared}
theorem xo_inst (I : L2.Inv X pins σ H s) {a C : Addr} {d : Option Addr} (h : H a = some (XO a C d)) (hd : ∀ e, d = some e → ∃ o, H e = some o) : ∃ ox od, PySem.W.InstAt s.heap a ox C od := by
  obtain ⟨⟨⟨oc, oo, oda, osl⟩, vs, g, z, f⟩, _, _⟩ := I.hok a _ h
  obtain ⟨rfl, rfl⟩ := z
  cases f
  rcases oo with _ | e
  · exact ⟨_, none, g, rfl, rfl, trivial⟩
  · obtain ⟨o, he⟩ := hd e rfl
    rcases Option.eq_none_or_eq_some (s.heap.get? e) with q | ⟨u, q⟩
    · cases he.symm.trans (I.hok.gone q)
    · exact ⟨_, some u, g, rfl, rfl, q⟩
end
def rIsZ (K : PySem.W.Frag) : List V → Hp → VK → Prop := fun xs H Q => ∃ (x c : V) (t u : Value) (b : Bool), xs = [x, c] ∧ ClsV c u ∧ TyZ K H x t ∧ PySem.W.kitOne K t u = some b ∧ Q (.bl b) H
def rIsZT (K : PySem.W.Frag) : List V → Hp → VK → Prop := fun xs H Q => ∃ (x : V) (tp : Addr) (cs : List V) (t : Value) (us : List Value) (b : Bool), xs = [x, .ref tp] ∧ H tp = some (.tup cs) ∧ Paired ClsV cs us ∧ TyZ K H x t ∧ PySem.W.kitAny K t us = some b ∧ Q (.bl b) H
section
variable {X : Cx}
theorem call_isZ : CallR X (.builtin "isinstance") (rIsZ X.K) := by
  rintro pins s σ H _ us Q I r ⟨x, c, t, u, b, rfl, hc, ty, hb, q⟩
  cases ty with
  | base ty => exact call_isi pins s σ H _ us Q I r ⟨x, c, t, u, b, rfl, hc, ty, hb, q⟩
  | exc h hd ec =>
    obtain ⟨v1, v2, rfl, r1, r2⟩ := vals2 r
    cases r1
    cases hc.eq r2
    obtain ⟨ox, od, J⟩ := xo_inst I h hd
    exact PySem.W.kia_one (kit_exc ec) I.kIn J hb nofun fun tk => ⟨.bl b, _, I.tok tk, rfl, q⟩
theorem call_isZT : CallR X (.builtin "isinstance") (rIsZT X.K) := by
  rintro pins s σ H _ us Q I r ⟨x, tp, cs, t, ws, b, rfl, hT, hc, ty, hb, q⟩
  cases ty with
  | base ty => exact call_isiT pins s σ H _ us Q I r ⟨x, tp, cs, t, ws, b, rfl, hT, hc, ty, hb, q⟩
  | exc h hd ec =>
    obtain ⟨v1, v2, rfl, r1, r2⟩ := vals2 r
    cases r1
    cases r2
    obtain ⟨ox, od, J⟩ := xo_inst I h hd
    have tup : ObjOk X.prog X.w H s.heap tp (.tup cs) := I.hok tp _ hT
    obtain ⟨_, its, rv, ⟨_, _, _, _⟩, g, h2, n, h3⟩ := tup
    cases ClsV.all hc rv
    cases h2
    cases h3
    exact PySem.W.kia_tup (kit_exc ec) I.kIn J g hb nofun fun tk => ⟨.bl b, _, I.tok tk, rfl, q⟩
end
end Pu

set_option Elab.async false
set_option linter.all false
set_option autoImplicit false
set_option maxRecDepth 100000
set_option maxHeartbeats 4000001
namespace Pu
open PySem L2 PySem.Spec PyProof.Rows
/-! ### a field of a caught exception -/
def tXfT (K : PySem.W.Frag) (f : Str) (te : TE) : TE := fun σ H Q => te σ H fun x H1 => ∃ (a C dd : Addr) (fs : List (Str × V)) (v : V), x = .ref a ∧ H1 a = some (XO a C (some dd)) ∧ XfC K C ∧ PySem.W.findIn K (.ref C) f = some none ∧ H1 dd = some (.xd fs) ∧ fs.lookup f = some v ∧ Q v H1
/-- the instance with its dict, and what stands in it -/
theorem xo_field {X : Cx} {pins : List (Addr × Obj)} {σ : L2.St} {H : Hp} {s : Shared} {a C dd : Addr} {fs : List (Str × V)} {f : Str} {v : V} (I : L2.Inv X pins σ H s) (h : H a = some (XO a C (some dd))) (hd : H dd = some (.xd fs)) (hv : fs.lookup f = some v) (T : XfC X.K C) (no : PySem.W.findIn X.K (.ref C) f = some none) :
    ∃ ox od u, PySem.W.InstAt s.heap a ox C (some od) ∧ RelV v u ∧ PySem.W.findObj X.K C (some od) f = some (.value u) := by
  obtain ⟨⟨ox, vs, g, ⟨z1, z2⟩, fl⟩, _, _⟩ := I.hok a _ h
  have ns : ObjOk X.prog X.w H s.heap dd (.xd fs) := I.hok dd _ hd
  obtain ⟨m, n1, n2⟩ := ns
  obtain ⟨od, go, lk⟩ := lookIn_ns n1
  obtain ⟨u, hu, ru⟩ := RelO.some_of (v := v) (o := m f) (hv ▸ n2 f)
  refine ⟨ox, od, u, ⟨g, z1, ?_, ?_⟩, ru, PySem.W.findObj_own T.hdC no rfl ((lk f).trans (congrArg some hu))⟩
  · simp only [PySem.W.notCls, fl]
  · simp only [z2]; exact go
theorem pe_xfT {X : Cx} {e : Expr} {te : TE} {pos : Pos} {n : Str} (he : PE X e te) (hb : attributeBase e n X.env (eval e X.env) = eval e X.env) : PE X (.Attribute e n pos) (tXfT X.K n te) where
  run := fun pins s σ H Q I h => attr_of hb (thn (he.run pins s σ H _ I h) (by
    rintro _ s1 ⟨_, H1, J, r, a, C, dd, fs, v, rfl, h1, T, no, h2, h3, q⟩
    cases r
    obtain ⟨ox, od, u, inst, ru, fo⟩ := xo_field J h1 h2 h3 T no
    exact HandSPX.exc_get J.kIn inst T.ga T.gg T.exC fo (handed_of ru) ⟨v, H1, J.tok _, ru, q⟩))
/-! ### the __init__ of an own exception -/
/-- the class at P has ValueError's __init__ -/
structure PEr (K : PySem.W.Frag) (P : Addr) : Prop where
  sp : PySem.W.specialIn K (.ref P) "__getattribute__" = some (some (.builtin "type.__getattribute__"))
  rd : PySem.W.readsIn K P (.type "type") = true
  fc : PySem.W.findCls K (.ref P) (.type "type") "__init__" = some (.val (.builtin "ValueError.__init__"))
/-- what stands behind the arguments of such an __init__ -/
theorem oinit_at {X : Cx} {pins : List (Addr × Obj)} {σ : L2.St} {s : Shared} {us : List Value} {Q : VK} {E : Value → Shared → Prop} (h : AP X pins σ (fun vs H1 => ∃ (a C : Addr) (ws : List V), vs = .ref a :: ws ∧ ws.length ≤ 1000 ∧ OexC X.K C ∧ H1 a = some (exo a C none) ∧ Q .non H1) us s) :
    wpAny (model X.prog X.w) X.A (call (.builtin "ValueError.__init__") us) (EP X pins σ Q) E s := by
  obtain ⟨_, H1, J, r, a, C, ws, rfl, hw, T, ha, q⟩ := h
  rcases r with _ | ⟨r1, r2⟩
  cases r1
  have len := Paired.length r2
  exact oinit_ok T J ha (by rw [sizeLine_eq]; omega) fun s2 K => ⟨.non, _, K, rfl, q⟩
theorem pe_oinit {X : Cx} {y : Str} {P : Addr} {e : Expr} {es : List Expr} {ta : TA} {p1 p2 pos : Pos} {pl : Sem Bool} (T : PEr X.K P) (hg : Gl X y) (hm : X.mg y = some (.ref P)) (hdb : (y == ("__debug__" : Str)) = false) (ha : PA X (e :: es) ta)
    (hc : eval (.Call (.Attribute (.Name y p1) "__init__" p2) (e :: es) [] pos) X.env = (eval (.Name y p1) X.env >>= fun ov => standAt p2.atName >>= fun _ => holding [ov] (getMethod ov "__init__" pl) >>= fun q => callWith pos q.1 q.2 (backTo pos (starEach (e :: es) X.env)) (backToKw pos (keywordEach [] X.env))))
    (h1 : starEach (e :: es) X.env = (false, eval e X.env) :: starEach es X.env) (h2 : (backTo pos (starEach es X.env)).any (·.1) = false) :
    PE X (.Call (.Attribute (.Name y p1) "__init__" p2) (e :: es) [] pos) (tVeI X.K ta) where
  run := fun pins s σ H Q I h => PySem.W.methodCall_KW (ld_glob I hg hm
    (PySem.W.method_cls I.kIn T.sp (PySem.W.cls_value I.kIn T.rd T.fc (by decide +kernel)
      (PyProof.Rows.callWith_method1 (thn (ha.run pos pins _ σ H _ (I.tok _) h) fun us s1 hh => oinit_at hh) h1 h2))) hdb) hc
/-- what such an __init__ does -/
def spX (K : PySem.W.Frag) (fl : List Str) : Sp := fun vs H Q _ => ∃ (a C : Addr) (ws : List V), vs = .ref a :: ws ∧ ws.length = fl.length ∧ fl ≠ [] ∧ fl.length ≤ 900 ∧ H a = some (exo a C none) ∧ OexC K C ∧ (∀ f ∈ fl, PySem.W.findIn K (.ref C) f = some none) ∧
  ∀ dx, H dx = none → dx ≠ a → Q .non (upd (upd H dx (exd dx (fl.zip ws).reverse)) a (exo a C (some dx)))
end Pu

set_option Elab.async false
set_option linter.all false
set_option autoImplicit false
set_option maxRecDepth 100000
set_option maxHeartbeats 1000001
namespace Pu
open PySem L2
/-! ### outcomes -/
inductive R (α : Type) where | ok (a : α) | ex (c : Xc) | stk
def R.bind {α β : Type} : R α → (α → R β) → R β
  | .ok a, f => f a
  | .ex c, _ => .ex c
  | .stk, _ => .stk
/-- no exception is let through -/
def R.calm {α : Type} : R α → R α
  | .ok a => .ok a
  | _ => .stk
def R.of {α : Type} : Option α → R α
  | some a => .ok a
  | none => .stk
/-! ### the core's syntax -/
mutual
inductive CT where | nm (i : Nat) | tp (ts : CTs)
inductive CTs where | nil | cons (t : CT) (ts : CTs)
end
inductive Blt where | len | sum | all | any | min | max | int | str | list | tuple | abs | sorted | dict
def Blt.nm : Blt → Str
  | .len => "len" | .sum => "sum" | .all => "all" | .any => "any" | .min => "min" | .max => "max" | .int => "int" | .str => "str" | .list => "list" | .tuple => "tuple" | .abs => "abs" | .sorted => "sorted" | .dict => "dict"
inductive Bm where | split | join | endswith | index | values
def Bm.nm : Bm → Str
  | .split => "split" | .join => "join" | .endswith => "endswith" | .index => "index" | .values => "values"
/-- what kind of thing -/
inductive TyD where | b (n : String) | c (C : Str)
deriving DecidableEq
inductive CE where
  /-- anything: nothing is said of it -/
  | bad
  | isa (a : CE) (tup : Bool) (ts : List TyD) | mkx (c : Str) (es : List CE)
  | var (i : Nat) | cst (d : D) | glb (i : Nat)
  | bin (op : Operator) (a b : CE) | neg (a : CE) | not (a : CE)
  | cmp (op : CmpOp) (a b : CE) | cmp2 (op op' : CmpOp) (a b c : CE)
  | bop (o : BoolOp) (a b : CE) | ite (c a b : CE)
  | tup (es : List CE) | lst (es : List CE) | dct (ks vs : List CE)
  /-- a dict of one's own: empty (t: its keys will be tuples), with one tuple as key -/
  | dnew (t : Bool) | dsp (k v : CE)
  | idx (a b : CE) | sli (a : CE) (lo hi : Option CE) | rev (a : CE)
  | att (a : CE) (f : Str)
  | call (f : Nat) (es : List CE) | meth (c m : Str) (a : CE) (es : List CE) | make (c : Str) (es : List CE)
  | blt (b : Blt) (es : List CE) | bm (m : Bm) (a : CE) (es : List CE)
  | isi (a : CE) (t : Str)
  | lc (own : List Nat) (t : CT) (it : CE) (ifs : List CE) (elt : CE)
  | range (es : List CE) | enum (a : CE) (st : Option CE) | reved (a : CE) | zip (a b : CE)
inductive MR where | no | nm (i : Nat) | ret
inductive CS where
  | asg (t : CT) (L : List Nat) (fz : Bool) (e : CE)
  | par (i j : Nat) (L : List Nat) (a b : CE)
  | aug (i : Nat) (op : Operator) (L : List Nat) (e : CE)
  | setF (p : CE) (f : Str) (L : List Nat) (fz : Bool) (e : CE)
  | augF (p : CE) (f : Str) (op : Operator) (L : List Nat) (e : CE)
  | setI (p : CE) (b : CE) (L : List Nat) (fz : Bool) (e : CE)
  | setD (p : CE) (b : CE) (L : List Nat) (e : CE)
  | frzP (i : Nat) (π : List Nat)
  | app (p : CE) (L : List Nat) (fz : Bool) (e : CE)
  | ext (p : CE) (L : List Nat) (e : CE)
  | popA (t : CT) (p : CE)
  | clr (p : CE)
  | expr (L : List Nat) (e : CE)
  | mth (r : MR) (p : CE) (c m : Str) (L : List Nat) (es : List CE)
  | ifM (p : CE) (c m : Str) (L : List Nat) (es : List CE) (a b : List CS)
  | asgLc (i : Nat) (fz : Bool) (L : List Nat) (own : List Nat) (t : CT) (it : CE) (ifs : List CE) (elt : CE)
  | ret (L : List Nat) (e : CE) | retv (i : Nat) | retN
  | ife (L : List Nat) (c : CE) (a b : List CS)
  | for_ (t : CT) (L : List Nat) (it : CE) (body : List CS)
  | while_ (k : Nat) (L : List Nat) (c : CE) (body : List CS)
  | raise (c : Str) (L : List Nat) (es : List CE)
  | tryX (i j : Nat) (body : List CS)
  | bad
  | frz (i : Nat)
  /-- slots are forgotten -/
  | wipe (L : List Nat)
  | pass | brk | cnt
/-! ### what is known of the program -/
structure FI where
  y : Str
  x : Str
  qual : Str
  st : Stmt
  N : List Str
  ps : List Str
  body : List CS
structure KI where
  c : Str
  fields : List Str
  init : Option FI
  meths : List (Str × FI)
/-- an own exception class: its name, the fields that its __init__ sets -/
structure XI where
  c : Str
  fl : List Str
  ini : Option FI
structure Tab where
  fns : List FI
  cls : List KI
  blts : List Str
  cons : List (Str × D)
  par : Str
  own : List Str
  ins : List Str
  isa : List (TyD × TyD × Bool)
  excs : List XI
def Tab.xi (T : Tab) (c : Str) : Option XI := T.excs.find? fun q => decide (q.c = c)
def Tab.isB (T : Tab) (k t : TyD) : Option Bool := match T.isa.find? (fun q => decide (q.1 = k) && decide (q.2.1 = t)) with | some q => some q.2.2 | none => none
def Tab.isAny (T : Tab) (k : TyD) : List TyD → Option Bool
  | [] => some false
  | t :: ts => (match T.isB k t with | some true => some true | some false => Tab.isAny T k ts | none => none)
def Tab.isOne (T : Tab) (k : TyD) : List TyD → Option Bool
  | [t] => T.isB k t
  | _ => none
def Tab.kd (T : Tab) : D → Option TyD
  | .obj c _ _ => if T.ins.contains c then some (.c c) else none
  | .exc c _ _ => (match T.xi c with | some _ => some (.c c) | none => none)
  | d => (match tyN d with | some n => some (.b n) | none => none)
/-- what C(es) makes -/
def Tab.mkX (T : Tab) (k : Nat) (c : Str) (ds : List D) : Option Xc := match T.xi c with
  | some q => (match q.ini with
    | none => if ds.length ≤ 1000 ∧ ds.length ≠ 0 then some ⟨c, [], []⟩ else none
    | some _ => if ds.length = q.fl.length ∧ 2 ≤ k then some ⟨c, q.fl, ds⟩ else none)
  | none => none
def Tab.fld (T : Tab) (c f : Str) : Bool := T.cls.any fun k => decide (k.c = c) && k.fields.contains f
def Tab.fix (T : Tab) (c : Str) (ns : List Str) (f : Str) : Option Nat := if T.fld c f = true ∧ ns.idxOf f < ns.length then some (ns.idxOf f) else none
/-! ### values -/
section
variable {α β : Type} [DecidableEq α]
/-- what stands at k is replaced -/
def repV : List α → List β → α → β → List β
  | k' :: ks, o :: os, k, x => (if k' = k then x else o) :: repV ks os k x
  | _, os, _, _ => os
def putKs (ks : List α) (k : α) : List α := if k ∈ ks then ks else ks ++ [k]
def putVs (ks : List α) (os : List β) (k : α) (x : β) : List β := if k ∈ ks then repV ks os k x else os ++ [x]
end
def D.asL : D → Option (List D) | .lst xs => some xs | .fz xs => some xs | _ => none
def D.asS : D → Option (List D) | .lst xs => some xs | .fz xs => some xs | .tup xs => some xs | .ft xs => some xs | _ => none
def pers : List Ow → Option (List D)
  | [] => some []
  | .per d :: os => (match pers os with | some ds => some (d :: ds) | none => none)
  | _ :: _ => none
def okN (b : Bool) (o : Ow) : R Ow := if b then .ok o else .stk
def dBin : Operator → D → D → R Ow
  | .Add, .int i, .int j => .ok (.per (.int (i + j)))
  | .Add, .str x, .str y => okN (decide (x.length + y.length ≤ sizeLine)) (.per (.str (x ++ y)))
  | .Add, .lst x, .lst y => okN (decide (x.length + y.length ≤ sizeLine)) (.lst ((x ++ y).map .per))
  | .Add, .tup x, .tup y => okN (decide (x.length + y.length ≤ sizeLine)) (.per (.tup (x ++ y)))
  | .Sub, .int i, .int j => .ok (.per (.int (i - j)))
  | .Mult, .int i, .int j => okN ((decide (-(2 ^ 64) < i ∧ i < 2 ^ 64) || decide (-(2 ^ 64) < j ∧ j < 2 ^ 64)) || decide (i.natAbs < 2 ^ 4000 ∧ j.natAbs < 2 ^ 4000)) (.per (.int (i * j)))
  | .Mult, .lst x, .int j => okN (decide (-(2 ^ 62) < j ∧ j < 2 ^ 62 ∧ x.length * j.toNat ≤ sizeLine)) (.lst ((List.replicate j.toNat x).flatten.map .per))
  | .Mod, .int i, .int j => okN (decide (0 < j)) (.per (.int (i % j)))
  | .FloorDiv, .int i, .int j => okN (decide (0 < j ∧ j < 1073741824)) (.per (.int (i / j)))
  | .Pow, .int i, .int j => okN (decide (0 ≤ j ∧ j ≤ 1000000 ∧ i.natAbs < 2 ^ 64)) (.per (.int (i ^ j.toNat)))
  | _, _, _ => .stk
def dNeg : D → R Ow | .int i => .ok (.per (.int (-i))) | _ => .stk
def dTruth : D → R Bool
  | .bl b => .ok b
  | .non => .ok false
  | .int i => .ok (i != 0)
  | .lst xs => .ok (!xs.isEmpty)
  | .fz xs => .ok (!xs.isEmpty)
  | .tup xs => .ok (!xs.isEmpty)
  | .ft xs => .ok (!xs.isEmpty)
  | _ => .stk
def fdep : Nat := 12
/-- a tuple of dints and texts as a key -/
def keyT : List D → Option (List Key)
  | [] => some []
  | .int i :: r => (match keyT r with | some k => some (.inl i :: k) | none => none)
  | .str x :: r => (match keyT r with | some k => some (.inr x :: k) | none => none)
  | _ :: _ => none
def keyD1 : Key → D | .inl i => .int i | .inr x => .str x
/-- a key as data -/
def keyD (k : List Key) : D := .tup (k.map keyD1)
def dCmp : CmpOp → D → D → R Bool
  | .Lt, .int i, .int j => .ok (decide (i < j))
  | .LtE, .int i, .int j => .ok (decide (i ≤ j))
  | .Gt, .int i, .int j => .ok (decide (j < i))
  | .GtE, .int i, .int j => .ok (decide (j ≤ i))
  | .Eq, x, y => if D.flat fdep x && D.flat fdep y then .ok (D.eqv x y) else .stk
  | .NotEq, x, y => if D.flat fdep x && D.flat fdep y then .ok (!D.eqv x y) else .stk
  | .Is, x, .non => .ok x.isN
  | .Is, .bl a, .bl b => .ok (a == b)
  | .IsNot, x, .non => .ok (!x.isN)
  | .IsNot, .bl a, .bl b => .ok (a != b)
  | .In, x, .tup ys => if x.f0 && ys.all D.f0 then .ok (x.in0 ys) else .stk
  | .In, x, .ft ys => if x.f0 && ys.all D.f0 then .ok (x.in0 ys) else .stk
  | .In, x, .lst ys => if x.f0 && ys.all D.f0 then .ok (x.in0 ys) else .stk
  | .In, .str x, .str z => (match x.cps.toList with | [c] => .ok (decide (c ∈ z.cps.toList)) | _ => .stk)
  | .In, .tup x, .dL ks _ => (match keyT x with | some k => .ok (ks.any fun q => decide (q = k)) | none => .stk)
  | .In, .tup x, .dT ks _ => (match keyT x with | some k => .ok (ks.any fun q => decide (q = k)) | none => .stk)
  | .NotIn, x, .tup ys => if x.f0 && ys.all D.f0 then .ok (!x.in0 ys) else .stk
  | .NotIn, x, .ft ys => if x.f0 && ys.all D.f0 then .ok (!x.in0 ys) else .stk
  | .NotIn, x, .lst ys => if x.f0 && ys.all D.f0 then .ok (!x.in0 ys) else .stk
  | .NotIn, .str x, .str z => (match x.cps.toList with | [c] => .ok (!decide (c ∈ z.cps.toList)) | _ => .stk)
  | .NotIn, .tup x, .dL ks _ => (match keyT x with | some k => .ok (!ks.any fun q => decide (q = k)) | none => .stk)
  | .NotIn, .tup x, .dT ks _ => (match keyT x with | some k => .ok (!ks.any fun q => decide (q = k)) | none => .stk)
  | _, _, _ => .stk
def iCmp : CmpOp → Int → Int → Option Bool
  | .Lt, i, j => some (decide (i < j))
  | .LtE, i, j => some (decide (i ≤ j))
  | .Gt, i, j => some (decide (j < i))
  | .GtE, i, j => some (decide (j ≤ i))
  | _, _, _ => none
def look {α : Type} [DecidableEq α] : List α → List D → α → Option D
  | k :: ks, v :: vs, x => if k = x then some v else look ks vs x
  | _, _, _ => none
def dIdx : D → D → R Ow
  | .lst xs, .int i => (match atI xs i with | some d => .ok (.per d) | none => .stk)
  | .fz xs, .int i => (match atI xs i with | some d => .ok (.per d) | none => .stk)
  | .tup xs, .int i => (match atI xs i with | some d => .ok (.per d) | none => .stk)
  | .ft xs, .int i => (match atI xs i with | some d => .ok (.per d) | none => .stk)
  | .str z, .int i => if z.length ≤ sizeLine then (match atI z.cps.toList i with | some c => .ok (.per (.str ⟨#[c]⟩)) | none => .stk) else .stk
  | .dL ks vs, .tup k => (match keyT k with | some k => (match look ks vs k with | some d => .ok (.per d) | none => .stk) | none => .stk)
  | .dT ks vs, .tup k => (match keyT k with | some k => (match look ks vs k with | some d => .ok (.per d) | none => .stk) | none => .stk)
  | .dK ks vs, .int i => (match look ks vs (Sum.inl i : Key) with | some d => .ok (.per d) | none => .stk)
  | .dK ks vs, .str x => (match look ks vs (Sum.inr x : Key) with | some d => .ok (.per d) | none => .stk)
  | _, _ => .stk
def dInt? : D → R Int | .int i => .ok i | _ => .stk
def dSli : D → Option Int → Option Int → R Ow
  | .lst xs, i, j => .ok (.lst ((cutD xs i j).map .per))
  | .fz xs, i, j => .ok (.lst ((cutD xs i j).map .per))
  | .str z, i, j => okN (decide (z.length ≤ sizeLine)) (.per (.str (cutS z i j)))
  | .tup xs, i, j => .ok (.per (.tup (cutD xs i j)))
  | _, _, _ => .stk
def dRev : D → R Ow
  | .lst xs => .ok (.lst (xs.reverse.map .per))
  | .fz xs => .ok (.lst (xs.reverse.map .per))
  | _ => .stk
def dAtt (T : Tab) : D → Str → R Ow
  | .obj c ns xs, f => if T.fld c f then (match look ns xs f with | some d => .ok (.per d) | none => .stk) else .stk
  | .exc c ns xs, f => (match T.xi c with | some q => if q.fl.contains f then (match look ns xs f with | some d => .ok (.per d) | none => .stk) else .stk | none => .stk)
  | _, _ => .stk
def dints : List D → Option (List Int)
  | [] => some []
  | .int i :: r => (match dints r with | some k => some (i :: k) | none => none)
  | _ :: _ => none
def dbools : List D → Option (List Bool)
  | [] => some []
  | .bl i :: r => (match dbools r with | some k => some (i :: k) | none => none)
  | _ :: _ => none
def dstrs : List D → Option (List Str)
  | [] => some []
  | .str i :: r => (match dstrs r with | some k => some (i :: k) | none => none)
  | _ :: _ => none
def minL : Int → List Int → Int
  | n, [] => n
  | n, x :: xs => minL (if x < n then x else n) xs
def maxL : Int → List Int → Int
  | n, [] => n
  | n, x :: xs => maxL (if n < x then x else n) xs
def insI (x : Int) : List Int → List Int
  | [] => [x]
  | y :: ys => if x ≤ y then x :: y :: ys else y :: insI x ys
def sortI : List Int → List Int
  | [] => []
  | x :: xs => insI x (sortI xs)
/-- tuples by their first, a whole number -/
def keyed : List D → Option (List (Int × D))
  | [] => some []
  | .tup (.int i :: r) :: ds => (match keyed ds with | some q => some ((i, .tup (.int i :: r)) :: q) | none => none)
  | _ :: _ => none
def insK (x : Int × D) : List (Int × D) → List (Int × D)
  | [] => [x]
  | y :: ys => if x.1 ≤ y.1 then x :: y :: ys else y :: insK x ys
def sortK : List (Int × D) → List (Int × D)
  | [] => []
  | x :: xs => insK x (sortK xs)
def apartI : List Int → Bool
  | [] => true
  | x :: xs => !xs.contains x && apartI xs
def dBlt1 : Blt → D → R Ow
  | .len, d => (match d.asS with | some xs => .ok (.per (.int xs.length)) | none => (match d with
    | .str z => okN (decide (z.length ≤ sizeLine)) (.per (.int z.length))
    | _ => .stk))
  | .sum, d => (match d.asL with | some xs => (match dints xs with | some ns => .ok (.per (.int ns.sum)) | none => .stk) | none => .stk)
  | .all, d => (match d.asL with | some xs => (match dbools xs with | some ns => .ok (.per (.bl (ns.all id))) | none => .stk) | none => .stk)
  | .any, d => (match d.asL with | some xs => (match dbools xs with | some ns => .ok (.per (.bl (ns.any id))) | none => .stk) | none => .stk)
  | .int, d => (match d with | .bl q => .ok (.per (.int (if q then 1 else 0))) | _ => .stk)
  | .list, d => (match d.asS with | some xs => .ok (.lst (xs.map .per)) | none => .stk)
  | .tuple, d => (match d.asL with | some xs => .ok (.per (.tup xs)) | none => .stk)
  | .min, d => (match d.asL with | some xs => (match dints xs with | some (n :: ns) => .ok (.per (.int (minL n ns))) | _ => .stk) | none => .stk)
  | .max, d => (match d.asL with | some xs => (match dints xs with | some (n :: ns) => .ok (.per (.int (maxL n ns))) | _ => .stk) | none => .stk)
  | .sorted, d => (match d.asL with
    | some xs => (match dints xs with
      | some ns => .ok (.lst ((sortI ns).map fun i => .per (.int i)))
      | none => (match keyed xs with
        | some ks => if apartI (ks.map (·.1)) then .ok (.lst ((sortK ks).map fun q => .per q.2)) else .stk
        | none => .stk))
    | none => .stk)
  | _, _ => .stk
def dBlt2 : Blt → D → D → R Ow
  | .min, x, y => (match x, y with | .int i, .int j => .ok (.per (.int (if j < i then j else i))) | _, _ => .stk)
  | .max, x, y => (match x, y with | .int i, .int j => .ok (.per (.int (if j > i then j else i))) | _, _ => .stk)
  | _, _, _ => .stk
def dBlt (b : Blt) : List D → R Ow
  | [x] => dBlt1 b x
  | [x, y] => dBlt2 b x y
  | _ => .stk
def kindB (t : Str) (d : D) : R Bool :=
  if d.pl then (if t = "int" then .ok d.isInt else if t = "bool" then .ok d.isBool else if t = "str" then .ok d.isStr else if t = "list" then .ok d.isList else if t = "tuple" then .ok d.isTuple else .stk) else .stk
mutual
def CT.vs : CT → List Nat
  | .nm i => [i]
  | .tp ts => CTs.vs ts
def CTs.vs : CTs → List Nat
  | .nil => []
  | .cons t ts => CT.vs t ++ CTs.vs ts
end
mutual
/-- targets over things of one's own -/
def CT.setO : CT → Ev → Ow → Option Ev
  | .nm i, env, o => match o with
    | .at _ _ => none
    | o => if i < env.length then some (env.set i (some o)) else none
  | .tp ts, env, o => match o with
    | .per (.tup ds) => CTs.setO ts env (ds.map .per)
    | _ => none
def CTs.setO : CTs → Ev → List Ow → Option Ev
  | .nil, env, ds => match ds with
    | [] => some env
    | _ => none
  | .cons t ts, env, ds => match ds with
    | d :: ds => (match CT.setO t env d with | some e => CTs.setO ts e ds | none => none)
    | [] => none
end
/-! ### the steps -/
inductive RM where
  | ok (s o : Ow) | ex (c : Xc) (s : Ow) | stk
structure Evs where
  k : Nat
  o : Ev → CE → R Ow
  t : Ev → CE → R Bool
  f : Nat → List D → R Ow
  m : Str → Str → D → List D → R Ow
  io : Str → Str → Ow → List D → RM
  b : Ev → List CS → Option Out
def Evs.dv (E : Evs) (env : Ev) (c : CE) : R D := match E.o env c with | .ok o => .ok o.fr | _ => .stk
def Evs.ds (E : Evs) (env : Ev) : List CE → R (List D)
  | [] => .ok []
  | c :: cs => (match E.o env c with
    | .ok o => (match Evs.ds E env cs with | .ok r => .ok (o.fr :: r) | .ex c => .ex c | .stk => .stk)
    | .ex c => .ex c
    | .stk => .stk)
def Evs.os (E : Evs) (env : Ev) : List CE → R (List Ow)
  | [] => .ok []
  | c :: cs => (match E.o env c with
    | .ok o => (match Evs.os E env cs with | .ok r => .ok (o :: r) | _ => .stk)
    | _ => .stk)
def Evs.ts (E : Evs) (env : Ev) : List CE → R Bool
  | [] => .ok true
  | c :: cs => (match E.t env c with
    | .ok true => Evs.ts E env cs
    | .ok false => .ok false
    | _ => .stk)
def Evs.oi (E : Evs) (env : Ev) : Option CE → R (Option Int)
  | none => .ok none
  | some c => (match E.dv env c with | .ok (.int i) => .ok (some i) | _ => .stk)
/-- what is walked -/
def Evs.it (E : Evs) (env : Ev) : CE → R (List D)
  | .range [a] => (match E.dv env a with | .ok (.int j) => if -(2 ^ 62) ≤ j ∧ j < 2 ^ 62 then .ok (rangeD 0 j.toNat) else .stk | _ => .stk)
  | .range [a, b] => (match E.dv env a, E.dv env b with | .ok (.int i), .ok (.int j) => if -(2 ^ 62) ≤ i ∧ i < 2 ^ 62 ∧ -(2 ^ 62) ≤ j ∧ j < 2 ^ 62 then .ok (rangeD i (j - i).toNat) else .stk | _, _ => .stk)
  | .range _ => .stk
  | .enum (.reved a) none => (match E.dv env a with | .ok d => (match d.asL with | some xs => .ok (enumD 0 xs.reverse) | none => .stk) | _ => .stk)
  | .enum a none => (match E.dv env a with | .ok d => (match d.asL with | some xs => .ok (enumD 0 xs) | none => .stk) | _ => .stk)
  | .reved a => (match E.dv env a with | .ok d => (match d.asL with | some xs => .ok xs.reverse | none => .stk) | _ => .stk)
  | .zip a b => (match E.dv env a, E.dv env b with | .ok d, .ok d' => (match d.asS, d'.asS with | some xs, some ys => .ok (zipD xs ys) | _, _ => .stk) | _, _ => .stk)
  | c => (match E.dv env c with | .ok d => (match d.asS with | some xs => .ok xs | none => (match d with | .str z => .ok (signsD z) | .dL ks _ => .ok (ks.map keyD) | _ => .stk)) | _ => .stk)
def Evs.lc (E : Evs) (env : Ev) (t : CT) (ifs : List CE) (elt : CE) : List D → R (List Ow)
  | [] => .ok []
  | d :: ds => (match t.setO env (.per d) with
    | none => .stk
    | some env' => (match E.ts env' ifs with
      | .ok true => (match E.o env' elt with
        | .ok o => (match Evs.lc E env t ifs elt ds with | .ok os => .ok (o :: os) | _ => .stk)
        | _ => .stk)
      | .ok false => Evs.lc E env t ifs elt ds
      | _ => .stk))
def mkTup (os : List Ow) : Ow := match pers os with | some ds => .per (.tup ds) | none => .tup os
/-- the place that a path names: slot, path, what is there -/
def Evs.pl (T : Tab) (E : Evs) (env : Ev) : CE → Option (Nat × List Nat × Ow)
  | .var i => (match env[i]? with | some (some (.per _)) => none | some (some o) => some (i, [], o.strip) | _ => none)
  | .att a f => (match Evs.pl T E env a with
    | some (i, π, .ins c ns os) => (match T.fix c ns f with | some j => (match os[j]? with | some k => some (i, π ++ [j], k.strip) | none => none) | none => none)
    | _ => none)
  | .idx a b => (match Evs.pl T E env a with
    | some (i, π, .lst os) => (match E.dv env b with
      | .ok (.int l) => (match ixN os.length l with | some n => (match os[n]? with | some k => some (i, π ++ [n], k.strip) | none => none) | none => none)
      | _ => none)
    | some (i, π, .tup os) => (match E.dv env b with
      | .ok (.int l) => (match ixN os.length l with | some n => (match os[n]? with | some k => some (i, π ++ [n], k.strip) | none => none) | none => none)
      | _ => none)
    | _ => none)
  | _ => none
def step1 (T : Tab) (E : Evs) (env : Ev) : CE → R Ow
  | .var i => (match env[i]? with | some (some (.per d)) => .ok (.per d) | _ => .stk)
  | .cst d => .ok (.per d)
  | .glb i => (match T.cons[i]? with | some q => .ok (.per q.2) | none => .stk)
  | .bin op a b => (match E.dv env a with | .ok x => (match E.dv env b with | .ok y => dBin op x y | _ => .stk) | _ => .stk)
  | .neg a => (match E.dv env a with | .ok x => dNeg x | _ => .stk)
  | .not a => (match E.dv env a with | .ok x => (match dTruth x with | .ok b => .ok (.per (.bl (!b))) | _ => .stk) | _ => .stk)
  | .cmp op a b => (match E.dv env a with | .ok x => (match E.dv env b with | .ok y => (match dCmp op x y with | .ok q => .ok (.per (.bl q)) | _ => .stk) | _ => .stk) | _ => .stk)
  | .cmp2 op op' a b c => (match E.dv env a with | .ok (.int i) => (match E.dv env b with | .ok (.int j) => (match iCmp op i j with | some false => if (iCmp op' 0 0).isSome then .ok (.per (.bl false)) else .stk | some true => (match E.dv env c with | .ok (.int l) => (match iCmp op' j l with | some q => .ok (.per (.bl q)) | none => .stk) | _ => .stk) | none => .stk) | _ => .stk) | _ => .stk)
  | .bop .And a b => (match E.dv env a with | .ok x => (match dTruth x with | .ok true => (match E.o env b with | .ok o => .ok o | _ => .stk) | .ok false => .ok (.per x) | _ => .stk) | _ => .stk)
  | .bop .Or a b => (match E.dv env a with | .ok x => (match dTruth x with | .ok false => (match E.o env b with | .ok o => .ok o | _ => .stk) | .ok true => .ok (.per x) | _ => .stk) | _ => .stk)
  | .ite c a b => (match E.t env c with | .ok true => E.o env a | .ok false => E.o env b | _ => .stk)
  | .tup es => (match E.os env es with | .ok os => okN (decide (os.length ≤ 1000)) (mkTup os) | _ => .stk)
  | .lst es => (match E.os env es with | .ok os => okN (decide (os.length ≤ 1000)) (.lst os) | _ => .stk)
  | .dct [] [] => .ok (.per (.dK [] []))
  | .dnew t => .ok (if t then .dT [] [] else .dK [] [])
  | .dsp a b => (match E.dv env a with | .ok (.tup ky) => (match keyT ky with | some k => (match E.dv env b with | .ok d => .ok (.dT [k] [.per d]) | _ => .stk) | none => .stk) | _ => .stk)
  | .idx a b => (match Evs.pl T E env (.idx a b) with | some (_, _, .per d) => .ok (.per d) | some _ => .stk | none => match E.dv env a with | .ok x => (match E.dv env b with | .ok y => dIdx x y | _ => .stk) | _ => .stk)
  | .sli a lo hi => (match E.dv env a with | .ok x => (match E.oi env lo with | .ok i => (match E.oi env hi with | .ok j => dSli x i j | _ => .stk) | _ => .stk) | _ => .stk)
  | .rev a => (match E.dv env a with | .ok x => dRev x | _ => .stk)
  | .att a f => (match Evs.pl T E env (.att a f) with | some (_, _, .per d) => .ok (.per d) | some _ => .stk | none => match E.dv env a with | .ok x => dAtt T x f | _ => .stk)
  | .blt b es => (match E.ds env es with | .ok ds => dBlt b ds | _ => .stk)
  | .isi a t => (match E.dv env a with | .ok x => (match kindB t x with | .ok q => .ok (.per (.bl q)) | _ => .stk) | _ => .stk)
  | .isa a tup ts => (match E.dv env a with | .ok x => (match T.kd x with | some k => (match (if tup then T.isAny k ts else T.isOne k ts) with | some q => .ok (.per (.bl q)) | none => .stk) | none => .stk) | _ => .stk)
  | .mkx c es => (match E.ds env es with | .ok ds => (match T.mkX E.k c ds with | some x => .ok (.per (.exc x.C x.ns x.ds)) | none => .stk) | _ => .stk)
  | .lc own t it ifs elt => (match E.it env it with | .ok ds => if ds.length ≤ sizeLine then (match E.lc (wipeE env own) t ifs elt ds with | .ok os => .ok (.lst os) | _ => .stk) else .stk | _ => .stk)
  | _ => .stk
def stepO (T : Tab) (E : Evs) (env : Ev) : CE → R Ow
  | .call f es => (match E.ds env es with | .ok ds => E.f f ds | .ex c => .ex c | .stk => .stk)
  | .meth c m a es => (match E.dv env a with | .ok x => (match E.ds env es with | .ok ds => E.m c m x ds | _ => .stk) | _ => .stk)
  | .make c es => (match E.ds env es with | .ok ds => (match E.io c "__init__" (.ins c [] []) ds with | .ok s (.per .non) => .ok s | .ex c _ => .ex c | _ => .stk) | _ => .stk)
  | c => (step1 T E env c).calm
def stepT (E : Evs) (env : Ev) : CE → R Bool
  | .not a => (match E.t env a with | .ok b => .ok (!b) | .ex c => .ex c | .stk => .stk)
  | .bop .And a b => (match E.t env a with | .ok true => E.t env b | .ok false => .ok false | .ex c => .ex c | .stk => .stk)
  | .bop .Or a b => (match E.t env a with | .ok true => .ok true | .ok false => E.t env b | .ex c => .ex c | .stk => .stk)
  | .cmp op a b => (match E.dv env a with | .ok x => (match E.dv env b with | .ok y => (dCmp op x y).calm | _ => .stk) | _ => (match E.o env a with | .ex c => .ex c | _ => .stk))
  | .cmp2 op op' a b c => (match E.dv env a with | .ok (.int i) => (match E.dv env b with | .ok (.int j) => (match iCmp op i j with | some false => if (iCmp op' 0 0).isSome then .ok false else .stk | some true => (match E.dv env c with | .ok (.int l) => (match iCmp op' j l with | some q => .ok q | none => .stk) | _ => .stk) | none => .stk) | _ => .stk) | _ => .stk)
  | .ite _ _ _ => .stk
  | .bad => .stk
  | c => (match E.o env c with | .ok o => (dTruth o.fr).calm | .ex c => .ex c | .stk => .stk)
/-! ### statements -/
mutual
def Ow.nl : Ow → Bool
  | .per d => d.nl
  | .lst os => onls os
  | .tup os => onls os
  | .ins _ _ os => onls os
  | .dK _ os => onls os
  | .dT _ os => onls os
  | .at _ _ => false
def onls : List Ow → Bool
  | [] => true
  | o :: os => o.nl && onls os
end
/-- a slot that is one's own -/
def own1 (env : Ev) (i : Nat) : Option Ow := match env[i]? with
  | some (some (.per _)) => none
  | some (some o) => some o
  | _ => none
/-- slots are lent: counted among what lasts -/
def vwL : List Nat → Ev → Ev
  | [], env => env
  | i :: L, env => vwL L (match own1 env i with | some o => env.set i (some (.per o.fr)) | none => env)
def owL (L : List Nat) (env : Ev) : Bool := L.any fun i => (own1 env i).isSome
def evP (E : Evs) (L : List Nat) (env : Ev) (e : CE) : R Ow := match E.o (vwL L env) e with
  | .ok o => if owL L env && !o.nl then .stk else .ok o
  | .ex c => if owL L env && !nls c.ds then .stk else .ex c
  | .stk => .stk
def evT (E : Evs) (L : List Nat) (env : Ev) (e : CE) : R Bool := match E.t (vwL L env) e with
  | .ok q => .ok q
  | .ex c => if owL L env && !nls c.ds then .stk else .ex c
  | .stk => .stk
def evPs (E : Evs) (L : List Nat) (env : Ev) (es : List CE) : R (List D) := match E.ds (vwL L env) es with
  | .ok ds => if owL L env && !nls ds then .stk else .ok ds
  | _ => .stk
/-- with slots lent -/
def lendE (E : Evs) (L : List Nat) : Evs := { E with o := fun env c => evP E L env c, t := fun env c => evT E L env c }
def putP (env : Ev) (i : Nat) (π : List Nat) (x : Ow) : Ev := match env[i]? with
  | some (some o) => env.set i (some (o.put π x))
  | _ => env
def Ow.isAt : Ow → Bool | .at _ _ => true | _ => false
def fzo (fz : Bool) (o : Ow) : Ow := if fz then .per o.fr else o
def forE (E : Evs) (t : CT) (body : List CS) : List D → Ev → Option Out
  | [], env => some (.nx env)
  | d :: ds, env => (match t.setO env (.per d) with
    | none => none
    | some env' => (match E.b env' body with
      | some (.nx e) => forE E t body ds e
      | some (.ct e) => forE E t body ds e
      | some (.bk e) => some (.nx e)
      | r => r))
def whileE (E : Evs) (L : List Nat) (c : CE) (body : List CS) : Nat → Ev → Option Out
  | 0, _ => none
  | k + 1, env => (match evT E L env c with
    | .ok true => (match E.b env body with
      | some (.nx e) => whileE E L c body k e
      | some (.ct e) => whileE E L c body k e
      | some (.bk e) => some (.nx e)
      | r => r)
    | .ok false => some (.nx env)
    | _ => none)
def CE.isRange : CE → Bool | .range _ => true | _ => false
def iAug : Operator → D → D → Option Int
  | .Add, .int i, .int j => some (i + j)
  | .Sub, .int i, .int j => some (i - j)
  | _, _, _ => none
def stepS (T : Tab) (E : Evs) (env : Ev) : CS → Option Out
  | .par i j L a b => (match evP E L env a with
    | .ok x => (match evP E L env b with
      | .ok y => if i < env.length ∧ j < env.length then some (.nx ((env.set i (some (.per x.fr))).set j (some (.per y.fr)))) else none
      | _ => none)
    | _ => none)
  | .asg t L fz e => (match evP E L env e with
    | .ok o => (match t.setO env (fzo fz o) with | some env' => some (.nx env') | none => none)
    | .ex c => some (.ex c env)
    | .stk => none)
  | .aug i op L e => (match env[i]? with
    | some (some (.per x)) => (match evP E L env e with
      | .ok o => (match iAug op x o.fr with | some z => some (.nx (env.set i (some (.per (.int z))))) | none => none)
      | _ => none)
    | _ => none)
  | .setF p f L fz e => (match evP E L env e with
    | .ok v => if v.isAt then none else (match Evs.pl T E env p with
      | some (i, π, .ins c ns os) => if ns.length < 1000 ∧ T.fld c f = true then some (.nx (putP env i π (.ins c (addN ns f) (addV ns f os (fzo fz v))))) else none
      | _ => none)
    | .ex c => some (.ex c env)
    | .stk => none)
  | .augF p f op L e => (match Evs.pl T E env p with
    | some (i, π, .ins c ns os) => (match os[ns.idxOf f]? with
      | some (.per x) => (match evP E L env e with
        | .ok v => (match iAug op x v.fr with
          | some z => if ns.length < 1000 ∧ T.fld c f = true ∧ ns.idxOf f < ns.length then some (.nx (putP env i π (.ins c (addN ns f) (addV ns f os (.per (.int z)))))) else none
          | none => none)
        | _ => none)
      | _ => none)
    | _ => none)
  | .setI p b L fz e => (match evP E L env e with
    | .ok v => if v.isAt then none else (match Evs.pl T E env p with
      | some (i, π, .lst os) => (match evP E L env b with
        | .ok (.per (.int l)) => (match ixN os.length l with | some n => some (.nx (putP env i π (.lst (os.set n (fzo fz v))))) | none => none)
        | _ => none)
      | _ => none)
    | .ex c => some (.ex c env)
    | .stk => none)
  | .setD p b L e => (match evP E L env e with
    | .ok v => (match Evs.pl T E env p with
      | some (i, π, .dT ks os) => (match evP E L env b with
        | .ok (.per (.tup ky)) => (match keyT ky with
          | some k => if ks.length < sizeLine then some (.nx (putP env i π (.dT (putKs ks k) (putVs ks os k (.per v.fr))))) else none
          | none => none)
        | _ => none)
      | _ => none)
    | .ex c => some (.ex c env)
    | .stk => none)
  | .popA t p => (match Evs.pl T E env p with
    | some (i, π, .lst os) => (match os.getLast? with
      | some (.per d) => (match t.setO (putP env i π (.lst os.dropLast)) (.per d) with | some env' => some (.nx env') | none => none)
      | _ => none)
    | _ => none)
  | .frzP i π => (match env[i]? with
    | some (some o) => (match o.sub π with
      | some (.dT ks os) => (match pers os with
        | some ds => some (.nx (env.set i (some (o.put π (.per (.dL ks ds))))))
        | none => none)
      | some o1 => some (.nx (env.set i (some (o.put π (.per o1.fr)))))
      | none => none)
    | _ => none)
  | .app p L fz e => (match evP E L env e with
    | .ok v => if v.isAt then none else (match Evs.pl T E env p with
      | some (i, π, .lst os) => if os.length < sizeLine then some (.nx (putP env i π (.lst (os ++ [fzo fz v])))) else none
      | _ => none)
    | .ex c => (match Evs.pl T E env p with
      | some (_, _, .lst _) => some (.ex c env)
      | _ => none)
    | .stk => none)
  | .ext p L e => (match evP E L env e with
    | .ok v => (match Evs.pl T E env p with
      | some (i, π, .lst os) => (match v.fr with
        | .lst ds => if os.length + ds.length ≤ sizeLine then some (.nx (putP env i π (.lst (os ++ ds.map .per)))) else none
        | _ => none)
      | _ => none)
    | .ex c => (match Evs.pl T E env p with
      | some (_, _, .lst _) => some (.ex c env)
      | _ => none)
    | .stk => none)
  | .clr p => (match Evs.pl T E env p with
    | some (i, π, .lst _) => some (.nx (putP env i π (.lst [])))
    | _ => none)
  | .expr L e => (match evP E L env e with
    | .ok _ => some (.nx env)
    | .ex c => some (.ex c env)
    | .stk => none)
  | .mth mr p c m L es => (match evPs E L env es with
    | .ok ds => (match Evs.pl T E env p with
      | some (i, π, .ins c' ns os) => if c' = c ∧ m ∉ ns ∧ m ≠ "__init__" then (match E.io c m (.ins c' ns os) ds with
          | .ok s r => if s.isAt || r.isAt then none else (match mr with
            | .no => some (.nx (putP env i π s))
            | .nm l => if l < env.length then some (.nx ((putP env i π s).set l (some r))) else none
            | .ret => some (.rt r (putP env i π s)))
          | .ex x s => if s.isAt then none else some (.ex x (putP env i π s))
          | .stk => none)
        else none
      | _ => none)
    | _ => none)
  | .ifM p c m L es a b => (match evPs E L env es with
    | .ok ds => (match Evs.pl T E env p with
      | some (i, π, .ins c' ns os) => if c' = c ∧ m ∉ ns ∧ m ≠ "__init__" then (match E.io c m (.ins c' ns os) ds with
          | .ok s (.per d) => if s.isAt then none else if d.isN then E.b (putP env i π s) b else E.b (putP env i π s) a
          | .ex x s => if s.isAt then none else some (.ex x (putP env i π s))
          | _ => none)
        else none
      | _ => none)
    | _ => none)
  | .asgLc i fz L own t it ifs elt => (match E.it env it with
    | .ok ds => if ds.length ≤ sizeLine ∧ i < env.length then (match (lendE E L).lc (wipeE env own) t ifs elt ds with
      | .ok os => some (.nx (env.set i (some (fzo fz (.lst os)))))
      | _ => none) else none
    | _ => none)
  | .ret L e => (match evP E L env e with
    | .ok o => some (.rt o env)
    | .ex c => some (.ex c env)
    | .stk => none)
  | .retv i => (match env[i]? with
    | some (some (.at _ _)) => none
    | some (some o) => some (.rt o (env.set i none))
    | _ => none)
  | .retN => some (.rt (.per .non) env)
  | .ife L c a b => (match evT E L env c with
    | .ok true => E.b env a
    | .ok false => E.b env b
    | .ex x => some (.ex x env)
    | .stk => none)
  | .for_ t L it body => (match E.it (vwL L env) it with
    | .ok ds => if owL L env && !it.isRange then none else forE E t body ds env
    | _ => none)
  | .while_ k L c body => whileE E L c body k env
  | .raise c L es => (match evPs E L env es with
    | .ok ds => (match T.mkX E.k c ds with | some x => some (.ex x env) | none => none)
    | _ => none)
  | .tryX i j body => (match E.b env body with
    | some (.ex c env') => if j < env'.length ∧ (T.xi c.C).isSome = true then some (.nx ((env'.set j (some (.per (.exc c.C c.ns c.ds)))).set i none)) else none
    | x => x)
  | .frz i => (match env[i]? with
    | some (some (.at _ _)) => none
    | some (some o) => some (.nx (env.set i (some (.per o.fr))))
    | _ => none)
  | .wipe L => some (.nx (wipeE env L))
  | .pass => some (.nx env)
  | .brk => some (.bk env)
  | .cnt => some (.ct env)
  | _ => none
def runB (T : Tab) (E : Evs) : List CS → Ev → Option Out
  | [], env => some (.nx env)
  | s :: r, env => (match stepS T E env s with
    | some (.nx e) => runB T E r e
    | x => x)
def entE (n : Nat) (ds : List D) : Ev := ds.map (fun d => some (Ow.per d)) ++ List.replicate (n - ds.length) none
def outF : Option Out → R Ow
  | some (.rt o _) => .ok o
  | some (.nx _) => .ok (.per .non)
  | some (.ex c _) => .ex c
  | _ => .stk
def callFI (T : Tab) (E : Evs) (fi : FI) (ds : List D) : R Ow := if ds.length = fi.ps.length then outF (runB T E fi.body (entE fi.N.length ds)) else .stk
def stepF (T : Tab) (E : Evs) (i : Nat) (ds : List D) : R Ow := match T.fns[i]? with
  | some fi => callFI T E fi ds
  | none => .stk
def Tab.meth (T : Tab) (c m : Str) : Option FI := match T.cls.find? (fun k => decide (k.c = c)) with
  | some k => (match k.meths.find? (fun q => decide (q.1 = m)) with | some q => some q.2 | none => none)
  | none => none
def stepM (T : Tab) (E : Evs) (c m : Str) (x : D) (ds : List D) : R Ow := match x with
  | .obj c' ns xs => if c' = c ∧ m ∉ ns ∧ m ≠ "__init__" then (match T.meth c m with
    | some fi => callFI T E fi (.obj c' ns xs :: ds)
    | none => .stk) else .stk
  | _ => .stk
def self0 (env : Ev) : Option Ow := match (env[0]? : Option (Option Ow)) with
  | some (some (.at _ s)) => some s
  | _ => none
def outM : Option Out → RM
  | some (.rt o env) => (match self0 env with | some s => .ok s o | none => .stk)
  | some (.nx env) => (match self0 env with | some s => .ok s (.per .non) | none => .stk)
  | some (.ex c env) => (match self0 env with | some s => .ex c s | none => .stk)
  | _ => .stk
def entA (n : Nat) (s : Ow) (ds : List D) : Ev := some (.at 0 s) :: (ds.map (fun d => some (Ow.per d)) ++ List.replicate (n - (ds.length + 1)) none)
def stepIO (T : Tab) (E : Evs) (c m : Str) (s : Ow) (ds : List D) : RM := match T.meth c m with
  | some fi => if ds.length + 1 = fi.ps.length then outM (runB T E fi.body (entA fi.N.length s ds)) else .stk
  | none => .stk
def evs0 : Evs := ⟨0, fun _ _ => .stk, fun _ _ => .stk, fun _ _ => .stk, fun _ _ _ _ => .stk, fun _ _ _ _ => .stk, fun _ _ => none⟩
def stepE (T : Tab) (E : Evs) : Evs := ⟨E.k + 1, stepO T E, stepT E, stepF T E, stepM T E, stepIO T E, fun env cs => runB T E cs env⟩
def evs (T : Tab) : Nat → Evs
  | 0 => evs0
  | n + 1 => stepE T (evs T n)
end Pu

set_option Elab.async false
set_option linter.all false
set_option autoImplicit false
set_option maxRecDepth 100000
set_option maxHeartbeats 1000001
namespace Pu
open PySem L2
/-! ### what is looked at in the text -/
def nStar : Expr → Bool | .Starred _ _ => false | _ => true
def nSet : Expr → Bool | .Set _ _ _ => false | _ => true
def nSup : Expr → Bool | .Call (.Name _ _) [] [] _ => false | _ => true
def nSli : Expr → Bool | .Slice _ _ _ _ => false | _ => true
def nTst : Expr → Bool | .UnaryOp .Not _ _ => false | .BoolOp _ _ _ => false | .IfExp _ _ _ _ => false | .Compare _ _ _ _ => false | _ => true
def nCmp : Expr → Bool | .ListComp _ _ _ _ => false | .SetComp _ _ _ _ => false | .DictComp _ _ _ _ _ => false | _ => true
def nTup : Expr → Bool | .Tuple _ _ _ => false | _ => true
def dbg (x : Str) : Bool := !(x == ("__debug__" : Str)) && !(x == ("__classdict__" : Str))
def cstB : Const → D → Bool
  | .int i, .int j => decide (i = j)
  | .bool i, .bl j => decide (i = j)
  | .none, .non => true
  | .str i, .str j => decide (i = j)
  | _, _ => false
def all2 {α β : Type} (p : α → β → Bool) : List α → List β → Bool
  | [], [] => true
  | a :: as, b :: bs => p a b && all2 p as bs
  | _, _ => false
mutual
def okT (N : List Str) (sc fs : Scope) : Expr → CT → Bool
  | e, .nm i => (match e with | .Name x _ => decide (N[i]? = some x) && (dbg x && locB sc fs x) | _ => false)
  | e, .tp ts => (match e with | .Tuple es _ _ => okTs N sc fs es ts | _ => false)
def okTs (N : List Str) (sc fs : Scope) : List Expr → CTs → Bool
  | es, .nil => (match es with | [] => true | _ => false)
  | es, .cons t ts => (match es with | e :: es => nStar e && (okT N sc fs e t && okTs N sc fs es ts) | [] => false)
end
def free (T : Tab) (sc : Scope) (x : Str) : Bool := gloB sc x && T.blts.contains x
def CT.isTp : CT → Bool | .tp _ => true | _ => false
def CE.wantsTp : CE → Bool | .enum _ _ => true | .zip _ _ => true | _ => false
def unb : Expr → Option Expr
  | .BoolOp _ [x] _ => some x
  | _ => none
/-- a class by name -/
def tyOkB (T : Tab) (sc : Scope) (e : Expr) : TyD → Bool
  | .b n => (match e with | .Name x _ => free T sc x && bltT x n | _ => false)
  | .c C => (match e with | .Name x _ => decide (x = C) && (dbg x && (gloB sc x && T.own.contains C)) | _ => false)
variable (T : Tab) (N : List Str)
def ok1 (ok : Scope → Scope → Expr → CE → Bool) (sc fs : Scope) (e : Expr) (c : CE) : Bool := match c with
    | .bad => true
    | .var i => (match e with | .Name x _ => decide (N[i]? = some x) && (dbg x && visB sc x) | _ => false)
    | .cst d => (match e with | .Constant v _ _ => cstB v d | _ => false)
    | .glb i => (match e with | .Name x _ => (match T.cons[i]? with | some q => decide (q.1 = x) && (dbg x && gloB sc x) | none => false) | _ => false)
    | .bin op a b => (match e with | .BinOp ea o eb _ => decide (o = op) && (ok sc fs ea a && ok sc fs eb b) | _ => false)
    | .neg a => (match e with | .UnaryOp .USub ea _ => ok sc fs ea a | _ => false)
    | .not a => (match e with
      | .UnaryOp .Not ea _ => ok sc fs ea a
      | _ => false)
    | .cmp op a b => (match e with
      | .Compare ea [o] [eb] _ => decide (o = op) && (nSet eb && (ok sc fs ea a && ok sc fs eb b))
      | _ => false)
    | .cmp2 op op' a b c => (match e with
      | .Compare ea [o, o'] [eb, ec] _ => decide (o = op) && (decide (o' = op') && (nSet ec && (ok sc fs ea a && (ok sc fs eb b && ok sc fs ec c))))
      | _ => false)
    | .bop o a b => (match e with
      | .BoolOp o' (ea :: eb :: es) p => decide (o' = o) && (ok sc fs ea a && ok sc fs (.BoolOp o' (eb :: es) p) b)
      | _ => false)
    | .ite c a b => (match e with
      | .IfExp ec ea eb _ => ok sc fs ec c && (ok sc fs ea a && ok sc fs eb b)
      | _ => false)
    | .tup cs => (match e with | .Tuple es _ _ => es.all nStar && all2 (ok sc fs) es cs | _ => false)
    | .lst cs => (match e with | .List es _ => es.all nStar && all2 (ok sc fs) es cs | _ => false)
    | .dct [] [] => (match e with | .Dict [] [] _ => true | _ => false)
    | .dnew t => (match e with | .Dict [] [] _ => true | _ => false)
    | .dsp a b => (match e with | .Dict [some ea] [eb] _ => ok sc fs ea a && ok sc fs eb b | _ => false)
    | .idx a b => (match e with
      | .Subscript ea eb _ => nSli eb && (ok sc fs ea a && ok sc fs eb b)
      | _ => false)
    | .sli a lo hi => (match e with
      | .Subscript ea (.Slice elo ehi none _) _ => ok sc fs ea a && ((match elo, lo with | none, none => true | some x, some c => ok sc fs x c | _, _ => false) && (match ehi, hi with | none, none => true | some x, some c => ok sc fs x c | _, _ => false))
      | _ => false)
    | .rev a => (match e with
      | .Subscript ea (.Slice none none (some (.UnaryOp .USub (.Constant (.int i) _ _) _)) _) _ => decide (i = 1) && ok sc fs ea a
      | _ => false)
    | .att a f => (match e with
      | .Attribute ea f' _ => decide (f' = f) && (nSup ea && (ok sc fs ea a))
      | _ => false)
    | .call i cs => (match e with
      | .Call (.Name x _) es [] _ => (match T.fns[i]? with | some fi => decide (fi.y = x) | none => false) && (dbg x && (gloB sc x && (es.all nStar && all2 (ok sc fs) es cs)))
      | _ => false)
    | .meth c m a cs => (match e with
      | .Call (.Attribute ea m' ap) es [] p => decide (m' = m) && (nSup ea && (decide (es.length < 29) && ((ap.endLine == p.line) && (es.all nStar && (ok sc fs ea a && all2 (ok sc fs) es cs)))))
      | _ => false)
    | .make c cs => (match e with
      | .Call (.Name x _) es [] _ => decide (x = c) && (dbg x && (gloB sc x && (!es.isEmpty && (es.all nStar && all2 (ok sc fs) es cs))))
      | _ => false)
    | .blt b cs => (match e with
      | .Call (.Name x _) es [] _ => decide (x = b.nm) && (free T sc x && (es.all nStar && all2 (ok sc fs) es cs))
      | _ => false)
    | .isi a t => (match e with
      | .Call (.Name x _) [ea, .Name y _] [] _ => decide (x = "isinstance") && (free T sc x && (decide (y = t) && (free T sc y && (nStar ea && ok sc fs ea a))))
      | _ => false)
    | .isa a tup ts => (match e with
      | .Call (.Name x _) [ea, et] [] _ => decide (x = "isinstance") && (free T sc x && (nStar ea && (ok sc fs ea a && (match tup with
        | true => (match et with | .Tuple es _ _ => decide (es.length ≤ 1000) && all2 (tyOkB T sc) es ts | _ => false)
        | false => (match ts with | [t] => tyOkB T sc et t | _ => false)))))
      | _ => false)
    | .mkx c cs => (match e with
      | .Call (.Name x _) es [] _ => decide (x = c) && (dbg x && (gloB sc x && (!es.isEmpty && (es.all nStar && all2 (ok sc fs) es cs))))
      | _ => false)
    | .lc own t it ifs elt => (match e with
      | .ListComp eelt [⟨tg, iter, eifs, isas⟩] scope _ => decide (isas = 0) && (blkC N sc scope (own.map fun i => (N.getD i "", i)) && (nSet iter && ((!it.wantsTp || t.isTp) && ((unb iter).isNone && (t.vs.all own.contains && (ok sc fs iter it && (okT N (relS scope sc) scope tg t && (decide (eifs.length ≤ 1) && (all2 (ok (relS scope sc) scope) eifs ifs && ok (relS scope sc) scope eelt elt)))))))))
      | _ => false)
    | .range cs => (match e with
      | .Call (.Name x _) es [] _ => decide (x = "range") && (free T sc x && (es.all nStar && all2 (ok sc fs) es cs))
      | _ => false)
    | .enum a none => (match e with
      | .Call (.Name x _) [ea] [] _ => decide (x = "enumerate") && (free T sc x && (nStar ea && ((unb ea).isNone && ok sc fs ea a)))
      | _ => false)
    | .reved a => (match e with
      | .Call (.Name x _) [ea] [] _ => decide (x = "reversed") && (free T sc x && (nStar ea && ok sc fs ea a))
      | _ => false)
    | .zip a b => (match e with
      | .Call (.Name x _) [ea, eb] [] _ => decide (x = "zip") && (free T sc x && (nStar ea && (nStar eb && (ok sc fs ea a && ok sc fs eb b))))
      | _ => false)
    | _ => false
def okE : Nat → Scope → Scope → Expr → CE → Bool
  | 0, _, _, _, _ => false
  | k + 1, sc, fs, e, c => match unb e with
    | some x => okE k sc fs x c
    | none => ok1 T N (okE k) sc fs e c
end Pu

set_option Elab.async false
set_option linter.all false
set_option autoImplicit false
set_option maxRecDepth 100000
set_option maxHeartbeats 1000001
namespace Pu
open PySem L2
/-! ### judgements with exceptions -/
/-- the expression raises c -/
structure PX (X : Cx) (env : Ev) (e : Expr) (c : Xc) : Prop where
  run : ∀ (H0 : Hp) (σ : St) (G H : Hp), Sub G H → En X.K H0 G H σ env → ∀ (W : WX), L2.Takes X W → (∀ cls d G' H', Ex2 G H G' H' → RX X.K G' c cls d → W cls d σ H') → ∀ Q : VK, WE X e σ H Q
structure TX (X : Cx) (env : Ev) (e : Expr) (c : Xc) : Prop where
  run : ∀ (H0 : Hp) (σ : St) (G H : Hp), Sub G H → En X.K H0 G H σ env → ∀ (W : WX), L2.Takes X W → (∀ cls d G' H', Ex2 G H G' H' → RX X.K G' c cls d → W cls d σ H') → ∀ Q : Bool → Hp → Prop, WT X e σ H Q
structure AX (X : Cx) (env : Ev) (es : List Expr) (c : Xc) : Prop where
  run : ∀ (H0 : Hp) (σ : St) (G H : Hp), Sub G H → En X.K H0 G H σ env → ∀ (W : WX), L2.Takes X W → (∀ cls d G' H', Ex2 G H G' H' → RX X.K G' c cls d → W cls d σ H') → ∀ Q : List V → Hp → Prop, WA X es σ H Q
def JE (X : Cx) (env : Ev) (e : Expr) : R Ow → Prop
  | .ok o => P X env e o
  | .ex c => PX X env e c
  | .stk => True
def JT (X : Cx) (env : Ev) (e : Expr) : R Bool → Prop
  | .ok o => T X env e o
  | .ex c => TX X env e c
  | .stk => True
def JA (X : Cx) (env : Ev) (es : List Expr) : R (List D) → Prop
  | .ok ds => As X env es ds
  | .ex c => AX X env es c
  | .stk => True
/-- arguments, some of them one's own -/
structure AsO (X : Cx) (env : Ev) (es : List Expr) (os : List Ow) : Prop where
  run : ∀ (H0 : Hp) (σ : St) (G H : Hp), Sub G H → En X.K H0 G H σ env → ∀ Q : List V → Hp → Prop,
  (∀ vs G' H' fp, Ex2 G H G' H' → ROs X.K G' H' os vs fp → (∀ a ∈ fp, H a = none) → fp.Nodup → Q vs H') → WA X es σ H Q

/-! ### side conditions from looks -/
theorem star_of {e : Expr} {es : List Expr} (h : nStar e = true) (en : Env) : starEach (e :: es) en = (false, eval e en) :: starEach es en := by
  cases e <;> first | rfl | cases h
theorem star_any {pos : Pos} : ∀ {es : List Expr}, es.all nStar = true → ∀ en : Env, (backTo pos (starEach es en)).any (·.1) = false
  | [], _, en => rfl
  | e :: es, h, en => by
    simp only [List.all_cons, Bool.and_eq_true] at h
    rw [star_of h.1]
    have := star_any (pos := pos) h.2 en
    simp only [backTo, List.map_cons, List.any_cons] at this ⊢
    rw [this]; rfl
theorem star_all {pos : Pos} : ∀ {es : List Expr}, es.all nStar = true → ∀ en : Env, (backTo pos (starEach es en)).all (fun x => !x.1) = true
  | [], _, en => rfl
  | e :: es, h, en => by
    simp only [List.all_cons, Bool.and_eq_true] at h
    rw [star_of h.1]
    have := star_all (pos := pos) h.2 en
    simp only [backTo, List.map_cons, List.all_cons] at this ⊢
    rw [this]; rfl
theorem marks_of {op : CmpOp} {e : Expr} (h : nSet e = true) : behindInMarks op e = false := by
  cases e <;> first | rfl | cases h
theorem marks2_of {op op' : CmpOp} {b c : Expr} (h : nSet c = true) : lastMarks [op, op'] [b, c] = false := by
  show behindInMarks op' c = false
  exact marks_of h
theorem fold_of {e : Expr} (h : nSet e = true) (en : Env) (x : Value) : foldedSetIterable e en x = pure x := by
  cases e <;> first | rfl | cases h
theorem sup_of {e : Expr} (h : nSup e = true) (f : Str) (en : Env) : attributeBase e f en (eval e en) = eval e en := by
  unfold attributeBase
  split
  · cases h
  · rfl
theorem plain_of {e : Expr} (h : nSli e = true) : PlainIx e := fun o i => by
  cases e <;> first | rfl | cases h
theorem sw_of {e : Expr} (h : nCmp e = true) (t : Option Expr) (l : Nat) (en : Env) : swapsWith e t l en = pure false := by
  cases e <;> first | rfl | cases h
theorem tst_of {e : Expr} (h : nTst e = true) (en : Env) (w : Sem Value) : isTrue e en w = (do let v ← w; standAt e.pos; holding [v] (truthy v)) := by
  cases e with
  | UnaryOp op a p => cases op <;> first | rfl | cases h
  | BoolOp => cases h
  | IfExp => cases h
  | Compare => cases h
  | _ => rfl
/-! ### data as lists -/
theorem asL_of {d : D} {ds : List D} (h : d.asL = some ds) : IsL d ds := by
  cases d <;> simp only [D.asL] at h <;> first | (cases h; constructor) | cases h
theorem asS_of {d : D} {ds : List D} (h : d.asS = some ds) : IsS d ds := by
  cases d <;> simp only [D.asS] at h <;> first | (cases h; constructor) | cases h
theorem dints_of : ∀ {ds : List D} {ns : List Int}, dints ds = some ns → ds = ns.map D.int
  | [], ns, h => by simp only [dints] at h; cases h; rfl
  | d :: ds, ns, h => by
    cases d <;> simp only [dints] at h <;> try (cases h; done)
    split at h
    · rename_i k hk
      cases h
      rw [dints_of hk]; rfl
    · cases h
theorem dbools_of : ∀ {ds : List D} {ns : List Bool}, dbools ds = some ns → ds = ns.map D.bl
  | [], ns, h => by simp only [dbools] at h; cases h; rfl
  | d :: ds, ns, h => by
    cases d <;> simp only [dbools] at h <;> try (cases h; done)
    split at h
    · rename_i k hk
      cases h
      rw [dbools_of hk]; rfl
    · cases h
theorem dstrs_of : ∀ {ds : List D} {ns : List Str}, dstrs ds = some ns → ds = ns.map D.str
  | [], ns, h => by simp only [dstrs] at h; cases h; rfl
  | d :: ds, ns, h => by
    cases d <;> simp only [dstrs] at h <;> try (cases h; done)
    split at h
    · rename_i k hk
      cases h
      rw [dstrs_of hk]; rfl
    · cases h
theorem okN_of {b : Bool} {o o' : Ow} (h : okN b o = .ok o') : b = true ∧ o' = o := by
  unfold okN at h
  split at h
  · cases h; exact ⟨‹_›, rfl⟩
  · cases h
theorem pers_of : ∀ {os : List Ow} {ds : List D}, pers os = some ds → os = ds.map Ow.per
  | [], ds, h => by simp only [pers] at h; cases h; rfl
  | o :: os, ds, h => by
    cases o <;> simp only [pers] at h <;> try (cases h; done)
    split at h
    · rename_i k hk
      cases h
      rw [pers_of hk]; rfl
    · cases h
section
variable {X : Cx} {m : Md} {N : List Str} {sc fs : Scope} {k : Nat} {env : Ev} {a b c e : Expr} {es : List Expr} {pos p : Pos}
/-- an expression in a place where its data is read -/
theorem P.d {o : Ow} (h : P X env e o) : P X env e (.per o.fr) := h.last
theorem aso_nil : AsO X env [] [] := .mk fun H0 σ G H s E Q g => WA.of pa_nil (g [] G H [] (Ex2.refl s) (by simp only [ROs]; exact ⟨trivial, trivial⟩) (fun a ha => by cases ha) List.nodup_nil)
theorem aso_cons {o : Ow} {os : List Ow} (ha : P X env e o) (hr : AsO X env es os) (hs : ∀ en, starEach (e :: es) en = (false, eval e en) :: starEach es en) : AsO X env (e :: es) (o :: os) := .mk fun H0 σ G H s E Q g =>
  WA.of (pa_cons pWE pWA (hs _)) (ha.run H0 σ G H s E _ fun v G1 H1 f1 x1 r1 n1 d1 => hr.run H0 σ G1 H1 x1.s (E.later x1) _ fun vs G2 H2 f2 x2 r2 n2 d2 => g _ G2 H2 (f1 ++ f2) (x1.trans x2) (by
    simp only [ROs]
    exact ⟨v, vs, f1, f2, rfl, rfl, keepO x2 r1, r2⟩) (fun a ha => by
      rcases List.mem_append.mp ha with z | z
      · exact n1 a z
      · exact back_none x1.h (n2 a z)) (List.nodup_append.mpr ⟨d1, d2, fun a ha b hb q => by
        subst q
        exact (r1.out a ha).2 (n2 a hb)⟩))
theorem p_lstO {os : List Ow} (h : AsO X env es os) (hz : os.length ≤ 1000) : P X env (.List es pos) (.lst os) := .mk fun H0 σ G H s E Q g =>
  WE.of (pe_lst pWA) (h.run H0 σ G H s E _ fun vs G1 H1 fp x1 r1 n1 d1 => ⟨by rw [r1.length]; exact Nat.le_trans hz (by decide), fun p hp => by
    have gp : G1 p = none := back_none x1.s hp
    have np : p ∉ fp := fun z => (r1.out p z).2 hp
    refine g (.ref p) G1 _ (p :: fp) (x1.trans (Ex2.newOwn x1.s hp)) ?_ (fun a ha => ?_) (List.nodup_cons.mpr ⟨np, d1⟩)
    · simp only [RO]
      refine ⟨p, vs, fp, rfl, rfl, gp, upd_same, r1.frame (fun _ _ q => q) fun a ha => ?_⟩
      have : a ≠ p := fun z => np (z ▸ ha)
      rw [upd_ne this]
      exact ⟨rfl, (r1.out a ha).1⟩
    · rcases List.mem_cons.mp ha with rfl | z
      · exact back_none x1.h hp
      · exact n1 a z⟩)
theorem p_tupO {os : List Ow} {x1 : Nat} (h : AsO X env es os) (hz : os.length ≤ 1000) : P X env (.Tuple es x1 pos) (.tup os) := .mk fun H0 σ G H s E Q g =>
  WE.of (pe_tup pWA) (h.run H0 σ G H s E _ fun vs G1 H1 fp x1 r1 n1 d1 => ⟨by rw [r1.length]; exact Nat.le_trans hz (by decide), fun p hp => by
    have x2 : Ex2 G1 H1 (upd G1 p (.tup vs)) (upd H1 p (.tup vs)) := Ex2.new x1.s hp
    have np : p ∉ fp := fun z => (r1.out p z).2 hp
    refine g (.ref p) _ _ fp (x1.trans x2) ?_ n1 d1
    simp only [RO]
    exact ⟨p, vs, rfl, upd_same, keepR x2 r1⟩⟩)
theorem AsO.per : ∀ {es : List Expr} {ds : List D}, AsO X env es (ds.map Ow.per) → As X env es ds := fun {es ds} h => .mk fun H0 σ G H s E Q g =>
  h.run H0 σ G H s E Q fun vs G' H' fp x r n d => by
    obtain ⟨_, q⟩ := ROs.of_per r
    exact g vs G' H' x q
theorem AsO.fr {os : List Ow} (h : AsO X env es os) : As X env es (frs os) := .mk fun H0 σ G H s E Q g =>
  h.run H0 σ G H s E Q fun vs G' H' fp x r n d => by
    have x' := x.last n fun a ha => (r.out a ha).1
    refine g vs _ H' x' (r.fr (fun a o e => ?_) fun a ha => more_in ha)
    by_cases q : a ∈ fp
    · rw [(r.out a q).1] at e; cases e
    · rw [more_out q]; exact e
theorem p_mkTup {os : List Ow} {x1 : Nat} (h : AsO X env es os) (hz : os.length ≤ 1000) : P X env (.Tuple es x1 pos) (mkTup os) := by
  unfold mkTup
  split
  · rename_i ds hd
    have e := pers_of hd
    subst e
    exact p_tup h.per (by simpa using hz)
  · exact p_tupO h hz
end
end Pu

set_option Elab.async false
set_option linter.all false
set_option autoImplicit false
set_option maxRecDepth 100000
set_option maxHeartbeats 1000001
namespace Pu
open PySem L2
section
variable {X : Cx} {m : Md} {N : List Str} {sc fs : Scope} {k : Nat} {env : Ev} {a b c e : Expr} {es : List Expr} {pos p : Pos}
theorem p_rep {ds : List D} {j : Int} (h1 : -(2 ^ 62) < j ∧ j < 2 ^ 62 ∧ ds.length * j.toNat ≤ sizeLine) (ha : P X env a (.per (.lst ds))) (hb : P X env b (.per (.int j))) : P X env (.BinOp a .Mult b pos) (.lst ((List.replicate j.toNat ds).flatten.map Ow.per)) :=
  p_op op_rep ha hb fun G H x y Q s h3 h4 g => by
    simp only [Rp] at h3 h4
    obtain ⟨p, xs, rfl, h5, h6⟩ := h3
    obtain ⟨q1, q2, q3⟩ := h1
    exact ⟨p, j, xs, rfl, h4, s _ _ h5, by omega, by omega, by rw [h6.length]; exact q3, fun r hr => g.lst s (h6.rep _) hr⟩
theorem p_catT {ds es' : List D} (hz : ds.length + es'.length ≤ sizeLine) (ha : P X env a (.per (.tup ds))) (hb : P X env b (.per (.tup es'))) : P X env (.BinOp a .Add b pos) (.per (.tup (ds ++ es'))) :=
  p_op op_catA ha hb fun G H x y Q s h1 h2 g => by
    have h1' := h1
    have h2' := h2
    simp only [Rp] at h1 h2
    obtain ⟨p, xs, rfl, h3, h4⟩ := h1
    obtain ⟨q, ys, rfl, h5, h6⟩ := h2
    refine ⟨p, q, xs, ys, rfl, rfl, SqT.of (s _ _ h3), SqT.of (s _ _ h5), by rw [h4.length, h6.length]; exact hz, fun e => ?_, fun _ e => ?_, fun _ _ r hr => g.tup s (h4.append h6) hr⟩
    · subst e
      have : ds = [] := by have := h4.length; cases ds with | nil => rfl | cons _ _ => simp at this
      subst this
      exact g.val s (by simpa using h2')
    · subst e
      have : es' = [] := by have := h6.length; cases es' with | nil => rfl | cons _ _ => simp at this
      subst this
      exact g.val s (by simpa using h1')
theorem p_mulW {u w : Int} (hc : u.natAbs < 2 ^ 4000 ∧ w.natAbs < 2 ^ 4000) (ha : P X env a (.per (.int u))) (hb : P X env b (.per (.int w))) : P X env (.BinOp a .Mult b pos) (.per (.int (u * w))) :=
  p_op op_mulW ha hb fun G H x y Q s h1 h2 g => rI_of s h1 h2 (wide_mul hc.1 hc.2 (by decide) (by decide) (by decide)) (fun _ => by simp only [Rp]) g
theorem p_bin {op : Operator} {da db : D} {o : Ow} (ha : P X env a (.per da)) (hb : P X env b (.per db)) (h : dBin op da db = .ok o) : P X env (.BinOp a op b pos) o := by
  unfold dBin at h
  split at h
  · cases h; exact p_add ha hb
  · obtain ⟨hh, rfl⟩ := okN_of h; exact p_addS (of_decide_eq_true hh) ha hb
  · obtain ⟨hh, rfl⟩ := okN_of h; exact p_cat (of_decide_eq_true hh) ha hb
  · obtain ⟨hh, rfl⟩ := okN_of h; exact p_catT (of_decide_eq_true hh) ha hb
  · cases h; exact p_sub ha hb
  · obtain ⟨hh, rfl⟩ := okN_of h
    rcases Bool.or_eq_true_iff.mp hh with h | h
    · refine p_mul ?_ ha hb
      rcases Bool.or_eq_true_iff.mp h with h | h
      · exact .inl (of_decide_eq_true h)
      · exact .inr (of_decide_eq_true h)
    · exact p_mulW (of_decide_eq_true h) ha hb
  · obtain ⟨hh, rfl⟩ := okN_of h; exact p_rep (of_decide_eq_true hh) ha hb
  · obtain ⟨hh, rfl⟩ := okN_of h; exact p_mod (of_decide_eq_true hh) ha hb
  · obtain ⟨hh, rfl⟩ := okN_of h; exact p_fdiv (of_decide_eq_true hh) ha hb
  · obtain ⟨hh, rfl⟩ := okN_of h; have h2 := of_decide_eq_true hh; exact p_pow h2 ha hb
  · cases h
theorem p_negD {d : D} {o : Ow} (ha : P X env a (.per d)) (h : dNeg d = .ok o) : P X env (.UnaryOp .USub a pos) o := by
  cases d <;> simp only [dNeg] at h <;> first | (cases h; exact p_neg ha) | cases h
/-! ### truth -/
theorem tru_of {K : PySem.W.Frag} {G H : Hp} {d : D} {v : V} {q : Bool} (s : Sub G H) (h : Rp K G d v) (ht : dTruth d = .ok q) : TruV K v H q := by
  cases d <;> simp only [dTruth] at ht <;> try (cases ht; done)
  · simp only [Rp] at h; subst h; cases ht; rfl
  · simp only [Rp] at h; subst h; cases ht; rfl
  · simp only [Rp] at h; subst h; cases ht; rfl
  all_goals
    rename_i ds
    cases ht
    have em : ∀ {xs : List V}, Rps K G ds xs → xs.isEmpty = ds.isEmpty := fun {xs} q => by
      have := q.length
      cases xs <;> cases ds <;> simp at this ⊢
  · obtain ⟨a, xs, rfl, h2, h3⟩ := (IsL.lst ds).seq h
    exact .inl ⟨xs, sub_sqL s h2, by rw [em h3]⟩
  · obtain ⟨a, xs, rfl, h2, h3⟩ := (IsT.tup ds).seq h
    exact .inr (.inl ⟨xs, sub_sqT s h2, by rw [em h3]⟩)
  · obtain ⟨a, xs, rfl, h2, h3⟩ := (IsL.fz ds).seq h
    exact .inl ⟨xs, sub_sqL s h2, by rw [em h3]⟩
  · obtain ⟨a, xs, rfl, h2, h3⟩ := (IsT.ft ds).seq h
    exact .inr (.inl ⟨xs, sub_sqT s h2, by rw [em h3]⟩)
theorem t_truth {d : D} {q : Bool} (ha : P X env a (.per d)) (ht : dTruth d = .ok q) (he : ∀ en whole, isTrue a en whole = (do let v ← whole; standAt a.pos; holding [v] (truthy v))) : T X env a q := .mk fun H0 σ G H s E Q g =>
  WT.of (pt_truth pWE (he _)) (ha.go s E fun x G1 H1 x1 r1 => ⟨q, tru_of x1.s r1 ht, g G1 H1 x1⟩)
theorem p_notD {d : D} {q : Bool} (ha : P X env a (.per d)) (ht : dTruth d = .ok q) : P X env (.UnaryOp .Not a pos) (.per (.bl (!q))) := .mk fun H0 σ G H s E Q g =>
  WE.of (pe_notT pWE) (ha.go s E fun x G1 H1 x1 r1 => ⟨q, tru_of x1.s r1 ht, (g.trans x1).val x1.s (by simp only [Rp])⟩)
theorem p_andD {d : D} {q : Bool} {o : Ow} (ha : P X env a (.per d)) (ht : dTruth d = .ok q) (h1 : q = true → P X env (.BoolOp .And (b :: es) pos) o) (h2 : q = false → o = .per d) : P X env (.BoolOp .And (a :: b :: es) pos) o := .mk fun H0 σ G H s E Q g =>
  WE.of (pe_andT pWE pWE) (ha.go s E fun x G1 H1 x1 r1 => ⟨q, tru_of x1.s r1 ht, by
    cases q with
    | true => exact iteT ((h1 rfl).run H0 σ G1 H1 x1.s (E.later x1) Q (g.trans x1))
    | false =>
      have e := h2 rfl
      subst e
      exact iteF ((g.trans x1).val x1.s r1)⟩)
theorem p_orD {d : D} {q : Bool} {o : Ow} (ha : P X env a (.per d)) (ht : dTruth d = .ok q) (h1 : q = false → P X env (.BoolOp .Or (b :: es) pos) o) (h2 : q = true → o = .per d) : P X env (.BoolOp .Or (a :: b :: es) pos) o := .mk fun H0 σ G H s E Q g =>
  WE.of (pe_orT pWE pWE) (ha.go s E fun x G1 H1 x1 r1 => ⟨q, tru_of x1.s r1 ht, by
    cases q with
    | false => exact iteF ((h1 rfl).run H0 σ G1 H1 x1.s (E.later x1) Q (g.trans x1))
    | true =>
      have e := h2 rfl
      subst e
      exact iteT ((g.trans x1).val x1.s r1)⟩)
/-! ### comparisons -/
theorem keyT_of {K : PySem.W.Frag} {G : Hp} : ∀ {ds : List D} {k : List Key} {xs : List V}, keyT ds = some k → Rps K G ds xs → xs = k.map kV
  | [], k, xs, h, r => by simp only [keyT] at h; cases h; simp only [Rps] at r; exact r
  | d :: ds, k, xs, h, r => by
    simp only [Rps] at r
    obtain ⟨v, vs, rfl, r1, r2⟩ := r
    cases d <;> simp only [keyT] at h <;> try (cases h; done)
    all_goals
      split at h
      · rename_i k' hk
        cases h
        simp only [Rp] at r1
        subst r1
        rw [keyT_of hk r2]; rfl
      · cases h
theorem look_val {κ : Type} [DecidableEq κ] {K : PySem.W.Frag} {G : Hp} : ∀ {ks : List κ} {ds : List D} {vs : List V} {x : κ}, ks.length = ds.length → Rps K G ds vs →
    match look ks ds x with
    | some d => ∃ v, valV (ks.zip vs) x = some v ∧ Rp K G d v
    | none => valV (ks.zip vs) x = none
  | [], [], vs, x, _, r => by simp only [look]; rfl
  | [], _ :: _, vs, x, h, r => by cases h
  | _ :: _, [], vs, x, h, r => by cases h
  | k :: ks, d :: ds, vs, x, h, r => by
    simp only [Rps] at r
    obtain ⟨v, vs, rfl, r1, r2⟩ := r
    have ih := look_val (x := x) (Nat.succ.inj h) r2
    by_cases q : k = x
    · subst q
      simp only [look, if_true]
      exact ⟨v, by simp [valV], r1⟩
    · have e : valV ((k :: ks).zip (v :: vs)) x = valV (ks.zip vs) x := by simp [valV, q]
      simp only [look, if_neg q]
      rw [e]
      exact ih
theorem valV_some {κ : Type} [DecidableEq κ] : ∀ {ks : List κ} {vs : List V} {x : κ}, ks.length = vs.length → (valV (ks.zip vs) x).isSome = ks.any fun q => decide (q = x)
  | [], _, x, _ => rfl
  | _ :: _, [], x, h => by cases h
  | k :: ks, v :: vs, x, h => by
    have ih := valV_some (x := x) (Nat.succ.inj h)
    by_cases q : k = x
    · subst q; simp [valV]
    · have e : valV ((k :: ks).zip (v :: vs)) x = valV (ks.zip vs) x := by simp [valV, q]
      rw [e, ih]; simp [q]
theorem sign_of {x : Str} {c : Nat} (h : x.cps.toList = [c]) : x = ⟨#[c]⟩ := by
  cases x with
  | mk a =>
    have : a = #[c] := by rw [← Array.toArray_toList (xs := a), h]
    rw [this]
theorem op_inD (hu : X.A.units + 1 < cLine) : OpR X (compareOp .In) (fun y x H Q => ∃ a o, x = .ref a ∧ DGet H a y o ∧ Q (.bl o.isSome) H) := fun pins s σ H y x iv u Q I ry rx h => by
  obtain ⟨a, ov, ex, g, q⟩ := h
  subst ex
  obtain rfl : u = Value.ref a := rx
  exact d_in hu I g ry fun s3 I3 => ⟨.bl ov.isSome, H, I3, rfl, q⟩
theorem op_notinD (hu : X.A.units + 1 < cLine) : OpR X (compareOp .NotIn) (fun y x H Q => ∃ a o, x = .ref a ∧ DGet H a y o ∧ Q (.bl (!o.isSome)) H) := fun pins s σ H y x iv u Q I ry rx h => by
  obtain ⟨a, ov, ex, g, q⟩ := h
  subst ex
  obtain rfl : u = Value.ref a := rx
  exact d_notIn hu I g ry fun s3 I3 => ⟨.bl (!ov.isSome), H, I3, rfl, q⟩
theorem rd_sub {G H : Hp} {a : Addr} {u : HO} (s : Sub G H) (h : Rd G a u) : Rd H a u := rd_mono s h
theorem p_cmpD (hX : Cs X m N sc fs k) {op : CmpOp} {da db : D} {q : Bool} (ha : P X env a (.per da)) (hb : P X env b (.per db)) (h : dCmp op da db = .ok q) (hm : nSet b = true) : C X env op a b q := by
  have hmk : ∀ op, behindInMarks op b = false := fun op => marks_of hm
  have hu : X.A.units + 1 < cLine := by have := hX.room.units; omega
  unfold dCmp at h
  split at h
  · cases h; exact c_lt ha hb
  · cases h; exact c_le ha hb
  · cases h; exact c_gt ha hb
  · cases h; exact c_ge ha hb
  · split at h
    · cases h
      rename_i h2
      simp only [Bool.and_eq_true] at h2
      exact c_eq hX fdep h2.1 h2.2 ha hb
    · cases h
  · split at h
    · cases h
      rename_i h2
      simp only [Bool.and_eq_true] at h2
      exact c_ne hX fdep h2.1 h2.2 ha hb
    · cases h
  · cases h
    exact ⟨_, _, _, op_isN, ha, hb, fun G H x y Q s h1 h2 g => by
      simp only [Rp] at h2
      exact ⟨h2, by rw [isN_v h1]; exact g.val s (by simp only [Rp])⟩, hmk _⟩
  · cases h; exact c_isBl ha hb
  · cases h
    exact ⟨_, _, _, op_notN, ha, hb, fun G H x y Q s h1 h2 g => by
      simp only [Rp] at h2
      exact ⟨h2, by rw [isN_v h1]; exact g.val s (by simp only [Rp])⟩, hmk _⟩
  · cases h; exact c_isNotBl ha hb
  · split at h
    · cases h; rename_i h2; simp only [Bool.and_eq_true] at h2; exact c_in0 (.tup _) h2.1 h2.2 ha hb (hmk _)
    · cases h
  · split at h
    · cases h; rename_i h2; simp only [Bool.and_eq_true] at h2; exact c_in0 (.ft _) h2.1 h2.2 ha hb (hmk _)
    · cases h
  · split at h
    · cases h; rename_i h2; simp only [Bool.and_eq_true] at h2; exact c_in0 (.lst _) h2.1 h2.2 ha hb (hmk _)
    · cases h
  · split at h
    · rename_i hx
      cases h
      rw [sign_of hx] at ha
      exact c_inSign ha hb (hmk _)
    · cases h
  · split at h
    · rename_i hk
      cases h
      exact ⟨_, _, _, op_inD hu, ha, hb, fun G H x y Q s h1 h2 g => by
        simp only [Rp] at h1 h2
        obtain ⟨p, xs, rfl, h3, h4⟩ := h1
        obtain ⟨d, vs, rfl, h5, h6, h7⟩ := h2
        have e := keyT_of hk h4
        subst e
        refine ⟨d, _, rfl, .inr ⟨_, _, p, rd_sub s (.inr h5), rfl, s _ _ h3, rfl⟩, ?_⟩
        rw [valV_some (by rw [h6, h7.length])]
        exact g.val s (by simp only [Rp]), hmk _⟩
    · cases h
  · split at h
    · rename_i hk
      cases h
      exact ⟨_, _, _, op_inD hu, ha, hb, fun G H x y Q s h1 h2 g => by
        simp only [Rp] at h1 h2
        obtain ⟨p, xs, rfl, h3, h4⟩ := h1
        obtain ⟨d, vs, rfl, h5, h6, h7⟩ := h2
        have e := keyT_of hk h4
        subst e
        refine ⟨d, _, rfl, .inr ⟨_, _, p, rd_sub s h5, rfl, s _ _ h3, rfl⟩, ?_⟩
        rw [valV_some (by rw [h6, h7.length])]
        exact g.val s (by simp only [Rp]), hmk _⟩
    · cases h
  · split at h
    · cases h; rename_i h2; simp only [Bool.and_eq_true] at h2; exact c_notIn0 (.tup _) h2.1 h2.2 ha hb (hmk _)
    · cases h
  · split at h
    · cases h; rename_i h2; simp only [Bool.and_eq_true] at h2; exact c_notIn0 (.ft _) h2.1 h2.2 ha hb (hmk _)
    · cases h
  · split at h
    · cases h; rename_i h2; simp only [Bool.and_eq_true] at h2; exact c_notIn0 (.lst _) h2.1 h2.2 ha hb (hmk _)
    · cases h
  · split at h
    · rename_i hx
      cases h
      rw [sign_of hx] at ha
      exact c_notInSign ha hb (hmk _)
    · cases h
  · split at h
    · rename_i hk
      cases h
      exact ⟨_, _, _, op_notinD hu, ha, hb, fun G H x y Q s h1 h2 g => by
        simp only [Rp] at h1 h2
        obtain ⟨p, xs, rfl, h3, h4⟩ := h1
        obtain ⟨d, vs, rfl, h5, h6, h7⟩ := h2
        have e := keyT_of hk h4
        subst e
        refine ⟨d, _, rfl, .inr ⟨_, _, p, rd_sub s (.inr h5), rfl, s _ _ h3, rfl⟩, ?_⟩
        rw [valV_some (by rw [h6, h7.length])]
        exact g.val s (by simp only [Rp]), hmk _⟩
    · cases h
  · split at h
    · rename_i hk
      cases h
      exact ⟨_, _, _, op_notinD hu, ha, hb, fun G H x y Q s h1 h2 g => by
        simp only [Rp] at h1 h2
        obtain ⟨p, xs, rfl, h3, h4⟩ := h1
        obtain ⟨d, vs, rfl, h5, h6, h7⟩ := h2
        have e := keyT_of hk h4
        subst e
        refine ⟨d, _, rfl, .inr ⟨_, _, p, rd_sub s h5, rfl, s _ _ h3, rfl⟩, ?_⟩
        rw [valV_some (by rw [h6, h7.length])]
        exact g.val s (by simp only [Rp]), hmk _⟩
    · cases h
  · cases h
end
end Pu

set_option Elab.async false
set_option linter.all false
set_option autoImplicit false
set_option maxRecDepth 100000
set_option maxHeartbeats 1000001
/-! ### sorted of tuples that differ in their firsts, whole numbers -/
namespace SrtO
open PySem PyProof.Rows Srt
section
variable {prog : Program} {w : World} {A : Around} {E : Value → Shared → Prop} {s : Shared}
def IsF (h : Heap) (v : Value) (x : Int) : Prop := ∃ a o t us n, v = .ref a ∧ h.get? a = some o ∧ o.cls = .type "tuple" ∧ o.data = .seq (Value.int x t :: us).toArray n
theorem IsF.keeps {h h' : Heap} {v : Value} {x : Int} (p : IsF h v x) (k : ∀ b o, h.get? b = some o → o.cls = .type "tuple" → h'.get? b = some o) : IsF h' v x := by
  obtain ⟨a, o, t, us, n, e, ho, hc, hd⟩ := p
  exact ⟨a, o, t, us, n, e, k _ _ ho hc, hc, hd⟩
theorem firstsF {h : Heap} : ∀ {vs : List Value}, (∀ v ∈ vs, ∃ x, IsF h v x) → ∃ fs : List Value, PySem.W.KatTups h vs fs ∧ fs.length = vs.length ∧ ∀ f ∈ fs, ∃ x t, f = Value.int x t
  | [], _ => ⟨[], PySem.W.KatTups.nil, rfl, fun _ hm => by simp at hm⟩
  | v :: vs, hp => by
    obtain ⟨fs, h1, h2, h3⟩ := firstsF (vs := vs) fun v' hm => hp v' (List.mem_cons_of_mem _ hm)
    obtain ⟨x, a, o, t, us, n, e, ho, hc, hd⟩ := hp v (List.mem_cons_self ..)
    subst e
    refine ⟨.int x t :: fs, PySem.W.KatTups.cons ho hc hd (by simp) h1, by rw [List.length_cons, List.length_cons, h2], fun f hm => ?_⟩
    rcases List.mem_cons.mp hm with rfl | hm
    · exact ⟨x, t, rfl⟩
    · exact h3 f hm
theorem kat_same {b fin : Bool} {Q : Bool → Shared → Prop} (h : Q fin s) : ∀ (l : List Value) (i : Nat), PySem.W.KatLex prog w A b fin Q (l.zip l) i s
  | [], i => PySem.W.kat_nil h
  | v :: l, i => PySem.W.kat_cons (SeqAt.EqAt.same v prog w _ _ (PySem.W.kat_yes (kat_same h l (i + 1))))
theorem first_cmp {vs : List Value} {k : Value → Int} (hp : ∀ v ∈ vs, IsF s.heap v (k v)) (hd : ∀ v ∈ vs, ∀ u ∈ vs, k v = k u → v = u) : Cmp prog w A s (tuples' true) (fun p => p.1 ∈ vs) (lt2 fun v u => decide (k v < k u)) := by
  intro p q hm hm'
  have h1 := hp _ hm
  have h2 := hp _ hm'
  show wpAny (model prog w) A (keyLt' (tuples' true) p.1 q.1) (fun r s' => s' = s ∧ r = decide (k p.1 < k q.1)) (fun _ _ => False) s
  by_cases e0 : p.1 = q.1
  · rw [← e0]
    obtain ⟨a, o, t, us, n, e, ho, hc, hdd⟩ := h1
    rw [e]
    refine PySem.W.kat_lt ho hdd ho hdd (kat_same ⟨rfl, ?_⟩ _ _)
    rw [decide_eq_false (Nat.lt_irrefl _), decide_eq_false (Int.lt_irrefl _)]
  · have hne : k p.1 ≠ k q.1 := fun z => e0 (hd _ hm _ hm' z)
    generalize k p.1 = x at h1 hne ⊢
    generalize k q.1 = x' at h2 hne ⊢
    obtain ⟨a, o, t, us, n, e, ho, hc, hdd⟩ := h1
    obtain ⟨a', o', t', us', n', e', ho', hc', hdd'⟩ := h2
    rw [e, e']
    refine PySem.W.kat_lt ho hdd ho' hdd' ?_
    rw [List.toList_toArray, List.toList_toArray, List.zip_cons_cons]
    refine PySem.W.kat_cons (SeqAt.EqAt.int_int x t x' t' prog w _ _ ?_)
    refine PySem.W.kat_go (fun e1 => ?_) (fun e1 => ?_)
    · exact absurd (by simpa using e1) hne
    · exact PySem.W.kat_no (oneLt_int ⟨rfl, rfl⟩)
theorem first_swo (k : Value → Int) : Swo fun v u => decide (k v < k u) := by
  refine ⟨fun x y h => ?_, fun x y z h1 h2 => ?_⟩
  · have a := of_decide_eq_true h
    exact decide_eq_false (by omega)
  · have a := of_decide_eq_false h1
    have b := of_decide_eq_false h2
    exact decide_eq_false (by omega)
theorem first_sortable {a : Addr} {vs : List Value} {k : Value → Int} (h0 : 0 < vs.length) (hp : ∀ v ∈ vs, IsF s.heap v (k v)) (hd : ∀ v ∈ vs, ∀ u ∈ vs, k v = k u → v = u) (ha : ∀ o, s.heap.get? a = some o → o.cls ≠ .type "tuple") : SortableO prog w A s a vs fun v u => decide (k v < k u) := by
  intro h' keep
  have hp' : ∀ v ∈ vs, IsF h' v (k v) := fun v hm => (hp v hm).keeps fun b o e c => keep b o (fun z => by subst z; exact ha o e c) e
  obtain ⟨fs, h1, h2, h3⟩ := firstsF fun v hm => ⟨_, hp' v hm⟩
  refine ⟨tuples' true, fun Q E hq => ?_, first_cmp hp' hd⟩
  refine PySem.W.kat_kind (T := .type "int") h1 (by omega) (fun f hm => ?_) (by rfl) ?_
  · obtain ⟨x, t, rfl⟩ := h3 f hm
    exact PySem.W.Looks.now
  · have e : (Value.type "int" != Value.type "tuple") = true := by first | decide +kernel | rfl | decide
    rw [e]
    exact hq
theorem sorted_first {l : Addr} {vs : List Value} {k : Value → Int} {Q : Value → Shared → Prop} (hl : s.heap.IsList l vs.toArray) (hz : vs.length ≤ sizeLine) (hp : ∀ v ∈ vs, IsF s.heap v (k v)) (hd : ∀ v ∈ vs, ∀ u ∈ vs, k v = k u → v = u)
    (h : ∀ (h' : Heap) (d : Addr) (out : List Value), Srtd (fun v u => decide (k v < k u)) out → Stb (fun v u => decide (k v < k u)) out vs → (∀ b o, s.heap.get? b = some o → h'.get? b = some o) → s.heap.objs.size ≤ d → (∃ n, h'.get? d = some (seqObj "list" out.toArray n)) → Q (.ref d) { s with heap := h' }) :
    wpAny (model prog w) A (call (.builtin "sorted") [.ref l]) Q E s := by
  refine sorted_ord (first_swo k) hl hz (fun h2 h₁ a ha kk => ?_) fun out hs hb => ?_
  · refine first_sortable (s := { s with heap := h₁ }) (by omega) (fun v hm => (hp v hm).keeps fun b o e _ => (kk b o e).2) hd fun o e => ?_
    have e' : some o = some (seqObj "list" vs.toArray 0) := e.symm.trans ha
    cases e'
    intro c
    exact absurd (Value.type.inj c) (by decide)
  · exact h _ _ out hs hb (fun b o e => sortedAll_old e) (Nat.le_succ _) (sortedAll_at s.heap vs out.toArray)
end
end SrtO
namespace L2
open PySem PySem.Spec PyProof.Rows
def rSortF (K : PySem.W.Frag) : List V → Hp → VK → Prop := fun vs H Q => ∃ (a : Addr) (xs : List V) (k : V → Int), vs = [V.ref a] ∧ SqL K H a xs ∧ (∀ x ∈ xs, ∃ t r, x = V.ref t ∧ H t = some (.tup (.int (k x) :: r))) ∧ (∀ x ∈ xs, ∀ y ∈ xs, k x = k y → x = y) ∧
  ∀ ys p, ys.Perm xs → ys.Pairwise (fun x y => k x ≤ k y) → H p = none → Q (.ref p) (upd H p (.lst ys))
theorem cr_sortF {X : Cx} : CallR X (.builtin "sorted") (rSortF X.K) := by
  intro pins s σ H vs us Q I r h
  obtain ⟨a, xs, k, rfl, hs, hx, hd, q⟩ := h
  obtain ⟨its, rv, hl, hz⟩ := I.list hs
  obtain ⟨u, rfl, ru⟩ := vals1 r
  obtain rfl : u = Value.ref a := ru
  obtain ⟨e1, e2⟩ := refs_back rv fun x m => by
    obtain ⟨t, _, e, _⟩ := hx x m
    exact ⟨t, e⟩
  have mem : ∀ v ∈ its, backV v ∈ xs := fun v hv => by rw [e1]; exact List.mem_map.mpr ⟨_, hv, rfl⟩
  refine SrtO.sorted_first (k := fun u => k (backV u)) hl.isList (by rw [← rv.length]; exact hz) (fun v hv => ?_) (fun v hv u hu z => ?_) fun h' d out h1 h2 kp hdd hn => ?_
  · obtain ⟨t, rfl⟩ := e2 v hv
    have hm : V.ref t ∈ xs := mem _ hv
    obtain ⟨t', rr, e, ht⟩ := hx _ hm
    cases e
    obtain ⟨_, its2, r2, o, ho, hc, n, hdt⟩ := I.hok _ _ ht
    rcases r2 with _ | ⟨r3, r4⟩
    obtain ⟨t1, rfl⟩ := r3
    exact ⟨t, o, t1, _, n, rfl, ho, hc, hdt⟩
  · have z2 := hd _ (mem v hv) _ (mem u hu) z
    obtain ⟨t, rfl⟩ := e2 v hv
    obtain ⟨t', rfl⟩ := e2 u hu
    have z3 : V.ref t = V.ref t' := z2
    injection z3 with z3
    rw [z3]
  · have h3 : ∀ u ∈ out, ∃ a, u = Value.ref a := fun u hu => e2 u (h2.perm.mem_iff.mp hu)
    obtain ⟨n, hn⟩ := hn
    have hp : (out.map backV).Perm xs := by rw [e1]; exact h2.perm.map backV
    refine ⟨.ref d, upd H d (.lst (out.map backV)), I.laid (t' := s.toks) kp hdd ⟨?_, out, n, vals_back h3, hn⟩, rfl, q _ d hp ?_ (I.hok.fresh hdd)⟩
    · rw [hp.length_eq]
      exact hz
    · exact List.pairwise_map.mpr (h1.imp fun {x y} h => Int.not_lt.mp (of_decide_eq_false (p := k (backV y) < k (backV x)) h))
end L2
namespace Pu
open PySem L2
/-! ### least, greatest, sorted -/
theorem minL_le : ∀ (ns : List Int) (n : Int), minL n ns ≤ n ∧ ∀ y ∈ ns, minL n ns ≤ y
  | [], n => ⟨Int.le_refl _, by simp⟩
  | x :: xs, n => by
    obtain ⟨h1, h2⟩ := minL_le xs (if x < n then x else n)
    have c : (if x < n then x else n) ≤ n ∧ (if x < n then x else n) ≤ x := by split <;> omega
    simp only [minL]
    constructor
    · exact Int.le_trans h1 c.1
    · intro y hy
      rcases List.mem_cons.mp hy with rfl | hy
      · exact Int.le_trans h1 c.2
      · exact h2 y hy
theorem minL_mem : ∀ (ns : List Int) (n : Int), minL n ns ∈ n :: ns
  | [], n => by simp [minL]
  | x :: xs, n => by
    have h := minL_mem xs (if x < n then x else n)
    simp only [minL]
    split at h
    · rename_i q
      rw [if_pos q]
      exact List.mem_cons_of_mem _ h
    · rename_i q
      rw [if_neg q]
      rcases List.mem_cons.mp h with e | h
      · rw [e]; simp
      · exact List.mem_cons_of_mem _ (List.mem_cons_of_mem _ h)
theorem maxL_le : ∀ (ns : List Int) (n : Int), n ≤ maxL n ns ∧ ∀ y ∈ ns, y ≤ maxL n ns
  | [], n => ⟨Int.le_refl _, by simp⟩
  | x :: xs, n => by
    obtain ⟨h1, h2⟩ := maxL_le xs (if n < x then x else n)
    have c : n ≤ (if n < x then x else n) ∧ x ≤ (if n < x then x else n) := by split <;> omega
    simp only [maxL]
    constructor
    · exact Int.le_trans c.1 h1
    · intro y hy
      rcases List.mem_cons.mp hy with rfl | hy
      · exact Int.le_trans c.2 h1
      · exact h2 y hy
theorem maxL_mem : ∀ (ns : List Int) (n : Int), maxL n ns ∈ n :: ns
  | [], n => by simp [maxL]
  | x :: xs, n => by
    have h := maxL_mem xs (if n < x then x else n)
    simp only [maxL]
    split at h
    · rename_i q
      rw [if_pos q]
      exact List.mem_cons_of_mem _ h
    · rename_i q
      rw [if_neg q]
      rcases List.mem_cons.mp h with e | h
      · rw [e]; simp
      · exact List.mem_cons_of_mem _ (List.mem_cons_of_mem _ h)
theorem minL_eq {ns : List Int} {n m : Int} (h1 : m ∈ n :: ns) (h2 : ∀ y ∈ n :: ns, m ≤ y) : m = minL n ns := by
  have a := h2 _ (minL_mem ns n)
  obtain ⟨b, c⟩ := minL_le ns n
  rcases List.mem_cons.mp h1 with e | h
  · omega
  · have := c _ h; omega
theorem maxL_eq {ns : List Int} {n m : Int} (h1 : m ∈ n :: ns) (h2 : ∀ y ∈ n :: ns, y ≤ m) : m = maxL n ns := by
  have a := h2 _ (maxL_mem ns n)
  obtain ⟨b, c⟩ := maxL_le ns n
  rcases List.mem_cons.mp h1 with e | h
  · omega
  · have := c _ h; omega
/-- sorted by a key -/
def insV (k : V → Int) (x : V) : List V → List V
  | [] => [x]
  | y :: ys => if k x ≤ k y then x :: y :: ys else y :: insV k x ys
def sortV (k : V → Int) : List V → List V
  | [] => []
  | x :: xs => insV k x (sortV k xs)
theorem insV_perm (k : V → Int) (x : V) : ∀ ys, (insV k x ys).Perm (x :: ys)
  | [] => .refl _
  | y :: ys => by
    simp only [insV]
    split
    · exact .refl _
    · exact ((insV_perm k x ys).cons y).trans (.swap _ _ _)
theorem sortV_perm (k : V → Int) : ∀ xs, (sortV k xs).Perm xs
  | [] => .refl _
  | x :: xs => (insV_perm k x _).trans ((sortV_perm k xs).cons x)
theorem insV_sorted (k : V → Int) (x : V) : ∀ ys, ys.Pairwise (fun a b => k a ≤ k b) → (insV k x ys).Pairwise (fun a b => k a ≤ k b)
  | [], _ => List.pairwise_singleton _ _
  | y :: ys, h => by
    simp only [insV]
    obtain ⟨h1, h2⟩ := List.pairwise_cons.mp h
    split
    · rename_i q
      refine List.pairwise_cons.mpr ⟨fun z hz => ?_, h⟩
      rcases List.mem_cons.mp hz with rfl | hz
      · exact q
      · have := h1 z hz; omega
    · rename_i q
      refine List.pairwise_cons.mpr ⟨fun z hz => ?_, insV_sorted k x ys h2⟩
      rcases List.mem_cons.mp ((insV_perm k x ys).mem_iff.mp hz) with rfl | hz
      · omega
      · exact h1 z hz
theorem sortV_sorted (k : V → Int) : ∀ xs, (sortV k xs).Pairwise (fun a b => k a ≤ k b)
  | [] => .nil
  | x :: xs => insV_sorted k x _ (sortV_sorted k xs)
theorem perm_sorted {k : V → Int} : ∀ {xs ys : List V}, (∀ x ∈ xs, ∀ y ∈ xs, k x = k y → x = y) → xs.Pairwise (fun a b => k a ≤ k b) → ys.Pairwise (fun a b => k a ≤ k b) → ys.Perm xs → ys = xs
  | [], ys, _, _, _, p => p.eq_nil
  | x :: xs, [], _, _, _, p => by have := p.length_eq; simp at this
  | x :: xs, y :: ys, hk, h1, h2, p => by
    obtain ⟨a1, a2⟩ := List.pairwise_cons.mp h1
    obtain ⟨b1, b2⟩ := List.pairwise_cons.mp h2
    have hy : y ∈ x :: xs := p.mem_iff.mp List.mem_cons_self
    have hx : x ∈ y :: ys := p.mem_iff.mpr List.mem_cons_self
    have e : y = x := by
      refine hk _ hy _ List.mem_cons_self ?_
      have c1 : k x ≤ k y := by
        rcases List.mem_cons.mp hy with e | h
        · rw [e]; exact Int.le_refl _
        · exact a1 _ h
      have c2 : k y ≤ k x := by
        rcases List.mem_cons.mp hx with e | h
        · rw [e]; exact Int.le_refl _
        · exact b1 _ h
      omega
    subst e
    rw [perm_sorted (fun a ha b hb => hk a (List.mem_cons_of_mem _ ha) b (List.mem_cons_of_mem _ hb)) a2 b2 p.cons_inv]
/-- keys, data and values side by side -/
def KR (K : PySem.W.Frag) (G : Hp) (k : V → Int) : List (Int × D) → List V → Prop
  | [], vs => vs = []
  | q :: L, vs => ∃ v r, vs = v :: r ∧ k v = q.1 ∧ Rp K G q.2 v ∧ KR K G k L r
theorem KR.rps {K : PySem.W.Frag} {G : Hp} {k : V → Int} : ∀ {L : List (Int × D)} {vs : List V}, KR K G k L vs → Rps K G (L.map (·.2)) vs
  | [], vs, h => by simp only [KR] at h; subst h; simp only [List.map_nil, Rps]
  | q :: L, vs, h => by
    simp only [KR] at h
    obtain ⟨v, r, rfl, _, h2, h3⟩ := h
    simp only [List.map_cons, Rps]
    exact ⟨v, r, rfl, h2, h3.rps⟩
theorem KR.ins {K : PySem.W.Frag} {G : Hp} {k : V → Int} {q : Int × D} {v : V} (hk : k v = q.1) (hr : Rp K G q.2 v) : ∀ {L : List (Int × D)} {vs : List V}, KR K G k L vs → KR K G k (insK q L) (insV k v vs)
  | [], vs, h => by
    simp only [KR] at h; subst h
    simp only [insK, insV, KR]
    exact ⟨v, [], rfl, hk, hr, rfl⟩
  | p :: L, vs, h => by
    simp only [KR] at h
    obtain ⟨u, r, rfl, h1, h2, h3⟩ := h
    simp only [insK, insV, hk, h1]
    split
    · simp only [KR]; exact ⟨v, _, rfl, hk, hr, u, r, rfl, h1, h2, h3⟩
    · simp only [KR]; exact ⟨u, _, rfl, h1, h2, KR.ins hk hr h3⟩
theorem KR.sort {K : PySem.W.Frag} {G : Hp} {k : V → Int} : ∀ {L : List (Int × D)} {vs : List V}, KR K G k L vs → KR K G k (sortK L) (sortV k vs)
  | [], vs, h => by simp only [KR] at h; subst h; simp only [sortK, sortV, KR]
  | p :: L, vs, h => by
    simp only [KR] at h
    obtain ⟨u, r, rfl, h1, h2, h3⟩ := h
    simp only [sortK, sortV]
    exact KR.ins h1 h2 h3.sort
/-- the first of a tuple that lasts -/
def kG (G : Hp) : V → Int
  | .ref a => (match G a with | some (.tup (.int i :: _)) => i | _ => 0)
  | _ => 0
theorem keyed_kr {K : PySem.W.Frag} {G : Hp} : ∀ {ds : List D} {ks : List (Int × D)} {vs : List V}, keyed ds = some ks → Rps K G ds vs → KR K G (kG G) ks vs ∧ ∀ x ∈ vs, ∃ t r, x = V.ref t ∧ G t = some (.tup (.int (kG G x) :: r))
  | [], ks, vs, h, r => by simp only [keyed] at h; cases h; simp only [Rps] at r; subst r; exact ⟨by simp only [KR], by simp⟩
  | d :: ds, ks, vs, h, r => by
    simp only [Rps] at r
    obtain ⟨v, vs, rfl, r1, r2⟩ := r
    unfold keyed at h
    split at h
    · cases ‹_ = []›
    · rename_i i rr ds' e
      cases e
      split at h
      · rename_i q hq
        cases h
        obtain ⟨a1, a2⟩ := keyed_kr hq r2
        have r1' := r1
        simp only [Rp, Rps] at r1
        obtain ⟨a, xs, rfl, h2, v', us, rfl, rfl, h3⟩ := r1
        have e : kG G (.ref a) = i := by simp only [kG, h2]
        refine ⟨?_, fun x hx => ?_⟩
        · simp only [KR]; exact ⟨_, vs, rfl, e, r1', a1⟩
        · rcases List.mem_cons.mp hx with rfl | hx
          · exact ⟨a, us, rfl, by rw [e]; exact h2⟩
          · exact a2 x hx
      · cases h
    · cases h
theorem kr_inj {K : PySem.W.Frag} {G : Hp} {k : V → Int} : ∀ {L : List (Int × D)} {vs : List V}, apartI (L.map (·.1)) = true → KR K G k L vs → (∀ x ∈ vs, k x ∈ L.map (·.1)) ∧ ∀ x ∈ vs, ∀ y ∈ vs, k x = k y → x = y
  | [], vs, _, h => by simp only [KR] at h; subst h; simp
  | q :: L, vs, hp, h => by
    simp only [KR] at h
    obtain ⟨v, r, rfl, h1, h2, h3⟩ := h
    simp only [List.map_cons, apartI, Bool.and_eq_true] at hp
    obtain ⟨i1, i2⟩ := kr_inj hp.2 h3
    have no : q.1 ∉ L.map (·.1) := by simpa using hp.1
    refine ⟨fun x hx => ?_, fun x hx y hy e => ?_⟩
    · rcases List.mem_cons.mp hx with rfl | hx
      · rw [h1]; simp
      · exact List.mem_cons_of_mem _ (i1 x hx)
    · rcases List.mem_cons.mp hx with ex | hx'
      · rcases List.mem_cons.mp hy with ey | hy'
        · rw [ex, ey]
        · exact absurd (by rw [← h1, ← ex, e]; exact i1 y hy') no
      · rcases List.mem_cons.mp hy with ey | hy'
        · exact absurd (by rw [← h1, ← ey, ← e]; exact i1 x hx') no
        · exact i2 x hx' y hy' e
section
variable {X : Cx} {m : Md} {N : List Str} {sc fs : Scope} {k : Nat} {env : Ev} {e : Expr} {pos : Pos}
theorem p_minL (hX : Cs X m N sc fs k) {p : Pos} {d : D} {n : Int} {ns : List Int} (i : IsL d ((n :: ns).map D.int)) (hg : gloB sc "min" = true) (hm : m.mg "min" = none) (ha : P X env e (.per d)) (he : ∀ en, starEach [e] en = [(false, eval e en)] := by intro _; rfl) : P X env (.Call (.Name "min" p) [e] [] pos) (.per (.int (minL n ns))) :=
  p_callB hX (cr_min hX.calm) hg hm (by decide +kernel) (as_cons ha as_nil he) (fun G H vs Q s r g => by
    obtain ⟨v, rfl, r1⟩ := rps1 r
    obtain ⟨a, xs, rfl, h2, h3⟩ := i.seq r1
    rw [h3.ints] at h2
    refine ⟨a, n :: ns, rfl, sub_sqL s h2, by simp, fun m h4 h5 => ?_⟩
    rw [minL_eq h4 h5]
    exact g.val s (by simp only [Rp])) he
theorem p_maxL (hX : Cs X m N sc fs k) {p : Pos} {d : D} {n : Int} {ns : List Int} (i : IsL d ((n :: ns).map D.int)) (hg : gloB sc "max" = true) (hm : m.mg "max" = none) (ha : P X env e (.per d)) (he : ∀ en, starEach [e] en = [(false, eval e en)] := by intro _; rfl) : P X env (.Call (.Name "max" p) [e] [] pos) (.per (.int (maxL n ns))) :=
  p_callB hX (cr_max hX.calm) hg hm (by decide +kernel) (as_cons ha as_nil he) (fun G H vs Q s r g => by
    obtain ⟨v, rfl, r1⟩ := rps1 r
    obtain ⟨a, xs, rfl, h2, h3⟩ := i.seq r1
    rw [h3.ints] at h2
    refine ⟨a, n :: ns, rfl, sub_sqL s h2, by simp, fun m h4 h5 => ?_⟩
    rw [maxL_eq h4 h5]
    exact g.val s (by simp only [Rp])) he
theorem insI_perm (x : Int) : ∀ ys, (insI x ys).Perm (x :: ys)
  | [] => .refl _
  | y :: ys => by
    simp only [insI]
    split
    · exact .refl _
    · exact ((insI_perm x ys).cons y).trans (.swap _ _ _)
theorem sortI_perm : ∀ xs, (sortI xs).Perm xs
  | [] => .refl _
  | x :: xs => (insI_perm x _).trans ((sortI_perm xs).cons x)
theorem insI_sorted (x : Int) : ∀ ys, ys.Pairwise (· ≤ ·) → (insI x ys).Pairwise (· ≤ ·)
  | [], _ => List.pairwise_singleton _ _
  | y :: ys, h => by
    simp only [insI]
    obtain ⟨h1, h2⟩ := List.pairwise_cons.mp h
    split
    · rename_i q
      refine List.pairwise_cons.mpr ⟨fun z hz => ?_, h⟩
      rcases List.mem_cons.mp hz with rfl | hz
      · exact q
      · have := h1 z hz; omega
    · rename_i q
      refine List.pairwise_cons.mpr ⟨fun z hz => ?_, insI_sorted x ys h2⟩
      rcases List.mem_cons.mp ((insI_perm x ys).mem_iff.mp hz) with rfl | hz
      · omega
      · exact h1 z hz
theorem sortI_sorted : ∀ xs, (sortI xs).Pairwise (· ≤ ·)
  | [] => .nil
  | x :: xs => insI_sorted x _ (sortI_sorted xs)
theorem permI_sorted : ∀ {xs ys : List Int}, xs.Pairwise (· ≤ ·) → ys.Pairwise (· ≤ ·) → ys.Perm xs → ys = xs
  | [], ys, _, _, p => p.eq_nil
  | x :: xs, [], _, _, p => by have := p.length_eq; simp at this
  | x :: xs, y :: ys, h1, h2, p => by
    obtain ⟨a1, a2⟩ := List.pairwise_cons.mp h1
    obtain ⟨b1, b2⟩ := List.pairwise_cons.mp h2
    have hy : y ∈ x :: xs := p.mem_iff.mp List.mem_cons_self
    have hx : x ∈ y :: ys := p.mem_iff.mpr List.mem_cons_self
    have c1 : x ≤ y := by
      rcases List.mem_cons.mp hy with e | h
      · rw [e]; exact Int.le_refl _
      · exact a1 _ h
    have c2 : y ≤ x := by
      rcases List.mem_cons.mp hx with e | h
      · rw [e]; exact Int.le_refl _
      · exact b1 _ h
    have e : y = x := by omega
    subst e
    rw [permI_sorted a2 b2 p.cons_inv]
theorem rps_ints {K : PySem.W.Frag} {G : Hp} : ∀ ns : List Int, Rps K G (ns.map D.int) (ns.map V.int)
  | [] => by simp only [List.map_nil, Rps]
  | n :: ns => by simp only [List.map_cons, Rps]; exact ⟨_, _, rfl, by simp only [Rp], rps_ints ns⟩
theorem p_sortI (hX : Cs X m N sc fs k) {p : Pos} {d : D} {ns : List Int} (i : IsL d (ns.map D.int)) (hg : gloB sc "sorted" = true) (hm : m.mg "sorted" = none) (ha : P X env e (.per d)) (he : ∀ en, starEach [e] en = [(false, eval e en)] := by intro _; rfl) : P X env (.Call (.Name "sorted" p) [e] [] pos) (.lst (((sortI ns).map D.int).map .per)) :=
  p_callB hX cr_sortedI hg hm (by decide +kernel) (as_cons ha as_nil he) (fun G H vs Q s r g => by
    obtain ⟨v, rfl, r1⟩ := rps1 r
    obtain ⟨a, xs, rfl, h2, h3⟩ := i.seq r1
    rw [h3.ints] at h2
    refine ⟨a, ns, rfl, sub_sqL s h2, fun ns' q h4 h5 hq => ?_⟩
    have e := permI_sorted (sortI_sorted ns) h5 (h4.trans (sortI_perm ns).symm)
    subst e
    exact g.lst s (rps_ints _) hq) he
theorem p_sortK (hX : Cs X m N sc fs k) {p : Pos} {d : D} {ds : List D} {ks : List (Int × D)} (i : IsL d ds) (hk : keyed ds = some ks) (hp : apartI (ks.map (·.1)) = true) (hg : gloB sc "sorted" = true) (hm : m.mg "sorted" = none) (ha : P X env e (.per d)) (he : ∀ en, starEach [e] en = [(false, eval e en)] := by intro _; rfl) :
    P X env (.Call (.Name "sorted" p) [e] [] pos) (.lst (((sortK ks).map (·.2)).map .per)) :=
  p_callB hX cr_sortF hg hm (by decide +kernel) (as_cons ha as_nil he) (fun G H vs Q s r g => by
    obtain ⟨v, rfl, r1⟩ := rps1 r
    obtain ⟨a, xs, rfl, h2, h3⟩ := i.seq r1
    obtain ⟨q1, q2⟩ := keyed_kr hk h3
    obtain ⟨_, q3⟩ := kr_inj hp q1
    refine ⟨a, xs, kG G, rfl, sub_sqL s h2, fun x hx => ?_, q3, fun ys q h4 h5 hq => ?_⟩
    · obtain ⟨t, r, e1, e2⟩ := q2 x hx
      exact ⟨t, r, e1, s _ _ e2⟩
    · have pm := sortV_perm (kG G) xs
      have e := perm_sorted (k := kG G) (xs := sortV (kG G) xs) (ys := ys) (fun x hx y hy => q3 x (pm.mem_iff.mp hx) y (pm.mem_iff.mp hy)) (sortV_sorted _ xs) h5 (h4.trans pm.symm)
      subst e
      exact g.lst s q1.sort.rps hq) he
end
end Pu

set_option Elab.async false
set_option linter.all false
set_option autoImplicit false
set_option maxRecDepth 100000
set_option maxHeartbeats 1000001
namespace Pu
open PySem L2
section
variable {X : Cx} {m : Md} {N : List Str} {sc fs : Scope} {k : Nat} {env : Ev} {a b c e : Expr} {es : List Expr} {pos p : Pos}
theorem p_dgetD (hX : Cs X m N sc fs k) {κ : Type} [DecidableEq κ] {da db r : D} {ks : List κ} {ds : List D} {x : κ} (hl : ks.length = ds.length ∨ True) (hr : look ks ds x = some r) (ha : P X env a (.per da)) (hb : P X env b (.per db)) (hs : nSli b = true)
    (hd : ∀ G H v w, Sub G H → Rp X.K G da v → Rp X.K G db w → ∃ p vs, v = .ref p ∧ ks.length = ds.length ∧ Rps X.K G ds vs ∧ ∀ o, o = valV (ks.zip vs) x → DGet H p w o) : P X env (.Subscript a b pos) (.per r) := .mk fun H0 σ G H s E Q g => by
  have hu : X.A.units + 1 < cLine := by have := hX.room.units; omega
  refine WE.of (pe_dget hu pWE pWE (plain_of hs)) (ha.go s E fun v G1 H1 x1 r1 => hb.go x1.s (E.later x1) fun w G2 H2 x2 r2 => ?_)
  obtain ⟨p, vs, rfl, hlen, h3, h4⟩ := hd G2 H2 v w x2.s (r1.mono x2.g) r2
  have q := look_val (x := x) hlen h3
  rw [hr] at q
  obtain ⟨u, q1, q2⟩ := q
  exact ⟨p, u, rfl, h4 _ q1.symm, (g.trans (x1.trans x2)).val x2.s q2⟩
theorem p_idxD (hX : Cs X m N sc fs k) {da db : D} {o : Ow} (ha : P X env a (.per da)) (hb : P X env b (.per db)) (h : dIdx da db = .ok o) (hs : nSli b = true) : P X env (.Subscript a b pos) o := by
  unfold dIdx at h
  split at h
  · split at h
    · rename_i hr; cases h; exact p_ixL (.lst _) hr ha hb (plain_of hs)
    · cases h
  · split at h
    · rename_i hr; cases h; exact p_ixL (.fz _) hr ha hb (plain_of hs)
    · cases h
  · split at h
    · rename_i hr; cases h; exact p_ixT (.tup _) hr ha hb (plain_of hs)
    · cases h
  · split at h
    · rename_i hr; cases h; exact p_ixT (.ft _) hr ha hb (plain_of hs)
    · cases h
  · split at h
    · split at h
      · rename_i hz _ _ hr; cases h; exact p_ixS hz hr ha hb (plain_of hs)
      · cases h
    · cases h
  · split at h
    · split at h
      · rename_i hk _ _ hr
        cases h
        refine p_dgetD hX (.inr trivial) hr ha hb hs fun G H v w s h1 h2 => ?_
        simp only [Rp] at h1 h2
        obtain ⟨d, vs, rfl, h5, h6, h7⟩ := h1
        obtain ⟨p, xs, rfl, h3, h4⟩ := h2
        have e := keyT_of hk h4
        subst e
        exact ⟨d, vs, rfl, h6, h7, fun o ho => .inr ⟨_, _, p, rd_sub s (.inr h5), rfl, s _ _ h3, ho⟩⟩
      · cases h
    · cases h
  · split at h
    · split at h
      · rename_i hk _ _ hr
        cases h
        refine p_dgetD hX (.inr trivial) hr ha hb hs fun G H v w s h1 h2 => ?_
        simp only [Rp] at h1 h2
        obtain ⟨d, vs, rfl, h5, h6, h7⟩ := h1
        obtain ⟨p, xs, rfl, h3, h4⟩ := h2
        have e := keyT_of hk h4
        subst e
        exact ⟨d, vs, rfl, h6, h7, fun o ho => .inr ⟨_, _, p, rd_sub s h5, rfl, s _ _ h3, ho⟩⟩
      · cases h
    · cases h
  · split at h
    · rename_i hr
      cases h
      refine p_dgetD hX (.inr trivial) hr ha hb hs fun G H v w s h1 h2 => ?_
      simp only [Rp] at h1 h2
      obtain ⟨d, vs, rfl, h5, h6, h7⟩ := h1
      subst h2
      exact ⟨d, vs, rfl, h6, h7, fun o ho => .inl ⟨_, _, rd_sub s h5, rfl, ho⟩⟩
    · cases h
  · split at h
    · rename_i hr
      cases h
      refine p_dgetD hX (.inr trivial) hr ha hb hs fun G H v w s h1 h2 => ?_
      simp only [Rp] at h1 h2
      obtain ⟨d, vs, rfl, h5, h6, h7⟩ := h1
      subst h2
      exact ⟨d, vs, rfl, h6, h7, fun o ho => .inl ⟨_, _, rd_sub s h5, rfl, ho⟩⟩
    · cases h
  · cases h
/-! ### slices -/
theorem p_slT {ds : List D} {lo hi : Option Expr} {i j : Option Int} {p2 : Pos} (ha : P X env a (.per (.tup ds))) (h1 : Pt X env lo i) (h2 : Pt X env hi j) : P X env (.Subscript a (.Slice lo hi none p2) pos) (.per (.tup (cutD ds i j))) := .mk fun H0 σ G H s E Q g =>
  WE.of (pe_slice sl_tupA pWE pWO pWO) (ha.go s E fun x G1 H1 x1 r1 => h1.go x1.s (E.later x1) fun G2 H2 x2 => h2.go x2.s (E.later (x1.trans x2)) fun G3 H3 x3 => by
    have r3 := r1.mono (x2.trans x3).g
    have r3' := r3
    simp only [Rp] at r3
    obtain ⟨q, xs, rfl, h4, h5⟩ := r3
    have g' := g.trans (x1.trans (x2.trans x3))
    refine ⟨q, xs, rfl, SqT.of (x3.s _ _ h4), fun hw => ?_, fun _ p hp => g'.tup x3.s (cut_rps h5) hp⟩
    have e : cutD ds i j = ds := by
      unfold cutD
      rw [h5.length] at hw
      rw [hw.1, hw.2]; simp
    rw [e] at g'
    exact g'.val x3.s r3')
theorem p_sliD {da : D} {o : Ow} {lo hi : Option Expr} {i j : Option Int} {p2 : Pos} (ha : P X env a (.per da)) (h1 : Pt X env lo i) (h2 : Pt X env hi j) (h : dSli da i j = .ok o) : P X env (.Subscript a (.Slice lo hi none p2) pos) o := by
  unfold dSli at h
  split at h
  · cases h; exact p_slL (.lst _) ha h1 h2
  · cases h; exact p_slL (.fz _) ha h1 h2
  · obtain ⟨hh, rfl⟩ := okN_of h; exact p_slS (of_decide_eq_true hh) ha h1 h2
  · cases h; exact p_slT ha h1 h2
  · cases h
theorem p_revD {da : D} {o : Ow} {kk : Nat} {p1 p2 p3 : Pos} (ha : P X env a (.per da)) (h : dRev da = .ok o) : P X env (.Subscript a (.Slice none none (some (.UnaryOp .USub (.Constant (.int 1) kk p1) p2)) p3) pos) o := by
  cases da <;> simp only [dRev] at h <;> first | (cases h; done) | skip
  · cases h; exact p_rev (.lst _) ha
  · cases h; exact p_rev (.fz _) ha
/-! ### fields -/
/-- what is known of the classes -/
def ClsOk (m : Md) (T : Tab) : Prop := ∀ k ∈ T.cls, Cls m.K (He.ga m.K k.c) ∧ ∀ f ∈ k.fields, NoAttr m.K (He.ga m.K k.c) f
theorem look_f {K : PySem.W.Frag} {G : Hp} : ∀ {ns : List Str} {ds : List D} {vs : List V} {f : Str} {d : D}, ns.length = ds.length → Rps K G ds vs → look ns ds f = some d → ∃ v, (ns.zip vs).lookup f = some v ∧ Rp K G d v
  | [], [], vs, f, d, _, r, h => by simp [look] at h
  | [], _ :: _, vs, f, d, h, r, _ => by cases h
  | _ :: _, [], vs, f, d, h, r, _ => by cases h
  | n :: ns, x :: ds, vs, f, d, h, r, hl => by
    simp only [Rps] at r
    obtain ⟨v, vs, rfl, r1, r2⟩ := r
    simp only [look] at hl
    split at hl
    · rename_i q
      subst q
      cases hl
      exact ⟨v, by simp [List.lookup], r1⟩
    · rename_i q
      obtain ⟨u, h1, h2⟩ := look_f (Nat.succ.inj h) r2 hl
      refine ⟨u, ?_, h2⟩
      have qb : (f == n) = false := by
        rw [beq_eq_false_iff_ne]
        exact fun z => q z.symm
      simp only [List.zip_cons_cons, List.lookup, qb]
      exact h1
theorem p_attD (hX : Cs X m N sc fs k) {c f : Str} {ns : List Str} {ds : List D} {d : D} (hC : Cls m.K (He.ga m.K c)) (hf : NoAttr m.K (He.ga m.K c) f) (ha : P X env a (.per (.obj c ns ds))) (h : look ns ds f = some d) (hs : nSup a = true) : P X env (.Attribute a f pos) (.per d) := .mk fun H0 σ G H s E Q g => by
  refine WE.of (pe_fld pWE (sup_of hs f _)) (ha.go s E fun v G1 H1 x1 r1 => ?_)
  simp only [Rp] at r1
  obtain ⟨p, dx, vs, rfl, h2, h3, h4⟩ := r1
  obtain ⟨u, h5, h6⟩ := look_f h3 h4 h
  exact ⟨p, _, dx, _, u, rfl, x1.s _ _ h2, by rw [hX.hK]; exact hC, by rw [hX.hK]; exact hf, h5, (g.trans x1).val x1.s h6⟩
/-! ### built-ins -/
theorem star1 {x : Expr} (h : nStar x = true) (en : Env) : starEach [x] en = [(false, eval x en)] := star_of h en
theorem star2 {x y : Expr} (h : nStar x = true) (h2 : nStar y = true) (en : Env) : starEach [x, y] en = [(false, eval x en), (false, eval y en)] := by
  rw [star_of h, star1 h2]
theorem p_blt1 (hX : Cs X m N sc fs k) {bl : Blt} {d : D} {o : Ow} (hg : gloB sc bl.nm = true) (hm : m.mg bl.nm = none) (hs : nStar a = true) (ha : P X env a (.per d)) (h : dBlt1 bl d = .ok o) : P X env (.Call (.Name bl.nm p) [a] [] pos) o := by
  cases bl <;> simp only [dBlt1] at h <;> try (cases h; done)
  · split at h
    · rename_i hd; cases h; exact p_len hX (asS_of hd) hg hm ha (star1 hs)
    · split at h
      · obtain ⟨hh, rfl⟩ := okN_of h; exact p_lenS hX (of_decide_eq_true hh) hg hm ha (star1 hs)
      · cases h
  · split at h
    · split at h
      · rename_i hd _ _ hi
        cases h
        have e := dints_of hi
        subst e
        exact p_sum hX (asL_of hd) hg hm ha (star1 hs)
      · cases h
    · cases h
  · split at h
    · split at h
      · rename_i hd _ _ hi
        cases h
        have e := dbools_of hi
        subst e
        exact p_all hX (asL_of hd) hg hm ha (star1 hs)
      · cases h
    · cases h
  · split at h
    · split at h
      · rename_i hd _ _ hi
        cases h
        have e := dbools_of hi
        subst e
        exact p_any hX (asL_of hd) hg hm ha (star1 hs)
      · cases h
    · cases h
  · split at h
    · split at h
      · rename_i hd _ _ _ hi
        cases h
        have e := dints_of hi
        subst e
        exact p_minL hX (asL_of hd) hg hm ha (star1 hs)
      · cases h
    · cases h
  · split at h
    · split at h
      · rename_i hd _ _ _ hi
        cases h
        have e := dints_of hi
        subst e
        exact p_maxL hX (asL_of hd) hg hm ha (star1 hs)
      · cases h
    · cases h
  · split at h
    · rename_i q; cases h; exact p_intB hX hg hm ha (star1 hs)
    · cases h
  · split at h
    · rename_i hd; cases h; exact p_list hX (asS_of hd) hg hm ha (star1 hs)
    · cases h
  · split at h
    · rename_i hd; cases h; exact p_tupleL hX (asL_of hd) hg hm ha (star1 hs)
    · cases h
  · split at h
    · rename_i hd
      split at h
      · rename_i hi
        cases h
        have e := dints_of hi
        subst e
        have q := p_sortI hX (asL_of hd) hg hm ha (star1 hs) (p := p) (pos := pos)
        rw [List.map_map] at q
        exact q
      · split at h
        · rename_i hk
          split at h
          · rename_i hp
            cases h
            have q := p_sortK hX (asL_of hd) hk hp hg hm ha (star1 hs) (p := p) (pos := pos)
            rw [List.map_map] at q
            exact q
          · cases h
        · cases h
    · cases h
theorem p_blt2 (hX : Cs X m N sc fs k) {bl : Blt} {d d' : D} {o : Ow} (hg : gloB sc bl.nm = true) (hm : m.mg bl.nm = none) (hs : nStar a = true) (hs' : nStar b = true) (ha : P X env a (.per d)) (hb : P X env b (.per d')) (h : dBlt2 bl d d' = .ok o) : P X env (.Call (.Name bl.nm p) [a, b] [] pos) o := by
  cases bl <;> simp only [dBlt2] at h <;> try (cases h; done)
  · split at h
    · cases h; exact p_min2 hX hg hm ha hb (star2 hs hs') (star1 hs')
    · cases h
  · split at h
    · cases h; exact p_max2 hX hg hm ha hb (star2 hs hs') (star1 hs')
    · cases h
theorem p_isiD (hX : Cs X m N sc fs k) {t : Str} {d : D} {q : Bool} {p' : Pos} (hg : gloB sc "isinstance" = true) (hm : m.mg "isinstance" = none) (hg2 : gloB sc t = true) (hm2 : m.mg t = none) (hs : nStar a = true) (ha : P X env a (.per d)) (h : kindB t d = .ok q) : P X env (.Call (.Name "isinstance" p) [a, .Name t p'] [] pos) (.per (.bl q)) := by
  unfold kindB at h
  split at h
  · rename_i hd
    split at h
    · rename_i e; subst e; cases h; exact p_isInt hX hd hg hm hg2 hm2 ha (star2 hs rfl)
    · split at h
      · rename_i e; subst e; cases h; exact p_isBool hX hd hg hm hg2 hm2 ha (star2 hs rfl)
      · split at h
        · rename_i e; subst e; cases h; exact p_isStr hX hd hg hm hg2 hm2 ha (star2 hs rfl)
        · split at h
          · rename_i e; subst e; cases h; exact p_isList hX hd hg hm hg2 hm2 ha (star2 hs rfl)
          · split at h
            · rename_i e; subst e; cases h; exact p_isTuple hX hd hg hm hg2 hm2 ha (star2 hs rfl)
            · cases h
  · cases h
theorem op_i {op : CmpOp} {i j : Int} {q : Bool} (h : iCmp op i j = some q) : ∃ f : Int → Int → Bool, OpR X (compareOp op) (rI0 fun i j => .bl (f i j)) ∧ f i j = q ∧ ∀ i j, iCmp op i j = some (f i j) := by
  cases op <;> simp only [iCmp] at h <;> try (cases h; done)
  · cases h; exact ⟨fun i j => decide (i < j), op_lt, rfl, fun _ _ => rfl⟩
  · cases h; exact ⟨fun i j => decide (i ≤ j), op_le, rfl, fun _ _ => rfl⟩
  · cases h; exact ⟨fun i j => decide (j < i), op_gt, rfl, fun _ _ => rfl⟩
  · cases h; exact ⟨fun i j => decide (j ≤ i), op_ge, rfl, fun _ _ => rfl⟩
/-- a chain of two comparisons: the third part is asked only if the first holds -/
theorem tc_chain {op op' : CmpOp} {f f' : Int → Int → Bool} {i j : Int} {q : Bool} (ho : OpR X (compareOp op) (rI0 fun i j => .bl (f i j))) (ho' : OpR X (compareOp op') (rI0 fun i j => .bl (f' i j))) (ha : P X env a (.per (.int i))) (hb : P X env b (.per (.int j)))
    (h1 : f i j = false → q = false) (h2 : f i j = true → ∃ l, P X env c (.per (.int l)) ∧ f' j l = q) (hm : lastMarks [op, op'] [b, c] = false) : P X env (.Compare a [op, op'] [b, c] pos) (.per (.bl q)) ∧ T X env (.Compare a [op, op'] [b, c] pos) q := by
  constructor
  · exact .mk fun H0 σ G H s E Q g => WE.of (pe_chain ho ho' pWE pWE pWE hm) (ha.go s E fun x G1 H1 x1 r1 => hb.go x1.s (E.later x1) fun y G2 H2 x2 r2 => by
      simp only [Rp] at r1 r2
      refine ⟨i, j, r1, r2, f i j, rfl, ?_⟩
      cases z : f i j with
      | false =>
        have e := h1 z
        subst e
        exact iteF ((g.trans (x1.trans x2)).val x2.s (by simp [Rp]))
      | true =>
        obtain ⟨l, hc, e⟩ := h2 z
        refine iteT (hc.go x2.s ((E.later x1).later x2) fun w G3 H3 x3 r3 => ?_)
        simp only [Rp] at r3
        exact ⟨j, l, r2, r3, (g.trans (x1.trans (x2.trans x3))).val x3.s (by simp only [Rp, e])⟩)
  · exact .mk fun H0 σ G H s E Q g => WT.of (pt_chain ho ho' pWE pWE pWE hm) (ha.go s E fun x G1 H1 x1 r1 => hb.go x1.s (E.later x1) fun y G2 H2 x2 r2 => by
      simp only [Rp] at r1 r2
      refine ⟨i, j, r1, r2, f i j, rfl, ?_⟩
      cases z : f i j with
      | false =>
        have e := h1 z
        subst e
        exact iteF ⟨false, rfl, g G2 H2 (x1.trans x2)⟩
      | true =>
        obtain ⟨l, hc, e⟩ := h2 z
        refine iteT (hc.go x2.s ((E.later x1).later x2) fun w G3 H3 x3 r3 => ?_)
        simp only [Rp] at r3
        exact ⟨j, l, r2, r3, q, by show V.bl (f' j l) = _; rw [e], g G3 H3 (x1.trans (x2.trans x3))⟩)
end
end Pu

set_option Elab.async false
set_option linter.all false
set_option autoImplicit false
set_option maxRecDepth 100000
set_option maxHeartbeats 1000001
namespace Pu
open PySem L2
def rR : R Ow → Res → Prop
  | .ok o, .ok o' => o' = o
  | .ex c, .ex c' => c' = c
  | _, _ => False
def rM : RM → Rm → Prop
  | .ok s o, .ok s' o' => s' = s ∧ o' = o
  | .ex c s, .ex c' s' => c' = c ∧ s' = s
  | _, _ => False
/-- what is known of an own exception class -/
structure XcK (m : Md) (c : Str) : Prop where
  mg : m.mg c = some (.ref (He.ga m.K c))
  kp : PySem.W.keepIn m.K (.ref (He.ga m.K c)) = true
  s1 : PySem.W.subIn m.K (.ref (He.ga m.K c)) (.type "BaseException") = some true
  ty : PySem.W.typeIn m.K (.ref (He.ga m.K c)) = some (.type "type")
def tyVal (K : PySem.W.Frag) : TyD → Value
  | .b n => .type n
  | .c C => .ref (He.ga K C)
/-- an own class that isinstance may be asked about: its instances are known to be of it -/
def IsOwn (K : PySem.W.Frag) (C : Addr) : Prop := ∀ (H : Hp) (a dx : Addr) (fs : List (Str × V)), H a = some (.ins C dx fs) → TyOf K H (.ref a) (.ref C)
def veBm : List Value := [.type "ValueError", .type "Exception", .type "BaseException", .type "object"]
def XiK (m : Md) (q : XI) : Prop := match q.ini with
  | none => PySem.W.excIn m.K (He.ga m.K q.c) veBm "ValueError.__new__" = true
  | some fi => OexC m.K (He.ga m.K q.c) ∧ q.fl ≠ [] ∧ q.fl.length ≤ 900 ∧ q.fl.Nodup ∧ ∃ (fI : Addr) (fd : FuncData), PySem.W.findIn m.K (.ref (He.ga m.K q.c)) "__init__" = some (some (.ref fI)) ∧ PySem.W.typeIn m.K (.ref fI) = some (.type "function") ∧ Binds m.K fd fi.ps [] ∧ FnOk m.P m.w m.K m.mg m.base (L2.CX m.P m.w) 1 fI fd fi.ps (spX m.K q.fl)
structure ExK (m : Md) (T : Tab) (q : XI) : Prop where
  x : XcK m q.c
  e : ExcC m.K (He.ga m.K q.c)
  f : XfC m.K (He.ga m.K q.c)
  c : PySem.W.exmOne m.K (.ref (He.ga m.K q.c)) (.ref (He.ga m.K T.par)) = some true
  n : ∀ f ∈ q.fl, PySem.W.findIn m.K (.ref (He.ga m.K q.c)) f = some none
  i : XiK m q
/-- what is known of the program's names -/
structure TOk (m : Md) (T : Tab) : Prop where
  cons : ∀ (i : Nat) (q : Str × D), T.cons[i]? = some q → ∃ v u, m.mg q.1 = some u ∧ RelV v u ∧ ∀ G, Rp m.K G q.2 v
  blts : ∀ x ∈ T.blts, m.mg x = none
  cls : ∀ k ∈ T.cls, Cls m.K (He.ga m.K k.c) ∧ ∀ f ∈ k.fields, NoAttr m.K (He.ga m.K k.c) f
  fns : ∀ (i : Nat) (fi : FI), T.fns[i]? = some fi → FnX m 0 fi.y fi.ps.length fun _ _ => False
  par : T.excs ≠ [] → m.mg T.par = some (.ref (He.ga m.K T.par))
  own : ∀ c ∈ T.own, m.mg c = some (.ref (He.ga m.K c))
  ins : ∀ c ∈ T.ins, IsOwn m.K (He.ga m.K c)
  isa : ∀ q ∈ T.isa, PySem.W.kitOne m.K (tyVal m.K q.1) (tyVal m.K q.2.1) = some q.2.2
  excs : ∀ q ∈ T.excs, ExK m T q
/-- a method: where it stands, what it keeps -/
def MthX (m : Md) (k : Nat) (c x : Str) (R : List D → Res → Prop) : Prop := ∃ (f : Addr) (fd : FuncData) (ps : List Str), Cls m.K (He.ga m.K c) ∧ Meth m.K (He.ga m.K c) x f ∧ Binds m.K fd ps [] ∧ FnOk m.P m.w m.K m.mg m.base (L2.CX m.P m.w) k f fd ps (spP m.K R)
def MthM (m : Md) (k : Nat) (c x : Str) (R : Ow → List D → Rm → Prop) : Prop := ∃ (f : Addr) (fd : FuncData) (ps : List Str), Cls m.K (He.ga m.K c) ∧ Meth m.K (He.ga m.K c) x f ∧ Binds m.K fd ps [] ∧ FnOk m.P m.w m.K m.mg m.base (L2.CX m.P m.w) k f fd ps (spM m.K R)
def MkrM (m : Md) (k : Nat) (c : Str) (R : Ow → List D → Rm → Prop) : Prop := ∃ (f : Addr) (fd : FuncData) (ps : List Str), Mk m.K (He.ga m.K c) f ∧ m.mg c = some (.ref (He.ga m.K c)) ∧ Binds m.K fd ps [] ∧ FnOk m.P m.w m.K m.mg m.base (L2.CX m.P m.w) k f fd ps (spM m.K R)
/-- the evaluator tells the truth, for bodies with room n -/
structure SE (m : Md) (T : Tab) (E : Evs) (n : Nat) : Prop where
  kk : E.k = n
  o : ∀ {X : Cx} {N : List Str} {sc fs : Scope} {k : Nat} {env : Ev} {e : Expr} {c : CE}, Cs X m N sc fs n → okE T N k sc fs e c = true → JE X env e (E.o env c)
  t : ∀ {X : Cx} {N : List Str} {sc fs : Scope} {k : Nat} {env : Ev} {e : Expr} {c : CE}, Cs X m N sc fs n → okE T N k sc fs e c = true → JT X env e (E.t env c)
  f : ∀ (i : Nat) (fi : FI), T.fns[i]? = some fi → ∀ ds r, rR (E.f i ds) r → FnX m n fi.y fi.ps.length fun ds r => rR (E.f i ds) r
  mt : ∀ (c x : Str) (d : D) (ds : List D) (r : Res), rR (E.m c x d ds) r → (∃ ns xs, d = .obj c ns xs ∧ x ∉ ns) ∧ MthX m n c x fun ds r => ∃ d ds', ds = d :: ds' ∧ rR (E.m c x d ds') r
  io : ∀ (c x : Str) (s : Ow) (ds : List D) (r : Rm), x ≠ "__init__" → rM (E.io c x s ds) r → MthM m n c x fun s ds r => rM (E.io c x s ds) r
  mkr : ∀ (c : Str) (s : Ow) (ds : List D) (r : Rm), rM (E.io c "__init__" s ds) r → MkrM m n c fun s ds r => rM (E.io c "__init__" s ds) r
section
variable {m : Md} {T : Tab} {E : Evs} {n : Nat} {X : Cx} {N : List Str} {sc fs : Scope} {k : Nat} {env : Ev} {a b c e : Expr} {es : List Expr} {pos p : Pos}
theorem SE.dv (h : SE m T E n) {cc : CE} {d : D} (hX : Cs X m N sc fs n) (hk : okE T N k sc fs e cc = true) (hd : E.dv env cc = .ok d) : P X env e (.per d) := by
  unfold Evs.dv at hd
  split at hd
  · rename_i o ho
    cases hd
    have q := h.o (env := env) hX hk
    rw [ho] at q
    exact P.last q
  · cases hd
theorem SE.ov (h : SE m T E n) {cc : CE} {o : Ow} (hX : Cs X m N sc fs n) (hk : okE T N k sc fs e cc = true) (hd : E.o env cc = .ok o) : P X env e o := by
  have q := h.o (env := env) hX hk
  rw [hd] at q
  exact q
theorem SE.tv (h : SE m T E n) {cc : CE} {o : Bool} (hX : Cs X m N sc fs n) (hk : okE T N k sc fs e cc = true) (hd : E.t env cc = .ok o) : Pu.T X env e o := by
  have q := h.t (env := env) hX hk
  rw [hd] at q
  exact q
theorem SE.os (h : SE m T E n) (hX : Cs X m N sc fs n) : ∀ {es : List Expr} {cs : List CE} {os : List Ow}, es.all nStar = true → all2 (okE T N k sc fs) es cs = true → E.os env cs = .ok os → AsO X env es os
  | [], [], os, _, _, ho => by
    simp only [Evs.os] at ho
    cases ho
    exact aso_nil
  | [], _ :: _, os, _, hk, _ => by simp [all2] at hk
  | _ :: _, [], os, _, hk, _ => by simp [all2] at hk
  | e :: es, c :: cs, os, hs, hk, ho => by
    simp only [List.all_cons, Bool.and_eq_true] at hs
    simp only [all2, Bool.and_eq_true] at hk
    simp only [Evs.os] at ho
    split at ho
    · rename_i o h1
      split at ho
      · rename_i r h2
        cases ho
        exact aso_cons (h.ov hX hk.1 h1) (SE.os h hX hs.2 hk.2 h2) (star_of hs.1)
      · cases ho
    · cases ho
theorem ax_head {x : Expr} {c : Xc} (hs : nStar x = true) (h : PX X env x c) : AX X env (x :: es) c := .mk fun H0 σ G H s E W tk w Q =>
  WA.of (pa_cons pWE pWA (star_of hs _)) (h.run H0 σ G H s E W tk w _)
theorem ax_tail {x : Expr} {o : Ow} {c : Xc} (hs : nStar x = true) (h1 : P X env x o) (h : AX X env es c) : AX X env (x :: es) c := .mk fun H0 σ G H s E W tk w Q =>
  WA.of (pa_cons pWE pWA (star_of hs _)) (h1.last.go s E fun v G1 H1 x1 r1 => h.run H0 σ G1 H1 x1.s (E.later x1) W tk (fun cls d G' H' x' r => w cls d G' H' (x1.trans x') r) _)
theorem SE.ds (h : SE m T E n) (hX : Cs X m N sc fs n) : ∀ {es : List Expr} {cs : List CE}, es.all nStar = true → all2 (okE T N k sc fs) es cs = true → JA X env es (E.ds env cs)
  | [], [], _, _ => as_nil
  | [], _ :: _, _, hk => by simp [all2] at hk
  | _ :: _, [], _, hk => by simp [all2] at hk
  | e :: es, c :: cs, hs, hk => by
    simp only [List.all_cons, Bool.and_eq_true] at hs
    simp only [all2, Bool.and_eq_true] at hk
    have h1 := h.o (env := env) hX hk.1
    have h2 := SE.ds h hX hs.2 hk.2
    simp only [Evs.ds]
    cases q1 : E.o env c with
    | stk => exact trivial
    | ex c => rw [q1] at h1; exact ax_head hs.1 h1
    | ok o =>
      rw [q1] at h1
      simp only
      cases q2 : E.ds env cs with
      | stk => exact trivial
      | ex c => rw [q2] at h2; exact ax_tail hs.1 h1 h2
      | ok ds => rw [q2] at h2; exact as_cons (P.last h1) h2 (star_of hs.1)
theorem SE.ts (h : SE m T E n) (hX : Cs X m N sc fs n) {es : List Expr} {cs : List CE} {q : Bool} (hl : es.length ≤ 1) (hk : all2 (okE T N k sc fs) es cs = true) (hq : E.ts env cs = .ok q) : Ts X env es q := by
  match es, cs, hl, hk, hq with
  | [], [], _, _, hq => simp only [Evs.ts] at hq; cases hq; exact ts_nil
  | [e], [c], _, hk, hq =>
    simp only [all2, Bool.and_eq_true] at hk
    simp only [Evs.ts] at hq
    split at hq
    · rename_i h1; cases hq; exact ts_one (h.tv hX hk.1 h1)
    · rename_i h1; cases hq; exact ts_one (h.tv hX hk.1 h1)
    · cases hq
  | [_], [], _, hk, _ => simp [all2] at hk
  | [_], _ :: _ :: _, _, hk, _ => simp [all2] at hk
  | [], _ :: _, _, hk, _ => simp [all2] at hk
end
end Pu

set_option Elab.async false
set_option linter.all false
set_option autoImplicit false
set_option maxRecDepth 100000
set_option maxHeartbeats 1000001
namespace Pu
open PySem L2 PySem.Spec PyProof.Rows
section
variable {X : Cx} {CX : CXT} {k : Nat} {f C : Addr} {fd : FuncData} {ps : List Str} {sp : Sp} {E : L2.St → XK} {x m : Str} {p pos apos : Pos} {e o : Expr} {es : List Expr} {ta : TE} {t : TA}
theorem pe_call0S (F : FnOk X.prog X.w X.K X.mg X.base CX k f fd ps sp) (hr : Room k X.A) (hg : Gl X x) (hm : X.mg x = some (.ref f)) (hk : PySem.W.keepIn X.K (.ref f) = true) (hb : Binds X.K fd ps []) (hx : ∀ σ, PassesAt CX X σ (E σ))
    (hdb : (x == ("__debug__" : Str)) = false := by decide) : PE X (.Call (.Name x p) [] [] pos) (tCallS sp E tNil) where
  run := fun _ _ σ _ _ I h => wpAny_Call_Name_kw (ld_glob I hg hm (PySem.W.callWith_K0 I.kIn hk (run_fnS (us := []) F hr hb (hx σ) I .nil h)) hdb)
def tMethS (C : Addr) (m : Str) (sp : Sp) (E : L2.St → XK) (ta : TE) (t : TA) : TE := fun σ H Q => ta σ H fun x H1 => ∃ a dx fs, x = .ref a ∧ H1 a = some (.ins C dx fs) ∧ fs.lookup m = none ∧ t σ H1 fun vs H2 => sp (.ref a :: vs) H2 Q (E σ)
/-- the text of a method's call -/
theorem ev_meth {o : Expr} {m : Str} {apos pos : Pos} {es : List Expr} (hs : nSup o = true) (hl : es.length < 29) (hp : (apos.endLine == pos.line) = true) (ha : es.all nStar = true) (en : Env) :
    eval (.Call (.Attribute o m apos) es [] pos) en = (do
      let ov ← eval o en
      standAt apos.atName
      let (f, first) ← holding [ov] (getMethod ov m (do return (← importBound o en).getD true))
      callWith pos f first (backTo pos (starEach es en)) (backToKw pos (keywordEach [] en))) := by
  have hf : methodCallForm es.length (backTo pos (starEach es en)) (backToKw pos (keywordEach [] en)) = true := by
    unfold methodCallForm
    rw [star_all ha]
    simp [keywordEach, backToKw]
    omega
  show (do
    let ov ← attributeBase o m en (eval o en)
    standAt apos.atName
    methodCall o m apos pos en ov (es.length + ([] : List Keyword).length) (backTo pos (starEach es en)) (backToKw pos (keywordEach [] en))) = _
  rw [sup_of hs]
  simp only [methodCall, List.length_nil, Nat.add_zero, hf, calleeOf, methodCallPos, hp, Bool.or_true, if_true]
  rfl
theorem pe_methS (he : PE X o ta) (c : Cls X.K C) (hm : Meth X.K C m f) (F : FnOk X.prog X.w X.K X.mg X.base CX k f fd ps sp) (hr : Room k X.A) (hb : Binds X.K fd ps []) (hx : ∀ σ, PassesAt CX X σ (E σ)) (ha : PA X (e :: es) t)
    (hs : nSup o = true) (hl : (e :: es).length < 29) (hp : (apos.endLine == pos.line) = true) (hn : (e :: es).all nStar = true) :
    PE X (.Call (.Attribute o m apos) (e :: es) [] pos) (tMethS C m sp E ta t) where
  run := fun pins s σ H Q I h => by
    obtain ⟨n1, n2⟩ := Bool.and_eq_true_iff.mp ((List.all_cons (f := nStar)).symm.trans hn)
    refine PySem.W.methodCall_KW (thn (he.run pins s σ H _ I h) ?_) (ev_meth hs hl hp hn _)
    rintro _ s1 ⟨_, H1, J, r, a, dx, fs, rfl, at1, no, q⟩
    cases r
    refine getmeth_ok J at1 c hm no (PySem.W.callWith_K (first := [.ref a]) (h₀ := X.base) I.ok.mod.kin hm.kp (thn (ha.run pos pins s1 σ H1 _ J q) ?_) (star_of n1 _) (star_any n2 _))
    rintro us s2 ⟨vs, H2, L, r2, q2⟩
    exact ⟨L.kIn, run_fnS (us := .ref a :: us) (vs := .ref a :: vs) F hr hb (hx σ) L (.cons rfl r2) q2⟩
theorem pe_meth0S (he : PE X o ta) (c : Cls X.K C) (hm : Meth X.K C m f) (F : FnOk X.prog X.w X.K X.mg X.base CX k f fd ps sp) (hr : Room k X.A) (hb : Binds X.K fd ps []) (hx : ∀ σ, PassesAt CX X σ (E σ))
    (hs : nSup o = true) (hp : (apos.endLine == pos.line) = true) :
    PE X (.Call (.Attribute o m apos) [] [] pos) (tMethS C m sp E ta tNil) where
  run := fun pins s σ H Q I h => by
    refine PySem.W.methodCall_KW (thn (he.run pins s σ H _ I h) ?_) (ev_meth hs (by decide) hp rfl _)
    rintro _ s1 ⟨_, H1, J, r, a, dx, fs, rfl, at1, no, q⟩
    cases r
    exact getmeth_ok J at1 c hm no (PySem.W.callWith_K0 (first := [.ref a]) J.kIn hm.kp (run_fnS (us := [.ref a]) (vs := [.ref a]) F hr hb (hx σ) J (.cons rfl .nil) q))
def tMakeS (C : Addr) (sp : Sp) (E : L2.St → XK) (t : TA) : TE := fun σ H Q => t σ H fun vs H1 => ∀ x dx, H1 x = none → H1 dx = none → dx ≠ x → sp (.ref x :: vs) (upd (upd H1 dx (.own x)) x (.ins C dx [])) (fun v H2 => v = .non ∧ Q (.ref x) H2) (E σ)
theorem run_makeS {pins : List (Addr × Obj)} {σ : L2.St} {H : Hp} {s : Shared} {Q : VK} {us : List Value} {vs : List V} (M : Mk X.K C f) (F : FnOk X.prog X.w X.K X.mg X.base CX k f fd ps sp) (hr : Room (k + 1) X.A) (hb : Binds X.K fd ps [])
    (hx : PassesAt CX X σ (E σ)) (I : Inv X pins σ H s) (r : Vals vs us)
    (h : ∀ x dx, H x = none → H dx = none → dx ≠ x → sp (.ref x :: vs) (upd (upd H dx (.own x)) x (.ins C dx [])) (fun v H2 => v = .non ∧ Q (.ref x) H2) (E σ)) :
    wpAny (model X.prog X.w) X.A (call (.ref C) us) (EP X pins σ Q) X.xe s := by
  have new := Inv.made (C := C) I
  have wish := h _ _ (I.hok.fresh (Nat.le_succ _)) (I.hok.fresh (Nat.le_refl _)) (Nat.ne_of_lt (Nat.lt_succ_self _))
  have args : Vals (.ref (s.heap.objs.size + 1) :: vs) (.ref (s.heap.objs.size + 1) :: us) := .cons rfl r
  have bind := hb _ (.ref (s.heap.objs.size + 1) :: us) new.kIn (by rw [List.append_nil, ← args.length, F.len _ _ _ _ wish])
  rw [List.append_nil] at bind
  have init := F.run _ X.stack _ _ ⟨.ref (s.heap.objs.size + 1) :: us, []⟩ _ _ _ (E σ) (hr.make C us []) (new.env0.make C us []) bind args wish
  refine wpAny_call (make_map I.kIn M.makes M.init (beq_iff_eq.mp M.fn) (codeAny_mono init ?_))
  rintro (e | f) s' e'
  · exact hx pins _ _ e s' new e'
  · cases f
    case ret u =>
      obtain ⟨_, H2, J, rv, rfl, q⟩ := new.after e'
      exact ⟨rv, .ref _, H2, J, rfl, q⟩
    all_goals exact e'.elim
theorem pe_makeS (M : Mk X.K C f) (F : FnOk X.prog X.w X.K X.mg X.base CX k f fd ps sp) (hr : Room (k + 1) X.A) (hg : Gl X x) (hm : X.mg x = some (.ref C)) (hb : Binds X.K fd ps []) (hx : ∀ σ, PassesAt CX X σ (E σ))
    (ha : PA X (e :: es) t) (hdb : (x == ("__debug__" : Str)) = false) (hn : (e :: es).all nStar = true) :
    PE X (.Call (.Name x p) (e :: es) [] pos) (tMakeS C sp E t) where
  run := fun pins s σ H Q I h => by
    obtain ⟨n1, n2⟩ := Bool.and_eq_true_iff.mp ((List.all_cons (f := nStar)).symm.trans hn)
    refine wpAny_Call_Name_kw (ld_glob I hg hm (PySem.W.callWith_K (h₀ := X.base) I.ok.mod.kin M.kp (thn (ha.run pos pins s σ H _ I h) ?_) (star_of n1 _) (star_any n2 _)) hdb)
    rintro us s1 ⟨vs, H1, J, r, q⟩
    exact ⟨J.kIn, run_makeS M F hr hb (hx σ) J r q⟩
end
end Pu

set_option Elab.async false
set_option linter.all false
set_option autoImplicit false
set_option maxRecDepth 100000
set_option maxHeartbeats 4000001
namespace Pu
open PySem L2
/-! ### the __init__ of an own exception, as a def -/
def dbgB (x : Str) : Bool := !(x == ("__debug__" : Str)) && !(x == ("__classdict__" : Str))
theorem dbgB_of {x : Str} (h : dbgB x = true) : (x == ("__debug__" : Str)) = false ∧ (x == ("__classdict__" : Str)) = false := by
  unfold dbgB at h
  obtain ⟨h1, h2⟩ := Bool.and_eq_true_iff.mp h
  exact ⟨by simpa using h1, by simpa using h2⟩
/-- self.f = f, .. -/
def xsB (N : List Str) (sc : Scope) (slf : Str) : Nat → List Stmt → List Str → Bool
  | _, [], [] => true
  | i, .Assign [.Attribute (.Name s _) f' _] (.Name v _) _ :: as, f :: fl => (decide (s = slf) && decide (f' = f) && decide (v = f) && decide (N[i]? = some f) && dbgB f && visB sc f) && xsB N sc slf (i + 1) as fl
  | _, _, _ => false
def xiB (N : List Str) (sc : Scope) (par : Str) : List Stmt → List Str → Bool
  | .Expr (.Call (.Attribute (.Name y _) i ap) [.Name s _, .Constant (.str _) _ _] [] pc) _ :: as, fl => (ap.endLine == pc.line) && ((decide (y = par) && decide (i = "__init__") && !(y == ("__debug__" : Str)) && gloB sc y && decide (N[0]? = some s) && dbgB s && visB sc s) && xsB N sc s 1 as fl)
  | _, _ => false
section
variable {m : Md} {N ps : List Str} {k : Nat} {x qual : Str} {params : Arguments} {body : List Stmt} {scope : Scope} {kws : List (Str × V)} {f : Addr} {fd : FuncData} {X : Cx} {sc fs : Scope}
theorem upd_idem {H : Hp} {a : Addr} {o : HO} (h : H a = some o) : upd H a o = H := by
  funext b
  by_cases e : b = a
  · subst e; rw [upd_same, h]
  · rw [upd_ne e]
theorem upd_upd {H : Hp} {a : Addr} {o u : HO} : upd (upd H a o) a u = upd H a u := by
  funext b
  by_cases e : b = a
  · subst e; rw [upd_same, upd_same]
  · rw [upd_ne e, upd_ne e, upd_ne e]
theorem upd_swap {H : Hp} {a b : Addr} {o u : HO} (h : a ≠ b) : upd (upd H a o) b u = upd (upd H b u) a o := by
  funext c
  by_cases e : c = a
  · subst e; rw [upd_ne h, upd_same, upd_same]
  · by_cases e' : c = b
    · subst e'; rw [upd_same, upd_ne e, upd_same]
    · rw [upd_ne e', upd_ne e, upd_ne e, upd_ne e']
/-- the further fields -/
theorem xs_more (hX : Cs X m N sc fs k) {slf : Str} {a C dx : Addr} {σ : L2.St} {D : Ends} (h0 : Ix N 0 slf) (hv0 : visB sc slf = true) (ha0 : σ[0]? = some (some (.ref a))) (T : OexC X.K C) : ∀ {fl : List Str} {as : List Stmt} {i : Nat} {ws : List V} {gs : List (Str × V)} {H : Hp}, xsB N sc slf i as fl = true → ws.length = fl.length →
    (∀ j w, ws[j]? = some w → σ[i + j]? = some (some w)) → (∀ f ∈ fl, PySem.W.findIn X.K (.ref C) f = some none) → H a = some (exo a C (some dx)) → H dx = some (exd dx gs) → dx ≠ a → gs.length + fl.length ≤ 900 → D.nx σ (upd H dx (exd dx ((fl.zip ws).reverse ++ gs))) → WSs X as D σ H
  | [], as, i, ws, gs, H, hk, hl, hw, hno, ea, ed, hne, hz, h => by
    cases as with
    | cons s as => simp [xsB] at hk
    | nil =>
      refine WSs.of pss_nil ?_
      have e : upd H dx (exd dx ((([] : List Str).zip ws).reverse ++ gs)) = H := by simpa using upd_idem ed
      rw [e] at h
      exact h
  | f :: fl, as, i, ws, gs, H, hk, hl, hw, hno, ea, ed, hne, hz, h => by
    unfold xsB at hk
    split at hk
    · rename_i h1; cases h1
    · rename_i _ _ iq s p1 f' p2 v p3 p4 as' f2 fl' e1
      cases e1
      simp only [Bool.and_eq_true, decide_eq_true_eq] at hk
      obtain ⟨⟨⟨⟨⟨⟨q1, q2⟩, q3⟩, q4⟩, q5⟩, q6⟩, q7⟩ := hk
      subst q1 q2 q3
      obtain ⟨d1, d2⟩ := dbgB_of q5
      cases ws with
      | nil => simp at hl
      | cons w ws' =>
        have hw0 := hw 0 w rfl
        rw [Nat.add_zero] at hw0
        simp only [List.length_cons] at hz
        refine WSs.of (pss_cons pWS pWSs) (WS.of (ps_ost (pe_var (i := 0) (by rw [hX.hN]; exact h0.at_) (by rw [hX.hS]; exact vis_of hv0) h0.d1 h0.d2) (pe_var (hX.hN ▸ q4) (by rw [hX.hS]; exact vis_of q6) d1 d2) rfl) ?_)
        refine ⟨w, hw0, .ref a, ha0, a, C, rfl, T, hno _ List.mem_cons_self, .inr ⟨dx, gs, ea, ed, by omega, ?_⟩⟩
        refine xs_more hX h0 hv0 ha0 T (ws := ws') (gs := (_, w) :: gs) q7 (by simpa using hl) (fun j u hu => ?_) (fun f hf => hno f (List.mem_cons_of_mem _ hf)) (by rw [upd_ne hne.symm]; exact ea) upd_same hne (by simp only [List.length_cons]; omega) ?_
        · have := hw (j + 1) u (by simpa using hu)
          rw [← this]
          congr 1
          omega
        · rw [upd_upd]
          simpa using h
    · cases hk
/-- all fields -/
theorem xs_first (hX : Cs X m N sc fs k) {slf : Str} {a C : Addr} {σ : L2.St} {D : Ends} (h0 : Ix N 0 slf) (hv0 : visB sc slf = true) (ha0 : σ[0]? = some (some (.ref a))) (T : OexC X.K C) {fl : List Str} {as : List Stmt} {ws : List V} {H : Hp} (hk : xsB N sc slf 1 as fl = true) (hne : fl ≠ []) (hl : ws.length = fl.length)
    (hw : ∀ j w, ws[j]? = some w → σ[1 + j]? = some (some w)) (hno : ∀ f ∈ fl, PySem.W.findIn X.K (.ref C) f = some none) (ea : H a = some (exo a C none)) (hz : fl.length ≤ 900) (h : ∀ dx, H dx = none → dx ≠ a → D.nx σ (upd (upd H dx (exd dx (fl.zip ws).reverse)) a (exo a C (some dx)))) : WSs X as D σ H := by
  cases fl with
  | nil => exact absurd rfl hne
  | cons f fl =>
    unfold xsB at hk
    split at hk
    · rename_i h1; cases h1
    · rename_i s p1 f' p2 v p3 p4 as' f2 fl' e1
      cases e1
      simp only [Bool.and_eq_true, decide_eq_true_eq] at hk
      obtain ⟨⟨⟨⟨⟨⟨q1, q2⟩, q3⟩, q4⟩, q5⟩, q6⟩, q7⟩ := hk
      subst q1 q2 q3
      obtain ⟨d1, d2⟩ := dbgB_of q5
      cases ws with
      | nil => simp at hl
      | cons w ws' =>
        have hw0 := hw 0 w rfl
        rw [Nat.add_zero] at hw0
        simp only [List.length_cons] at hz
        refine WSs.of (pss_cons pWS pWSs) (WS.of (ps_ost (pe_var (i := 0) (by rw [hX.hN]; exact h0.at_) (by rw [hX.hS]; exact vis_of hv0) h0.d1 h0.d2) (pe_var (i := 1) (by rw [hX.hN]; exact q4) (by rw [hX.hS]; exact vis_of q6) d1 d2) rfl) ?_)
        refine ⟨w, hw0, .ref a, ha0, a, C, rfl, T, hno _ List.mem_cons_self, .inl ⟨ea, fun dx hn hd => ?_⟩⟩
        refine xs_more hX h0 hv0 ha0 T (dx := dx) (i := 2) (ws := ws') (gs := [(_, w)]) q7 (by simpa using hl) (fun j u hu => ?_) (fun f hf => hno f (List.mem_cons_of_mem _ hf)) upd_same (by rw [upd_ne hd, upd_same]) hd (by simp only [List.length_cons, List.length_nil]; omega) ?_
        · have := hw (j + 1) u (by simpa using hu)
          rw [← this]
          congr 1
          omega
        · have := h dx hn hd
          rw [upd_swap hd.symm, upd_upd]
          simpa using this
    · cases hk
theorem fnOkX (F : FunD m.K x qual params body scope [] kws f fd) (Sc : FnScope N ps scope) {par : Str} {P : Addr} {fl : List Str} (hP : PEr m.K P) (hm : m.mg par = some (.ref P)) (hk : xiB N scope par body fl = true) (hps : ps.length = fl.length + 1) :
    FnOk m.P m.w m.K m.mg m.base (L2.CX m.P m.w) (k + 1) f fd ps (spX m.K fl) := by
  refine F.ok Sc (fun vs H Q E ⟨a, C, ws, e, h1, _⟩ => by rw [e, List.length_cons, h1, hps]) fun cdv A outer s H vs Q E hr hsp => ?_
  obtain ⟨a, C, ws, rfl, hl, hne, hz, ea, T, hno, g⟩ := hsp
  refine ⟨WSs (cxOf (L2.CX m.P m.w) m.P m.w m.K m.mg m.base N qual scope f cdv A outer s H E) body, pWSs, ?_⟩
  have hX := cs_of (m := m) (qual := qual) (f := f) (s := s) (H := H) (E := E) (outer := outer) Sc hr
  generalize cxOf (L2.CX m.P m.w) m.P m.w m.K m.mg m.base N qual scope f cdv A outer s H E = X at hX ⊢
  unfold xiB at hk
  split at hk
  · rename_i y p1 i p2 sf p3 t kk p4 p5 p6 as
    rw [Bool.and_eq_true] at hk
    obtain ⟨hline, hk⟩ := hk
    simp only [Bool.and_eq_true, decide_eq_true_eq, Bool.not_eq_true'] at hk
    obtain ⟨⟨⟨⟨⟨⟨⟨q1, q2⟩, q3⟩, q4⟩, q5⟩, q6⟩, q7⟩, q8⟩ := hk
    subst q1 q2
    obtain ⟨d1, d2⟩ := dbgB_of q6
    have hst : L2.start N (.ref a :: ws) = some (.ref a) :: (ws.map some ++ List.replicate (N.length - (ws.length + 1)) none) := rfl
    rw [hst]
    refine WSs.of (pss_cons pWS pWSs) (WS.of (ps_expr (pe_oinit (P := P) (by rw [hX.hK]; exact hP) (hX.gl q4) (by rw [hX.hM]; exact hm) q3 (pa_cons (pe_var (i := 0) (by rw [hX.hN]; exact q5) (by rw [hX.hS]; exact vis_of q7) d1 d2) (pa_cons (pe_str) pa_nil rfl) rfl) (ev_meth (by rfl) (by simp) hline (by rfl) _) rfl rfl) rfl) ?_)
    refine ⟨.ref a, rfl, ?_⟩
    refine ⟨a, C, _, rfl, by simp, by rw [hX.hK]; exact T, ea, ?_⟩
    refine xs_first hX ⟨q5, d1, d2⟩ q7 rfl (by rw [hX.hK]; exact T) q8 hne hl (fun j w hw => ?_) (by rw [hX.hK]; exact hno) ea hz g
    rw [Nat.add_comm 1 j]
    have hj : j < ws.length := (List.getElem?_eq_some_iff.mp hw).1
    rw [List.getElem?_cons_succ, List.getElem?_append_left (by simpa using hj), List.getElem?_map, hw]
    rfl
  · cases hk
end
end Pu

set_option Elab.async false
set_option linter.all false
set_option autoImplicit false
set_option maxRecDepth 100000
set_option maxHeartbeats 4000001
namespace Pu
open PySem L2
/-! ### exceptions that are made -/
theorem pe_ofMk {X : Cx} {e : Expr} {t : L2.St → Hp → XK → Prop} (h : L2.PMk X e t) : PE X e (fun σ H Q => t σ H fun cls d H' => ∃ C : Addr, cls = .ref C ∧ ∀ a, H' a = none → Q (.ref a) (upd H' a (XO a C d))) := by
  refine ⟨fun pins s σ H Q I k => ?_⟩
  refine wpAny_mono (h pins s σ H _ I k) (fun u s1 hu => ?_) fun _ _ z => z
  obtain ⟨a, oe, vs, sI, H', cls, d, rfl, J, kp, hne, ha, hz, hd, h1, na, os, ag, r, C, hC, q⟩ := hu
  subst hC
  have J2 : L2.Inv X pins σ H' ⟨sI.heap, s1.gens, s1.drawn, s1.toks, s1.os⟩ := ⟨J.ok, os.trans J.os, ag, J.base, J.loc, J.cell, J.free, J.freeC, J.pin, J.hok, J.len⟩
  exact ⟨.ref a, _, J2.laidN (t' := s1.toks) kp hne na (xo_ok ha hz hd), rfl, q a na⟩
/-- e makes the exception c -/
structure Mx (X : Cx) (env : Ev) (e : Expr) (c : Xc) : Prop where
  run : ∀ (H0 : Hp) (σ : L2.St) (G H : Hp), Sub G H → En X.K H0 G H σ env → ∀ Q : XK, (∀ cls d G' H', Ex2 G H G' H' → RX X.K G' c cls d → Q cls d H') → ∃ t, L2.PMk X e t ∧ t σ H Q
theorem look_nd {f : Str} {v : V} : ∀ {l : List (Str × V)}, (l.map Prod.fst).Nodup → (f, v) ∈ l → l.lookup f = some v
  | [], _, h => by cases h
  | (g, w) :: l, hn, h => by
    rw [List.map_cons, List.nodup_cons] at hn
    rcases List.mem_cons.mp h with h | h
    · cases h; simp [List.lookup]
    · have hne : (f == g) = false := by
        rw [beq_eq_false_iff_ne]
        intro z
        rw [← z] at hn
        exact hn.1 (List.mem_map.mpr ⟨(f, v), h, rfl⟩)
      simp only [List.lookup, hne]
      exact look_nd hn.2 h
section
variable {X : Cx} {m : Md} {N : List Str} {sc fs : Scope} {k j : Nat} {env : Ev} {e : Expr} {es : List Expr} {x : Str} {p pos pos' : Pos} {ds : List D} {Φ : Out → Prop} {c : Xc}
theorem ex_0 {bm : List Value} (hX : Cs X m N sc fs k) (C : XcK m x) (F : ExcBaseFacts "ValueError" "ValueError.__new__" "ValueError.__init__" bm) (q : PySem.W.excIn m.K (He.ga m.K x) bm "ValueError.__new__" = true) (hg : gloB sc x = true) (hd : (x == ("__debug__" : Str)) = false) (ha : As X env (e :: es) ds) (hz : ds.length ≤ 1000) (hn : (e :: es).all nStar = true) :
    Mx X env (.Call (.Name x p) (e :: es) [] pos) ⟨x, [], []⟩ := .mk fun H0 σ G H s E Q g => by
  simp only [List.all_cons, Bool.and_eq_true] at hn
  refine ⟨_, pmk_ownA (t := WA X (e :: es)) F (by rw [hX.hK]; exact q) (by rw [hX.hM]; exact C.mg) (by rw [hX.hK]; exact C.kp) (raises_own (by rw [hX.hK]; exact C.s1) (by rw [hX.hK]; exact C.ty)) (hX.gl hg) pWA hd (star_of hn.1 _) (star_any hn.2 _), ?_⟩
  refine ha.run H0 σ G H s E _ fun vs G' H' x' r => ⟨by rw [r.length, sizeLine_eq]; omega, g _ _ G' H' x' ⟨by rw [hX.hK], [], .inl ⟨rfl, rfl⟩, by simp only [Rps]⟩⟩
theorem ex_I (hX : Cs X m N sc fs k) (C : XcK m x) (T : OexC m.K (He.ga m.K x)) {fI : Addr} {fd : FuncData} {ps fl : List Str} (iC : PySem.W.findIn m.K (.ref (He.ga m.K x)) "__init__" = some (some (.ref fI))) (tI : PySem.W.typeIn m.K (.ref fI) = some (.type "function"))
    (F1 : FnOk m.P m.w m.K m.mg m.base (L2.CX m.P m.w) 1 fI fd ps (spX m.K fl)) (hb : Binds m.K fd ps []) (hk : 2 ≤ k) (hne : fl ≠ []) (hfl : fl.length ≤ 900) (hno : ∀ f ∈ fl, PySem.W.findIn m.K (.ref (He.ga m.K x)) f = some none)
    (hg : gloB sc x = true) (hd : (x == ("__debug__" : Str)) = false) (ha : As X env (e :: es) ds) (hz : ds.length = fl.length) (hnd : fl.Nodup) (hn : (e :: es).all nStar = true) :
    Mx X env (.Call (.Name x p) (e :: es) [] pos) ⟨x, fl, ds⟩ := .mk fun H0 σ G H s E Q g => by
  simp only [List.all_cons, Bool.and_eq_true] at hn
  refine ⟨_, pmk_oex (CX := L2.CX m.P m.w) (k := 1) (dvs := []) (ds := []) (ta := WA X (e :: es)) (by rw [hX.hK]; exact T) (by rw [hX.hK]; exact iC) (by rw [hX.hK]; exact tI) (by rw [hX.hP, hX.hW, hX.hK, hX.hM, hX.hB]; exact F1) (hX.room.mono hk) (by rw [hX.hK]; exact hb) .nil (fun _ _ _ _ _ _ _ ⟨_, _, _, _, _, _, _, _, _, _, _, _, h⟩ => h.elim) (hX.gl hg) (by rw [hX.hM]; exact C.mg) pWA hd (star_of hn.1 _) (star_any hn.2 _), ?_⟩
  refine ha.run H0 σ G H s E _ fun vs G' H' x' r => ⟨by rw [r.length]; omega, fun a na => ?_⟩
  refine ⟨a, He.ga m.K x, vs, by rw [List.append_nil], by rw [r.length]; exact hz, hne, hfl, upd_same, T, hno, fun dx hdx hda => ⟨rfl, dx, _, upd_same, by rw [upd_ne hda, upd_same], ?_, ?_⟩⟩
  · rw [upd_ne hda] at hdx; exact hdx
  · rw [upd_ne hda] at hdx
    have e1 : upd (del (upd (upd (upd H' a (exo a (He.ga m.K x) none)) dx (exd dx (fl.zip vs).reverse)) a (exo a (He.ga m.K x) (some dx))) a) dx (.xd (fl.zip vs).reverse) = upd H' dx (.xd (fl.zip vs).reverse) := by
      funext b
      by_cases e1 : b = dx
      · subst e1; rw [upd_same, upd_same]
      · rw [upd_ne e1, upd_ne e1]
        by_cases e2 : b = a
        · subst e2; rw [del_same, na]
        · rw [del_ne e2, upd_ne e2, upd_ne e1, upd_ne e2]
    rw [e1]
    have x2 : Ex2 G' H' (upd G' dx (.xd (fl.zip vs).reverse)) (upd H' dx (.xd (fl.zip vs).reverse)) := Ex2.new x'.s hdx
    refine g _ _ _ _ (x'.trans x2) ⟨by rw [hX.hK], vs, .inr ⟨dx, _, rfl, upd_same, fun f v hf => ?_⟩, r.mono x2.g⟩
    refine look_nd ?_ (List.mem_reverse.mpr hf)
    rw [List.map_reverse]
    refine (List.reverse_perm _).nodup_iff.mpr ?_
    have e2 : (fl.zip vs).map Prod.fst = fl := List.map_fst_zip (by rw [r.length, hz]; exact Nat.le_refl _)
    rw [e2]; exact hnd
theorem s1_raise (hX : Cs X m N sc fs k) (h : Mx X env e c) (hk : Φ (.ex c env)) : S1 X (.Raise (some e) none pos) env Φ := .mk fun σ G0 H0 G H y E D kk => by
  obtain ⟨W, tk, w⟩ := kk.ex
  obtain ⟨t, h1, h2⟩ := h.run H0 σ G H y.s E (fun cls d H' => W cls d σ H') fun cls d G' H' x' rx => w c env cls d σ G' H' hk (y.trans x') (E.later x') rx
  exact WS.of (ps_raise hX.calm tk h1) h2
/-- made by hand -/
theorem p_exc (h : Mx X env e c) : P X env e (.per (.exc c.C c.ns c.ds)) := .mk fun H0 σ G H s E Q g => by
  obtain ⟨t, h1, h2⟩ := h.run H0 σ G H s E (fun cls d H' => ∃ C : Addr, cls = .ref C ∧ ∀ a, H' a = none → Q (.ref a) (upd H' a (XO a C d))) fun cls d G' H' x' rx => by
    obtain ⟨e1, xs, e2, e3⟩ := rx
    refine ⟨_, e1, fun a na => ?_⟩
    have x2 : Ex2 G' H' (upd G' a (XO a (He.ga X.K c.C) d)) (upd H' a (XO a (He.ga X.K c.C) d)) := Ex2.new x'.s na
    refine g (.ref a) _ _ [] (x'.trans x2) ?_ (fun b hb => by cases hb) List.nodup_nil
    simp only [RO, Rp]
    exact ⟨trivial, a, d, xs, rfl, upd_same, e2.mono x2.g, e3.mono x2.g⟩
  exact WE.of (pe_ofMk h1) h2
end
end Pu

set_option Elab.async false
set_option linter.all false
set_option autoImplicit false
set_option maxRecDepth 100000
set_option maxHeartbeats 4000001
namespace Pu
open PySem L2
theorem ve_facts : ExcBaseFacts "ValueError" "ValueError.__new__" "ValueError.__init__" veBm := PySem.F.excBase_ValueError
section
variable {X : Cx} {m : Md} {T : Tab} {N : List Str} {sc fs : Scope} {k n : Nat} {env : Ev} {a b e : Expr} {es : List Expr} {x : Str} {p pos pos' : Pos} {ds : List D} {Φ Ψ : Out → Prop} {c : Xc}
/-! ### try -/
def Caught (m : Md) (T : Tab) (Φ : Out → Prop) (i j : Nat) : Out → Prop
  | .ex c e1 => j < e1.length ∧ PySem.W.exmOne m.K (.ref (He.ga m.K c.C)) (.ref (He.ga m.K T.par)) = some true ∧ Φ (.nx ((e1.set j (some (.per (.exc c.C c.ns c.ds)))).set i none))
  | o => Φ o
theorem s1_try (hX : Cs X m N sc sc k) (hF : Ft X sc) {i j : Nat} {nm y : Str} {body : List Stmt} {np py pn1 sp : Pos} (hm : m.mg T.par = some (.ref (He.ga m.K T.par))) (hi : Ix N i nm) (hj : N[j]? = some y) (hij : i ≠ j) (hln : sc.names.lookup nm = some .local) (hly : sc.names.lookup y = some .local) (hg : gloB sc T.par = true) (hd : (T.par == ("__debug__" : Str)) = false)
    (hb : ∀ X', Cs X' m N sc sc k → Ft X' sc → S X' body env (Caught m T Φ i j)) :
    S1 X (.Try body [.ExceptHandler (some (.Name T.par np)) (some nm) [.Assign [.Name y py] (.Name nm pn1) sp] pos'] [] [] pos) env Φ := .mk fun σ G0 H0 G H y0 E D kk => by
  refine WS.of (ps_try_keep (i := i) (j := j) (c := .ref (He.ga m.K T.par)) (tb := fun W D σ H => ∀ pn xe, L2.Takes (X.tr pn xe) W → PassesOwn (model X.prog X.w) X.A X.env xe → WSs (X.tr pn xe) body D σ H) hF.hx hF.hs hF.hf (by rw [hX.hN]; exact hX.nd) (by rw [hX.hN]; exact hi.at_) (by rw [hX.hN]; exact hj) hij (hF.kd _ hln) (hF.kd _ hly) ⟨hX.gl hg, hd, .inl (by rw [hX.hM]; exact hm)⟩ hi.d1 hi.d2 (fun W pn xe tk po => ⟨fun pins s σ H D I h => h pn xe tk po pins s I⟩)) ?_
  intro pn xe tk po
  have hX' : Cs (X.tr pn xe) m N sc sc k := ⟨hX.hP, hX.hW, hX.hK, hX.hM, hX.hB, hX.hN, hX.hS, hX.calm, hX.room, hX.nd, hX.fn, po⟩
  have hF' : Ft (X.tr pn xe) sc := ⟨hF.hs, hF.hf, hF.kd, hF.hx⟩
  refine (hb _ hX' hF').run σ G0 H0 G H y0 E D ⟨fun env σ G H f => kk.nx env σ G H f, fun env σ G H f => kk.bk env σ G H f, fun env σ G H f => kk.ct env σ G H f, fun o env v σ G H f => kk.rt o env v σ G H f, wKp X.K (.ref (He.ga m.K T.par)) i j D, tk, ?_⟩
  intro c e1 cls d σ1 G1 H1 ⟨hl, hex, hphi⟩ x1 E1 rx
  obtain ⟨r1, xs, r2, r3⟩ := rx
  have hKK : (X.tr pn xe).K = X.K := rfl
  refine ⟨He.ga X.K c.C, r1, by rw [r1]; show PySem.W.exmOne X.K (.ref (He.ga X.K c.C)) _ = _; rw [hX.hK]; exact hex, fun a na => ?_⟩
  have x2 : Ex2 G1 H1 (upd G1 a (XO a (He.ga X.K c.C) d)) (upd H1 a (XO a (He.ga X.K c.C) d)) := Ex2.new x1.s na
  have r : RO X.K (upd G1 a (XO a (He.ga X.K c.C) d)) (upd H1 a (XO a (He.ga X.K c.C) d)) (.per (.exc c.C c.ns c.ds)) (.ref a) [] := by
    simp only [RO, Rp]
    exact ⟨trivial, a, d, xs, rfl, upd_same, r2.mono x2.g, r3.mono x2.g⟩
  have E2 : En X.K H0 _ _ (σ1.set j (some (.ref a))) (e1.set j (some (.per (.exc c.C c.ns c.ds)))) := En.fresh (K := X.K) E1 x2 r (fun b hb => by cases hb) List.nodup_nil hl (fun b hb => by cases hb)
  obtain ⟨fp, q1, q2, q3⟩ := E2
  obtain ⟨fp', q4, q5⟩ := Ens.drop (i := i) (s' := none) q1
  exact kk.nx _ _ _ _ hphi (x1.trans x2) ⟨fp', q4, q2.sublist q5, fun b hb => q3 b (q5.subset hb)⟩
/-! ### isinstance -/
theorem xi_of {c : Str} {q : XI} (h : T.xi c = some q) : q ∈ T.excs ∧ q.c = c := by
  unfold Tab.xi at h
  exact ⟨List.mem_of_find?_eq_some h, by simpa using List.find?_some h⟩
theorem tyZ_of (hT : TOk m T) {G H : Hp} {d : D} {v : V} {t : TyD} (s : Sub G H) (h : Rp m.K G d v) (e : T.kd d = some t) : TyZ m.K H v (tyVal m.K t) := by
  have bas : ∀ {n : String}, tyN d = some n → t = .b n → TyZ m.K H v (tyVal m.K t) := fun {n} h1 h2 => by subst h2; exact .base (tyX_of s h h1)
  cases d with
  | obj C ns xs =>
    simp only [Tab.kd] at e
    split at e
    · rename_i hc
      cases e
      simp only [Rp] at h
      obtain ⟨a, dx, xs', rfl, h2, _⟩ := h
      exact .base (.base (hT.ins C (by simpa using hc) _ _ _ _ (s _ _ h2)))
    · cases e
  | exc C ns xs =>
    simp only [Tab.kd] at e
    split at e
    · rename_i q hq
      cases e
      obtain ⟨q1, rfl⟩ := xi_of hq
      simp only [Rp] at h
      obtain ⟨a, dd, xs', rfl, h2, h3, _⟩ := h
      refine .exc (s _ _ h2) (fun e he => ?_) (hT.excs q q1).e
      rcases h3 with ⟨_, z⟩ | ⟨e', fs, z, h4, _⟩
      · rw [z] at he; cases he
      · rw [z] at he; cases he; exact ⟨_, s _ _ h4⟩
    · cases e
  | _ =>
    simp only [Tab.kd] at e
    split at e
    · rename_i n hn
      cases e
      exact bas hn rfl
    · cases e
theorem isB_of (hT : TOk m T) {k t : TyD} {q : Bool} (h : T.isB k t = some q) : PySem.W.kitOne m.K (tyVal m.K k) (tyVal m.K t) = some q := by
  unfold Tab.isB at h
  split at h
  · rename_i r hr
    cases h
    have h1 := List.mem_of_find?_eq_some hr
    have h2 := List.find?_some hr
    simp only [Bool.and_eq_true, decide_eq_true_eq] at h2
    have := hT.isa r h1
    rw [h2.1, h2.2] at this
    exact this
  · cases h
theorem isAny_of (hT : TOk m T) {k : TyD} : ∀ {ts : List TyD} {q : Bool}, T.isAny k ts = some q → PySem.W.kitAny m.K (tyVal m.K k) (ts.map (tyVal m.K)) = some q
  | [], q, h => by simp only [Tab.isAny] at h; cases h; rfl
  | t :: ts, q, h => by
    simp only [Tab.isAny] at h
    split at h
    · rename_i hb; cases h; exact kitAny_cons (isB_of hT hb) (fun z => by cases z) (fun _ => rfl)
    · rename_i hb; exact kitAny_cons (isB_of hT hb) (fun _ => isAny_of hT h) (fun z => by cases z)
    · cases h
/-- a class as data -/
def tyDat (K : PySem.W.Frag) : TyD → D
  | .b n => .ty n
  | .c C => .adr (He.ga K C)
theorem p_cls (hX : Cs X m N sc fs k) (hT : TOk m T) {t : TyD} (h : tyOkB T sc e t = true) : P X env e (.per (tyDat m.K t)) := by
  cases t with
  | b n =>
    simp only [tyOkB] at h
    split at h
    · rename_i x p
      obtain ⟨h1, h2⟩ := Bool.and_eq_true_iff.mp h
      unfold free at h1
      obtain ⟨h3, h4⟩ := Bool.and_eq_true_iff.mp h1
      exact p_ty hX h3 (hT.blts x (by simpa using h4)) h2
    · cases h
  | c C =>
    simp only [tyOkB] at h
    split at h
    · rename_i x p
      obtain ⟨h1, k2⟩ := Bool.and_eq_true_iff.mp h
      obtain ⟨h2, k3⟩ := Bool.and_eq_true_iff.mp k2
      obtain ⟨h3, h4⟩ := Bool.and_eq_true_iff.mp k3
      have e1 := of_decide_eq_true h1
      subst e1
      unfold dbg at h2
      have d1 : (x == ("__debug__" : Str)) = false := by simpa using (Bool.and_eq_true_iff.mp h2).1
      exact .mk fun H0 σ G H s E Q g => WE.of (pe_glob (v := .ref (He.ga m.K x)) (hX.gl h3) (by rw [hX.hM]; exact hT.own x (by simpa using h4)) rfl d1) (g.val s (by simp only [tyDat, Rp]))
    · cases h
theorem clsV_of {K : PySem.W.Frag} {G : Hp} {v : V} {t : TyD} (h : Rp K G (tyDat K t) v) : ClsV v (tyVal K t) := by
  cases t with
  | b n => simp only [tyDat, Rp] at h; subst h; exact .ty n
  | c C => simp only [tyDat, Rp] at h; subst h; exact .own _
theorem clsVs_of {K : PySem.W.Frag} {G : Hp} : ∀ {ts : List TyD} {vs : List V}, Rps K G (ts.map (tyDat K)) vs → Paired ClsV vs (ts.map (tyVal K))
  | [], vs, h => by simp only [List.map_nil, Rps] at h; subst h; exact .nil
  | t :: ts, vs, h => by
    simp only [List.map_cons, Rps] at h
    obtain ⟨v, vr, rfl, h1, h2⟩ := h
    exact .cons (clsV_of h1) (clsVs_of h2)
theorem cls_star {t : TyD} (h : tyOkB T sc e t = true) : nStar e = true := by
  cases t <;> (simp only [tyOkB] at h; split at h <;> first | rfl | cases h)
theorem p_isa1 (hX : Cs X m N sc fs k) (hT : TOk m T) {d : D} {kd t : TyD} {q : Bool} (hg : gloB sc "isinstance" = true) (hm : m.mg "isinstance" = none) (ha : P X env a (.per d)) (hb : tyOkB T sc b t = true) (hk : T.kd d = some kd) (h : T.isB kd t = some q) (hs : nStar a = true) : P X env (.Call (.Name "isinstance" p) [a, b] [] pos) (.per (.bl q)) :=
  p_callB hX call_isZ hg hm (by decide +kernel) (as_cons ha (as_cons (p_cls hX hT hb) as_nil (fun en => star_of (cls_star hb) en)) (fun en => star_of hs en)) (fun G H vs Q s r g => by
    obtain ⟨v, v', rfl, r1, r2⟩ := rps2 r
    rw [hX.hK] at r1 r2 ⊢
    exact ⟨v, v', _, _, q, rfl, clsV_of r2, tyZ_of hT s r1 hk, isB_of hT h, g.val s (by simp only [Rp])⟩) (fun en => star_of hs en) (fun en => star_any (by simp [cls_star hb]) en)
theorem p_clss (hX : Cs X m N sc fs k) (hT : TOk m T) : ∀ {es : List Expr} {ts : List TyD}, all2 (tyOkB T sc) es ts = true → As X env es (ts.map (tyDat m.K)) ∧ es.all nStar = true
  | [], [], _ => ⟨as_nil, rfl⟩
  | [], _ :: _, h => by simp [all2] at h
  | _ :: _, [], h => by simp [all2] at h
  | e :: es, t :: ts, h => by
    simp only [all2] at h
    obtain ⟨h1, h2⟩ := Bool.and_eq_true_iff.mp h
    obtain ⟨r1, r2⟩ := p_clss hX hT h2
    exact ⟨as_cons (p_cls hX hT h1) r1 (fun en => star_of (cls_star h1) en), by simp [cls_star h1, r2]⟩
theorem p_isaT (hX : Cs X m N sc fs k) (hT : TOk m T) {d : D} {kd : TyD} {ts : List TyD} {q : Bool} {x1 : Nat} {tp : Pos} (hg : gloB sc "isinstance" = true) (hm : m.mg "isinstance" = none) (ha : P X env a (.per d)) (hb : all2 (tyOkB T sc) es ts = true) (hz : es.length ≤ 1000) (hk : T.kd d = some kd) (h : T.isAny kd ts = some q) (hs : nStar a = true) : P X env (.Call (.Name "isinstance" p) [a, .Tuple es x1 tp] [] pos) (.per (.bl q)) := by
  obtain ⟨c1, c2⟩ := p_clss (env := env) hX hT hb
  have hl : (ts.map (tyDat m.K)).length ≤ 1000 := by
    have : ∀ {es : List Expr} {ts : List TyD}, all2 (tyOkB T sc) es ts = true → ts.length = es.length := by
      intro es
      induction es with
      | nil => intro ts h; cases ts <;> first | rfl | simp [all2] at h
      | cons e es ih => intro ts h; cases ts with
        | nil => simp [all2] at h
        | cons t ts => simp only [all2] at h; simp [ih (Bool.and_eq_true_iff.mp h).2]
    rw [List.length_map, this hb]; exact hz
  exact p_callB hX call_isZT hg hm (by decide +kernel) (as_cons ha (as_cons (p_tup (x1 := x1) (pos := tp) c1 hl) as_nil (fun en => star_of rfl en)) (fun en => star_of hs en)) (fun G H vs Q s r g => by
    obtain ⟨v, v', rfl, r1, r2⟩ := rps2 r
    rw [hX.hK] at r1 r2 ⊢
    simp only [Rp] at r2
    obtain ⟨tp, cs, rfl, r3, r4⟩ := r2
    exact ⟨v, tp, cs, _, _, q, rfl, s _ _ r3, clsVs_of r4, tyZ_of hT s r1 hk, isAny_of hT h, g.val s (by simp only [Rp])⟩) (fun en => star_of hs en) (fun en => star_any rfl en)
/-! ### fields of exceptions -/
theorem look_xf {K : PySem.W.Frag} {G : Hp} {f : Str} {d : D} : ∀ {ns : List Str} {xs : List D} {vs : List V}, Rps K G xs vs → look ns xs f = some d → ∃ v, (f, v) ∈ ns.zip vs ∧ Rp K G d v
  | [], _, _, _, h => by simp [look] at h
  | _ :: _, [], _, _, h => by simp [look] at h
  | n :: ns, x :: xs, vs, r, h => by
    simp only [Rps] at r
    obtain ⟨v, vr, rfl, r1, r2⟩ := r
    simp only [look] at h
    split at h
    · rename_i hn
      cases h
      subst hn
      exact ⟨v, List.mem_cons_self, r1⟩
    · obtain ⟨w, w1, w2⟩ := look_xf r2 h
      exact ⟨w, List.mem_cons_of_mem _ w1, w2⟩
theorem p_xfD (hX : Cs X m N sc fs k) (hT : TOk m T) {C f : Str} {ns : List Str} {xs : List D} {d : D} {q : XI} (hq : T.xi C = some q) (hf : f ∈ q.fl) (ha : P X env a (.per (.exc C ns xs))) (hl : look ns xs f = some d) (hs : nSup a = true) : P X env (.Attribute a f pos) (.per d) := .mk fun H0 σ G H s E Q g => by
  obtain ⟨q1, rfl⟩ := xi_of hq
  have hK := hT.excs q q1
  refine WE.of (pe_xfT pWE (sup_of hs _ _)) (ha.go s E fun x G1 H1 x1 r1 => ?_)
  rw [hX.hK] at r1 ⊢
  simp only [Rp] at r1
  obtain ⟨a, dd, vs, rfl, h2, h3, h4⟩ := r1
  obtain ⟨v, v1, v2⟩ := look_xf h4 hl
  rcases h3 with ⟨z, _⟩ | ⟨e', fs, z, h5, h6⟩
  · rw [z] at v1; simp at v1
  · subst z
    exact ⟨a, _, e', fs, v, rfl, x1.s _ _ h2, hK.f, hK.n f hf, x1.s _ _ h5, h6 _ _ v1, (g.trans x1).val x1.s (by rw [hX.hK]; exact v2)⟩
/-! ### parts of tuples of one's own -/
theorem loc_ixT {a b : Expr} {o : Ow} {i : Nat} {π : List Nat} {os : List Ow} {j : Int} {n : Nat} (ha : Loc X env a i π) (hb : P X env b (.per (.int j))) (he : env[i]? = some (some o)) (hs : o.sub π = some (.tup os)) (hj : ixN os.length j = some n) (hp : PlainIx b) : Loc X env (.Subscript a b pos) i (π ++ [n]) := .mk fun H0 σ G H s E Q v w h1 h2 g => by
  obtain ⟨v', w1, f1, fr, q1, q2, q3, _, _, _⟩ := E.focus s he hs
  rw [h1] at q1
  cases q1
  simp only [RO] at q3
  obtain ⟨p, xs, rfl, g2, g3⟩ := q3
  have g2' := s _ _ g2
  have hn : n < xs.length := by
    rw [g3.length]
    exact (ixN_seq hj).2.1
  have ew : xs[n]? = some w := by
    have := vAt_snoc (j := n) (w := xs[n]) q2 g2' (by simp only [kidV]; simp [hn])
    rw [h2] at this
    cases this
    simp [hn]
  refine WE.of (pe_ix ix_tup pWE pWE hp) (ha.run H0 σ G H s E _ v _ h1 q2 fun G' H' x => hb.go x.s (E.later x) fun y G2 H2 x2 r2 => ?_)
  simp only [Rp] at r2
  refine ⟨p, xs, j, w, rfl, r2, SqT.of ((x.trans x2).h _ _ g2'), ?_, g G2 H2 (x.trans x2)⟩
  unfold atI
  rw [g3.length, hj]
  exact ew
/-! ### exceptions by the table -/
theorem mx_of (hX : Cs X m N sc fs n) (hT : TOk m T) {cn : Str} {c : Xc} (hmk : T.mkX n cn ds = some c) (ha : As X env es ds) (hz : es.isEmpty = false) (hn : es.all nStar = true) (hg : gloB sc cn = true) (hd : dbg cn = true) : Mx X env (.Call (.Name cn p) es [] pos) c := by
  cases es with
  | nil => cases hz
  | cons e es =>
    have d1 : (cn == ("__debug__" : Str)) = false := by
      unfold dbg at hd
      simpa using (Bool.and_eq_true_iff.mp hd).1
    unfold Tab.mkX at hmk
    split at hmk
    · rename_i q hq
      obtain ⟨q1, rfl⟩ := xi_of hq
      have hK := hT.excs q q1
      have hI := hK.i
      unfold XiK at hI
      split at hmk
      · rename_i hi
        rw [hi] at hI
        split at hmk
        · rename_i hl
          cases hmk
          exact ex_0 hX hK.x ve_facts hI hg d1 ha hl.1 hn
        · cases hmk
      · rename_i fi hi
        rw [hi] at hI
        split at hmk
        · rename_i hl
          cases hmk
          obtain ⟨i1, i2, i3, i4, fI, fd, i5, i6, i7, i8⟩ := hI
          exact ex_I hX hK.x i1 i5 i6 i8 i7 hl.2 i2 i3 hK.n hg d1 ha hl.1 i4 hn
        · cases hmk
    · cases hmk
theorem mkX_c (hT : TOk m T) {cn : Str} {c : Xc} (hmk : T.mkX n cn ds = some c) : PySem.W.exmOne m.K (.ref (He.ga m.K c.C)) (.ref (He.ga m.K T.par)) = some true := by
  unfold Tab.mkX at hmk
  split at hmk
  · rename_i q hq
    obtain ⟨q1, rfl⟩ := xi_of hq
    have hK := hT.excs q q1
    split at hmk
    · split at hmk
      · cases hmk; exact hK.c
      · cases hmk
    · split at hmk
      · cases hmk; exact hK.c
      · cases hmk
  · cases hmk
end
end Pu

set_option Elab.async false
set_option linter.all false
set_option autoImplicit false
set_option maxRecDepth 100000
set_option maxHeartbeats 1000001
namespace Pu
open PySem L2
theorem fnok_never {P : Program} {w : World} {K : PySem.W.Frag} {mg : Str → Option Value} {base : Heap} {CX : CXT} {k j : Nat} {f : Addr} {fd : FuncData} {ps : List Str} {sp : Sp} (F : FnOk P w K mg base CX k f fd ps sp) : FnOk P w K mg base CX j f fd ps (fun _ _ _ _ => False) :=
  { F with len := fun _ _ _ _ h => h.elim, run := fun _ _ _ _ _ _ _ _ _ _ _ _ _ h => h.elim }
section
variable {m : Md} {X : Cx} {N : List Str} {sc fs : Scope} {k j n : Nat} {env : Ev} {a e : Expr} {es : List Expr} {pos p apos : Pos} {x : Str} {ds : List D} {o : Ow} {c : Xc}
theorem dbg1 {x : Str} (h : dbg x = true) : (x == ("__debug__" : Str)) = false := by
  unfold dbg at h
  cases q : x == ("__debug__" : Str) with
  | false => rfl
  | true => rw [q] at h; cases h
theorem pass_tk (hX : Cs X m N sc fs k) {W : WX} (tk : L2.Takes X W) (σ : L2.St) : PassesAt (L2.CX m.P m.w) X σ (L2.WE W σ) := by
  have q := passAt tk σ
  rw [hX.hP, hX.hW] at q
  exact q
theorem pass_no {σ : L2.St} {P : Program} {w : World} : PassesAt (L2.CX P w) X σ E0 := fun _ _ _ _ _ _ ⟨_, _, _, _, _, _, _, _, _, _, _, _, h⟩ => h.elim
theorem p_callF {R : List D → Res → Prop} (hX : Cs X m N sc fs k) (F : FnX m j x n R) (hj : j ≤ k) (hg : gloB sc x = true) (hd : dbg x = true) (hs : es.all nStar = true) (hz : es = [] → ds = []) (ha : As X env es ds) (hR : R ds (.ok o)) : P X env (.Call (.Name x p) es [] pos) o := by
  cases es with
  | nil =>
    have e := hz rfl
    subst e
    exact p_callX0 hX F hj hg hR (dbg1 hd)
  | cons e es =>
    simp only [List.all_cons, Bool.and_eq_true] at hs
    exact p_callX hX F hj hg ha hR (dbg1 hd) (star_of hs.1) (star_any hs.2)
theorem px_callF {R : List D → Res → Prop} (hX : Cs X m N sc fs k) (F : FnX m j x n R) (hj : j ≤ k) (hg : gloB sc x = true) (hd : dbg x = true) (hs : es.all nStar = true) (hz : es = [] → ds = []) (ha : As X env es ds) (hR : R ds (.ex c)) : PX X env (.Call (.Name x p) es [] pos) c := .mk fun H0 σ G H s E W tk w Q => by
  obtain ⟨f, fd, ps, hn, hm, hk, hb, F⟩ := F
  have F' : FnOk X.prog X.w X.K X.mg X.base (L2.CX m.P m.w) j f fd ps (spP X.K R) := by rw [hX.hP, hX.hW, hX.hK, hX.hM, hX.hB]; exact F
  cases es with
  | nil =>
    have e := hz rfl
    subst e
    refine WE.of (pe_call0S F' (hX.room.mono hj) (hX.gl hg) (by rw [hX.hM]; exact hm) (by rw [hX.hK]; exact hk) (by rw [hX.hK]; exact hb) (fun σ => pass_tk hX tk σ) (dbg1 hd)) ?_
    exact ⟨G, [], .ex c, s, by simp only [Rps], hR, w⟩
  | cons e es =>
    simp only [List.all_cons, Bool.and_eq_true] at hs
    refine WE.of (pe_callS F' (hX.room.mono hj) (hX.gl hg) (by rw [hX.hM]; exact hm) (by rw [hX.hK]; exact hk) (by rw [hX.hK]; exact hb) (fun σ => pass_tk hX tk σ) pWA (dbg1 hd) (star_of hs.1 _) (star_any hs.2 _)) ?_
    exact ha.run H0 σ G H s E _ fun vs G1 H1 x1 r1 => ⟨G1, ds, .ex c, x1.s, r1, hR, fun cls d G' H' x' rx => w cls d G' H' (x1.trans x') rx⟩
theorem px_callA {R : List D → Res → Prop} (hX : Cs X m N sc fs k) (F : FnX m j x n R) (hg : gloB sc x = true) (hd : dbg x = true) (hs : es.all nStar = true) (hne : es ≠ []) (ha : AX X env es c) : PX X env (.Call (.Name x p) es [] pos) c := .mk fun H0 σ G H s E W tk w Q => by
  obtain ⟨f, fd, ps, hn, hm, hk, hb, F⟩ := F
  have F' : FnOk X.prog X.w X.K X.mg X.base (L2.CX m.P m.w) 0 f fd ps (fun _ _ _ _ => False) := by rw [hX.hP, hX.hW, hX.hK, hX.hM, hX.hB]; exact fnok_never F
  cases es with
  | nil => exact absurd rfl hne
  | cons e es =>
    simp only [List.all_cons, Bool.and_eq_true] at hs
    refine WE.of (pe_callS F' (hX.room.mono (Nat.zero_le _)) (hX.gl hg) (by rw [hX.hM]; exact hm) (by rw [hX.hK]; exact hk) (by rw [hX.hK]; exact hb) (fun σ => pass_tk hX tk σ) pWA (dbg1 hd) (star_of hs.1 _) (star_any hs.2 _)) ?_
    exact ha.run H0 σ G H s E W tk w _
theorem lookup_none {f : Str} : ∀ {ns : List Str} {vs : List V}, f ∉ ns → (ns.zip vs).lookup f = none
  | [], vs, _ => rfl
  | _ :: _, [], _ => rfl
  | n :: ns, v :: vs, h => by
    have h1 : (f == n) = false := by
      rw [beq_eq_false_iff_ne]
      exact fun z => h (by rw [z]; exact List.mem_cons_self)
    simp only [List.zip_cons_cons, List.lookup, h1]
    exact lookup_none fun z => h (List.mem_cons_of_mem _ z)
/-! ### methods of lasting things -/
theorem p_methF {R : List D → Res → Prop} {cl : Str} {ns : List Str} {xs : List D} (hX : Cs X m N sc fs k) (F : MthX m j cl x R) (hj : j ≤ k) (hno : x ∉ ns) (hsu : nSup a = true) (hl : es.length < 29) (hp : (apos.endLine == pos.line) = true) (hs : es.all nStar = true) (hz : es = [] → ds = [])
    (ho : P X env a (.per (.obj cl ns xs))) (ha : As X env es ds) (hR : R (.obj cl ns xs :: ds) (.ok o)) : P X env (.Call (.Attribute a x apos) es [] pos) o := .mk fun H0 σ G H s E Q g => by
  obtain ⟨f, fd, ps, hC, hm, hb, F⟩ := F
  have F' : FnOk X.prog X.w X.K X.mg X.base (L2.CX m.P m.w) j f fd ps (spP X.K R) := by rw [hX.hP, hX.hW, hX.hK, hX.hM, hX.hB]; exact F
  cases es with
  | nil =>
    have e := hz rfl
    subst e
    refine WE.of (pe_meth0S (C := He.ga X.K cl) (E := fun _ => E0) pWE (by rw [hX.hK]; exact hC) (by rw [hX.hK]; exact hm) F' (hX.room.mono hj) (by rw [hX.hK]; exact hb) (fun _ => pass_no) hsu hp) (ho.go s E fun v G1 H1 x1 r1 => ?_)
    have r1' := r1
    simp only [Rp] at r1
    obtain ⟨q, dx, vs, rfl, h2, h3, h4⟩ := r1
    exact ⟨q, dx, _, rfl, x1.s _ _ h2, lookup_none hno, G1, [_], .ok o, x1.s, by simp only [Rps]; exact ⟨_, _, rfl, r1', rfl⟩, hR, g.trans x1⟩
  | cons e es =>
    refine WE.of (pe_methS (C := He.ga X.K cl) (E := fun _ => E0) pWE (by rw [hX.hK]; exact hC) (by rw [hX.hK]; exact hm) F' (hX.room.mono hj) (by rw [hX.hK]; exact hb) (fun _ => pass_no) pWA hsu hl hp hs) (ho.go s E fun v G1 H1 x1 r1 => ?_)
    have r1' := r1
    simp only [Rp] at r1
    obtain ⟨q, dx, vs, rfl, h2, h3, h4⟩ := r1
    refine ⟨q, dx, _, rfl, x1.s _ _ h2, lookup_none hno, ha.run H0 σ G1 H1 x1.s (E.later x1) _ fun us G2 H2 x2 r2 => ?_⟩
    exact ⟨G2, _ :: ds, .ok o, x2.s, by simp only [Rps]; exact ⟨_, _, rfl, r1'.mono x2.g, r2⟩, hR, g.trans (x1.trans x2)⟩
theorem px_methF {R : List D → Res → Prop} {cl : Str} {ns : List Str} {xs : List D} (hX : Cs X m N sc fs k) (F : MthX m j cl x R) (hj : j ≤ k) (hno : x ∉ ns) (hsu : nSup a = true) (hl : es.length < 29) (hp : (apos.endLine == pos.line) = true) (hs : es.all nStar = true) (hz : es = [] → ds = [])
    (ho : P X env a (.per (.obj cl ns xs))) (ha : As X env es ds) (hR : R (.obj cl ns xs :: ds) (.ex c)) : PX X env (.Call (.Attribute a x apos) es [] pos) c := .mk fun H0 σ G H s E W tk w Q => by
  obtain ⟨f, fd, ps, hC, hm, hb, F⟩ := F
  have F' : FnOk X.prog X.w X.K X.mg X.base (L2.CX m.P m.w) j f fd ps (spP X.K R) := by rw [hX.hP, hX.hW, hX.hK, hX.hM, hX.hB]; exact F
  cases es with
  | nil =>
    have e := hz rfl
    subst e
    refine WE.of (pe_meth0S (C := He.ga X.K cl) pWE (by rw [hX.hK]; exact hC) (by rw [hX.hK]; exact hm) F' (hX.room.mono hj) (by rw [hX.hK]; exact hb) (fun σ => pass_tk hX tk σ) hsu hp) (ho.go s E fun v G1 H1 x1 r1 => ?_)
    have r1' := r1
    simp only [Rp] at r1
    obtain ⟨q, dx, vs, rfl, h2, h3, h4⟩ := r1
    exact ⟨q, dx, _, rfl, x1.s _ _ h2, lookup_none hno, G1, [_], .ex c, x1.s, by simp only [Rps]; exact ⟨_, _, rfl, r1', rfl⟩, hR, fun cls d G' H' x' rx => w cls d G' H' (x1.trans x') rx⟩
  | cons e es =>
    refine WE.of (pe_methS (C := He.ga X.K cl) pWE (by rw [hX.hK]; exact hC) (by rw [hX.hK]; exact hm) F' (hX.room.mono hj) (by rw [hX.hK]; exact hb) (fun σ => pass_tk hX tk σ) pWA hsu hl hp hs) (ho.go s E fun v G1 H1 x1 r1 => ?_)
    have r1' := r1
    simp only [Rp] at r1
    obtain ⟨q, dx, vs, rfl, h2, h3, h4⟩ := r1
    refine ⟨q, dx, _, rfl, x1.s _ _ h2, lookup_none hno, ha.run H0 σ G1 H1 x1.s (E.later x1) _ fun us G2 H2 x2 r2 => ?_⟩
    exact ⟨G2, _ :: ds, .ex c, x2.s, by simp only [Rps]; exact ⟨_, _, rfl, r1'.mono x2.g, r2⟩, hR, fun cls d G' H' x' rx => w cls d G' H' ((x1.trans x2).trans x') rx⟩
/-! ### new things -/
theorem sub_make {G1 H1 : Hp} {C y dy : Addr} (s : Sub G1 H1) (hy : H1 y = none) (hdy : H1 dy = none) : Sub G1 (upd (upd H1 dy (.own y)) y (.ins C dy [])) := ⟨fun b o hb => by
  have e1 : b ≠ y := fun z => by rw [z, back_none s hy] at hb; cases hb
  have e2 : b ≠ dy := fun z => by rw [z, back_none s hdy] at hb; cases hb
  rw [upd_ne e1, upd_ne e2]; exact s _ _ hb, fun b o hb => by
  by_cases e1 : b = y
  · rw [e1, upd_same] at hb; cases hb
  · rw [upd_ne e1] at hb
    by_cases e2 : b = dy
    · rw [e2, upd_same] at hb; cases hb
    · rw [upd_ne e2] at hb; exact s.t _ _ hb⟩
theorem ex2_make {G H G1 H1 G' H' : Hp} {C y dy : Addr} (x1 : Ex2 G H G1 H1) (hy : H1 y = none) (hdy : H1 dy = none) (xx : Ex2 G1 (less (upd (upd H1 dy (.own y)) y (.ins C dy [])) [y]) G' H') : Ex2 G H G' H' := by
  refine ⟨xx.s, fun b o hb => xx.g _ _ (x1.g _ _ hb), fun b o hb => xx.h _ _ ?_, fun b h1 h2 => xx.n b (x1.n b h1 h2) ?_⟩
  · have hb1 := x1.h _ _ hb
    have e1 : b ≠ y := fun z => by rw [z, hy] at hb1; cases hb1
    have e2 : b ≠ dy := fun z => by rw [z, hdy] at hb1; cases hb1
    rw [less_out (by simp [e1]), upd_ne e1, upd_ne e2]; exact hb1
  · have hb1 := ne_none x1.h h2
    have e1 : b ≠ y := fun z => by rw [z] at hb1; exact hb1 hy
    have e2 : b ≠ dy := fun z => by rw [z] at hb1; exact hb1 hdy
    rw [less_out (by simp [e1]), upd_ne e1, upd_ne e2]; exact hb1
theorem p_makeF {R : Ow → List D → Rm → Prop} {cl : Str} {s1 : Ow} (hX : Cs X m N sc fs k) (F : MkrM m j cl R) (hj : j + 1 ≤ k) (hg : gloB sc cl = true) (hd : dbg cl = true) (hs : es.all nStar = true) (hne : es ≠ []) (ha : As X env es ds) (hR : R (.ins cl [] []) ds (.ok s1 (.per .non))) : P X env (.Call (.Name cl p) es [] pos) s1 := .mk fun H0 σ G H s E Q g => by
  obtain ⟨f, fd, ps, M, hm, hb, F⟩ := F
  have F' : FnOk X.prog X.w X.K X.mg X.base (L2.CX m.P m.w) j f fd ps (spM X.K R) := by rw [hX.hP, hX.hW, hX.hK, hX.hM, hX.hB]; exact F
  cases es with
  | nil => exact absurd rfl hne
  | cons e es =>
    refine WE.of (pe_makeS (C := He.ga X.K cl) (E := fun _ => E0) (by rw [hX.hK]; exact M) F' (hX.room.mono hj) (hX.gl hg) (by rw [hX.hM, hX.hK]; exact hm) (by rw [hX.hK]; exact hb) (fun _ => pass_no) pWA (dbg1 hd) hs) ?_
    refine ha.run H0 σ G H s E _ fun vs G1 H1 x1 r1 y dy hy hdy ne => ?_
    have gy : G1 y = none := back_none x1.s hy
    have sub2 : Sub G1 (upd (upd H1 dy (.own y)) y (.ins (He.ga X.K cl) dy [])) := sub_make x1.s hy hdy
    refine ⟨G1, y, .ins cl [] [], ds, [y], vs, .ok s1 (.per .non), rfl, sub2, ?_, List.nodup_cons.mpr ⟨by simp, List.nodup_nil⟩, r1, hR, ?_⟩
    · simp only [RO, ROs]
      exact ⟨y, dy, [], [], rfl, rfl, gy, upd_same, rfl, rfl, rfl⟩
    · intro v G' H' fp xx r nd fr
      simp only [ROs, RO, Rp] at r
      obtain ⟨v1, vr, f1, f2, e1, rfl, ⟨rfl, ev⟩, v2, vr2, g1, g2, e2, rfl, rs, e3, rfl⟩ := r
      cases e1
      cases e2
      refine ⟨ev, ?_⟩
      have x2 : Ex2 G H G' H' := ex2_make x1 hy hdy xx
      refine g _ G' H' g1 x2 rs (fun b hb => ?_) (by simpa using nd)
      have q := fr b (by simpa using hb)
      refine back_none x1.h ?_
      by_cases e1 : b = y
      · rw [e1]; exact hy
      · rw [less_out (by simp [e1]), upd_ne e1] at q
        by_cases e2 : b = dy
        · rw [e2]; exact hdy
        · rw [upd_ne e2] at q; exact q
theorem px_makeF {R : Ow → List D → Rm → Prop} {cl : Str} {s1 : Ow} (hX : Cs X m N sc fs k) (F : MkrM m j cl R) (hj : j + 1 ≤ k) (hg : gloB sc cl = true) (hd : dbg cl = true) (hs : es.all nStar = true) (hne : es ≠ []) (ha : As X env es ds) (hR : R (.ins cl [] []) ds (.ex c s1)) : PX X env (.Call (.Name cl p) es [] pos) c := .mk fun H0 σ G H s E W tk w Q => by
  obtain ⟨f, fd, ps, M, hm, hb, F⟩ := F
  have F' : FnOk X.prog X.w X.K X.mg X.base (L2.CX m.P m.w) j f fd ps (spM X.K R) := by rw [hX.hP, hX.hW, hX.hK, hX.hM, hX.hB]; exact F
  cases es with
  | nil => exact absurd rfl hne
  | cons e es =>
    refine WE.of (pe_makeS (C := He.ga X.K cl) (by rw [hX.hK]; exact M) F' (hX.room.mono hj) (hX.gl hg) (by rw [hX.hM, hX.hK]; exact hm) (by rw [hX.hK]; exact hb) (fun σ => pass_tk hX tk σ) pWA (dbg1 hd) hs) ?_
    refine ha.run H0 σ G H s E _ fun vs G1 H1 x1 r1 y dy hy hdy ne => ?_
    refine ⟨G1, y, .ins cl [] [], ds, [y], vs, .ex c s1, rfl, sub_make x1.s hy hdy, ?_, List.nodup_cons.mpr ⟨by simp, List.nodup_nil⟩, r1, hR, ?_⟩
    · simp only [RO, ROs]
      exact ⟨y, dy, [], [], rfl, rfl, back_none x1.s hy, upd_same, rfl, rfl, rfl⟩
    · intro cls d G' H' fp xx r nd fr rx
      exact w cls d G' H' (ex2_make x1 hy hdy xx) rx
theorem px_makeA {R : Ow → List D → Rm → Prop} {cl : Str} (hX : Cs X m N sc fs k) (F : MkrM m j cl R) (hk : 1 ≤ k) (hg : gloB sc cl = true) (hd : dbg cl = true) (hs : es.all nStar = true) (hne : es ≠ []) (ha : AX X env es c) : PX X env (.Call (.Name cl p) es [] pos) c := .mk fun H0 σ G H s E W tk w Q => by
  obtain ⟨f, fd, ps, M, hm, hb, F⟩ := F
  have F' : FnOk X.prog X.w X.K X.mg X.base (L2.CX m.P m.w) 0 f fd ps (fun _ _ _ _ => False) := by rw [hX.hP, hX.hW, hX.hK, hX.hM, hX.hB]; exact fnok_never F
  cases es with
  | nil => exact absurd rfl hne
  | cons e es =>
    refine WE.of (pe_makeS (C := He.ga X.K cl) (by rw [hX.hK]; exact M) F' (hX.room.mono hk) (hX.gl hg) (by rw [hX.hM, hX.hK]; exact hm) (by rw [hX.hK]; exact hb) (fun σ => pass_tk hX tk σ) pWA (dbg1 hd) hs) ?_
    exact ha.run H0 σ G H s E W tk w _
end
end Pu

set_option Elab.async false
set_option linter.all false
set_option autoImplicit false
set_option maxRecDepth 100000
set_option maxHeartbeats 1000001
namespace Pu
open PySem L2
/-! ### iterators of new tuples -/
/-- n turns; each hands out a new tuple of values that are known ahead -/
def Itw (ok : Hp → Prop) (n : Nat) (vals : Nat → List V) : It :=
  ⟨fun i H => ok H ∧ i < n, fun i H v H' => ∃ T, v = .ref T ∧ H T = none ∧ H' = upd H T (.tup (vals i)), fun i H => ok H ∧ i = n⟩
theorem turn_walks {P : Program} {w : World} {K : PySem.W.Frag} {elts : List Expr} {kk : Nat} {tpos : Pos} {ok : Hp → Prop} {n : Nat} {vals : Nat → List V} {cells wr : List Addr} {it : Addr} {tn : Nat → Heap → Prop} (mem : it ∈ cells)
    (obj : ∀ i h, tn i h → ∀ b ∈ cells, ∃ o, h.get? b = some o ∧ ∀ v, o.data ≠ .cell v) (keep : ∀ i h h', tn i h → (∀ b ∈ cells, ∀ o, h.get? b = some o → h'.get? b = some o) → tn i h') (wrs : ∀ b ∈ wr, b ∈ cells) (len : ∀ i, (vals i).length ≤ 1000)
    (self : ∀ (A : Around) (i : Nat) (s : Shared) (Q : Value → Shared → Prop) (E : Value → Shared → Prop), tn i s.heap → Q (.ref it) s → wpAny (model P w) A (pyIter (.ref it)) Q E s)
    (walks : ∀ (X : Cx) (pins : List (Addr × Obj)) (σ : L2.St) (H : Hp) (s : Shared), X.prog = P → X.w = w → X.K = K → X.calm = true → L2.Inv X pins σ H s → ok H →
      ∃ (fp : List Addr) (src : Heap → Prop) (Pt : Nat → Array Value → Prop) (Mid : Nat → Addr → Heap → Prop), src s.heap ∧ WalksT P w X.A it fp wr n Pt (fun i h => tn i h ∧ src h) Mid ∧ ∀ i us, i < n → Pt i us → Vals (vals i) us.toList) :
    Turn P w K (.Tuple elts kk tpos) (Itw ok n vals) cells it tn where
  mem := mem
  obj := obj
  keep := keep
  self := self
  item := by
    rintro X rfl rfl rfl hc i pins s σ H E I hf st ⟨hok, hi⟩
    obtain ⟨fp, src, Pt, Mid, hs, W, hv⟩ := walks X pins σ H s rfl rfl rfl hc I hok
    refine W.item i s _ _ hi ⟨st, hs⟩ fun T us h1 tk hp hT isT hm k1 => ⟨_, rfl, W.go elts kk tpos i T _ _ _ hm fun h2 st2 k2 => ?_⟩
    obtain ⟨o, g, c1, m, c2⟩ := isT
    have g2 := k2 T o (W.apart i T h1 hm) g
    have new : ObjOk X.prog X.w (upd H T (.tup (vals i))) h2 T (.tup (vals i)) := ⟨Nat.le_trans (len i) (by rw [sizeLine_eq]; decide), us.toList, hv i us hi hp, o, g2, c1, m, by simpa using c2⟩
    have J := I.turnedNew (t' := tk) (ch := wr) (fun c u hb q => k2 c u hb (k1 c u hb q)) (fun b hb => hf b (wrs b hb)) hT new
    refine ⟨.ref T, _, J, rfl, ⟨T, rfl, I.hok.fresh hT, rfl⟩, st2.1, fun b hb => (upd_ne ?_).trans (hf b hb).1⟩
    obtain ⟨u, hu, _⟩ := obj i _ st b hb
    exact Nat.ne_of_lt (Nat.lt_of_lt_of_le (Heap.lt_size hu) hT)
  done := by
    rintro X rfl rfl rfl hc i pins s σ H E I hf st ⟨hok, rfl⟩
    obtain ⟨fp, src, Pt, Mid, hs, W, hv⟩ := walks X pins σ H s rfl rfl rfl hc I hok
    exact W.done s _ _ ⟨st, hs⟩ fun h1 tk k1 => ⟨rfl, I.turnedL (t' := tk) (ch := wr) (fun c u hb q => k1 c u hb q) fun b hb => hf b (wrs b hb)⟩
/-! ### what such an iterator may go through: a list, a tuple -/
def SqB (q : Bool) (K : PySem.W.Frag) (H : Hp) (a : Addr) (xs : List V) : Prop := match q with | true => SqT K H a xs | false => SqL K H a xs
def IsItB (q : Bool) (h : Heap) (it a : Addr) (i : Nat) : Prop := match q with | true => h.IsTupleIter it a i | false => h.IsListIter it a i
def IsSqB (q : Bool) (h : Heap) (a : Addr) (us : Array Value) : Prop := match q with | true => h.IsTuple a us | false => h.IsList a us
def itObj (q : Bool) (a : Addr) : Obj := match q with | true => { cls := .type "tuple_iterator", data := .fields #[.ref a, .int 0 0] } | false => { cls := .type "list_iterator", data := .fields #[.ref a, .int 0 0] }
theorem seqB {q : Bool} {X : Cx} {pins : List (Addr × Obj)} {σ : L2.St} {H : Hp} {s : Shared} {a : Addr} {xs : List V} (I : L2.Inv X pins σ H s) (h : SqB q X.K H a xs) : ∃ us : List Value, Vals xs us ∧ IsSqB q s.heap a us.toArray ∧ a < s.heap.objs.size := by
  cases q with
  | false =>
    obtain ⟨us, r, p, _⟩ := I.list h
    exact ⟨us, r, p.isList, p.lt⟩
  | true =>
    obtain ⟨us, r, p, _⟩ := I.tuple h
    obtain ⟨o, g, _⟩ := id p
    exact ⟨us, r, p, Heap.lt_size g⟩
theorem drawsB (q : Bool) {P : Program} {w : World} {A : Around} (hh : A.handled = none) (it a : Addr) (hne : a ≠ it) (us : Array Value) : Draws P w A it [it, a] us.size (fun i v => us[i]? = some v) (fun i h => IsItB q h it a i ∧ IsSqB q h a us) := by
  cases q with
  | false => exact Draws.list hh it a hne us
  | true => exact Draws.tuple hh it a hne us
theorem beginsB (q : Bool) (a : Addr) (us : Array Value) : Begins (.ref a) (itObj q a) fun h => IsSqB q h a us := by
  cases q with
  | false => exact begins_list a us
  | true => exact begins_tuple a us
theorem isItB_new {q : Bool} {h : Heap} {it a : Addr} (e : h.get? it = some (itObj q a)) : IsItB q h it a 0 := by
  cases q with
  | false => exact ⟨_, e, rfl, rfl⟩
  | true => exact ⟨_, e, rfl, rfl⟩
theorem isItB_obj {q : Bool} {h : Heap} {it a : Addr} {i : Nat} (st : IsItB q h it a i) : ∃ o, h.get? it = some o ∧ ∀ v, o.data ≠ .cell v := by
  cases q with
  | false =>
    obtain ⟨o, e, _, d⟩ := st
    exact ⟨o, e, fun v z => by rw [d] at z; cases z⟩
  | true =>
    obtain ⟨o, e, _, d⟩ := st
    exact ⟨o, e, fun v z => by rw [d] at z; cases z⟩
theorem isItB_at {q : Bool} {h h' : Heap} {it a : Addr} {i : Nat} (st : IsItB q h it a i) (k : ∀ o, h.get? it = some o → h'.get? it = some o) : IsItB q h' it a i := by
  cases q with
  | false => exact Heap.IsListIter.at st k
  | true => exact Heap.IsTupleIter.at st k
/-! ### zip -/
def zipV (xs ys : List V) (i : Nat) : List V := match xs[i]?, ys[i]? with | some x, some y => [x, y] | _, _ => []
def zipSt (q1 q2 : Bool) (N a b : Nat) (i : Nat) (h : Heap) : Prop := IsZip h (N + 4) (N + 2) (N + 3) .none ∧ IsTupOf2 h (N + 2) (.ref N) (.ref (N + 1)) ∧ (∃ x y, IsTupOf2 h (N + 3) x y) ∧ IsItB q1 h N a i ∧ IsItB q2 h (N + 1) b i
theorem turn_zipB {P : Program} {w : World} {K : PySem.W.Frag} {elts : List Expr} {kk : Nat} {tpos : Pos} (q1 q2 : Bool) (N a b : Nat) (ha : a < N) (hb : b < N) (xs ys : List V) :
    Turn P w K (.Tuple elts kk tpos) (Itw (fun H => SqB q1 K H a xs ∧ SqB q2 K H b ys) (min xs.length ys.length) (zipV xs ys)) [N + 4, N + 2, N + 3, N, N + 1] (N + 4) (zipSt q1 q2 N a b) := by
  refine turn_walks (wr := [N + 4, N + 3, N, N + 1]) (by simp) (fun i h st c hc => ?_) (fun i h h' st k => ?_) (fun c hc => ?_) (fun i => ?_) (fun A i s Q E st => wpAny_pyIter_zip st.1) ?_
  · obtain ⟨z1, z2, ⟨x, y, z3⟩, z4, z5⟩ := st
    simp only [List.mem_cons, List.not_mem_nil, or_false] at hc
    rcases hc with rfl | rfl | rfl | rfl | rfl
    · exact ⟨_, z1, nofun⟩
    · exact ⟨_, z2, nofun⟩
    · exact ⟨_, z3, nofun⟩
    · exact isItB_obj z4
    · exact isItB_obj z5
  · obtain ⟨z1, z2, ⟨x, y, z3⟩, z4, z5⟩ := st
    exact ⟨k _ (by simp) _ z1, k _ (by simp) _ z2, ⟨x, y, k _ (by simp) _ z3⟩, isItB_at z4 fun o => k _ (by simp) o, isItB_at z5 fun o => k _ (by simp) o⟩
  · simp only [List.mem_cons, List.not_mem_nil, or_false] at hc ⊢
    rcases hc with rfl | rfl | rfl | rfl <;> simp
  · unfold zipV
    split <;> simp
  · rintro X pins σ H s rfl rfl rfl hc I ⟨h1, h2⟩
    obtain ⟨us, r1, i1, _⟩ := seqB I h1
    obtain ⟨ws, r2, i2, _⟩ := seqB I h2
    have l1 : us.toArray.size = xs.length := by simp [r1.length]
    have l2 : ws.toArray.size = ys.length := by simp [r2.length]
    have S : ZipSep2 (N + 4) (N + 2) (N + 3) N (N + 1) (N :: [a]) ((N + 1) :: [b]) := zip_sep2 (by simpa using ha) (by simpa using hb)
    have W := WalksT.zipD2 (prog := X.prog) (w := X.w) (A := X.A) S (drawsB q1 (A := X.A.in1) (I.ok.hd hc) N a (Nat.ne_of_lt ha) us.toArray) (drawsB q2 (A := X.A.in1) (I.ok.hd hc) (N + 1) b (Nat.ne_of_lt (Nat.lt_succ_of_lt hb)) ws.toArray)
    rw [l1, l2] at W
    have e : (fun i h => zipSt q1 q2 N a b i h ∧ (IsSqB q1 h a us.toArray ∧ IsSqB q2 h b ws.toArray)) = (fun i h => IsZip h (N + 4) (N + 2) (N + 3) .none ∧ IsTupOf2 h (N + 2) (.ref N) (.ref (N + 1)) ∧ (∃ a1 a2, IsTupOf2 h (N + 3) a1 a2) ∧ (IsItB q1 h N a i ∧ IsSqB q1 h a us.toArray) ∧ (IsItB q2 h (N + 1) b i ∧ IsSqB q2 h b ws.toArray)) := by
      funext i h
      unfold zipSt
      apply propext
      constructor
      · rintro ⟨⟨z1, z2, z3, z4, z5⟩, z6, z7⟩
        exact ⟨z1, z2, z3, ⟨z4, z6⟩, z5, z7⟩
      · rintro ⟨z1, z2, z3, ⟨z4, z6⟩, z5, z7⟩
        exact ⟨⟨z1, z2, z3, z4, z5⟩, z6, z7⟩
    rw [← e] at W
    refine ⟨_, fun h => IsSqB q1 h a us.toArray ∧ IsSqB q2 h b ws.toArray, _, _, ⟨i1, i2⟩, W, ?_⟩
    rintro i _ hi ⟨x1, x2, p1, p2, rfl⟩
    have hi1 : i < xs.length := by omega
    have hi2 : i < ys.length := by omega
    obtain ⟨u1, e1, q3⟩ := r1.get (List.getElem?_eq_getElem hi1)
    obtain ⟨u2, e2, q4⟩ := r2.get (List.getElem?_eq_getElem hi2)
    simp only [List.getElem?_toArray] at p1 p2
    rw [e1] at p1
    rw [e2] at p2
    cases p1
    cases p2
    unfold zipV
    rw [List.getElem?_eq_getElem hi1, List.getElem?_eq_getElem hi2]
    exact .cons q3 (.cons q4 .nil)
def iZipB (K : PySem.W.Frag) (ta : TA) : TI := fun σ H R => ta σ H fun vs H1 => ∃ (q1 q2 : Bool) (a b : Addr) (xs ys : List V), vs = [.ref a, .ref b] ∧ SqB q1 K H1 a xs ∧ SqB q2 K H1 b ys ∧ R (Itw (fun H => SqB q1 K H a xs ∧ SqB q2 K H b ys) (min xs.length ys.length) (zipV xs ys)) H1
theorem pi_zipB {X : Cx} {e e2 : Expr} {ta : TA} {p pos tpos : Pos} {elts : List Expr} {kk : Nat} (hg : Gl X "zip") (hm : X.mg "zip" = none) (ha : PA X [e, e2] ta) (hs : starEach [e, e2] X.env = (false, eval e X.env) :: starEach [e2] X.env) (hpl : (backTo pos (starEach [e2] X.env)).any (·.1) = false) :
    PI X (.Tuple elts kk tpos) (.Call (.Name "zip" p) [e, e2] [] pos) (iZipB X.K ta) where
  run := fun pins s σ H R I h => PyProof.Rows.Call_ (ld_blt I hg hm PyProof.Rows.boot_zip (PyProof.Rows.callWith_type1 (thn (ha.run pos pins s σ H _ I h) (by
    rintro _ s1 ⟨_, H1, J, r, q1, q2, a, b, xs, ys, rfl, h1, h2, hR⟩
    rcases r with _ | ⟨r1, r⟩
    rcases r with _ | ⟨r2, r⟩
    cases r
    cases r1
    cases r2
    obtain ⟨us, _, i1, la⟩ := seqB J h1
    obtain ⟨ws, _, i2, lb⟩ := seqB J h2
    refine zip_begins2 (beginsB q1 a us.toArray) (beginsB q2 b ws.toArray) i1 i2 fun h' z1 z2 z3 z4 z5 _ k => wpAny_pyIter_zip z1 ?_
    refine ⟨s1.heap.objs.size + 4, _, _, _, H1, rfl, J.kept (t' := s1.toks) k, turn_zipB q1 q2 s1.heap.objs.size a b la lb xs ys, ⟨z1, z2, ⟨_, _, z3⟩, isItB_new z4, isItB_new z5⟩, fun c hc => ?_, hR⟩
    have hle : s1.heap.objs.size ≤ c := by
      simp only [List.mem_cons, List.not_mem_nil, or_false] at hc
      rcases hc with rfl | rfl | rfl | rfl | rfl <;> first | exact Nat.le_refl _ | exact Nat.le_add_right _ _
    exact J.fpOk hle (J.hok.fresh hle))) hs hpl))
section
variable {X : Cx} {m : Md} {N : List Str} {sc fs : Scope} {k : Nat} {env : Ev} {a b e e2 : Expr} {elts : List Expr} {pos p tpos : Pos} {ds es' : List D}
theorem sqB_of {K : PySem.W.Frag} {G : Hp} {d : D} {ds : List D} {v : V} (hd : d.asS = some ds) (h : Rp K G d v) : ∃ (q : Bool) (a : Addr) (xs : List V), v = .ref a ∧ (∀ H, (∀ b o, G b = some o → H b = some o) → SqB q K H a xs) ∧ Rps K G ds xs := by
  cases d <;> simp only [D.asS] at hd <;> first | (cases hd; done) | skip
  · cases hd
    simp only [Rp] at h
    obtain ⟨a, xs, rfl, h2, h3⟩ := h
    exact ⟨false, a, xs, rfl, fun H k => SqL.of (k _ _ h2), h3⟩
  · cases hd
    simp only [Rp] at h
    obtain ⟨a, xs, rfl, h2, h3⟩ := h
    exact ⟨true, a, xs, rfl, fun H k => SqT.of (k _ _ h2), h3⟩
  · cases hd
    simp only [Rp] at h
    obtain ⟨a, xs, rfl, h2, h3⟩ := h
    exact ⟨false, a, xs, rfl, fun H k => sqL_mono k h2, h3⟩
  · cases hd
    simp only [Rp] at h
    obtain ⟨a, xs, rfl, h2, h3⟩ := h
    exact ⟨true, a, xs, rfl, fun H k => sqT_mono k h2, h3⟩
theorem zipD_at : ∀ {xs ys : List D} {i : Nat} {d : D}, (zipD xs ys)[i]? = some d → ∃ x y, xs[i]? = some x ∧ ys[i]? = some y ∧ d = .tup [x, y] := zipD_get
theorem zipD_len : ∀ (xs ys : List D), (zipD xs ys).length = min xs.length ys.length
  | [], ys => by simp [zipD]
  | _ :: _, [] => by simp [zipD]
  | x :: xs, y :: ys => by simp only [zipD, List.length_cons, zipD_len xs ys]; omega
theorem it_zipB (hX : Cs X m N sc fs k) {d1 d2 : D} {kk : Nat} (hd1 : d1.asS = some ds) (hd2 : d2.asS = some es') (hg : gloB sc "zip" = true) (hm : m.mg "zip" = none) (ha : P X env a (.per d1)) (hb : P X env b (.per d2)) (hs : nStar a = true) (hs2 : nStar b = true) :
    Iter X env (.Tuple elts kk tpos) (.Call (.Name "zip" p) [a, b] [] pos) (zipD ds es') := .mk fun H0 σ G H s E R go =>
  WI.of (pi_zipB (hX.gl hg) (by rw [hX.hM]; exact hm) pWA (star_of hs _) (star_any (by simp [hs2]) _)) ((as_cons ha (as_cons hb as_nil fun en => star_of hs2 en) fun en => star_of hs en).run H0 σ G H s E _ fun vs G1 H1 x1 r => by
    simp only [Rps] at r
    obtain ⟨v1, _, rfl, r1, v2, _, rfl, r2, rfl⟩ := r
    obtain ⟨q1, a1, xs, rfl, s1, t1⟩ := sqB_of hd1 r1
    obtain ⟨q2, a2, ys, rfl, s2, t2⟩ := sqB_of hd2 r2
    refine ⟨q1, q2, a1, a2, xs, ys, rfl, s1 H1 x1.s, s2 H1 x1.s, go _ G1 H1 x1 fun i G2 H2 eg sub => ⟨fun d hd => ?_, fun hi => ?_⟩⟩
    · obtain ⟨x, y, e1, e2, rfl⟩ := zipD_get hd
      obtain ⟨v1, w1, w2⟩ := t1.get e1
      obtain ⟨v2, w3, w4⟩ := t2.get e2
      have b1 : i < xs.length := (List.getElem?_eq_some_iff.mp w1).1
      have b2 : i < ys.length := (List.getElem?_eq_some_iff.mp w3).1
      refine ⟨⟨⟨s1 H2 fun b o z => sub _ _ (eg _ _ z), s2 H2 fun b o z => sub _ _ (eg _ _ z)⟩, by omega⟩, ?_⟩
      rintro _ _ ⟨T, rfl, hT, rfl⟩
      have ev : zipV xs ys i = [v1, v2] := by unfold zipV; rw [w1, w3]
      rw [ev]
      refine ⟨_, Ex2.new sub hT, ?_⟩
      simp only [Rp, Rps]
      have old : ∀ b o, G1 b = some o → upd G2 T (.tup [v1, v2]) b = some o := fun b o z => by
        rw [upd_ne]
        · exact eg _ _ z
        · intro z2
          rw [z2] at z
          rw [sub _ _ (eg _ _ z)] at hT
          cases hT
      exact ⟨T, _, rfl, upd_same, v1, _, rfl, w2.mono old, v2, _, rfl, w4.mono old, rfl⟩
    · refine ⟨⟨s1 H2 fun b o z => sub _ _ (eg _ _ z), s2 H2 fun b o z => sub _ _ (eg _ _ z)⟩, ?_⟩
      rw [hi, zipD_len, t1.length, t2.length])
end
end Pu

set_option Elab.async false
set_option linter.all false
set_option autoImplicit false
set_option maxRecDepth 100000
set_option maxHeartbeats 1000001
namespace Pu
open PySem L2
/-! ### a list from behind, drawn by another iterator -/
/-- its end -/
theorem rev_ends {prog : Program} {w : World} {A : Around} {E : Value → Shared → Prop} {s : Shared} {it l : Addr} {Q : Value → Shared → Prop} (hh : A.handled = none) (d1 : Option Addr) (z1 : Array (Option Value)) (h1 : s.heap.get? it = some { cls := .type "list_reverseiterator", dict := d1, data := .fields #[.ref l, rawInt (-1)], slots := z1 })
    (hE : ∀ h' e, Heap.ExtBut it s.heap h' → (∃ o, h'.get? e = some o ∧ o.cls = .type "StopIteration") → E (.ref e) { s with heap := h' }) :
    wpAny (model prog w) A (Builtin.SmallTypes.nextOf (.ref it)) Q E s := by
  have ty : s.TypeIs (.ref it) "list_reverseiterator" := ⟨_, h1, rfl⟩
  refine wpAny_bind (wpAny_callSpecial?_slot (name := Str.ofString "__next__") ty F.slot_lri_next (wpAny_call_entry F.slot_lri_next ty F.entry_lri_next ?_ (F.args_lri_next_1 _)))
  wp_walk using AutoSeq1.wpAny_loadPart' h1
  have free : A.in1.handled = none := hh
  unfold raiseNew
  refine wpAny_bind (wpAny_handled ?_)
  simp only [free, hh]
  refine wpAny_throw (hE _ _ ?old ?exc)
  case old => exact ((Heap.ExtBut.refl it s.heap).push _).push _
  case exc => exact ⟨_, Heap.get?_push_size _ rfl, rfl⟩
theorem rev_next {prog : Program} {w : World} {A : Around} {E : Value → Shared → Prop} {s : Shared} {it l : Addr} {i : Nat} {items : Array Value} {x : Value} {Q : Value → Shared → Prop} (r : s.heap.IsRevIter it l (i : Int)) (p : s.heap.IsList l items) (hx : items[i]? = some x)
    (hQ : ∀ h', h'.IsRevIter it l ((i : Int) - 1) → Heap.SameBut it s.heap h' → Q x { s with heap := h' }) : wpAny (model prog w) A (Builtin.SmallTypes.nextOf (.ref it)) Q E s := by
  have ty := r.typeIs
  obtain ⟨⟨_, d1, _, z1⟩, r1, rfl, rfl⟩ := r
  obtain ⟨⟨_, d2, _, z2⟩, p1, rfl, n, rfl⟩ := p
  have pos : ¬ (i : Int) < 0 := by omega
  refine wpAny_bind (wpAny_callSpecial?_slot (name := Str.ofString "__next__") ty F.slot_lri_next (wpAny_call_entry F.slot_lri_next ty F.entry_lri_next ?_ (F.args_lri_next_1 _)))
  wp_walk using AutoSeq1.wpAny_loadPart' r1, AutoSeq1.wpAny_loadPart' p1
  rw [Int.toNat_natCast, hx]
  refine wpAny_bind (wpAny_setField r1 rfl (by simp) (wpAny_pure ⟨x, rfl, wpAny_pure (hQ _ ⟨_, Heap.get?_update_self _ r1 rfl, rfl, ?_⟩ (Heap.SameBut.update ..))⟩))
  rw [Obj.data_mapFields rfl]
  rfl
theorem draws_rev {prog : Program} {w : World} {A : Around} (free : A.handled = none) (it l : Addr) (apart : l ≠ it) (xs : Array Value) :
    Draws prog w A it [it, l] xs.size (fun j v => xs[xs.size - 1 - j]? = some v) (fun j h => (j ≤ xs.size ∧ h.IsRevIter it l ((xs.size : Int) - 1 - (j : Int))) ∧ h.IsList l xs) := by
  refine ⟨fun j h t => ?_, fun j h h' t keep => ?_, fun j s Q E lt t go => ?_, fun s Q E t go => ?_⟩
  · obtain ⟨o, z, _⟩ := t.1.2
    exact ⟨o, z⟩
  · exact ⟨⟨t.1.1, t.1.2.at fun o z => keep it (by simp) o z⟩, t.2.at fun o z => keep l (by simp) o z⟩
  · have bd : xs.size - 1 - j < xs.size := by omega
    have r := t.1.2
    rw [show (xs.size : Int) - 1 - (j : Int) = ((xs.size - 1 - j : Nat) : Int) by omega] at r
    refine rev_next r t.2 (Array.getElem?_eq_getElem bd) fun h' r' same => go _ h' s.toks (Array.getElem?_eq_getElem bd) ⟨⟨lt, ?_⟩, t.2.extBut same.extBut apart⟩ same
    rw [show (xs.size : Int) - 1 - ((j + 1 : Nat) : Int) = ((xs.size - 1 - j : Nat) : Int) - 1 by omega]
    exact r'
  · have r := t.1.2
    rw [show (xs.size : Int) - 1 - (xs.size : Int) = -1 by omega] at r
    obtain ⟨⟨_, d1, _, z1⟩, r1, rfl, rfl⟩ := r
    exact rev_ends free d1 z1 r1 go
/-- enumerate of such an iterator -/
theorem enumR_new (it l : Addr) (i : Int) :
    Meets (Builtin.«enumerate.__new__» ⟨[.type "enumerate", .ref it], []⟩) (fun _ R s => s.heap.IsRevIter it l i ∧
      R (.ok (.ret (.ref s.heap.objs.size))) { s with heap := s.heap.push { cls := .type "enumerate", data := .fields #[.none, .bool false, .ref it, rawInt 0, .none, .none] } }) := by
  refine .of_wp fun prog w A R t ⟨r, fin⟩ => ?_
  have known := sub_enumerate
  have self : ∀ {A' : Around} {E : Value → Shared → Prop} {Q : Value → Shared → Prop}, Q (.ref it) t → wpAny (model prog w) A' (pyIter (.ref it)) Q E t := fun q => wpAny_pyIter_revIter r q
  wp_walk using self
  refine wpAny_stack_any fun _ => wpAny_pure ?_
  split
  · rename_i cl _ _ _ _ _
    cases cl == Value.type "enumerate" <;> (wp_walk using self; exact ⟨_, rfl, fin⟩)
  · wp_walk using self
    exact ⟨_, rfl, fin⟩
theorem call_enumR {prog : Program} {w : World} {A : Around} {E : Value → Shared → Prop} {s : Shared} {it l : Addr} {i : Int} {Q : Value → Shared → Prop} (hr : s.heap.IsRevIter it l i)
    (h : ∀ h', IsEnum h' s.heap.objs.size it 0 .none → (∀ b o, s.heap.get? b = some o → h'.get? b = some o) → Q (.ref s.heap.objs.size) { s with heap := h' }) :
    wpAny (model prog w) A (call (.type "enumerate") [.ref it]) Q E s := by
  refine callType_new F.called_enumerate (by decide) (F.typeCall_enumerate_1 _) (F.newCall_enumerate_1 _) (fun obj => F.args_object_init_2 obj _) F.entry_enumerate_new (enumR_new it l i) ⟨hr, ?_⟩
  show _ ∧ _
  have he : IsEnum (s.heap.push { cls := .type "enumerate", data := .fields #[.none, .bool false, .ref it, rawInt 0, .none, .none] }) s.heap.objs.size it 0 .none := Heap.get?_push_size _ rfl
  exact ⟨⟨_, he, rfl⟩, h _ he fun b o x => Heap.get?_push_of_some _ x⟩
/-! ### enumerate(reversed(xs)) -/
def enrV (xs : List V) (i : Nat) : List V := match xs.reverse[i]? with | some x => [.int i, x] | none => []
def enrSt (n N a : Nat) (i : Nat) (h : Heap) : Prop := (∃ old, IsEnum h (N + 1) N ((0 : Int) + (i : Int)) old) ∧ i ≤ n ∧ h.IsRevIter N a ((n : Int) - 1 - (i : Int))
theorem turn_enr {P : Program} {w : World} {K : PySem.W.Frag} {elts : List Expr} {kk : Nat} {tpos : Pos} (N a : Nat) (ha : a < N) (xs : List V) :
    Turn P w K (.Tuple elts kk tpos) (Itw (fun H => SqL K H a xs) xs.length (enrV xs)) [N + 1, N] (N + 1) (enrSt xs.length N a) := by
  refine turn_walks (wr := [N + 1, N]) (by simp) (fun i h st c hc => ?_) (fun i h h' st k => ?_) (fun c hc => hc) (fun i => ?_) (fun A i s Q E st => ?_) ?_
  · obtain ⟨⟨old, z1⟩, _, o, z2, _, z3⟩ := st
    simp only [List.mem_cons, List.not_mem_nil, or_false] at hc
    rcases hc with rfl | rfl
    · exact ⟨_, z1, nofun⟩
    · exact ⟨o, z2, fun v z => by rw [z3] at z; cases z⟩
  · obtain ⟨⟨old, z1⟩, z2, z3⟩ := st
    exact ⟨⟨old, k _ (by simp) _ z1⟩, z2, z3.at fun o => k _ (by simp) o⟩
  · unfold enrV
    split <;> simp
  · obtain ⟨old, z⟩ := st.1
    exact wpAny_pyIter_enum z
  · rintro X pins σ H s rfl rfl rfl hc I h1
    obtain ⟨us, r1, p, _⟩ := I.list h1
    have l1 : us.toArray.size = xs.length := by simp [r1.length]
    have W := WalksT.enumFrom (prog := X.prog) (w := X.w) (A := X.A) 0 (draws_rev (A := X.A.in1) (I.ok.hd hc) N a (Nat.ne_of_lt ha) us.toArray) (N + 1) (Nat.succ_ne_self N) (fun z => by
      rcases List.mem_cons.mp z with z | z
      · exact Nat.succ_ne_self N z
      · exact absurd (List.mem_singleton.mp z) (Nat.ne_of_gt (Nat.lt_succ_of_lt ha))) (by simp)
    rw [l1] at W
    have e : (fun i h => enrSt xs.length N a i h ∧ h.IsList a us.toArray) = (fun (i : Nat) h => (∃ old, IsEnum h (N + 1) N ((0 : Int) + (i : Int)) old) ∧ (i ≤ xs.length ∧ h.IsRevIter N a ((xs.length : Int) - 1 - (i : Int))) ∧ h.IsList a us.toArray) := by
      funext i h
      unfold enrSt
      apply propext
      constructor
      · rintro ⟨⟨z1, z2, z3⟩, z4⟩
        exact ⟨z1, ⟨z2, z3⟩, z4⟩
      · rintro ⟨z1, ⟨z2, z3⟩, z4⟩
        exact ⟨⟨z1, z2, z3⟩, z4⟩
    rw [← e] at W
    refine ⟨_, fun h => h.IsList a us.toArray, _, _, p.isList, W, ?_⟩
    rintro i _ hi ⟨t, x, p1, rfl⟩
    have hi1 : xs.length - 1 - i < xs.length := by omega
    obtain ⟨u1, e1, q3⟩ := r1.get (List.getElem?_eq_getElem hi1)
    simp only [List.getElem?_toArray] at p1
    rw [e1] at p1
    cases p1
    unfold enrV
    rw [List.getElem?_reverse (by omega), List.getElem?_eq_getElem hi1]
    exact .cons ⟨t, by rw [Int.zero_add]⟩ (.cons q3 .nil)
def iEnr (K : PySem.W.Frag) (ta : TA) : TI := fun σ H R => ta σ H fun vs H1 => ∃ (a : Addr) (xs : List V), vs = [.ref a] ∧ SqL K H1 a xs ∧ R (Itw (fun H => SqL K H a xs) xs.length (enrV xs)) H1
theorem pi_enr {X : Cx} {e : Expr} {ta : TA} {p p2 pos pos2 tpos : Pos} {elts : List Expr} {kk : Nat} (hg : Gl X "enumerate") (hm : X.mg "enumerate" = none) (hg2 : Gl X "reversed") (hm2 : X.mg "reversed" = none) (ha : PA X [e] ta) (hs : starEach [e] X.env = [(false, eval e X.env)]) :
    PI X (.Tuple elts kk tpos) (.Call (.Name "enumerate" p) [.Call (.Name "reversed" p2) [e] [] pos2] [] pos) (iEnr X.K ta) where
  run := fun pins s σ H R I h => by
    refine PyProof.Rows.Call_ (ld_blt I hg hm PyProof.Rows.boot_enumerate (PyProof.Rows.callWith_type1 (PyProof.Rows.args_cons ?_ rfl) rfl rfl))
    refine PyProof.Rows.Call_ (ld_blt I hg2 hm2 PyProof.Rows.boot_reversed (PyProof.Rows.callWith_type1 (thn (ha.run pos2 pins s σ H _ I h) ?_) hs rfl))
    rintro _ s1 ⟨_, H1, J, r, a, xs, rfl, h1, hR⟩
    rcases r with _ | ⟨r1, r⟩
    cases r
    cases r1
    obtain ⟨us, rv, pl, _⟩ := J.list h1
    have la : a < s1.heap.objs.size := pl.lt
    refine call_reversed_list pl.isList (PyProof.Rows.args_nil ?_)
    have hz : (s1.heap.push (revObj a ((us.toArray.size : Int) - 1))).objs.size = s1.heap.objs.size + 1 := Heap.size_push ..
    have hr : (s1.heap.push (revObj a ((us.toArray.size : Int) - 1))).IsRevIter s1.heap.objs.size a ((us.toArray.size : Int) - 1) := ⟨_, Heap.get?_push_size _ rfl, rfl, rfl⟩
    refine call_enumR (s := { s1 with heap := s1.heap.push (revObj a ((us.toArray.size : Int) - 1)) }) hr fun h' z1 k => ?_
    show wpAny _ _ (pyIter (.ref (s1.heap.push (revObj a ((us.toArray.size : Int) - 1))).objs.size)) _ _ _
    change IsEnum h' (s1.heap.push (revObj a ((us.toArray.size : Int) - 1))).objs.size s1.heap.objs.size 0 .none at z1
    rw [hz] at z1 ⊢
    refine wpAny_pyIter_enum z1 ?_
    have e1 : (us.toArray.size : Int) - 1 = (xs.length : Int) - 1 - ((0 : Nat) : Int) := by simp [rv.length]
    have k2 : ∀ b o, s1.heap.get? b = some o → h'.get? b = some o := fun b o x => k b o (Heap.get?_push_of_some _ x)
    refine ⟨s1.heap.objs.size + 1, _, _, _, H1, rfl, J.kept (t' := s1.toks) k2, turn_enr s1.heap.objs.size a la xs, ⟨⟨_, z1⟩, Nat.zero_le _, by rw [← e1]; exact hr.at fun o => k _ o⟩, fun c hc => ?_, hR⟩
    have hle : s1.heap.objs.size ≤ c := by
      simp only [List.mem_cons, List.not_mem_nil, or_false] at hc
      rcases hc with rfl | rfl <;> first | exact Nat.le_refl _ | exact Nat.le_add_right _ _
    exact J.fpOk hle (J.hok.fresh hle)
section
variable {X : Cx} {m : Md} {N : List Str} {sc fs : Scope} {k : Nat} {env : Ev} {a b e e2 tg iter : Expr} {elts : List Expr} {pos p tpos p2 pos2 : Pos} {ds es' : List D}
theorem it_enr (hX : Cs X m N sc fs k) {dd : D} {kk : Nat} (hl : IsL dd ds) (hg : gloB sc "enumerate" = true) (hm : m.mg "enumerate" = none) (hg2 : gloB sc "reversed" = true) (hm2 : m.mg "reversed" = none) (ha : P X env e (.per dd)) (he : ∀ en, starEach [e] en = [(false, eval e en)]) :
    Iter X env (.Tuple elts kk tpos) (.Call (.Name "enumerate" p) [.Call (.Name "reversed" p2) [e] [] pos2] [] pos) (enumD 0 ds.reverse) := .mk fun H0 σ G H s E R go =>
  WI.of (pi_enr (hX.gl hg) (by rw [hX.hM]; exact hm) (hX.gl hg2) (by rw [hX.hM]; exact hm2) pWA (he _)) ((as_cons ha as_nil he).run H0 σ G H s E _ fun vs G1 H1 x1 r1 => by
    obtain ⟨v, rfl, r2⟩ := rps1 r1
    obtain ⟨q, xs, rfl, h2, h3⟩ := hl.seq r2
    have hlen := h3.length
    refine ⟨q, xs, rfl, sub_sqL x1.s h2, go _ G1 H1 x1 fun i G' H' eg s' => ⟨fun d hd => ?_, fun hi => ?_⟩⟩
    · unfold enumD at hd
      rw [List.getElem?_mapIdx] at hd
      cases z : ds.reverse[i]? with
      | none => rw [z] at hd; cases hd
      | some d' =>
        rw [z] at hd
        cases hd
        have hi : i < ds.length := by
          have := (List.getElem?_eq_some_iff.mp z).1
          simpa using this
        rw [List.getElem?_reverse hi] at z
        obtain ⟨v, h4, h5⟩ := h3.get z
        refine ⟨⟨sub_sqL s' (sqL_mono eg h2), by omega⟩, ?_⟩
        rintro _ _ ⟨T, rfl, hT, rfl⟩
        have ev : enrV xs i = [.int i, v] := by
          unfold enrV
          rw [List.getElem?_reverse (by omega), hlen, h4]
        rw [ev]
        refine ⟨_, Ex2.new s' hT, ?_⟩
        simp only [Rp, Rps]
        have old : ∀ b o, G1 b = some o → upd G' T (.tup [V.int i, v]) b = some o := fun b o z => by
          rw [upd_ne]
          · exact eg _ _ z
          · intro z2
            rw [z2] at z
            rw [s' _ _ (eg _ _ z)] at hT
            cases hT
        exact ⟨T, _, rfl, upd_same, .int i, _, rfl, by rw [Int.zero_add], v, _, rfl, h5.mono old, rfl⟩
    · refine ⟨sub_sqL s' (sqL_mono eg h2), ?_⟩
      rw [hi, hlen]
      unfold enumD
      simp)
/-! ### for k in d, d a dict for good, its keys tuples -/
theorem rps_key {K : PySem.W.Frag} {G : Hp} : ∀ k : List Key, Rps K G (k.map keyD1) (k.map kV)
  | [] => by simp only [List.map_nil, Rps]
  | .inl i :: k => by simp only [List.map_cons, Rps, keyD1, Rp]; exact ⟨_, _, rfl, rfl, rps_key k⟩
  | .inr i :: k => by simp only [List.map_cons, Rps, keyD1, Rp]; exact ⟨_, _, rfl, rfl, rps_key k⟩
theorem it_keysT {ks : List (List Key)} (ha : P X env iter (.per (.dL ks ds))) : Iter X env tg iter (ks.map keyD) := .mk fun H0 σ G H s E R go =>
  WI.of (pi_keys pWE) (ha.go s E fun v G1 H1 x1 r1 => by
    simp only [Rp] at r1
    obtain ⟨a, xs, rfl, ⟨o, h2⟩, h3, h4⟩ := r1
    have hl : ks.length = xs.length := by rw [h3, h4.length]
    have hz : (ks.zip xs).length = ks.length := by rw [List.length_zip, ← hl, Nat.min_self]
    refine ⟨a, o, rfl, .inr ⟨ks.zip xs, x1.s _ _ h2, go _ G1 H1 x1 fun i G' H' eg s' => ⟨fun d hd => ?_, fun hi => ?_⟩⟩⟩
    · rw [List.getElem?_map] at hd
      cases z : ks[i]? with
      | none => rw [z] at hd; cases hd
      | some key =>
        rw [z] at hd
        cases hd
        have hi := (List.getElem?_eq_some_iff.mp z).1
        refine ⟨⟨s' _ _ (eg _ _ h2), by rw [hz]; exact hi⟩, ?_⟩
        rintro _ _ ⟨rfl, key', v, q, e2, rfl, e4⟩
        rw [List.getElem?_zip_eq_some] at e2
        rw [z] at e2
        cases e2.1
        refine ⟨G', Ex2.refl s', ?_⟩
        simp only [keyD, Rp]
        exact ⟨q, _, rfl, s'.t _ _ e4, rps_key _⟩
    · exact ⟨s' _ _ (eg _ _ h2), by rw [hz, hi, List.length_map]; exact Nat.le_refl _⟩)
end
end Pu

set_option Elab.async false
set_option linter.all false
set_option autoImplicit false
set_option maxRecDepth 100000
set_option maxHeartbeats 1000001
namespace Pu
open PySem L2
theorem ba2 {a b : Bool} (h : (a && b) = true) : a = true ∧ b = true := Bool.and_eq_true_iff.mp h
section
variable {m : Md} {T : Tab} {E : Evs} {n : Nat} {X : Cx} {N : List Str} {sc fs : Scope} {k : Nat} {env : Ev} {a b c e tg iter : Expr} {es : List Expr} {pos p : Pos}
theorem free_of (hT : TOk m T) {x : Str} (h : free T sc x = true) : gloB sc x = true ∧ m.mg x = none := by
  unfold free at h
  obtain ⟨h1, h2⟩ := ba2 h
  exact ⟨h1, hT.blts x (by simpa using h2)⟩
/-! ### targets -/
mutual
theorem tg_of (hX : Cs X m N sc fs n) : ∀ {t : CT} {e : Expr} {env env' : Ev} {d : D}, okT N sc fs e t = true → t.setO env (.per d) = some env' → Tg X env e d env' t.vs
  | .nm i, e, env, env', d, h, hs => by
    unfold okT at h
    split at h
    · rename_i x p
      obtain ⟨h1, h2⟩ := ba2 h
      obtain ⟨h2, h3⟩ := ba2 h2
      unfold CT.setO at hs; (try dsimp only at hs)
      split at hs
      · rename_i hi
        cases hs
        unfold dbg at h2
        obtain ⟨q1, q2⟩ := ba2 h2
        exact tg_name hX ⟨of_decide_eq_true h1, by simpa using q1, by simpa using q2⟩ h3 hi
      · cases hs
    · cases h
  | .tp ts, e, env, env', d, h, hs => by
    unfold okT at h
    split at h
    · rename_i es kk p
      unfold CT.setO at hs; (try dsimp only at hs)
      split at hs
      · rename_i ds hd
        cases hd
        exact tg_tup hX (tgs_of hX h hs) (fun en => tgs_len h hs en) (fun en => tgs_star h en)
      · cases hs
    · cases h
theorem tgs_of (hX : Cs X m N sc fs n) : ∀ {ts : CTs} {es : List Expr} {env env' : Ev} {ds : List D}, okTs N sc fs es ts = true → ts.setO env (ds.map .per) = some env' → Tgs X env es ds env' ts.vs
  | .nil, es, env, env', ds, h, hs => by
    unfold okTs at h
    split at h
    · unfold CTs.setO at hs; (try dsimp only at hs)
      split at hs
      · rename_i hd
        cases hs
        have : ds = [] := by simpa using hd
        subst this
        exact tgs_nil
      · cases hs
    · cases h
  | .cons t ts, es, env, env', ds, h, hs => by
    unfold okTs at h
    split at h
    · rename_i e es
      obtain ⟨h1, h2⟩ := ba2 h
      obtain ⟨h2, h3⟩ := ba2 h2
      unfold CTs.setO at hs; (try dsimp only at hs)
      cases ds with
      | nil => cases hs
      | cons d ds =>
        simp only [List.map_cons] at hs
        split at hs
        · rename_i e1 he1
          exact tgs_cons (tg_of hX h2 he1) (tgs_of hX h3 hs) (fun en => by
            cases e <;> first | rfl | cases h1)
        · cases hs
    · cases h
theorem tgs_len : ∀ {ts : CTs} {es : List Expr} {env env' : Ev} {ds : List D}, okTs N sc fs es ts = true → ts.setO env (ds.map .per) = some env' → ∀ en, (assignEach es en).length = ds.length
  | .nil, es, env, env', ds, h, hs, en => by
    unfold okTs at h
    split at h
    · unfold CTs.setO at hs; (try dsimp only at hs)
      split at hs
      · rename_i hd
        have : ds = [] := by simpa using hd
        subst this
        rfl
      · cases hs
    · cases h
  | .cons t ts, es, env, env', ds, h, hs, en => by
    unfold okTs at h
    split at h
    · rename_i e es
      obtain ⟨h1, h2⟩ := ba2 h
      obtain ⟨h2, h3⟩ := ba2 h2
      unfold CTs.setO at hs; (try dsimp only at hs)
      cases ds with
      | nil => cases hs
      | cons d ds =>
        simp only [List.map_cons] at hs
        split at hs
        · rename_i e1 he1
          have ih := tgs_len h3 hs en
          have q : assignEach (e :: es) en = (false, assign e en) :: assignEach es en := by cases e <;> first | rfl | cases h1
          rw [q]
          simp only [List.length_cons, ih]
        · cases hs
    · cases h
theorem tgs_star : ∀ {ts : CTs} {es : List Expr}, okTs N sc fs es ts = true → ∀ en, (assignEach es en).findIdx? (·.1) = none
  | .nil, es, h, en => by
    unfold okTs at h
    split at h
    · rfl
    · cases h
  | .cons t ts, es, h, en => by
    unfold okTs at h
    split at h
    · rename_i e es
      obtain ⟨h1, h2⟩ := ba2 h
      obtain ⟨h2, h3⟩ := ba2 h2
      have ih := tgs_star h3 en
      have q : assignEach (e :: es) en = (false, assign e en) :: assignEach es en := by cases e <;> first | rfl | cases h1
      rw [q, List.findIdx?_cons]
      simp [ih]
    · cases h
end
/-! ### what is walked -/
theorem SE.it (h : SE m T E n) (hT : TOk m T) (hX : Cs X m N sc fs n) {it : CE} {ds : List D} (hk : okE T N k sc fs iter it = true) (hu : unb iter = none) (htp : it.wantsTp = true → ∃ elts kk tp, tg = .Tuple elts kk tp) (hd : E.it env it = .ok ds) : Iter X env tg iter ds := by
  cases k with
  | zero => simp [okE] at hk
  | succ k =>
  have hk0 := hk
  simp only [okE, hu] at hk
  unfold Evs.it at hd
  split at hd
  · simp only [ok1] at hk
    split at hk
    · rename_i x q1 es q2
      obtain ⟨k1, hk1⟩ := ba2 hk
      obtain ⟨k2, hk2⟩ := ba2 hk1
      obtain ⟨k3, hk3⟩ := ba2 hk2
      have e := of_decide_eq_true k1
      subst e
      obtain ⟨g1, g2⟩ := free_of hT k2
      split at hd
      · rename_i j hj
        split at hd
        · rename_i hb
          cases hd
          match es, hk3, k3 with
          | [ea], hk, k3 =>
            simp only [all2, Bool.and_eq_true] at hk
            simp only [List.all_cons, Bool.and_eq_true] at k3
            exact it_range1 hX hb g1 g2 (h.dv hX hk.1 hj) (star1 k3.1)
          | [], hk, _ => simp [all2] at hk
          | _ :: _ :: _, hk, _ => simp [all2] at hk
        · cases hd
      · cases hd
    · cases hk
  · simp only [ok1] at hk
    split at hk
    · rename_i x q1 es q2
      obtain ⟨k1, hk1⟩ := ba2 hk
      obtain ⟨k2, hk2⟩ := ba2 hk1
      obtain ⟨k3, hk3⟩ := ba2 hk2
      have e := of_decide_eq_true k1
      subst e
      obtain ⟨g1, g2⟩ := free_of hT k2
      split at hd
      · rename_i i j hi hj
        split at hd
        · rename_i hb
          cases hd
          match es, hk3, k3 with
          | [ea, eb], hk, k3 =>
            simp only [all2, Bool.and_eq_true] at hk
            simp only [List.all_cons, Bool.and_eq_true] at k3
            exact it_range2 hX hb g1 g2 (h.dv hX hk.1 hi) (h.dv hX hk.2.1 hj) (star2 k3.1 k3.2.1) (star1 k3.2.1)
          | [], hk, _ => simp [all2] at hk
          | [_], hk, _ => simp [all2] at hk
          | _ :: _ :: _ :: _, hk, _ => simp [all2] at hk
        · cases hd
      · cases hd
    · cases hk
  · cases hd
  · obtain ⟨elts, kk, tp, rfl⟩ := htp rfl
    simp only [ok1] at hk
    split at hk
    · rename_i x q1 ea q2
      obtain ⟨k1, hk1⟩ := ba2 hk
      obtain ⟨k2, hk2⟩ := ba2 hk1
      obtain ⟨k3, hk3⟩ := ba2 hk2
      obtain ⟨ku, hk3⟩ := ba2 hk3
      have e := of_decide_eq_true k1
      subst e
      obtain ⟨g1, g2⟩ := free_of hT k2
      have hu2 : unb ea = none := by simpa using ku
      cases k with
      | zero => simp [okE] at hk3
      | succ k =>
        simp only [okE, hu2, ok1] at hk3
        split at hk3
        · rename_i x2 q3 eb q4
          obtain ⟨j1, hj1⟩ := ba2 hk3
          obtain ⟨j2, hj2⟩ := ba2 hj1
          obtain ⟨j3, hj3⟩ := ba2 hj2
          have e2 := of_decide_eq_true j1
          subst e2
          obtain ⟨g3, g4⟩ := free_of hT j2
          split at hd
          · rename_i d hj
            split at hd
            · rename_i xs hl
              cases hd
              exact it_enr hX (asL_of hl) g1 g2 g3 g4 (h.dv hX hj3 hj) (star1 j3)
            · cases hd
          · cases hd
        · cases hk3
    · cases hk
  · obtain ⟨elts, kk, tp, rfl⟩ := htp rfl
    simp only [ok1] at hk
    split at hk
    · rename_i x q1 ea q2
      obtain ⟨k1, hk1⟩ := ba2 hk
      obtain ⟨k2, hk2⟩ := ba2 hk1
      obtain ⟨k3, hk3⟩ := ba2 hk2
      obtain ⟨ku, hk3⟩ := ba2 hk3
      have e := of_decide_eq_true k1
      subst e
      obtain ⟨g1, g2⟩ := free_of hT k2
      split at hd
      · rename_i d hj
        split at hd
        · rename_i xs hl
          cases hd
          exact it_enum hX (asL_of hl) g1 g2 (h.dv hX hk3 hj) (star1 k3)
        · cases hd
      · cases hd
    · cases hk
  · simp only [ok1] at hk
    split at hk
    · rename_i x q1 ea q2
      obtain ⟨k1, hk1⟩ := ba2 hk
      obtain ⟨k2, hk2⟩ := ba2 hk1
      obtain ⟨k3, hk3⟩ := ba2 hk2
      have e := of_decide_eq_true k1
      subst e
      obtain ⟨g1, g2⟩ := free_of hT k2
      split at hd
      · rename_i d hj
        split at hd
        · rename_i xs hl
          cases hd
          exact it_reversed hX (asL_of hl) g1 g2 (h.dv hX hk3 hj) (star1 k3)
        · cases hd
      · cases hd
    · cases hk
  · obtain ⟨elts, kk, tp, rfl⟩ := htp rfl
    simp only [ok1] at hk
    split at hk
    · rename_i x q1 ea eb q2
      obtain ⟨k1, hk1⟩ := ba2 hk
      obtain ⟨k2, hk2⟩ := ba2 hk1
      obtain ⟨k3, hk3⟩ := ba2 hk2
      obtain ⟨k4, hk4⟩ := ba2 hk3
      obtain ⟨k5, hk5⟩ := ba2 hk4
      have e := of_decide_eq_true k1
      subst e
      obtain ⟨g1, g2⟩ := free_of hT k2
      split at hd
      · rename_i d d' hj hj'
        split at hd
        · rename_i xs ys hl hl'
          cases hd
          exact it_zipB hX hl hl' g1 g2 (h.dv hX k5 hj) (h.dv hX hk5 hj') k3 k4
        · cases hd
      · cases hd
    · cases hk
  · split at hd
    · rename_i d hj
      have hp := h.dv hX hk0 hj
      split at hd
      · rename_i xs hs
        cases hd
        cases d <;> simp only [D.asS] at hs <;> first | (cases hs; done) | skip
        · cases hs; exact it_list (.lst _) hp
        · cases hs; exact it_tup (.tup _) hp
        · cases hs; exact it_list (.fz _) hp
        · cases hs; exact it_tup (.ft _) hp
      · split at hd
        · cases hd; exact it_str hp
        · cases hd; exact it_keysT hp
        · cases hd
    · cases hd
end
end Pu

set_option Elab.async false
set_option linter.all false
set_option autoImplicit false
set_option maxRecDepth 100000
set_option maxHeartbeats 1000001
namespace Pu
open PySem L2
theorem fld_of {m : Md} {T : Tab} (hT : TOk m T) {c f : Str} (h : T.fld c f = true) : Cls m.K (He.ga m.K c) ∧ NoAttr m.K (He.ga m.K c) f := by
  unfold Tab.fld at h
  obtain ⟨k, h1, h2⟩ := List.any_eq_true.mp h
  obtain ⟨h3, h4⟩ := ba2 h2
  have e := of_decide_eq_true h3
  subst e
  obtain ⟨q1, q2⟩ := hT.cls k h1
  exact ⟨q1, q2 f (by simpa using h4)⟩
theorem fix_of {m : Md} {T : Tab} (hT : TOk m T) {c f : Str} {ns : List Str} {j : Nat} (h : T.fix c ns f = some j) : Cls m.K (He.ga m.K c) ∧ NoAttr m.K (He.ga m.K c) f ∧ ns.idxOf f = j ∧ j < ns.length := by
  unfold Tab.fix at h
  split at h
  · rename_i q
    cases h
    obtain ⟨a, b⟩ := fld_of hT q.1
    exact ⟨a, b, rfl, q.2⟩
  · cases h
theorem sub_snoc : ∀ {π : List Nat} {o c k : Ow} {j : Nat}, o.sub π = some c → c.kids[j]? = some k → o.sub (π ++ [j]) = some k.strip
  | [], o, c, k, j, h, hk => by
    simp only [Ow.sub] at h
    cases h
    simp only [List.nil_append, Ow.sub, hk]
  | i :: π, o, c, k, j, h, hk => by
    simp only [List.cons_append, Ow.sub] at h ⊢
    cases q : o.strip.kids[i]? with
    | none => rw [q] at h; cases h
    | some x =>
      rw [q] at h
      exact sub_snoc h hk
section
variable {m : Md} {T : Tab} {E : Evs} {n : Nat} {X : Cx} {N : List Str} {sc fs : Scope} {k : Nat} {env : Ev} {a b c e tg iter elt : Expr} {es ifs : List Expr} {pos p : Pos}
theorem loc_one {op : BoolOp} {i : Nat} {π : List Nat} (h : Loc X env e i π) : Loc X env (.BoolOp op [e] pos) i π := .mk fun H0 σ G H s E Q v w h1 h2 g => WE.of (pe_one pWE) (h.run H0 σ G H s E Q v w h1 h2 g)
theorem unb_of {e x : Expr} (h : unb e = some x) : ∃ op p, e = .BoolOp op [x] p := by
  unfold unb at h
  split at h
  · cases h; exact ⟨_, _, rfl⟩
  · cases h
theorem ix_dbg {i : Nat} {x : Str} (h1 : decide (N[i]? = some x) = true) (h2 : dbg x = true) : Ix N i x := by
  unfold dbg at h2
  obtain ⟨q1, q2⟩ := ba2 h2
  exact ⟨of_decide_eq_true h1, by simpa using q1, by simpa using q2⟩
theorem idx_lt {ns : List Str} {os : List Ow} {f : Str} {k : Ow} (hl : ns.length = os.length) (h : os[ns.idxOf f]? = some k) : ns.idxOf f < ns.length := by
  have := (List.getElem?_eq_some_iff.mp h).1
  omega
/-- a path in the text, a place in a slot -/
theorem SE.pl (h : SE m T E n) (hT : TOk m T) (hX : Cs X m N sc fs n) : ∀ {k : Nat} {e : Expr} {cc : CE} {i : Nat} {π : List Nat} {o : Ow}, okE T N k sc fs e cc = true → Evs.pl T E env cc = some (i, π, o) →
    ∃ ro, env[i]? = some (some ro) ∧ ro.sub π = some o ∧ Loc X env e i π
  | 0, e, cc, i, π, o, hk, _ => by simp [okE] at hk
  | k + 1, e, cc, i, π, o, hk, hl => by
    simp only [okE] at hk
    cases hu : unb e with
    | some x =>
      rw [hu] at hk
      obtain ⟨op, p, rfl⟩ := unb_of hu
      obtain ⟨ro, q1, q2, q3⟩ := SE.pl h hT hX hk hl
      exact ⟨ro, q1, q2, loc_one q3⟩
    | none =>
      rw [hu] at hk
      simp only at hk
      cases cc <;> simp only [Evs.pl] at hl <;> try (cases hl; done)
      · simp only [ok1] at hk
        split at hk
        · rename_i x p
          obtain ⟨h1, hk1⟩ := ba2 hk
          obtain ⟨h2, h3⟩ := ba2 hk1
          split at hl
          · cases hl
          · rename_i ro hnp he
            cases hl
            exact ⟨ro, he, by simp only [Ow.sub], loc_var hX (ix_dbg h1 h2) h3⟩
          · cases hl
        · cases hk
      · simp only [ok1] at hk
        split at hk
        · rename_i ea eb p
          obtain ⟨k1, hk1⟩ := ba2 hk
          obtain ⟨k2, k3⟩ := ba2 hk1
          split at hl
          · rename_i j π' os ho
            split at hl
            · rename_i l hi
              split at hl
              · rename_i n' hn
                split at hl
                · rename_i kk hkk
                  cases hl
                  obtain ⟨ro, q1, q2, q3⟩ := SE.pl h hT hX k2 ho
                  exact ⟨ro, q1, sub_snoc q2 hkk, loc_ix q3 (h.dv hX k3 hi) q1 q2 hn (plain_of k1)⟩
                · cases hl
              · cases hl
            · cases hl
          · rename_i j π' os ho
            split at hl
            · rename_i l hi
              split at hl
              · rename_i n' hn
                split at hl
                · rename_i kk hkk
                  cases hl
                  obtain ⟨ro, q1, q2, q3⟩ := SE.pl h hT hX k2 ho
                  exact ⟨ro, q1, sub_snoc q2 hkk, loc_ixT q3 (h.dv hX k3 hi) q1 q2 hn (plain_of k1)⟩
                · cases hl
              · cases hl
            · cases hl
          · cases hl
        · cases hk
      · simp only [ok1] at hk
        split at hk
        · rename_i ea f' p
          obtain ⟨k1, hk1⟩ := ba2 hk
          obtain ⟨k2, k3⟩ := ba2 hk1
          have ef := of_decide_eq_true k1
          subst ef
          split at hl
          · rename_i j π' cl ns os ho
            split at hl
            · rename_i jj hf
              split at hl
              · rename_i kk hkk
                cases hl
                obtain ⟨ro, q1, q2, q3⟩ := SE.pl h hT hX k3 ho
                obtain ⟨c1, c2, c3, c4⟩ := fix_of hT hf
                exact ⟨ro, q1, sub_snoc q2 hkk, loc_fld hX c1 c2 q3 q1 q2 c3 c4 (fun en => sup_of k2 _ en)⟩
              · cases hl
            · cases hl
          · cases hl
        · cases hk
/-! ### comprehensions -/
def lcG (E : Evs) (env : Ev) (t : CT) (ifs : List CE) (elt : CE) (d : D) : Option Ow := match t.setO env (.per d) with
  | some env' => (match E.ts env' ifs with
    | .ok true => (match E.o env' elt with | .ok o => some o | _ => none)
    | _ => none)
  | none => none
theorem lc_all {t : CT} {ifs : List CE} {elt : CE} : ∀ {ds : List D} {os : List Ow}, E.lc env t ifs elt ds = .ok os →
    (∀ d ∈ ds, ∃ env', t.setO env (.per d) = some env' ∧ ((E.ts env' ifs = .ok false ∧ lcG E env t ifs elt d = none) ∨ (E.ts env' ifs = .ok true ∧ ∃ o, E.o env' elt = .ok o ∧ lcG E env t ifs elt d = some o))) ∧ os = ds.filterMap (lcG E env t ifs elt)
  | [], os, h => by
    simp only [Evs.lc] at h
    cases h
    exact And.intro (fun d hd => absurd hd (by simp)) rfl
  | d :: ds, os, h => by
    simp only [Evs.lc] at h
    split at h
    · cases h
    · rename_i env' he
      split at h
      · rename_i ht
        split at h
        · rename_i o ho
          split at h
          · rename_i r hr
            cases h
            obtain ⟨q1, q2⟩ := lc_all hr
            have hg : lcG E env t ifs elt d = some o := by simp only [lcG, he, ht, ho]
            refine ⟨fun x hx => ?_, by rw [List.filterMap_cons, hg, q2]⟩
            rcases List.mem_cons.mp hx with rfl | hx
            · exact ⟨env', he, .inr ⟨ht, o, ho, hg⟩⟩
            · exact q1 x hx
          · cases h
        · cases h
      · rename_i ht
        obtain ⟨q1, q2⟩ := lc_all h
        have hg : lcG E env t ifs elt d = none := by simp only [lcG, he, ht]
        refine ⟨fun x hx => ?_, by rw [List.filterMap_cons, hg, q2]⟩
        rcases List.mem_cons.mp hx with rfl | hx
        · exact ⟨env', he, .inl ⟨ht, hg⟩⟩
        · exact q1 x hx
      · cases h
theorem mapIdx_fm {α : Type} (g : D → Option α) (ds : List D) : (ds.mapIdx fun _ d => g d).filterMap id = ds.filterMap g := by
  have : (ds.mapIdx fun _ d => g d) = ds.map g := by
    apply List.ext_getElem?
    intro i
    simp
  rw [this, List.filterMap_map]
  rfl
theorem own_map (own : List Nat) : (own.map fun i => (N.getD i ("" : Str), i)).map (·.2) = own := by
  rw [List.map_map]
  simp [Function.comp_def]
theorem lcb_of (h : SE m T E n) {scope : Scope} {own : List Nat} {t : CT} {cifs : List CE} {celt : CE} {ds : List D} {os : List Ow} (hv : t.vs.all own.contains = true) (ht : okT N (relS scope sc) scope tg t = true) (hl : ifs.length ≤ 1)
    (hi : all2 (okE T N k (relS scope sc) scope) ifs cifs = true) (he : okE T N k (relS scope sc) scope elt celt = true) (hr : E.lc (wipeE env own) t cifs celt ds = .ok os) :
    LcB m N sc scope n (own.map fun i => (N.getD i ("" : Str), i)) tg elt ifs env (fun _ d => lcG E (wipeE env own) t cifs celt d) ds := by
  obtain ⟨q1, q2⟩ := lc_all hr
  intro i d hd
  obtain ⟨env', he1, he2⟩ := q1 d (List.mem_of_getElem? hd)
  refine ⟨env', t.vs, fun j hj => ?_, fun X' hX' => ⟨?_, ?_⟩⟩
  · rw [own_map]
    have := List.all_eq_true.mp hv j hj
    simpa using this
  · rw [own_map]
    exact tg_of hX' ht he1
  · rcases he2 with ⟨z1, z2⟩ | ⟨z1, o, z3, z2⟩
    · show match lcG E (wipeE env own) t cifs celt d with | none => _ | some o => _
      rw [z2]
      exact h.ts hX' hl hi z1
    · show match lcG E (wipeE env own) t cifs celt d with | none => _ | some o => _
      rw [z2]
      exact ⟨h.ts hX' hl hi z1, h.ov hX' he z3⟩
end
end Pu

set_option Elab.async false
set_option linter.all false
set_option autoImplicit false
set_option maxRecDepth 100000
set_option maxHeartbeats 1000001
namespace Pu
open PySem L2
/-! ### a dict display with one key, a tuple -/
def tDisp1 (tk tv : TE) : TE := fun σ H Q => ∀ p, H p = none → tk σ (upd H p (.dT [])) fun x H1 => tv σ H1 fun y H2 => ∃ (b : Addr) (ks : List Key), x = .ref b ∧ H2 b = some (.tup (ks.map kV)) ∧ H2 p = some (.dT []) ∧ Q (.ref p) (upd H2 p (.dT [(ks, y)]))
theorem pe_disp1 {X : Cx} {k v : Expr} {pos : Pos} {tk tv : TE} (hu : X.A.units < cLine) (hk : PE X k tk) (hv : PE X v tv) : PE X (.Dict [some k] [v] pos) (tDisp1 tk tv) where
  run := fun pins s σ H Q I h => by
    have new := I.laid (a := s.heap.objs.size) (o := .dT []) (h' := s.heap.push { cls := .type "dict", data := .dict #[] }) (t' := s.toks) (fun _ _ q => Heap.get?_push_of_some _ q) (Nat.le_refl _) (dt_empty s.heap I.big)
    refine wpAny_Dict_any rfl rfl (by simp) (by simp) (pairTrees_cons_walk (thn (hk.run pins _ σ _ _ new (h _ (I.hok.fresh (Nat.le_refl _)))) ?_))
    rintro u s1 ⟨x, H1, J1, rx, q1⟩
    refine thn (hv.run pins s1 σ H1 _ J1 q1) ?_
    rintro r s2 ⟨y, H2, J2, ry, b, ks, rfl, eb, ep, q⟩
    cases rx
    refine pairTrees_nil_walk ?_
    obtain ⟨z, hd, xs, rel, dd⟩ := dt_of J2.hok ep
    cases rel
    unfold storeAll
    rw [List.forIn_cons]
    refine wpAny_bind (wpAny_bind (wpAny_dictSet_heap (hsz := Nat.zero_le _) hu (key_of J2.hok eb) dd fun h' dd' hs => wpAny_pure ?_))
    dsimp only
    rw [List.forIn_nil]
    refine wpAny_pure ⟨.ref s.heap.objs.size, _, ?_, rfl, q⟩
    obtain ⟨ob, en, n, hq, h2, h3, h4, _, h5⟩ := dd'
    refine d_write J2 (by rw [ep]; exact True.intro) hs ⟨ob, hq⟩ ⟨by rw [sizeLine_eq]; simp, hd, _, ?_, ob, en, n, hq, h2, h3, h4, h5⟩
    have rel2 : KT H2 (putK ([] : List (List Key × V)) ks y) (storedH [] ks b r) := KT.put (H := H2) .nil ks eb ry
    exact rel2.keeps fun c ys ec => by rw [upd_ne (ne_of ec ep (fun z => nomatch z))]; exact ec
section
variable {X : Cx} {m : Md} {N : List Str} {sc fs : Scope} {k : Nat} {env env' : Ev} {a b e e0 tg : Expr} {es : List Expr} {pos apos : Pos} {i : Nat} {π : List Nat} {o : Ow} {Φ : Out → Prop}
theorem p_dnewT : P X env (.Dict [] [] pos) (.dT [] []) := .mk fun H0 σ G H s E Q g =>
  WE.of pe_dnewT fun q hq => by
    refine g (.ref q) G _ [q] (Ex2.newOwn s hq) ?_ (fun a ha => ?_) (by simp)
    · simp only [RO, ROs]
      exact ⟨q, [], [], rfl, rfl, back_none s hq, upd_same, rfl, rfl, rfl⟩
    · rw [List.mem_singleton.mp ha]; exact hq
theorem p_dnewK : P X env (.Dict [] [] pos) (.dK [] []) := .mk fun H0 σ G H s E Q g =>
  WE.of pe_dnewK fun q hq => by
    refine g (.ref q) G _ [q] (Ex2.newOwn s hq) ?_ (fun a ha => ?_) (by simp)
    · simp only [RO, ROs]
      exact ⟨q, [], [], rfl, rfl, back_none s hq, upd_same, rfl, rfl, rfl⟩
    · rw [List.mem_singleton.mp ha]; exact hq
theorem p_disp1 (hX : Cs X m N sc fs k) {d : D} {ky : List D} {kk0 : List Key} (hk : keyT ky = some kk0) (ha : P X env a (.per (.tup ky))) (hb : P X env b (.per d)) : P X env (.Dict [some a] [b] pos) (.dT [kk0] [.per d]) := .mk fun H0 σ G H s E Q g => by
  have hu : X.A.units < cLine := by have := hX.room.units; omega
  refine WE.of (pe_disp1 hu pWE pWE) fun p hp => ?_
  have x0 : Ex2 G H G (upd H p (.dT [])) := Ex2.newOwn s hp
  refine ha.go x0.s (E.later x0) fun x G1 H1 x1 r1 => hb.go x1.s (E.later (x0.trans x1)) fun y G2 H2 x2 r2 => ?_
  simp only [Rp] at r1
  obtain ⟨t, ts, rfl, r3, r4⟩ := r1
  have et := keyT_of hk r4
  subst et
  have xx := x1.trans x2
  have gp : G2 p = none := xx.n p (back_none s hp) (by rw [upd_same]; simp)
  have hp2 : H2 p = some (.dT []) := xx.h _ _ upd_same
  refine ⟨t, kk0, rfl, x2.s _ _ (x2.g _ _ r3), hp2, ?_⟩
  refine g (.ref p) G2 _ [p] (wp_mono (K := X.K) (G := G) (H := H) (x0.trans xx) hp gp) ?_ (fun c hc => by rw [List.mem_singleton.mp hc]; exact hp) (by simp)
  simp only [RO, ROs]
  exact ⟨p, [y], [], rfl, rfl, gp, upd_same, rfl, y, [], [], [], rfl, rfl, ⟨rfl, r2⟩, rfl, rfl⟩
end
end Pu

set_option Elab.async false
set_option linter.all false
set_option autoImplicit false
set_option maxRecDepth 100000
set_option maxHeartbeats 1000001
namespace Pu
open PySem L2
section
variable {m : Md} {T : Tab} {E : Evs} {n : Nat} {X : Cx} {N : List Str} {sc fs : Scope} {k : Nat} {env : Ev} {a b c e tg iter elt : Expr} {es ifs : List Expr} {pos p : Pos}
theorem cst_of {v : Const} {d : D} {j : Nat} (h : cstB v d = true) : P X env (.Constant v j pos) (.per d) := by
  cases v <;> cases d <;> simp only [cstB] at h <;> try (cases h; done)
  · exact p_non
  · have e := of_decide_eq_true h; subst e; exact p_bl
  · have e := of_decide_eq_true h; subst e; exact p_int
  · have e := of_decide_eq_true h; subst e; exact p_str
theorem SE.oi (h : SE m T E n) (hX : Cs X m N sc fs n) {eo : Option Expr} {co : Option CE} {i : Option Int} (hk : (match eo, co with | none, none => true | some x, some c => okE T N k sc fs x c | _, _ => false) = true) (hi : E.oi env co = .ok i) : Pt X env eo i := by
  cases eo <;> cases co <;> simp only [Evs.oi] at hk hi <;> try (cases hk; done)
  · cases hi; exact trivial
  · split at hi
    · rename_i j hj; cases hi; exact h.dv hX hk hj
    · cases hi
theorem tp_of {t : CT} {w : Bool} (ht : okT N sc fs tg t = true) (h : (!w || t.isTp) = true) : w = true → ∃ elts kk tp, tg = .Tuple elts kk tp := fun hw => by
  subst hw
  cases t with
  | nm i => simp [CT.isTp] at h
  | tp ts =>
    unfold okT at ht
    split at ht
    · exact ⟨_, _, _, rfl⟩
    · cases ht
theorem snd1 (h : SE m T E n) (hT : TOk m T) (hX : Cs X m N sc fs n) {cc : CE} {o : Ow} (hk : ok1 T N (okE T N k) sc fs e cc = true) (hu : unb e = none) (ho : step1 T E env cc = .ok o) : P X env e o := by
  have hkk : okE T N (k + 1) sc fs e cc = true := by simp only [okE, hu]; exact hk
  cases cc with
  | var i =>
    simp only [ok1] at hk
    split at hk
    · rename_i x p
      obtain ⟨h1, h2⟩ := ba2 hk
      obtain ⟨h2, h3⟩ := ba2 h2
      simp only [step1] at ho
      split at ho
      · rename_i d hd; cases ho; exact p_var hX (ix_dbg h1 h2) h3 hd
      · cases ho
    · cases hk
  | cst d =>
    simp only [ok1] at hk
    split at hk
    · simp only [step1] at ho; cases ho; exact cst_of hk
    · cases hk
  | glb i =>
    simp only [ok1] at hk
    split at hk
    · rename_i x p
      split at hk
      · rename_i q hq
        obtain ⟨h1, h2⟩ := ba2 hk
        obtain ⟨h2, h3⟩ := ba2 h2
        have e := of_decide_eq_true h1
        subst e
        simp only [step1, hq] at ho
        cases ho
        obtain ⟨v, u, z1, z2, z3⟩ := hT.cons i q hq
        exact p_glob hX h3 z1 z2 z3 (dbg1 h2)
      · cases hk
    · cases hk
  | bin op a b =>
    simp only [ok1] at hk
    split at hk
    · obtain ⟨h1, h2⟩ := ba2 hk
      obtain ⟨h2, h3⟩ := ba2 h2
      have e := of_decide_eq_true h1
      subst e
      simp only [step1] at ho
      split at ho
      · rename_i x hx
        split at ho
        · rename_i y hy; exact p_bin (h.dv hX h2 hx) (h.dv hX h3 hy) ho
        · cases ho
      · cases ho
    · cases hk
  | neg a =>
    simp only [ok1] at hk
    split at hk
    · simp only [step1] at ho
      split at ho
      · rename_i x hx; exact p_negD (h.dv hX hk hx) ho
      · cases ho
    · cases hk
  | not a =>
    simp only [ok1] at hk
    split at hk
    · simp only [step1] at ho
      split at ho
      · rename_i x hx
        split at ho
        · rename_i q hq; cases ho; exact p_notD (h.dv hX hk hx) hq
        · cases ho
      · cases ho
    · cases hk
  | cmp op a b =>
    simp only [ok1] at hk
    split at hk
    · obtain ⟨h1, h2⟩ := ba2 hk
      obtain ⟨h2, h3⟩ := ba2 h2
      obtain ⟨h3, h4⟩ := ba2 h3
      have e := of_decide_eq_true h1
      subst e
      simp only [step1] at ho
      split at ho
      · rename_i x hx
        split at ho
        · rename_i y hy
          split at ho
          · rename_i q hq; cases ho; exact p_of_c (p_cmpD hX (h.dv hX h3 hx) (h.dv hX h4 hy) hq h2)
          · cases ho
        · cases ho
      · cases ho
    · cases hk
  | cmp2 op op' a b c =>
    simp only [ok1] at hk
    split at hk
    · rename_i ea o1 o2 eb ec p
      obtain ⟨h1, h2⟩ := ba2 hk
      obtain ⟨h2, h3⟩ := ba2 h2
      obtain ⟨h3, h4⟩ := ba2 h3
      obtain ⟨h4, h5⟩ := ba2 h4
      obtain ⟨h5, h6⟩ := ba2 h5
      have e := of_decide_eq_true h1
      have e' := of_decide_eq_true h2
      subst e e'
      simp only [step1] at ho
      split at ho
      · rename_i i hi
        split at ho
        · rename_i j hj
          split at ho
          · rename_i hc
            split at ho
            · rename_i hs
              cases ho
              obtain ⟨q0, hq0⟩ := Option.isSome_iff_exists.mp hs
              obtain ⟨f, f1, f2, _⟩ := op_i (X := X) hc
              obtain ⟨f', f1', f2', _⟩ := op_i (X := X) hq0
              exact (tc_chain f1 f1' (h.dv hX h4 hi) (h.dv hX h5 hj) (fun _ => rfl) (fun z => by rw [f2] at z; cases z) (marks2_of h3)).1
            · cases ho
          · rename_i hc
            split at ho
            · rename_i l hl
              split at ho
              · rename_i q hq
                cases ho
                obtain ⟨f, f1, f2, _⟩ := op_i (X := X) hc
                obtain ⟨f', f1', f2', _⟩ := op_i (X := X) hq
                exact (tc_chain f1 f1' (h.dv hX h4 hi) (h.dv hX h5 hj) (fun z => by rw [f2] at z; cases z) (fun _ => ⟨l, h.dv hX h6 hl, f2'⟩) (marks2_of h3)).1
              · cases ho
            · cases ho
          · cases ho
        · cases ho
      · cases ho
    · cases hk
  | bop op a b =>
    simp only [ok1] at hk
    split at hk
    · rename_i bo ea eb es pp
      obtain ⟨h1, hk1⟩ := ba2 hk
      obtain ⟨h2, h3⟩ := ba2 hk1
      have e := of_decide_eq_true h1
      subst e
      cases bo with
      | And =>
        simp only [step1] at ho
        split at ho
        · rename_i x hx
          split at ho
          · rename_i ht
            split at ho
            · rename_i o' ho'; cases ho; exact p_andD (h.dv hX h2 hx) ht (fun _ => h.ov hX h3 ho') (fun z => by cases z)
            · cases ho
          · rename_i ht; cases ho; exact p_andD (h.dv hX h2 hx) ht (fun z => by cases z) (fun _ => rfl)
          · cases ho
        · cases ho
      | Or =>
        simp only [step1] at ho
        split at ho
        · rename_i x hx
          split at ho
          · rename_i ht
            split at ho
            · rename_i o' ho'; cases ho; exact p_orD (h.dv hX h2 hx) ht (fun _ => h.ov hX h3 ho') (fun z => by cases z)
            · cases ho
          · rename_i ht; cases ho; exact p_orD (h.dv hX h2 hx) ht (fun z => by cases z) (fun _ => rfl)
          · cases ho
        · cases ho
    · cases hk
  | ite c a b =>
    simp only [ok1] at hk
    split at hk
    · obtain ⟨h1, h2⟩ := ba2 hk
      obtain ⟨h2, h3⟩ := ba2 h2
      simp only [step1] at ho
      split at ho
      · rename_i ht; exact p_if (h.tv hX h1 ht) (fun _ => h.ov hX h2 ho) (fun z => by cases z)
      · rename_i ht; exact p_if (h.tv hX h1 ht) (fun z => by cases z) (fun _ => h.ov hX h3 ho)
      · cases ho
    · cases hk
  | tup cs =>
    simp only [ok1] at hk
    split at hk
    · obtain ⟨h1, h2⟩ := ba2 hk
      simp only [step1] at ho
      split at ho
      · rename_i os hs
        obtain ⟨hh, rfl⟩ := okN_of ho
        exact p_mkTup (h.os hX h1 h2 hs) (of_decide_eq_true hh)
      · cases ho
    · cases hk
  | lst cs =>
    simp only [ok1] at hk
    split at hk
    · obtain ⟨h1, h2⟩ := ba2 hk
      simp only [step1] at ho
      split at ho
      · rename_i os hs
        obtain ⟨hh, rfl⟩ := okN_of ho
        exact p_lstO (h.os hX h1 h2 hs) (of_decide_eq_true hh)
      · cases ho
    · cases hk
  | idx a b =>
    simp only [step1] at ho
    split at ho
    · rename_i d hd
      cases ho
      obtain ⟨ro, q1, q2, q3⟩ := h.pl hT hX hkk hd
      exact p_own q3 q1 q2
    · cases ho
    · simp only [ok1] at hk
      split at hk
      · obtain ⟨h1, h2⟩ := ba2 hk
        obtain ⟨h2, h3⟩ := ba2 h2
        split at ho
        · rename_i x hx
          split at ho
          · rename_i y hy; exact p_idxD hX (h.dv hX h2 hx) (h.dv hX h3 hy) ho h1
          · cases ho
        · cases ho
      · cases hk
  | sli a lo hi =>
    simp only [ok1] at hk
    split at hk
    · obtain ⟨h1, h2⟩ := ba2 hk
      obtain ⟨h2, h3⟩ := ba2 h2
      simp only [step1] at ho
      split at ho
      · rename_i x hx
        split at ho
        · rename_i i hi
          split at ho
          · rename_i j hj; exact p_sliD (h.dv hX h1 hx) (h.oi hX h2 hi) (h.oi hX h3 hj) ho
          · cases ho
        · cases ho
      · cases ho
    · cases hk
  | rev a =>
    simp only [ok1] at hk
    split at hk
    · obtain ⟨h1, h2⟩ := ba2 hk
      have e := of_decide_eq_true h1
      subst e
      simp only [step1] at ho
      split at ho
      · rename_i x hx; exact p_revD (h.dv hX h2 hx) ho
      · cases ho
    · cases hk
  | att a f =>
    simp only [step1] at ho
    split at ho
    · rename_i d hd
      cases ho
      obtain ⟨ro, q1, q2, q3⟩ := h.pl hT hX hkk hd
      exact p_own q3 q1 q2
    · cases ho
    · simp only [ok1] at hk
      split at hk
      · obtain ⟨h1, h2⟩ := ba2 hk
        obtain ⟨h2, h3⟩ := ba2 h2
        have e := of_decide_eq_true h1
        subst e
        split at ho
        · rename_i x hx
          unfold dAtt at ho
          split at ho
          · split at ho
            · rename_i hf
              split at ho
              · rename_i d hl
                cases ho
                obtain ⟨c1, c2⟩ := fld_of hT hf
                exact p_attD hX c1 c2 (h.dv hX h3 hx) hl h2
              · cases ho
            · cases ho
          · split at ho
            · rename_i q hq
              split at ho
              · rename_i hf
                split at ho
                · rename_i d hl
                  cases ho
                  exact p_xfD hX hT hq (by simpa using hf) (h.dv hX h3 hx) hl h2
                · cases ho
              · cases ho
            · cases ho
          · cases ho
        · cases ho
      · cases hk
  | call i cs => simp only [step1] at ho; cases ho
  | meth c m a cs => simp only [step1] at ho; cases ho
  | make c cs => simp only [step1] at ho; cases ho
  | dct ks vs =>
    cases ks with
    | cons _ _ => simp only [step1] at ho; cases ho
    | nil =>
      cases vs with
      | cons _ _ => simp only [step1] at ho; cases ho
      | nil =>
        simp only [ok1] at hk
        split at hk
        · simp only [step1] at ho; cases ho; exact p_dict0
        · cases hk
  | dnew t =>
    simp only [ok1] at hk
    split at hk
    · simp only [step1] at ho
      cases ho
      cases t
      · exact p_dnewK
      · exact p_dnewT
    · cases hk
  | dsp ca cb =>
    simp only [ok1] at hk
    split at hk
    · obtain ⟨h1, h2⟩ := ba2 hk
      simp only [step1] at ho
      split at ho
      · rename_i ky hy
        split at ho
        · rename_i kk hkk
          split at ho
          · rename_i d hd
            cases ho
            exact p_disp1 hX hkk (h.dv hX h1 hy) (h.dv hX h2 hd)
          · cases ho
        · cases ho
      · cases ho
    · cases hk
  | blt bl cs =>
    simp only [ok1] at hk
    split at hk
    · rename_i x q1 es q2
      obtain ⟨h1, hk1⟩ := ba2 hk
      obtain ⟨h2, hk2⟩ := ba2 hk1
      obtain ⟨h3, h4⟩ := ba2 hk2
      have e := of_decide_eq_true h1
      subst e
      obtain ⟨g1, g2⟩ := free_of hT h2
      simp only [step1] at ho
      split at ho
      · rename_i ds hds
        unfold dBlt at ho
        split at ho
        · match es, cs, h3, h4, hds with
          | [ea], [ca], h3, h4, hds =>
            simp only [List.all_cons, Bool.and_eq_true] at h3
            simp only [all2, Bool.and_eq_true] at h4
            simp only [Evs.ds] at hds
            split at hds
            · rename_i o1 ho1
              cases hds
              exact p_blt1 hX g1 g2 h3.1 (P.last (h.ov hX h4.1 ho1)) ho
            · cases hds
            · cases hds
          | [], [], _, _, hds => simp [Evs.ds] at hds
          | [], _ :: _, _, h4, _ => simp [all2] at h4
          | _ :: _, [], _, h4, _ => simp [all2] at h4
          | [_], _ :: _ :: _, _, h4, _ => simp [all2] at h4
          | _ :: _ :: _, [_], _, h4, _ => simp [all2] at h4
          | _ :: _ :: _, c1 :: c2 :: cs, _, _, hds =>
            simp only [Evs.ds] at hds
            split at hds <;> (try cases hds)
            split at hds <;> (try cases hds)
            rename_i hz
            split at hz <;> (try cases hz)
            split at hz <;> (try cases hz)
        · match es, cs, h3, h4, hds with
          | [ea, eb], [ca, cb], h3, h4, hds =>
            simp only [List.all_cons, Bool.and_eq_true] at h3
            simp only [all2, Bool.and_eq_true] at h4
            simp only [Evs.ds] at hds
            split at hds
            · rename_i o1 ho1
              split at hds
              · rename_i r hr
                split at hr
                · rename_i o2 ho2
                  cases hr
                  cases hds
                  exact p_blt2 hX g1 g2 h3.1 h3.2.1 (P.last (h.ov hX h4.1 ho1)) (P.last (h.ov hX h4.2.1 ho2)) ho
                · cases hr
                · cases hr
              · cases hds
              · cases hds
            · cases hds
            · cases hds
          | [], [], _, _, hds => simp [Evs.ds] at hds
          | [], _ :: _, _, h4, _ => simp [all2] at h4
          | _ :: _, [], _, h4, _ => simp [all2] at h4
          | [_], _ :: _ :: _, _, h4, _ => simp [all2] at h4
          | _ :: _ :: _, [_], _, h4, _ => simp [all2] at h4
          | [_], [_], _, _, hds =>
            simp only [Evs.ds] at hds
            split at hds <;> cases hds
          | [_, _], _ :: _ :: _ :: _, _, h4, _ => simp [all2] at h4
          | _ :: _ :: _ :: _, [_, _], _, h4, _ => simp [all2] at h4
          | _ :: _ :: _ :: _, c1 :: c2 :: c3 :: cs, _, _, hds =>
            simp only [Evs.ds] at hds
            split at hds <;> (try cases hds)
            split at hds <;> (try cases hds)
            rename_i hz
            split at hz <;> (try cases hz)
            split at hz <;> (try cases hz)
            rename_i hz
            split at hz <;> (try cases hz)
            split at hz <;> (try cases hz)
        · cases ho
      · cases ho
    · cases hk
  | bm mm a cs => simp only [step1] at ho; cases ho
  | bad => simp only [step1] at ho; cases ho
  | isa a tup ts =>
    simp only [ok1] at hk
    split at hk
    · obtain ⟨h1, hk1⟩ := ba2 hk
      obtain ⟨h2, hk2⟩ := ba2 hk1
      obtain ⟨h3, hk3⟩ := ba2 hk2
      obtain ⟨h4, h5⟩ := ba2 hk3
      have e := of_decide_eq_true h1
      subst e
      obtain ⟨g1, g2⟩ := free_of hT h2
      simp only [step1] at ho
      split at ho
      · rename_i x hx
        split at ho
        · rename_i kd hkd
          split at ho
          · rename_i q hq
            cases ho
            cases tup with
            | true =>
              simp only at h5
              split at h5
              · obtain ⟨k1, k2⟩ := ba2 h5
                exact p_isaT hX hT g1 g2 (h.dv hX h4 hx) k2 (of_decide_eq_true k1) hkd hq h3
              · cases h5
            | false =>
              simp only at h5
              split at h5
              · exact p_isa1 hX hT g1 g2 (h.dv hX h4 hx) h5 hkd hq h3
              · cases h5
          · cases ho
        · cases ho
      · cases ho
    · cases hk
  | mkx c cs =>
    simp only [ok1] at hk
    split at hk
    · obtain ⟨h1, hk1⟩ := ba2 hk
      obtain ⟨h2, hk2⟩ := ba2 hk1
      obtain ⟨h3, hk3⟩ := ba2 hk2
      obtain ⟨h4, hk4⟩ := ba2 hk3
      obtain ⟨h5, h6⟩ := ba2 hk4
      have e := of_decide_eq_true h1
      subst e
      simp only [step1] at ho
      split at ho
      · rename_i ds hds
        split at ho
        · rename_i x hx
          cases ho
          have ja := h.ds hX (env := env) h5 h6
          rw [hds] at ja
          rw [h.kk] at hx
          exact p_exc (mx_of hX hT hx ja (by simpa using h4) h5 h3 h2)
        · cases ho
      · cases ho
    · cases hk
  | isi a t =>
    simp only [ok1] at hk
    split at hk
    · obtain ⟨h1, hk1⟩ := ba2 hk
      obtain ⟨h2, hk2⟩ := ba2 hk1
      obtain ⟨h3, hk3⟩ := ba2 hk2
      obtain ⟨h4, hk4⟩ := ba2 hk3
      obtain ⟨h5, h6⟩ := ba2 hk4
      have e := of_decide_eq_true h1
      have e' := of_decide_eq_true h3
      subst e e'
      obtain ⟨g1, g2⟩ := free_of hT h2
      obtain ⟨g3, g4⟩ := free_of hT h4
      simp only [step1] at ho
      split at ho
      · rename_i x hx
        split at ho
        · rename_i q hq; cases ho; exact p_isiD hX g1 g2 g3 g4 h5 (h.dv hX h6 hx) hq
        · cases ho
      · cases ho
    · cases hk
  | lc own t it cifs celt =>
    simp only [ok1] at hk
    split at hk
    · obtain ⟨h1, hk1⟩ := ba2 hk
      obtain ⟨h2, hk2⟩ := ba2 hk1
      obtain ⟨h3, hk3⟩ := ba2 hk2
      obtain ⟨h4, hk4⟩ := ba2 hk3
      obtain ⟨h5, hk5⟩ := ba2 hk4
      obtain ⟨h6, hk6⟩ := ba2 hk5
      obtain ⟨h7, hk7⟩ := ba2 hk6
      obtain ⟨h8, hk8⟩ := ba2 hk7
      obtain ⟨h9, hk9⟩ := ba2 hk8
      obtain ⟨h10, h11⟩ := ba2 hk9
      have e := of_decide_eq_true h1
      subst e
      simp only [step1] at ho
      split at ho
      · rename_i ds hds
        split at ho
        · rename_i hsz
          split at ho
          · rename_i os hos
            cases ho
            have hit := h.it hT hX h7 (by simpa using h5) (tp_of h8 h4) hds
            rw [(lc_all hos).2, ← mapIdx_fm]
            exact p_lc hX _ hit h2 hsz (lcb_of h h6 h8 (of_decide_eq_true h9) h10 h11 hos) (fun en x => fold_of h3 en x)
          · cases ho
        · cases ho
      · cases ho
    · cases hk
  | range cs => simp only [step1] at ho; cases ho
  | enum a st => simp only [step1] at ho; cases ho
  | reved a => simp only [step1] at ho; cases ho
  | zip a b => simp only [step1] at ho; cases ho
theorem je_one {op : BoolOp} {r : R Ow} (h : JE X env e r) : JE X env (.BoolOp op [e] pos) r := by
  cases r with
  | ok o => exact p_one h
  | ex c => exact .mk fun H0 σ G H s E W tk w Q => WE.of (pe_one pWE) (h.run H0 σ G H s E W tk w Q)
  | stk => exact trivial
theorem ds_nil {cs : List CE} {ds : List D} (h : all2 (okE T N k sc fs) [] cs = true) (hd : E.ds env cs = .ok ds) : ds = [] := by
  cases cs with
  | nil => simp only [Evs.ds] at hd; cases hd; rfl
  | cons _ _ => simp [all2] at h
theorem ds_ne {cs : List CE} {es : List Expr} {c : Xc} (h : all2 (okE T N k sc fs) es cs = true) (hd : E.ds env cs = .ex c) : es ≠ [] := by
  cases cs with
  | nil => simp only [Evs.ds] at hd; cases hd
  | cons _ _ => intro e; subst e; simp [all2] at h
theorem snd_o (h : SE m T E n) (hT : TOk m T) (hX : Cs X m N sc fs (n + 1)) : ∀ {k : Nat} {e : Expr} {cc : CE}, okE T N k sc fs e cc = true → JE X env e (stepO T E env cc)
  | 0, e, cc, hk => by simp [okE] at hk
  | k + 1, e, cc, hk => by
    have hX' := hX.mono (Nat.le_succ n)
    have hk0 := hk
    simp only [okE] at hk
    cases hu : unb e with
    | some x =>
      rw [hu] at hk
      obtain ⟨op, p, rfl⟩ := unb_of hu
      exact je_one (snd_o h hT hX hk)
    | none =>
      rw [hu] at hk
      simp only at hk
      have gen : ∀ r, step1 T E env cc = r → JE X env e r.calm := fun r hr => by
        cases r with
        | ok o => exact snd1 h hT hX' hk hu hr
        | ex c => exact trivial
        | stk => exact trivial
      cases cc with
      | call i cs =>
        simp only [ok1] at hk
        split at hk
        · rename_i x q1 es q2
          obtain ⟨h1, hk1⟩ := ba2 hk
          obtain ⟨h2, hk2⟩ := ba2 hk1
          obtain ⟨h3, hk3⟩ := ba2 hk2
          obtain ⟨h4, h5⟩ := ba2 hk3
          split at h1
          · rename_i fi hfi
            have e1 := of_decide_eq_true h1
            subst e1
            have ja := h.ds hX' (env := env) h4 h5
            simp only [stepO]
            cases hd : E.ds env cs with
            | stk => exact trivial
            | ex c =>
              rw [hd] at ja
              exact px_callA hX (hT.fns i fi hfi) h3 h2 h4 (ds_ne h5 hd) ja
            | ok ds =>
              rw [hd] at ja
              simp only
              cases hr : E.f i ds with
              | stk => exact trivial
              | ok o =>
                have F := h.f i fi hfi ds (.ok o) (by rw [hr]; rfl)
                exact p_callF hX F (Nat.le_succ n) h3 h2 h4 (fun z => by subst z; exact ds_nil h5 hd) ja (by rw [hr]; rfl)
              | ex c =>
                have F := h.f i fi hfi ds (.ex c) (by rw [hr]; rfl)
                exact px_callF hX F (Nat.le_succ n) h3 h2 h4 (fun z => by subst z; exact ds_nil h5 hd) ja (by rw [hr]; rfl)
          · cases h1
        · cases hk
      | meth c x a cs =>
        simp only [ok1] at hk
        split at hk
        · rename_i ea m' ap es q2
          obtain ⟨h1, hk1⟩ := ba2 hk
          obtain ⟨h2, hk2⟩ := ba2 hk1
          obtain ⟨h3, hk3⟩ := ba2 hk2
          obtain ⟨h4, hk4⟩ := ba2 hk3
          obtain ⟨h5, hk5⟩ := ba2 hk4
          obtain ⟨h6, h7⟩ := ba2 hk5
          have e1 := of_decide_eq_true h1
          subst e1
          have ja := h.ds hX' (env := env) h5 h7
          simp only [stepO]
          cases hx : E.dv env a with
          | stk => exact trivial
          | ex c => exact trivial
          | ok d =>
            simp only
            have hp := h.dv hX' h6 hx
            cases hd : E.ds env cs with
            | stk => exact trivial
            | ex c => exact trivial
            | ok ds =>
              rw [hd] at ja
              simp only
              cases hr : E.m c m' d ds with
              | stk => exact trivial
              | ok o =>
                obtain ⟨⟨ns, xs, rfl, hno⟩, F⟩ := h.mt c m' d ds (.ok o) (by rw [hr]; rfl)
                exact p_methF hX F (Nat.le_succ n) hno h2 (of_decide_eq_true h3) h4 h5 (fun z => by subst z; exact ds_nil h7 hd) hp ja ⟨_, _, rfl, by rw [hr]; rfl⟩
              | ex c' =>
                obtain ⟨⟨ns, xs, rfl, hno⟩, F⟩ := h.mt c m' d ds (.ex c') (by rw [hr]; rfl)
                exact px_methF hX F (Nat.le_succ n) hno h2 (of_decide_eq_true h3) h4 h5 (fun z => by subst z; exact ds_nil h7 hd) hp ja ⟨_, _, rfl, by rw [hr]; rfl⟩
        · cases hk
      | make c cs =>
        simp only [ok1] at hk
        split at hk
        · rename_i x q1 es q2
          obtain ⟨h1, hk1⟩ := ba2 hk
          obtain ⟨h2, hk2⟩ := ba2 hk1
          obtain ⟨h3, hk3⟩ := ba2 hk2
          obtain ⟨h4, hk4⟩ := ba2 hk3
          obtain ⟨h5, h6⟩ := ba2 hk4
          have e1 := of_decide_eq_true h1
          subst e1
          have hne : es ≠ [] := by simpa using h4
          have ja := h.ds hX' (env := env) h5 h6
          simp only [stepO]
          cases hd : E.ds env cs with
          | stk => exact trivial
          | ex c => exact trivial
          | ok ds =>
            rw [hd] at ja
            simp only
            cases hr : E.io x "__init__" (.ins x [] []) ds with
            | stk => exact trivial
            | ok s o =>
              have F := h.mkr x _ ds (.ok s o) (by rw [hr]; exact ⟨rfl, rfl⟩)
              split
              · rename_i heq
                cases heq
                exact p_makeF hX F (Nat.le_refl _) h3 h2 h5 hne ja (by rw [hr]; exact ⟨rfl, rfl⟩)
              · rename_i heq
                cases heq
              · exact trivial
            | ex c' s =>
              have F := h.mkr x _ ds (.ex c' s) (by rw [hr]; exact ⟨rfl, rfl⟩)
              exact px_makeF hX F (Nat.le_refl _) h3 h2 h5 hne ja (by rw [hr]; exact ⟨rfl, rfl⟩)
        · cases hk
      | _ => exact gen _ rfl
/-! ### tests -/
theorem tx_of (hn : nTst e = true) {c : Xc} (h : PX X env e c) : TX X env e c := .mk fun H0 σ G H s E W tk w Q =>
  WT.of (pt_truth pWE (tst_of hn _)) (h.run H0 σ G H s E W tk w _)
theorem tx_not {c : Xc} (h : TX X env e c) : TX X env (.UnaryOp .Not e pos) c := .mk fun H0 σ G H s E W tk w Q => WT.of (pt_not pWT) (h.run H0 σ G H s E W tk w _)
/-- tests of and, or: the whole value is not asked -/
structure TWX (X : Cx) (env : Ev) (e : Expr) (c : Xc) : Prop where
  run : ∀ (H0 : Hp) (σ : St) (G H : Hp), Sub G H → En X.K H0 G H σ env → ∀ (W : WX), L2.Takes X W → (∀ cls d G' H', Ex2 G H G' H' → RX X.K G' c cls d → W cls d σ H') → ∀ Q : Bool → Hp → Prop, WW X e σ H Q
def JW (X : Cx) (env : Ev) (e : Expr) : R Bool → Prop
  | .ok o => TW X env e o
  | .ex c => TWX X env e c
  | .stk => True
theorem JW.t {r : R Bool} (h : JW X env e r) : JT X env e r := by
  cases r with
  | ok q => exact TW.t h
  | ex c => exact .mk fun H0 σ G H s E W tk w Q pins sh I => h.run H0 σ G H s E W tk w Q _ pins sh I
  | stk => exact trivial
theorem jw_one {op : BoolOp} {r : R Bool} (h : JT X env e r) : JW X env (.BoolOp op [e] pos) r := by
  cases r with
  | ok q => cases op with
    | And => exact tw_and1 h
    | Or => exact tw_or1 h
  | ex c => cases op with
    | And => exact .mk fun H0 σ G H s E W tk w Q wh pins sh I => (pw_and1 pWT).run wh pins sh σ H Q I (h.run H0 σ G H s E W tk w Q)
    | Or => exact .mk fun H0 σ G H s E W tk w Q wh pins sh I => (pw_or1 pWT).run wh pins sh σ H Q I (h.run H0 σ G H s E W tk w Q)
  | stk => exact trivial
def andR : R Bool → R Bool → R Bool
  | .ok true, r => r
  | .ok false, _ => .ok false
  | .ex c, _ => .ex c
  | .stk, _ => .stk
def orR : R Bool → R Bool → R Bool
  | .ok false, r => r
  | .ok true, _ => .ok true
  | .ex c, _ => .ex c
  | .stk, _ => .stk
theorem jw_and {r1 r2 : R Bool} (ha : JT X env a r1) (hb : JW X env (.BoolOp .And (b :: es) pos) r2) : JW X env (.BoolOp .And (a :: b :: es) pos) (andR r1 r2) := by
  cases r1 with
  | stk => exact trivial
  | ex c => exact .mk fun H0 σ G H s E W tk w Q wh pins sh I => (pw_and pWT pWW).run wh pins sh σ H Q I (ha.run H0 σ G H s E W tk w _)
  | ok q => cases q with
    | false => exact tw_and (r := false) ha (fun z => by cases z)
    | true => cases r2 with
      | stk => exact trivial
      | ok r => exact tw_and ha (fun _ => hb)
      | ex c => exact .mk fun H0 σ G H s E W tk w Q wh pins sh I => (pw_and pWT pWW).run wh pins sh σ H Q I (ha.run H0 σ G H s E _ fun G1 H1 x1 => iteT (fun wh pins sh I => hb.run H0 σ G1 H1 x1.s (E.later x1) W tk (fun cls d G' H' x' r => w cls d G' H' (x1.trans x') r) Q wh pins sh I))
theorem jw_or {r1 r2 : R Bool} (ha : JT X env a r1) (hb : JW X env (.BoolOp .Or (b :: es) pos) r2) : JW X env (.BoolOp .Or (a :: b :: es) pos) (orR r1 r2) := by
  cases r1 with
  | stk => exact trivial
  | ex c => exact .mk fun H0 σ G H s E W tk w Q wh pins sh I => (pw_or pWT pWW).run wh pins sh σ H Q I (ha.run H0 σ G H s E W tk w _)
  | ok q => cases q with
    | true => exact tw_or (r := false) ha (fun z => by cases z)
    | false => cases r2 with
      | stk => exact trivial
      | ok r => exact tw_or ha (fun _ => hb)
      | ex c => exact .mk fun H0 σ G H s E W tk w Q wh pins sh I => (pw_or pWT pWW).run wh pins sh σ H Q I (ha.run H0 σ G H s E _ fun G1 H1 x1 => iteF (fun wh pins sh I => hb.run H0 σ G1 H1 x1.s (E.later x1) W tk (fun cls d G' H' x' r => w cls d G' H' (x1.trans x') r) Q wh pins sh I))
theorem jw_of {op : BoolOp} {vs : List Expr} {r : R Bool} (h : JT X env (.BoolOp op vs pos) r) : JW X env (.BoolOp op vs pos) r := by
  cases r with
  | ok q => exact .mk fun H0 σ G H s E Q g wh pins sh I => h.run H0 σ G H s E Q g pins sh I
  | ex c => exact .mk fun H0 σ G H s E W tk w Q wh pins sh I => h.run H0 σ G H s E W tk w Q pins sh I
  | stk => exact trivial
def CE.isT : CE → Bool | .not _ => true | .bop _ _ _ => true | .cmp _ _ _ => true | .cmp2 _ _ _ _ _ => true | .ite _ _ _ => true | .bad => true | _ => false
theorem ntst_of {ok : Scope → Scope → Expr → CE → Bool} {cc : CE} (hc : cc.isT = false) (h : ok1 T N ok sc fs e cc = true) : nTst e = true := by
  have hn : ∀ {q : Prop}, true = false → q := fun z => by cases z
  cases cc with
  | not a => exact hn hc
  | bop a b c => exact hn hc
  | cmp a b c => exact hn hc
  | cmp2 a b c d e => exact hn hc
  | ite a b c => exact hn hc
  | bad => exact hn hc
  | enum a st =>
    cases st with
    | none => simp only [ok1] at h; split at h <;> first | rfl | (cases h; done)
    | some _ => simp only [ok1] at h; cases h
  | dct ks vs => cases ks <;> cases vs <;> simp only [ok1] at h <;> first | (cases h; done) | (split at h <;> first | rfl | (cases h; done))
  | bm _ _ _ => simp only [ok1] at h; cases h
  | _ => simp only [ok1] at h; split at h <;> first | rfl | (cases h; done)
/-- a comparison whose left side raises -/
theorem tx_cmp {op : CmpOp} {x : Xc} (h : PX X env a x) (hm : nSet b = true) : TX X env (.Compare a [op] [b] pos) x := .mk fun H0 σ G H s E W tk w Q =>
  WT.of (pt_cmpR (op := op) (r := fun _ _ _ _ => False) (fun _ _ _ _ _ _ _ _ _ _ _ _ z => z.elim) pWE pWE (marks_of hm)) (h.run H0 σ G H s E W tk w _)
theorem snd_t (h : SE m T E n) (hT : TOk m T) (hX : Cs X m N sc fs (n + 1)) : ∀ {k : Nat} {e : Expr} {cc : CE}, okE T N k sc fs e cc = true → JT X env e (stepT E env cc)
  | 0, e, cc, hk => by simp [okE] at hk
  | k + 1, e, cc, hk => by
    have hX' := hX.mono (Nat.le_succ n)
    have hk0 := hk
    simp only [okE] at hk
    cases hu : unb e with
    | some x =>
      rw [hu] at hk
      obtain ⟨op, p, rfl⟩ := unb_of hu
      exact (jw_one (snd_t h hT hX hk)).t
    | none =>
      rw [hu] at hk
      simp only at hk
      have gen : cc.isT = false → JT X env e (match E.o env cc with | .ok o => (dTruth o.fr).calm | .ex c => .ex c | .stk => .stk) := fun hc => by
        have hn := ntst_of hc hk
        have jo := h.o (env := env) hX' hk0
        cases ho : E.o env cc with
        | stk => exact trivial
        | ex c => rw [ho] at jo; exact tx_of hn jo
        | ok o =>
          rw [ho] at jo
          simp only
          cases ht : dTruth o.fr with
          | stk => exact trivial
          | ex c => exact trivial
          | ok q => exact t_truth (P.last jo) ht (tst_of hn)
      cases cc with
      | not a =>
        simp only [ok1] at hk
        split at hk
        · have ja := h.t (env := env) hX' hk
          simp only [stepT]
          cases ht : E.t env a with
          | stk => exact trivial
          | ex c => rw [ht] at ja; exact tx_not ja
          | ok q => rw [ht] at ja; exact t_not ja
        · cases hk
      | bop op a b =>
        simp only [ok1] at hk
        split at hk
        · rename_i bo ea eb es pp
          obtain ⟨h1, hk1⟩ := ba2 hk
          obtain ⟨h2, h3⟩ := ba2 hk1
          have e := of_decide_eq_true h1
          subst e
          have ja := h.t (env := env) hX' h2
          have jb := h.t (env := env) hX' h3
          cases bo with
          | And =>
            have q := (jw_and ja (jw_of jb)).t
            simp only [stepT]
            revert q
            cases E.t env a with
            | ok v => cases v <;> exact id
            | ex c => exact id
            | stk => exact id
          | Or =>
            have q := (jw_or ja (jw_of jb)).t
            simp only [stepT]
            revert q
            cases E.t env a with
            | ok v => cases v <;> exact id
            | ex c => exact id
            | stk => exact id
        · cases hk
      | cmp op a b =>
        simp only [ok1] at hk
        split at hk
        · obtain ⟨h1, hk1⟩ := ba2 hk
          obtain ⟨h2, hk2⟩ := ba2 hk1
          obtain ⟨h3, h4⟩ := ba2 hk2
          have e := of_decide_eq_true h1
          subst e
          simp only [stepT]
          split
          · rename_i x hx
            split
            · rename_i y hy
              cases hq : dCmp _ x y with
              | stk => exact trivial
              | ex c => exact trivial
              | ok q => exact t_of_c (p_cmpD hX' (h.dv hX' h3 hx) (h.dv hX' h4 hy) hq h2)
            · exact trivial
          · split
            · rename_i x hx
              have q := h.o (env := env) hX' h3
              rw [hx] at q
              exact tx_cmp q h2
            · exact trivial
        · cases hk
      | cmp2 op op' a b c =>
        simp only [ok1] at hk
        split at hk
        · obtain ⟨h1, hk1⟩ := ba2 hk
          obtain ⟨h2, hk2⟩ := ba2 hk1
          obtain ⟨h3, hk3⟩ := ba2 hk2
          obtain ⟨h4, hk4⟩ := ba2 hk3
          obtain ⟨h5, h6⟩ := ba2 hk4
          have e := of_decide_eq_true h1
          have e' := of_decide_eq_true h2
          subst e e'
          simp only [stepT]
          split
          · rename_i i hi
            split
            · rename_i j hj
              split
              · rename_i hc
                split
                · rename_i hs
                  obtain ⟨q0, hq0⟩ := Option.isSome_iff_exists.mp hs
                  obtain ⟨f, f1, f2, _⟩ := op_i (X := X) hc
                  obtain ⟨f', f1', f2', _⟩ := op_i (X := X) hq0
                  exact (tc_chain f1 f1' (h.dv hX' h4 hi) (h.dv hX' h5 hj) (fun _ => rfl) (fun z => by rw [f2] at z; cases z) (marks2_of h3)).2
                · exact trivial
              · rename_i hc
                split
                · rename_i l hl
                  split
                  · rename_i q hq
                    obtain ⟨f, f1, f2, _⟩ := op_i (X := X) hc
                    obtain ⟨f', f1', f2', _⟩ := op_i (X := X) hq
                    exact (tc_chain f1 f1' (h.dv hX' h4 hi) (h.dv hX' h5 hj) (fun z => by rw [f2] at z; cases z) (fun _ => ⟨l, h.dv hX' h6 hl, f2'⟩) (marks2_of h3)).2
                  · exact trivial
                · exact trivial
              · exact trivial
            · exact trivial
          · exact trivial
        · cases hk
      | ite c a b => exact trivial
      | bad => exact trivial
      | _ => exact gen rfl
end
end Pu

set_option Elab.async false
set_option linter.all false
set_option autoImplicit false
set_option maxRecDepth 100000
set_option maxHeartbeats 1000001
namespace Pu
open PySem L2
/-! ### the address of self does not matter -/
def reO (a : Addr) : Ow → Ow
  | .at _ o => .at a o
  | o => o
def reE (a : Addr) (env : Ev) : Ev := env.map (Option.map (reO a))
def reOut (a : Addr) : Out → Out
  | .nx env => .nx (reE a env)
  | .bk env => .bk (reE a env)
  | .ct env => .ct (reE a env)
  | .rt o env => .rt o (reE a env)
  | .ex c env => .ex c (reE a env)
section
variable {a : Addr} {env : Ev} {i : Nat} {o x : Ow} {π : List Nat}
theorem re_get : (reE a env)[i]? = (env[i]?).map (Option.map (reO a)) := by simp [reE]
theorem re_set {q : Option Ow} : reE a (env.set i q) = (reE a env).set i (q.map (reO a)) := by simp [reE]
theorem re_len : (reE a env).length = env.length := by simp [reE]
theorem re_strip : (reO a o).strip = o.strip := by cases o <;> rfl
theorem re_fr : (reO a o).fr = o.fr := by cases o <;> simp only [reO, Ow.fr]
theorem re_per {d : D} : reO a (.per d) = .per d := rfl
theorem re_sub : (reO a o).sub π = o.sub π := by
  cases π with
  | nil => simp only [Ow.sub, re_strip]
  | cons j π => simp only [Ow.sub, re_strip]
theorem reO_at {b : Addr} : reO a (.at b o) = .at a o := rfl
theorem re_id (h : o.isAt = false) : reO a o = o := by cases o <;> first | rfl | cases h
theorem put_at (h : x.isAt = false) : ∀ {π : List Nat} {o : Ow}, (reO a o).put π x = reO a (o.put π x)
  | [], o => by
    simp only [Ow.put]
    cases o with
    | «at» b y => rfl
    | _ => simp only [reO, Ow.over]; exact (re_id h).symm
  | j :: π, o => by
    simp only [Ow.put, re_strip]
    cases hk : o.strip.kids[j]? with
    | none => rfl
    | some k =>
      simp only
      cases o with
      | «at» b y => rfl
      | _ => simp only [reO, Ow.over, Ow.strip, Ow.setKids]
end
/-! ### expressions do not see it -/
structure RI (E : Evs) : Prop where
  o : ∀ a env c, E.o (reE a env) c = E.o env c
  t : ∀ a env c, E.t (reE a env) c = E.t env c
section
variable {E : Evs} {a : Addr} {env : Ev} (h : RI E)
include h
theorem RI.dv {c : CE} : E.dv (reE a env) c = E.dv env c := by unfold Evs.dv; rw [h.o]
theorem RI.ds : ∀ {cs : List CE}, E.ds (reE a env) cs = E.ds env cs
  | [] => rfl
  | c :: cs => by simp only [Evs.ds]; rw [h.o, RI.ds]
theorem RI.os : ∀ {cs : List CE}, E.os (reE a env) cs = E.os env cs
  | [] => rfl
  | c :: cs => by simp only [Evs.os]; rw [h.o, RI.os]
theorem RI.ts : ∀ {cs : List CE}, E.ts (reE a env) cs = E.ts env cs
  | [] => rfl
  | c :: cs => by simp only [Evs.ts]; rw [h.t, RI.ts]
theorem RI.oi {c : Option CE} : E.oi (reE a env) c = E.oi env c := by
  cases c with
  | none => rfl
  | some c => simp only [Evs.oi]; rw [h.dv]
theorem RI.it {c : CE} : E.it (reE a env) c = E.it env c := by
  unfold Evs.it
  split <;> simp only [h.dv]
theorem RI.pl {T : Tab} : ∀ {c : CE}, Evs.pl T E (reE a env) c = Evs.pl T E env c
  | .var i => by
    simp only [Evs.pl, re_get]
    cases env[i]? with
    | none => rfl
    | some q => cases q with
      | none => rfl
      | some o => cases o <;> rfl
  | .att x f => by simp only [Evs.pl]; rw [RI.pl]
  | .idx x y => by simp only [Evs.pl]; rw [RI.pl, h.dv]
  | .cst _ => rfl
  | .glb _ => rfl
  | .bin _ _ _ => rfl
  | .neg _ => rfl
  | .not _ => rfl
  | .cmp _ _ _ => rfl
  | .cmp2 _ _ _ _ _ => rfl
  | .bop _ _ _ => rfl
  | .ite _ _ _ => rfl
  | .tup _ => rfl
  | .lst _ => rfl
  | .dct _ _ => rfl
  | .dnew _ => rfl
  | .dsp _ _ => rfl
  | .sli _ _ _ => rfl
  | .rev _ => rfl
  | .call _ _ => rfl
  | .meth _ _ _ _ => rfl
  | .make _ _ => rfl
  | .blt _ _ => rfl
  | .bm _ _ _ => rfl
  | .isi _ _ => rfl
  | .lc _ _ _ _ _ => rfl
  | .range _ => rfl
  | .enum _ _ => rfl
  | .reved _ => rfl
  | .zip _ _ => rfl
  | .bad => rfl
  | .isa _ _ _ => rfl
  | .mkx _ _ => rfl
end
mutual
theorem setO_re {a : Addr} : ∀ {t : CT} {env : Ev} {o : Ow}, t.setO (reE a env) o = (t.setO env o).map (reE a)
  | .nm i, env, o => by
    unfold CT.setO
    split
    · rfl
    · rename_i hno
      rw [re_len]
      split
      · rw [Option.map_some, re_set]
        have : reO a o = o := re_id (by cases o <;> first | rfl | exact absurd rfl (hno _ _))
        rw [Option.map_some, this]
      · rfl
  | .tp ts, env, o => by
    unfold CT.setO
    split
    · exact setOs_re
    · rfl
theorem setOs_re {a : Addr} : ∀ {t : CTs} {env : Ev} {os : List Ow}, t.setO (reE a env) os = (t.setO env os).map (reE a)
  | .nil, env, os => by
    unfold CTs.setO
    split <;> rfl
  | .cons t ts, env, os => by
    unfold CTs.setO
    split
    · rw [setO_re]
      rename_i d ds
      cases CT.setO t env d with
      | none => rfl
      | some e => exact setOs_re
    · rfl
end
theorem wipe_re {a : Addr} {env : Ev} : ∀ {vs : List Nat}, wipeE (reE a env) vs = reE a (wipeE env vs)
  | [] => rfl
  | v :: vs => by simp only [wipeE, wipe_re, re_set, Option.map_none]
theorem RI.lc {E : Evs} {a : Addr} {env : Ev} (h : RI E) {t : CT} {ifs : List CE} {elt : CE} : ∀ {ds : List D}, E.lc (reE a env) t ifs elt ds = E.lc env t ifs elt ds
  | [] => rfl
  | d :: ds => by
    simp only [Evs.lc]
    rw [setO_re]
    cases CT.setO t env (.per d) with
    | none => rfl
    | some e =>
      simp only [Option.map_some]
      rw [h.ts, h.o, RI.lc h]
theorem RI.step1 {T : Tab} {E : Evs} (h : RI E) {a : Addr} {env : Ev} {c : CE} : Pu.step1 T E (reE a env) c = Pu.step1 T E env c := by
  cases c with
  | var i =>
    simp only [Pu.step1, re_get]
    cases env[i]? with
    | none => rfl
    | some q => cases q with
      | none => rfl
      | some o => cases o <;> rfl
  | bop op x y => cases op <;> simp only [Pu.step1, h.dv, h.o]
  | dct ks vs => cases ks <;> cases vs <;> simp only [Pu.step1]
  | _ => simp only [Pu.step1, h.dv, h.ds, h.os, h.oi, h.it, h.pl, h.o, h.t, h.lc, wipe_re]
theorem RI.step {T : Tab} {E : Evs} (h : RI E) : RI (stepE T E) where
  o := fun a env c => by
    show stepO T E (reE a env) c = stepO T E env c
    cases c <;> simp only [stepO, h.ds, h.dv, h.step1]
  t := fun a env c => by
    show stepT E (reE a env) c = stepT E env c
    cases c with
    | bop op x y => cases op <;> simp only [stepT, h.t]
    | _ => simp only [stepT, h.t, h.o, h.dv]
theorem ri_evs {T : Tab} : ∀ n, RI (evs T n)
  | 0 => ⟨fun _ _ _ => rfl, fun _ _ _ => rfl⟩
  | n + 1 => (ri_evs n).step
/-! ### lending -/
theorem own1_re {a : Addr} {env : Ev} {i : Nat} : own1 (reE a env) i = (own1 env i).map (reO a) := by
  unfold own1
  rw [re_get]
  cases env[i]? with
  | none => rfl
  | some q => cases q with
    | none => rfl
    | some o => cases o <;> rfl
theorem vwL_re {a : Addr} : ∀ {L : List Nat} {env : Ev}, vwL L (reE a env) = reE a (vwL L env)
  | [], env => rfl
  | i :: L, env => by
    simp only [vwL, own1_re]
    cases own1 env i with
    | none => exact vwL_re
    | some o =>
      simp only [Option.map_some, re_fr]
      rw [← vwL_re, re_set]
      rfl
theorem owL_re {a : Addr} {L : List Nat} {env : Ev} : owL L (reE a env) = owL L env := by
  unfold owL
  congr 1
  funext i
  rw [own1_re]
  cases own1 env i <;> rfl
theorem own1_of {env : Ev} {i : Nat} {o : Ow} (h : own1 env i = some o) : env[i]? = some (some o) := by
  unfold own1 at h
  split at h
  · cases h
  · rename_i x hx hq; cases h; exact hq
  · cases h
theorem less_none {G : Hp} {f1 : List Addr} {a : Addr} (h : G a = none) : less G f1 a = none := by
  unfold less
  split
  · rfl
  · exact h
section
variable {K : PySem.W.Frag} {G H : Hp} {f1 : List Addr}
mutual
theorem RO.less (k : ∀ a ∈ f1, ∃ u, H a = some u ∧ notT u = true) (s : Sub G H) : ∀ {o : Ow} {v : V} {fp : List Addr}, o.nl = true → RO K G H o v fp → RO K (less G f1) H o v fp
  | .per d, v, fp, hn, h => by
    simp only [RO] at h ⊢
    exact ⟨h.1, Rp.less k s (by simpa only [Ow.nl] using hn) h.2⟩
  | .lst os, v, fp, hn, h => by
    simp only [RO] at h ⊢
    obtain ⟨a, xs, fq, h1, h2, h3, h4, h5⟩ := h
    exact ⟨a, xs, fq, h1, h2, less_none h3, h4, ROs.less k s (by simpa only [Ow.nl] using hn) h5⟩
  | .tup os, v, fp, hn, h => by
    simp only [RO] at h ⊢
    obtain ⟨a, xs, h1, h3, h5⟩ := h
    refine ⟨a, xs, h1, ?_, ROs.less k s (by simpa only [Ow.nl] using hn) h5⟩
    have e : a ∉ f1 := fun e => by
      obtain ⟨u, e1, e2⟩ := k a e
      rw [s _ _ h3] at e1
      cases e1; cases e2
    rw [less_out e]; exact h3
  | .ins C ns os, v, fp, hn, h => by
    simp only [RO] at h ⊢
    obtain ⟨a, dx, xs, fq, h1, h2, h3, h4, h6, h5⟩ := h
    exact ⟨a, dx, xs, fq, h1, h2, less_none h3, h4, h6, ROs.less k s (by simpa only [Ow.nl] using hn) h5⟩
  | .dK ks os, v, fp, hn, h => by
    simp only [RO] at h ⊢
    obtain ⟨a, xs, fq, h1, h2, h3, h4, h6, h5⟩ := h
    exact ⟨a, xs, fq, h1, h2, less_none h3, h4, h6, ROs.less k s (by simpa only [Ow.nl] using hn) h5⟩
  | .dT ks os, v, fp, hn, h => by
    simp only [RO] at h ⊢
    obtain ⟨a, xs, fq, h1, h2, h3, h4, h6, h5⟩ := h
    exact ⟨a, xs, fq, h1, h2, less_none h3, h4, h6, ROs.less k s (by simpa only [Ow.nl] using hn) h5⟩
  | .at b o, v, fp, hn, h => by simp [Ow.nl] at hn
theorem ROs.less (k : ∀ a ∈ f1, ∃ u, H a = some u ∧ notT u = true) (s : Sub G H) : ∀ {os : List Ow} {vs : List V} {fp : List Addr}, onls os = true → ROs K G H os vs fp → ROs K (less G f1) H os vs fp
  | [], vs, fp, _, h => by simpa only [ROs] using h
  | o :: os, vs, fp, hn, h => by
    simp only [ROs] at h ⊢
    simp only [onls, Bool.and_eq_true] at hn
    obtain ⟨v, vr, g1, g2, h1, h2, h3, h4⟩ := h
    exact ⟨v, vr, g1, g2, h1, h2, RO.less k s hn.1 h3, ROs.less k s hn.2 h4⟩
end
end
section
variable {X : Cx} {env : Ev} {e : Expr} {es : List Expr}
theorem P.lent1 {i : Nat} {o o' : Ow} (he : env[i]? = some (some o)) (hd : o'.nl = true) (h : P X (env.set i (some (.per o.fr))) e o') : P X env e o' := .mk fun H0 σ G H s E Q g => by
  obtain ⟨f1, h1, h2, E2⟩ := E.lent he
  refine h.run H0 σ _ H (sub_more s) E2 Q fun v G' H' fp x r n dd => ?_
  exact g v (less G' f1) H' fp (x.less (fun a ha => (h1 a ha).1) fun a ha => (h1 a ha).2) (RO.less (fun a ha => by
    obtain ⟨_, u, e1, e2⟩ := h1 a ha
    exact ⟨u, x.h _ _ e1, e2⟩) x.s hd r) n dd
theorem As.lent1 {i : Nat} {o : Ow} {ds : List D} (he : env[i]? = some (some o)) (hd : nls ds = true) (h : As X (env.set i (some (.per o.fr))) es ds) : As X env es ds := .mk fun H0 σ G H s E Q g => by
  obtain ⟨f1, h1, h2, E2⟩ := E.lent he
  refine h.run H0 σ _ H (sub_more s) E2 Q fun vs G' H' x r => ?_
  exact g vs (less G' f1) H' (x.less (fun a ha => (h1 a ha).1) fun a ha => (h1 a ha).2) (Rps.less (fun a ha => by
    obtain ⟨_, u, e1, e2⟩ := h1 a ha
    exact ⟨u, x.h _ _ e1, e2⟩) x.s hd r)
theorem zip_nl : ∀ {ns : List Str} {ds : List D} {f : Str} {x : D}, nls ds = true → (f, x) ∈ ns.zip ds → x.nl = true
  | [], _, f, x, _, h => by simp at h
  | _ :: _, [], f, x, _, h => by simp at h
  | n :: ns, d :: ds, f, x, hn, h => by
    simp only [nls, Bool.and_eq_true] at hn
    simp only [List.zip_cons_cons, List.mem_cons] at h
    rcases h with h | h
    · cases h; exact hn.1
    · exact zip_nl hn.2 h
theorem RX.less {K : PySem.W.Frag} {G H : Hp} {f1 : List Addr} {c : Xc} {cls : Value} {d : Option Addr} (k : ∀ a ∈ f1, ∃ u, H a = some u ∧ notT u = true) (s : Sub G H) (hn : nls c.ds = true) (h : RX K G c cls d) : RX K (less G f1) c cls d := by
  obtain ⟨h1, xs, h2, h3⟩ := h
  refine ⟨h1, xs, ?_, Rps.less k s hn h3⟩
  rcases h2 with h2 | ⟨dd, fs, h2, h3, h4⟩
  · exact .inl h2
  · refine .inr ⟨dd, fs, h2, ?_, h4⟩
    have e : dd ∉ f1 := fun e => by
      obtain ⟨u, e1, e2⟩ := k dd e
      rw [s _ _ h3] at e1
      cases e1; cases e2
    rw [less_out e]; exact h3
theorem PX.lent1 {i : Nat} {o : Ow} {c : Xc} (he : env[i]? = some (some o)) (hd : nls c.ds = true) (h : PX X (env.set i (some (.per o.fr))) e c) : PX X env e c := .mk fun H0 σ G H s E W tk w Q => by
  obtain ⟨f1, h1, h2, E2⟩ := E.lent he
  refine h.run H0 σ _ H (sub_more s) E2 W tk (fun cls d G' H' x r => ?_) Q
  exact w cls d (less G' f1) H' (x.less (fun a ha => (h1 a ha).1) fun a ha => (h1 a ha).2) (RX.less (fun a ha => by
    obtain ⟨_, u, e1, e2⟩ := h1 a ha
    exact ⟨u, x.h _ _ e1, e2⟩) x.s hd r)
theorem TX.lent1 {i : Nat} {o : Ow} {c : Xc} (he : env[i]? = some (some o)) (hd : nls c.ds = true) (h : TX X (env.set i (some (.per o.fr))) e c) : TX X env e c := .mk fun H0 σ G H s E W tk w Q => by
  obtain ⟨f1, h1, h2, E2⟩ := E.lent he
  refine h.run H0 σ _ H (sub_more s) E2 W tk (fun cls d G' H' x r => ?_) Q
  exact w cls d (less G' f1) H' (x.less (fun a ha => (h1 a ha).1) fun a ha => (h1 a ha).2) (RX.less (fun a ha => by
    obtain ⟨_, u, e1, e2⟩ := h1 a ha
    exact ⟨u, x.h _ _ e1, e2⟩) x.s hd r)
theorem owL_cons {i : Nat} {L : List Nat} (h : owL (i :: L) env = false) : own1 env i = none ∧ owL L env = false := by
  simp only [owL, List.any_cons, Bool.or_eq_false_iff] at h
  refine ⟨?_, h.2⟩
  cases q : own1 env i with
  | none => rfl
  | some o => rw [q] at h; simp at h
theorem vwL_no : ∀ {L : List Nat} {env : Ev}, owL L env = false → vwL L env = env
  | [], env, _ => rfl
  | i :: L, env, h => by
    obtain ⟨h1, h2⟩ := owL_cons h
    simp only [vwL, h1]
    exact vwL_no h2
/-- of a whole list of slots, for judgements that lend one -/
theorem lentL {J : Ev → Prop} (h1 : ∀ env i o, env[i]? = some (some o) → J (env.set i (some (.per o.fr))) → J env) : ∀ {L : List Nat} {env : Ev}, J (vwL L env) → J env
  | [], env, h => h
  | i :: L, env, h => by
    simp only [vwL] at h
    cases q : own1 env i with
    | none =>
      rw [q] at h
      exact lentL h1 (L := L) h
    | some o =>
      rw [q] at h
      exact h1 env i o (own1_of q) (lentL h1 (L := L) h)
theorem P.lentL {L : List Nat} {o : Ow} (hd : owL L env = true → o.nl = true) (h : P X (vwL L env) e o) : P X env e o := by
  cases q : owL L env with
  | false => rw [vwL_no q] at h; exact h
  | true => exact Pu.lentL (J := fun env => P X env e o) (fun env i o' he hp => P.lent1 he (hd q) hp) h
theorem PX.lentL {L : List Nat} {c : Xc} (hd : owL L env = true → nls c.ds = true) (h : PX X (vwL L env) e c) : PX X env e c := by
  cases q : owL L env with
  | false => rw [vwL_no q] at h; exact h
  | true => exact Pu.lentL (J := fun env => PX X env e c) (fun env i o' he hp => PX.lent1 he (hd q) hp) h
theorem T.lentL {L : List Nat} {q : Bool} (h : T X (vwL L env) e q) : T X env e q := Pu.lentL (J := fun env => T X env e q) (fun env i o' he hp => T.lent he hp) h
theorem TX.lentL {L : List Nat} {c : Xc} (hd : owL L env = true → nls c.ds = true) (h : TX X (vwL L env) e c) : TX X env e c := by
  cases q : owL L env with
  | false => rw [vwL_no q] at h; exact h
  | true => exact Pu.lentL (J := fun env => TX X env e c) (fun env i o' he hp => TX.lent1 he (hd q) hp) h
theorem As.lentL {L : List Nat} {ds : List D} (hd : owL L env = true → nls ds = true) (h : As X (vwL L env) es ds) : As X env es ds := by
  cases q : owL L env with
  | false => rw [vwL_no q] at h; exact h
  | true => exact Pu.lentL (J := fun env => As X env es ds) (fun env i o' he hp => As.lent1 he (hd q) hp) h
end
section
variable {m : Md} {T : Tab} {E : Evs} {n : Nat}
theorem je_lend {X : Cx} {env : Ev} {e : Expr} {c : CE} {L : List Nat} (h : JE X (vwL L env) e (E.o (vwL L env) c)) : JE X env e (evP E L env c) := by
  unfold evP
  cases hq : E.o (vwL L env) c with
  | stk => exact trivial
  | ok o =>
    rw [hq] at h
    dsimp only
    split
    · exact trivial
    · rename_i hn
      exact P.lentL (L := L) (fun z => by rw [z] at hn; simpa using hn) h
  | ex x =>
    rw [hq] at h
    dsimp only
    split
    · exact trivial
    · rename_i hn
      exact PX.lentL (L := L) (fun z => by rw [z] at hn; simpa using hn) h
theorem jt_lend {X : Cx} {env : Ev} {e : Expr} {c : CE} {L : List Nat} (h : JT X (vwL L env) e (E.t (vwL L env) c)) : JT X env e (evT E L env c) := by
  unfold evT
  cases hq : E.t (vwL L env) c with
  | stk => exact trivial
  | ok o =>
    rw [hq] at h
    exact T.lentL (L := L) h
  | ex x =>
    rw [hq] at h
    dsimp only
    split
    · exact trivial
    · rename_i hn
      exact TX.lentL (L := L) (fun z => by rw [z] at hn; simpa using hn) h
theorem SE.lend (h : SE m T E n) (L : List Nat) : SE m T (lendE E L) n where
  kk := h.kk
  o := fun hX hk => je_lend (h.o hX hk)
  t := fun hX hk => jt_lend (h.t hX hk)
  f := h.f
  mt := h.mt
  io := h.io
  mkr := h.mkr
theorem RI.lend (h : RI E) (L : List Nat) : RI (lendE E L) where
  o := fun a env c => by
    show evP E L (reE a env) c = evP E L env c
    unfold evP
    rw [vwL_re, h.o, owL_re]
  t := fun a env c => by
    show evT E L (reE a env) c = evT E L env c
    unfold evT
    rw [vwL_re, h.t, owL_re]
end
end Pu

set_option Elab.async false
set_option linter.all false
set_option autoImplicit false
set_option maxRecDepth 100000
set_option maxHeartbeats 1000001
namespace Pu
open PySem L2
section
variable {K : PySem.W.Frag} {G H : Hp}
theorem En.focusP {H0 : Hp} {σ : L2.St} {env : Ev} {i : Nat} {π : List Nat} {o o1 : Ow} (sub : Sub G H) (E : En K H0 G H σ env) (he : env[i]? = some (some o)) (hp : o.sub π = some o1) :
    ∃ v w f1 fr, σ[i]? = some (some v) ∧ vAt H π v = some w ∧ RO K G H o1 w f1 ∧ (f1 ++ fr).Nodup ∧ (∀ a ∈ f1 ++ fr, H0 a = none ∧ G a = none ∧ H a ≠ none) ∧
      ∀ (G' H' : Hp) (o1' : Ow) (f1' : List Addr), (∀ a o, G a = some o → G' a = some o) → (∀ a ∈ fr, H' a = H a ∧ G' a = none) → RO K G' H' o1' w f1' →
        ∃ fp, Ens K G' H' (env.set i (some (o.put π o1'))) σ fp ∧ fp.Perm (f1' ++ fr) := by
  obtain ⟨fp, e1, e2, e3⟩ := E
  obtain ⟨v, fa, f0, fb, q1, q2, q3, q4⟩ := e1.slot he
  subst q2
  obtain ⟨w, f1, fr, z1, z2, z3, z4⟩ := q3.focus sub hp
  have pm : (fa ++ (f0 ++ fb)).Perm (f1 ++ (fr ++ (fa ++ fb))) := by
    have p1 : (fa ++ (f0 ++ fb)).Perm (f0 ++ (fa ++ fb)) := by
      rw [← List.append_assoc, ← List.append_assoc]
      exact (List.perm_append_right_iff fb).mpr List.perm_append_comm
    refine p1.trans ?_
    rw [← List.append_assoc f1 fr]
    exact (List.perm_append_right_iff _).mpr z3
  refine ⟨v, w, f1, fr ++ (fa ++ fb), q1, z1, z2, pm.nodup_iff.mp e2, fun a ha => ?_, fun G' H' o1' f1' eg kp r => ?_⟩
  · have := pm.mem_iff.mpr ha
    exact ⟨e3 a this, e1.out a this⟩
  · obtain ⟨fp', y1, y2⟩ := z4 G' H' o1' f1' eg (fun a ha => kp a (List.mem_append_left _ ha)) r
    have E2 := q4 G' H' (some (o.put π o1')) (some v) fp' eg (fun a ha => kp a (List.mem_append_right _ ha)) ⟨v, rfl, y1⟩
    rw [set_self q1] at E2
    refine ⟨_, E2, ?_⟩
    have p1 : (fa ++ (fp' ++ fb)).Perm (fp' ++ (fa ++ fb)) := by
      rw [← List.append_assoc, ← List.append_assoc]
      exact (List.perm_append_right_iff fb).mpr List.perm_append_comm
    refine p1.trans ?_
    rw [← List.append_assoc f1' fr]
    exact (List.perm_append_right_iff _).mpr y2
end
/-! ### expressions that change things of one's own -/
structure PM (X : Cx) (env : Ev) (e : Expr) (o : Ow) (env' : Ev) : Prop where
  run : ∀ (σ : L2.St) (G0 H0 G H : Hp), Ex2 G0 H0 G H → En X.K H0 G H σ env → ∀ Q : VK, (∀ v G' H', Ex2 G0 H0 G' H' → En X.K H0 G' H' (some v :: σ) (some o :: env') → Q v H') → WE X e σ H Q
structure PMX (X : Cx) (env : Ev) (e : Expr) (c : Xc) (env' : Ev) : Prop where
  run : ∀ (σ : L2.St) (G0 H0 G H : Hp), Ex2 G0 H0 G H → En X.K H0 G H σ env → ∀ (W : WX), L2.Takes X W → (∀ cls d G' H', Ex2 G0 H0 G' H' → En X.K H0 G' H' σ env' → RX X.K G' c cls d → W cls d σ H') → ∀ Q : VK, WE X e σ H Q
section
variable {m : Md} {X : Cx} {N : List Str} {sc fs : Scope} {k j n : Nat} {env env' : Ev} {a e e0 tg : Expr} {es : List Expr} {pos p apos : Pos} {x : Str} {ds : List D} {o ro : Ow} {c : Xc} {i : Nat} {π : List Nat} {Φ : Out → Prop}
theorem pm_meth {R : Ow → List D → Rm → Prop} {cl : Str} {ns : List Str} {os : List Ow} {s' r : Ow} (hX : Cs X m N sc fs k) (F : MthM m j cl x R) (hj : j ≤ k) (hl : Loc X env e0 i π) (he : env[i]? = some (some ro)) (hsu : ro.sub π = some (.ins cl ns os)) (hno : x ∉ ns)
    (hsup : nSup e0 = true) (hlen : es.length < 29) (hp : (apos.endLine == pos.line) = true) (hs : es.all nStar = true) (hz : es = [] → ds = []) (ha : As X env es ds) (hR : R (.ins cl ns os) ds (.ok s' r)) :
    PM X env (.Call (.Attribute e0 x apos) es [] pos) r (env.set i (some (ro.put π s'))) := .mk fun σ G0 H0 G H y E Q g => by
  obtain ⟨f, fd, ps, hC, hm, hb, F⟩ := F
  have F' : FnOk X.prog X.w X.K X.mg X.base (L2.CX m.P m.w) j f fd ps (spM X.K R) := by rw [hX.hP, hX.hW, hX.hK, hX.hM, hX.hB]; exact F
  obtain ⟨v0, w, f1, fr, q1, q2, q3, nd, hh, put⟩ := E.focusP y.s he hsu
  have q3' := q3
  simp only [RO] at q3
  obtain ⟨q, dx, vs, fq, rfl, rfl, g1, g2, g4, g3⟩ := q3
  -- behind the call
  have fin : ∀ us G2 H2, Ex2 G H G2 H2 → Rps X.K G2 ds us → spM X.K R (.ref q :: us) H2 Q E0 := fun us G2 H2 x2 r2 => by
    obtain ⟨n1, n2, n3⟩ := List.nodup_append.mp nd
    refine ⟨G2, q, .ins cl ns os, ds, q :: fq, us, .ok s' r, rfl, x2.s, keepO x2 q3', n1, r2, hR, ?_⟩
    intro v G' H' fp xx rr ndp fresh
    simp only [ROs] at rr
    obtain ⟨v1, vr, fo, f2, e1, rfl, ro1, v2, vr2, fs', f3, e2, rfl, rs, e3, rfl⟩ := rr
    cases e1
    cases e2
    have kp : ∀ b ∈ fr, H' b = H b ∧ G' b = none := fun b hb => by
      obtain ⟨z0, z1, z2⟩ := hh b (List.mem_append_right _ hb)
      have nb : b ∉ q :: fq := fun z => n3 b z b hb rfl
      cases hq : H b with
      | none => exact absurd hq z2
      | some u =>
        have h2 := x2.h _ _ hq
        exact ⟨xx.h _ _ (by rw [less_out nb]; exact h2), xx.n b (x2.n b z1 z2) (by rw [less_out nb, h2]; simp)⟩
    obtain ⟨fp', E2, pm⟩ := put G' H' s' fs' (fun a u hu => xx.g _ _ (x2.g _ _ hu)) kp rs
    refine g v G' H' (ex2_after (y.trans x2) (fun b hb => (hh b (List.mem_append_left _ hb)).1) xx) ⟨fo ++ fp', ⟨v, σ, fo, fp', rfl, rfl, ro1, E2⟩, ?_, fun b hb => ?_⟩
    · have nd2 : (fo ++ fs').Nodup := by simpa using ndp
      obtain ⟨m1, m2, m3⟩ := List.nodup_append.mp nd2
      have dis : ∀ b ∈ fo ++ fs', b ∉ fr := fun b hb hf => by
        have z := fresh b (by simpa using hb)
        have nb : b ∉ q :: fq := fun z => n3 b z b hf rfl
        rw [less_out nb] at z
        exact (hh b (List.mem_append_right _ hf)).2.2 (back_none x2.h z)
      refine List.nodup_append.mpr ⟨m1, pm.nodup_iff.mpr (List.nodup_append.mpr ⟨m2, n2, fun b hb b' hb' e => dis b (List.mem_append_right _ hb) (e ▸ hb')⟩), fun b hb b' hb' e => ?_⟩
      subst e
      rcases List.mem_append.mp (pm.mem_iff.mp hb') with z | z
      · exact m3 b hb b z rfl
      · exact dis b (List.mem_append_left _ hb) z
    · have old : ∀ b, b ∈ fo ++ fs' → H0 b = none := fun b hb => by
        have z := fresh b (by simpa using hb)
        by_cases nb : b ∈ q :: fq
        · exact (hh b (List.mem_append_left _ nb)).1
        · rw [less_out nb] at z
          exact back_none (y.trans x2).h z
      rcases List.mem_append.mp hb with z | z
      · exact old b (List.mem_append_left _ z)
      · rcases List.mem_append.mp (pm.mem_iff.mp z) with z | z
        · exact old b (List.mem_append_right _ z)
        · exact (hh b (List.mem_append_right _ z)).1
  cases es with
  | nil =>
    have e := hz rfl
    subst e
    refine WE.of (pe_meth0S (C := He.ga X.K cl) (E := fun _ => E0) pWE (by rw [hX.hK]; exact hC) (by rw [hX.hK]; exact hm) F' (hX.room.mono hj) (by rw [hX.hK]; exact hb) (fun _ => pass_no) hsup hp) ?_
    refine hl.run H0 σ G H y.s E _ v0 _ q1 q2 fun G1 H1 x1 => ?_
    exact ⟨q, dx, _, rfl, x1.h _ _ g2, lookup_none hno, fin [] G1 H1 x1 (by simp only [Rps])⟩
  | cons e es =>
    refine WE.of (pe_methS (C := He.ga X.K cl) (E := fun _ => E0) pWE (by rw [hX.hK]; exact hC) (by rw [hX.hK]; exact hm) F' (hX.room.mono hj) (by rw [hX.hK]; exact hb) (fun _ => pass_no) pWA hsup hlen hp hs) ?_
    refine hl.run H0 σ G H y.s E _ v0 _ q1 q2 fun G1 H1 x1 => ?_
    refine ⟨q, dx, _, rfl, x1.h _ _ g2, lookup_none hno, ha.run H0 σ G1 H1 x1.s (E.later x1) _ fun us G2 H2 x2 r2 => fin us G2 H2 (x1.trans x2) r2⟩
end
end Pu

set_option Elab.async false
set_option linter.all false
set_option autoImplicit false
set_option maxRecDepth 100000
set_option maxHeartbeats 1000001
namespace Pu
open PySem L2
section
variable {m : Md} {X : Cx} {N : List Str} {sc fs : Scope} {k j n : Nat} {env env' env'' : Ev} {a b e e0 tg : Expr} {es : List Expr} {pos p apos : Pos} {x : Str} {ds : List D} {o ro : Ow} {c : Xc} {i : Nat} {π : List Nat} {Φ : Out → Prop} {st : Stmt}
theorem pmx_meth {R : Ow → List D → Rm → Prop} {cl : Str} {ns : List Str} {os : List Ow} {s' : Ow} (hX : Cs X m N sc fs k) (F : MthM m j cl x R) (hj : j ≤ k) (hl : Loc X env e0 i π) (he : env[i]? = some (some ro)) (hsu : ro.sub π = some (.ins cl ns os)) (hno : x ∉ ns)
    (hsup : nSup e0 = true) (hlen : es.length < 29) (hp : (apos.endLine == pos.line) = true) (hs : es.all nStar = true) (hz : es = [] → ds = []) (ha : As X env es ds) (hR : R (.ins cl ns os) ds (.ex c s')) :
    PMX X env (.Call (.Attribute e0 x apos) es [] pos) c (env.set i (some (ro.put π s'))) := .mk fun σ G0 H0 G H y E W tk g Q => by
  obtain ⟨f, fd, ps, hC, hm, hb, F⟩ := F
  have F' : FnOk X.prog X.w X.K X.mg X.base (L2.CX m.P m.w) j f fd ps (spM X.K R) := by rw [hX.hP, hX.hW, hX.hK, hX.hM, hX.hB]; exact F
  obtain ⟨v0, w, f1, fr, q1, q2, q3, nd, hh, put⟩ := E.focusP y.s he hsu
  have q3' := q3
  simp only [RO] at q3
  obtain ⟨q, dx, vs, fq, rfl, rfl, g1, g2, g4, g3⟩ := q3
  have fin : ∀ us G2 H2, Ex2 G H G2 H2 → Rps X.K G2 ds us → spM X.K R (.ref q :: us) H2 Q (L2.WE W σ) := fun us G2 H2 x2 r2 => by
    obtain ⟨n1, n2, n3⟩ := List.nodup_append.mp nd
    refine ⟨G2, q, .ins cl ns os, ds, q :: fq, us, .ex c s', rfl, x2.s, keepO x2 q3', n1, r2, hR, ?_⟩
    intro cls d G' H' fs' xx rs ndp fresh rx
    have kp : ∀ b ∈ fr, H' b = H b ∧ G' b = none := fun b hb => by
      obtain ⟨z0, z1, z2⟩ := hh b (List.mem_append_right _ hb)
      have nb : b ∉ q :: fq := fun z => n3 b z b hb rfl
      cases hq : H b with
      | none => exact absurd hq z2
      | some u =>
        have h2 := x2.h _ _ hq
        exact ⟨xx.h _ _ (by rw [less_out nb]; exact h2), xx.n b (x2.n b z1 z2) (by rw [less_out nb, h2]; simp)⟩
    obtain ⟨fp', E2, pm⟩ := put G' H' s' fs' (fun a u hu => xx.g _ _ (x2.g _ _ hu)) kp rs
    refine g cls d G' H' (ex2_after (y.trans x2) (fun b hb => (hh b (List.mem_append_left _ hb)).1) xx) ⟨fp', E2, ?_, fun b hb => ?_⟩ rx
    · have dis : ∀ b ∈ fs', b ∉ fr := fun b hb hf => by
        have z := fresh b hb
        have nb : b ∉ q :: fq := fun z => n3 b z b hf rfl
        rw [less_out nb] at z
        exact (hh b (List.mem_append_right _ hf)).2.2 (back_none x2.h z)
      exact pm.nodup_iff.mpr (List.nodup_append.mpr ⟨ndp, n2, fun b hb b' hb' e => dis b hb (e ▸ hb')⟩)
    · rcases List.mem_append.mp (pm.mem_iff.mp hb) with z | z
      · have z' := fresh b z
        by_cases nb : b ∈ q :: fq
        · exact (hh b (List.mem_append_left _ nb)).1
        · rw [less_out nb] at z'
          exact back_none (y.trans x2).h z'
      · exact (hh b (List.mem_append_right _ z)).1
  cases es with
  | nil =>
    have e := hz rfl
    subst e
    refine WE.of (pe_meth0S (C := He.ga X.K cl) pWE (by rw [hX.hK]; exact hC) (by rw [hX.hK]; exact hm) F' (hX.room.mono hj) (by rw [hX.hK]; exact hb) (fun σ => pass_tk hX tk σ) hsup hp) ?_
    refine hl.run H0 σ G H y.s E _ v0 _ q1 q2 fun G1 H1 x1 => ?_
    exact ⟨q, dx, _, rfl, x1.h _ _ g2, lookup_none hno, fin [] G1 H1 x1 (by simp only [Rps])⟩
  | cons e es =>
    refine WE.of (pe_methS (C := He.ga X.K cl) pWE (by rw [hX.hK]; exact hC) (by rw [hX.hK]; exact hm) F' (hX.room.mono hj) (by rw [hX.hK]; exact hb) (fun σ => pass_tk hX tk σ) pWA hsup hlen hp hs) ?_
    refine hl.run H0 σ G H y.s E _ v0 _ q1 q2 fun G1 H1 x1 => ?_
    refine ⟨q, dx, _, rfl, x1.h _ _ g2, lookup_none hno, ha.run H0 σ G1 H1 x1.s (E.later x1) _ fun us G2 H2 x2 r2 => fin us G2 H2 (x1.trans x2) r2⟩
/-! ### statements with such an expression -/
theorem En.tail {K : PySem.W.Frag} {H0 G H : Hp} {σ : L2.St} {v : V} (E : En K H0 G H (some v :: σ) (some o :: env)) : En K H0 G H σ env := by
  obtain ⟨fp, ⟨v', r, f1, f2, e1, rfl, r1, r2⟩, n, h0⟩ := E
  cases e1
  exact ⟨f2, r2, (List.nodup_append.mp n).2.1, fun a ha => h0 a (List.mem_append_right _ ha)⟩
theorem En.head {K : PySem.W.Frag} {H0 G H : Hp} {σ : L2.St} {v : V} (E : En K H0 G H (some v :: σ) (some o :: env)) (hi : i < env.length) : En K H0 G H (σ.set i (some v)) (env.set i (some o)) := by
  obtain ⟨fp, ⟨v', r, f1, f2, e1, rfl, r1, r2⟩, n, h0⟩ := E
  cases e1
  obtain ⟨n1, n2, n3⟩ := List.nodup_append.mp n
  obtain ⟨fp', k1, k2, k3⟩ := Ens.set r2 hi r1
  refine ⟨fp', k1, k3 n2 n1 fun a ha hb => n3 a ha a hb rfl, fun a ha => ?_⟩
  rcases k2 a ha with z | z
  · exact h0 a (List.mem_append_left _ z)
  · exact h0 a (List.mem_append_right _ z)
theorem s1_exprM (h : PM X env e o env') (hk : Φ (.nx env')) (hs : nCmp e = true) : S1 X (.Expr e pos) env Φ := .mk fun σ G0 H0 G H y E D kk =>
  WS.of (ps_expr pWE (sw_of hs _ _ _)) (h.run σ G0 H0 G H y E _ fun v G' H' x' E' => kk.nx env' σ G' H' hk x' E'.tail)
theorem s1_setM (hX : Cs X m N sc fs k) {y : Str} {pos' : Pos} (hi : Ix N i y) (hl : locB sc fs y = true) (hn : i < env'.length) (h : PM X env e o env') (hk : Φ (.nx (env'.set i (some o)))) (hs : nCmp e = true) : S1 X (.Assign [.Name y pos'] e pos) env Φ := .mk fun σ G0 H0 G H y E D kk =>
  WS.of (ps_set (i := i) (by rw [hX.hN]; exact hX.nd) (by rw [hX.hN]; exact hi.at_) (hX.loc hl) pWE (sw_of hs _ _ _) (hX.hf hl)) (h.run σ G0 H0 G H y E _ fun v G' H' x' E' => kk.nx _ _ G' H' hk x' (E'.head hn))
theorem s1_retM (h : PM X env e o env') (hk : Φ (.rt o env')) : S1 X (.Return (some e) pos) env Φ := .mk fun σ G0 H0 G H y E D kk =>
  WS.of (ps_ret pWE) (h.run σ G0 H0 G H y E _ fun v G' H' x' E' => kk.rt o env' v σ G' H' hk x' E')
theorem s1_exprMX (h : PMX X env e c env') (hk : Φ (.ex c env')) (hs : nCmp e = true) : S1 X (.Expr e pos) env Φ := .mk fun σ G0 H0 G H y E D kk => by
  obtain ⟨W, tk, w⟩ := kk.ex
  exact WS.of (ps_expr pWE (sw_of hs _ _ _)) (h.run σ G0 H0 G H y E W tk (fun cls d G' H' x' E' rx => w c env' cls d σ G' H' hk x' E' rx) _)
theorem s1_setMX (hX : Cs X m N sc fs k) {y : Str} {pos' : Pos} (hi : Ix N i y) (hl : locB sc fs y = true) (h : PMX X env e c env') (hk : Φ (.ex c env')) (hs : nCmp e = true) : S1 X (.Assign [.Name y pos'] e pos) env Φ := .mk fun σ G0 H0 G H y E D kk => by
  obtain ⟨W, tk, w⟩ := kk.ex
  exact WS.of (ps_set (i := i) (by rw [hX.hN]; exact hX.nd) (by rw [hX.hN]; exact hi.at_) (hX.loc hl) pWE (sw_of hs _ _ _) (hX.hf hl)) (h.run σ G0 H0 G H y E W tk (fun cls d G' H' x' E' rx => w c env' cls d σ G' H' hk x' E' rx) _)
theorem s1_retMX (h : PMX X env e c env') (hk : Φ (.ex c env')) : S1 X (.Return (some e) pos) env Φ := .mk fun σ G0 H0 G H y E D kk => by
  obtain ⟨W, tk, w⟩ := kk.ex
  exact WS.of (ps_ret pWE) (h.run σ G0 H0 G H y E W tk (fun cls d G' H' x' E' rx => w c env' cls d σ G' H' hk x' E' rx) _)
/-- what raises and changes nothing -/
theorem PX.toM (h : PX X env e c) : PMX X env e c env := .mk fun σ G0 H0 G H y E W tk w Q => h.run H0 σ G H y.s E W tk (fun cls d G' H' x' rx => w cls d G' H' (y.trans x') (E.later x') rx) Q
theorem P.toM (h : P X env e o) : PM X env e o env := .mk fun σ G0 H0 G H y E Q g => h.run H0 σ G H y.s E Q fun v G' H' fp x' r n d => g v G' H' (y.trans x') (E.push x' r d n fun a ha => back_none y.h (n a ha))
/-! ### one's own begins to last -/
theorem En.last {K : PySem.W.Frag} {G0 H0 G H : Hp} {σ : L2.St} (x : Ex2 G0 H0 G H) (E : En K H0 G H σ env) (he : env[i]? = some (some o)) : ∃ G', Ex2 G0 H0 G' H ∧ En K H0 G' H σ (env.set i (some (.per o.fr))) := by
  obtain ⟨f1, h1, h2, E2⟩ := E.lent he
  exact ⟨more G H f1, x.last h2 fun a ha => (h1 a ha).1, E2⟩
theorem s1_frz (h : S1 X st env (fun u => match u with | .nx e1 => ∃ o, e1[i]? = some (some o) ∧ Φ (.nx (e1.set i (some (.per o.fr)))) | u => Φ u)) : S1 X st env Φ := .mk fun σ G0 H0 G H y E D kk =>
  h.run σ G0 H0 G H y E D ⟨fun env1 σ1 G1 H1 ⟨o, z1, z2⟩ x1 E1 => by
    obtain ⟨G2, x2, E2⟩ := E1.last x1 z1
    exact kk.nx _ σ1 G2 H1 z2 x2 E2, fun env1 σ1 G1 H1 f => kk.bk env1 σ1 G1 H1 f, fun env1 σ1 G1 H1 f => kk.ct env1 σ1 G1 H1 f, fun o env1 v σ1 G1 H1 f => kk.rt o env1 v σ1 G1 H1 f, by
    obtain ⟨W, tk, w⟩ := kk.ex
    exact ⟨W, tk, fun c env1 cls d σ1 G1 H1 f => w c env1 cls d σ1 G1 H1 f⟩⟩
end
end Pu

set_option Elab.async false
set_option linter.all false
set_option autoImplicit false
set_option maxRecDepth 100000
set_option maxHeartbeats 1000001
namespace Pu
open PySem L2
section
variable {m : Md} {X : Cx} {N : List Str} {sc fs : Scope} {k j n : Nat} {env env' env'' : Ev} {a b e e0 tg : Expr} {es : List Expr} {pos p apos : Pos} {x : Str} {ds : List D} {o ro : Ow} {c : Xc} {i : Nat} {π : List Nat} {Φ : Out → Prop} {st : Stmt}
theorem few1 {cpos : Pos} (hs : nStar e = true) (en : Env) : ((backTo cpos (starEach [e] en)).all (fun x => !x.1) && (backToKw cpos (keywordEach [] en)).all (fun x => x.1.isSome) && decide (([e]).length + ([] : List Keyword).length + (if ([] : List Keyword).isEmpty then 0 else 1) < 30)) = true := by
  rw [star_all (es := [e]) (by simp [hs])]
  rfl
theorem s1_extendL {os : List Ow} {ds : List D} (hl : Pu.Loc X env e0 i π) (he : env[i]? = some (some o)) (hsu : o.sub π = some (.lst os)) (hz : os.length + ds.length ≤ sizeLine) (hp : P X env e (.per (.lst ds))) (h : Φ (.nx (env.set i (some (o.put π (.lst (os ++ ds.map Ow.per)))))))
    (hsup : nSup e0 = true) (hs : nStar e = true) (hline : (apos.endLine == pos.line) = true) {pos2 : Pos} :
    S1 X (.Expr (.Call (.Attribute e0 "extend" apos) [e] [] pos) pos2) env Φ := .mk fun σ G0 H0 G H y E D kk => by
  obtain ⟨v0, p, vs, fq, q1, qv, q2, q3, q4, q5, q6, q7, q8⟩ := E.ownL y.s y.h he hsu
  refine WS.of (ps_expr (pe_bm PySem.F.plainAttrs_list PySem.F.slot_list_extend PySem.F.type_list_extend mt_extend pWE (pa_cons pWE pa_nil (star_of hs _)) (sup_of hsup _ _) (few1 hs _) hline (star_of hs _)) rfl) ?_
  refine hl.run H0 σ G H y.s E _ v0 _ q1 qv fun G1 H1 x1 => ⟨.inl ⟨rfl, _, SqL.of (x1.h _ _ q2)⟩, ?_⟩
  refine hp.go x1.s (E.later x1) fun v G' H' x' r => ?_
  simp only [Rp] at r
  obtain ⟨b, zs, rfl, r2, r3⟩ := r
  have hpn : H p ≠ none := by rw [q2]; simp
  have xx := x1.trans x'
  refine ⟨p, b, vs, zs, rfl, rfl, xx.h _ _ q2, x'.s _ _ r2, by rw [q5.length, r3.length]; exact hz, ?_⟩
  refine kk.nx _ σ G' _ h (wp_mono (K := X.K) (G := G) (H := H) (y.trans xx) q4 (xx.n p q3 hpn)) (q8 _ _ (fq ++ []) G' H' xx ((keepR xx q5).append (ROs.per r3)) (by simpa using q6) (by simpa using q7) fun a ha => .inl (by simpa using ha))
theorem s1_aug (hX : Cs X m N sc fs k) {op : Operator} {f : Int → Int → Int} {y : Str} {pos' : Pos} {q r : Int} (ho : PIp X op (ipI f)) (hi : Ix N i y) (hl : locB sc fs y = true) (he : env[i]? = some (some (.per (.int q)))) (hp : P X env e (.per (.int r))) (h : Φ (.nx (env.set i (some (.per (.int (f q r))))))) :
    S1 X (.AugAssign (.Name y pos') op e pos) env Φ := .mk fun σ G0 H0 G H yy E D kk => by
  obtain ⟨v, h1, h2⟩ := E.get he
  simp only [Rp] at h2
  subst h2
  have hn : i < env.length := (List.getElem?_eq_some_iff.mp he).1
  refine WS.of (ps_aug (i := i) (by rw [hX.hN]; exact hX.nd) (by rw [hX.hN]; exact hi.at_) (hX.loc hl) pWE ho (hX.hf hl)) ⟨_, h1, hp.go yy.s E fun w G1 H1 x1 r1 => ?_⟩
  simp only [Rp] at r1
  exact ⟨q, r, rfl, r1, kk.nx _ _ G1 H1 h (yy.trans x1) (en_per (E.later x1) hn (by simp only [Rp]))⟩
theorem addV_at {ns : List Str} {f : Str} {os : List Ow} {q : Ow} (h : os[ns.idxOf f]? = some q) (hl : ns.idxOf f < ns.length) : addN ns f = ns ∧ ∀ z, addV ns f os z = os.set (ns.idxOf f) z := by
  have hm : f ∈ ns := List.idxOf_lt_length_iff.mp hl
  exact ⟨by unfold addN; rw [if_pos hm], fun z => by unfold addV; rw [if_pos hm]⟩
theorem s1_augF (hX : Cs X m N sc fs k) {op : Operator} {g : Int → Int → Int} {C f : Str} {ns : List Str} {os : List Ow} {q r : Int} {tp : Pos} (hop : InOp X op fun x y H Q => ∃ i j, x = .int i ∧ y = .int j ∧ Q (.int (g i j)) H) (hC : Cls m.K (He.ga m.K C)) (hf : NoAttr m.K (He.ga m.K C) f) (hl : Pu.Loc X env e0 i π) (he : env[i]? = some (some o)) (hsu : o.sub π = some (.ins C ns os))
    (hz : ns.length < 1000) (hj : ns.idxOf f < ns.length) (hq : os[ns.idxOf f]? = some (.per (.int q))) (hp : P X env e (.per (.int r)))
    (h : Φ (.nx (env.set i (some (o.put π (.ins C (addN ns f) (addV ns f os (.per (.int (g q r)))))))))) : S1 X (.AugAssign (.Attribute e0 f tp) op e pos) env Φ := .mk fun σ G0 H0 G H y E D kk => by
  refine WS.of (ps_fldaug pWE pWE hop) ?_
  obtain ⟨v0, p, dx, vs, fq, q1, qv, q2, q3, q4, hlen, q5, q6, q7, q8⟩ := E.ownI y.s y.h he hsu
  refine hl.run H0 σ G H y.s E _ v0 _ q1 qv fun G1 H1 x1 => ?_
  have el : ns.length = vs.length := by rw [hlen, q5.length]
  obtain ⟨u, u1, u2⟩ := look_zip el rfl hj
  obtain ⟨w, g1, gr, w1, w2, _, _⟩ := q5.focus hq
  have e1 : w = u := by rw [u1] at w1; cases w1; rfl
  subst e1
  simp only [RO, Rp] at w2
  obtain ⟨_, w2⟩ := w2
  subst w2
  refine ⟨p, _, dx, _, _, rfl, x1.h _ _ q2, by rw [hX.hK]; exact hC, by rw [hX.hK]; exact hf, u2, ?_⟩
  refine hp.go x1.s (E.later x1) fun w G2 H2 x2 r2 => ?_
  simp only [Rp] at r2
  have x12 := x1.trans x2
  have hpn : H p ≠ none := by rw [q2]; simp
  refine ⟨q, r, rfl, r2, dx, _, x12.h _ _ q2, by rw [List.length_zip]; omega, ?_⟩
  rw [putF_zip f _ el]
  obtain ⟨fq', k1, k2, k3⟩ := ROs.addV (f := f) (o := .per (.int (g q r))) (v := .int (g q r)) (f1 := []) hlen (keepR x12 q5) (by simp only [RO, Rp]; exact ⟨trivial, trivial⟩)
  refine kk.nx _ σ G2 _ h (wp_mono (K := X.K) (G := G) (H := H) (y.trans x12) q4 (x12.n p q3 hpn)) (q8 _ _ _ fq' G2 H2 x12 (addV_length hlen) k1 (fun z => ?_) (k3 q7 List.nodup_nil fun a ha => by cases ha) fun a ha => ?_)
  · rcases k2 p z with z | z
    · cases z
    · exact q6 z
  · rcases k2 a ha with z | z
    · cases z
    · exact .inl z
theorem s1_brk (h : Φ (.bk env)) : S1 X (.Break pos) env Φ := .mk fun σ G0 H0 G H y E D kk => WS.of ps_break (kk.bk env σ G H h y E)
theorem s1_cnt (h : Φ (.ct env)) : S1 X (.Continue pos) env Φ := .mk fun σ G0 H0 G H y E D kk => WS.of ps_continue (kk.ct env σ G H h y E)
theorem s1_par (hX : Cs X m N sc fs k) {y z : Str} {j : Nat} {px py pt pt2 : Pos} {kt k2 : Nat} {d1 d2 : D} (hi : Ix N i y) (hj : Ix N j z) (hij : i ≠ j) (hy : sc.names.lookup y = some .local) (hz : sc.names.lookup z = some .local) (hni : i < env.length) (hnj : j < env.length)
    (ha : P X env a (.per d1)) (hb : P X env b (.per d2)) (hs1 : nStar a = true) (hs2 : nStar b = true) (hw : ∀ en : Env, en.scope = sc → en.scope.kind = .function → swappedStores [.Tuple [.Name y px, .Name z py] kt pt] (.Tuple [a, b] k2 pt2) en = pure (some [y, z]))
    (h : Φ (.nx ((env.set i (some (.per d1))).set j (some (.per d2))))) : S1 X (.Assign [.Tuple [.Name y px, .Name z py] kt pt] (.Tuple [a, b] k2 pt2) pos) env Φ := .mk fun σ G0 H0 G H yy E D kk pins s I => by
  refine WS.of (ps_par (i := i) (j := j) hX.calm (by rw [hX.hN]; exact hX.nd) (by rw [hX.hN]; exact hi.at_) (by rw [hX.hN]; exact hj.at_) hij (by rw [hX.hS]; exact hy) (by rw [hX.hS]; exact hz) pWA (hw _ hX.hS I.ok.kind)) ?_ pins s I
  refine (as_cons ha (as_cons hb as_nil (star_of hs2)) (star_of hs1)).run H0 σ G H yy.s E _ fun vs G1 H1 x1 r1 => ?_
  obtain ⟨v, v', rfl, r2, r3⟩ := rps2 r1
  exact ⟨v, v', rfl, kk.nx _ _ G1 H1 h (yy.trans x1) (en_per (en_per (E.later x1) hni r2) (by simpa using hnj) r3)⟩
end
end Pu

set_option Elab.async false
set_option linter.all false
set_option autoImplicit false
set_option maxRecDepth 100000
set_option maxHeartbeats 1000001
namespace Pu
open PySem L2
/-! ### looks at statements -/
def swF (sc : Scope) (x : Str) (px : Pos) : Expr → Bool
  | .ListComp _ _ scope vp => !(decide (sc.names.lookup x = some .local) && ((px.line == vp.line) && !(scope.names.any fun (n, k) => n == x && (k == .local || k == .cell))))
  | .SetComp _ _ _ _ => false
  | .DictComp _ _ _ _ _ => false
  | _ => true
def asgT : Expr → Bool
  | .Tuple vs _ _ => vs.all (foldedForSure 8)
  | _ => true
def nmL (N : List Str) (sc : Scope) (i : Nat) (x : Str) : Bool := decide (N[i]? = some x) && (dbg x && locB sc sc x)
def okBs (ok : Stmt → CS → Bool) : List CS → List Stmt → Bool
  | .frz _ :: cs, ss => okBs ok cs ss
  | .frzP _ _ :: cs, ss => okBs ok cs ss
  | .wipe _ :: cs, ss => okBs ok cs ss
  | [], ss => ss.isEmpty
  | c :: cs, ss => (match ss with | s :: ss => ok s c && okBs ok cs ss | [] => false)
def mthB (ok : Expr → CE → Bool) (p : CE) (m : Str) (cs : List CE) : Expr → Bool
  | .Call (.Attribute e0 m' ap) es [] pc => decide (m' = m) && (nSup e0 && (decide (es.length < 29) && ((ap.endLine == pc.line) && (es.all nStar && (ok e0 p && all2 ok es cs)))))
  | _ => false
variable (T : Tab) (N : List Str)
def okS1 (sc : Scope) (ok : Expr → CE → Bool) (okI : Scope → Scope → Expr → CE → Bool) (okb : List CS → List Stmt → Bool) (st : Stmt) (c : CS) : Bool := match c with
  | .asg t L fz e => (match st with
    | .Assign [tg] v _ => ok v e && (match t with
      | .nm i => (match tg with | .Name x px => nmL N sc i x && swF sc x px v | _ => false)
      | .tp _ => nCmp v && (asgT v && okT N sc sc tg t))
    | _ => false)
  | .par i j L a b => (match st with
    | .Assign [.Tuple [.Name x px, .Name y py] _ _] (.Tuple [ea, eb] _ _) _ => (nmL N sc i x && nmL N sc j y) && ((decide (i ≠ j) && (decide (x ≠ y) && ((px.line == py.line) && (decide (sc.names.lookup x = some .local) && decide (sc.names.lookup y = some .local))))) && ((nStar ea && nStar eb) && ((!(foldedForSure 8 ea && foldedForSure 8 eb) && !(constantsAlone 8 ea && constantsAlone 8 eb)) && (ok ea a && ok eb b))))
    | _ => false)
  | .asgLc i fz L own t it ifs elt => (match st with
    | .Assign [.Name x px] (.ListComp eelt [⟨tg, iter, eifs, isas⟩] scope vp) _ => (nmL N sc i x && (decide (sc.names.lookup x = some .local) && ((px.line == vp.line) && !(scope.names.any fun (n, k) => n == x && (k == .local || k == .cell))))) && (decide (isas = 0) && (blkC N sc scope (own.map fun i => (N.getD i "", i)) && (nSet iter && ((!it.wantsTp || t.isTp) && ((unb iter).isNone && (t.vs.all own.contains && (ok iter it && (okT N (relS scope sc) scope tg t && (decide (eifs.length ≤ 1) && (all2 (okI (relS scope sc) scope) eifs ifs && okI (relS scope sc) scope eelt elt))))))))))
    | _ => false)
  | .aug i op L e => (match st with
    | .AugAssign (.Name x _) o v _ => decide (o = op) && (nmL N sc i x && ok v e)
    | _ => false)
  | .setF p f L fz e => (match st with
    | .Assign [.Attribute e0 f' _] v _ => decide (f' = f) && (nCmp v && (ok e0 p && ok v e))
    | _ => false)
  | .augF p f op L e => (match st with
    | .AugAssign (.Attribute e0 f' _) o v _ => decide (f' = f) && (decide (o = op) && (ok e0 p && ok v e))
    | _ => false)
  | .setI p b L fz e => (match st with
    | .Assign [.Subscript e0 eb _] v _ => nSli eb && (nCmp v && (ok e0 p && (ok eb b && ok v e)))
    | _ => false)
  | .setD p b L e => (match st with
    | .Assign [.Subscript e0 eb _] v _ => nSli eb && (nCmp v && (ok e0 p && (ok eb b && ok v e)))
    | _ => false)
  | .popA t p => (match st with
    | .Assign [tg] (.Call (.Attribute e0 m ap) [] [] pc) _ => decide (m = "pop") && (nSup e0 && ((ap.endLine == pc.line) && (ok e0 p && (nStar tg && okT N sc sc tg t))))
    | _ => false)
  | .app p L fz e => (match st with
    | .Expr (.Call (.Attribute e0 m ap) [ea] [] pc) _ => decide (m = "append") && (nSup e0 && (nStar ea && ((ap.endLine == pc.line) && (ok e0 p && ok ea e))))
    | _ => false)
  | .ext p L e => (match st with
    | .Expr (.Call (.Attribute e0 m ap) [ea] [] pc) _ => decide (m = "extend") && (nSup e0 && (nStar ea && ((ap.endLine == pc.line) && (ok e0 p && ok ea e))))
    | _ => false)
  | .clr p => (match st with
    | .Expr (.Call (.Attribute e0 m ap) [] [] pc) _ => decide (m = "clear") && (nSup e0 && ((ap.endLine == pc.line) && ok e0 p))
    | _ => false)
  | .expr L e => (match st with
    | .Expr v _ => nCmp v && ok v e
    | _ => false)
  | .mth mr p c m L es => (match mr with
    | .no => (match st with | .Expr v _ => mthB ok p m es v | _ => false)
    | .nm i => (match st with | .Assign [.Name x _] v _ => nmL N sc i x && mthB ok p m es v | _ => false)
    | .ret => (match st with | .Return (some v) _ => mthB ok p m es v | _ => false))
  | .ifM p c m L es a b => (match st with
    | .If (.Compare v [.IsNot] [.Constant .none _ _] _) sa sb _ => mthB ok p m es v && (okb a sa && okb b sb)
    | _ => false)
  | .ret L e => (match st with
    | .Return (some v) _ => ok v e
    | _ => false)
  | .retv i => (match st with
    | .Return (some (.Name x _)) _ => decide (N[i]? = some x) && (dbg x && visB sc x)
    | _ => false)
  | .retN => (match st with | .Return none _ => true | _ => false)
  | .ife L c a b => (match st with
    | .If ec sa sb _ => ok ec c && (okb a sa && okb b sb)
    | _ => false)
  | .for_ t L it body => (match st with
    | .For tg iter sb [] _ => okT N sc sc tg t && (ok iter it && ((unb iter).isNone && (nSet iter && ((!it.wantsTp || t.isTp) && okb body sb))))
    | _ => false)
  | .while_ _ L c body => (match st with
    | .While ec sb [] _ => ok ec c && okb body sb
    | _ => false)
  | .raise cl L es => (match st with
    | .Raise (some (.Call (.Name x _) ees [] _)) none _ => decide (x = cl) && (dbg x && (gloB sc x && (!ees.isEmpty && (ees.all nStar && all2 ok ees es))))
    | _ => false)
  | .tryX i j body => (match st with
    | .Try sb [.ExceptHandler (some (.Name x _)) (some nm) [.Assign [.Name y _] (.Name nm' _) _] _] [] [] _ => decide (x = T.par) && (dbg x && (gloB sc x && (decide (nm' = nm) && (decide (N[i]? = some nm) && (dbg nm && (decide (N[j]? = some y) && (decide (i ≠ j) && (decide (sc.names.lookup nm = some .local) && (decide (sc.names.lookup y = some .local) && (!T.excs.isEmpty && okb body sb))))))))))
    | _ => false)
  | .bad => true
  | .pass => (match st with | .Pass _ => true | _ => false)
  | .brk => (match st with | .Break _ => true | _ => false)
  | .cnt => (match st with | .Continue _ => true | _ => false)
  | _ => false
def okS : Nat → Scope → Stmt → CS → Bool
  | 0, _, _, _ => false
  | k + 1, sc, st, c => okS1 T N sc (okE T N 60 sc sc) (okE T N 60) (fun cs ss => okBs (okS k sc) cs ss) st c
end Pu

set_option Elab.async false
set_option linter.all false
set_option autoImplicit false
set_option maxRecDepth 100000
set_option maxHeartbeats 1000001
namespace Pu
open PySem L2
theorem re_getS {a : Addr} {env : Ev} {i : Nat} {ro' : Ow} (h : (reE a env)[i]? = some (some ro')) : ∃ ro, env[i]? = some (some ro) ∧ ro' = reO a ro := by
  rw [re_get] at h
  cases q : env[i]? with
  | none => rw [q] at h; cases h
  | some u =>
    rw [q] at h
    cases u with
    | none => cases h
    | some ro => cases h; exact ⟨ro, rfl, rfl⟩
theorem putP_re {a : Addr} {env : Ev} {i : Nat} {π : List Nat} {ro' x : Ow} (h : (reE a env)[i]? = some (some ro')) (hx : x.isAt = false) : reE a (putP env i π x) = (reE a env).set i (some (ro'.put π x)) := by
  obtain ⟨ro, h1, rfl⟩ := re_getS h
  unfold putP
  rw [h1]
  simp only
  rw [re_set, Option.map_some, put_at hx]
theorem fzo_at {fz : Bool} {o : Ow} (h : o.isAt = false) : (fzo fz o).isAt = false := by
  unfold fzo
  split
  · rfl
  · exact h
/-- blocks are told rightly -/
def SB (m : Md) (T : Tab) (E : Evs) (n : Nat) : Prop := ∀ {X : Cx} {N : List Str} {sc : Scope} {k : Nat} {a : Addr} {env : Ev} {ss : List Stmt} {cs : List CS} {out : Out},
  Cs X m N sc sc n → Ft X sc → okBs (okS T N k sc) cs ss = true → E.b env cs = some out → S X ss (reE a env) (fun o => o = reOut a out)
section
variable {m : Md} {T : Tab} {E : Evs} {n : Nat} {X : Cx} {N : List Str} {sc fs : Scope} {k : Nat} {env : Ev} {e v tg iter : Expr} {es : List Expr} {pos p : Pos} {a : Addr} {L : List Nat} {c : CE} {o : Ow} {x : Xc}
theorem evP_ok (h : SE m T E n) (ri : RI E) (hX : Cs X m N sc fs n) (hk : okE T N k sc fs v c = true) (hp : evP E L env c = .ok o) : P X (reE a env) v o := by
  unfold evP at hp
  split at hp
  · rename_i o' ho
    split at hp
    · cases hp
    · rename_i hn
      cases hp
      refine P.lentL (L := L) (fun q => ?_) (h.ov hX hk (by rw [vwL_re, ri.o]; exact ho))
      rw [owL_re] at q
      rw [q] at hn
      simpa using hn
  · split at hp <;> cases hp
  · cases hp
theorem evP_ex (h : SE m T E n) (ri : RI E) (hX : Cs X m N sc fs n) (hk : okE T N k sc fs v c = true) (hp : evP E L env c = .ex x) : PX X (reE a env) v x := by
  unfold evP at hp
  split at hp
  · split at hp <;> cases hp
  · rename_i c' ho
    split at hp
    · cases hp
    · rename_i hn
      cases hp
      have q := h.o (env := vwL L (reE a env)) hX hk
      rw [vwL_re, ri.o, ho, ← vwL_re] at q
      refine PX.lentL (L := L) (fun z => ?_) q
      rw [owL_re] at z
      rw [z] at hn
      simpa using hn
  · cases hp
theorem evT_ok (h : SE m T E n) (ri : RI E) (hX : Cs X m N sc fs n) (hk : okE T N k sc fs v c = true) {q : Bool} (hp : evT E L env c = .ok q) : Pu.T X (reE a env) v q := by
  unfold evT at hp
  split at hp
  · rename_i o' ho
    cases hp
    exact Pu.T.lentL (L := L) (h.tv hX hk (by rw [vwL_re, ri.t]; exact ho))
  · split at hp <;> cases hp
  · cases hp
theorem evT_ex (h : SE m T E n) (ri : RI E) (hX : Cs X m N sc fs n) (hk : okE T N k sc fs v c = true) (hp : evT E L env c = .ex x) : TX X (reE a env) v x := by
  unfold evT at hp
  split at hp
  · cases hp
  · rename_i c' ho
    split at hp
    · cases hp
    · rename_i hn
      cases hp
      have q := h.t (env := vwL L (reE a env)) hX hk
      rw [vwL_re, ri.t, ho, ← vwL_re] at q
      refine TX.lentL (L := L) (fun z => ?_) q
      rw [owL_re] at z
      rw [z] at hn
      simpa using hn
  · cases hp
theorem evPs_ok (h : SE m T E n) (ri : RI E) (hX : Cs X m N sc fs n) {cs : List CE} {ds : List D} (hs : es.all nStar = true) (hk : all2 (okE T N k sc fs) es cs = true) (hp : evPs E L env cs = .ok ds) : As X (reE a env) es ds ∧ (es = [] → ds = []) := by
  unfold evPs at hp
  split at hp
  · rename_i ds' ho
    split at hp
    · cases hp
    · rename_i hn
      cases hp
      have q := h.ds hX (env := vwL L (reE a env)) hs hk
      rw [vwL_re, ri.ds, ho, ← vwL_re] at q
      refine ⟨As.lentL (L := L) (fun z => ?_) q, fun z => ?_⟩
      · rw [owL_re] at z
        rw [z] at hn
        simpa using hn
      · subst z; exact ds_nil hk ho
  · cases hp
theorem pl_re (h : SE m T E n) (ri : RI E) (hT : TOk m T) (hX : Cs X m N sc fs n) {i : Nat} {π : List Nat} (hk : okE T N k sc fs v c = true) (hp : Evs.pl T E env c = some (i, π, o)) : ∃ ro, (reE a env)[i]? = some (some ro) ∧ ro.sub π = some o ∧ Pu.Loc X (reE a env) v i π :=
  h.pl hT hX hk (by rw [ri.pl]; exact hp)
theorem nmL_of {i : Nat} {y : Str} (h : nmL N sc i y = true) : Ix N i y ∧ locB sc sc y = true := by
  unfold nmL at h
  obtain ⟨h1, h2⟩ := ba2 h
  obtain ⟨h2, h3⟩ := ba2 h2
  exact ⟨ix_dbg h1 h2, h3⟩
theorem swF_of {y : Str} {px : Pos} {l : Nat} (h : swF sc y px v = true) {en : Env} (hs : en.scope = sc) : swapsWith v (some (.Name y px)) l en = pure false := by
  cases v <;> simp only [swF] at h <;> try rfl
  · rename_i elt gs scope vp
    unfold swapsWith
    have e : (en.blockKind == .function && en.kindOf y == some .local && px.line == vp.line && !(scope.names.any fun (n, k) => n == y && (k == .local || k == .cell))) = false := by
      have : en.kindOf y = sc.names.lookup y := by unfold Env.kindOf; rw [hs]
      rw [this]
      cases q : en.blockKind == ScopeKind.function with
      | false => rfl
      | true =>
        simp only [Bool.true_and]
        have h2 : (decide (sc.names.lookup y = some NameKind.local) && ((px.line == vp.line) && !(scope.names.any fun (n, k) => n == y && (k == .local || k == .cell)))) = false := by rw [Bool.not_eq_true'] at h; exact h
        have e3 : (sc.names.lookup y == some NameKind.local) = decide (sc.names.lookup y = some NameKind.local) := by
          cases sc.names.lookup y with
          | none => rfl
          | some kk => cases kk <;> rfl
        rw [e3, Bool.and_assoc]
        exact h2
    simp only [Expr.pos]
    rw [e]
  · cases h
  · cases h
theorem asgT_of {tg v : Expr} (h : asgT v = true) (en : Env) : swappedStores [tg] v en = pure none := by
  cases v with
  | Tuple vs kk pp =>
    simp only [asgT] at h
    cases tg with
    | Tuple ts k2 p2 =>
      unfold swappedStores
      simp only
      split
      · rfl
      · split
        · rfl
        · split
          · rfl
          · first | rfl | (rw [if_pos h]; rfl)
    | List ts p2 =>
      unfold swappedStores
      simp only
      split
      · rfl
      · split
        · rfl
        · split
          · rfl
          · first | rfl | (rw [if_pos h]; rfl)
    | _ => rfl
  | _ => cases tg <;> rfl
end
end Pu

set_option Elab.async false
set_option linter.all false
set_option autoImplicit false
set_option maxRecDepth 100000
set_option maxHeartbeats 2000001
namespace Pu
open PySem L2
section
variable {m : Md} {T : Tab} {E : Evs} {n : Nat} {X : Cx} {N : List Str} {sc fs : Scope} {k : Nat} {env : Ev} {e v tg iter : Expr} {es : List Expr} {pos p : Pos} {a : Addr} {L : List Nat} {c : CE} {o : Ow} {x : Xc} {out : Out} {Φ : Out → Prop}
theorem s1_px (h : PX X env e x) (hk : Φ (.ex x env)) (hs : nCmp e = true) : S1 X (.Expr e pos) env Φ := s1_exprMX h.toM hk hs
theorem s1_asgX {tg : Expr} (h : PX X env e x) (hk : Φ (.ex x env)) (hs : swapsWithSole [tg] e pos.line X.env = pure false) (hw : swappedStores [tg] e X.env = pure none) (h1 : (assignEach [tg] X.env).map (·.2) = [assign tg X.env]) : S1 X (.Assign [tg] e pos) env Φ := .mk fun σ G0 H0 G H y E D kk => by
  obtain ⟨W, tk, w⟩ := kk.ex
  exact WS.of (ps_asg pWE pWG hs hw h1) (h.run H0 σ G H y.s E W tk (fun cls d G' H' x' rx => w x env cls d σ G' H' hk (y.trans x') (E.later x') rx) _)
theorem s1_retX (h : PX X env e x) (hk : Φ (.ex x env)) : S1 X (.Return (some e) pos) env Φ := s1_retMX h.toM hk
theorem s1_ifX {ss ss' : List Stmt} (h : TX X env e x) (hk : Φ (.ex x env)) : S1 X (.If e ss ss' pos) env Φ := .mk fun σ G0 H0 G H y E D kk => by
  obtain ⟨W, tk, w⟩ := kk.ex
  exact WS.of (ps_if pWT pWSs pWSs) (h.run H0 σ G H y.s E W tk (fun cls d G' H' x' rx => w x env cls d σ G' H' hk (y.trans x') (E.later x') rx) _)
theorem s1_appX {e0 ea : Expr} {mm : Str} {apos cpos : Pos} {i : Nat} {π : List Nat} {ro : Ow} {os : List Ow} {id : String} {r : V → List V → Hp → VK → Prop} (slot : Slot "list" mm id) (hty : typeOf (.builtin id) = pure (.type "method_descriptor")) (hm : MtR X id r)
    (hl : Pu.Loc X env e0 i π) (he : env[i]? = some (some ro)) (hsu : ro.sub π = some (.lst os)) (h : PX X env ea x) (hk : Φ (.ex x env)) (hsup : nSup e0 = true) (hs : nStar ea = true) (hline : (apos.endLine == cpos.line) = true) :
    S1 X (.Expr (.Call (.Attribute e0 mm apos) [ea] [] cpos) pos) env Φ := .mk fun σ G0 H0 G H y E D kk => by
  obtain ⟨W, tk, w⟩ := kk.ex
  obtain ⟨v0, p, vs, fq, q1, qv, q2, q3, q4, q5, q6, q7, q8⟩ := E.ownL y.s y.h he hsu
  refine WS.of (ps_expr (pe_bm PySem.F.plainAttrs_list slot hty hm pWE (pa_cons pWE pa_nil (star_of hs _)) (sup_of hsup _ _) (few1 hs _) hline (star_of hs _)) rfl) ?_
  refine hl.run H0 σ G H y.s E _ v0 _ q1 qv fun G1 H1 x1 => ⟨.inl ⟨rfl, _, SqL.of (x1.h _ _ q2)⟩, ?_⟩
  exact h.run H0 σ G1 H1 x1.s (E.later x1) W tk (fun cls d G' H' x' rx => w x env cls d σ G' H' hk (y.trans (x1.trans x')) ((E.later x1).later x') rx) _
theorem each1 {tg : Expr} (h : nStar tg = true) (en : Env) : (assignEach [tg] en).map (·.2) = [assign tg en] := by
  cases tg <;> first | rfl | cases h
/-! ### lists whose range is lent -/
theorem itL (h : SE m T E n) (ri : RI E) (hT : TOk m T) (hX : Cs X m N sc fs n) {it : CE} {ds : List D} (hk : okE T N k sc fs iter it = true) (hu : unb iter = none) (htp : it.wantsTp = true → ∃ elts kk tp, tg = .Tuple elts kk tp) (hd : E.it (vwL L env) it = .ok ds) (hl : (owL L env && !it.isRange) = false) : Iter X (reE a env) tg iter ds := by
  cases q : owL L env with
  | false =>
    rw [vwL_no q] at hd
    exact h.it hT hX hk hu htp (by rw [ri.it]; exact hd)
  | true =>
    rw [q] at hl
    cases it with
    | range cs =>
      cases k with
      | zero => simp [okE] at hk
      | succ k =>
      simp only [okE, hu] at hk
      have dvP : ∀ {ea : Expr} {ca : CE} {j : Int}, okE T N k sc fs ea ca = true → E.dv (vwL L env) ca = .ok (.int j) → P X (reE a env) ea (.per (.int j)) := fun {ea ca j} h1 h2 => P.lentL (L := L) (fun _ => rfl) (h.dv hX h1 (by rw [vwL_re, ri.dv]; exact h2))
      simp only [ok1] at hk
      split at hk
      · rename_i x q1 es q2
        obtain ⟨k1, hk1⟩ := ba2 hk
        obtain ⟨k2, hk2⟩ := ba2 hk1
        obtain ⟨k3, hk3⟩ := ba2 hk2
        have e := of_decide_eq_true k1
        subst e
        obtain ⟨g1, g2⟩ := free_of hT k2
        match es, cs, k3, hk3, hd with
        | [ea], [ca], k3, hk3, hd =>
          simp only [Evs.it] at hd
          simp only [all2, Bool.and_eq_true] at hk3
          simp only [List.all_cons, Bool.and_eq_true] at k3
          split at hd
          · rename_i j hj
            split at hd
            · rename_i hb
              cases hd
              exact it_range1 hX hb g1 g2 (dvP hk3.1 hj) (star1 k3.1)
            · cases hd
          · cases hd
        | [ea, eb], [ca, cb], k3, hk3, hd =>
          simp only [Evs.it] at hd
          simp only [all2, Bool.and_eq_true] at hk3
          simp only [List.all_cons, Bool.and_eq_true] at k3
          split at hd
          · rename_i i j hi hj
            split at hd
            · rename_i hb
              cases hd
              exact it_range2 hX hb g1 g2 (dvP hk3.1 hi) (dvP hk3.2.1 hj) (star2 k3.1 k3.2.1) (star1 k3.2.1)
            · cases hd
          · cases hd
        | [], [], _, _, hd => simp [Evs.it] at hd
        | _, _ :: _ :: _ :: _, _, _, hd => simp [Evs.it] at hd
        | [], _ :: _, _, hk3, _ => simp [all2] at hk3
        | _ :: _, [], _, hk3, _ => simp [all2] at hk3
        | [_], _ :: _ :: _, _, hk3, _ => simp [all2] at hk3
        | _ :: _ :: _, [_], _, hk3, _ => simp [all2] at hk3
        | _ :: _ :: _ :: _, [_, _], _, hk3, _ => simp [all2] at hk3
      · cases hk
    | _ => simp [CE.isRange] at hl
/-! ### loops -/
/-- what a loop over ds does from env on -/
def ForR (E : Evs) (t : CT) (body : List CS) (a : Addr) (ds : List D) (out : Out) (i : Nat) (env' : Ev) : Prop := ∃ env, env' = reE a env ∧ forE E t body (ds.drop i) env = some out
theorem s1_forE {t : CT} {body : List CS} {sb : List Stmt} {ds : List D} (hB : SB m T E n) (hX : Cs X m N sc sc n) (hF : Ft X sc) (ht : okT N sc sc tg t = true) (hb : okBs (okS T N k sc) body sb = true) (hit : Iter X (reE a env) tg iter ds) (hs : nSet iter = true) (ho : forE E t body ds env = some out) :
    S1 X (.For tg iter sb [] pos) (reE a env) (fun o => o = reOut a out) := by
  refine s1_for hX hit (ForR E t body a ds out) ⟨env, rfl, by simpa using ho⟩ (fun i d env' hd hI => ?_) (fun env' hI => ?_) (fun en x => fold_of hs en x)
  · obtain ⟨env1, rfl, h1⟩ := hI
    have hlt : i < ds.length := (List.getElem?_eq_some_iff.mp hd).1
    have hdrop : ds.drop i = d :: ds.drop (i + 1) := by
      rw [List.drop_eq_getElem_cons hlt]
      congr 1
      exact (List.getElem?_eq_some_iff.mp hd).2
    rw [hdrop] at h1
    simp only [forE] at h1
    split at h1
    · cases h1
    · rename_i env2 h2
      have h2' : t.setO (reE a env1) (.per d) = some (reE a env2) := by rw [setO_re, h2]; rfl
      refine ⟨reE a env2, t.vs, tg_of hX ht h2', ?_⟩
      cases hb2 : E.b env2 body with
      | none => rw [hb2] at h1; cases h1
      | some ob =>
        rw [hb2] at h1
        refine (hB hX hF hb hb2).imp fun u hu => ?_
        subst hu
        cases ob with
        | nx e1 => exact ⟨e1, rfl, h1⟩
        | ct e1 => exact ⟨e1, rfl, h1⟩
        | bk e1 => cases h1; rfl
        | rt o e1 => cases h1; rfl
        | ex c e1 => cases h1; rfl
  · obtain ⟨env1, rfl, h1⟩ := hI
    rw [List.drop_length] at h1
    simp only [forE] at h1
    cases h1
    rfl
theorem s1_whileE {kk : Nat} {body : List CS} {sb : List Stmt} {ec : Expr} (h : SE m T E n) (ri : RI E) (hB : SB m T E n) (hX : Cs X m N sc sc n) (hF : Ft X sc) (hc : okE T N 60 sc sc ec c = true) (hb : okBs (okS T N k sc) body sb = true) (ho : whileE E L c body kk env = some out) : S1 X (.While ec sb [] pos) (reE a env) (fun o => o = reOut a out) := by
  refine s1_while hX (fun j env' => ∃ env1, env' = reE a env1 ∧ whileE E L c body j env1 = some out) (m0 := kk) ⟨env, rfl, ho⟩ (fun j env' hI => ?_)
  obtain ⟨env1, rfl, h1⟩ := hI
  cases j with
  | zero => simp [whileE] at h1
  | succ j =>
    simp only [whileE] at h1
    cases ht : evT E L env1 c with
    | stk => rw [ht] at h1; cases h1
    | ex x => rw [ht] at h1; cases h1
    | ok q =>
      rw [ht] at h1
      refine ⟨q, evT_ok h ri hX hc ht, fun hq => ?_, fun hq => ?_⟩
      · subst hq
        simp only at h1
        cases hb2 : E.b env1 body with
        | none => rw [hb2] at h1; cases h1
        | some ob =>
          rw [hb2] at h1
          refine (hB hX hF hb hb2).imp fun u hu => ?_
          subst hu
          cases ob with
          | nx e1 => exact ⟨j, Nat.lt_succ_self j, e1, rfl, h1⟩
          | ct e1 => exact ⟨j, Nat.lt_succ_self j, e1, rfl, h1⟩
          | bk e1 => cases h1; rfl
          | rt o e1 => cases h1; rfl
          | ex c e1 => cases h1; rfl
      · subst hq
        simp only at h1
        cases h1
        rfl
end
end Pu

set_option Elab.async false
set_option linter.all false
set_option autoImplicit false
set_option maxRecDepth 100000
set_option maxHeartbeats 4000001
namespace Pu
open PySem L2
section
variable {m : Md} {T : Tab} {E : Evs} {n : Nat} {X : Cx} {N : List Str} {sc fs : Scope} {k : Nat} {env : Ev} {e v tg iter : Expr} {es : List Expr} {pos p : Pos} {a : Addr} {L : List Nat} {c : CE} {o : Ow} {x : Xc} {out : Out} {Φ : Out → Prop} {st : Stmt}
theorem nCmp_star {v : Expr} {c : CE} (h : okE T N k sc fs v c = true) : True := trivial
theorem asgn_sub {e0 eb : Expr} {p2 : Pos} (hs : nSli eb = true) (en : Env) (w : Value) : assign (.Subscript e0 eb p2) en w = (do
      let ov ← holding [w] (eval e0 en)
      let iv ← holding [w, ov] (eval eb en)
      standAt p2
      holding [w, ov, iv] (setItem ov iv w)
      release [w, ov, iv] []) := by
  cases eb <;> first | rfl | cases hs
theorem sw_sub {e0 eb v : Expr} {p2 : Pos} {l : Nat} (en : Env) : swapsWithSole [.Subscript e0 eb p2] v l en = pure false := by
  cases v <;> rfl
theorem sw_store {tg v : Expr} (h : nTup tg = true) (h2 : ∀ es p, tg ≠ .List es p) (en : Env) : swappedStores [tg] v en = pure none := by
  cases tg <;> first | (cases v <;> rfl) | (exact absurd rfl (h2 _ _)) | (cases h; done)
theorem sw_att {e0 v : Expr} {f : Str} {p2 : Pos} {l : Nat} (en : Env) : swapsWith v (some (.Attribute e0 f p2)) l en = pure false := by
  cases v <;> rfl
/-- o.m(..) of a thing of one's own -/
theorem mthB_of (h : SE m T E n) (ri : RI E) (hT : TOk m T) (hX : Cs X m N sc sc n) {pc : CE} {cl mm : Str} {ces : List CE} {ns : List Str} {os : List Ow} {ds : List D} {i : Nat} {π : List Nat} (hk : mthB (okE T N 60 sc sc) pc mm ces v = true) (hd : evPs E L env ces = .ok ds) (hp : Evs.pl T E env pc = some (i, π, .ins cl ns os)) (hno : mm ∉ ns) (hin : mm ≠ "__init__") :
    nCmp v = true ∧ ∃ ro, (reE a env)[i]? = some (some ro) ∧ (∀ s r, E.io cl mm (.ins cl ns os) ds = .ok s r → PM X (reE a env) v r ((reE a env).set i (some (ro.put π s)))) ∧ (∀ x s, E.io cl mm (.ins cl ns os) ds = .ex x s → PMX X (reE a env) v x ((reE a env).set i (some (ro.put π s)))) := by
  unfold mthB at hk
  split at hk
  · rename_i e0 m' ap es pp
    obtain ⟨h1, hk1⟩ := ba2 hk
    obtain ⟨h2, hk2⟩ := ba2 hk1
    obtain ⟨h3, hk3⟩ := ba2 hk2
    obtain ⟨h4, hk4⟩ := ba2 hk3
    obtain ⟨h5, hk5⟩ := ba2 hk4
    obtain ⟨h6, h7⟩ := ba2 hk5
    have e1 := of_decide_eq_true h1
    subst e1
    obtain ⟨ro, q1, q2, q3⟩ := pl_re (a := a) h ri hT hX h6 hp
    obtain ⟨ja, jz⟩ := evPs_ok (a := a) h ri hX h5 h7 hd
    refine ⟨rfl, ro, q1, fun s r hr => ?_, fun x s hr => ?_⟩
    · have F := h.io cl m' _ ds (.ok s r) hin (by rw [hr]; exact ⟨rfl, rfl⟩)
      exact pm_meth hX F (Nat.le_refl _) q3 q1 q2 hno h2 (of_decide_eq_true h3) h4 h5 jz ja (by rw [hr]; exact ⟨rfl, rfl⟩)
    · have F := h.io cl m' _ ds (.ex x s) hin (by rw [hr]; exact ⟨rfl, rfl⟩)
      exact pmx_meth hX F (Nat.le_refl _) q3 q1 q2 hno h2 (of_decide_eq_true h3) h4 h5 jz ja (by rw [hr]; exact ⟨rfl, rfl⟩)
  · cases hk
theorem s1_ifNN {env env' : Ev} {d : D} {ss ss' : List Stmt} {j : Nat} {p1 p2 : Pos} (h : PM X env e (.per d) env') (h1 : d.isN = false → S X ss env' Φ) (h2 : d.isN = true → S X ss' env' Φ) : S1 X (.If (.Compare e [.IsNot] [.Constant .none j p1] p2) ss ss' pos) env Φ := .mk fun σ G0 H0 G H y E D kk =>
  WS.of (ps_if (pt_cmpR op_notN pWE pe_non (nomark _)) pWSs pWSs) (h.run σ G0 H0 G H y E _ fun w G' H' x' E' => by
    have Er := E'.get (i := 0) (d := d) rfl
    obtain ⟨w', z1, z2⟩ := Er
    cases z1
    refine ⟨rfl, _, rfl, ?_⟩
    rw [isN_v z2]
    cases q : d.isN with
    | false => exact iteT ((h1 q).run σ G0 H0 G' H' x' E'.tail D kk)
    | true => exact iteF ((h2 q).run σ G0 H0 G' H' x' E'.tail D kk))
theorem s1_ifNNX {env env' : Ev} {ss ss' : List Stmt} {j : Nat} {p1 p2 : Pos} (h : PMX X env e x env') (hk : Φ (.ex x env')) : S1 X (.If (.Compare e [.IsNot] [.Constant .none j p1] p2) ss ss' pos) env Φ := .mk fun σ G0 H0 G H y E D kk => by
  obtain ⟨W, tk, w⟩ := kk.ex
  exact WS.of (ps_if (pt_cmpR op_notN pWE pe_non (nomark _)) pWSs pWSs) (h.run σ G0 H0 G H y E W tk (fun cls d G' H' x' E' rx => w x env' cls d σ G' H' hk x' E' rx) _)
end
end Pu

set_option Elab.async false
set_option linter.all false
set_option autoImplicit false
set_option maxRecDepth 100000
set_option maxHeartbeats 1000001
namespace Pu
open PySem L2
/-! ### dicts of one's own, their keys tuples -/
section
variable {α β γ : Type} [DecidableEq α]
theorem repV_len : ∀ (ks : List α) (os : List β) (k : α) (x : β), (repV ks os k x).length = os.length
  | [], os, k, x => by simp [repV]
  | _ :: _, [], k, x => by simp [repV]
  | k' :: ks, o :: os, k, x => by simp [repV, repV_len ks os k x]
theorem repV_zip : ∀ (ks : List α) (vs : List V) (k : α) (v : V), ks.length = vs.length → ks.zip (repV ks vs k v) = (ks.zip vs).map fun kv => if kv.1 = k then (kv.1, v) else kv
  | [], vs, k, v, _ => by simp
  | k' :: ks, [], k, v, h => by cases h
  | k' :: ks, u :: vs, k, v, h => by
    simp only [repV, List.zip_cons_cons, List.map_cons]
    rw [repV_zip ks vs k v (Nat.succ.inj h)]
    by_cases e : k' = k <;> simp [e]
theorem any_zip (k : α) : ∀ (ks : List α) (vs : List V), ks.length = vs.length → ((ks.zip vs).any fun kv => decide (kv.1 = k)) = decide (k ∈ ks)
  | [], vs, _ => by simp
  | k' :: ks, [], h => by cases h
  | k' :: ks, u :: vs, h => by
    simp only [List.zip_cons_cons, List.any_cons, any_zip k ks vs (Nat.succ.inj h)]
    by_cases e : k' = k
    · simp [e]
    · have e' : ¬ k = k' := fun z => e z.symm
      simp [e, e']
theorem putK_zip (ks : List α) (vs : List V) (k : α) (v : V) (h : ks.length = vs.length) : putK (ks.zip vs) k v = (putKs ks k).zip (putVs ks vs k v) := by
  unfold putK putKs putVs
  rw [any_zip k ks vs h]
  by_cases e : k ∈ ks
  · rw [if_pos (decide_eq_true e), if_pos e, if_pos e, repV_zip ks vs k v h]
  · rw [if_neg (by simpa using e), if_neg e, if_neg e, List.zip_append h]
    rfl
theorem put_len (ks : List α) (os : List β) (k : α) (x : β) (h : ks.length = os.length) : (putKs ks k).length = (putVs ks os k x).length := by
  unfold putKs putVs
  by_cases e : k ∈ ks
  · rw [if_pos e, if_pos e, repV_len, h]
  · rw [if_neg e, if_neg e]; simp [h]
end
section
variable {K : PySem.W.Frag} {G H G' H' : Hp}
theorem ROs.rep {α : Type} [DecidableEq α] {k : α} {d : D} {v : V} (hd : Rp K G d v) : ∀ {ks : List α} {os : List Ow} {vs : List V} {fq : List Addr}, ROs K G H os vs fq → ∃ fq', ROs K G H (repV ks os k (.per d)) (repV ks vs k v) fq' ∧ fq'.Sublist fq
  | [], os, vs, fq, h => ⟨fq, by simpa [repV] using h, .refl _⟩
  | k' :: ks, [], vs, fq, h => ⟨fq, by simp only [ROs] at h; rw [h.1]; simpa [repV, ROs] using h.2, .refl _⟩
  | k' :: ks, o :: os, vs, fq, h => by
    simp only [ROs] at h
    obtain ⟨u, us, f1, f2, rfl, rfl, h1, h2⟩ := h
    obtain ⟨f2', q1, q2⟩ := ROs.rep (ks := ks) (k := k) hd h2
    by_cases e : k' = k
    · refine ⟨f2', ?_, q2.trans (List.sublist_append_right _ _)⟩
      simp only [repV, if_pos e, ROs]
      exact ⟨v, _, [], f2', rfl, rfl, by simp only [RO]; exact ⟨trivial, hd⟩, q1⟩
    · refine ⟨f1 ++ f2', ?_, (List.Sublist.refl f1).append q2⟩
      simp only [repV, if_neg e, ROs]
      exact ⟨u, _, f1, f2', rfl, rfl, h1, q1⟩
theorem ROs.putT {α : Type} [DecidableEq α] {ks : List α} {os : List Ow} {vs : List V} {fq : List Addr} {k : α} {d : D} {v : V} (h : ROs K G H os vs fq) (hd : Rp K G d v) : ∃ fq', ROs K G H (putVs ks os k (.per d)) (putVs ks vs k v) fq' ∧ fq'.Sublist fq := by
  unfold putVs
  by_cases e : k ∈ ks
  · rw [if_pos e, if_pos e]; exact ROs.rep hd h
  · rw [if_neg e, if_neg e]
    exact ⟨fq ++ [], h.append (ROs.one (by simp only [RO]; exact ⟨trivial, hd⟩)), by simp⟩
end
section
variable {X : Cx} {m : Md} {N : List Str} {sc fs : Scope} {k : Nat} {env env' : Ev} {a b e e0 tg : Expr} {es : List Expr} {pos apos : Pos} {i : Nat} {π : List Nat} {o : Ow} {Φ : Out → Prop}
/-- a dict of one's own at a path -/
theorem En.ownT {K : PySem.W.Frag} {H0 G H : Hp} {σ : St} {ks : List (List Key)} {os : List Ow} (sub : Sub G H) (hH : ∀ a o, H0 a = some o → H a = some o) (E : En K H0 G H σ env) (he : env[i]? = some (some o)) (hs : o.sub π = some (.dT ks os)) :
    ∃ v p vs fq, σ[i]? = some (some v) ∧ vAt H π v = some (.ref p) ∧ H p = some (.dT (ks.zip vs)) ∧ ks.length = os.length ∧ G p = none ∧ H0 p = none ∧ ROs K G H os vs fq ∧ p ∉ fq ∧ fq.Nodup ∧
      ∀ (ks' : List (List Key)) (os' : List Ow) (vs' : List V) (fq' : List Addr) (G' H' : Hp), Ex2 G H G' H' → ks'.length = os'.length → ROs K G' H' os' vs' fq' → fq'.Sublist fq →
        En K H0 G' (upd H' p (.dT (ks'.zip vs'))) σ (env.set i (some (o.put π (.dT ks' os')))) := by
  obtain ⟨v, w, f1, fr, q1, q2, q3, nd, hh, put⟩ := E.focus sub he hs
  simp only [RO] at q3
  obtain ⟨p, vs, fq, rfl, rfl, g1, g2, gl, g3⟩ := q3
  obtain ⟨n1, n2, n3⟩ := List.nodup_append.mp nd
  obtain ⟨n4, n5⟩ := List.nodup_cons.mp n1
  refine ⟨v, p, vs, fq, q1, q2, g2, gl, g1, (hh p (by simp)).1, g3, n4, n5, fun ks' os' vs' fq' G' H' x hl r sl => ?_⟩
  have np : p ∉ fq' := fun z => n4 (sl.subset z)
  have gp' : G' p = none := x.n p g1 (by rw [g2]; simp)
  refine put G' (upd H' p (.dT (ks'.zip vs'))) (.dT ks' os') (p :: fq') x.g (fun a ha => ?_) ?_ ?_ fun a ha => ?_
  · obtain ⟨z0, z1, z2⟩ := hh a (List.mem_append_right _ ha)
    have nap : a ≠ p := fun z => n3 p (by simp) a ha z.symm
    rw [upd_ne nap]
    refine ⟨?_, x.n a z1 z2⟩
    cases q : H a with
    | none => exact absurd q z2
    | some o => exact x.h a o q
  · simp only [RO]
    refine ⟨p, vs', fq', rfl, rfl, gp', upd_same, hl, r.frame (fun _ _ q => q) fun a ha => ?_⟩
    have : a ≠ p := fun z => np (z ▸ ha)
    rw [upd_ne this]
    exact ⟨rfl, (r.out a ha).1⟩
  · refine List.nodup_append.mpr ⟨List.nodup_cons.mpr ⟨np, sl.nodup n5⟩, n2, fun a ha b hb q => ?_⟩
    subst q
    rcases List.mem_cons.mp ha with z | z
    · exact n3 p (by simp) a hb z.symm
    · exact n3 a (List.mem_cons_of_mem _ (sl.subset z)) a hb rfl
  · rcases List.mem_cons.mp ha with z | z
    · rw [z]; exact (hh p (by simp)).1
    · exact (hh a (by simp [sl.subset z])).1
/-- x[b] = e, x a dict of one's own at a path -/
theorem s1_setD (hX : Cs X m N sc fs k) {ks : List (List Key)} {os : List Ow} {d : D} {ky : List D} {kk0 : List Key} {p2 p3 : Pos} (hl : Loc X env e0 i π) (he : env[i]? = some (some o)) (hsu : o.sub π = some (.dT ks os)) (hk : keyT ky = some kk0) (hz : ks.length < sizeLine) (hp : P X env e (.per d)) (hb : P X env b (.per (.tup ky)))
    (h : Φ (.nx (env.set i (some (o.put π (.dT (putKs ks kk0) (putVs ks os kk0 (.per d))))))))
    (hs : swapsWith e (some (.Subscript e0 b p2)) p3.line X.env = pure false) :
    S1 X (.Assign [.Subscript e0 b p2] e p3) env Φ := .mk fun σ G0 H0 G H y E D kk => by
  have hu : X.A.units + 1 < cLine := by have := hX.room.units; omega
  refine WS.of (ps_dput hu pWE pWE pWE hs) ?_
  obtain ⟨v0, p, vs, fq, q1, qv, q2, ql, q3, q4, q5, q6, q7, q8⟩ := E.ownT y.s y.h he hsu
  refine hp.go y.s E fun v G1 H1 x1 r1 => ?_
  refine hl.run H0 σ G1 H1 x1.s (E.later x1) _ v0 _ q1 (vAt_mono x1.h qv) fun G3 H3 x3 => ?_
  refine hb.go x3.s ((E.later x1).later x3) fun w G2 H2 x2' r2 => ?_
  have x2 := x3.trans x2'
  have x12 := x1.trans x2
  simp only [Rp] at r2
  obtain ⟨t, ts, rfl, r3, r4⟩ := r2
  have et := keyT_of hk r4
  subst et
  have hpn : H p ≠ none := by rw [q2]; simp
  have lv : ks.length = vs.length := by rw [ql, q5.length]
  refine ⟨p, _, rfl, .inr ⟨_, kk0, t, x12.h _ _ q2, rfl, x2'.s _ _ r3, by rw [List.length_zip, ← lv, Nat.min_self]; exact hz, rfl⟩, ?_⟩
  rw [putK_zip ks vs kk0 v lv]
  obtain ⟨fq', k1, k2⟩ := ROs.putT (ks := ks) (k := kk0) (keepR x12 q5) (r1.mono x2.g)
  exact kk.nx _ σ G2 _ h (wp_mono (K := X.K) (G := G) (H := H) (y.trans x12) q4 (x12.n p q3 hpn)) (q8 _ _ _ fq' G2 H2 x12 (put_len ks os kk0 _ ql) k1 k2)
end
end Pu

set_option Elab.async false
set_option linter.all false
set_option autoImplicit false
set_option maxRecDepth 100000
set_option maxHeartbeats 1000001
namespace Pu
open PySem L2
section
variable {X : Cx} {m : Md} {N : List Str} {sc fs : Scope} {k : Nat} {env env' : Ev} {a b e e0 tg : Expr} {es : List Expr} {pos apos : Pos} {i : Nat} {π : List Nat} {o : Ow} {Φ : Out → Prop}
/-! ### pop -/
theorem pm_pop {os : List Ow} {d : D} (hl : Loc X env e0 i π) (he : env[i]? = some (some o)) (hsu : o.sub π = some (.lst (os ++ [.per d])))
    (hbase : ∀ en, attributeBase e0 "pop" en (eval e0 en) = eval e0 en) (hline : (apos.endLine == pos.line) = true) :
    PM X env (.Call (.Attribute e0 "pop" apos) [] [] pos) (.per d) (env.set i (some (o.put π (.lst os)))) := .mk fun σ G0 H0 G H y E Q g => by
  obtain ⟨v0, p, vs, fq, q1, qv, q2, q3, q4, q5, q6, q7, q8⟩ := E.ownL y.s y.h he hsu
  obtain ⟨vs', v, f1, f2, rfl, rfl, r1, r2⟩ := q5.dropLast
  simp only [RO] at r2
  obtain ⟨rfl, r2⟩ := r2
  refine WE.of (pe_bm0 PySem.F.plainAttrs_list PySem.F.slot_list_pop PySem.F.type_list_pop mt_pop pWE (hbase _) hline) ?_
  refine hl.run H0 σ G H y.s E _ v0 _ q1 qv fun G1 H1 x1 => ⟨.inl ⟨rfl, _, SqL.of (x1.h _ _ q2)⟩, p, _, v, rfl, rfl, x1.h _ _ q2, by simp, ?_⟩
  rw [List.dropLast_concat]
  have hpn : H p ≠ none := by rw [q2]; simp
  have x2 : Ex2 G0 H0 G1 (upd H1 p (.lst vs')) := wp_mono (K := X.K) (G := G) (H := H) (y.trans x1) q4 (x1.n p q3 hpn)
  have E2 := q8 _ _ f1 G1 H1 x1 (keepR x1 r1) (fun z => q6 (List.mem_append_left _ z)) (List.nodup_append.mp q7).1 fun a ha => .inl (List.mem_append_left _ ha)
  exact g v G1 _ x2 (E2.push (f := []) (Ex2.refl x2.s) (by simp only [RO]; exact ⟨trivial, r2.mono x1.g⟩) List.nodup_nil (fun a ha => by cases ha) fun a ha => by cases ha)
/-- tg = e, e changing things -/
theorem s1_asgM {d : D} {env2 : Ev} {js : List Nat} (h : PM X env e (.per d) env') (hg : Tg X env' tg d env2 js) (hk : Φ (.nx env2)) (hs : swapsWithSole [tg] e pos.line X.env = pure false) (hw : swappedStores [tg] e X.env = pure none)
    (h1 : (assignEach [tg] X.env).map (·.2) = [assign tg X.env]) : S1 X (.Assign [tg] e pos) env Φ := .mk fun σ G0 H0 G H y E D kk =>
  WS.of (ps_asg pWE pWG hs hw h1) (h.run σ G0 H0 G H y E _ fun v G' H' x' E' => by
    obtain ⟨fp, ⟨v', r, f1, f2, e1, rfl, r1, r2⟩, n, h0⟩ := id E'
    cases e1
    simp only [RO] at r1
    exact hg.run H0 G' H' σ v _ x'.s E'.tail r1.2 fun σ' E2 _ => kk.nx env2 σ' G' H' hk x' E2)
/-! ### a part begins to last -/
theorem En.lastP {K : PySem.W.Frag} {G0 H0 G H : Hp} {σ : L2.St} {o1 : Ow} (x : Ex2 G0 H0 G H) (E : En K H0 G H σ env) (he : env[i]? = some (some o)) (hs : o.sub π = some o1) :
    ∃ G', Ex2 G0 H0 G' H ∧ En K H0 G' H σ (env.set i (some (o.put π (.per o1.fr)))) := by
  obtain ⟨v, w, f1, fr, q1, q2, q3, nd, hh, put⟩ := E.focus x.s he hs
  obtain ⟨n1, n2, n3⟩ := List.nodup_append.mp nd
  have x' := x.last (fun a ha => (hh a (List.mem_append_left _ ha)).1) fun a ha => (hh a (List.mem_append_left _ ha)).2.1
  refine ⟨more G H f1, x', put (more G H f1) H (.per o1.fr) [] (fun a u q => ?_) (fun a ha => ⟨rfl, ?_⟩) ?_ (by simpa using n2) fun a ha => by cases ha⟩
  · by_cases z : a ∈ f1
    · rw [(hh a (List.mem_append_left _ z)).2.1] at q; cases q
    · rw [more_out z]; exact q
  · have z : a ∉ f1 := fun z => n3 a z a ha rfl
    rw [more_out z]
    exact (hh a (List.mem_append_right _ ha)).2.1
  · simp only [RO]
    refine ⟨trivial, q3.fr (fun a u q => ?_) fun a ha => more_in ha⟩
    by_cases z : a ∈ f1
    · rw [(hh a (List.mem_append_left _ z)).2.1] at q; cases q
    · rw [more_out z]; exact q
theorem s_lastP {ss : List Stmt} {o1 : Ow} (he : env[i]? = some (some o)) (hs : o.sub π = some o1) (h : S X ss (env.set i (some (o.put π (.per o1.fr)))) Φ) : S X ss env Φ := .mk fun σ G0 H0 G H x E D kk => by
  obtain ⟨G', x', E'⟩ := E.lastP x he hs
  exact h.run σ G0 H0 G' H x' E' D kk
/-! ### a dict stays for good -/
theorem pers_ros {K : PySem.W.Frag} {G H : Hp} : ∀ {os : List Ow} {ds : List D} {vs : List V} {fq : List Addr}, pers os = some ds → ROs K G H os vs fq → fq = [] ∧ Rps K G ds vs
  | [], ds, vs, fq, h, r => by
    simp only [pers] at h
    cases h
    simp only [ROs] at r
    exact ⟨r.2, by simp only [Rps]; exact r.1⟩
  | o :: os, ds, vs, fq, h, r => by
    simp only [ROs] at r
    obtain ⟨v, vr, f1, f2, rfl, rfl, r1, r2⟩ := r
    cases o <;> simp only [pers] at h <;> try (cases h; done)
    split at h
    · rename_i ds' hd
      cases h
      obtain ⟨rfl, r3⟩ := pers_ros hd r2
      simp only [RO] at r1
      obtain ⟨rfl, r1⟩ := r1
      exact ⟨rfl, by simp only [Rps]; exact ⟨v, vr, rfl, r1, r3⟩⟩
    · cases h
theorem s_lockP {ss : List Stmt} {ks : List (List Key)} {os : List Ow} {ds : List D} (he : env[i]? = some (some o)) (hs : o.sub π = some (.dT ks os)) (hp : pers os = some ds) (h : S X ss (env.set i (some (o.put π (.per (.dL ks ds))))) Φ) : S X ss env Φ := .mk fun σ G0 H0 G H x E D kk => by
  obtain ⟨v, w, f1, fr, q1, q2, q3, nd, hh, put⟩ := E.focus x.s he hs
  simp only [RO] at q3
  obtain ⟨p, vs, fq, rfl, rfl, g1, g2, gl, g3⟩ := q3
  obtain ⟨rfl, r⟩ := pers_ros hp g3
  have h0 : H0 p = none := (hh p (by simp)).1
  have ld : ks.length = ds.length := gl.trans (g3.length.symm.trans r.length)
  intro pins s I
  obtain ⟨od, I2⟩ := I.lock (d := p) g2 trivial
  have ng : ∀ a u, G a = some u → a ≠ p := fun a u z e => by rw [e, g1] at z; cases z
  have x2 : Ex2 G0 H0 (upd G p (.frz od (.dT (ks.zip vs)))) (upd H p (.frz od (.dT (ks.zip vs)))) := by
    refine ⟨⟨fun a u z => ?_, fun a u z => ?_⟩, fun a u z => ?_, fun a u z => ?_, fun a z1 z2 => ?_⟩
    · by_cases e : a = p
      · rw [e, upd_same] at z ⊢; exact z
      · rw [upd_ne e] at z ⊢; exact x.s _ _ z
    · by_cases e : a = p
      · rw [e, upd_same] at z; cases z
      · rw [upd_ne e] at z ⊢; exact x.s.t _ _ z
    · have z' := x.g _ _ z
      rw [upd_ne (ng a u z')]; exact z'
    · have e : a ≠ p := fun e => by rw [e, h0] at z; cases z
      rw [upd_ne e]; exact x.h _ _ z
    · have e : a ≠ p := fun e => z2 (by rw [e]; exact h0)
      rw [upd_ne e]; exact x.n a z1 z2
  obtain ⟨n1, n2, n3⟩ := List.nodup_append.mp nd
  have E2 := put (upd G p (.frz od (.dT (ks.zip vs)))) (upd H p (.frz od (.dT (ks.zip vs)))) (.per (.dL ks ds)) [] (fun a u z => by rw [upd_ne (ng a u z)]; exact z) (fun a ha => by
    have e : a ≠ p := fun e => n3 p (by simp) a ha e.symm
    rw [upd_ne e, upd_ne e]
    exact ⟨rfl, (hh a (by simp [ha])).2.1⟩) (by
    simp only [RO, Rp]
    exact ⟨trivial, p, vs, rfl, ⟨od, upd_same⟩, ld, r.mono fun a u z => by rw [upd_ne (ng a u z)]; exact z⟩) (by simpa using n2) fun a ha => by cases ha
  exact h.run σ G0 H0 _ _ x2 E2 D kk pins s I2
end
end Pu

set_option Elab.async false
set_option linter.all false
set_option autoImplicit false
set_option maxRecDepth 100000
set_option maxHeartbeats 4000001
namespace Pu
open PySem L2
section
variable {m : Md} {T : Tab} {E : Evs} {n : Nat} {X : Cx} {N : List Str} {sc fs : Scope} {k : Nat} {env : Ev} {e v tg iter : Expr} {es : List Expr} {pos p : Pos} {a : Addr} {L : List Nat} {c : CE} {o : Ow} {x : Xc} {out : Out} {Φ : Out → Prop} {st : Stmt}
theorem setO_per {ts : CTs} {env env' : Ev} {o : Ow} (h : (CT.tp ts).setO env o = some env') : ∃ d, o = .per d := by
  unfold CT.setO at h
  split at h
  · exact ⟨_, rfl⟩
  · cases h
theorem P.fzo {fz : Bool} (h : P X env e o) : P X env e (Pu.fzo fz o) := by
  unfold Pu.fzo
  split
  · exact P.last h
  · exact h
theorem tp_star {ts : CTs} (h : okT N sc fs tg (.tp ts) = true) : nStar tg = true := by
  unfold okT at h
  split at h
  · rfl
  · cases h
theorem S1.imp {Φ Ψ : Out → Prop} (h : S1 X st env Φ) (i : ∀ o, Φ o → Ψ o) : S1 X st env Ψ := .mk fun σ G0 H0 G H x E D kk => h.run σ G0 H0 G H x E D (kk.imp i)
theorem s1_set' (hX : Cs X m N sc fs k) {i : Nat} {y : Str} {o : Ow} {pos' : Pos} (hi : Ix N i y) (hl : locB sc fs y = true) (hn : i < env.length) (he : P X env e o) (h : Φ (.nx (env.set i (some o)))) (hs : swapsWith e (some (.Name y pos')) pos.line X.env = pure false) : S1 X (.Assign [.Name y pos'] e pos) env Φ := .mk fun σ G0 H0 G H yy E D kk =>
  WS.of (ps_set (i := i) (by rw [hX.hN]; exact hX.nd) (by rw [hX.hN]; exact hi.at_) (hX.loc hl) pWE hs (hX.hf hl)) (he.run H0 σ G H yy.s E _ fun v G' H' fp x' r n d =>
    kk.nx _ _ G' H' h (yy.trans x') (E.fresh x' r n d hn fun a ha => back_none yy.h (n a ha)))
theorem s1_setX' (hX : Cs X m N sc fs k) {i : Nat} {y : Str} {pos' : Pos} (hi : Ix N i y) (hl : locB sc fs y = true) (he : PX X env e x) (h : Φ (.ex x env)) (hs : swapsWith e (some (.Name y pos')) pos.line X.env = pure false) : S1 X (.Assign [.Name y pos'] e pos) env Φ := .mk fun σ G0 H0 G H yy E D kk => by
  obtain ⟨W, tk, w⟩ := kk.ex
  exact WS.of (ps_set (i := i) (by rw [hX.hN]; exact hX.nd) (by rw [hX.hN]; exact hi.at_) (hX.loc hl) pWE hs (hX.hf hl)) (he.run H0 σ G H yy.s E W tk (fun cls d G' H' x' rx => w x env cls d σ G' H' h (yy.trans x') (E.later x') rx) _)
theorem par_of {y z : Str} {px py pt pt2 : Pos} {kt k2 : Nat} {ea eb : Expr} (hx : sc.names.lookup y = some .local) (hz : sc.names.lookup z = some .local) (hne : y ≠ z) (hl : (px.line == py.line) = true) (s1 : nStar ea = true) (s2 : nStar eb = true) (f : (foldedForSure 8 ea && foldedForSure 8 eb) = false) (c : (constantsAlone 8 ea && constantsAlone 8 eb) = false)
    (en : Env) (hs : en.scope = sc) (hk : en.scope.kind = .function) : swappedStores [.Tuple [.Name y px, .Name z py] kt pt] (.Tuple [ea, eb] k2 pt2) en = pure (some [y, z]) := by
  have k1 : en.kindOf y = some .local := by unfold Env.kindOf; rw [hs]; exact hx
  have k2' : en.kindOf z = some .local := by unfold Env.kindOf; rw [hs]; exact hz
  have kb : en.blockKind = .function := by unfold Env.blockKind; rw [hk]; rfl
  have hst : ∀ q : Expr, nStar q = true → (match q with | .Starred .. => true | _ => false) = false := fun q hq => by cases q <;> first | rfl | cases hq
  have hl2 : (py.line == px.line) = true := by
    rw [beq_iff_eq] at hl ⊢
    exact hl.symm
  have hab : ([y, z].eraseDups).length = 2 := by
    have : (z == y) = false := by rw [beq_eq_false_iff_ne]; exact fun q => hne q.symm
    simp [List.eraseDups_cons, this]
  unfold swappedStores
  have a1 : ∀ g : Expr → Bool, [ea, eb].all g = (g ea && g eb) := fun g => by simp [List.all_cons]
  have a2 : ([ea, eb].any fun x => match x with | .Starred .. => true | _ => false) = false := by simp [hst _ s1, hst _ s2]
  have a3 : ([Expr.Name y px, Expr.Name z py].filterMap fun q => match q with | .Name id pos => if en.kindOf id == some .local && pos.line == (([Expr.Name y px, Expr.Name z py].head?.map (·.pos.line)).getD 0) then some id else none | _ => none) = [y, z] := by
    simp [k1, k2', Expr.pos, beq_iff_eq.mp hl2]
  have a4 : (!(([Expr.Name y px, Expr.Name z py].length == 2) || ([Expr.Name y px, Expr.Name z py].length == 3)) || [ea, eb].length != [Expr.Name y px, Expr.Name z py].length || en.blockKind != .function) = false := by rw [kb]; rfl
  have a5 : ([y, z].length != [Expr.Name y px, Expr.Name z py].length || [y, z].eraseDups.length != [y, z].length) = false := by rw [hab]; rfl
  simp only [pure_bind]
  rw [a4, if_neg (by simp)]
  refine (if_neg (fun q => Bool.false_ne_true (a2.symm.trans q))).trans ?_
  have a6 : ∀ (n1 : List Str), n1 = [y, z] → (if (n1.length != [Expr.Name y px, Expr.Name z py].length || n1.eraseDups.length != n1.length) = true then (pure none : Sem (Option (List Str))) else if [ea, eb].all (foldedForSure 8) = true then pure none else if [ea, eb].all (constantsAlone 8) = true then (do unsupported "assign.tuple-of-constant-expressions:order-of-the-stores"; pure (some n1)) else pure (some n1)) = pure (some [y, z]) := by
    intro n1 hn
    subst hn
    rw [a5, if_neg (by simp), a1, f, if_neg (by simp), a1, c, if_neg (by simp)]
  exact a6 _ a3
theorem snd_s (h : SE m T E n) (ri : RI E) (hT : TOk m T) (hB : SB m T E n) (hX : Cs X m N sc sc n) (hF : Ft X sc) : ∀ {k : Nat} {s : CS}, okS T N k sc st s = true → stepS T E env s = some out → S1 X st (reE a env) (fun o => o = reOut a out)
  | 0, s, hk, _ => by simp [okS] at hk
  | k + 1, s, hk, ho => by
    simp only [okS] at hk
    cases s with
    | frz i => simp [okS1] at hk
    | frzP i π => simp [okS1] at hk
    | wipe L => simp [okS1] at hk
    | popA t p =>
      simp only [okS1] at hk
      split at hk
      · rename_i tg1 e01 mm1 ap1 pc1 pp1
        obtain ⟨k1, hk1⟩ := ba2 hk
        obtain ⟨k2, hk2⟩ := ba2 hk1
        obtain ⟨k3, hk3⟩ := ba2 hk2
        obtain ⟨k4, hk4⟩ := ba2 hk3
        obtain ⟨k5, k6⟩ := ba2 hk4
        have e1 := of_decide_eq_true k1
        subst e1
        simp only [stepS] at ho
        split at ho
        · rename_i i π os hpl
          split at ho
          · rename_i d hd
            split at ho
            · rename_i env' he
              cases ho
              obtain ⟨ro, q1, q2, q3⟩ := pl_re (a := a) h ri hT hX k4 hpl
              have eos : os = os.dropLast ++ [.per d] := by
                obtain ⟨ys, rfl⟩ := List.getLast?_eq_some_iff.mp hd
                rw [List.dropLast_concat]
              rw [eos] at q2
              have pm := pm_pop (pos := _) q3 q1 q2 (fun en => sup_of k2 _ en) k3
              refine s1_asgM pm (tg_of hX k6 (env' := reE a env') ?_) rfl (by unfold swapsWithSole; exact sw_of (e := .Call (.Attribute e01 "pop" ap1) [] [] pc1) rfl (some tg1) _ _) (asgT_of rfl _) (each1 k5 _)
              rw [← putP_re q1 rfl, setO_re, he]
              rfl
            · cases ho
          · cases ho
        · cases ho
      · cases hk
    | setD p b L c =>
      simp only [okS1] at hk
      split at hk
      · obtain ⟨k1, hk1⟩ := ba2 hk
        obtain ⟨k2, hk2⟩ := ba2 hk1
        obtain ⟨k3, hk3⟩ := ba2 hk2
        obtain ⟨k4, k5⟩ := ba2 hk3
        simp only [stepS] at ho
        split at ho
        · rename_i o' hp
          split at ho
          · rename_i i π ks os hpl
            split at ho
            · rename_i ky hb
              split at ho
              · rename_i kk hkk
                split at ho
                · rename_i hz
                  cases ho
                  obtain ⟨ro, q1, q2, q3⟩ := pl_re (a := a) h ri hT hX k3 hpl
                  refine s1_setD hX q3 q1 q2 hkk hz (evP_ok h ri hX k5 hp).d (evP_ok h ri hX k4 hb) ?_ (sw_of k2 _ _ _)
                  simp only [reOut]
                  rw [putP_re q1 rfl]
                · cases ho
              · cases ho
            · cases ho
          · cases ho
        · rename_i x' hp
          cases ho
          exact s1_asgX (evP_ex h ri hX k5 hp) rfl (sw_sub _) (sw_store rfl (fun _ _ => by simp) _) rfl
        · cases ho
      · cases hk
    | bad => simp only [stepS] at ho; cases ho
    | raise cl L es =>
      simp only [okS1] at hk
      split at hk
      · obtain ⟨h1, hk1⟩ := ba2 hk
        obtain ⟨h2, hk2⟩ := ba2 hk1
        obtain ⟨h3, hk3⟩ := ba2 hk2
        obtain ⟨h4, hk4⟩ := ba2 hk3
        obtain ⟨h5, h6⟩ := ba2 hk4
        have e1 := of_decide_eq_true h1
        subst e1
        simp only [stepS] at ho
        split at ho
        · rename_i ds hds
          split at ho
          · rename_i x hx
            cases ho
            obtain ⟨ja, _⟩ := evPs_ok (a := a) h ri hX h5 h6 hds
            rw [h.kk] at hx
            exact s1_raise hX (mx_of hX hT hx ja (by simpa using h4) h5 h3 h2) rfl
          · cases ho
        · cases ho
      · cases hk
    | tryX i j body =>
      simp only [okS1] at hk
      split at hk
      · rename_i sb1 x1 px1 nm1 y1 py1 nn1 pn1 sp1 ph1 p1
        obtain ⟨h1, hk1⟩ := ba2 hk
        obtain ⟨h2, hk2⟩ := ba2 hk1
        obtain ⟨h3, hk3⟩ := ba2 hk2
        obtain ⟨h4, hk4⟩ := ba2 hk3
        obtain ⟨h5, hk5⟩ := ba2 hk4
        obtain ⟨h6, hk6⟩ := ba2 hk5
        obtain ⟨h7, hk7⟩ := ba2 hk6
        obtain ⟨h8, hk8⟩ := ba2 hk7
        obtain ⟨h9, hk9⟩ := ba2 hk8
        obtain ⟨h10, hk10⟩ := ba2 hk9
        obtain ⟨h11, h12⟩ := ba2 hk10
        have e1 := of_decide_eq_true h1
        subst e1
        have e2 := of_decide_eq_true h4
        subst e2
        have hd : (T.par == ("__debug__" : Str)) = false := by
          unfold dbg at h2
          simpa using (Bool.and_eq_true_iff.mp h2).1
        have hne : T.excs ≠ [] := by
          intro z
          rw [z] at h11
          simp at h11
        simp only [stepS] at ho
        have main : ∀ u, E.b env body = some u → (∀ c e1, u = .ex c e1 → j < e1.length ∧ (T.xi c.C).isSome = true ∧ out = .nx ((e1.set j (some (.per (.exc c.C c.ns c.ds)))).set i none)) → ((∀ c e1, u ≠ .ex c e1) → out = u) → S1 X (.Try sb1 [.ExceptHandler (some (.Name T.par px1)) (some nn1) [.Assign [.Name y1 py1] (.Name nn1 pn1) sp1] ph1] [] [] p1) (reE a env) (fun o => o = reOut a out) := fun u hu h1 h2 =>
          s1_try (T := T) (i := i) (j := j) hX hF (hT.par hne) (ix_dbg h5 h6) (of_decide_eq_true h7) (of_decide_eq_true h8) (of_decide_eq_true h9) (of_decide_eq_true h10) h3 hd (fun X' hX' hF' => (hB hX' hF' h12 hu).imp fun o ho => by
            subst ho
            cases u with
            | ex c e1 =>
              obtain ⟨a1, a2, a3⟩ := h1 c e1 rfl
              obtain ⟨q, hq⟩ := Option.isSome_iff_exists.mp a2
              obtain ⟨q1, q2⟩ := xi_of hq
              have hK := (hT.excs q q1).c
              rw [q2] at hK
              refine ⟨by rw [re_len]; exact a1, hK, ?_⟩
              rw [a3]
              simp only [reOut, re_set, Option.map_some, Option.map_none, re_per]
            | nx e1 => exact congrArg (reOut a) (h2 (fun _ _ z => by cases z)).symm
            | bk e1 => exact congrArg (reOut a) (h2 (fun _ _ z => by cases z)).symm
            | ct e1 => exact congrArg (reOut a) (h2 (fun _ _ z => by cases z)).symm
            | rt o e1 => exact congrArg (reOut a) (h2 (fun _ _ z => by cases z)).symm)
        split at ho
        · rename_i c e1 hb
          split at ho
          · rename_i hc
            cases ho
            exact main _ hb (fun c' e1' z => by cases z; exact ⟨hc.1, hc.2, rfl⟩) (fun z => absurd rfl (z _ _))
          · cases ho
        · rename_i hn
          exact main out ho (fun c e1 z => absurd (z ▸ ho) (hn c e1)) (fun _ => rfl)
      · cases hk
    | pass =>
      simp only [okS1] at hk
      split at hk
      · simp only [stepS] at ho; cases ho; exact s1_pass rfl
      · cases hk
    | brk =>
      simp only [okS1] at hk
      split at hk
      · simp only [stepS] at ho; cases ho; exact s1_brk rfl
      · cases hk
    | cnt =>
      simp only [okS1] at hk
      split at hk
      · simp only [stepS] at ho; cases ho; exact s1_cnt rfl
      · cases hk
    | retN =>
      simp only [okS1] at hk
      split at hk
      · simp only [stepS] at ho; cases ho; exact s1_retN rfl
      · cases hk
    | retv i =>
      simp only [okS1] at hk
      split at hk
      · rename_i y p1 p2
        obtain ⟨h1, hk1⟩ := ba2 hk
        obtain ⟨h2, h3⟩ := ba2 hk1
        simp only [stepS] at ho
        split at ho
        · cases ho
        · rename_i o' hno he
          cases ho
          have hat : o'.isAt = false := by cases o' <;> first | rfl | exact absurd rfl (hno _ _)
          refine s1_retVar hX (ix_dbg h1 h2) h3 (o := o') (by rw [re_get, he, Option.map_some, Option.map_some, re_id hat]) ?_
          simp only [reOut, re_set, Option.map_none]
        · cases ho
      · cases hk
    | ret L c =>
      simp only [okS1] at hk
      split at hk
      · simp only [stepS] at ho
        split at ho
        · rename_i o' hp; cases ho; exact s1_ret (evP_ok h ri hX hk hp) rfl
        · rename_i x' hp; cases ho; exact s1_retX (evP_ex h ri hX hk hp) rfl
        · cases ho
      · cases hk
    | expr L c =>
      simp only [okS1] at hk
      split at hk
      · obtain ⟨h1, h2⟩ := ba2 hk
        simp only [stepS] at ho
        split at ho
        · rename_i o' hp; cases ho; exact s1_expr (evP_ok h ri hX h2 hp) rfl (fun en => sw_of h1 _ _ en)
        · rename_i x' hp; cases ho; exact s1_px (evP_ex h ri hX h2 hp) rfl h1
        · cases ho
      · cases hk
    | ife L c A B =>
      simp only [okS1] at hk
      split at hk
      · obtain ⟨h1, hk1⟩ := ba2 hk
        obtain ⟨h2, h3⟩ := ba2 hk1
        simp only [stepS] at ho
        split at ho
        · rename_i ht; exact s1_if (evT_ok h ri hX h1 ht) (fun _ => hB hX hF h2 ho) (fun z => by cases z)
        · rename_i ht; exact s1_if (evT_ok h ri hX h1 ht) (fun z => by cases z) (fun _ => hB hX hF h3 ho)
        · rename_i ht; cases ho; exact s1_ifX (evT_ex h ri hX h1 ht) rfl
        · cases ho
      · cases hk
    | for_ t L it body =>
      simp only [okS1] at hk
      split at hk
      · obtain ⟨h1, hk1⟩ := ba2 hk
        obtain ⟨h2, hk2⟩ := ba2 hk1
        obtain ⟨h3, hk3⟩ := ba2 hk2
        obtain ⟨h4, hk4⟩ := ba2 hk3
        obtain ⟨h5, h6⟩ := ba2 hk4
        simp only [stepS] at ho
        split at ho
        · rename_i ds hds
          split at ho
          · cases ho
          · rename_i hl
            exact s1_forE hB hX hF h1 h6 (itL h ri hT hX h2 (by simpa using h3) (tp_of h1 h5) hds (by simpa using hl)) h4 ho
        · cases ho
      · cases hk
    | while_ kk L c body =>
      simp only [okS1] at hk
      split at hk
      · obtain ⟨h1, h2⟩ := ba2 hk
        simp only [stepS] at ho
        exact s1_whileE h ri hB hX hF h1 h2 ho
      · cases hk
    | asg t L fz c =>
      simp only [okS1] at hk
      split at hk
      · rename_i tg v p
        obtain ⟨h1, hk1⟩ := ba2 hk
        simp only [stepS] at ho
        cases t with
        | nm i =>
          simp only at hk1
          split at hk1
          · rename_i y px
            obtain ⟨h2, h3⟩ := ba2 hk1
            obtain ⟨i1, i2⟩ := nmL_of h2
            split at ho
            · rename_i o' hp
              split at ho
              · rename_i env' he
                cases ho
                unfold CT.setO at he
                split at he
                · cases he
                · rename_i hno
                  split at he
                  · rename_i hi
                    cases he
                    have hat : (fzo fz o').isAt = false := by
                      cases q : fzo fz o' <;> first | rfl | exact absurd q (hno _ _)
                    refine s1_set' hX i1 i2 (by rw [re_len]; exact hi) ((evP_ok h ri hX h1 hp).fzo (fz := fz)) ?_ (swF_of h3 hX.hS)
                    simp only [reOut, re_set, Option.map_some, re_id hat]
                  · cases he
              · cases ho
            · rename_i x' hp
              cases ho
              exact s1_setX' hX i1 i2 (evP_ex h ri hX h1 hp) rfl (swF_of h3 hX.hS)
            · cases ho
          · cases hk1
        | tp ts =>
          simp only at hk1
          obtain ⟨h2, hk2⟩ := ba2 hk1
          obtain ⟨h3, h4⟩ := ba2 hk2
          split at ho
          · rename_i o' hp
            split at ho
            · rename_i env' he
              cases ho
              obtain ⟨d, hd⟩ := setO_per he
              have hpp := (evP_ok (a := a) h ri hX h1 hp).fzo (fz := fz)
              rw [hd] at hpp he
              exact s1_asg hpp (tg_of hX h4 (by rw [setO_re, he]; rfl)) rfl (fun en => sw_of h2 _ _ en) (fun en => asgT_of h3 en) (fun en => each1 (tp_star h4) en)
            · cases ho
          · rename_i x' hp
            cases ho
            exact s1_asgX (evP_ex h ri hX h1 hp) rfl (sw_of h2 _ _ _) (asgT_of h3 _) (each1 (tp_star h4) _)
          · cases ho
      · cases hk
    | par i j L ca cb =>
      simp only [okS1] at hk
      split at hk
      · obtain ⟨k1, hk1⟩ := ba2 hk
        obtain ⟨k2, hk2⟩ := ba2 hk1
        obtain ⟨k3, hk3⟩ := ba2 hk2
        obtain ⟨k4, k5⟩ := ba2 hk3
        obtain ⟨n1, n2⟩ := ba2 k1
        obtain ⟨d1, d2⟩ := ba2 k2
        obtain ⟨d2, d3⟩ := ba2 d2
        obtain ⟨d3, d4⟩ := ba2 d3
        obtain ⟨d4, d5⟩ := ba2 d4
        obtain ⟨s1, s2⟩ := ba2 k3
        obtain ⟨f1, f2⟩ := ba2 k4
        obtain ⟨e1, e2⟩ := ba2 k5
        obtain ⟨i1, _⟩ := nmL_of n1
        obtain ⟨j1, _⟩ := nmL_of n2
        simp only [stepS] at ho
        split at ho
        · rename_i x' hx
          split at ho
          · rename_i y' hy
            split at ho
            · rename_i hl
              cases ho
              refine s1_par hX i1 j1 (of_decide_eq_true d1) (of_decide_eq_true d4) (of_decide_eq_true d5) (by rw [re_len]; exact hl.1) (by rw [re_len]; exact hl.2) (P.last (evP_ok h ri hX e1 hx)) (P.last (evP_ok h ri hX e2 hy)) s1 s2 (par_of (of_decide_eq_true d4) (of_decide_eq_true d5) (of_decide_eq_true d2) d3 s1 s2 (by rw [Bool.not_eq_true'] at f1; exact f1) (by rw [Bool.not_eq_true'] at f2; exact f2)) ?_
              simp only [reOut, re_set, Option.map_some, re_per]
            · cases ho
          · cases ho
        · cases ho
      · cases hk
    | asgLc i fz L own t it ifs elt =>
      simp only [okS1] at hk
      split at hk
      · rename_i x1 px1 eelt1 tg1 iter1 eifs1 isas1 scope1 vp1 pos1
        obtain ⟨k1, hk1⟩ := ba2 hk
        obtain ⟨k2, hk2⟩ := ba2 hk1
        obtain ⟨k3, hk3⟩ := ba2 hk2
        obtain ⟨k4, hk4⟩ := ba2 hk3
        obtain ⟨k5, hk5⟩ := ba2 hk4
        obtain ⟨k6, hk6⟩ := ba2 hk5
        obtain ⟨k7, hk7⟩ := ba2 hk6
        obtain ⟨k8, hk8⟩ := ba2 hk7
        obtain ⟨k9, hk9⟩ := ba2 hk8
        obtain ⟨k10, hk10⟩ := ba2 hk9
        obtain ⟨k11, k12⟩ := ba2 hk10
        obtain ⟨n1, n2⟩ := ba2 k1
        obtain ⟨n2, n3⟩ := ba2 n2
        obtain ⟨n3, n4⟩ := ba2 n3
        obtain ⟨i1, _⟩ := nmL_of n1
        have e1 := of_decide_eq_true k2
        subst e1
        simp only [stepS] at ho
        split at ho
        · rename_i ds hds
          split at ho
          · rename_i hl
            split at ho
            · rename_i os hos
              cases ho
              have hit := h.it (env := reE a env) hT hX k8 (by simpa using k6) (tp_of k9 k5) (by rw [ri.it]; exact hds)
              have hlc := lcb_of (env := reE a env) (h.lend L) k7 k9 (of_decide_eq_true k10) k11 k12 (by rw [wipe_re, (ri.lend L).lc]; exact hos)
              have main : S1 X (.Assign [.Name x1 px1] (.ListComp eelt1 [⟨tg1, iter1, eifs1, 0⟩] scope1 vp1) pos1) (reE a env) (fun u => u = .nx ((reE a env).set i (some (.lst os)))) := by
                refine s1_setLc (spos := _) hX i1 (of_decide_eq_true n2) (by rw [re_len]; exact hl.2) _ hit k3 hl.1 hlc ?_ n3 (by simpa using n4) (fun en x => fold_of k4 en x)
                rw [mapIdx_fm, wipe_re]
                have : os = ds.filterMap (lcG (lendE E L) (reE a (wipeE env own)) t ifs elt) := (lc_all (by rw [(ri.lend L).lc]; exact hos)).2
                rw [← this]
              cases fz with
              | false =>
                refine S1.imp main fun u hu => ?_
                rw [hu]
                simp only [reOut, re_set, Option.map_some, fzo]
                rfl
              | true =>
                refine s1_frz (i := i) (S1.imp main fun u hu => ?_)
                subst hu
                refine ⟨.lst os, by simp [re_len, hl.2], ?_⟩
                simp only [reOut, re_set, Option.map_some, fzo, if_true, re_per, List.set_set]
            · cases ho
          · cases ho
        · cases ho
      · cases hk
    | aug i op L c =>
      simp only [okS1] at hk
      split at hk
      · obtain ⟨k1, hk1⟩ := ba2 hk
        obtain ⟨k2, k3⟩ := ba2 hk1
        obtain ⟨i1, i2⟩ := nmL_of k2
        have e1 := of_decide_eq_true k1
        subst e1
        simp only [stepS] at ho
        split at ho
        · rename_i x' hx
          split at ho
          · rename_i o' hp
            split at ho
            · rename_i z hz
              cases ho
              have hpp := P.last (evP_ok (a := a) h ri hX k3 hp)
              have hg : (reE a env)[i]? = some (some (.per x')) := by rw [re_get, hx]; rfl
              unfold iAug at hz
              split at hz
              · rename_i i' j' h1 h2
                cases hz
                rw [h2] at hpp
                refine s1_aug hX ip_add i1 i2 hg hpp ?_
                simp only [reOut, re_set, Option.map_some, re_per]
              · rename_i i' j' h1 h2
                cases hz
                rw [h2] at hpp
                refine s1_aug hX ip_sub i1 i2 hg hpp ?_
                simp only [reOut, re_set, Option.map_some, re_per]
              · cases hz
            · cases ho
          · cases ho
        · cases ho
      · cases hk
    | setF p f L fz c =>
      simp only [okS1] at hk
      split at hk
      · obtain ⟨k1, hk1⟩ := ba2 hk
        obtain ⟨k2, hk2⟩ := ba2 hk1
        obtain ⟨k3, k4⟩ := ba2 hk2
        have e1 := of_decide_eq_true k1
        subst e1
        simp only [stepS] at ho
        split at ho
        · rename_i o' hp
          split at ho
          · cases ho
          · rename_i hat
            split at ho
            · rename_i i π cl ns os hpl
              split at ho
              · rename_i hz
                cases ho
                obtain ⟨ro, q1, q2, q3⟩ := pl_re (a := a) h ri hT hX k3 hpl
                obtain ⟨c1, c2⟩ := fld_of hT hz.2
                refine s1_fldL hX c1 c2 q3 q1 q2 hz.1 ((evP_ok h ri hX k4 hp).fzo (fz := fz)) ?_ (fun en => sw_att en)
                simp only [reOut]
                rw [putP_re q1 rfl]
              · cases ho
            · cases ho
        · rename_i x' hp
          cases ho
          refine .mk fun σ G0 H0 G H y EE D kk => ?_
          obtain ⟨W, tk, w⟩ := kk.ex
          exact WS.of (ps_fld pWE pWE (sw_att _)) ((evP_ex (a := a) h ri hX k4 hp).run H0 σ G H y.s EE W tk (fun cls d G' H' xx rx => w x' _ cls d σ G' H' rfl (y.trans xx) (EE.later xx) rx) _)
        · cases ho
      · cases hk
    | augF p f op L c =>
      simp only [okS1] at hk
      split at hk
      · obtain ⟨k1, hk1⟩ := ba2 hk
        obtain ⟨k2, hk2⟩ := ba2 hk1
        obtain ⟨k3, k4⟩ := ba2 hk2
        have e1 := of_decide_eq_true k1
        subst e1
        have e2 := of_decide_eq_true k2
        subst e2
        simp only [stepS] at ho
        split at ho
        · rename_i i π cl ns os hpl
          split at ho
          · rename_i x' hx
            split at ho
            · rename_i v' hp
              split at ho
              · rename_i z hz
                split at ho
                · rename_i hc
                  cases ho
                  obtain ⟨ro, q1, q2, q3⟩ := pl_re (a := a) h ri hT hX k3 hpl
                  obtain ⟨c1, c2⟩ := fld_of hT hc.2.1
                  have hpp := P.last (evP_ok (a := a) h ri hX k4 hp)
                  unfold iAug at hz
                  split at hz
                  · rename_i i' j' h1 h2
                    cases hz
                    rw [h2] at hpp
                    refine s1_augF hX in_add c1 c2 q3 q1 q2 hc.1 hc.2.2 hx hpp ?_
                    simp only [reOut]
                    rw [putP_re q1 rfl]
                  · rename_i i' j' h1 h2
                    cases hz
                    rw [h2] at hpp
                    refine s1_augF hX in_sub c1 c2 q3 q1 q2 hc.1 hc.2.2 hx hpp ?_
                    simp only [reOut]
                    rw [putP_re q1 rfl]
                  · cases hz
                · cases ho
              · cases ho
            · cases ho
          · cases ho
        · cases ho
      · cases hk
    | setI p b L fz c =>
      simp only [okS1] at hk
      split at hk
      · obtain ⟨k1, hk1⟩ := ba2 hk
        obtain ⟨k2, hk2⟩ := ba2 hk1
        obtain ⟨k3, hk3⟩ := ba2 hk2
        obtain ⟨k4, k5⟩ := ba2 hk3
        simp only [stepS] at ho
        split at ho
        · rename_i o' hp
          split at ho
          · cases ho
          · split at ho
            · rename_i i π os hpl
              split at ho
              · rename_i l hb
                split at ho
                · rename_i n' hn
                  cases ho
                  obtain ⟨ro, q1, q2, q3⟩ := pl_re (a := a) h ri hT hX k3 hpl
                  refine s1_setItemL q3 q1 q2 hn ((evP_ok h ri hX k5 hp).fzo (fz := fz)) (evP_ok h ri hX k4 hb) ?_ (fun en w => asgn_sub k1 en w) (fun en => sw_sub en) (fun en => sw_store rfl (fun _ _ => by simp) en) (fun en => rfl)
                  simp only [reOut]
                  rw [putP_re q1 rfl]
                · cases ho
              · cases ho
            · cases ho
        · rename_i x' hp
          cases ho
          exact s1_asgX (evP_ex h ri hX k5 hp) rfl (sw_sub _) (sw_store rfl (fun _ _ => by simp) _) rfl
        · cases ho
      · cases hk
    | app p L fz c =>
      simp only [okS1] at hk
      split at hk
      · obtain ⟨k1, hk1⟩ := ba2 hk
        obtain ⟨k2, hk2⟩ := ba2 hk1
        obtain ⟨k3, hk3⟩ := ba2 hk2
        obtain ⟨k4, hk4⟩ := ba2 hk3
        obtain ⟨k5, k6⟩ := ba2 hk4
        have e1 := of_decide_eq_true k1
        subst e1
        simp only [stepS] at ho
        split at ho
        · rename_i o' hp
          split at ho
          · cases ho
          · split at ho
            · rename_i i π os hpl
              split at ho
              · rename_i hz
                cases ho
                obtain ⟨ro, q1, q2, q3⟩ := pl_re (a := a) h ri hT hX k5 hpl
                refine s1_appendL q3 q1 q2 hz ((evP_ok h ri hX k6 hp).fzo (fz := fz)) ?_ (fun en => sup_of k2 _ en) (fun en => few1 k3 en) k4 (fun en => star1 k3 en)
                simp only [reOut]
                rw [putP_re q1 rfl]
              · cases ho
            · cases ho
        · rename_i x' hp
          split at ho
          · rename_i i π os hpl
            cases ho
            obtain ⟨ro, q1, q2, q3⟩ := pl_re (a := a) h ri hT hX k5 hpl
            exact s1_appX PySem.F.slot_list_append PySem.F.type_list_append mt_append q3 q1 q2 (evP_ex h ri hX k6 hp) rfl k2 k3 k4
          · cases ho
        · cases ho
      · cases hk
    | ext p L c =>
      simp only [okS1] at hk
      split at hk
      · obtain ⟨k1, hk1⟩ := ba2 hk
        obtain ⟨k2, hk2⟩ := ba2 hk1
        obtain ⟨k3, hk3⟩ := ba2 hk2
        obtain ⟨k4, hk4⟩ := ba2 hk3
        obtain ⟨k5, k6⟩ := ba2 hk4
        have e1 := of_decide_eq_true k1
        subst e1
        simp only [stepS] at ho
        split at ho
        · rename_i o' hp
          split at ho
          · rename_i i π os hpl
            split at ho
            · rename_i ds hfr
              split at ho
              · rename_i hz
                cases ho
                obtain ⟨ro, q1, q2, q3⟩ := pl_re (a := a) h ri hT hX k5 hpl
                have hpp := P.last (evP_ok (a := a) h ri hX k6 hp)
                rw [hfr] at hpp
                refine s1_extendL q3 q1 q2 hz hpp ?_ k2 k3 k4
                simp only [reOut]
                rw [putP_re q1 rfl]
              · cases ho
            · cases ho
          · cases ho
        · rename_i x' hp
          split at ho
          · rename_i i π os hpl
            cases ho
            obtain ⟨ro, q1, q2, q3⟩ := pl_re (a := a) h ri hT hX k5 hpl
            exact s1_appX PySem.F.slot_list_extend PySem.F.type_list_extend mt_extend q3 q1 q2 (evP_ex h ri hX k6 hp) rfl k2 k3 k4
          · cases ho
        · cases ho
      · cases hk
    | clr p =>
      simp only [okS1] at hk
      split at hk
      · obtain ⟨k1, hk1⟩ := ba2 hk
        obtain ⟨k2, hk2⟩ := ba2 hk1
        obtain ⟨k3, k4⟩ := ba2 hk2
        have e1 := of_decide_eq_true k1
        subst e1
        simp only [stepS] at ho
        split at ho
        · rename_i i π os hpl
          cases ho
          obtain ⟨ro, q1, q2, q3⟩ := pl_re (a := a) h ri hT hX k4 hpl
          refine s1_clearL q3 q1 q2 ?_ (fun en => sup_of k2 _ en) k3
          simp only [reOut]
          rw [putP_re q1 rfl]
        · cases ho
      · cases hk
    | mth mr p c mm L es =>
      simp only [stepS] at ho
      split at ho
      · rename_i ds hds
        split at ho
        · rename_i i π c' ns os hpl
          split at ho
          · rename_i hc
            obtain ⟨hc1, hc2, hc3⟩ := hc
            subst hc1
            cases mr with
            | no =>
              simp only [okS1] at hk
              split at hk
              · obtain ⟨hn, ro, q1, q2, q3⟩ := mthB_of (a := a) h ri hT hX hk hds hpl hc2 hc3
                split at ho
                · rename_i s r hr
                  split at ho
                  · cases ho
                  · rename_i hat
                    rw [Bool.or_eq_true, not_or, Bool.not_eq_true, Bool.not_eq_true] at hat
                    cases ho
                    refine s1_exprM (q2 s r hr) ?_ hn
                    simp only [reOut]
                    rw [putP_re q1 hat.1]
                · rename_i x' s hr
                  split at ho
                  · cases ho
                  · rename_i hat
                    rw [Bool.not_eq_true] at hat
                    cases ho
                    refine s1_exprMX (q3 x' s hr) ?_ hn
                    simp only [reOut]
                    rw [putP_re q1 hat]
                · cases ho
              · cases hk
            | nm l =>
              simp only [okS1] at hk
              split at hk
              · obtain ⟨hk1, hk2⟩ := ba2 hk
                obtain ⟨i1, i2⟩ := nmL_of hk1
                obtain ⟨hn, ro, q1, q2, q3⟩ := mthB_of (a := a) h ri hT hX hk2 hds hpl hc2 hc3
                split at ho
                · rename_i s r hr
                  split at ho
                  · cases ho
                  · rename_i hat
                    rw [Bool.or_eq_true, not_or, Bool.not_eq_true, Bool.not_eq_true] at hat
                    simp only at ho
                    split at ho
                    · rename_i hl
                      cases ho
                      refine s1_setM hX i1 i2 (by rw [List.length_set, re_len]; exact hl) (q2 s r hr) ?_ hn
                      simp only [reOut]
                      rw [re_set, putP_re q1 hat.1, Option.map_some, re_id hat.2]
                    · cases ho
                · rename_i x' s hr
                  split at ho
                  · cases ho
                  · rename_i hat
                    rw [Bool.not_eq_true] at hat
                    cases ho
                    refine s1_setMX hX i1 i2 (q3 x' s hr) ?_ hn
                    simp only [reOut]
                    rw [putP_re q1 hat]
                · cases ho
              · cases hk
            | ret =>
              simp only [okS1] at hk
              split at hk
              · obtain ⟨hn, ro, q1, q2, q3⟩ := mthB_of (a := a) h ri hT hX hk hds hpl hc2 hc3
                split at ho
                · rename_i s r hr
                  split at ho
                  · cases ho
                  · rename_i hat
                    rw [Bool.or_eq_true, not_or, Bool.not_eq_true, Bool.not_eq_true] at hat
                    cases ho
                    refine s1_retM (q2 s r hr) ?_
                    simp only [reOut]
                    rw [putP_re q1 hat.1]
                · rename_i x' s hr
                  split at ho
                  · cases ho
                  · rename_i hat
                    rw [Bool.not_eq_true] at hat
                    cases ho
                    refine s1_retMX (q3 x' s hr) ?_
                    simp only [reOut]
                    rw [putP_re q1 hat]
                · cases ho
              · cases hk
          · cases ho
        · cases ho
      · cases ho
    | ifM p c mm L es A B =>
      simp only [okS1] at hk
      split at hk
      · obtain ⟨hk1, hk2⟩ := ba2 hk
        obtain ⟨hk3, hk4⟩ := ba2 hk2
        simp only [stepS] at ho
        split at ho
        · rename_i ds hds
          split at ho
          · rename_i i π c' ns os hpl
            split at ho
            · rename_i hc
              obtain ⟨hc1, hc2, hc3⟩ := hc
              subst hc1
              obtain ⟨hn, ro, q1, q2, q3⟩ := mthB_of (a := a) h ri hT hX hk1 hds hpl hc2 hc3
              split at ho
              · rename_i s d hr
                split at ho
                · cases ho
                · rename_i hat
                  rw [Bool.not_eq_true] at hat
                  have hpm := q2 s _ hr
                  rw [← putP_re q1 hat] at hpm
                  split at ho
                  · rename_i hd
                    exact s1_ifNN hpm (fun z => by rw [hd] at z; cases z) (fun _ => hB hX hF hk4 ho)
                  · rename_i hd
                    exact s1_ifNN hpm (fun _ => hB hX hF hk3 ho) (fun z => absurd z hd)
              · rename_i x' s hr
                split at ho
                · cases ho
                · rename_i hat
                  rw [Bool.not_eq_true] at hat
                  cases ho
                  refine s1_ifNNX (q3 x' s hr) ?_
                  simp only [reOut]
                  rw [putP_re q1 hat]
              · cases ho
            · cases ho
          · cases ho
        · cases ho
      · cases hk
end
end Pu

set_option Elab.async false
set_option linter.all false
set_option autoImplicit false
set_option maxRecDepth 100000
set_option maxHeartbeats 1000001
namespace Pu
open PySem L2
/-! ### blocks, defs, the whole -/
section
variable {m : Md} {T : Tab} {E : Evs} {n : Nat} {X : Cx} {N : List Str} {sc fs : Scope} {k : Nat} {a : Addr}
theorem s_forget {ss : List Stmt} {env : Ev} {Φ : Out → Prop} : ∀ {L : List Nat}, S X ss (wipeE env L) Φ → S X ss env Φ
  | [], h => h
  | i :: L, h => s_forget (L := L) (.mk fun σ G0 H0 G H x E D kk => by
    obtain ⟨fp, e1, e2, e3⟩ := E
    by_cases hi : i < σ.length
    · obtain ⟨fp', h1, h2⟩ := Ens.drop (i := i) (s' := σ[i]) e1
      rw [List.set_getElem_self] at h1
      exact h.run σ G0 H0 G H x ⟨fp', h1, e2.sublist h2, fun a ha => e3 a (h2.subset ha)⟩ D kk
    · have hl := e1.length
      have he : wipeE env (i :: L) = wipeE env L := by
        show (wipeE env L).set i none = wipeE env L
        exact List.set_eq_of_length_le (by omega)
      rw [he] at h
      exact h.run σ G0 H0 G H x ⟨fp, e1, e2, e3⟩ D kk)
theorem snd_b (h : SE m T E n) (ri : RI E) (hT : TOk m T) (hB : SB m T E n) (hX : Cs X m N sc sc n) (hF : Ft X sc) : ∀ {cs : List CS} {ss : List Stmt} {env : Ev} {out : Out}, okBs (okS T N k sc) cs ss = true → runB T E cs env = some out → S X ss (reE a env) (fun o => o = reOut a out)
  | [], ss, env, out, hk, ho => by
    simp only [okBs, List.isEmpty_iff] at hk
    subst hk
    simp only [runB] at ho
    cases ho
    exact s_nil rfl
  | c :: cs, ss, env, out, hk, ho => by
    by_cases hf : ∃ i, c = .frz i
    · obtain ⟨i, rfl⟩ := hf
      simp only [okBs] at hk
      simp only [runB, stepS] at ho
      cases hq : env[i]? with
      | none => rw [hq] at ho; cases ho
      | some q =>
        cases q with
        | none => rw [hq] at ho; cases ho
        | some o =>
          rw [hq] at ho
          cases hat : o.isAt with
          | true => cases o <;> first | cases ho | cases hat
          | false =>
            have ho : runB T E cs (env.set i (some (.per o.fr))) = some out := by cases o <;> first | exact ho | cases hat
            refine s_last (i := i) (o := o) (by rw [re_get, hq, Option.map_some, Option.map_some, re_id hat]) ?_
            have := snd_b h ri hT hB hX hF hk ho
            rw [re_set, Option.map_some, re_per] at this
            exact this
    · by_cases hw : ∃ L, c = .wipe L
      · obtain ⟨L, rfl⟩ := hw
        simp only [okBs] at hk
        simp only [runB, stepS] at ho
        refine s_forget (L := L) ?_
        rw [wipe_re]
        exact snd_b h ri hT hB hX hF hk ho
      by_cases hg : ∃ i π, c = .frzP i π
      · obtain ⟨i, π, rfl⟩ := hg
        simp only [okBs] at hk
        simp only [runB, stepS] at ho
        cases hq : env[i]? with
        | none => rw [hq] at ho; cases ho
        | some q =>
          cases q with
          | none => rw [hq] at ho; cases ho
          | some o =>
            rw [hq] at ho
            simp only at ho
            cases hs : o.sub π with
            | none => rw [hs] at ho; cases ho
            | some o1 =>
              rw [hs] at ho
              by_cases hdt : ∃ ks os, o1 = .dT ks os
              · obtain ⟨ks, os, rfl⟩ := hdt
                simp only at ho
                cases hps : pers os with
                | none => rw [hps] at ho; cases ho
                | some ds =>
                  rw [hps] at ho
                  refine s_lockP (i := i) (o := reO a o) (π := π) (by rw [re_get, hq]; rfl) (by rw [re_sub]; exact hs) hps ?_
                  have := snd_b h ri hT hB hX hF hk ho
                  rw [re_set, Option.map_some, ← put_at rfl] at this
                  exact this
              have ho : runB T E cs (env.set i (some (o.put π (.per o1.fr)))) = some out := by cases o1 <;> first | exact ho | exact absurd ⟨_, _, rfl⟩ hdt
              refine s_lastP (i := i) (o := reO a o) (π := π) (o1 := o1) (by rw [re_get, hq]; rfl) (by rw [re_sub]; exact hs) ?_
              have := snd_b h ri hT hB hX hF hk ho
              rw [re_set, Option.map_some, ← put_at rfl] at this
              exact this
      unfold okBs at hk
      split at hk
      · rename_i hz; cases hz; exact absurd ⟨_, rfl⟩ hf
      · rename_i hz; cases hz; exact absurd ⟨_, _, rfl⟩ hg
      · rename_i hz; cases hz; exact absurd ⟨_, rfl⟩ hw
      · rename_i hz; cases hz
      · rename_i c' cs' _ hz
        cases hz
        split at hk
        · rename_i s ss'
          obtain ⟨k1, k2⟩ := ba2 hk
          simp only [runB] at ho
          split at ho
          · rename_i e1 he1
            refine s_cons (S1.imp (snd_s (a := a) h ri hT hB hX hF k1 he1) fun u hu => ?_)
            subst hu
            exact snd_b h ri hT hB hX hF k2 ho
          · rename_i hn
            refine s_cons (S1.imp (snd_s (a := a) h ri hT hB hX hF k1 ho) fun u hu => ?_)
            subst hu
            cases out with
            | nx e1 => exact absurd ho (hn e1)
            | _ => rfl
        · cases hk
end
/-- the text of a def and its Core agree -/
def FOk (T : Tab) (fi : FI) : Prop := ∃ k, okBs (okS T fi.N k (defScope fi.st)) fi.body (defBody fi.st) = true ∧ FnScope fi.N fi.ps (defScope fi.st) ∧ Bd fi.x fi.qual fi.st fi.ps
/-- what is known of the defs -/
structure DOk (m : Md) (T : Tab) : Prop where
  fns : ∀ (i : Nat) (fi : FI), T.fns[i]? = some fi → FOk T fi ∧ Df m fi.y fi.x fi.qual fi.st
  mts : ∀ (c x : Str) (fi : FI), T.meth c x = some fi → x ≠ "__init__" → FOk T fi ∧ ∃ (f : Addr) (fd : FuncData), Cls m.K (He.ga m.K c) ∧ Meth m.K (He.ga m.K c) x f ∧ FunD m.K fi.x fi.qual (defArgs fi.st) (defBody fi.st) (defScope fi.st) [] [] f fd
  mks : ∀ (c : Str) (fi : FI), T.meth c "__init__" = some fi → FOk T fi ∧ ∃ (f : Addr) (fd : FuncData), Mk m.K (He.ga m.K c) f ∧ m.mg c = some (.ref (He.ga m.K c)) ∧ FunD m.K fi.x fi.qual (defArgs fi.st) (defBody fi.st) (defScope fi.st) [] [] f fd
section
variable {m : Md} {T : Tab} {E : Evs} {n : Nat} {X : Cx} {N : List Str} {sc fs : Scope} {k : Nat} {a : Addr}
theorem re_ent {ds : List D} : reE a (entE N.length ds) = ent N ds := by
  unfold entE ent reE
  rw [List.map_append, List.map_map, List.map_replicate]
  rfl
theorem re_entA {s : Ow} {ds : List D} : reE a (entA N.length s ds) = entM N a s ds := by
  unfold entA entM reE
  rw [List.map_cons, List.map_append, List.map_map, List.map_replicate]
  rfl
theorem outF_of {u : Option Out} {r : Res} (h : rR (outF u) r) : ∃ out, u = some out ∧ ∀ a, RetR r (reOut a out) := by
  unfold outF at h
  split at h
  · refine ⟨_, rfl, fun a => ?_⟩
    cases r with
    | ok o => exact Eq.symm h
    | ex c => exact h.elim
  · refine ⟨_, rfl, fun a => ?_⟩
    cases r with
    | ok o => exact h
    | ex c => exact h.elim
  · refine ⟨_, rfl, fun a => ?_⟩
    cases r with
    | ok o => exact h.elim
    | ex c => exact Eq.symm h
  · exact h.elim
theorem self_of {env : Ev} {s : Ow} (h : self0 env = some s) : (reE a env)[0]? = some (some (.at a s)) := by
  unfold self0 at h
  split at h
  · rename_i b s' he
    cases h
    rw [re_get, he]
    rfl
  · cases h
theorem outM_of {u : Option Out} {r : Rm} (h : rM (outM u) r) : ∃ out, u = some out ∧ ∀ a, RetM a r (reOut a out) := by
  unfold outM at h
  split at h
  · split at h
    · rename_i s hs
      refine ⟨_, rfl, fun a => ?_⟩
      cases r with
      | ok s' o => obtain ⟨rfl, rfl⟩ := h; exact ⟨rfl, self_of hs⟩
      | ex c s' => exact h.elim
    · exact h.elim
  · split at h
    · rename_i s hs
      refine ⟨_, rfl, fun a => ?_⟩
      cases r with
      | ok s' o => obtain ⟨rfl, rfl⟩ := h; exact ⟨rfl, self_of hs⟩
      | ex c s' => exact h.elim
    · exact h.elim
  · split at h
    · rename_i s hs
      refine ⟨_, rfl, fun a => ?_⟩
      cases r with
      | ok s' o => exact h.elim
      | ex c s' => obtain ⟨rfl, rfl⟩ := h; exact ⟨rfl, self_of hs⟩
    · exact h.elim
  · exact h.elim
theorem callFI_of {fi : FI} {ds : List D} {r : Res} (h : rR (callFI T E fi ds) r) : ds.length = fi.ps.length ∧ ∃ out, runB T E fi.body (entE fi.N.length ds) = some out ∧ ∀ a, RetR r (reOut a out) := by
  unfold callFI at h
  split at h
  · rename_i hl; exact ⟨hl, outF_of h⟩
  · exact h.elim
/-- a body -/
theorem snd_f (h : SE m T E n) (ri : RI E) (hT : TOk m T) (hB : SB m T E n) {fi : FI} (hk : okBs (okS T fi.N k (defScope fi.st)) fi.body (defBody fi.st) = true) (hX : Cs X m fi.N (defScope fi.st) (defScope fi.st) n) (hF : Ft X (defScope fi.st)) {ds : List D} {r : Res} (hr : rR (callFI T E fi ds) r) : S X (defBody fi.st) (ent fi.N ds) (RetR r) := by
  obtain ⟨hl, out, h1, h2⟩ := callFI_of hr
  have := snd_b (a := 0) h ri hT hB hX hF hk h1
  rw [re_ent] at this
  exact this.imp fun u hu => by subst hu; exact h2 0
theorem snd_m (h : SE m T E n) (ri : RI E) (hT : TOk m T) (hB : SB m T E n) {fi : FI} (hk : okBs (okS T fi.N k (defScope fi.st)) fi.body (defBody fi.st) = true) (hX : Cs X m fi.N (defScope fi.st) (defScope fi.st) n) (hF : Ft X (defScope fi.st)) {s : Ow} {ds : List D} {r : Rm} (hr : rM (outM (runB T E fi.body (entA fi.N.length s ds))) r) : S X (defBody fi.st) (entM fi.N a s ds) (RetM a r) := by
  obtain ⟨out, h1, h2⟩ := outM_of hr
  have := snd_b (a := a) h ri hT hB hX hF hk h1
  rw [re_entA] at this
  exact this.imp fun u hu => by subst hu; exact h2 a
theorem stepIO_of {c x : Str} {s : Ow} {ds : List D} {r : Rm} (h : rM (stepIO T E c x s ds) r) : ∃ fi, T.meth c x = some fi ∧ ds.length + 1 = fi.ps.length ∧ rM (outM (runB T E fi.body (entA fi.N.length s ds))) r := by
  unfold stepIO at h
  split at h
  · rename_i fi hm
    split at h
    · rename_i hl; exact ⟨fi, hm, hl, h⟩
    · exact h.elim
  · exact h.elim
theorem stepM_of {c x : Str} {d : D} {ds : List D} {r : Res} (h : rR (stepM T E c x d ds) r) : ∃ fi ns xs, T.meth c x = some fi ∧ d = .obj c ns xs ∧ x ∉ ns ∧ x ≠ "__init__" ∧ rR (callFI T E fi (d :: ds)) r := by
  unfold stepM at h
  split at h
  · rename_i c' ns xs
    split at h
    · rename_i hc
      obtain ⟨rfl, hc, hi⟩ := hc
      split at h
      · rename_i fi hm
        exact ⟨fi, ns, xs, hm, rfl, hc, hi, h⟩
      · exact h.elim
    · exact h.elim
  · exact h.elim
/-- one more -/
theorem snd_step (h : SE m T E n) (ri : RI E) (hT : TOk m T) (hD : DOk m T) (hB : SB m T E n) : SE m T (stepE T E) (n + 1) ∧ SB m T (stepE T E) (n + 1) := by
  refine ⟨⟨by show E.k + 1 = n + 1; rw [h.kk], ?_, ?_, ?_, ?_, ?_, ?_⟩, ?_⟩
  · intro X N sc fs k env e c hX hk
    exact snd_o h hT hX hk
  · intro X N sc fs k env e c hX hk
    exact snd_t h hT hX hk
  · intro i fi hfi ds r hr
    obtain ⟨⟨k, hk, Sc, hb⟩, f, fd, F, hm⟩ := hD.fns i fi hfi
    have hE : ∀ ds, (stepE T E).f i ds = callFI T E fi ds := fun ds => by show stepF T E i ds = _; unfold stepF; rw [hfi]
    refine ⟨f, fd, fi.ps, rfl, hm, F.kp, F.bindsN hb, fnOkT F Sc (fun ds r hr => ?_) fun X hX hF ds r hr => ?_⟩
    · rw [hE] at hr; exact (callFI_of hr).1
    · rw [hE] at hr; exact snd_f h ri hT hB hk hX hF hr
  · intro c x d ds r hr
    obtain ⟨fi, ns, xs, hm, rfl, hno, hin, hr⟩ := stepM_of hr
    refine ⟨⟨ns, xs, rfl, hno⟩, ?_⟩
    obtain ⟨⟨k, hk, Sc, hb⟩, f, fd, hC, hM, F⟩ := hD.mts c x fi hm hin
    have hE : ∀ d ds r, rR ((stepE T E).m c x d ds) r → rR (callFI T E fi (d :: ds)) r := fun d ds r hr => by
      obtain ⟨fi', ns', xs', hm', rfl, hno', _, hr⟩ := stepM_of hr
      rw [hm] at hm'; cases hm'
      exact hr
    refine ⟨f, fd, fi.ps, hC, hM, F.bindsN hb, fnOkT F Sc (fun ds r hr => ?_) fun X hX hF ds r hr => ?_⟩
    · obtain ⟨d', ds', rfl, hr⟩ := hr; exact (callFI_of (hE _ _ _ hr)).1
    · obtain ⟨d', ds', rfl, hr⟩ := hr; exact snd_f h ri hT hB hk hX hF (hE _ _ _ hr)
  · intro c x s ds r hin hr
    obtain ⟨fi, hm, hl, hr⟩ := stepIO_of hr
    obtain ⟨⟨k, hk, Sc, hb⟩, f, fd, hC, hM, F⟩ := hD.mts c x fi hm hin
    have hE : ∀ s ds r, rM ((stepE T E).io c x s ds) r → ds.length + 1 = fi.ps.length ∧ rM (outM (runB T E fi.body (entA fi.N.length s ds))) r := fun s ds r hr => by
      obtain ⟨fi', hm', hl', hr⟩ := stepIO_of hr
      rw [hm] at hm'; cases hm'
      exact ⟨hl', hr⟩
    exact ⟨f, fd, fi.ps, hC, hM, F.bindsN hb, fnOkM F Sc (fun s ds r hr => (hE _ _ _ hr).1) fun X hX hF a s ds r hr => snd_m h ri hT hB hk hX hF (hE _ _ _ hr).2⟩
  · intro c s ds r hr
    obtain ⟨fi, hm, hl, hr⟩ := stepIO_of hr
    obtain ⟨⟨k, hk, Sc, hb⟩, f, fd, hC, hM, F⟩ := hD.mks c fi hm
    have hE : ∀ s ds r, rM ((stepE T E).io c "__init__" s ds) r → ds.length + 1 = fi.ps.length ∧ rM (outM (runB T E fi.body (entA fi.N.length s ds))) r := fun s ds r hr => by
      obtain ⟨fi', hm', hl', hr⟩ := stepIO_of hr
      rw [hm] at hm'; cases hm'
      exact ⟨hl', hr⟩
    exact ⟨f, fd, fi.ps, hC, hM, F.bindsN hb, fnOkM F Sc (fun s ds r hr => (hE _ _ _ hr).1) fun X hX hF a s ds r hr => snd_m h ri hT hB hk hX hF (hE _ _ _ hr).2⟩
  · intro X N sc k a env ss cs out hX hF hk ho
    exact snd_b h ri hT hB (hX.mono (Nat.le_succ n)) hF hk ho
theorem se0 : SE m T (evs T 0) 0 ∧ SB m T (evs T 0) 0 := by
  refine ⟨⟨rfl, ?_, ?_, ?_, ?_, ?_, ?_⟩, ?_⟩
  · intro X N sc fs k env e c hX hk; exact trivial
  · intro X N sc fs k env e c hX hk; exact trivial
  · intro i fi hfi ds r hr; exact hr.elim
  · intro c x d ds r hr; exact hr.elim
  · intro c x s ds r hin hr; exact hr.elim
  · intro c s ds r hr; exact hr.elim
  · intro X N sc k a env ss cs out hX hF hk ho; cases ho
theorem se (hT : TOk m T) (hD : DOk m T) : ∀ n, SE m T (evs T n) n ∧ SB m T (evs T n) n
  | 0 => se0
  | n + 1 => snd_step (se hT hD n).1 (ri_evs n) hT hD (se hT hD n).2
end
end Pu

set_option Elab.async false
set_option linter.all false
set_option autoImplicit false
set_option maxRecDepth 100000
set_option maxHeartbeats 1000001
namespace Pu
open PySem L2
/-! ### the head: what is asked of the written part, out of the table -/
def FI.dd (fi : FI) : He.DefD := ⟨(fi.y, none), fi.x, fi.qual, defArgs fi.st, defBody fi.st, defScope fi.st, [], []⟩
def FI.dm (c m : Str) (fi : FI) : He.DefD := ⟨(c, some m), fi.x, fi.qual, defArgs fi.st, defBody fi.st, defScope fi.st, [], []⟩
def Tab.fnL (T : Tab) : List He.DefD := T.fns.map FI.dd ++ ((T.cls.flatMap fun k => k.meths.map fun q => q.2.dm k.c q.1) ++ T.excs.flatMap fun q => match q.ini with | some fi => [fi.dm q.c "__init__"] | none => [])
def conFa : Str × D → He.Fa
  | (x, .int i) => .int x i
  | (x, .str z) => .str x z
  | (x, _) => .glo x
def methFa (c : Str) (q : Str × FI) : He.Fa := if q.1 = "__init__" then .mkr c else .meth c q.1
def Tab.faL (T : Tab) : List He.Fa := T.fns.map (fun fi => .glo fi.y) ++ (T.blts.map .free ++ (T.cls.flatMap (fun k => .cls k.c :: .glo k.c :: (k.fields.map (.noat k.c) ++ k.meths.map (methFa k.c))) ++ (T.own.map .glo ++ (T.excs.flatMap (fun q => .glo q.c :: .keep q.c :: .exm q.c T.par true :: q.fl.map (.noat q.c)) ++ (T.cons.map conFa ++ [.glo T.par])))))
def dvs : List D → Option (List He.Dv)
  | [] => some []
  | .int i :: r => (match dvs r with | some k => some (.int i :: k) | none => none)
  | .str x :: r => (match dvs r with | some k => some (.str x :: k) | none => none)
  | _ :: _ => none
def conB1 (K : PySem.W.Frag) : Str × D → Bool
  | (_, .int _) => true
  | (_, .str _) => true
  | (x, .ft ds) => (match dvs ds with | some k => He.tupB K x k | none => false)
  | _ => false
def insB (K : PySem.W.Frag) (c : Str) : Bool := (He.Fa.cls c).ok K && (He.eqO (PySem.W.findIn K (.ref (He.ga K c)) "__class__") (some (some (.builtin "object.__class__"))) && (He.eqO (PySem.W.specialIn K (.builtin "object.__class__") "__get__") (some (some (.builtin "getset_descriptor.__get__"))) && (decide (PySem.W.takesIn K (.builtin "object.__class__") = some true) && decide (PySem.W.mroIn K (He.ga K c) (.type "object") = some true))))
def excB (K : PySem.W.Frag) (C : Addr) : Bool := He.eqO (PySem.W.findIn K (.ref C) "__getattribute__") (some (some (.builtin "BaseException.__getattribute__"))) && (He.eqO (PySem.W.findIn K (.ref C) "__getattr__") (some none) && (decide (PySem.W.subIn K (.ref C) (.type "BaseException") = some true) && (PySem.W.hasDictIn K C && (He.eqO (PySem.W.findIn K (.ref C) "__class__") (some (some (.builtin "object.__class__"))) && (He.eqO (PySem.W.specialIn K (.builtin "object.__class__") "__get__") (some (some (.builtin "getset_descriptor.__get__"))) && (decide (PySem.W.takesIn K (.builtin "object.__class__") = some true) && (decide (PySem.W.mroIn K C (.type "object") = some true) && decide (PySem.W.typeIn K (.ref C) = some (.type "type")))))))))
def oexB (K : PySem.W.Frag) (C : Addr) : Bool := (match K.lookup C with
  | some ⟨.type "type", _, .cls cd, sl⟩ => (match cd.mro, sl.toList with
    | .ref C' :: bm, [_, _, _, _, some (.builtin n), _] => C' == C && (n == "ValueError.__new__" && (cd.hasDict && (!cd.hasDel && PySem.HandSPX.refsVE bm)))
    | _, _ => false)
  | _ => false) && He.eqO (PySem.W.findIn K (.ref C) "__setattr__") (some (some (.builtin "object.__setattr__")))
def xiKB (K : PySem.W.Frag) (q : XI) : Bool := match q.ini with
  | none => PySem.W.excIn K (He.ga K q.c) veBm "ValueError.__new__"
  | some _ => oexB K (He.ga K q.c) && (He.eqO (PySem.W.findIn K (.ref (He.ga K q.c)) "__init__") (some (some (.ref (He.ma K (He.ga K q.c) "__init__")))) && decide (PySem.W.typeIn K (.ref (He.ma K (He.ga K q.c) "__init__")) = some (.type "function")))
def perB (K : PySem.W.Frag) (P : Addr) : Bool := He.eqO (PySem.W.specialIn K (.ref P) "__getattribute__") (some (some (.builtin "type.__getattribute__"))) && (PySem.W.readsIn K P (.type "type") && (match PySem.W.findCls K (.ref P) (.type "type") "__init__" with | some (.val (.builtin n)) => n == "ValueError.__init__" | _ => false))
def Tab.exB (T : Tab) (K : PySem.W.Frag) : Bool := T.cons.all (conB1 K) && (T.ins.all (insB K) && ((T.isa.all fun q => decide (PySem.W.kitOne K (tyVal K q.1) (tyVal K q.2.1) = some q.2.2)) && ((T.excs.all fun q => excB K (He.ga K q.c) && xiKB K q) && (T.excs.isEmpty || perB K (He.ga K T.par)))))
/-- what the names reach in n steps, and the statics -/
def asP (g : Addr → Option Obj) (n : Nat) : List Addr := He.asD g n ++ [cStatics]
abbrev AlP : Type := He.AlD × Bool
def obsP (n : Nat) (T : Tab) (g : Addr → Option Obj) : AlP := (He.obsD T.faL T.fnL (He.frT g (asP g n)), T.exB (He.frT g (asP g n)))
def hookP (n : Nat) (T : Tab) : PySem.W.Hook where
  α := AlP
  obs := fun s => obsP n T s.heap.get?
  val := fun _ => (He.valD T.fnL, true)
  says := fun _ h => ∃ K : PySem.W.Frag, K.In h ∧ He.SaysD T.faL T.fnL K ∧ T.exB K = true
  of := fun _ _ e => ⟨_, He.frT_in, congrArg (fun z : AlP => z.1) e, congrArg (fun z : AlP => z.2) e⟩
  keeps := fun _ _ _ ⟨K, hK, c⟩ k => ⟨K, PySem.W.Frag.In.keeps hK k, c⟩
theorem obsP_eq {n : Nat} {T : Tab} {g : Addr → Option Obj} {s : Shared} (h : ∀ a, g a = s.heap.get? a) : obsP n T g = (hookP n T).obs s := by
  have e : g = s.heap.get? := funext h
  subst e
  rfl
/-- what does not ask the written part -/
structure Sta (T : Tab) : Prop where
  fns : ∀ fi ∈ T.fns, FOk T fi
  mts : ∀ k ∈ T.cls, ∀ q ∈ k.meths, FOk T q.2
  xis : ∀ q ∈ T.excs, ∀ fi, q.ini = some fi → xiB fi.N (defScope fi.st) T.par (defBody fi.st) q.fl = true ∧ FnScope fi.N fi.ps (defScope fi.st) ∧ Bd fi.x fi.qual fi.st fi.ps ∧ fi.ps.length = q.fl.length + 1 ∧ q.fl ≠ [] ∧ q.fl.length ≤ 900 ∧ q.fl.Nodup
theorem oexB_ok {K : PySem.W.Frag} {C : Addr} (h : oexB K C = true) (h1 : PySem.W.subIn K (.ref C) (.type "BaseException") = some true) (h2 : PySem.W.typeIn K (.ref C) = some (.type "type")) (h3 : PySem.W.keepIn K (.ref C) = true) : OexC K C := by
  obtain ⟨h0, hs⟩ := Bool.and_eq_true_iff.mp h
  refine ⟨?_, He.eqO_ok hs, h1, h2, h3⟩
  split at h0
  · rename_i dd cd sl ho
    split at h0
    · rename_i C' bm k0 k1 k2 k3 n k5 hm hs
      simp only [Bool.and_eq_true, beq_iff_eq, Bool.not_eq_true'] at h0
      obtain ⟨rfl, rfl, hd, hdel, hr⟩ := h0
      obtain ⟨nm, bs, mro, ns, qn, hdd, sn, sub, ab, col, del⟩ := cd
      dsimp only at hm hdel hd
      subst hm hdel hd
      have hsl : sl = #[k0, k1, k2, k3, some (.builtin "ValueError.__new__"), k5] := by
        obtain ⟨l⟩ := sl
        simp only at hs
        rw [hs]
      subst hsl
      exact ⟨nm, qn, ns, bs, bm, sn, sub, ab, col, dd, k0, k1, k2, k3, k5, ho, hr⟩
    · cases h0
  · cases h0
theorem rps_dvs {K : PySem.W.Frag} {G : Hp} : ∀ {ds : List D} {k : List He.Dv}, dvs ds = some k → Rps K G ds (k.map (He.Dv.v K))
  | [], k, h => by simp only [dvs] at h; cases h; simp only [List.map_nil, Rps]
  | d :: ds, k, h => by
    cases d <;> simp only [dvs] at h <;> first | (cases h; done) | skip
    · split at h
      · rename_i k' hk; cases h; simp only [List.map_cons, Rps]; exact ⟨_, _, rfl, by simp only [He.Dv.v, Rp], rps_dvs hk⟩
      · cases h
    · split at h
      · rename_i k' hk; cases h; simp only [List.map_cons, Rps]; exact ⟨_, _, rfl, by simp only [He.Dv.v, Rp], rps_dvs hk⟩
      · cases h
theorem meth_mem {T : Tab} {c x : Str} {fi : FI} (h : T.meth c x = some fi) : ∃ k ∈ T.cls, k.c = c ∧ (x, fi) ∈ k.meths := by
  unfold Tab.meth at h
  split at h
  · rename_i k hk
    split at h
    · rename_i q hq
      cases h
      have h2 := List.find?_some hq
      simp only [decide_eq_true_eq] at h2
      have h3 := List.find?_some hk
      simp only [decide_eq_true_eq] at h3
      refine ⟨k, List.mem_of_find?_eq_some hk, h3, ?_⟩
      have := List.mem_of_find?_eq_some hq
      rw [← h2]; exact this
    · cases h
  · cases h
theorem head_ok {T : Tab} {P : Program} {w : World} {K : PySem.W.Frag} {h : Heap} {mg : Str → Option Value} {base : Heap} (st : Sta T) (X : K.In h) (G : h.Ns mainGlobals mg) (cd : He.SaysD T.faL T.fnL K) (hx : T.exB K = true) : TOk ⟨P, w, K, mg, base⟩ T ∧ DOk ⟨P, w, K, mg, base⟩ T := by
  unfold Tab.exB at hx
  simp only [Bool.and_eq_true, List.all_eq_true] at hx
  obtain ⟨x1, x2, x3, x4, x5⟩ := hx
  have hfa : ∀ {f : He.Fa}, f ∈ T.faL → f.ok K = true := fun hf => cd.facts hf
  have fn1 : ∀ fi ∈ T.fns, Df ⟨P, w, K, mg, base⟩ fi.y fi.x fi.qual fi.st := fun fi hfi => by
    obtain ⟨fd, F⟩ := cd.defs (d := fi.dd) (by unfold Tab.fnL; exact List.mem_append_left _ (List.mem_map.mpr ⟨fi, hfi, rfl⟩))
    exact ⟨_, fd, F, He.glo_ok X G (hfa (by unfold Tab.faL; exact List.mem_append_left _ (List.mem_map.mpr ⟨fi, hfi, rfl⟩)))⟩
  have cl1 : ∀ k ∈ T.cls, ∀ f ∈ (.cls k.c :: .glo k.c :: (k.fields.map (.noat k.c) ++ k.meths.map (methFa k.c)) : List He.Fa), f.ok K = true := fun k hk f hf => hfa (by
    unfold Tab.faL
    exact List.mem_append_right _ (List.mem_append_right _ (List.mem_append_left _ (List.mem_flatMap.mpr ⟨k, hk, hf⟩))))
  have ex1 : ∀ q ∈ T.excs, ∀ f ∈ (.glo q.c :: .keep q.c :: .exm q.c T.par true :: q.fl.map (.noat q.c) : List He.Fa), f.ok K = true := fun q hq f hf => hfa (by
    unfold Tab.faL
    exact List.mem_append_right _ (List.mem_append_right _ (List.mem_append_right _ (List.mem_append_right _ (List.mem_append_left _ (List.mem_flatMap.mpr ⟨q, hq, hf⟩))))))
  have md : ∀ k ∈ T.cls, ∀ q ∈ k.meths, ∃ fd, FunD K q.2.x q.2.qual (defArgs q.2.st) (defBody q.2.st) (defScope q.2.st) [] [] (He.ma K (He.ga K k.c) q.1) fd := fun k hk q hq =>
    cd.defs (d := q.2.dm k.c q.1) (by unfold Tab.fnL; exact List.mem_append_right _ (List.mem_append_left _ (List.mem_flatMap.mpr ⟨k, hk, List.mem_map.mpr ⟨q, hq, rfl⟩⟩)))
  have hpar : mg T.par = some (.ref (He.ga K T.par)) := He.glo_ok X G (hfa (by
    unfold Tab.faL
    exact List.mem_append_right _ (List.mem_append_right _ (List.mem_append_right _ (List.mem_append_right _ (List.mem_append_right _ (List.mem_append_right _ List.mem_cons_self)))))))
  refine ⟨⟨?_, ?_, ?_, ?_, fun _ => hpar, ?_, ?_, ?_, ?_⟩, ⟨?_, ?_, ?_⟩⟩
  · intro i q hq
    have hm := List.mem_of_getElem? hq
    have hc := x1 q hm
    have hf := hfa (f := conFa q) (by
      unfold Tab.faL
      exact List.mem_append_right _ (List.mem_append_right _ (List.mem_append_right _ (List.mem_append_right _ (List.mem_append_right _ (List.mem_append_left _ (List.mem_map.mpr ⟨q, hm, rfl⟩)))))))
    obtain ⟨x, d⟩ := q
    cases d <;> first | (simp only [conB1] at hc; cases hc; done) | skip
    · rename_i i
      obtain ⟨t, ht⟩ := He.int_ok X G (x := x) (i := i) hf
      exact ⟨.int i, _, ht, ⟨t, rfl⟩, fun G => by simp only [Rp]⟩
    · rename_i z
      obtain ⟨t, ht⟩ := He.str_ok X G (x := x) (z := z) hf
      exact ⟨.str z, _, ht, ⟨t, rfl⟩, fun G => by simp only [Rp]⟩
    · rename_i ds
      simp only [conB1] at hc
      split at hc
      · rename_i k hk
        refine ⟨.ref (He.ga K x), _, He.glo_ok X G (x := x) hf, rfl, fun G => ?_⟩
        simp only [Rp]
        exact ⟨_, _, rfl, He.tupB_ok hc G, rps_dvs hk⟩
      · cases hc
  · intro x hx
    exact He.free_ok X G (hfa (by
      unfold Tab.faL
      exact List.mem_append_right _ (List.mem_append_left _ (List.mem_map.mpr ⟨x, hx, rfl⟩))))
  · intro k hk
    exact ⟨He.cls_ok (cl1 k hk _ List.mem_cons_self), fun f hf => He.noat_ok (cl1 k hk _ (List.mem_cons_of_mem _ (List.mem_cons_of_mem _ (List.mem_append_left _ (List.mem_map.mpr ⟨f, hf, rfl⟩)))))⟩
  · intro i fi hfi
    have hm := List.mem_of_getElem? hfi
    obtain ⟨f, fd, F, hmg⟩ := fn1 fi hm
    obtain ⟨k, _, _, hb⟩ := st.fns fi hm
    exact ⟨f, fd, fi.ps, rfl, hmg, F.kp, F.bindsN hb, ⟨fun _ _ _ _ ⟨_, _, _, _, _, z, _⟩ => z.elim, fun _ _ _ _ _ _ _ _ _ _ _ _ _ ⟨_, _, _, _, _, z, _⟩ => z.elim⟩⟩
  · intro x hx
    exact He.glo_ok X G (hfa (by
      unfold Tab.faL
      exact List.mem_append_right _ (List.mem_append_right _ (List.mem_append_right _ (List.mem_append_left _ (List.mem_map.mpr ⟨x, hx, rfl⟩))))))
  · intro x hx
    have := x2 x hx
    unfold insB at this
    simp only [Bool.and_eq_true, decide_eq_true_eq] at this
    obtain ⟨a1, a2, a3, a4, a5⟩ := this
    exact fun H a dx fs h => TyOf.ins h (He.cls_ok a1) (He.eqO_ok a2) (He.eqO_ok a3) a4 a5
  · intro q hq
    exact of_decide_eq_true (x3 q hq)
  · intro q hq
    obtain ⟨b1, b2⟩ := x4 q hq
    unfold excB at b1
    simp only [Bool.and_eq_true, decide_eq_true_eq] at b1
    obtain ⟨a1, a2, a3, a4, a5, a6, a7, a8, a9⟩ := b1
    have hkp : PySem.W.keepIn K (.ref (He.ga K q.c)) = true := He.keep_ok (ex1 q hq _ (List.mem_cons_of_mem _ List.mem_cons_self))
    refine ⟨⟨He.glo_ok X G (ex1 q hq _ List.mem_cons_self), hkp, a3, a9⟩, ⟨He.eqO_ok a1, He.eqO_ok a2, a3, a4, He.eqO_ok a5, He.eqO_ok a6, a7, a8⟩, ⟨He.eqO_ok a1, He.eqO_ok a2, a3, a4⟩, He.exm_ok (ex1 q hq _ (List.mem_cons_of_mem _ (List.mem_cons_of_mem _ List.mem_cons_self))), fun f hf => He.noat_ok (ex1 q hq _ (List.mem_cons_of_mem _ (List.mem_cons_of_mem _ (List.mem_cons_of_mem _ (List.mem_map.mpr ⟨f, hf, rfl⟩))))), ?_⟩
    unfold XiK
    unfold xiKB at b2
    split at b2
    · rename_i hi; try rw [hi]
      exact b2
    · rename_i fi hi
      try rw [hi]
      simp only [Bool.and_eq_true, decide_eq_true_eq] at b2
      obtain ⟨c1, c2, c3⟩ := b2
      obtain ⟨s1, s2, s3, s4, s5, s6, s7⟩ := st.xis q hq fi hi
      obtain ⟨fd, F⟩ := cd.defs (d := fi.dm q.c "__init__") (by
        unfold Tab.fnL
        refine List.mem_append_right _ (List.mem_append_right _ (List.mem_flatMap.mpr ⟨q, hq, ?_⟩))
        rw [hi]; exact List.mem_cons_self)
      have hper : PEr K (He.ga K T.par) := by
        have hne : T.excs.isEmpty = false := by
          cases hE : T.excs with
          | nil => rw [hE] at hq; cases hq
          | cons _ _ => rfl
        rw [hne, Bool.false_or] at x5
        unfold perB at x5
        simp only [Bool.and_eq_true] at x5
        obtain ⟨p1, p2, p3⟩ := x5
        refine ⟨He.eqO_ok p1, p2, ?_⟩
        split at p3
        · rename_i n hn; rw [hn, beq_iff_eq.mp p3]
        · cases p3
      exact ⟨oexB_ok c1 a3 a9 hkp, s5, s6, s7, _, fd, He.eqO_ok c2, c3, F.bindsN s3, fnOkX (m := ⟨P, w, K, mg, base⟩) (k := 0) F s2 hper hpar s1 s4⟩
  · intro i fi hfi
    have hm := List.mem_of_getElem? hfi
    exact ⟨st.fns fi hm, fn1 fi hm⟩
  · intro cn x fi hfi hne
    obtain ⟨k, hk, rfl, hq⟩ := meth_mem hfi
    obtain ⟨fd, F⟩ := md k hk (x, fi) hq
    have hme := cl1 k hk (methFa k.c (x, fi)) (List.mem_cons_of_mem _ (List.mem_cons_of_mem _ (List.mem_append_right _ (List.mem_map.mpr ⟨(x, fi), hq, rfl⟩))))
    unfold methFa at hme
    rw [if_neg hne] at hme
    exact ⟨st.mts k hk (x, fi) hq, _, fd, He.cls_ok (cl1 k hk _ List.mem_cons_self), He.meth_ok hme, F⟩
  · intro cn fi hfi
    obtain ⟨k, hk, rfl, hq⟩ := meth_mem hfi
    obtain ⟨fd, F⟩ := md k hk (_, fi) hq
    have hme := cl1 k hk (methFa k.c (_, fi)) (List.mem_cons_of_mem _ (List.mem_cons_of_mem _ (List.mem_append_right _ (List.mem_map.mpr ⟨(_, fi), hq, rfl⟩))))
    unfold methFa at hme
    rw [if_pos rfl] at hme
    exact ⟨st.mts k hk (_, fi) hq, _, fd, He.mkr_ok hme, He.glo_ok X G (cl1 k hk _ (List.mem_cons_of_mem _ List.mem_cons_self)), F⟩
/-- a law -/
theorem FnOk.calm {P : Program} {w : World} {K : PySem.W.Frag} {mg : Str → Option Value} {base : Heap} {k : Nat} {f : Addr} {fd : FuncData} {ps : List Str} {sp : Sp} (F : L2.FnOk P w K mg base (L2.CX P w) k f fd ps sp) : L2.FnOk P w K mg base (fun _ _ _ _ _ _ => False) k f fd ps (fun vs H Q _ => sp vs H Q fun _ _ _ => False) :=
  ⟨fun vs H Q E h => F.len vs H Q _ h, fun A outer s H args us vs Q E hr he hb hv hs => codeAny_mono (F.run A outer s H args us vs Q _ hr he hb hv hs) fun r s' h => by
    cases r with
    | error e => obtain ⟨_, _, _, _, _, _, _, _, _, _, _, _, z⟩ := h; exact z.elim
    | ok fl => cases fl <;> exact h⟩
end Pu

set_option Elab.async false
set_option linter.all false
set_option autoImplicit false
set_option maxRecDepth 100000
set_option maxHeartbeats 1000001
namespace Pu
open PySem L2
/-- a law by its table -/
theorem law_F {T : Tab} (st : Sta T) {i n : Nat} {fi : FI} {x : Str} (hi : T.fns[i]? = some fi) (hy : fi.y = "law") (hp : fi.ps = [x]) (hc : ∀ ns : List Int, ns.length ≤ 63 → callFI T (evs T n) fi [.fz (ns.map D.int)] = .ok (.per (.bl true)))
    {P : Program} {w : World} {K : PySem.W.Frag} {h : Heap} {mg : Str → Option Value} {f : Addr} (X : K.In h) (G : h.Ns mainGlobals mg) (hmg : mg ("law" : Str) = some (.ref f)) (c : He.SaysD T.faL T.fnL K) (hx : T.exB K = true) :
    ∃ (fd : FuncData) (sp : Sp), (∀ (s : Shared) (u : Value), BindsTo s fd ⟨[u], []⟩ [(x, u)]) ∧
      (∀ (H : Hp) (a : Addr) (ns : List Int), ns.length ≤ 63 → Only H → SqL K H a (ns.map V.int) → sp [.ref a] H (fun v _ => v = .bl true) fun _ _ _ => False) ∧
      ∀ base : Heap, K.In base → base.Ns mainGlobals mg → L2.FnOk P w K mg base (fun _ _ _ _ _ _ => False) (n + 1) f fd [x] sp := by
  have hm := List.mem_of_getElem? hi
  obtain ⟨fd, F⟩ := c.defs (d := fi.dd) (by unfold Tab.fnL; exact List.mem_append_left _ (List.mem_map.mpr ⟨fi, hm, rfl⟩))
  have hg : mg fi.y = some (.ref (He.ga K fi.y)) := He.glo_ok X G (c.facts (by unfold Tab.faL; exact List.mem_append_left _ (List.mem_map.mpr ⟨fi, hm, rfl⟩)))
  have ef : He.fAd K (fi.y, none) = f := by
    rw [hy] at hg ⊢
    have := hmg.symm.trans hg
    cases this
    rfl
  have F : FunD K fi.x fi.qual (defArgs fi.st) (defBody fi.st) (defScope fi.st) [] [] f fd := by rw [← ef]; exact F
  obtain ⟨k, hk, Sc, hb⟩ := st.fns fi hm
  rw [hp] at hb Sc
  have b := F.bindsA hb
  refine ⟨fd, fun vs H Q _ => spP K (fun ds r => rR (callFI T (evs T n) fi ds) r) vs H Q (fun _ _ _ => False), fun s v => b s [v] rfl, fun H a ns hl _ hS => ?_, fun base _ _ => ?_⟩
  · refine ⟨H, [.fz (ns.map D.int)], .ok (.per (.bl true)), ⟨fun _ _ z => z, fun _ _ z => z⟩, ?_, ?_, fun v G' H' fp _ r _ _ => ?_⟩
    · simp only [Rps, Rp]
      exact ⟨.ref a, [], rfl, ⟨a, ns.map V.int, rfl, hS, Rps.of_ints ns⟩, rfl⟩
    · show rR (callFI T (evs T n) fi [.fz (ns.map D.int)]) _
      rw [hc ns hl]; rfl
    · simp only [RO, Rp] at r
      exact r.2
  · obtain ⟨hT, hD⟩ := head_ok (P := P) (w := w) (base := base) st X G c hx
    obtain ⟨h1, h2⟩ := se hT hD n
    refine FnOk.calm (fnOkT (m := ⟨P, w, K, mg, base⟩) F Sc (fun ds r hr => ?_) fun X hX hF ds r hr => snd_f h1 (ri_evs n) hT h2 hk hX hF hr)
    rw [(callFI_of hr).1, hp]
end Pu

set_option Elab.async false
set_option linter.all false
set_option autoImplicit false
set_option maxRecDepth 100000
namespace Pu
open PySem
/-! ### steps for simp -/
section
variable {T : Tab} {n : Nat}
theorem evs_o {env : Ev} {c : CE} : (evs T (n + 1)).o env c = stepO T (evs T n) env c := rfl
theorem evs_t {env : Ev} {c : CE} : (evs T (n + 1)).t env c = stepT (evs T n) env c := rfl
theorem evs_f {i : Nat} {ds : List D} : (evs T (n + 1)).f i ds = stepF T (evs T n) i ds := rfl
theorem evs_m {c m : Str} {d : D} {ds : List D} : (evs T (n + 1)).m c m d ds = stepM T (evs T n) c m d ds := rfl
theorem evs_io {c m : Str} {s : Ow} {ds : List D} : (evs T (n + 1)).io c m s ds = stepIO T (evs T n) c m s ds := rfl
theorem evs_b {env : Ev} {cs : List CS} : (evs T (n + 1)).b env cs = runB T (evs T n) cs env := rfl
theorem evs_k : (evs T n).k = n := by
  induction n with
  | zero => rfl
  | succ n ih => show (evs T n).k + 1 = n + 1; rw [ih]
end
theorem call_fn {T : Tab} {n i : Nat} {fi : FI} {ds : List D} (h : T.fns[i]? = some fi) : (evs T (n + 1)).f i ds = callFI T (evs T n) fi ds := by
  show stepF T (evs T n) i ds = _
  unfold stepF
  rw [h]
theorem runB_nx {T : Tab} {E : Evs} {s : CS} {r : List CS} {env e : Ev} (h : stepS T E env s = some (.nx e)) : runB T E (s :: r) env = runB T E r e := by simp only [runB, h]
theorem runB_ex {T : Tab} {E : Evs} {s : CS} {r : List CS} {env e : Ev} {c : Xc} (h : stepS T E env s = some (.ex c e)) : runB T E (s :: r) env = some (.ex c e) := by simp only [runB, h]
theorem runB_rt {T : Tab} {E : Evs} {s : CS} {r : List CS} {env e : Ev} {o : Ow} (h : stepS T E env s = some (.rt o e)) : runB T E (s :: r) env = some (.rt o e) := by simp only [runB, h]
end Pu

set_option Elab.async false
set_option linter.all false
set_option autoImplicit false
set_option maxRecDepth 100000
namespace Pu
open PySem
/-! ### plain facts about lists of data -/
theorem cutD_take (xs : List D) (j : Nat) : cutD xs none (some (j : Int)) = xs.take j := by
  unfold cutD
  rw [HT.sIx_none, HT.sIx_nat, List.drop_zero, Nat.sub_zero, ← List.take_take, List.take_length]
theorem cutD_drop (xs : List D) (j : Nat) : cutD xs (some (j : Int)) none = xs.drop j := by
  unfold cutD
  rw [HT.sIx_none, HT.sIx_nat]
  by_cases h : j ≤ xs.length
  · rw [Nat.min_eq_left h, List.take_of_length_le (by simp)]
  · rw [Nat.min_eq_right (by omega), List.drop_length, List.drop_of_length_le (by omega), List.take_nil]
theorem cutD_mem {xs : List D} {lo hi : Option Int} {d : D} (h : d ∈ cutD xs lo hi) : d ∈ xs := by
  unfold cutD at h
  exact List.mem_of_mem_drop (List.mem_of_mem_take h)
theorem cutD_len (xs : List D) (lo hi : Option Int) : (cutD xs lo hi).length ≤ xs.length := by
  unfold cutD
  simp only [List.length_take, List.length_drop]
  omega
theorem atI_nat {α : Type} (xs : List α) (j : Nat) : L2.atI xs (j : Int) = xs[j]? := by
  unfold L2.atI L2.ixN
  by_cases h : j < xs.length
  · rw [if_pos (by omega), if_pos (by exact_mod_cast h)]
    simp
  · rw [if_pos (by omega), if_neg (by exact_mod_cast h), List.getElem?_eq_none (by omega)]
    rfl
theorem atI_some {α : Type} {xs : List α} {i : Int} (h0 : 0 ≤ i) (h1 : i < xs.length) : ∃ x, x ∈ xs ∧ L2.atI xs i = some x := by
  obtain ⟨j, rfl⟩ := Int.eq_ofNat_of_zero_le h0
  have hj : j < xs.length := by exact_mod_cast h1
  exact ⟨xs[j], List.getElem_mem hj, by rw [atI_nat, List.getElem?_eq_getElem hj]⟩
theorem isInts {xs : List D} : (∀ d ∈ xs, ∃ i, d = .int i) ↔ ∃ ns : List Int, xs = ns.map D.int := by
  constructor
  · intro h
    induction xs with
    | nil => exact ⟨[], rfl⟩
    | cons d ds ih =>
      obtain ⟨i, rfl⟩ := h d List.mem_cons_self
      obtain ⟨ns, rfl⟩ := ih fun d hd => h d (List.mem_cons_of_mem _ hd)
      exact ⟨i :: ns, rfl⟩
  · rintro ⟨ns, rfl⟩ d hd
    obtain ⟨i, _, rfl⟩ := List.mem_map.mp hd
    exact ⟨i, rfl⟩
theorem dints_map (ns : List Int) : dints (ns.map D.int) = some ns := by
  induction ns with
  | nil => rfl
  | cons n ns ih => simp [dints, ih]
theorem nls_map {α : Type} {f : α → D} (xs : List α) (h : ∀ x, (f x).nl = true) : nls (xs.map f) = true := by
  induction xs with
  | nil => rfl
  | cons x xs ih => simp [nls, h, ih]
theorem onls_per (ds : List D) : onls (ds.map .per) = nls ds := by
  induction ds with
  | nil => rfl
  | cons d ds ih => simp [onls, nls, Ow.nl, ih]
theorem eqvI (a b : Int) : D.eqv (.int a) (.int b) = decide (a = b) := by rw [eqv_int, Bool.eq_iff_iff]; simp
end Pu
namespace Pu
open PySem
theorem forE_inv {E : Evs} {t : CT} {body : List CS} (P : Ev → Prop) : ∀ (ds : List D) (env : Ev), (∀ d ∈ ds, ∀ env, P env → ∃ e1 e2, t.setO env (.per d) = some e1 ∧ E.b e1 body = some (.nx e2) ∧ P e2) → P env → ∃ e2, forE E t body ds env = some (.nx e2) ∧ P e2
  | [], env, _, p => ⟨env, rfl, p⟩
  | d :: ds, env, h, p => by
    obtain ⟨e1, e2, h1, h2, h3⟩ := h d List.mem_cons_self env p
    obtain ⟨e3, h4, h5⟩ := forE_inv P ds e2 (fun x hx => h x (List.mem_cons_of_mem _ hx)) h3
    exact ⟨e3, by simp only [forE, h1, h2, h4], h5⟩
end Pu
namespace Pu
theorem frs_app (a b : List Ow) : frs (a ++ b) = frs a ++ frs b := by rw [frs_eq, frs_eq, frs_eq, List.map_append]
end Pu
namespace Pu
open PySem
/-- a comprehension without a condition, turn by turn -/
theorem lc_map {α : Type} {E : Evs} {env : Ev} {t : CT} {elt : CE} (f : α → D) (g : α → Ow) : ∀ xs : List α, (∀ x ∈ xs, ∃ env', t.setO env (.per (f x)) = some env' ∧ E.o env' elt = .ok (g x)) → E.lc env t [] elt (xs.map f) = .ok (xs.map g)
  | [], _ => rfl
  | x :: xs, h => by
    obtain ⟨e1, h1, h2⟩ := h x List.mem_cons_self
    have ih := lc_map f g xs fun y hy => h y (List.mem_cons_of_mem _ hy)
    simp only [List.map_cons, Evs.lc, h1, Evs.ts, h2, ih]
/-- a loop whose slots are told by a state -/
theorem forE_state {α σ : Type} {E : Evs} {t : CT} {body : List CS} (f : α → D) (st : σ → Ev) (g : σ → α → σ) : ∀ (xs : List α) (s : σ), (∀ x ∈ xs, ∀ s, ∃ e1, t.setO (st s) (.per (f x)) = some e1 ∧ E.b e1 body = some (.nx (st (g s x)))) → forE E t body (xs.map f) (st s) = some (.nx (st (xs.foldl g s)))
  | [], s, _ => rfl
  | x :: xs, s, h => by
    obtain ⟨e1, h1, h2⟩ := h x List.mem_cons_self s
    have ih := forE_state f st g xs (g s x) fun y hy => h y (List.mem_cons_of_mem _ hy)
    simp only [List.map_cons, forE, h1, h2, ih, List.foldl_cons]
theorem frs_map {α : Type} (f : α → Ow) (xs : List α) : frs (xs.map f) = xs.map fun x => (f x).fr := by rw [frs_eq, List.map_map]; rfl
end Pu

set_option Elab.async false
set_option linter.all false
set_option autoImplicit false
set_option maxRecDepth 100000
set_option maxHeartbeats 0
namespace Lw
open PySem L2 Pu
def top (i : Nat) : Stmt := PySem.Challenge.pw_foldpress_k05_stacks_folded.main.body.getD i (.Pass ⟨0, 0, 0, 0⟩)
abbrev i_is_among_stack : Nat := 0
abbrev i_next_leaf : Nat := 1
abbrev i_folded_line : Nat := 2
abbrev i_across : Nat := 3
abbrev i_folded_stack : Nat := 4
abbrev i_is_whole : Nat := 5
abbrev i_is_among_words : Nat := 6
abbrev i_is_size : Nat := 7
abbrev i_folded_size : Nat := 8
abbrev i_l_drawn : Nat := 9
abbrev i_l_folds : Nat := 10
abbrev i_l_scheme : Nat := 11
abbrev i_l_same : Nat := 12
abbrev i_l_begun : Nat := 13
abbrev i_l_moved : Nat := 14
abbrev i_l_size : Nat := 15
abbrev i_l_at : Nat := 16
abbrev i_l_leaves : Nat := 17
abbrev i_l_section : Nat := 18
abbrev i_l_stands : Nat := 19
abbrev i_law : Nat := 20
abbrev j_MOST_SIDE_stack : Nat := 0
abbrev j_MOST_CELLS_stack : Nat := 1
abbrev j_BY_COLUMNS : Nat := 2
abbrev j_BY_ROWS : Nat := 3
abbrev j_FROM_BEHIND : Nat := 4
abbrev j_WAYS_stack : Nat := 5
abbrev j_MOST_SIDE_scheme : Nat := 6
abbrev j_MOST_CELLS_scheme : Nat := 7
abbrev j_EDGES : Nat := 8
abbrev j_WAYS_scheme : Nat := 9
abbrev s_BadScheme_init : Stmt := (inClass (top 3) 0)
def b_BadScheme_init : List CS := []
def f_BadScheme_init : FI := ⟨"__init__", "__init__", "BadScheme.__init__", s_BadScheme_init, ["self", "at"], ["self", "at"], b_BadScheme_init⟩
theorem sc_BadScheme_init : FnScope f_BadScheme_init.N f_BadScheme_init.ps (defScope s_BadScheme_init) := ⟨rfl, rfl, rfl, by decide +kernel, rfl, by decide +kernel, by decide +kernel⟩
theorem bd_BadScheme_init : Bd "__init__" "BadScheme.__init__" s_BadScheme_init ["self", "at"] := fun _ _ _ _ _ _ us hl => match us, hl with | [_, _], _ => rfl
abbrev s_is_among_stack : Stmt := (top 12)
def b_is_among_stack : List CS := [.ret [] (.bop .And (.isa (.var 0) false [.b "int"]) (.bop .And (.not (.isa (.var 0) false [.b "bool"])) (.cmp2 .LtE .LtE (.var 1) (.var 0) (.var 2))))]
def f_is_among_stack : FI := ⟨"is_among_stack", "is_among", "is_among", s_is_among_stack, ["thing", "least", "most"], ["thing", "least", "most"], b_is_among_stack⟩
theorem sc_is_among_stack : FnScope f_is_among_stack.N f_is_among_stack.ps (defScope s_is_among_stack) := ⟨rfl, rfl, rfl, by decide +kernel, rfl, by decide +kernel, by decide +kernel⟩
theorem bd_is_among_stack : Bd "is_among" "is_among" s_is_among_stack ["thing", "least", "most"] := fun _ _ _ _ _ _ us hl => match us, hl with | [_, _, _], _ => rfl
abbrev s_next_leaf : Stmt := (top 14)
def b_next_leaf : List CS := [.asg (.tp (.cons (.nm 2) (.cons (.nm 3) (.cons (.nm 4) (.cons (.nm 5) .nil))))) [] true (.var 0),
    .ife [] (.var 1) [.ret [] (.tup [(.var 2), (.var 3), (.var 4), (.not (.var 5))])] [],
    .ret [] (.tup [(.var 2), (.var 3), (.not (.var 4)), (.var 5)])]
def f_next_leaf : FI := ⟨"next_leaf", "next_leaf", "next_leaf", s_next_leaf, ["leaf", "by_rows", "row", "column", "is_swapped", "is_turned"], ["leaf", "by_rows"], b_next_leaf⟩
theorem sc_next_leaf : FnScope f_next_leaf.N f_next_leaf.ps (defScope s_next_leaf) := ⟨rfl, rfl, rfl, by decide +kernel, rfl, by decide +kernel, by decide +kernel⟩
theorem bd_next_leaf : Bd "next_leaf" "next_leaf" s_next_leaf ["leaf", "by_rows"] := fun _ _ _ _ _ _ us hl => match us, hl with | [_, _], _ => rfl
abbrev s_folded_line : Stmt := (top 15)
def b_folded_line : List CS := [.asgLc 4 false [] [6] (.nm 6) (.sli (.var 0) (some (.var 1)) none) [] (.blt .list [(.var 6)]),
    .for_ (.tp (.cons (.nm 5) (.cons (.nm 6) .nil))) [] (.enum (.reved (.sli (.var 0) none (some (.var 1)))) none) [.asgLc 7 true [] [8] (.nm 8) (.reved (.var 6)) [] (.call i_next_leaf [(.var 8), (.var 3)]),
    .ife [] (.cmp .Eq (.var 2) (.cst (.str "over"))) [.setI (.var 4) (.var 5) [4] true (.bin .Add (.var 7) (.idx (.var 4) (.var 5)))] [.setI (.var 4) (.var 5) [4] true (.bin .Add (.idx (.var 4) (.var 5)) (.var 7))]],
    .retv 4]
def f_folded_line : FI := ⟨"folded_line", "folded_line", "folded_line", s_folded_line, ["places", "many", "way", "by_rows", "found", "at", "leaves", "moved", "leaf"], ["places", "many", "way", "by_rows"], b_folded_line⟩
theorem sc_folded_line : FnScope f_folded_line.N f_folded_line.ps (defScope s_folded_line) := ⟨rfl, rfl, rfl, by decide +kernel, rfl, by decide +kernel, by decide +kernel⟩
theorem bd_folded_line : Bd "folded_line" "folded_line" s_folded_line ["places", "many", "way", "by_rows"] := fun _ _ _ _ _ _ us hl => match us, hl with | [_, _, _, _], _ => rfl
abbrev s_across : Stmt := (top 16)
def b_across : List CS := [.ret [] (.lc [1] (.nm 1) (.range [(.blt .len [(.idx (.var 0) (.cst (.int 0)))])]) [] (.lc [2] (.nm 2) (.var 0) [] (.idx (.var 2) (.var 1))))]
def f_across : FI := ⟨"across", "across", "across", s_across, ["spots", "at", "row"], ["spots"], b_across⟩
theorem sc_across : FnScope f_across.N f_across.ps (defScope s_across) := ⟨rfl, rfl, rfl, by decide +kernel, rfl, by decide +kernel, by decide +kernel⟩
theorem bd_across : Bd "across" "across" s_across ["spots"] := fun _ _ _ _ _ _ us hl => match us, hl with | [_], _ => rfl
abbrev s_Stack_init : Stmt := (inClass (top 17) 0)
def b_Stack_init : List CS := [.ife [] (.bop .Or (.not (.call i_is_among_stack [(.var 1), (.cst (.int 1)), (.glb j_MOST_SIDE_stack)])) (.bop .Or (.not (.call i_is_among_stack [(.var 2), (.cst (.int 1)), (.glb j_MOST_SIDE_stack)])) (.cmp .Gt (.bin .Mult (.var 1) (.var 2)) (.glb j_MOST_CELLS_stack)))) [.raise "BadScheme" [] [(.cst (.int 0))]] [],
    .setF (.var 0) "spots" [] false (.lst []),
    .for_ (.nm 3) [] (.range [(.cst (.int 1)), (.bin .Add (.var 1) (.cst (.int 1)))]) [.app (.att (.var 0) "spots") [] true (.lc [4] (.nm 4) (.range [(.cst (.int 1)), (.bin .Add (.var 2) (.cst (.int 1)))]) [] (.lst [(.tup [(.var 3), (.var 4), (.cst (.bl false)), (.cst (.bl false))])]))],
    .setF (.var 0) "past" [] false (.lst []),
    .frzP 0 [0]]
def f_Stack_init : FI := ⟨"__init__", "__init__", "Stack.__init__", s_Stack_init, ["self", "rows", "columns", "row", "column"], ["self", "rows", "columns"], b_Stack_init⟩
theorem sc_Stack_init : FnScope f_Stack_init.N f_Stack_init.ps (defScope s_Stack_init) := ⟨rfl, rfl, rfl, by decide +kernel, rfl, by decide +kernel, by decide +kernel⟩
theorem bd_Stack_init : Bd "__init__" "Stack.__init__" s_Stack_init ["self", "rows", "columns"] := fun _ _ _ _ _ _ us hl => match us, hl with | [_, _, _], _ => rfl
abbrev s_Stack_size : Stmt := (inClass (top 17) 1)
def b_Stack_size : List CS := [.ret [] (.tup [(.blt .len [(.att (.var 0) "spots")]), (.blt .len [(.idx (.att (.var 0) "spots") (.cst (.int 0)))])])]
def f_Stack_size : FI := ⟨"size", "size", "Stack.size", s_Stack_size, ["self"], ["self"], b_Stack_size⟩
theorem sc_Stack_size : FnScope f_Stack_size.N f_Stack_size.ps (defScope s_Stack_size) := ⟨rfl, rfl, rfl, by decide +kernel, rfl, by decide +kernel, by decide +kernel⟩
theorem bd_Stack_size : Bd "size" "Stack.size" s_Stack_size ["self"] := fun _ _ _ _ _ _ us hl => match us, hl with | [_], _ => rfl
abbrev s_Stack_leaves_at : Stmt := (inClass (top 17) 2)
def b_Stack_leaves_at : List CS := [.asg (.tp (.cons (.nm 3) (.cons (.nm 4) .nil))) [0] true (.meth "Stack" "size" (.var 0) []),
    .ife [] (.bop .Or (.not (.call i_is_among_stack [(.var 1), (.cst (.int 1)), (.var 3)])) (.not (.call i_is_among_stack [(.var 2), (.cst (.int 1)), (.var 4)]))) [.raise "OutOfPlace" [] [(.cst (.str "no such place"))]] [],
    .ret [] (.blt .list [(.idx (.idx (.att (.var 0) "spots") (.bin .Sub (.var 1) (.cst (.int 1)))) (.bin .Sub (.var 2) (.cst (.int 1))))])]
def f_Stack_leaves_at : FI := ⟨"leaves_at", "leaves_at", "Stack.leaves_at", s_Stack_leaves_at, ["self", "row", "column", "rows", "columns"], ["self", "row", "column"], b_Stack_leaves_at⟩
theorem sc_Stack_leaves_at : FnScope f_Stack_leaves_at.N f_Stack_leaves_at.ps (defScope s_Stack_leaves_at) := ⟨rfl, rfl, rfl, by decide +kernel, rfl, by decide +kernel, by decide +kernel⟩
theorem bd_Stack_leaves_at : Bd "leaves_at" "Stack.leaves_at" s_Stack_leaves_at ["self", "row", "column"] := fun _ _ _ _ _ _ us hl => match us, hl with | [_, _, _], _ => rfl
abbrev s_Stack_all_leaves : Stmt := (inClass (top 17) 3)
def b_Stack_all_leaves : List CS := [.ret [] (.lc [1] (.nm 1) (.att (.var 0) "spots") [] (.lc [2] (.nm 2) (.var 1) [] (.blt .list [(.var 2)])))]
def f_Stack_all_leaves : FI := ⟨"all_leaves", "all_leaves", "Stack.all_leaves", s_Stack_all_leaves, ["self", "row", "leaves"], ["self"], b_Stack_all_leaves⟩
theorem sc_Stack_all_leaves : FnScope f_Stack_all_leaves.N f_Stack_all_leaves.ps (defScope s_Stack_all_leaves) := ⟨rfl, rfl, rfl, by decide +kernel, rfl, by decide +kernel, by decide +kernel⟩
theorem bd_Stack_all_leaves : Bd "all_leaves" "Stack.all_leaves" s_Stack_all_leaves ["self"] := fun _ _ _ _ _ _ us hl => match us, hl with | [_], _ => rfl
abbrev s_Stack_need_fold : Stmt := (inClass (top 17) 4)
def b_Stack_need_fold : List CS := [.asg (.tp (.cons (.nm 4) (.cons (.nm 5) .nil))) [0] true (.meth "Stack" "size" (.var 0) []),
    .asg (.nm 6) [] true (.cst (.int 0)),
    .ife [] (.bop .And (.isa (.var 1) false [.b "str"]) (.cmp .In (.var 1) (.glb j_BY_ROWS))) [.asg (.nm 6) [] true (.bin .FloorDiv (.var 4) (.cst (.int 2)))] [.ife [] (.bop .And (.isa (.var 1) false [.b "str"]) (.cmp .In (.var 1) (.glb j_BY_COLUMNS))) [.asg (.nm 6) [] true (.bin .FloorDiv (.var 5) (.cst (.int 2)))] []],
    .ife [] (.bop .Or (.not (.call i_is_among_stack [(.var 2), (.cst (.int 1)), (.var 6)])) (.bop .Or (.not (.isa (.var 3) false [.b "str"])) (.cmp .NotIn (.var 3) (.glb j_WAYS_stack)))) [.raise "OutOfPlace" [] [(.cst (.str "no such fold"))]] []]
def f_Stack_need_fold : FI := ⟨"need_fold", "need_fold", "Stack.need_fold", s_Stack_need_fold, ["self", "edge", "many", "way", "rows", "columns", "most"], ["self", "edge", "many", "way"], b_Stack_need_fold⟩
theorem sc_Stack_need_fold : FnScope f_Stack_need_fold.N f_Stack_need_fold.ps (defScope s_Stack_need_fold) := ⟨rfl, rfl, rfl, by decide +kernel, rfl, by decide +kernel, by decide +kernel⟩
theorem bd_Stack_need_fold : Bd "need_fold" "Stack.need_fold" s_Stack_need_fold ["self", "edge", "many", "way"] := fun _ _ _ _ _ _ us hl => match us, hl with | [_, _, _, _], _ => rfl
abbrev s_Stack_fold_part : Stmt := (inClass (top 17) 5)
def b_Stack_fold_part : List CS := [.expr [0] (.meth "Stack" "need_fold" (.var 0) [(.var 1), (.var 2), (.var 3)]),
    .asg (.nm 4) [] true (.cmp .In (.var 1) (.glb j_BY_ROWS)),
    .asg (.nm 5) [] false (.lst []),
    .for_ (.nm 6) [] (.ite (.var 4) (.call i_across [(.att (.var 0) "spots")]) (.att (.var 0) "spots")) [.asg (.nm 7) [] true (.ite (.cmp .In (.var 1) (.glb j_FROM_BEHIND)) (.rev (.var 6)) (.var 6)),
    .asg (.nm 7) [] true (.call i_folded_line [(.var 7), (.var 2), (.var 3), (.var 4)]),
    .app (.var 5) [] true (.ite (.cmp .In (.var 1) (.glb j_FROM_BEHIND)) (.rev (.var 7)) (.var 7))],
    .app (.att (.var 0) "past") [] true (.att (.var 0) "spots"),
    .frz 5, .setF (.var 0) "spots" [5] true (.ite (.var 4) (.call i_across [(.var 5)]) (.var 5))]
def f_Stack_fold_part : FI := ⟨"fold_part", "fold_part", "Stack.fold_part", s_Stack_fold_part, ["self", "edge", "many", "way", "by_rows", "found", "line", "turned"], ["self", "edge", "many", "way"], b_Stack_fold_part⟩
theorem sc_Stack_fold_part : FnScope f_Stack_fold_part.N f_Stack_fold_part.ps (defScope s_Stack_fold_part) := ⟨rfl, rfl, rfl, by decide +kernel, rfl, by decide +kernel, by decide +kernel⟩
theorem bd_Stack_fold_part : Bd "fold_part" "Stack.fold_part" s_Stack_fold_part ["self", "edge", "many", "way"] := fun _ _ _ _ _ _ us hl => match us, hl with | [_, _, _, _], _ => rfl
abbrev s_Stack_unfold : Stmt := (inClass (top 17) 6)
def b_Stack_unfold : List CS := [.bad]
def f_Stack_unfold : FI := ⟨"unfold", "unfold", "Stack.unfold", s_Stack_unfold, ["self"], ["self"], b_Stack_unfold⟩
theorem sc_Stack_unfold : FnScope f_Stack_unfold.N f_Stack_unfold.ps (defScope s_Stack_unfold) := ⟨rfl, rfl, rfl, by decide +kernel, rfl, by decide +kernel, by decide +kernel⟩
theorem bd_Stack_unfold : Bd "unfold" "Stack.unfold" s_Stack_unfold ["self"] := fun _ _ _ _ _ _ us hl => match us, hl with | [_], _ => rfl
abbrev s_Stack_copied : Stmt := (inClass (top 17) 7)
def b_Stack_copied : List CS := [.bad]
def f_Stack_copied : FI := ⟨"copied", "copied", "Stack.copied", s_Stack_copied, ["self"], ["self"], b_Stack_copied⟩
theorem sc_Stack_copied : FnScope f_Stack_copied.N f_Stack_copied.ps (defScope s_Stack_copied) := ⟨rfl, rfl, rfl, by decide +kernel, rfl, by decide +kernel, by decide +kernel⟩
theorem bd_Stack_copied : Bd "copied" "Stack.copied" s_Stack_copied ["self"] := fun _ _ _ _ _ _ us hl => match us, hl with | [_], _ => rfl
abbrev s_folded_stack : Stmt := (top 18)
def b_folded_stack : List CS := [.asg (.tp (.cons (.nm 1) (.cons (.nm 2) (.cons (.nm 3) .nil)))) [] true (.meth "Scheme" "told" (.var 0) []),
    .asg (.nm 4) [] false (.make "Stack" [(.var 1), (.var 2)]),
    .for_ (.tp (.cons (.nm 5) (.cons (.nm 6) (.cons (.nm 7) .nil)))) [] (.var 3) [.mth .no (.var 4) "Stack" "fold_part" [] [(.var 5), (.var 6), (.var 7)],
    .wipe [5, 6, 7]],
    .retv 4]
def f_folded_stack : FI := ⟨"folded_stack", "folded_stack", "folded_stack", s_folded_stack, ["scheme", "rows", "columns", "folds", "found", "edge", "many", "way"], ["scheme"], b_folded_stack⟩
theorem sc_folded_stack : FnScope f_folded_stack.N f_folded_stack.ps (defScope s_folded_stack) := ⟨rfl, rfl, rfl, by decide +kernel, rfl, by decide +kernel, by decide +kernel⟩
theorem bd_folded_stack : Bd "folded_stack" "folded_stack" s_folded_stack ["scheme"] := fun _ _ _ _ _ _ us hl => match us, hl with | [_], _ => rfl
abbrev s_is_whole : Stmt := (top 20)
def b_is_whole : List CS := [.ret [] (.bop .And (.isa (.var 0) false [.b "int"]) (.not (.isa (.var 0) false [.b "bool"])))]
def f_is_whole : FI := ⟨"is_whole", "is_whole", "is_whole", s_is_whole, ["thing"], ["thing"], b_is_whole⟩
theorem sc_is_whole : FnScope f_is_whole.N f_is_whole.ps (defScope s_is_whole) := ⟨rfl, rfl, rfl, by decide +kernel, rfl, by decide +kernel, by decide +kernel⟩
theorem bd_is_whole : Bd "is_whole" "is_whole" s_is_whole ["thing"] := fun _ _ _ _ _ _ us hl => match us, hl with | [_], _ => rfl
abbrev s_is_among_words : Stmt := (top 21)
def b_is_among_words : List CS := [.ret [] (.bop .And (.call i_is_whole [(.var 0)]) (.cmp2 .LtE .LtE (.var 1) (.var 0) (.var 2)))]
def f_is_among_words : FI := ⟨"is_among_words", "is_among", "is_among", s_is_among_words, ["thing", "least", "most"], ["thing", "least", "most"], b_is_among_words⟩
theorem sc_is_among_words : FnScope f_is_among_words.N f_is_among_words.ps (defScope s_is_among_words) := ⟨rfl, rfl, rfl, by decide +kernel, rfl, by decide +kernel, by decide +kernel⟩
theorem bd_is_among_words : Bd "is_among" "is_among" s_is_among_words ["thing", "least", "most"] := fun _ _ _ _ _ _ us hl => match us, hl with | [_, _, _], _ => rfl
abbrev s_is_size : Stmt := (top 28)
def b_is_size : List CS := [.ret [] (.bop .And (.call i_is_among_words [(.var 0), (.cst (.int 1)), (.glb j_MOST_SIDE_scheme)]) (.bop .And (.call i_is_among_words [(.var 1), (.cst (.int 1)), (.glb j_MOST_SIDE_scheme)]) (.cmp .LtE (.bin .Mult (.var 0) (.var 1)) (.glb j_MOST_CELLS_scheme))))]
def f_is_size : FI := ⟨"is_size", "is_size", "is_size", s_is_size, ["rows", "columns"], ["rows", "columns"], b_is_size⟩
theorem sc_is_size : FnScope f_is_size.N f_is_size.ps (defScope s_is_size) := ⟨rfl, rfl, rfl, by decide +kernel, rfl, by decide +kernel, by decide +kernel⟩
theorem bd_is_size : Bd "is_size" "is_size" s_is_size ["rows", "columns"] := fun _ _ _ _ _ _ us hl => match us, hl with | [_, _], _ => rfl
abbrev s_folded_size : Stmt := (top 29)
def b_folded_size : List CS := [.ife [] (.bop .Or (.not (.isa (.var 2) false [.b "tuple"])) (.cmp .NotEq (.blt .len [(.var 2)]) (.cst (.int 3)))) [.ret [] (.cst .non)] [],
    .asg (.tp (.cons (.nm 3) (.cons (.nm 4) (.cons (.nm 5) .nil)))) [] true (.var 2),
    .ife [] (.bop .Or (.not (.isa (.var 3) false [.b "str"])) (.bop .Or (.cmp .NotIn (.var 3) (.glb j_EDGES)) (.bop .Or (.not (.isa (.var 5) false [.b "str"])) (.cmp .NotIn (.var 5) (.glb j_WAYS_scheme))))) [.ret [] (.cst .non)] [],
    .ife [] (.cmp .In (.var 3) (.tup [(.cst (.str "left")), (.cst (.str "right"))])) [.ret [] (.ite (.call i_is_among_words [(.var 4), (.cst (.int 1)), (.bin .FloorDiv (.var 1) (.cst (.int 2)))]) (.tup [(.var 0), (.bin .Sub (.var 1) (.var 4))]) (.cst .non))] [],
    .ret [] (.ite (.call i_is_among_words [(.var 4), (.cst (.int 1)), (.bin .FloorDiv (.var 0) (.cst (.int 2)))]) (.tup [(.bin .Sub (.var 0) (.var 4)), (.var 1)]) (.cst .non))]
def f_folded_size : FI := ⟨"folded_size", "folded_size", "folded_size", s_folded_size, ["rows", "columns", "fold", "edge", "many", "way"], ["rows", "columns", "fold"], b_folded_size⟩
theorem sc_folded_size : FnScope f_folded_size.N f_folded_size.ps (defScope s_folded_size) := ⟨rfl, rfl, rfl, by decide +kernel, rfl, by decide +kernel, by decide +kernel⟩
theorem bd_folded_size : Bd "folded_size" "folded_size" s_folded_size ["rows", "columns", "fold"] := fun _ _ _ _ _ _ us hl => match us, hl with | [_, _, _], _ => rfl
abbrev s_Scheme_init : Stmt := (inClass (top 30) 0)
def b_Scheme_init : List CS := [.ife [] (.bop .Or (.not (.call i_is_size [(.var 1), (.var 2)])) (.not (.isa (.var 3) false [.b "list"]))) [.raise "BadScheme" [] [(.cst (.int 0))]] [],
    .asg (.nm 4) [] true (.tup [(.var 1), (.var 2)]),
    .for_ (.tp (.cons (.nm 5) (.cons (.nm 6) .nil))) [] (.enum (.var 3) none) [.asg (.nm 4) [] true (.call i_folded_size [(.idx (.var 4) (.cst (.int 0))), (.idx (.var 4) (.cst (.int 1))), (.var 6)]),
    .ife [] (.cmp .Is (.var 4) (.cst .non)) [.raise "BadScheme" [] [(.bin .Add (.var 5) (.cst (.int 1)))]] []],
    .ife [] (.cmp .NotEq (.var 4) (.tup [(.cst (.int 1)), (.cst (.int 1))])) [.raise "BadScheme" [] [(.bin .Add (.blt .len [(.var 3)]) (.cst (.int 1)))]] [],
    .setF (.var 0) "rows" [] false (.var 1),
    .setF (.var 0) "columns" [] false (.var 2),
    .setF (.var 0) "folds" [] false (.blt .list [(.var 3)])]
def f_Scheme_init : FI := ⟨"__init__", "__init__", "Scheme.__init__", s_Scheme_init, ["self", "rows", "columns", "folds", "left", "place", "fold"], ["self", "rows", "columns", "folds"], b_Scheme_init⟩
theorem sc_Scheme_init : FnScope f_Scheme_init.N f_Scheme_init.ps (defScope s_Scheme_init) := ⟨rfl, rfl, rfl, by decide +kernel, rfl, by decide +kernel, by decide +kernel⟩
theorem bd_Scheme_init : Bd "__init__" "Scheme.__init__" s_Scheme_init ["self", "rows", "columns", "folds"] := fun _ _ _ _ _ _ us hl => match us, hl with | [_, _, _, _], _ => rfl
abbrev s_Scheme_told : Stmt := (inClass (top 30) 1)
def b_Scheme_told : List CS := [.ret [0] (.tup [(.att (.var 0) "rows"), (.att (.var 0) "columns"), (.blt .list [(.att (.var 0) "folds")])])]
def f_Scheme_told : FI := ⟨"told", "told", "Scheme.told", s_Scheme_told, ["self"], ["self"], b_Scheme_told⟩
theorem sc_Scheme_told : FnScope f_Scheme_told.N f_Scheme_told.ps (defScope s_Scheme_told) := ⟨rfl, rfl, rfl, by decide +kernel, rfl, by decide +kernel, by decide +kernel⟩
theorem bd_Scheme_told : Bd "told" "Scheme.told" s_Scheme_told ["self"] := fun _ _ _ _ _ _ us hl => match us, hl with | [_], _ => rfl
abbrev s_l_drawn : Stmt := (top 32)
def b_l_drawn : List CS := [.asg (.nm 2) [] true (.bin .Add (.bin .Add (.bin .Mod (.var 0) (.cst (.int 1000000007))) (.bin .Mult (.cst (.int 7919)) (.var 1))) (.cst (.int 13))),
    .ret [] (.bin .Mod (.bin .Mult (.bin .Mod (.bin .Mult (.var 2) (.var 2)) (.cst (.int 1000000007))) (.cst (.int 48271))) (.cst (.int 2147483647)))]
def f_l_drawn : FI := ⟨"_law_drawn", "_law_drawn", "_law_drawn", s_l_drawn, ["_law_cell", "_law_k", "_law_number"], ["_law_cell", "_law_k"], b_l_drawn⟩
theorem sc_l_drawn : FnScope f_l_drawn.N f_l_drawn.ps (defScope s_l_drawn) := ⟨rfl, rfl, rfl, by decide +kernel, rfl, by decide +kernel, by decide +kernel⟩
theorem bd_l_drawn : Bd "_law_drawn" "_law_drawn" s_l_drawn ["_law_cell", "_law_k"] := fun _ _ _ _ _ _ us hl => match us, hl with | [_, _], _ => rfl
abbrev s_l_folds : Stmt := (top 33)
def b_l_folds : List CS := [.asg (.nm 3) [] false (.lst [(.var 0), (.var 1)]),
    .asg (.nm 4) [] false (.lst []),
    .for_ (.nm 5) [] (.range [(.cst (.int 14))]) [.asg (.nm 6) [3] true (.bin .Add (.bin .Mult (.lst [(.cst (.str "top")), (.cst (.str "bottom"))]) (.blt .int [(.cmp .Gt (.idx (.var 3) (.cst (.int 0))) (.cst (.int 1)))])) (.bin .Mult (.lst [(.cst (.str "left")), (.cst (.str "right"))]) (.blt .int [(.cmp .Gt (.idx (.var 3) (.cst (.int 1))) (.cst (.int 1)))]))),
    .ife [] (.cmp .NotEq (.var 6) (.lst [])) [.asg (.nm 7) [] true (.call i_l_drawn [(.var 2), (.bin .Add (.cst (.int 40)) (.var 5))]),
    .asg (.nm 8) [] true (.idx (.var 6) (.bin .Mod (.var 7) (.blt .len [(.var 6)]))),
    .asg (.nm 9) [] true (.blt .int [(.cmp .In (.var 8) (.tup [(.cst (.str "left")), (.cst (.str "right"))]))]),
    .asg (.nm 10) [3] true (.bin .FloorDiv (.idx (.var 3) (.var 9)) (.cst (.int 2))),
    .asg (.nm 11) [] true (.idx (.lst [(.cst (.int 1)), (.var 10), (.bin .Add (.cst (.int 1)) (.bin .Mod (.bin .FloorDiv (.var 7) (.cst (.int 16))) (.var 10)))]) (.bin .Mod (.bin .FloorDiv (.var 7) (.cst (.int 4))) (.cst (.int 3)))),
    .setI (.var 3) (.var 9) [3] true (.bin .Sub (.idx (.var 3) (.var 9)) (.var 11)),
    .app (.var 4) [] true (.tup [(.var 8), (.var 11), (.idx (.lst [(.cst (.str "over")), (.cst (.str "under"))]) (.bin .Mod (.bin .FloorDiv (.var 7) (.cst (.int 1024))) (.cst (.int 2))))])] [],
    .wipe [5, 6, 7, 8, 9, 10, 11]],
    .retv 4]
def f_l_folds : FI := ⟨"_law_folds", "_law_folds", "_law_folds", s_l_folds, ["_law_rows", "_law_columns", "_law_number", "_law_left", "_law_found", "_law_turn", "_law_edges", "_law_more", "_law_edge", "_law_at_here", "_law_most", "_law_many"], ["_law_rows", "_law_columns", "_law_number"], b_l_folds⟩
theorem sc_l_folds : FnScope f_l_folds.N f_l_folds.ps (defScope s_l_folds) := ⟨rfl, rfl, rfl, by decide +kernel, rfl, by decide +kernel, by decide +kernel⟩
theorem bd_l_folds : Bd "_law_folds" "_law_folds" s_l_folds ["_law_rows", "_law_columns", "_law_number"] := fun _ _ _ _ _ _ us hl => match us, hl with | [_, _, _], _ => rfl
abbrev s_l_scheme : Stmt := (top 34)
def b_l_scheme : List CS := [.asg (.nm 2) [] true (.call i_l_drawn [(.var 0), (.var 1)]),
    .asg (.nm 3) [] true (.idx (.lst [(.cst (.int 1)), (.cst (.int 2)), (.cst (.int 4)), (.bin .Add (.cst (.int 1)) (.bin .Mod (.bin .FloorDiv (.var 2) (.cst (.int 8))) (.cst (.int 8))))]) (.bin .Mod (.var 2) (.cst (.int 4)))),
    .asg (.nm 4) [] true (.bin .Add (.cst (.int 1)) (.bin .Mod (.bin .FloorDiv (.var 2) (.cst (.int 64))) (.blt .min [(.cst (.int 8)), (.bin .FloorDiv (.cst (.int 32)) (.var 3))]))),
    .ret [] (.tup [(.var 3), (.var 4), (.call i_l_folds [(.var 3), (.var 4), (.var 2)])])]
def f_l_scheme : FI := ⟨"_law_scheme", "_law_scheme", "_law_scheme", s_l_scheme, ["_law_cell", "_law_k", "_law_number", "_law_rows", "_law_columns"], ["_law_cell", "_law_k"], b_l_scheme⟩
theorem sc_l_scheme : FnScope f_l_scheme.N f_l_scheme.ps (defScope s_l_scheme) := ⟨rfl, rfl, rfl, by decide +kernel, rfl, by decide +kernel, by decide +kernel⟩
theorem bd_l_scheme : Bd "_law_scheme" "_law_scheme" s_l_scheme ["_law_cell", "_law_k"] := fun _ _ _ _ _ _ us hl => match us, hl with | [_, _], _ => rfl
abbrev s_l_same : Stmt := (top 35)
def b_l_same : List CS := [.ife [] (.isa (.var 1) true [.b "list", .b "tuple"]) [.ife [] (.bop .Or (.cmp .NotEq (.isa (.var 0) false [.b "list"]) (.isa (.var 1) false [.b "list"])) (.cmp .NotEq (.isa (.var 0) false [.b "tuple"]) (.isa (.var 1) false [.b "tuple"]))) [.ret [] (.cst (.bl false))] [],
    .ret [] (.bop .And (.cmp .Eq (.blt .len [(.var 0)]) (.blt .len [(.var 1)])) (.blt .all [(.lc [2, 3] (.tp (.cons (.nm 2) (.cons (.nm 3) .nil))) (.zip (.var 0) (.var 1)) [] (.call i_l_same [(.var 2), (.var 3)]))]))] [],
    .ret [] (.bop .And (.cmp .Eq (.isa (.var 0) false [.b "bool"]) (.isa (.var 1) false [.b "bool"])) (.cmp .Eq (.var 0) (.var 1)))]
def f_l_same : FI := ⟨"_law_same", "_law_same", "_law_same", s_l_same, ["_law_found", "_law_due", "_law_one", "_law_other"], ["_law_found", "_law_due"], b_l_same⟩
theorem sc_l_same : FnScope f_l_same.N f_l_same.ps (defScope s_l_same) := ⟨rfl, rfl, rfl, by decide +kernel, rfl, by decide +kernel, by decide +kernel⟩
theorem bd_l_same : Bd "_law_same" "_law_same" s_l_same ["_law_found", "_law_due"] := fun _ _ _ _ _ _ us hl => match us, hl with | [_, _], _ => rfl
abbrev s_l_begun : Stmt := (top 36)
def b_l_begun : List CS := [.asg (.nm 2) [] false (.dnew true),
    .for_ (.nm 3) [] (.range [(.cst (.int 1)), (.bin .Add (.var 0) (.cst (.int 1)))]) [.for_ (.nm 4) [] (.range [(.cst (.int 1)), (.bin .Add (.var 1) (.cst (.int 1)))]) [.setD (.var 2) (.tup [(.var 3), (.var 4)]) [] (.tup [(.var 4), (.var 3), (.cst (.int 0)), (.cst (.bl false)), (.cst (.bl false))])]],
    .retv 2]
def f_l_begun : FI := ⟨"_law_begun", "_law_begun", "_law_begun", s_l_begun, ["_law_rows", "_law_columns", "_law_found", "_law_row", "_law_column"], ["_law_rows", "_law_columns"], b_l_begun⟩
theorem sc_l_begun : FnScope f_l_begun.N f_l_begun.ps (defScope s_l_begun) := ⟨rfl, rfl, rfl, by decide +kernel, rfl, by decide +kernel, by decide +kernel⟩
theorem bd_l_begun : Bd "_law_begun" "_law_begun" s_l_begun ["_law_rows", "_law_columns"] := fun _ _ _ _ _ _ us hl => match us, hl with | [_, _], _ => rfl
abbrev s_l_moved : Stmt := (top 37)
def b_l_moved : List CS := [.asg (.tp (.cons (.nm 3) (.cons (.nm 4) (.cons (.nm 5) .nil)))) [] true (.var 2),
    .asg (.nm 6) [] true (.cmp .In (.var 3) (.tup [(.cst (.str "top")), (.cst (.str "bottom"))])),
    .asg (.nm 7) [] true (.ite (.var 6) (.idx (.var 1) (.cst (.int 0))) (.idx (.var 1) (.cst (.int 1)))),
    .asgLc 8 true [] [12] (.nm 12) (.var 0) [] (.idx (.idx (.var 0) (.var 12)) (.cst (.int 2))),
    .par 9 10 [] (.blt .min [(.var 8)]) (.blt .max [(.var 8)]),
    .asg (.nm 11) [] false (.dnew true),
    .for_ (.nm 12) [] (.var 0) [.asg (.tp (.cons (.nm 13) (.cons (.nm 14) (.cons (.nm 15) (.cons (.nm 16) (.cons (.nm 17) .nil)))))) [] true (.idx (.var 0) (.var 12)),
    .asg (.nm 18) [] true (.ite (.var 6) (.var 14) (.var 13)),
    .asg (.nm 19) [] true (.cmp .In (.var 3) (.tup [(.cst (.str "left")), (.cst (.str "top"))])),
    .ife [] (.bop .Or (.bop .And (.var 19) (.cmp .LtE (.var 18) (.var 4))) (.bop .And (.not (.var 19)) (.cmp .Gt (.var 18) (.bin .Sub (.var 7) (.var 4))))) [.asg (.nm 15) [] true (.ite (.cmp .Eq (.var 5) (.cst (.str "over"))) (.bin .Sub (.bin .Add (.bin .Mult (.cst (.int 2)) (.var 10)) (.cst (.int 1))) (.var 15)) (.bin .Sub (.bin .Sub (.bin .Mult (.cst (.int 2)) (.var 9)) (.cst (.int 1))) (.var 15))),
    .asg (.nm 18) [] true (.ite (.var 19) (.bin .Sub (.bin .Add (.var 4) (.cst (.int 1))) (.var 18)) (.bin .Sub (.bin .Add (.bin .Mult (.cst (.int 2)) (.bin .Sub (.var 7) (.var 4))) (.cst (.int 1))) (.var 18))),
    .asg (.nm 16) [] true (.ite (.var 6) (.var 16) (.not (.var 16))),
    .asg (.nm 17) [] true (.ite (.var 6) (.not (.var 17)) (.var 17))] [.ife [] (.var 19) [.asg (.nm 18) [] true (.bin .Sub (.var 18) (.var 4))] []],
    .asg (.nm 20) [] true (.ite (.var 6) (.tup [(.var 13), (.var 18)]) (.tup [(.var 18), (.var 14)])),
    .setD (.var 11) (.var 12) [] (.bin .Add (.var 20) (.tup [(.var 15), (.var 16), (.var 17)]))],
    .retv 11]
def f_l_moved : FI := ⟨"_law_moved", "_law_moved", "_law_moved", s_l_moved, ["_law_cells", "_law_sizes", "_law_fold", "_law_edge", "_law_many", "_law_way", "_law_by_rows", "_law_size_here", "_law_heights", "_law_low", "_law_high", "_law_found", "_law_cell", "_law_aside", "_law_down", "_law_height", "_law_swapped", "_law_turned", "_law_spot", "_law_is_first", "_law_spots"], ["_law_cells", "_law_sizes", "_law_fold"], b_l_moved⟩
theorem sc_l_moved : FnScope f_l_moved.N f_l_moved.ps (defScope s_l_moved) := ⟨rfl, rfl, rfl, by decide +kernel, rfl, by decide +kernel, by decide +kernel⟩
theorem bd_l_moved : Bd "_law_moved" "_law_moved" s_l_moved ["_law_cells", "_law_sizes", "_law_fold"] := fun _ _ _ _ _ _ us hl => match us, hl with | [_, _, _], _ => rfl
abbrev s_l_size : Stmt := (top 38)
def b_l_size : List CS := [.asg (.tp (.cons (.nm 2) (.cons (.nm 3) (.cons (.nm 4) .nil)))) [] true (.var 1),
    .ife [] (.cmp .In (.var 2) (.tup [(.cst (.str "top")), (.cst (.str "bottom"))])) [.ret [] (.tup [(.bin .Sub (.idx (.var 0) (.cst (.int 0))) (.var 3)), (.idx (.var 0) (.cst (.int 1)))])] [],
    .ret [] (.tup [(.idx (.var 0) (.cst (.int 0))), (.bin .Sub (.idx (.var 0) (.cst (.int 1))) (.var 3))])]
def f_l_size : FI := ⟨"_law_size", "_law_size", "_law_size", s_l_size, ["_law_sizes", "_law_fold", "_law_edge", "_law_many", "_law_way"], ["_law_sizes", "_law_fold"], b_l_size⟩
theorem sc_l_size : FnScope f_l_size.N f_l_size.ps (defScope s_l_size) := ⟨rfl, rfl, rfl, by decide +kernel, rfl, by decide +kernel, by decide +kernel⟩
theorem bd_l_size : Bd "_law_size" "_law_size" s_l_size ["_law_sizes", "_law_fold"] := fun _ _ _ _ _ _ us hl => match us, hl with | [_, _], _ => rfl
abbrev s_l_at : Stmt := (top 39)
def b_l_at : List CS := [.asg (.nm 3) [] false (.lst []),
    .for_ (.nm 4) [] (.var 0) [.ife [] (.cmp .Eq (.sli (.idx (.var 0) (.var 4)) none (some (.cst (.int 2)))) (.tup [(.var 1), (.var 2)])) [.app (.var 3) [] true (.tup [(.bin .Sub (.cst (.int 0)) (.idx (.idx (.var 0) (.var 4)) (.cst (.int 2)))), (.bin .Add (.var 4) (.sli (.idx (.var 0) (.var 4)) (some (.cst (.int 3))) none))])] []],
    .ret [3] (.lc [5, 6] (.tp (.cons (.nm 5) (.cons (.nm 6) .nil))) (.blt .sorted [(.var 3)]) [] (.var 6))]
def f_l_at : FI := ⟨"_law_at", "_law_at", "_law_at", s_l_at, ["_law_cells", "_law_aside", "_law_down", "_law_some", "_law_cell", "_law_height", "_law_leaf"], ["_law_cells", "_law_aside", "_law_down"], b_l_at⟩
theorem sc_l_at : FnScope f_l_at.N f_l_at.ps (defScope s_l_at) := ⟨rfl, rfl, rfl, by decide +kernel, rfl, by decide +kernel, by decide +kernel⟩
theorem bd_l_at : Bd "_law_at" "_law_at" s_l_at ["_law_cells", "_law_aside", "_law_down"] := fun _ _ _ _ _ _ us hl => match us, hl with | [_, _, _], _ => rfl
abbrev s_l_leaves : Stmt := (top 40)
def b_l_leaves : List CS := [.asg (.nm 2) [] false (.lst []),
    .for_ (.nm 3) [] (.range [(.cst (.int 1)), (.bin .Add (.idx (.var 1) (.cst (.int 0))) (.cst (.int 1)))]) [.app (.var 2) [] true (.lc [4] (.nm 4) (.range [(.cst (.int 1)), (.bin .Add (.idx (.var 1) (.cst (.int 1))) (.cst (.int 1)))]) [] (.call i_l_at [(.var 0), (.var 4), (.var 3)]))],
    .retv 2]
def f_l_leaves : FI := ⟨"_law_leaves", "_law_leaves", "_law_leaves", s_l_leaves, ["_law_cells", "_law_sizes", "_law_found", "_law_down", "_law_aside"], ["_law_cells", "_law_sizes"], b_l_leaves⟩
theorem sc_l_leaves : FnScope f_l_leaves.N f_l_leaves.ps (defScope s_l_leaves) := ⟨rfl, rfl, rfl, by decide +kernel, rfl, by decide +kernel, by decide +kernel⟩
theorem bd_l_leaves : Bd "_law_leaves" "_law_leaves" s_l_leaves ["_law_cells", "_law_sizes"] := fun _ _ _ _ _ _ us hl => match us, hl with | [_, _], _ => rfl
abbrev s_l_section : Stmt := (top 41)
def b_l_section : List CS := [.asg (.nm 3) [] false (.call i_l_begun [(.var 0), (.var 1)]),
    .frzP 3 [],
    .asg (.nm 4) [] true (.tup [(.var 0), (.var 1)]),
    .for_ (.nm 5) [] (.var 2) [.asg (.nm 3) [] false (.call i_l_moved [(.var 3), (.var 4), (.var 5)]),
    .frzP 3 [],
    .asg (.nm 4) [] true (.call i_l_size [(.var 4), (.var 5)]),
    .wipe [5]],
    .ret [] (.call i_l_at [(.var 3), (.cst (.int 1)), (.cst (.int 1))])]
def f_l_section : FI := ⟨"_law_section", "_law_section", "_law_section", s_l_section, ["_law_rows", "_law_columns", "_law_folds_here", "_law_cells", "_law_sizes", "_law_fold"], ["_law_rows", "_law_columns", "_law_folds_here"], b_l_section⟩
theorem sc_l_section : FnScope f_l_section.N f_l_section.ps (defScope s_l_section) := ⟨rfl, rfl, rfl, by decide +kernel, rfl, by decide +kernel, by decide +kernel⟩
theorem bd_l_section : Bd "_law_section" "_law_section" s_l_section ["_law_rows", "_law_columns", "_law_folds_here"] := fun _ _ _ _ _ _ us hl => match us, hl with | [_, _, _], _ => rfl
abbrev s_l_stands : Stmt := (top 42)
def b_l_stands : List CS := [.asg (.nm 3) [] true (.call i_l_leaves [(.var 1), (.var 2)]),
    .for_ (.nm 4) [] (.range [(.cst (.int 2))]) [.asg (.nm 5) [] false (.meth "Stack" "all_leaves" (.var 0) []),
    .ife [5] (.bop .Or (.not (.call i_l_same [(.meth "Stack" "size" (.var 0) []), (.var 2)])) (.not (.call i_l_same [(.var 5), (.var 3)]))) [.ret [] (.cst (.bl false))] [],
    .for_ (.nm 6) [] (.range [(.idx (.var 2) (.cst (.int 0)))]) [.for_ (.nm 7) [] (.range [(.idx (.var 2) (.cst (.int 1)))]) [.asg (.nm 8) [] false (.meth "Stack" "leaves_at" (.var 0) [(.bin .Add (.var 6) (.cst (.int 1))), (.bin .Add (.var 7) (.cst (.int 1)))]),
    .ife [8] (.not (.call i_l_same [(.var 8), (.idx (.idx (.var 3) (.var 6)) (.var 7))])) [.ret [] (.cst (.bl false))] [],
    .app (.var 8) [] true (.cst (.str "more")),
    .wipe [7, 8]],
    .wipe [6]],
    .clr (.idx (.idx (.var 5) (.cst (.int 0))) (.cst (.int 0))),
    .app (.var 5) [] true (.cst (.str "more")),
    .wipe [4, 5]],
    .ret [] (.cst (.bl true))]
def f_l_stands : FI := ⟨"_law_stands", "_law_stands", "_law_stands", s_l_stands, ["_law_stack", "_law_cells", "_law_sizes", "_law_due", "_law_turn", "_law_found", "_law_down", "_law_aside", "_law_leaves_here"], ["_law_stack", "_law_cells", "_law_sizes"], b_l_stands⟩
theorem sc_l_stands : FnScope f_l_stands.N f_l_stands.ps (defScope s_l_stands) := ⟨rfl, rfl, rfl, by decide +kernel, rfl, by decide +kernel, by decide +kernel⟩
theorem bd_l_stands : Bd "_law_stands" "_law_stands" s_l_stands ["_law_stack", "_law_cells", "_law_sizes"] := fun _ _ _ _ _ _ us hl => match us, hl with | [_, _, _], _ => rfl
abbrev s_law : Stmt := (top 43)
def b_law : List CS := [.for_ (.tp (.cons (.nm 1) (.cons (.nm 2) .nil))) [] (.enum (.bin .Add (.sli (.var 0) none (some (.cst (.int 20)))) (.lst [(.cst (.int 3)), (.cst (.int 9))])) none) [.asg (.tp (.cons (.nm 3) (.cons (.nm 4) (.cons (.nm 5) .nil)))) [] true (.call i_l_scheme [(.var 2), (.var 1)]),
    .asg (.nm 6) [] false (.make "Stack" [(.var 3), (.var 4)]),
    .asg (.nm 7) [] false (.call i_l_begun [(.var 3), (.var 4)]),
    .frzP 7 [],
    .asg (.nm 8) [] true (.tup [(.var 3), (.var 4)]),
    .ife [6] (.not (.call i_l_stands [(.var 6), (.var 7), (.var 8)])) [.ret [] (.cst (.bl false))] [],
    .for_ (.nm 9) [] (.var 5) [.ifM (.var 6) "Stack" "fold_part" [] [(.idx (.var 9) (.cst (.int 0))), (.idx (.var 9) (.cst (.int 1))), (.idx (.var 9) (.cst (.int 2)))] [.ret [] (.cst (.bl false))] [],
    .asg (.nm 7) [] false (.call i_l_moved [(.var 7), (.var 8), (.var 9)]),
    .frzP 7 [],
    .asg (.nm 8) [] true (.call i_l_size [(.var 8), (.var 9)]),
    .ife [6] (.not (.call i_l_stands [(.var 6), (.var 7), (.var 8)])) [.ret [] (.cst (.bl false))] [],
    .wipe [9]],
    .ife [] (.not (.call i_l_stands [(.call i_folded_stack [(.make "Scheme" [(.var 3), (.var 4), (.var 5)])]), (.var 7), (.var 8)])) [.ret [] (.cst (.bl false))] [],
    .wipe [1, 2, 3, 4, 5, 6, 7, 8]],
    .ret [] (.cst (.bl true))]
def f_law : FI := ⟨"law", "law", "law", s_law, ["_law_script", "_law_k", "_law_cell", "_law_rows", "_law_columns", "_law_folds_here", "_law_stack", "_law_cells", "_law_sizes", "_law_fold"], ["_law_script"], b_law⟩
theorem sc_law : FnScope f_law.N f_law.ps (defScope s_law) := ⟨rfl, rfl, rfl, by decide +kernel, rfl, by decide +kernel, by decide +kernel⟩
theorem bd_law : Bd "law" "law" s_law ["_law_script"] := fun _ _ _ _ _ _ us hl => match us, hl with | [_], _ => rfl
def k_Stack : KI := ⟨"Stack", ["spots", "past"], none, [("__init__", f_Stack_init), ("size", f_Stack_size), ("leaves_at", f_Stack_leaves_at), ("all_leaves", f_Stack_all_leaves), ("need_fold", f_Stack_need_fold), ("fold_part", f_Stack_fold_part), ("unfold", f_Stack_unfold), ("copied", f_Stack_copied)]⟩
def k_Scheme : KI := ⟨"Scheme", ["rows", "columns", "folds"], none, [("__init__", f_Scheme_init), ("told", f_Scheme_told)]⟩
def T : Tab := {
  fns := [f_is_among_stack, f_next_leaf, f_folded_line, f_across, f_folded_stack, f_is_whole, f_is_among_words, f_is_size, f_folded_size, f_l_drawn, f_l_folds, f_l_scheme, f_l_same, f_l_begun, f_l_moved, f_l_size, f_l_at, f_l_leaves, f_l_section, f_l_stands, f_law],
  cls := [k_Stack, k_Scheme],
  blts := ["ValueError", "enumerate", "range", "isinstance", "int", "list", "reversed", "tuple", "min", "max", "bool", "len", "str", "all", "sorted", "zip"],
  cons := [("MOST_SIDE_stack", .int 8), ("MOST_CELLS_stack", .int 32), ("BY_COLUMNS", .ft [.str "left", .str "right"]), ("BY_ROWS", .ft [.str "top", .str "bottom"]), ("FROM_BEHIND", .ft [.str "right", .str "bottom"]), ("WAYS_stack", .ft [.str "over", .str "under"]), ("MOST_SIDE_scheme", .int 8), ("MOST_CELLS_scheme", .int 32), ("EDGES", .ft [.str "left", .str "right", .str "top", .str "bottom"]), ("WAYS_scheme", .ft [.str "over", .str "under"])],
  par := "PressError",
  own := [],
  ins := ["Stack", "Scheme"],
  isa := [(.b "NoneType", .b "int", false), (.b "NoneType", .b "bool", false), (.b "NoneType", .b "str", false), (.b "NoneType", .b "list", false), (.b "NoneType", .b "tuple", false), (.b "NoneType", .b "ValueError", false), (.b "bool", .b "int", true), (.b "bool", .b "bool", true), (.b "bool", .b "str", false), (.b "bool", .b "list", false), (.b "bool", .b "tuple", false), (.b "bool", .b "ValueError", false), (.b "int", .b "int", true), (.b "int", .b "bool", false), (.b "int", .b "str", false), (.b "int", .b "list", false), (.b "int", .b "tuple", false), (.b "int", .b "ValueError", false), (.b "str", .b "int", false), (.b "str", .b "bool", false), (.b "str", .b "str", true), (.b "str", .b "list", false), (.b "str", .b "tuple", false), (.b "str", .b "ValueError", false), (.b "list", .b "int", false), (.b "list", .b "bool", false), (.b "list", .b "str", false), (.b "list", .b "list", true), (.b "list", .b "tuple", false), (.b "list", .b "ValueError", false), (.b "tuple", .b "int", false), (.b "tuple", .b "bool", false), (.b "tuple", .b "str", false), (.b "tuple", .b "list", false), (.b "tuple", .b "tuple", true), (.b "tuple", .b "ValueError", false), (.b "dict", .b "int", false), (.b "dict", .b "bool", false), (.b "dict", .b "str", false), (.b "dict", .b "list", false), (.b "dict", .b "tuple", false), (.b "dict", .b "ValueError", false), (.c "Stack", .b "int", false), (.c "Stack", .b "bool", false), (.c "Stack", .b "str", false), (.c "Stack", .b "list", false), (.c "Stack", .b "tuple", false), (.c "Stack", .b "ValueError", false), (.c "Scheme", .b "int", false), (.c "Scheme", .b "bool", false), (.c "Scheme", .b "str", false), (.c "Scheme", .b "list", false), (.c "Scheme", .b "tuple", false), (.c "Scheme", .b "ValueError", false), (.c "PressError", .b "int", false), (.c "PressError", .b "bool", false), (.c "PressError", .b "str", false), (.c "PressError", .b "list", false), (.c "PressError", .b "tuple", false), (.c "PressError", .b "ValueError", true), (.c "BadScheme", .b "int", false), (.c "BadScheme", .b "bool", false), (.c "BadScheme", .b "str", false), (.c "BadScheme", .b "list", false), (.c "BadScheme", .b "tuple", false), (.c "BadScheme", .b "ValueError", true), (.c "OutOfPlace", .b "int", false), (.c "OutOfPlace", .b "bool", false), (.c "OutOfPlace", .b "str", false), (.c "OutOfPlace", .b "list", false), (.c "OutOfPlace", .b "tuple", false), (.c "OutOfPlace", .b "ValueError", true)],
  excs := [⟨"PressError", [], none⟩, ⟨"BadScheme", ["at"], some f_BadScheme_init⟩, ⟨"OutOfPlace", [], none⟩] }
theorem ok_is_among_stack : FOk T f_is_among_stack := ⟨60, by decide +kernel, sc_is_among_stack, bd_is_among_stack⟩
theorem ok_next_leaf : FOk T f_next_leaf := ⟨60, by decide +kernel, sc_next_leaf, bd_next_leaf⟩
theorem ok_folded_line : FOk T f_folded_line := ⟨60, by decide +kernel, sc_folded_line, bd_folded_line⟩
theorem ok_across : FOk T f_across := ⟨60, by decide +kernel, sc_across, bd_across⟩
theorem ok_Stack_init : FOk T f_Stack_init := ⟨60, by decide +kernel, sc_Stack_init, bd_Stack_init⟩
theorem ok_Stack_size : FOk T f_Stack_size := ⟨60, by decide +kernel, sc_Stack_size, bd_Stack_size⟩
theorem ok_Stack_leaves_at : FOk T f_Stack_leaves_at := ⟨60, by decide +kernel, sc_Stack_leaves_at, bd_Stack_leaves_at⟩
theorem ok_Stack_all_leaves : FOk T f_Stack_all_leaves := ⟨60, by decide +kernel, sc_Stack_all_leaves, bd_Stack_all_leaves⟩
theorem ok_Stack_need_fold : FOk T f_Stack_need_fold := ⟨60, by decide +kernel, sc_Stack_need_fold, bd_Stack_need_fold⟩
theorem ok_Stack_fold_part : FOk T f_Stack_fold_part := ⟨60, by decide +kernel, sc_Stack_fold_part, bd_Stack_fold_part⟩
theorem ok_Stack_unfold : FOk T f_Stack_unfold := ⟨60, by decide +kernel, sc_Stack_unfold, bd_Stack_unfold⟩
theorem ok_Stack_copied : FOk T f_Stack_copied := ⟨60, by decide +kernel, sc_Stack_copied, bd_Stack_copied⟩
theorem ok_folded_stack : FOk T f_folded_stack := ⟨60, by decide +kernel, sc_folded_stack, bd_folded_stack⟩
theorem ok_is_whole : FOk T f_is_whole := ⟨60, by decide +kernel, sc_is_whole, bd_is_whole⟩
theorem ok_is_among_words : FOk T f_is_among_words := ⟨60, by decide +kernel, sc_is_among_words, bd_is_among_words⟩
theorem ok_is_size : FOk T f_is_size := ⟨60, by decide +kernel, sc_is_size, bd_is_size⟩
theorem ok_folded_size : FOk T f_folded_size := ⟨60, by decide +kernel, sc_folded_size, bd_folded_size⟩
theorem ok_Scheme_init : FOk T f_Scheme_init := ⟨60, by decide +kernel, sc_Scheme_init, bd_Scheme_init⟩
theorem ok_Scheme_told : FOk T f_Scheme_told := ⟨60, by decide +kernel, sc_Scheme_told, bd_Scheme_told⟩
theorem ok_l_drawn : FOk T f_l_drawn := ⟨60, by decide +kernel, sc_l_drawn, bd_l_drawn⟩
theorem ok_l_folds : FOk T f_l_folds := ⟨60, by decide +kernel, sc_l_folds, bd_l_folds⟩
theorem ok_l_scheme : FOk T f_l_scheme := ⟨60, by decide +kernel, sc_l_scheme, bd_l_scheme⟩
theorem ok_l_same : FOk T f_l_same := ⟨60, by decide +kernel, sc_l_same, bd_l_same⟩
theorem ok_l_begun : FOk T f_l_begun := ⟨60, by decide +kernel, sc_l_begun, bd_l_begun⟩
theorem ok_l_moved : FOk T f_l_moved := ⟨60, by decide +kernel, sc_l_moved, bd_l_moved⟩
theorem ok_l_size : FOk T f_l_size := ⟨60, by decide +kernel, sc_l_size, bd_l_size⟩
theorem ok_l_at : FOk T f_l_at := ⟨60, by decide +kernel, sc_l_at, bd_l_at⟩
theorem ok_l_leaves : FOk T f_l_leaves := ⟨60, by decide +kernel, sc_l_leaves, bd_l_leaves⟩
theorem ok_l_section : FOk T f_l_section := ⟨60, by decide +kernel, sc_l_section, bd_l_section⟩
theorem ok_l_stands : FOk T f_l_stands := ⟨60, by decide +kernel, sc_l_stands, bd_l_stands⟩
theorem ok_law : FOk T f_law := ⟨60, by decide +kernel, sc_law, bd_law⟩
theorem fn_is_among_stack : T.fns[i_is_among_stack]? = some f_is_among_stack := rfl
theorem fn_next_leaf : T.fns[i_next_leaf]? = some f_next_leaf := rfl
theorem fn_folded_line : T.fns[i_folded_line]? = some f_folded_line := rfl
theorem fn_across : T.fns[i_across]? = some f_across := rfl
theorem fn_folded_stack : T.fns[i_folded_stack]? = some f_folded_stack := rfl
theorem fn_is_whole : T.fns[i_is_whole]? = some f_is_whole := rfl
theorem fn_is_among_words : T.fns[i_is_among_words]? = some f_is_among_words := rfl
theorem fn_is_size : T.fns[i_is_size]? = some f_is_size := rfl
theorem fn_folded_size : T.fns[i_folded_size]? = some f_folded_size := rfl
theorem fn_l_drawn : T.fns[i_l_drawn]? = some f_l_drawn := rfl
theorem fn_l_folds : T.fns[i_l_folds]? = some f_l_folds := rfl
theorem fn_l_scheme : T.fns[i_l_scheme]? = some f_l_scheme := rfl
theorem fn_l_same : T.fns[i_l_same]? = some f_l_same := rfl
theorem fn_l_begun : T.fns[i_l_begun]? = some f_l_begun := rfl
theorem fn_l_moved : T.fns[i_l_moved]? = some f_l_moved := rfl
theorem fn_l_size : T.fns[i_l_size]? = some f_l_size := rfl
theorem fn_l_at : T.fns[i_l_at]? = some f_l_at := rfl
theorem fn_l_leaves : T.fns[i_l_leaves]? = some f_l_leaves := rfl
theorem fn_l_section : T.fns[i_l_section]? = some f_l_section := rfl
theorem fn_l_stands : T.fns[i_l_stands]? = some f_l_stands := rfl
theorem fn_law : T.fns[i_law]? = some f_law := rfl
theorem g_MOST_SIDE_stack : T.cons[j_MOST_SIDE_stack]? = some (("MOST_SIDE_stack" : Str), D.int 8) := rfl
theorem g_MOST_CELLS_stack : T.cons[j_MOST_CELLS_stack]? = some (("MOST_CELLS_stack" : Str), D.int 32) := rfl
theorem g_BY_COLUMNS : T.cons[j_BY_COLUMNS]? = some (("BY_COLUMNS" : Str), D.ft [.str "left", .str "right"]) := rfl
theorem g_BY_ROWS : T.cons[j_BY_ROWS]? = some (("BY_ROWS" : Str), D.ft [.str "top", .str "bottom"]) := rfl
theorem g_FROM_BEHIND : T.cons[j_FROM_BEHIND]? = some (("FROM_BEHIND" : Str), D.ft [.str "right", .str "bottom"]) := rfl
theorem g_WAYS_stack : T.cons[j_WAYS_stack]? = some (("WAYS_stack" : Str), D.ft [.str "over", .str "under"]) := rfl
theorem g_MOST_SIDE_scheme : T.cons[j_MOST_SIDE_scheme]? = some (("MOST_SIDE_scheme" : Str), D.int 8) := rfl
theorem g_MOST_CELLS_scheme : T.cons[j_MOST_CELLS_scheme]? = some (("MOST_CELLS_scheme" : Str), D.int 32) := rfl
theorem g_EDGES : T.cons[j_EDGES]? = some (("EDGES" : Str), D.ft [.str "left", .str "right", .str "top", .str "bottom"]) := rfl
theorem g_WAYS_scheme : T.cons[j_WAYS_scheme]? = some (("WAYS_scheme" : Str), D.ft [.str "over", .str "under"]) := rfl
theorem m_Stack_init : T.meth "Stack" "__init__" = some f_Stack_init := by kernel_rfl
theorem m_Stack_size : T.meth "Stack" "size" = some f_Stack_size := by kernel_rfl
theorem m_Stack_leaves_at : T.meth "Stack" "leaves_at" = some f_Stack_leaves_at := by kernel_rfl
theorem m_Stack_all_leaves : T.meth "Stack" "all_leaves" = some f_Stack_all_leaves := by kernel_rfl
theorem m_Stack_need_fold : T.meth "Stack" "need_fold" = some f_Stack_need_fold := by kernel_rfl
theorem m_Stack_fold_part : T.meth "Stack" "fold_part" = some f_Stack_fold_part := by kernel_rfl
theorem m_Stack_unfold : T.meth "Stack" "unfold" = some f_Stack_unfold := by kernel_rfl
theorem m_Stack_copied : T.meth "Stack" "copied" = some f_Stack_copied := by kernel_rfl
theorem m_Scheme_init : T.meth "Scheme" "__init__" = some f_Scheme_init := by kernel_rfl
theorem m_Scheme_told : T.meth "Scheme" "told" = some f_Scheme_told := by kernel_rfl
theorem isas : (T.isOne (.b "NoneType") [.b "int"] = some false) ∧
    (T.isOne (.b "NoneType") [.b "bool"] = some false) ∧
    (T.isOne (.b "NoneType") [.b "str"] = some false) ∧
    (T.isOne (.b "NoneType") [.b "list"] = some false) ∧
    (T.isOne (.b "NoneType") [.b "tuple"] = some false) ∧
    (T.isOne (.b "NoneType") [.b "ValueError"] = some false) ∧
    (T.isOne (.b "bool") [.b "int"] = some true) ∧
    (T.isOne (.b "bool") [.b "bool"] = some true) ∧
    (T.isOne (.b "bool") [.b "str"] = some false) ∧
    (T.isOne (.b "bool") [.b "list"] = some false) ∧
    (T.isOne (.b "bool") [.b "tuple"] = some false) ∧
    (T.isOne (.b "bool") [.b "ValueError"] = some false) ∧
    (T.isOne (.b "int") [.b "int"] = some true) ∧
    (T.isOne (.b "int") [.b "bool"] = some false) ∧
    (T.isOne (.b "int") [.b "str"] = some false) ∧
    (T.isOne (.b "int") [.b "list"] = some false) ∧
    (T.isOne (.b "int") [.b "tuple"] = some false) ∧
    (T.isOne (.b "int") [.b "ValueError"] = some false) ∧
    (T.isOne (.b "str") [.b "int"] = some false) ∧
    (T.isOne (.b "str") [.b "bool"] = some false) ∧
    (T.isOne (.b "str") [.b "str"] = some true) ∧
    (T.isOne (.b "str") [.b "list"] = some false) ∧
    (T.isOne (.b "str") [.b "tuple"] = some false) ∧
    (T.isOne (.b "str") [.b "ValueError"] = some false) ∧
    (T.isOne (.b "list") [.b "int"] = some false) ∧
    (T.isOne (.b "list") [.b "bool"] = some false) ∧
    (T.isOne (.b "list") [.b "str"] = some false) ∧
    (T.isOne (.b "list") [.b "list"] = some true) ∧
    (T.isOne (.b "list") [.b "tuple"] = some false) ∧
    (T.isOne (.b "list") [.b "ValueError"] = some false) ∧
    (T.isOne (.b "tuple") [.b "int"] = some false) ∧
    (T.isOne (.b "tuple") [.b "bool"] = some false) ∧
    (T.isOne (.b "tuple") [.b "str"] = some false) ∧
    (T.isOne (.b "tuple") [.b "list"] = some false) ∧
    (T.isOne (.b "tuple") [.b "tuple"] = some true) ∧
    (T.isOne (.b "tuple") [.b "ValueError"] = some false) ∧
    (T.isOne (.b "dict") [.b "int"] = some false) ∧
    (T.isOne (.b "dict") [.b "bool"] = some false) ∧
    (T.isOne (.b "dict") [.b "str"] = some false) ∧
    (T.isOne (.b "dict") [.b "list"] = some false) ∧
    (T.isOne (.b "dict") [.b "tuple"] = some false) ∧
    (T.isOne (.b "dict") [.b "ValueError"] = some false) ∧
    (T.isOne (.c "Stack") [.b "int"] = some false) ∧
    (T.isOne (.c "Stack") [.b "bool"] = some false) ∧
    (T.isOne (.c "Stack") [.b "str"] = some false) ∧
    (T.isOne (.c "Stack") [.b "list"] = some false) ∧
    (T.isOne (.c "Stack") [.b "tuple"] = some false) ∧
    (T.isOne (.c "Stack") [.b "ValueError"] = some false) ∧
    (T.isOne (.c "Scheme") [.b "int"] = some false) ∧
    (T.isOne (.c "Scheme") [.b "bool"] = some false) ∧
    (T.isOne (.c "Scheme") [.b "str"] = some false) ∧
    (T.isOne (.c "Scheme") [.b "list"] = some false) ∧
    (T.isOne (.c "Scheme") [.b "tuple"] = some false) ∧
    (T.isOne (.c "Scheme") [.b "ValueError"] = some false) ∧
    (T.isOne (.c "PressError") [.b "int"] = some false) ∧
    (T.isOne (.c "PressError") [.b "bool"] = some false) ∧
    (T.isOne (.c "PressError") [.b "str"] = some false) ∧
    (T.isOne (.c "PressError") [.b "list"] = some false) ∧
    (T.isOne (.c "PressError") [.b "tuple"] = some false) ∧
    (T.isOne (.c "PressError") [.b "ValueError"] = some true) ∧
    (T.isOne (.c "BadScheme") [.b "int"] = some false) ∧
    (T.isOne (.c "BadScheme") [.b "bool"] = some false) ∧
    (T.isOne (.c "BadScheme") [.b "str"] = some false) ∧
    (T.isOne (.c "BadScheme") [.b "list"] = some false) ∧
    (T.isOne (.c "BadScheme") [.b "tuple"] = some false) ∧
    (T.isOne (.c "BadScheme") [.b "ValueError"] = some true) ∧
    (T.isOne (.c "OutOfPlace") [.b "int"] = some false) ∧
    (T.isOne (.c "OutOfPlace") [.b "bool"] = some false) ∧
    (T.isOne (.c "OutOfPlace") [.b "str"] = some false) ∧
    (T.isOne (.c "OutOfPlace") [.b "list"] = some false) ∧
    (T.isOne (.c "OutOfPlace") [.b "tuple"] = some false) ∧
    (T.isOne (.c "OutOfPlace") [.b "ValueError"] = some true) ∧ True := by refine ⟨?_, ?_, ?_, ?_, ?_, ?_, ?_, ?_, ?_, ?_, ?_, ?_, ?_, ?_, ?_, ?_, ?_, ?_, ?_, ?_, ?_, ?_, ?_, ?_, ?_, ?_, ?_, ?_, ?_, ?_, ?_, ?_, ?_, ?_, ?_, ?_, ?_, ?_, ?_, ?_, ?_, ?_, ?_, ?_, ?_, ?_, ?_, ?_, ?_, ?_, ?_, ?_, ?_, ?_, ?_, ?_, ?_, ?_, ?_, ?_, ?_, ?_, ?_, ?_, ?_, ?_, ?_, ?_, ?_, ?_, ?_, ?_, trivial⟩ <;> kernel_rfl
theorem xis : (T.xi "PressError" = some ⟨"PressError", [], none⟩) ∧
    (T.xi "BadScheme" = some ⟨"BadScheme", ["at"], some f_BadScheme_init⟩) ∧
    (T.xi "OutOfPlace" = some ⟨"OutOfPlace", [], none⟩) ∧ True := by refine ⟨?_, ?_, ?_, trivial⟩ <;> kernel_rfl
theorem sok : (PyData.strOk "left" = true) ∧
    (PyData.strOk "right" = true) ∧
    (PyData.strOk "top" = true) ∧
    (PyData.strOk "bottom" = true) ∧
    (PyData.strOk "over" = true) ∧
    (PyData.strOk "under" = true) ∧
    (PyData.strOk "more" = true) ∧ True := by refine ⟨?_, ?_, ?_, ?_, ?_, ?_, ?_, trivial⟩ <;> kernel_rfl
theorem sne : ((("left" : Str) == "right") = false) ∧
    ((("left" : Str) == "top") = false) ∧
    ((("left" : Str) == "bottom") = false) ∧
    ((("left" : Str) == "over") = false) ∧
    ((("left" : Str) == "under") = false) ∧
    ((("left" : Str) == "more") = false) ∧
    ((("right" : Str) == "left") = false) ∧
    ((("right" : Str) == "top") = false) ∧
    ((("right" : Str) == "bottom") = false) ∧
    ((("right" : Str) == "over") = false) ∧
    ((("right" : Str) == "under") = false) ∧
    ((("right" : Str) == "more") = false) ∧
    ((("top" : Str) == "left") = false) ∧
    ((("top" : Str) == "right") = false) ∧
    ((("top" : Str) == "bottom") = false) ∧
    ((("top" : Str) == "over") = false) ∧
    ((("top" : Str) == "under") = false) ∧
    ((("top" : Str) == "more") = false) ∧
    ((("bottom" : Str) == "left") = false) ∧
    ((("bottom" : Str) == "right") = false) ∧
    ((("bottom" : Str) == "top") = false) ∧
    ((("bottom" : Str) == "over") = false) ∧
    ((("bottom" : Str) == "under") = false) ∧
    ((("bottom" : Str) == "more") = false) ∧
    ((("over" : Str) == "left") = false) ∧
    ((("over" : Str) == "right") = false) ∧
    ((("over" : Str) == "top") = false) ∧
    ((("over" : Str) == "bottom") = false) ∧
    ((("over" : Str) == "under") = false) ∧
    ((("over" : Str) == "more") = false) ∧
    ((("under" : Str) == "left") = false) ∧
    ((("under" : Str) == "right") = false) ∧
    ((("under" : Str) == "top") = false) ∧
    ((("under" : Str) == "bottom") = false) ∧
    ((("under" : Str) == "over") = false) ∧
    ((("under" : Str) == "more") = false) ∧
    ((("more" : Str) == "left") = false) ∧
    ((("more" : Str) == "right") = false) ∧
    ((("more" : Str) == "top") = false) ∧
    ((("more" : Str) == "bottom") = false) ∧
    ((("more" : Str) == "over") = false) ∧
    ((("more" : Str) == "under") = false) ∧ True := by refine ⟨?_, ?_, ?_, ?_, ?_, ?_, ?_, ?_, ?_, ?_, ?_, ?_, ?_, ?_, ?_, ?_, ?_, ?_, ?_, ?_, ?_, ?_, ?_, ?_, ?_, ?_, ?_, ?_, ?_, ?_, ?_, ?_, ?_, ?_, ?_, ?_, ?_, ?_, ?_, ?_, ?_, ?_, trivial⟩ <;> kernel_rfl
theorem all1 {α : Type} {p : α → Prop} {a : α} (h : p a) : ∀ x ∈ [a], p x := fun x hx => by rw [List.mem_singleton] at hx; subst hx; exact h
theorem allN {α : Type} {p : α → Prop} : ∀ x ∈ ([] : List α), p x := fun x hx => by cases hx
theorem allC {α : Type} {p : α → Prop} {a : α} {l : List α} (h : p a) (k : ∀ x ∈ l, p x) : ∀ x ∈ a :: l, p x := fun x hx => by
  rcases List.mem_cons.mp hx with e | e
  · subst e; exact h
  · exact k x e
theorem sta : Sta T where
  fns := allC ok_is_among_stack (allC ok_next_leaf (allC ok_folded_line (allC ok_across (allC ok_folded_stack (allC ok_is_whole (allC ok_is_among_words (allC ok_is_size (allC ok_folded_size (allC ok_l_drawn (allC ok_l_folds (allC ok_l_scheme (allC ok_l_same (allC ok_l_begun (allC ok_l_moved (allC ok_l_size (allC ok_l_at (allC ok_l_leaves (allC ok_l_section (allC ok_l_stands (allC ok_law allN))))))))))))))))))))
  mts := allC (allC ok_Stack_init (allC ok_Stack_size (allC ok_Stack_leaves_at (allC ok_Stack_all_leaves (allC ok_Stack_need_fold (allC ok_Stack_fold_part (allC ok_Stack_unfold (allC ok_Stack_copied allN)))))))) (allC (allC ok_Scheme_init (allC ok_Scheme_told allN)) allN)
  xis := allC (fun fi e => by cases e) (allC (fun fi e => by cases e; exact ⟨by decide +kernel, sc_BadScheme_init, bd_BadScheme_init, rfl, by decide, by decide, by decide +kernel⟩) (allC (fun fi e => by cases e) allN))
abbrev Rw : PySem.W.OpenRow := PySem.W.OpenLaw.row PySem.Challenge.rw_foldpress_k05_stacks_folded
abbrev hk : PySem.W.Hook := Pu.hookP 5 T
def ob (s : PySem.W.SharedT) : Pu.AlP := Pu.obsP 5 T (HandSHeadRun.getT s)
theorem ob_eq (s : PySem.W.SharedT) : ob s = hk.obs s.abs := Pu.obsP_eq (HandSHeadRun.getT_eq s)
def loose : List PySem.Str := ((["_wall", "PressError", "BadScheme", "OutOfPlace", "MOST_SIDE_stack", "MOST_CELLS_stack", "BY_COLUMNS", "BY_ROWS", "FROM_BEHIND", "WAYS_stack", "is_among", "is_among_stack", "next_leaf", "folded_line", "across", "Stack", "folded_stack", "is_whole", "is_among_words", "MOST_SIDE_scheme", "MOST_CELLS_scheme", "EDGES", "WAYS_scheme", "is_size"] : List PySem.Str) ++ (["folded_size", "Scheme", "_law_drawn", "_law_folds", "_law_scheme", "_law_same", "_law_begun", "_law_moved", "_law_size", "_law_at", "_law_leaves", "_law_section", "_law_stands"] : List PySem.Str))
theorem run (w : World) : HandSHeadRun.RunEq Rw (PySem.W.view Rw.prog [43]) hk ob 3000 loose w := by
  intro os
  kernel_rfl
end Lw
set_option Elab.async false
set_option linter.all false
set_option autoImplicit false
set_option maxRecDepth 100000
set_option maxHeartbeats 1000001
namespace Lw
open PySem Pu
/-! ### words.py, scheme.py -/
theorem is_whole_ok (n : Nat) (i : Int) : (evs T (n + 6)).f i_is_whole [.int i] = .ok (.per (.bl true)) := by kernel_rfl
theorem is_among_ok (n : Nat) (i a b : Int) : (evs T (n + 10)).f i_is_among_words [.int i, .int a, .int b] = .ok (.per (.bl (decide (a ≤ i) && decide (i ≤ b)))) := by
  rw [call_fn fn_is_among_words]
  by_cases h : a ≤ i <;> simp [callFI, runB, stepS, evP, evT, evPs, owL, own1, vwL, entE, entA, evs_o, evs_t, evs_b, stepO, stepT, step1, R.calm, Evs.dv, Evs.ds, Evs.os, Evs.ts, Evs.oi, Evs.it, Evs.pl, Ow.fr, frs, dTruth, dBin, dCmp, iCmp, dIdx, dSli, dAtt, dBlt, dBlt1, dBlt2, okN, Ow.nl, D.nl, nls, onls, outF, outM, self0, mkTup, pers, fzo, CT.setO, CTs.setO, putP, Tab.kd, tyN, evs_k, D.asS, D.asL, D.f0, D.in0, D.eq0, D.flat, flats, fdep, eqv_int, eqv_str, eqv_bl, eqv_lst, eqv_tup, eqvs_cons, eqvs_nil, eqvs_nc, eqvs_cn, isas, xis, sne, sok, f_is_among_words, b_is_among_words, is_whole_ok, h]
theorem is_size_ok (n : Nat) (r c : Int) : (evs T (n + 14)).f i_is_size [.int r, .int c] = .ok (.per (.bl ((decide (1 ≤ r) && decide (r ≤ 8)) && ((decide (1 ≤ c) && decide (c ≤ 8)) && decide (r * c ≤ 32))))) := by
  rw [call_fn fn_is_size]
  by_cases h1 : 1 ≤ r <;> by_cases h2 : r ≤ 8 <;> by_cases h3 : 1 ≤ c <;> by_cases h4 : c ≤ 8 <;> first
    | (have h5 : -18446744073709551616 < r ∧ r < 18446744073709551616 := ⟨by omega, by omega⟩
       simp [callFI, runB, stepS, evP, evT, evPs, owL, own1, vwL, entE, entA, evs_o, evs_t, evs_b, stepO, stepT, step1, R.calm, Evs.dv, Evs.ds, Evs.os, Evs.ts, Evs.oi, Evs.it, Evs.pl, Ow.fr, frs, dTruth, dBin, dCmp, iCmp, dIdx, dSli, dAtt, dBlt, dBlt1, dBlt2, okN, Ow.nl, D.nl, nls, onls, outF, outM, self0, mkTup, pers, fzo, CT.setO, CTs.setO, putP, Tab.kd, tyN, evs_k, D.asS, D.asL, D.f0, D.in0, D.eq0, D.flat, flats, fdep, eqv_int, eqv_str, eqv_bl, eqv_lst, eqv_tup, eqvs_cons, eqvs_nil, eqvs_nc, eqvs_cn, isas, xis, sne, sok, f_is_size, b_is_size, is_among_ok, g_MOST_SIDE_scheme, g_MOST_CELLS_scheme, h1, h2, h3, h4, h5])
    | simp [callFI, runB, stepS, evP, evT, evPs, owL, own1, vwL, entE, entA, evs_o, evs_t, evs_b, stepO, stepT, step1, R.calm, Evs.dv, Evs.ds, Evs.os, Evs.ts, Evs.oi, Evs.it, Evs.pl, Ow.fr, frs, dTruth, dBin, dCmp, iCmp, dIdx, dSli, dAtt, dBlt, dBlt1, dBlt2, okN, Ow.nl, D.nl, nls, onls, outF, outM, self0, mkTup, pers, fzo, CT.setO, CTs.setO, putP, Tab.kd, tyN, evs_k, D.asS, D.asL, D.f0, D.in0, D.eq0, D.flat, flats, fdep, eqv_int, eqv_str, eqv_bl, eqv_lst, eqv_tup, eqvs_cons, eqvs_nil, eqvs_nc, eqvs_cn, isas, xis, sne, sok, f_is_size, b_is_size, is_among_ok, g_MOST_SIDE_scheme, g_MOST_CELLS_scheme, h1, h2, h3, h4]
/-- the size that is left -/
def fsz (r c : Int) (e : Str) (m : Int) : Option (Int × Int) :=
  if e = "left" ∨ e = "right" then (if 1 ≤ m ∧ m ≤ c / 2 then some (r, c - m) else none) else (if 1 ≤ m ∧ m ≤ r / 2 then some (r - m, c) else none)
def enc2 : Option (Int × Int) → D
  | none => .non
  | some p => .tup [.int p.1, .int p.2]
def edges : List Str := ["left", "right", "top", "bottom"]
def ways : List Str := ["over", "under"]
def fo (e : Str) (m : Int) (w : Str) : D := .tup [.str e, .int m, .str w]
theorem folded_ok (n : Nat) (r c m : Int) (e w : Str) (he : e ∈ edges) (hw : w ∈ ways) : (evs T (n + 20)).f i_folded_size [.int r, .int c, fo e m w] = .ok (.per (enc2 (fsz r c e m))) := by
  rw [call_fn fn_folded_size]
  simp only [edges, ways, List.mem_cons, List.mem_nil_iff, or_false] at he hw
  have t1 : (("top" : Str) = "left") = False := by simp [← beq_iff_eq, sne]
  have t2 : (("top" : Str) = "right") = False := by simp [← beq_iff_eq, sne]
  have t3 : (("bottom" : Str) = "left") = False := by simp [← beq_iff_eq, sne]
  have t4 : (("bottom" : Str) = "right") = False := by simp [← beq_iff_eq, sne]
  by_cases h1 : 1 ≤ m <;> by_cases h2 : m ≤ c / 2 <;> by_cases h3 : m ≤ r / 2 <;> rcases he with rfl | rfl | rfl | rfl <;> rcases hw with rfl | rfl <;>
    simp [callFI, runB, stepS, evP, evT, evPs, owL, own1, vwL, entE, entA, evs_o, evs_t, evs_b, stepO, stepT, step1, R.calm, Evs.dv, Evs.ds, Evs.os, Evs.ts, Evs.oi, Evs.it, Evs.pl, Ow.fr, frs, dTruth, dBin, dCmp, iCmp, dIdx, dSli, dAtt, dBlt, dBlt1, dBlt2, okN, Ow.nl, D.nl, nls, onls, outF, outM, self0, mkTup, pers, fzo, CT.setO, CTs.setO, putP, Tab.kd, tyN, evs_k, D.asS, D.asL, D.f0, D.in0, D.eq0, D.flat, flats, fdep, eqv_int, eqv_str, eqv_bl, eqv_lst, eqv_tup, eqvs_cons, eqvs_nil, eqvs_nc, eqvs_cn, isas, xis, sne, sok, f_folded_size, b_folded_size, fo, is_among_ok, g_EDGES, g_WAYS_scheme, h1, h2, h3, fsz, enc2, t1, t2, t3, t4]
theorem enumD_cons (k : Int) (d : D) (ds : List D) : enumD k (d :: ds) = .tup [.int k, d] :: enumD (k + 1) ds := by
  simp only [enumD, List.mapIdx_cons]
  congr 1
  · simp
  · apply List.ext_getElem?
    intro i
    simp only [List.getElem?_mapIdx]
    cases ds[i]? with
    | none => rfl
    | some x =>
      simp only [Option.map_some, Option.some.injEq, D.tup.injEq, List.cons.injEq, D.int.injEq, and_true]
      push_cast
      omega
structure Fd where
  e : Str
  m : Int
  w : Str
def Fd.ok (f : Fd) : Prop := f.e ∈ edges ∧ f.w ∈ ways
def Fd.d (f : Fd) : D := fo f.e f.m f.w
def goods : Int × Int → List Fd → Option (Int × Int)
  | l, [] => some l
  | l, f :: fs => (match fsz l.1 l.2 f.e f.m with | some l1 => goods l1 fs | none => none)
def envI (r c : Int) (ds : List D) (l : D) (a b : Option Ow) : Ev := [some (.at 0 (.ins "Scheme" [] [])), some (.per (.int r)), some (.per (.int c)), some (.per (.lst ds)), some (.per l), a, b]
abbrev tgI : CT := .tp (.cons (.nm 5) (.cons (.nm 6) .nil))
abbrev bdI : List CS := [.asg (.nm 4) [] true (.call i_folded_size [(.idx (.var 4) (.cst (.int 0))), (.idx (.var 4) (.cst (.int 1))), (.var 6)]),
    .ife [] (.cmp .Is (.var 4) (.cst .non)) [.raise "BadScheme" [] [(.bin .Add (.var 5) (.cst (.int 1)))]] []]
theorem body_good (n : Nat) (r c k : Int) (ds : List D) (l l1 : Int × Int) (f : Fd) (hf : f.ok) (h : fsz l.1 l.2 f.e f.m = some l1) (a b : Option Ow) :
    (evs T (n + 26)).b (envI r c ds (enc2 (some l)) (some (.per (.int k))) (some (.per f.d))) bdI = some (.nx (envI r c ds (enc2 (some l1)) (some (.per (.int k))) (some (.per f.d)))) := by
  have hh : (evs T (n + 24)).f i_folded_size [.int l.1, .int l.2, fo f.e f.m f.w] = .ok (.per (enc2 (some l1))) := by
    rw [← h]
    exact folded_ok (n + 4) l.1 l.2 f.m f.e f.w hf.1 hf.2
  simp [callFI, runB, stepS, evP, evT, evPs, owL, own1, vwL, entE, entA, evs_o, evs_t, evs_b, stepO, stepT, step1, R.calm, Evs.dv, Evs.ds, Evs.os, Evs.ts, Evs.oi, Evs.it, Evs.pl, Ow.fr, frs, dTruth, dBin, dCmp, iCmp, dIdx, dSli, dAtt, dBlt, dBlt1, dBlt2, okN, Ow.nl, D.nl, nls, onls, outF, outM, self0, mkTup, pers, fzo, CT.setO, CTs.setO, putP, Tab.kd, tyN, evs_k, D.asS, D.asL, D.f0, D.in0, D.eq0, D.flat, flats, fdep, eqv_int, eqv_str, eqv_bl, eqv_lst, eqv_tup, eqvs_cons, eqvs_nil, eqvs_nc, eqvs_cn, isas, xis, sne, sok, envI, enc2, L2.atI, L2.ixN, Fd.d, D.isN, hh]
theorem loop_good (n : Nat) (r c : Int) (ds rest : List D) : ∀ (fs : List Fd) (k : Int) (l l' : Int × Int) (a b : Option Ow), (∀ f ∈ fs, f.ok) → goods l fs = some l' →
    ∃ a' b', forE (evs T (n + 26)) tgI bdI (enumD k (fs.map Fd.d ++ rest)) (envI r c ds (enc2 (some l)) a b) = forE (evs T (n + 26)) tgI bdI (enumD (k + fs.length) rest) (envI r c ds (enc2 (some l')) a' b')
  | [], k, l, l', a, b, _, h => by
    simp only [goods] at h
    cases h
    exact ⟨a, b, by simp⟩
  | f :: fs, k, l, l', a, b, hf, h => by
    simp only [goods] at h
    split at h
    · rename_i l1 h1
      obtain ⟨a', b', ih⟩ := loop_good n r c ds rest fs (k + 1) l1 l' (some (.per (.int k))) (some (.per f.d)) (fun g hg => hf g (List.mem_cons_of_mem _ hg)) h
      refine ⟨a', b', ?_⟩
      rw [List.map_cons, List.cons_append, enumD_cons]
      have hb := body_good n r c k ds l l1 f (hf f List.mem_cons_self) h1 a b
      have hs : tgI.setO (envI r c ds (enc2 (some l)) a b) (.per (.tup [.int k, f.d])) = some (envI r c ds (enc2 (some l)) (some (.per (.int k))) (some (.per f.d))) := by
        simp [CT.setO, CTs.setO, envI]
      simp only [forE, hs, hb]
      rw [ih]
      congr 2
      simp only [List.length_cons]
      push_cast
      omega
    · cases h
/-- a fold that can't be stops it -/
theorem body_bad (n : Nat) (r c k : Int) (ds : List D) (l : Int × Int) (d : D) (h : (evs T (n + 24)).f i_folded_size [.int l.1, .int l.2, d] = .ok (.per .non)) :
    (evs T (n + 26)).b (envI r c ds (enc2 (some l)) (some (.per (.int k))) (some (.per d))) bdI = some (.ex ⟨"BadScheme", ["at"], [.int (k + 1)]⟩ (envI r c ds .non (some (.per (.int k))) (some (.per d)))) := by
  simp [callFI, runB, stepS, evP, evT, evPs, owL, own1, vwL, entE, entA, evs_o, evs_t, evs_b, stepO, stepT, step1, R.calm, Evs.dv, Evs.ds, Evs.os, Evs.ts, Evs.oi, Evs.it, Evs.pl, Ow.fr, frs, dTruth, dBin, dCmp, iCmp, dIdx, dSli, dAtt, dBlt, dBlt1, dBlt2, okN, Ow.nl, D.nl, nls, onls, outF, outM, self0, mkTup, pers, fzo, CT.setO, CTs.setO, putP, Tab.kd, tyN, evs_k, D.asS, D.asL, D.f0, D.in0, D.eq0, D.flat, flats, fdep, eqv_int, eqv_str, eqv_bl, eqv_lst, eqv_tup, eqvs_cons, eqvs_nil, eqvs_nc, eqvs_cn, isas, xis, sne, sok, envI, enc2, L2.atI, L2.ixN, D.isN, h, Tab.mkX]
theorem told_ok (n : Nat) (r c : Int) (ds : List D) : (evs T (n + 12)).m "Scheme" "told" (.obj "Scheme" ["rows", "columns", "folds"] [.int r, .int c, .lst ds]) [] = .ok (.tup [.per (.int r), .per (.int c), .lst (ds.map .per)]) := by
  kernel_rfl
def szok (r c : Int) : Prop := (1 ≤ r ∧ r ≤ 8) ∧ (1 ≤ c ∧ c ≤ 8) ∧ r * c ≤ 32
theorem size_yes (n : Nat) (r c : Int) (h : szok r c) : (evs T (n + 14)).f i_is_size [.int r, .int c] = .ok (.per (.bl true)) := by
  obtain ⟨⟨h1, h2⟩, ⟨h3, h4⟩, h5⟩ := h
  rw [is_size_ok]
  simp [h1, h2, h3, h4, h5]
def env0 (r c : Int) (ds : List D) : Ev := [some (.at 0 (.ins "Scheme" [] [])), some (.per (.int r)), some (.per (.int c)), some (.per (.lst ds)), none, none, none]
theorem init_eq (n : Nat) (r c : Int) (ds : List D) : (evs T (n + 27)).io "Scheme" "__init__" (.ins "Scheme" [] []) [.int r, .int c, .lst ds] = outM (runB T (evs T (n + 26)) b_Scheme_init (env0 r c ds)) := by
  rw [evs_io]
  unfold stepIO
  rw [m_Scheme_init]
  rfl
theorem init_1 (n : Nat) (r c : Int) (ds : List D) (h : szok r c) : stepS T (evs T (n + 26)) (env0 r c ds) (.ife [] (.bop .Or (.not (.call i_is_size [(.var 1), (.var 2)])) (.not (.isa (.var 3) false [.b "list"]))) [.raise "BadScheme" [] [(.cst (.int 0))]] []) = some (.nx (env0 r c ds)) := by
  have hy : ∀ k, (evs T (k + 14)).f i_is_size [.int r, .int c] = .ok (.per (.bl true)) := fun k => size_yes k r c h
  simp [callFI, runB, stepS, evP, evT, evPs, owL, own1, vwL, entE, entA, evs_o, evs_t, evs_b, stepO, stepT, step1, R.calm, Evs.dv, Evs.ds, Evs.os, Evs.ts, Evs.oi, Evs.it, Evs.pl, Ow.fr, frs, dTruth, dBin, dCmp, iCmp, dIdx, dSli, dAtt, dBlt, dBlt1, dBlt2, okN, Ow.nl, D.nl, nls, onls, outF, outM, self0, mkTup, pers, fzo, CT.setO, CTs.setO, putP, Tab.kd, tyN, evs_k, D.asS, D.asL, D.f0, D.in0, D.eq0, D.flat, flats, fdep, eqv_int, eqv_str, eqv_bl, eqv_lst, eqv_tup, eqvs_cons, eqvs_nil, eqvs_nc, eqvs_cn, isas, xis, sne, sok, hy, env0]
theorem init_2 (n : Nat) (r c : Int) (ds : List D) : stepS T (evs T (n + 26)) (env0 r c ds) (.asg (.nm 4) [] true (.tup [(.var 1), (.var 2)])) = some (.nx (envI r c ds (enc2 (some (r, c))) none none)) := by
  simp [callFI, runB, stepS, evP, evT, evPs, owL, own1, vwL, entE, entA, evs_o, evs_t, evs_b, stepO, stepT, step1, R.calm, Evs.dv, Evs.ds, Evs.os, Evs.ts, Evs.oi, Evs.it, Evs.pl, Ow.fr, frs, dTruth, dBin, dCmp, iCmp, dIdx, dSli, dAtt, dBlt, dBlt1, dBlt2, okN, Ow.nl, D.nl, nls, onls, outF, outM, self0, mkTup, pers, fzo, CT.setO, CTs.setO, putP, Tab.kd, tyN, evs_k, D.asS, D.asL, D.f0, D.in0, D.eq0, D.flat, flats, fdep, eqv_int, eqv_str, eqv_bl, eqv_lst, eqv_tup, eqvs_cons, eqvs_nil, eqvs_nc, eqvs_cn, isas, xis, sne, sok, env0, envI, enc2]
theorem init_3 (n : Nat) (r c : Int) (ds : List D) : stepS T (evs T (n + 26)) (envI r c ds (enc2 (some (r, c))) none none) (.for_ tgI [] (.enum (.var 3) none) bdI) = forE (evs T (n + 26)) tgI bdI (enumD 0 ds) (envI r c ds (enc2 (some (r, c))) none none) := by
  simp [callFI, runB, stepS, evP, evT, evPs, owL, own1, vwL, entE, entA, evs_o, evs_t, evs_b, stepO, stepT, step1, R.calm, Evs.dv, Evs.ds, Evs.os, Evs.ts, Evs.oi, Evs.it, Evs.pl, Ow.fr, frs, dTruth, dBin, dCmp, iCmp, dIdx, dSli, dAtt, dBlt, dBlt1, dBlt2, okN, Ow.nl, D.nl, nls, onls, outF, outM, self0, mkTup, pers, fzo, CT.setO, CTs.setO, putP, Tab.kd, tyN, evs_k, D.asS, D.asL, D.f0, D.in0, D.eq0, D.flat, flats, fdep, eqv_int, eqv_str, eqv_bl, eqv_lst, eqv_tup, eqvs_cons, eqvs_nil, eqvs_nc, eqvs_cn, isas, xis, sne, sok, envI, enc2, CE.isRange]
theorem init_ok (n : Nat) (r c : Int) (fs : List Fd) (h : szok r c) (hf : ∀ f ∈ fs, f.ok) (hg : goods (r, c) fs = some (1, 1)) :
    (evs T (n + 27)).io "Scheme" "__init__" (.ins "Scheme" [] []) [.int r, .int c, .lst (fs.map Fd.d)] = .ok (.ins "Scheme" ["rows", "columns", "folds"] [.per (.int r), .per (.int c), .lst ((fs.map Fd.d).map .per)]) (.per .non) := by
  rw [init_eq]
  unfold b_Scheme_init
  rw [runB_nx (init_1 n r c _ h), runB_nx (init_2 n r c _)]
  obtain ⟨a, b, hl⟩ := loop_good n r c (fs.map Fd.d) [] fs 0 (r, c) (1, 1) none none hf hg
  rw [List.append_nil] at hl
  have h3 := init_3 n r c (fs.map Fd.d)
  rw [hl] at h3
  have h3' : stepS T (evs T (n + 26)) (envI r c (fs.map Fd.d) (enc2 (some (r, c))) none none) (.for_ tgI [] (.enum (.var 3) none) bdI) = some (.nx (envI r c (fs.map Fd.d) (enc2 (some (1, 1))) a b)) := by rw [h3]; rfl
  rw [runB_nx h3']
  generalize fs.map Fd.d = ds
  kernel_rfl
def bs (k : Int) : Xc := ⟨"BadScheme", ["at"], [.int k]⟩
theorem init_bad (n : Nat) (r c : Int) (fs : List Fd) (l : Int × Int) (d : D) (more : List D) (h : szok r c) (hf : ∀ f ∈ fs, f.ok) (hg : goods (r, c) fs = some l) (hb : ∀ k, (evs T (k + 20)).f i_folded_size [.int l.1, .int l.2, d] = .ok (.per .non)) :
    (evs T (n + 27)).io "Scheme" "__init__" (.ins "Scheme" [] []) [.int r, .int c, .lst (fs.map Fd.d ++ d :: more)] = .ex (bs (fs.length + 1)) (.ins "Scheme" [] []) := by
  rw [init_eq]
  unfold b_Scheme_init
  rw [runB_nx (init_1 n r c _ h), runB_nx (init_2 n r c _)]
  obtain ⟨a, b, hl⟩ := loop_good n r c (fs.map Fd.d ++ d :: more) (d :: more) fs 0 (r, c) l none none hf hg
  have h3 := init_3 n r c (fs.map Fd.d ++ d :: more)
  rw [hl, enumD_cons] at h3
  have hs : tgI.setO (envI r c (fs.map Fd.d ++ d :: more) (enc2 (some l)) a b) (.per (.tup [.int (0 + fs.length), d])) = some (envI r c (fs.map Fd.d ++ d :: more) (enc2 (some l)) (some (.per (.int (0 + fs.length)))) (some (.per d))) := by
    simp [CT.setO, CTs.setO, envI]
  have hbb := body_bad n r c (0 + fs.length) (fs.map Fd.d ++ d :: more) l d (hb (n + 4))
  simp only [forE, hs, hbb] at h3
  rw [runB_ex h3]
  simp [outM, self0, envI, bs]
theorem init_short (n : Nat) (r c : Int) (fs : List Fd) (l : Int × Int) (h : szok r c) (hf : ∀ f ∈ fs, f.ok) (hg : goods (r, c) fs = some l) (hl1 : l ≠ (1, 1)) :
    (evs T (n + 27)).io "Scheme" "__init__" (.ins "Scheme" [] []) [.int r, .int c, .lst (fs.map Fd.d)] = .ex (bs (fs.length + 1)) (.ins "Scheme" [] []) := by
  rw [init_eq]
  unfold b_Scheme_init
  rw [runB_nx (init_1 n r c _ h), runB_nx (init_2 n r c _)]
  obtain ⟨a, b, hl⟩ := loop_good n r c (fs.map Fd.d) [] fs 0 (r, c) l none none hf hg
  rw [List.append_nil] at hl
  have h3 := init_3 n r c (fs.map Fd.d)
  rw [hl] at h3
  have h3' : stepS T (evs T (n + 26)) (envI r c (fs.map Fd.d) (enc2 (some (r, c))) none none) (.for_ tgI [] (.enum (.var 3) none) bdI) = some (.nx (envI r c (fs.map Fd.d) (enc2 (some l)) a b)) := by rw [h3]; rfl
  rw [runB_nx h3']
  have hne : ¬ (l.1 = 1 ∧ l.2 = 1) := fun z => hl1 (by obtain ⟨x, y⟩ := l; simp at z; simp [z])
  have hq : ((l.1 == 1) && (l.2 == 1)) = false := by
    rw [Bool.eq_false_iff]
    intro z
    simp at z
    exact hne z
  have h4 : stepS T (evs T (n + 26)) (envI r c (fs.map Fd.d) (enc2 (some l)) a b) (.ife [] (.cmp .NotEq (.var 4) (.tup [(.cst (.int 1)), (.cst (.int 1))])) [.raise "BadScheme" [] [(.bin .Add (.blt .len [(.var 3)]) (.cst (.int 1)))]] []) = some (.ex (bs (fs.length + 1)) (envI r c (fs.map Fd.d) (enc2 (some l)) a b)) := by
    by_cases e1 : l.1 = 1
    · have e2 : (l.2 == 1) = false := by
        rw [Bool.eq_false_iff]
        intro z
        exact hne ⟨e1, by simpa using z⟩
      simp [callFI, runB, stepS, evP, evT, evPs, owL, own1, vwL, entE, entA, evs_o, evs_t, evs_b, stepO, stepT, step1, R.calm, Evs.dv, Evs.ds, Evs.os, Evs.ts, Evs.oi, Evs.it, Evs.pl, Ow.fr, frs, dTruth, dBin, dCmp, iCmp, dIdx, dSli, dAtt, dBlt, dBlt1, dBlt2, okN, Ow.nl, D.nl, nls, onls, outF, outM, self0, mkTup, pers, fzo, CT.setO, CTs.setO, putP, Tab.kd, tyN, evs_k, D.asS, D.asL, D.f0, D.in0, D.eq0, D.flat, flats, fdep, eqv_int, eqv_str, eqv_bl, eqv_lst, eqv_tup, eqvs_cons, eqvs_nil, eqvs_nc, eqvs_cn, isas, xis, sne, sok, envI, enc2, Tab.mkX, bs, e1, e2]
    · have e2 : (l.1 == 1) = false := by simpa using e1
      simp [callFI, runB, stepS, evP, evT, evPs, owL, own1, vwL, entE, entA, evs_o, evs_t, evs_b, stepO, stepT, step1, R.calm, Evs.dv, Evs.ds, Evs.os, Evs.ts, Evs.oi, Evs.it, Evs.pl, Ow.fr, frs, dTruth, dBin, dCmp, iCmp, dIdx, dSli, dAtt, dBlt, dBlt1, dBlt2, okN, Ow.nl, D.nl, nls, onls, outF, outM, self0, mkTup, pers, fzo, CT.setO, CTs.setO, putP, Tab.kd, tyN, evs_k, D.asS, D.asL, D.f0, D.in0, D.eq0, D.flat, flats, fdep, eqv_int, eqv_str, eqv_bl, eqv_lst, eqv_tup, eqvs_cons, eqvs_nil, eqvs_nc, eqvs_cn, isas, xis, sne, sok, envI, enc2, Tab.mkX, bs, e2]
  rw [runB_ex h4]
  simp [outM, self0, envI]

end Lw

set_option Elab.async false
set_option linter.all false
set_option autoImplicit false
set_option maxRecDepth 100000
set_option maxHeartbeats 1000001
namespace Lw
open PySem Pu
/-! ### stack.py -/
theorem among_ok (n : Nat) (i a b : Int) : (evs T (n + 10)).f i_is_among_stack [.int i, .int a, .int b] = .ok (.per (.bl (decide (a ≤ i) && decide (i ≤ b)))) := by
  rw [call_fn fn_is_among_stack]
  by_cases h : a ≤ i <;> simp [callFI, runB, stepS, evP, evT, evPs, owL, own1, vwL, entE, entA, evs_o, evs_t, evs_b, stepO, stepT, step1, R.calm, Evs.dv, Evs.ds, Evs.os, Evs.ts, Evs.oi, Evs.it, Evs.pl, Ow.fr, frs, dTruth, dBin, dCmp, iCmp, dIdx, dSli, dAtt, dBlt, dBlt1, dBlt2, okN, Ow.nl, D.nl, nls, onls, outF, outM, self0, mkTup, pers, fzo, CT.setO, CTs.setO, putP, Tab.kd, tyN, evs_k, D.asS, D.asL, D.f0, D.in0, D.eq0, D.flat, flats, fdep, eqv_int, eqv_str, eqv_bl, eqv_lst, eqv_tup, eqvs_cons, eqvs_nil, eqvs_nc, eqvs_cn, isas, xis, sne, sok, f_is_among_stack, b_is_among_stack, h]
structure Lf where
  r : Int
  c : Int
  s : Bool
  t : Bool
def Lf.d (l : Lf) : D := .tup [.int l.r, .int l.c, .bl l.s, .bl l.t]
/-- turned over once more -/
def Lf.nx (b : Bool) (l : Lf) : Lf := ⟨l.r, l.c, if b then l.s else !l.s, if b then !l.t else l.t⟩
abbrev Pile := List Lf
def pileD (p : Pile) : D := .lst (p.map Lf.d)
def lineD (ps : List Pile) : D := .lst (ps.map pileD)
def gridD (g : List (List Pile)) : D := .lst (g.map lineD)
theorem next_ok (n : Nat) (l : Lf) (b : Bool) : (evs T (n + 8)).f i_next_leaf [l.d, .bl b] = .ok (.per (l.nx b).d) := by
  rw [call_fn fn_next_leaf]
  cases b <;> simp [callFI, runB, stepS, evP, evT, evPs, owL, own1, vwL, entE, entA, evs_o, evs_t, evs_b, stepO, stepT, step1, R.calm, Evs.dv, Evs.ds, Evs.os, Evs.ts, Evs.oi, Evs.it, Evs.pl, Ow.fr, frs, dTruth, dBin, dCmp, iCmp, dIdx, dSli, dAtt, dBlt, dBlt1, dBlt2, okN, Ow.nl, D.nl, nls, onls, outF, outM, self0, mkTup, pers, fzo, CT.setO, CTs.setO, putP, Tab.kd, tyN, evs_k, D.asS, D.asL, D.f0, D.in0, D.eq0, D.flat, flats, fdep, eqvI, eqv_str, eqv_bl, eqv_lst, eqv_tup, eqvs_cons, eqvs_nil, eqvs_nc, eqvs_cn, isas, xis, sne, sok, dNeg, dRev, look, keyT, D.isN, Tab.mkX, frs_per, Ow.strip, Ow.isAt, Ow.put, Ow.over, frs_app, Ow.kids, Ow.setKids, -List.map_map, -List.map_take, -List.map_drop, f_next_leaf, b_next_leaf, Lf.d, Lf.nx]
/-! ### a line -/
def turnP (b : Bool) (p : Pile) : Pile := p.reverse.map (Lf.nx b)
def onP (over : Bool) (m y : Pile) : Pile := if over then m ++ y else y ++ m
/-- the piles of the first list, one by one, come to the second's -/
def lay (over b : Bool) : List Pile → List Pile → List Pile
  | [], ys => ys
  | _ :: _, [] => []
  | m :: ms, y :: ys => onP over (turnP b m) y :: lay over b ms ys
def foldL (over b : Bool) (ps : List Pile) (m : Nat) : List Pile := lay over b (ps.take m).reverse (ps.drop m)
def wayS (over : Bool) : Str := if over then "over" else "under"
def ownP (p : Pile) : Ow := .lst ((p.map Lf.d).map .per)
def envL (ps : List Pile) (m : Nat) (over b : Bool) (don rest : List Pile) (x5 x6 x7 x8 : Option Ow) : Ev :=
  [some (.per (lineD ps)), some (.per (.int m)), some (.per (.str (wayS over))), some (.per (.bl b)), some (.lst ((don.map pileD).map .per ++ rest.map ownP)), x5, x6, x7, x8]
theorem ownP_fr (p : Pile) : (ownP p).fr = pileD p := by simp only [ownP, Ow.fr, frs_per, pileD]
theorem frs_own (ps : List Pile) : frs (ps.map ownP) = ps.map pileD := by
  rw [frs_map]
  simp only [ownP_fr]
abbrev bdL : List CS := [.asgLc 7 true [] [8] (.nm 8) (.reved (.var 6)) [] (.call i_next_leaf [(.var 8), (.var 3)]),
    .ife [] (.cmp .Eq (.var 2) (.cst (.str "over"))) [.setI (.var 4) (.var 5) [4] true (.bin .Add (.var 7) (.idx (.var 4) (.var 5)))] [.setI (.var 4) (.var 5) [4] true (.bin .Add (.idx (.var 4) (.var 5)) (.var 7))]]
theorem nl_leaf (l : Lf) : l.d.nl = true := by simp [Lf.d, D.nl, nls]
theorem nls_pile (p : Pile) : nls (p.map Lf.d) = true := nls_map p nl_leaf
theorem evP_nil (E : Evs) (env : Ev) (e : CE) : evP E [] env e = E.o env e := by
  unfold evP
  cases h : E.o (vwL [] env) e <;> simp only [vwL] at h <;> simp [vwL, owL, h]
theorem lend_nil (E : Evs) (env : Ev) (e : CE) : (lendE E []).o env e = E.o env e := evP_nil E env e
theorem revL (p : Pile) : (p.map Lf.d).reverse = p.reverse.map Lf.d := List.map_reverse.symm
theorem turn_d (b : Bool) (p : Pile) : (turnP b p).map Lf.d = (p.reverse.map fun l => (l.nx b).d) := by simp [turnP, Function.comp_def]
theorem stepL1 (n : Nat) (ps : List Pile) (m : Nat) (over b : Bool) (don rest : List Pile) (x5 : Option Ow) (q : Pile) (hq : q.length ≤ 1000) (x7 x8 : Option Ow) :
    stepS T (evs T (n + 12)) (envL ps m over b don rest x5 (some (.per (pileD q))) x7 x8) (.asgLc 7 true [] [8] (.nm 8) (.reved (.var 6)) [] (.call i_next_leaf [(.var 8), (.var 3)])) = some (.nx (envL ps m over b don rest x5 (some (.per (pileD q))) (some (.per (pileD (turnP b q)))) x8)) := by
  have hz : q.reverse.length ≤ sizeLine := by rw [sizeLine_eq, List.length_reverse]; omega
  have hit : (evs T (n + 12)).it (envL ps m over b don rest x5 (some (.per (pileD q))) x7 x8) (.reved (.var 6)) = .ok (q.reverse.map Lf.d) := by
    rw [← revL]
    simp [callFI, runB, stepS, evP, evT, evPs, owL, own1, vwL, entE, entA, evs_o, evs_t, evs_b, stepO, stepT, step1, R.calm, Evs.dv, Evs.ds, Evs.os, Evs.ts, Evs.oi, Evs.it, Evs.pl, Ow.fr, frs, dTruth, dBin, dCmp, iCmp, dIdx, dSli, dAtt, dBlt, dBlt1, dBlt2, okN, Ow.nl, D.nl, nls, onls, outF, outM, self0, mkTup, pers, fzo, CT.setO, CTs.setO, putP, Tab.kd, tyN, evs_k, D.asS, D.asL, D.f0, D.in0, D.eq0, D.flat, flats, fdep, eqvI, eqv_str, eqv_bl, eqv_lst, eqv_tup, eqvs_cons, eqvs_nil, eqvs_nc, eqvs_cn, isas, xis, sne, sok, dNeg, dRev, look, keyT, D.isN, Tab.mkX, frs_per, Ow.strip, Ow.isAt, Ow.put, Ow.over, frs_app, Ow.kids, Ow.setKids, -List.map_map, -List.map_take, -List.map_drop, envL, pileD]
  have hlc := lc_map (E := lendE (evs T (n + 12)) []) (env := wipeE (envL ps m over b don rest x5 (some (.per (pileD q))) x7 x8) [8]) (t := .nm 8) (elt := .call i_next_leaf [(.var 8), (.var 3)]) Lf.d (fun l => .per (l.nx b).d) q.reverse fun l _ => ⟨envL ps m over b don rest x5 (some (.per (pileD q))) x7 (some (.per l.d)), by simp [CT.setO, envL, wipeE], by
    show evP (evs T (n + 12)) [] _ _ = _
    rw [evP_nil]
    have := fun j => next_ok j l b
    simp [callFI, runB, stepS, evP, evT, evPs, owL, own1, vwL, entE, entA, evs_o, evs_t, evs_b, stepO, stepT, step1, R.calm, Evs.dv, Evs.ds, Evs.os, Evs.ts, Evs.oi, Evs.it, Evs.pl, Ow.fr, frs, dTruth, dBin, dCmp, iCmp, dIdx, dSli, dAtt, dBlt, dBlt1, dBlt2, okN, Ow.nl, D.nl, nls, onls, outF, outM, self0, mkTup, pers, fzo, CT.setO, CTs.setO, putP, Tab.kd, tyN, evs_k, D.asS, D.asL, D.f0, D.in0, D.eq0, D.flat, flats, fdep, eqvI, eqv_str, eqv_bl, eqv_lst, eqv_tup, eqvs_cons, eqvs_nil, eqvs_nc, eqvs_cn, isas, xis, sne, sok, dNeg, dRev, look, keyT, D.isN, Tab.mkX, frs_per, Ow.strip, Ow.isAt, Ow.put, Ow.over, frs_app, Ow.kids, Ow.setKids, -List.map_map, -List.map_take, -List.map_drop, envL, this]⟩
  have hd : (q.reverse.map fun l => Ow.per (l.nx b).d) = ((turnP b q).map Lf.d).map .per := by rw [turn_d, List.map_map]; rfl
  simp only [stepS, hit, hlc, List.length_map, hz, hd]
  simp [envL, fzo, Ow.fr, frs_per, pileD, -List.map_map]
theorem getM (don rest : List Pile) (y : Pile) : (don.map pileD ++ (y :: rest).map pileD)[don.length]? = some (pileD y) := by simp
def envG (ld : D) (m : Int) (over b : Bool) (L : List Ow) (j : Int) (x6 : Option Ow) (q : Pile) (x8 : Option Ow) : Ev :=
  [some (.per ld), some (.per (.int m)), some (.per (.str (wayS over))), some (.per (.bl b)), some (.lst L), some (.per (.int j)), x6, some (.per (.lst (q.map Lf.d))), x8]
theorem stepG (n : Nat) (ld : D) (m : Int) (over b : Bool) (L : List Ow) (ds : List D) (j : Int) (k : Nat) (y q : Pile) (hfr : frs L = ds) (hat : L2.atI ds j = some (.lst (y.map Lf.d))) (hix : L2.ixN L.length j = some k) (hq : q.length ≤ 1000) (hy : y.length ≤ 1000) (x6 x8 : Option Ow) :
    stepS T (evs T (n + 12)) (envG ld m over b L j x6 q x8) (.ife [] (.cmp .Eq (.var 2) (.cst (.str "over"))) [.setI (.var 4) (.var 5) [4] true (.bin .Add (.var 7) (.idx (.var 4) (.var 5)))] [.setI (.var 4) (.var 5) [4] true (.bin .Add (.idx (.var 4) (.var 5)) (.var 7))]) =
      some (.nx (envG ld m over b (L.set k (.per (pileD (onP over q y)))) j x6 q x8)) := by
  have hz1 : q.length + y.length ≤ sizeLine := by rw [sizeLine_eq]; omega
  have hz2 : y.length + q.length ≤ sizeLine := by rw [sizeLine_eq]; omega
  have nq := nls_pile q
  have ny := nls_pile y
  have e1 : evP (evs T (n + 11)) [4] (envG ld m over b L j x6 q x8) (.bin .Add (.var 7) (.idx (.var 4) (.var 5))) = .ok (.lst (((q ++ y).map Lf.d).map .per)) := by
    have nn := nls_pile (q ++ y)
    rw [← onls_per, List.map_append, List.map_append] at nn
    simp [callFI, runB, stepS, evP, evT, evPs, owL, own1, vwL, entE, entA, evs_o, evs_t, evs_b, stepO, stepT, step1, R.calm, Evs.dv, Evs.ds, Evs.os, Evs.ts, Evs.oi, Evs.it, Evs.pl, Ow.fr, frs, dTruth, dBin, dCmp, iCmp, dIdx, dSli, dAtt, dBlt, dBlt1, dBlt2, okN, Ow.nl, D.nl, nls, onls, outF, outM, self0, mkTup, pers, fzo, CT.setO, CTs.setO, putP, Tab.kd, tyN, evs_k, D.asS, D.asL, D.f0, D.in0, D.eq0, D.flat, flats, fdep, eqvI, eqv_str, eqv_bl, eqv_lst, eqv_tup, eqvs_cons, eqvs_nil, eqvs_nc, eqvs_cn, isas, xis, sne, sok, dNeg, dRev, look, keyT, D.isN, Tab.mkX, frs_per, Ow.strip, Ow.isAt, Ow.put, Ow.over, frs_app, Ow.kids, Ow.setKids, -List.map_map, -List.map_take, -List.map_drop, envG, hfr, hat, hz1, nn]
  have e2 : evP (evs T (n + 11)) [4] (envG ld m over b L j x6 q x8) (.bin .Add (.idx (.var 4) (.var 5)) (.var 7)) = .ok (.lst (((y ++ q).map Lf.d).map .per)) := by
    have nn := nls_pile (y ++ q)
    rw [← onls_per, List.map_append, List.map_append] at nn
    simp [callFI, runB, stepS, evP, evT, evPs, owL, own1, vwL, entE, entA, evs_o, evs_t, evs_b, stepO, stepT, step1, R.calm, Evs.dv, Evs.ds, Evs.os, Evs.ts, Evs.oi, Evs.it, Evs.pl, Ow.fr, frs, dTruth, dBin, dCmp, iCmp, dIdx, dSli, dAtt, dBlt, dBlt1, dBlt2, okN, Ow.nl, D.nl, nls, onls, outF, outM, self0, mkTup, pers, fzo, CT.setO, CTs.setO, putP, Tab.kd, tyN, evs_k, D.asS, D.asL, D.f0, D.in0, D.eq0, D.flat, flats, fdep, eqvI, eqv_str, eqv_bl, eqv_lst, eqv_tup, eqvs_cons, eqvs_nil, eqvs_nc, eqvs_cn, isas, xis, sne, sok, dNeg, dRev, look, keyT, D.isN, Tab.mkX, frs_per, Ow.strip, Ow.isAt, Ow.put, Ow.over, frs_app, Ow.kids, Ow.setKids, -List.map_map, -List.map_take, -List.map_drop, envG, hfr, hat, hz2, nn]
  have e3 : evP (evs T (n + 11)) [4] (envG ld m over b L j x6 q x8) (.var 5) = .ok (.per (.int j)) := by
    simp [callFI, runB, stepS, evP, evT, evPs, owL, own1, vwL, entE, entA, evs_o, evs_t, evs_b, stepO, stepT, step1, R.calm, Evs.dv, Evs.ds, Evs.os, Evs.ts, Evs.oi, Evs.it, Evs.pl, Ow.fr, frs, dTruth, dBin, dCmp, iCmp, dIdx, dSli, dAtt, dBlt, dBlt1, dBlt2, okN, Ow.nl, D.nl, nls, onls, outF, outM, self0, mkTup, pers, fzo, CT.setO, CTs.setO, putP, Tab.kd, tyN, evs_k, D.asS, D.asL, D.f0, D.in0, D.eq0, D.flat, flats, fdep, eqvI, eqv_str, eqv_bl, eqv_lst, eqv_tup, eqvs_cons, eqvs_nil, eqvs_nc, eqvs_cn, isas, xis, sne, sok, dNeg, dRev, look, keyT, D.isN, Tab.mkX, frs_per, Ow.strip, Ow.isAt, Ow.put, Ow.over, frs_app, Ow.kids, Ow.setKids, -List.map_map, -List.map_take, -List.map_drop, envG]
  have e4 : Evs.pl T (evs T (n + 11)) (envG ld m over b L j x6 q x8) (.var 4) = some (4, [], .lst L) := by
    simp [Evs.pl, envG, Ow.strip]
  cases over
  · have ht : evT (evs T (n + 12)) [] (envG ld m false b L j x6 q x8) (.cmp .Eq (.var 2) (.cst (.str "over"))) = .ok false := by
      simp [callFI, runB, stepS, evP, evT, evPs, owL, own1, vwL, entE, entA, evs_o, evs_t, evs_b, stepO, stepT, step1, R.calm, Evs.dv, Evs.ds, Evs.os, Evs.ts, Evs.oi, Evs.it, Evs.pl, Ow.fr, frs, dTruth, dBin, dCmp, iCmp, dIdx, dSli, dAtt, dBlt, dBlt1, dBlt2, okN, Ow.nl, D.nl, nls, onls, outF, outM, self0, mkTup, pers, fzo, CT.setO, CTs.setO, putP, Tab.kd, tyN, evs_k, D.asS, D.asL, D.f0, D.in0, D.eq0, D.flat, flats, fdep, eqvI, eqv_str, eqv_bl, eqv_lst, eqv_tup, eqvs_cons, eqvs_nil, eqvs_nc, eqvs_cn, isas, xis, sne, sok, dNeg, dRev, look, keyT, D.isN, Tab.mkX, frs_per, Ow.strip, Ow.isAt, Ow.put, Ow.over, frs_app, Ow.kids, Ow.setKids, -List.map_map, -List.map_take, -List.map_drop, envG, wayS]
    simp only [stepS, ht]
    rw [evs_b, runB_nx (e := envG ld m false b (L.set k (.per (pileD (onP false q y)))) j x6 q x8)]
    · rfl
    · simp only [stepS, e2, e3, e4, hix]
      simp [putP, envG, fzo, Ow.isAt, Ow.put, Ow.over, onP, Ow.fr, frs_per, pileD, -List.map_map, -List.map_append]
  · have ht : evT (evs T (n + 12)) [] (envG ld m true b L j x6 q x8) (.cmp .Eq (.var 2) (.cst (.str "over"))) = .ok true := by
      simp [callFI, runB, stepS, evP, evT, evPs, owL, own1, vwL, entE, entA, evs_o, evs_t, evs_b, stepO, stepT, step1, R.calm, Evs.dv, Evs.ds, Evs.os, Evs.ts, Evs.oi, Evs.it, Evs.pl, Ow.fr, frs, dTruth, dBin, dCmp, iCmp, dIdx, dSli, dAtt, dBlt, dBlt1, dBlt2, okN, Ow.nl, D.nl, nls, onls, outF, outM, self0, mkTup, pers, fzo, CT.setO, CTs.setO, putP, Tab.kd, tyN, evs_k, D.asS, D.asL, D.f0, D.in0, D.eq0, D.flat, flats, fdep, eqvI, eqv_str, eqv_bl, eqv_lst, eqv_tup, eqvs_cons, eqvs_nil, eqvs_nc, eqvs_cn, isas, xis, sne, sok, dNeg, dRev, look, keyT, D.isN, Tab.mkX, frs_per, Ow.strip, Ow.isAt, Ow.put, Ow.over, frs_app, Ow.kids, Ow.setKids, -List.map_map, -List.map_take, -List.map_drop, envG, wayS]
    simp only [stepS, ht]
    rw [evs_b, runB_nx (e := envG ld m true b (L.set k (.per (pileD (onP true q y)))) j x6 q x8)]
    · rfl
    · simp only [stepS, e1, e3, e4, hix]
      simp [putP, envG, fzo, Ow.isAt, Ow.put, Ow.over, onP, Ow.fr, frs_per, pileD, -List.map_map, -List.map_append]
theorem bodyL (n : Nat) (ps : List Pile) (m : Nat) (over b : Bool) (don rest : List Pile) (y q : Pile) (hq : q.length ≤ 1000) (hy : y.length ≤ 1000) (x7 x8 : Option Ow) :
    (evs T (n + 13)).b (envL ps m over b don (y :: rest) (some (.per (.int don.length))) (some (.per (pileD q))) x7 x8) bdL = some (.nx (envL ps m over b (don ++ [onP over (turnP b q) y]) rest (some (.per (.int don.length))) (some (.per (pileD q))) (some (.per (pileD (turnP b q)))) x8)) := by
  have hq2 : (turnP b q).length ≤ 1000 := by simpa [turnP] using hq
  have h2 := stepG n (lineD ps) m over b ((don.map pileD).map Ow.per ++ (y :: rest).map ownP) (don.map pileD ++ (y :: rest).map pileD) don.length don.length y (turnP b q) (by rw [frs_app, frs_per, frs_own]) (by rw [atI_nat, getM]; rfl) (by
    unfold L2.ixN
    rw [if_pos (by omega), if_pos (by simp; omega)]
    simp) hq2 hy (some (.per (pileD q))) x8
  have hset : ∀ v : Ow, ((don.map pileD).map Ow.per ++ (y :: rest).map ownP).set don.length v = (don.map pileD).map Ow.per ++ v :: rest.map ownP := fun v => by
    rw [List.set_append_right _ _ (by simp)]
    simp
  rw [hset] at h2
  rw [evs_b, runB_nx (stepL1 n ps m over b don (y :: rest) _ q hq x7 x8), runB_nx (e := envL ps m over b (don ++ [onP over (turnP b q) y]) rest (some (.per (.int don.length))) (some (.per (pileD q))) (some (.per (pileD (turnP b q)))) x8)]
  · rfl
  · have ee : envL ps m over b don (y :: rest) (some (.per (.int don.length))) (some (.per (pileD q))) (some (.per (pileD (turnP b q)))) x8 = envG (lineD ps) m over b ((don.map pileD).map Ow.per ++ (y :: rest).map ownP) don.length (some (.per (pileD q))) (turnP b q) x8 := rfl
    rw [ee, h2]
    simp only [envG, envL, List.map_append, List.map_cons, List.map_nil, List.append_assoc, List.singleton_append, pileD]
theorem loopL (n : Nat) (ps : List Pile) (m : Nat) (over b : Bool) : ∀ (qs don rest : List Pile) (x5 x6 x7 x8 : Option Ow), qs.length ≤ rest.length → (∀ q ∈ qs, q.length ≤ 1000) → (∀ q ∈ rest, q.length ≤ 1000) →
    ∃ y5 y6 y7, forE (evs T (n + 13)) (.tp (.cons (.nm 5) (.cons (.nm 6) .nil))) bdL (enumD don.length (qs.map pileD)) (envL ps m over b don rest x5 x6 x7 x8) = some (.nx (envL ps m over b (don ++ (lay over b qs rest).take qs.length) (rest.drop qs.length) y5 y6 y7 x8))
  | [], don, rest, x5, x6, x7, x8, _, _, _ => ⟨x5, x6, x7, by simp [forE, enumD]⟩
  | q :: qs, don, [], x5, x6, x7, x8, h, _, _ => by simp at h
  | q :: qs, don, y :: rest, x5, x6, x7, x8, h, hq, hy => by
    have hb := bodyL n ps m over b don rest y q (hq q List.mem_cons_self) (hy y List.mem_cons_self) x7 x8
    obtain ⟨y5, y6, y7, ih⟩ := loopL n ps m over b qs (don ++ [onP over (turnP b q) y]) rest (some (.per (.int don.length))) (some (.per (pileD q))) (some (.per (pileD (turnP b q)))) x8 (by simpa using h) (fun z hz => hq z (List.mem_cons_of_mem _ hz)) (fun z hz => hy z (List.mem_cons_of_mem _ hz))
    refine ⟨y5, y6, y7, ?_⟩
    have hs : (CT.tp (.cons (.nm 5) (.cons (.nm 6) .nil))).setO (envL ps m over b don (y :: rest) x5 x6 x7 x8) (.per (.tup [.int don.length, pileD q])) = some (envL ps m over b don (y :: rest) (some (.per (.int don.length))) (some (.per (pileD q))) x7 x8) := by simp [CT.setO, CTs.setO, envL]
    rw [List.map_cons, enumD_cons]
    simp only [forE, hs, hb]
    have e : (don.length : Int) + 1 = ((don ++ [onP over (turnP b q) y]).length : Nat) := by simp
    rw [e, ih]
    simp [lay]

end Lw

set_option Elab.async false
set_option linter.all false
set_option autoImplicit false
set_option maxRecDepth 100000
set_option maxHeartbeats 1000001
namespace Lw
open PySem Pu
theorem lay_len (over b : Bool) : ∀ qs rest : List Pile, qs.length ≤ rest.length → (lay over b qs rest).length = rest.length
  | [], rest, _ => rfl
  | _ :: _, [], h => by simp at h
  | q :: qs, y :: rest, h => by simp [lay, lay_len over b qs rest (by simpa using h)]
theorem lay_drop (over b : Bool) : ∀ qs rest : List Pile, qs.length ≤ rest.length → (lay over b qs rest).drop qs.length = rest.drop qs.length
  | [], rest, _ => rfl
  | _ :: _, [], h => by simp at h
  | q :: qs, y :: rest, h => by simp [lay, lay_drop over b qs rest (by simpa using h)]
theorem lay_cut (over b : Bool) (qs rest : List Pile) (h : qs.length ≤ rest.length) : (lay over b qs rest).take qs.length ++ rest.drop qs.length = lay over b qs rest := by
  rw [← lay_drop over b qs rest h, List.take_append_drop]
def lineO (ps : List Pile) (m : Nat) (over b : Bool) : Ow := .lst ((((foldL over b ps m).take m).map pileD).map .per ++ ((ps.drop m).drop m).map ownP)
theorem lineO_fr (ps : List Pile) (m : Nat) (over b : Bool) (hm : 2 * m ≤ ps.length) : (lineO ps m over b).fr = lineD (foldL over b ps m) := by
  have hl : ((ps.take m).reverse).length = m := by simp; omega
  have h := lay_cut over b (ps.take m).reverse (ps.drop m) (by rw [hl, List.length_drop]; omega)
  rw [hl] at h
  simp only [lineO, Ow.fr, frs_app, frs_per, frs_own, lineD]
  rw [← List.map_append]
  show D.lst (List.map pileD (List.take m (lay over b (ps.take m).reverse (ps.drop m)) ++ List.drop m (List.drop m ps))) = _
  rw [h]
  rfl
theorem list_pile (n : Nat) (env : Ev) (p : Pile) (h : env[6]? = some (some (.per (pileD p)))) : (evs T (n + 2)).o env (.blt .list [(.var 6)]) = .ok (ownP p) := by
  simp [callFI, runB, stepS, evP, evT, evPs, owL, own1, vwL, entE, entA, evs_o, evs_t, evs_b, stepO, stepT, step1, R.calm, Evs.dv, Evs.ds, Evs.os, Evs.ts, Evs.oi, Evs.it, Evs.pl, Ow.fr, frs, dTruth, dBin, dCmp, iCmp, dIdx, dSli, dAtt, dBlt, dBlt1, dBlt2, okN, Ow.nl, D.nl, nls, onls, outF, outM, self0, mkTup, pers, fzo, CT.setO, CTs.setO, putP, Tab.kd, tyN, evs_k, D.asS, D.asL, D.f0, D.in0, D.eq0, D.flat, flats, fdep, eqvI, eqv_str, eqv_bl, eqv_lst, eqv_tup, eqvs_cons, eqvs_nil, eqvs_nc, eqvs_cn, isas, xis, sne, sok, dNeg, dRev, look, keyT, D.isN, Tab.mkX, frs_per, Ow.strip, Ow.isAt, Ow.put, Ow.over, frs_app, Ow.kids, Ow.setKids, -List.map_map, -List.map_take, -List.map_drop, h, pileD, ownP]
theorem line_ok (n : Nat) (ps : List Pile) (m : Nat) (over b : Bool) (hm : 2 * m ≤ ps.length) (hl : ps.length ≤ 1000) (hp : ∀ p ∈ ps, p.length ≤ 1000) : (evs T (n + 16)).f i_folded_line [lineD ps, .int m, .str (wayS over), .bl b] = .ok (lineO ps m over b) := by
  have hq : ((ps.take m).reverse).length = m := by simp; omega
  have hz : (ps.drop m).length ≤ sizeLine := by rw [sizeLine_eq, List.length_drop]; omega
  obtain ⟨y5, y6, y7, hw⟩ := loopL (n + 2) ps m over b (ps.take m).reverse [] (ps.drop m) none none none none (by rw [hq, List.length_drop]; omega) (fun q h => hp q (List.mem_of_mem_take (by simpa using h))) (fun q h => hp q (List.mem_of_mem_drop h))
  rw [hq] at hw
  rw [call_fn fn_folded_line]
  show outF (runB T (evs T (n + 15)) b_folded_line (entE 9 [lineD ps, .int m, .str (wayS over), .bl b])) = _
  unfold b_folded_line
  rw [runB_nx (e := envL ps m over b [] (ps.drop m) none none none none)]
  · rw [runB_nx (e := envL ps m over b ([] ++ List.take m (lay over b (ps.take m).reverse (ps.drop m))) (List.drop m (List.drop m ps)) y5 y6 y7 none)]
    · simp only [runB, stepS, envL, List.getElem?_cons_succ, List.getElem?_cons_zero]
      rfl
    · rw [← hw]
      have hit : (evs T (n + 15)).it (envL ps m over b [] (ps.drop m) none none none none) (.enum (.reved (.sli (.var 0) none (some (.var 1)))) none) = .ok (enumD 0 ((ps.take m).reverse.map pileD)) := by
        have hc := cutD_take (ps.map pileD) m
        rw [← List.map_take] at hc
        rw [List.map_reverse]
        simp [callFI, runB, stepS, evP, evT, evPs, owL, own1, vwL, entE, entA, evs_o, evs_t, evs_b, stepO, stepT, step1, R.calm, Evs.dv, Evs.ds, Evs.os, Evs.ts, Evs.oi, Evs.it, Evs.pl, Ow.fr, frs, dTruth, dBin, dCmp, iCmp, dIdx, dSli, dAtt, dBlt, dBlt1, dBlt2, okN, Ow.nl, D.nl, nls, onls, outF, outM, self0, mkTup, pers, fzo, CT.setO, CTs.setO, putP, Tab.kd, tyN, evs_k, D.asS, D.asL, D.f0, D.in0, D.eq0, D.flat, flats, fdep, eqvI, eqv_str, eqv_bl, eqv_lst, eqv_tup, eqvs_cons, eqvs_nil, eqvs_nc, eqvs_cn, isas, xis, sne, sok, dNeg, dRev, look, keyT, D.isN, Tab.mkX, frs_per, Ow.strip, Ow.isAt, Ow.put, Ow.over, frs_app, Ow.kids, Ow.setKids, -List.map_map, -List.map_take, -List.map_drop, envL, lineD, hc]
      simp only [stepS, vwL, hit, owL, List.any_nil, Bool.false_and]
      rfl
  · have hit : (evs T (n + 15)).it (entE 9 [lineD ps, .int m, .str (wayS over), .bl b]) (.sli (.var 0) (some (.var 1)) none) = .ok ((ps.drop m).map pileD) := by
      have hc := cutD_drop (ps.map pileD) m
      rw [← List.map_drop] at hc
      simp [callFI, runB, stepS, evP, evT, evPs, owL, own1, vwL, entE, entA, evs_o, evs_t, evs_b, stepO, stepT, step1, R.calm, Evs.dv, Evs.ds, Evs.os, Evs.ts, Evs.oi, Evs.it, Evs.pl, Ow.fr, frs, dTruth, dBin, dCmp, iCmp, dIdx, dSli, dAtt, dBlt, dBlt1, dBlt2, okN, Ow.nl, D.nl, nls, onls, outF, outM, self0, mkTup, pers, fzo, CT.setO, CTs.setO, putP, Tab.kd, tyN, evs_k, D.asS, D.asL, D.f0, D.in0, D.eq0, D.flat, flats, fdep, eqvI, eqv_str, eqv_bl, eqv_lst, eqv_tup, eqvs_cons, eqvs_nil, eqvs_nc, eqvs_cn, isas, xis, sne, sok, dNeg, dRev, look, keyT, D.isN, Tab.mkX, frs_per, Ow.strip, Ow.isAt, Ow.put, Ow.over, frs_app, Ow.kids, Ow.setKids, -List.map_map, -List.map_take, -List.map_drop, lineD, hc]
    have hlc := lc_map (E := lendE (evs T (n + 15)) []) (env := wipeE (entE 9 [lineD ps, .int m, .str (wayS over), .bl b]) [6]) (t := .nm 6) (elt := .blt .list [(.var 6)]) pileD ownP (ps.drop m) fun p _ => ⟨_, rfl, by
      rw [lend_nil]
      exact list_pile (n + 13) _ p rfl⟩
    simp only [stepS, hit, hlc, List.length_map, hz]
    simp [entE, envL, fzo]
/-! ### rows and columns -/
def colsN (g : List (List Pile)) : Nat := (g.headD []).length
def across (g : List (List Pile)) : List (List Pile) := (List.range (colsN g)).map fun i => g.map fun row => row.getD i []
def acrossO (g : List (List Pile)) : Ow := .lst ((List.range (colsN g)).map fun i => .lst (g.map fun row => .per (pileD (row.getD i []))))
theorem acrossO_fr (g : List (List Pile)) : (acrossO g).fr = gridD (across g) := by
  simp only [acrossO, Ow.fr, frs_map, gridD, across, List.map_map, lineD]
  congr 1
  apply List.map_congr_left
  intro i _
  simp [Function.comp_def, lineD]
theorem across_ok (n : Nat) (g : List (List Pile)) (h0 : g ≠ []) (hw : ∀ row ∈ g, row.length = colsN g) (hl : g.length ≤ 1000) (hc : colsN g ≤ 1000) : (evs T (n + 12)).f i_across [gridD g] = .ok (acrossO g) := by
  have hz1 : g.length ≤ sizeLine := by rw [sizeLine_eq]; omega
  have hz2 : colsN g ≤ sizeLine := by rw [sizeLine_eq]; omega
  rw [call_fn fn_across]
  show outF (runB T (evs T (n + 11)) b_across (entE 3 [gridD g])) = _
  have hit : (evs T (n + 10)).it [some (.per (gridD g)), none, none] (.range [(.blt .len [(.idx (.var 0) (.cst (.int 0)))])]) = .ok ((List.range (colsN g)).map fun (i : Nat) => D.int i) := by
    obtain ⟨row, g', rfl⟩ : ∃ row g', g = row :: g' := by
      cases g with
      | nil => exact absurd rfl h0
      | cons r g' => exact ⟨r, g', rfl⟩
    have hb : -4611686018427387904 ≤ (row.length : Int) ∧ (row.length : Int) < 4611686018427387904 := by
      have : colsN (row :: g') = row.length := rfl
      omega
    simp [callFI, runB, stepS, evP, evT, evPs, owL, own1, vwL, entE, entA, evs_o, evs_t, evs_b, stepO, stepT, step1, R.calm, Evs.dv, Evs.ds, Evs.os, Evs.ts, Evs.oi, Evs.it, Evs.pl, Ow.fr, frs, dTruth, dBin, dCmp, iCmp, dIdx, dSli, dAtt, dBlt, dBlt1, dBlt2, okN, Ow.nl, D.nl, nls, onls, outF, outM, self0, mkTup, pers, fzo, CT.setO, CTs.setO, putP, Tab.kd, tyN, evs_k, D.asS, D.asL, D.f0, D.in0, D.eq0, D.flat, flats, fdep, eqvI, eqv_str, eqv_bl, eqv_lst, eqv_tup, eqvs_cons, eqvs_nil, eqvs_nc, eqvs_cn, isas, xis, sne, sok, dNeg, dRev, look, keyT, D.isN, Tab.mkX, frs_per, Ow.strip, Ow.isAt, Ow.put, Ow.over, frs_app, Ow.kids, Ow.setKids, -List.map_map, -List.map_take, -List.map_drop, gridD, lineD, L2.atI, L2.ixN, hb, rangeD, colsN]
  have hlc := lc_map (E := evs T (n + 10)) (env := [some (.per (gridD g)), none, none]) (t := .nm 1) (elt := .lc [2] (.nm 2) (.var 0) [] (.idx (.var 2) (.var 1))) (fun (i : Nat) => D.int i) (fun i => .lst (g.map fun row => .per (pileD (row.getD i [])))) (List.range (colsN g)) fun i hi => ⟨[some (.per (gridD g)), some (.per (.int i)), none], by simp [CT.setO], by
    have hi' : i < colsN g := List.mem_range.mp hi
    have hin := lc_map (E := evs T (n + 9)) (env := [some (.per (gridD g)), some (.per (.int i)), none]) (t := .nm 2) (elt := .idx (.var 2) (.var 1)) lineD (fun row => .per (pileD (row.getD i []))) g fun row hr => ⟨[some (.per (gridD g)), some (.per (.int i)), some (.per (lineD row))], by simp [CT.setO], by
      have hlt : i < row.length := by rw [hw row hr]; exact hi'
      have hat : L2.atI (row.map pileD) (i : Int) = some (pileD (row.getD i [])) := by
        rw [atI_nat, List.getElem?_map, List.getElem?_eq_getElem hlt]
        simp [List.getD_eq_getElem?_getD, hlt]
      simp [callFI, runB, stepS, evP, evT, evPs, owL, own1, vwL, entE, entA, evs_o, evs_t, evs_b, stepO, stepT, step1, R.calm, Evs.dv, Evs.ds, Evs.os, Evs.ts, Evs.oi, Evs.it, Evs.pl, Ow.fr, frs, dTruth, dBin, dCmp, iCmp, dIdx, dSli, dAtt, dBlt, dBlt1, dBlt2, okN, Ow.nl, D.nl, nls, onls, outF, outM, self0, mkTup, pers, fzo, CT.setO, CTs.setO, putP, Tab.kd, tyN, evs_k, D.asS, D.asL, D.f0, D.in0, D.eq0, D.flat, flats, fdep, eqvI, eqv_str, eqv_bl, eqv_lst, eqv_tup, eqvs_cons, eqvs_nil, eqvs_nc, eqvs_cn, isas, xis, sne, sok, dNeg, dRev, look, keyT, D.isN, Tab.mkX, frs_per, Ow.strip, Ow.isAt, Ow.put, Ow.over, frs_app, Ow.kids, Ow.setKids, -List.map_map, -List.map_take, -List.map_drop, lineD, hat]⟩
    have hwp : wipeE [some (.per (gridD g)), some (.per (.int i)), none] [2] = [some (.per (gridD g)), some (.per (.int i)), none] := rfl
    have hit2 : (evs T (n + 9)).it [some (.per (gridD g)), some (.per (.int i)), none] (.var 0) = .ok (g.map lineD) := by simp [callFI, runB, stepS, evP, evT, evPs, owL, own1, vwL, entE, entA, evs_o, evs_t, evs_b, stepO, stepT, step1, R.calm, Evs.dv, Evs.ds, Evs.os, Evs.ts, Evs.oi, Evs.it, Evs.pl, Ow.fr, frs, dTruth, dBin, dCmp, iCmp, dIdx, dSli, dAtt, dBlt, dBlt1, dBlt2, okN, Ow.nl, D.nl, nls, onls, outF, outM, self0, mkTup, pers, fzo, CT.setO, CTs.setO, putP, Tab.kd, tyN, evs_k, D.asS, D.asL, D.f0, D.in0, D.eq0, D.flat, flats, fdep, eqvI, eqv_str, eqv_bl, eqv_lst, eqv_tup, eqvs_cons, eqvs_nil, eqvs_nc, eqvs_cn, isas, xis, sne, sok, dNeg, dRev, look, keyT, D.isN, Tab.mkX, frs_per, Ow.strip, Ow.isAt, Ow.put, Ow.over, frs_app, Ow.kids, Ow.setKids, -List.map_map, -List.map_take, -List.map_drop, gridD]
    rw [evs_o]
    simp only [stepO, step1, hit2, hwp, hin, List.length_map, hz1]
    simp [R.calm]⟩
  have e : (evs T (n + 11)).o (entE 3 [gridD g]) (.lc [1] (.nm 1) (.range [(.blt .len [(.idx (.var 0) (.cst (.int 0)))])]) [] (.lc [2] (.nm 2) (.var 0) [] (.idx (.var 2) (.var 1)))) = .ok (acrossO g) := by
    have hwp : wipeE [some (.per (gridD g)), none, none] [1] = [some (.per (gridD g)), none, none] := rfl
    rw [evs_o]
    show (step1 T (evs T (n + 10)) [some (.per (gridD g)), none, none] _).calm = _
    simp only [step1, hit, hwp, hlc, List.length_map, List.length_range, hz2]
    simp [R.calm, acrossO]
  unfold b_across
  simp only [runB, stepS, evP_nil, e, outF]

end Lw

set_option Elab.async false
set_option linter.all false
set_option autoImplicit false
set_option maxRecDepth 100000
set_option maxHeartbeats 1000001
namespace Lw
open PySem Pu
/-! ### Stack -/
abbrev Grid := List (List Pile)
def stkD (g : Grid) (past : List Grid) : D := .obj "Stack" ["spots", "past"] [gridD g, .lst (past.map gridD)]
def stkO (g : Grid) (past : List Grid) : Ow := .ins "Stack" ["spots", "past"] [.per (gridD g), .lst ((past.map gridD).map .per)]
theorem stkO_fr (g : Grid) (past : List Grid) : (stkO g past).fr = stkD g past := by simp only [stkO, stkD, Ow.fr, frs, frs_per]
theorem fld_spots : T.fld "Stack" "spots" = true := by kernel_rfl
theorem fld_past : T.fld "Stack" "past" = true := by kernel_rfl
theorem stk_m (n : Nat) (g : Grid) (past : List Grid) (m : Str) (fi : FI) (ds : List D) (h : T.meth "Stack" m = some fi) (h2 : m ∉ (["spots", "past"] : List Str) ∧ m ≠ "__init__") : (evs T (n + 1)).m "Stack" m (stkD g past) ds = callFI T (evs T n) fi (stkD g past :: ds) := by
  rw [evs_m]
  show (if ("Stack" : Str) = "Stack" ∧ m ∉ (["spots", "past"] : List Str) ∧ m ≠ "__init__" then (match T.meth "Stack" m with | some fi => callFI T (evs T n) fi (stkD g past :: ds) | none => .stk) else .stk) = _
  rw [if_pos ⟨rfl, h2.1, h2.2⟩, h]
theorem spots_ok (n : Nat) (g : Grid) (past : List Grid) (env : Ev) (h : env[0]? = some (some (.per (stkD g past)))) : (evs T (n + 3)).o env (.att (.var 0) "spots") = .ok (.per (gridD g)) := by
  simp [callFI, runB, stepS, evP, evT, evPs, owL, own1, vwL, entE, entA, evs_o, evs_t, evs_b, stepO, stepT, step1, R.calm, Evs.dv, Evs.ds, Evs.os, Evs.ts, Evs.oi, Evs.it, Evs.pl, Ow.fr, frs, dTruth, dBin, dCmp, iCmp, dIdx, dSli, dAtt, dBlt, dBlt1, dBlt2, okN, Ow.nl, D.nl, nls, onls, outF, outM, self0, mkTup, pers, fzo, CT.setO, CTs.setO, putP, Tab.kd, tyN, evs_k, D.asS, D.asL, D.f0, D.in0, D.eq0, D.flat, flats, fdep, eqvI, eqv_str, eqv_bl, eqv_lst, eqv_tup, eqvs_cons, eqvs_nil, eqvs_nc, eqvs_cn, isas, xis, sne, sok, dNeg, dRev, look, keyT, D.isN, Tab.mkX, frs_per, Ow.strip, Ow.isAt, Ow.put, Ow.over, frs_app, Ow.kids, Ow.setKids, -List.map_map, -List.map_take, -List.map_drop, h, stkD, fld_spots]
theorem sz_1 (g : Grid) (h0 : g ≠ []) : L2.atI (g.map lineD) 0 = some (.lst ((g.headD []).map pileD)) := by
  cases g with
  | nil => exact absurd rfl h0
  | cons r g => simp [L2.atI, L2.ixN, lineD]
theorem size_ok (n : Nat) (g : Grid) (past : List Grid) (h0 : g ≠ []) : (evs T (n + 10)).m "Stack" "size" (stkD g past) [] = .ok (.per (.tup [.int g.length, .int (colsN g)])) := by
  rw [stk_m _ _ _ _ _ _ m_Stack_size (by decide +kernel)]
  have h1 := sz_1 g h0
  simp [callFI, runB, stepS, evP, evT, evPs, owL, own1, vwL, entE, entA, evs_o, evs_t, evs_b, stepO, stepT, step1, R.calm, Evs.dv, Evs.ds, Evs.os, Evs.ts, Evs.oi, Evs.it, Evs.pl, Ow.fr, frs, dTruth, dBin, dCmp, iCmp, dIdx, dSli, dAtt, dBlt, dBlt1, dBlt2, okN, Ow.nl, D.nl, nls, onls, outF, outM, self0, mkTup, pers, fzo, CT.setO, CTs.setO, putP, Tab.kd, tyN, evs_k, D.asS, D.asL, D.f0, D.in0, D.eq0, D.flat, flats, fdep, eqvI, eqv_str, eqv_bl, eqv_lst, eqv_tup, eqvs_cons, eqvs_nil, eqvs_nc, eqvs_cn, isas, xis, sne, sok, dNeg, dRev, look, keyT, D.isN, Tab.mkX, frs_per, Ow.strip, Ow.isAt, Ow.put, Ow.over, frs_app, Ow.kids, Ow.setKids, -List.map_map, -List.map_take, -List.map_drop, f_Stack_size, b_Stack_size, stkD, gridD, fld_spots, h1, colsN]
theorem all_ok (n : Nat) (g : Grid) (past : List Grid) (hl : g.length ≤ 1000) (hw : ∀ row ∈ g, row.length ≤ 1000) : (evs T (n + 12)).m "Stack" "all_leaves" (stkD g past) [] = .ok (.lst (g.map fun row => .lst (row.map ownP))) := by
  rw [stk_m _ _ _ _ _ _ m_Stack_all_leaves (by decide +kernel)]
  have hz1 : g.length ≤ sizeLine := by rw [sizeLine_eq]; omega
  have hs := spots_ok (n + 6) g past [some (.per (stkD g past)), none, none] rfl
  have hlc := lc_map (E := evs T (n + 10)) (env := [some (.per (stkD g past)), none, none]) (t := .nm 1) (elt := .lc [2] (.nm 2) (.var 1) [] (.blt .list [(.var 2)])) lineD (fun row => .lst (row.map ownP)) g fun row hr => ⟨[some (.per (stkD g past)), some (.per (lineD row)), none], by simp [CT.setO], by
    have hz2 : row.length ≤ sizeLine := by rw [sizeLine_eq]; have := hw row hr; omega
    have hin := lc_map (E := evs T (n + 9)) (env := [some (.per (stkD g past)), some (.per (lineD row)), none]) (t := .nm 2) (elt := .blt .list [(.var 2)]) pileD ownP row fun p _ => ⟨[some (.per (stkD g past)), some (.per (lineD row)), some (.per (pileD p))], by simp [CT.setO], by simp [callFI, runB, stepS, evP, evT, evPs, owL, own1, vwL, entE, entA, evs_o, evs_t, evs_b, stepO, stepT, step1, R.calm, Evs.dv, Evs.ds, Evs.os, Evs.ts, Evs.oi, Evs.it, Evs.pl, Ow.fr, frs, dTruth, dBin, dCmp, iCmp, dIdx, dSli, dAtt, dBlt, dBlt1, dBlt2, okN, Ow.nl, D.nl, nls, onls, outF, outM, self0, mkTup, pers, fzo, CT.setO, CTs.setO, putP, Tab.kd, tyN, evs_k, D.asS, D.asL, D.f0, D.in0, D.eq0, D.flat, flats, fdep, eqvI, eqv_str, eqv_bl, eqv_lst, eqv_tup, eqvs_cons, eqvs_nil, eqvs_nc, eqvs_cn, isas, xis, sne, sok, dNeg, dRev, look, keyT, D.isN, Tab.mkX, frs_per, Ow.strip, Ow.isAt, Ow.put, Ow.over, frs_app, Ow.kids, Ow.setKids, -List.map_map, -List.map_take, -List.map_drop, pileD, ownP]⟩
    have hwp : wipeE [some (.per (stkD g past)), some (.per (lineD row)), none] [2] = [some (.per (stkD g past)), some (.per (lineD row)), none] := rfl
    have hit2 : (evs T (n + 9)).it [some (.per (stkD g past)), some (.per (lineD row)), none] (.var 1) = .ok (row.map pileD) := by simp [callFI, runB, stepS, evP, evT, evPs, owL, own1, vwL, entE, entA, evs_o, evs_t, evs_b, stepO, stepT, step1, R.calm, Evs.dv, Evs.ds, Evs.os, Evs.ts, Evs.oi, Evs.it, Evs.pl, Ow.fr, frs, dTruth, dBin, dCmp, iCmp, dIdx, dSli, dAtt, dBlt, dBlt1, dBlt2, okN, Ow.nl, D.nl, nls, onls, outF, outM, self0, mkTup, pers, fzo, CT.setO, CTs.setO, putP, Tab.kd, tyN, evs_k, D.asS, D.asL, D.f0, D.in0, D.eq0, D.flat, flats, fdep, eqvI, eqv_str, eqv_bl, eqv_lst, eqv_tup, eqvs_cons, eqvs_nil, eqvs_nc, eqvs_cn, isas, xis, sne, sok, dNeg, dRev, look, keyT, D.isN, Tab.mkX, frs_per, Ow.strip, Ow.isAt, Ow.put, Ow.over, frs_app, Ow.kids, Ow.setKids, -List.map_map, -List.map_take, -List.map_drop, lineD]
    rw [evs_o]
    simp only [stepO, step1, hit2, hwp, hin, List.length_map, hz2]
    simp [R.calm]⟩
  have hit : (evs T (n + 10)).it [some (.per (stkD g past)), none, none] (.att (.var 0) "spots") = .ok (g.map lineD) := by
    have := fun j => spots_ok j g past [some (.per (stkD g past)), none, none] rfl
    simp only [Evs.it, Evs.dv, this, Ow.fr, gridD, D.asS]
  have hwp : wipeE [some (.per (stkD g past)), none, none] [1] = [some (.per (stkD g past)), none, none] := rfl
  have e : (evs T (n + 11)).o [some (.per (stkD g past)), none, none] (.lc [1] (.nm 1) (.att (.var 0) "spots") [] (.lc [2] (.nm 2) (.var 1) [] (.blt .list [(.var 2)]))) = .ok (.lst (g.map fun row => .lst (row.map ownP))) := by
    rw [evs_o]
    simp only [stepO, step1, hit, hwp, hlc, List.length_map, hz1]
    simp [R.calm]
  show outF (runB T (evs T (n + 11)) b_Stack_all_leaves [some (.per (stkD g past)), none, none]) = _
  unfold b_Stack_all_leaves
  simp only [runB, stepS, evP_nil, e, outF]
theorem leaves_ok (n : Nat) (g : Grid) (past : List Grid) (r c : Nat) (row : List Pile) (p : Pile) (h0 : g ≠ []) (hr : g[r]? = some row) (hc : row[c]? = some p) (hw : row.length = colsN g) : (evs T (n + 16)).m "Stack" "leaves_at" (stkD g past) [.int ((r : Int) + 1), .int ((c : Int) + 1)] = .ok (ownP p) := by
  rw [stk_m _ _ _ _ _ _ m_Stack_leaves_at (by decide +kernel)]
  have hs := fun j => size_ok j g past h0
  have l1 := (List.getElem?_eq_some_iff.mp hr).1
  have l2 := (List.getElem?_eq_some_iff.mp hc).1
  have ha := fun j => among_ok j ((r : Int) + 1) 1 g.length
  have hb := fun j => among_ok j ((c : Int) + 1) 1 (colsN g)
  have q1 : (decide (1 ≤ (r : Int) + 1) && decide ((r : Int) + 1 ≤ g.length)) = true := by simp; omega
  have q2 : (decide (1 ≤ (c : Int) + 1) && decide ((c : Int) + 1 ≤ colsN g)) = true := by simp; omega
  rw [q1] at ha
  rw [q2] at hb
  have e1 : L2.atI (g.map lineD) (r : Int) = some (.lst (row.map pileD)) := by
    rw [atI_nat, List.getElem?_map, hr]; rfl
  have e2 : L2.atI (row.map pileD) (c : Int) = some (.lst (p.map Lf.d)) := by
    rw [atI_nat, List.getElem?_map, hc]; rfl
  show outF (runB T (evs T (n + 15)) b_Stack_leaves_at [some (.per (stkD g past)), some (.per (.int ((r : Int) + 1))), some (.per (.int ((c : Int) + 1))), none, none]) = _
  unfold b_Stack_leaves_at
  rw [runB_nx (e := [some (.per (stkD g past)), some (.per (.int ((r : Int) + 1))), some (.per (.int ((c : Int) + 1))), some (.per (.int g.length)), some (.per (.int (colsN g)))]) (by simp [callFI, runB, stepS, evP, evT, evPs, owL, own1, vwL, entE, entA, evs_o, evs_t, evs_b, stepO, stepT, step1, R.calm, Evs.dv, Evs.ds, Evs.os, Evs.ts, Evs.oi, Evs.it, Evs.pl, Ow.fr, frs, dTruth, dBin, dCmp, iCmp, dIdx, dSli, dAtt, dBlt, dBlt1, dBlt2, okN, Ow.nl, D.nl, nls, onls, outF, outM, self0, mkTup, pers, fzo, CT.setO, CTs.setO, putP, Tab.kd, tyN, evs_k, D.asS, D.asL, D.f0, D.in0, D.eq0, D.flat, flats, fdep, eqvI, eqv_str, eqv_bl, eqv_lst, eqv_tup, eqvs_cons, eqvs_nil, eqvs_nc, eqvs_cn, isas, xis, sne, sok, dNeg, dRev, look, keyT, D.isN, Tab.mkX, frs_per, Ow.strip, Ow.isAt, Ow.put, Ow.over, frs_app, Ow.kids, Ow.setKids, -List.map_map, -List.map_take, -List.map_drop, hs])]
  rw [runB_nx (e := [some (.per (stkD g past)), some (.per (.int ((r : Int) + 1))), some (.per (.int ((c : Int) + 1))), some (.per (.int g.length)), some (.per (.int (colsN g)))]) (by simp [callFI, runB, stepS, evP, evT, evPs, owL, own1, vwL, entE, entA, evs_o, evs_t, evs_b, stepO, stepT, step1, R.calm, Evs.dv, Evs.ds, Evs.os, Evs.ts, Evs.oi, Evs.it, Evs.pl, Ow.fr, frs, dTruth, dBin, dCmp, iCmp, dIdx, dSli, dAtt, dBlt, dBlt1, dBlt2, okN, Ow.nl, D.nl, nls, onls, outF, outM, self0, mkTup, pers, fzo, CT.setO, CTs.setO, putP, Tab.kd, tyN, evs_k, D.asS, D.asL, D.f0, D.in0, D.eq0, D.flat, flats, fdep, eqvI, eqv_str, eqv_bl, eqv_lst, eqv_tup, eqvs_cons, eqvs_nil, eqvs_nc, eqvs_cn, isas, xis, sne, sok, dNeg, dRev, look, keyT, D.isN, Tab.mkX, frs_per, Ow.strip, Ow.isAt, Ow.put, Ow.over, frs_app, Ow.kids, Ow.setKids, -List.map_map, -List.map_take, -List.map_drop, ha, hb])]
  simp [callFI, runB, stepS, evP, evT, evPs, owL, own1, vwL, entE, entA, evs_o, evs_t, evs_b, stepO, stepT, step1, R.calm, Evs.dv, Evs.ds, Evs.os, Evs.ts, Evs.oi, Evs.it, Evs.pl, Ow.fr, frs, dTruth, dBin, dCmp, iCmp, dIdx, dSli, dAtt, dBlt, dBlt1, dBlt2, okN, Ow.nl, D.nl, nls, onls, outF, outM, self0, mkTup, pers, fzo, CT.setO, CTs.setO, putP, Tab.kd, tyN, evs_k, D.asS, D.asL, D.f0, D.in0, D.eq0, D.flat, flats, fdep, eqvI, eqv_str, eqv_bl, eqv_lst, eqv_tup, eqvs_cons, eqvs_nil, eqvs_nc, eqvs_cn, isas, xis, sne, sok, dNeg, dRev, look, keyT, D.isN, Tab.mkX, frs_per, Ow.strip, Ow.isAt, Ow.put, Ow.over, frs_app, Ow.kids, Ow.setKids, -List.map_map, -List.map_take, -List.map_drop, stkD, gridD, fld_spots, e1, e2, ownP]

end Lw

set_option Elab.async false
set_option linter.all false
set_option autoImplicit false
set_option maxRecDepth 100000
set_option maxHeartbeats 1000001
namespace Lw
open PySem Pu
/-! ### a fold -/
/-- an edge: of the rows?, from behind? -/
def edgeS (br bh : Bool) : Str := if br then (if bh then "bottom" else "top") else (if bh then "right" else "left")
def mostF (br : Bool) (g : Grid) : Int := (if br then (g.length : Int) else (colsN g : Int)) / 2
theorem need_ok (n : Nat) (g : Grid) (past : List Grid) (h0 : g ≠ []) (br bh over : Bool) (m : Int) (hm : 1 ≤ m ∧ m ≤ mostF br g) : (evs T (n + 20)).m "Stack" "need_fold" (stkD g past) [.str (edgeS br bh), .int m, .str (wayS over)] = .ok (.per .non) := by
  rw [stk_m _ _ _ _ _ _ m_Stack_need_fold (by decide +kernel)]
  have hs := fun j => size_ok j g past h0
  have ha := fun j => among_ok j m 1 (mostF br g)
  have q : (decide (1 ≤ m) && decide (m ≤ mostF br g)) = true := by simp [hm.1, hm.2]
  rw [q] at ha
  unfold mostF at ha
  generalize stkD g past = sd at hs
  generalize (g.length : Int) = gl at *
  generalize (colsN g : Int) = gc at *
  cases br <;> cases bh <;> cases over <;> simp only [edgeS, wayS, if_true, if_false, Bool.false_eq_true] at ha ⊢ <;>
    simp [callFI, runB, stepS, evP, evT, evPs, owL, own1, vwL, entE, entA, evs_o, evs_t, evs_b, stepO, stepT, step1, R.calm, Evs.dv, Evs.ds, Evs.os, Evs.ts, Evs.oi, Evs.it, Evs.pl, Ow.fr, frs, dTruth, dBin, dCmp, iCmp, dIdx, dSli, dAtt, dBlt, dBlt1, dBlt2, okN, Ow.nl, D.nl, nls, onls, outF, outM, self0, mkTup, pers, fzo, CT.setO, CTs.setO, putP, Tab.kd, tyN, evs_k, D.asS, D.asL, D.f0, D.in0, D.eq0, D.flat, flats, fdep, eqvI, eqv_str, eqv_bl, eqv_lst, eqv_tup, eqvs_cons, eqvs_nil, eqvs_nc, eqvs_cn, isas, xis, sne, sok, dNeg, dRev, look, keyT, D.isN, Tab.mkX, frs_per, Ow.strip, Ow.isAt, Ow.put, Ow.over, frs_app, Ow.kids, Ow.setKids, -List.map_map, -List.map_take, -List.map_drop, f_Stack_need_fold, b_Stack_need_fold, hs, ha, g_BY_ROWS, g_BY_COLUMNS, g_WAYS_stack, L2.atI, L2.ixN]
def revIf (b : Bool) (l : List Pile) : List Pile := if b then l.reverse else l
def foldLn (over br bh : Bool) (m : Nat) (l : List Pile) : List Pile := revIf bh (foldL over br (revIf bh l) m)
def linesG (br : Bool) (g : Grid) : Grid := if br then across g else g
def foldG (over br bh : Bool) (m : Nat) (g : Grid) : Grid := linesG br ((linesG br g).map (foldLn over br bh m))
def envF (g : Grid) (past : List Grid) (br bh over : Bool) (m : Nat) (x4 x5 x6 x7 : Option Ow) : Ev := [some (.at 0 (stkO g past)), some (.per (.str (edgeS br bh))), some (.per (.int m)), some (.per (.str (wayS over))), x4, x5, x6, x7]
def fndO (ls : Grid) : Ow := .lst ((ls.map lineD).map .per)
abbrev bdF : List CS := [.asg (.nm 7) [] true (.ite (.cmp .In (.var 1) (.glb j_FROM_BEHIND)) (.rev (.var 6)) (.var 6)),
    .asg (.nm 7) [] true (.call i_folded_line [(.var 7), (.var 2), (.var 3), (.var 4)]),
    .app (.var 5) [] true (.ite (.cmp .In (.var 1) (.glb j_FROM_BEHIND)) (.rev (.var 7)) (.var 7))]
theorem rev_line (l : List Pile) : (l.map pileD).reverse = l.reverse.map pileD := List.map_reverse.symm
theorem behind_t (n : Nat) (br bh : Bool) (env : Ev) (h : env[1]? = some (some (.per (.str (edgeS br bh))))) : (evs T (n + 4)).t env (.cmp .In (.var 1) (.glb j_FROM_BEHIND)) = .ok bh := by
  cases br <;> cases bh <;> simp only [edgeS, if_true, if_false, Bool.false_eq_true] at h <;> simp [callFI, runB, stepS, evP, evT, evPs, owL, own1, vwL, entE, entA, evs_o, evs_t, evs_b, stepO, stepT, step1, R.calm, Evs.dv, Evs.ds, Evs.os, Evs.ts, Evs.oi, Evs.it, Evs.pl, Ow.fr, frs, dTruth, dBin, dCmp, iCmp, dIdx, dSli, dAtt, dBlt, dBlt1, dBlt2, okN, Ow.nl, D.nl, nls, onls, outF, outM, self0, mkTup, pers, fzo, CT.setO, CTs.setO, putP, Tab.kd, tyN, evs_k, D.asS, D.asL, D.f0, D.in0, D.eq0, D.flat, flats, fdep, eqvI, eqv_str, eqv_bl, eqv_lst, eqv_tup, eqvs_cons, eqvs_nil, eqvs_nc, eqvs_cn, isas, xis, sne, sok, dNeg, dRev, look, keyT, D.isN, Tab.mkX, frs_per, Ow.strip, Ow.isAt, Ow.put, Ow.over, frs_app, Ow.kids, Ow.setKids, -List.map_map, -List.map_take, -List.map_drop, h, g_FROM_BEHIND]
theorem revIf_o (n : Nat) (br bh : Bool) (env : Ev) (i : Nat) (l : List Pile) (h1 : env[1]? = some (some (.per (.str (edgeS br bh))))) (h : env[i]? = some (some (.per (lineD l)))) : ∃ o, (evs T (n + 6)).o env (.ite (.cmp .In (.var 1) (.glb j_FROM_BEHIND)) (.rev (.var i)) (.var i)) = .ok o ∧ o.fr = lineD (revIf bh l) ∧ o.isAt = false := by
  have ht := behind_t (n + 1) br bh env h1
  cases bh with
  | false =>
    refine ⟨.per (lineD l), ?_, by simp [Ow.fr, revIf], rfl⟩
    rw [evs_o]
    simp only [stepO, step1, ht]
    simp [callFI, runB, stepS, evP, evT, evPs, owL, own1, vwL, entE, entA, evs_o, evs_t, evs_b, stepO, stepT, step1, R.calm, Evs.dv, Evs.ds, Evs.os, Evs.ts, Evs.oi, Evs.it, Evs.pl, Ow.fr, frs, dTruth, dBin, dCmp, iCmp, dIdx, dSli, dAtt, dBlt, dBlt1, dBlt2, okN, Ow.nl, D.nl, nls, onls, outF, outM, self0, mkTup, pers, fzo, CT.setO, CTs.setO, putP, Tab.kd, tyN, evs_k, D.asS, D.asL, D.f0, D.in0, D.eq0, D.flat, flats, fdep, eqvI, eqv_str, eqv_bl, eqv_lst, eqv_tup, eqvs_cons, eqvs_nil, eqvs_nc, eqvs_cn, isas, xis, sne, sok, dNeg, dRev, look, keyT, D.isN, Tab.mkX, frs_per, Ow.strip, Ow.isAt, Ow.put, Ow.over, frs_app, Ow.kids, Ow.setKids, -List.map_map, -List.map_take, -List.map_drop, h]
  | true =>
    refine ⟨.lst ((l.reverse.map pileD).map .per), ?_, by simp only [Ow.fr, frs_per, lineD, revIf, if_true], rfl⟩
    rw [evs_o]
    simp only [stepO, step1, ht]
    rw [← rev_line]
    simp [callFI, runB, stepS, evP, evT, evPs, owL, own1, vwL, entE, entA, evs_o, evs_t, evs_b, stepO, stepT, step1, R.calm, Evs.dv, Evs.ds, Evs.os, Evs.ts, Evs.oi, Evs.it, Evs.pl, Ow.fr, frs, dTruth, dBin, dCmp, iCmp, dIdx, dSli, dAtt, dBlt, dBlt1, dBlt2, okN, Ow.nl, D.nl, nls, onls, outF, outM, self0, mkTup, pers, fzo, CT.setO, CTs.setO, putP, Tab.kd, tyN, evs_k, D.asS, D.asL, D.f0, D.in0, D.eq0, D.flat, flats, fdep, eqvI, eqv_str, eqv_bl, eqv_lst, eqv_tup, eqvs_cons, eqvs_nil, eqvs_nc, eqvs_cn, isas, xis, sne, sok, dNeg, dRev, look, keyT, D.isN, Tab.mkX, frs_per, Ow.strip, Ow.isAt, Ow.put, Ow.over, frs_app, Ow.kids, Ow.setKids, -List.map_map, -List.map_take, -List.map_drop, h, lineD]
theorem revIf_len (b : Bool) (l : List Pile) : (revIf b l).length = l.length := by cases b <;> simp [revIf]
theorem revIf_mem {b : Bool} {l : List Pile} {p : Pile} (h : p ∈ revIf b l) : p ∈ l := by cases b <;> simpa [revIf] using h
theorem setO_nm (i : Nat) (env : Ev) (d : D) (h : i < env.length) : (CT.nm i).setO env (.per d) = some (env.set i (some (.per d))) := by simp [CT.setO, h]
theorem bodyF (n : Nat) (g : Grid) (past : List Grid) (br bh over : Bool) (m : Nat) (ls : Grid) (l : List Pile) (x7 : Option Ow) (hls : ls.length ≤ 1000) (hm : 2 * m ≤ l.length) (hl : l.length ≤ 1000) (hp : ∀ p ∈ l, p.length ≤ 1000) :
    ∃ y7, (evs T (n + 20)).b (envF g past br bh over m (some (.per (.bl br))) (some (fndO ls)) (some (.per (lineD l))) x7) bdF = some (.nx (envF g past br bh over m (some (.per (.bl br))) (some (fndO (ls ++ [foldLn over br bh m l]))) (some (.per (lineD l))) y7)) := by
  have hz : ls.length < sizeLine := by rw [sizeLine_eq]; omega
  obtain ⟨o1, e1, f1, a1⟩ := revIf_o (n + 13) br bh (envF g past br bh over m (some (.per (.bl br))) (some (fndO ls)) (some (.per (lineD l))) x7) 6 l rfl rfl
  obtain ⟨o3, e3, f3, a3⟩ := revIf_o (n + 13) br bh (envF g past br bh over m (some (.per (.bl br))) (some (fndO ls)) (some (.per (lineD l))) (some (.per (lineD (foldL over br (revIf bh l) m))))) 7 (foldL over br (revIf bh l) m) rfl rfl
  have hk := fun j => line_ok j (revIf bh l) m over br (by rw [revIf_len]; exact hm) (by rw [revIf_len]; exact hl) fun p h => hp p (revIf_mem h)
  have hfr := lineO_fr (revIf bh l) m over br (by rw [revIf_len]; exact hm)
  refine ⟨some (.per (lineD (foldL over br (revIf bh l) m))), ?_⟩
  rw [evs_b]
  rw [runB_nx (e := envF g past br bh over m (some (.per (.bl br))) (some (fndO ls)) (some (.per (lineD l))) (some (.per (lineD (revIf bh l)))))]
  · rw [runB_nx (e := envF g past br bh over m (some (.per (.bl br))) (some (fndO ls)) (some (.per (lineD l))) (some (.per (lineD (foldL over br (revIf bh l) m)))))]
    · rw [runB_nx (e := envF g past br bh over m (some (.per (.bl br))) (some (fndO (ls ++ [foldLn over br bh m l]))) (some (.per (lineD l))) (some (.per (lineD (foldL over br (revIf bh l) m)))))]
      · rfl
      · simp only [stepS, evP_nil, e3, a3]
        simp [Evs.pl, envF, fndO, Ow.strip, hz, putP, Ow.put, Ow.over, fzo, f3, foldLn, -List.map_map]
    · have ec : (evs T (n + 19)).o (envF g past br bh over m (some (.per (.bl br))) (some (fndO ls)) (some (.per (lineD l))) (some (.per (lineD (revIf bh l))))) (.call i_folded_line [(.var 7), (.var 2), (.var 3), (.var 4)]) = .ok (lineO (revIf bh l) m over br) := by
        simp [callFI, runB, stepS, evP, evT, evPs, owL, own1, vwL, entE, entA, evs_o, evs_t, evs_b, stepO, stepT, step1, R.calm, Evs.dv, Evs.ds, Evs.os, Evs.ts, Evs.oi, Evs.it, Evs.pl, Ow.fr, frs, dTruth, dBin, dCmp, iCmp, dIdx, dSli, dAtt, dBlt, dBlt1, dBlt2, okN, Ow.nl, D.nl, nls, onls, outF, outM, self0, mkTup, pers, fzo, CT.setO, CTs.setO, putP, Tab.kd, tyN, evs_k, D.asS, D.asL, D.f0, D.in0, D.eq0, D.flat, flats, fdep, eqvI, eqv_str, eqv_bl, eqv_lst, eqv_tup, eqvs_cons, eqvs_nil, eqvs_nc, eqvs_cn, isas, xis, sne, sok, dNeg, dRev, look, keyT, D.isN, Tab.mkX, frs_per, Ow.strip, Ow.isAt, Ow.put, Ow.over, frs_app, Ow.kids, Ow.setKids, -List.map_map, -List.map_take, -List.map_drop, envF, hk]
      simp only [stepS, evP_nil, ec, fzo, if_true, hfr]
      simp [CT.setO, envF]
  · simp only [stepS, evP_nil, e1, fzo, if_true, f1]
    simp [CT.setO, envF]
theorem loopF (n : Nat) (g : Grid) (past : List Grid) (br bh over : Bool) (m : Nat) : ∀ (ks ls : Grid) (x6 x7 : Option Ow), ls.length + ks.length ≤ 1000 → (∀ l ∈ ks, 2 * m ≤ l.length ∧ l.length ≤ 1000 ∧ ∀ p ∈ l, p.length ≤ 1000) →
    ∃ y6 y7, forE (evs T (n + 20)) (.nm 6) bdF (ks.map lineD) (envF g past br bh over m (some (.per (.bl br))) (some (fndO ls)) x6 x7) = some (.nx (envF g past br bh over m (some (.per (.bl br))) (some (fndO (ls ++ ks.map (foldLn over br bh m)))) y6 y7))
  | [], ls, x6, x7, _, _ => ⟨x6, x7, by simp [forE]⟩
  | l :: ks, ls, x6, x7, h, hl => by
    simp only [List.length_cons] at h
    obtain ⟨q1, q2, q3⟩ := hl l List.mem_cons_self
    obtain ⟨y7, hb⟩ := bodyF n g past br bh over m ls l x7 (by omega) q1 q2 q3
    obtain ⟨z6, z7, ih⟩ := loopF n g past br bh over m ks (ls ++ [foldLn over br bh m l]) (some (.per (lineD l))) y7 (by simp; omega) fun k hk => hl k (List.mem_cons_of_mem _ hk)
    refine ⟨z6, z7, ?_⟩
    have hs : (CT.nm 6).setO (envF g past br bh over m (some (.per (.bl br))) (some (fndO ls)) x6 x7) (.per (lineD l)) = some (envF g past br bh over m (some (.per (.bl br))) (some (fndO ls)) (some (.per (lineD l))) x7) := by simp [CT.setO, envF]
    simp only [List.map_cons, forE, hs, hb]
    rw [ih]
    simp

theorem colsN_map (f : List Pile → List Pile) (g : Grid) (h0 : g ≠ []) (k : Nat) (h : ∀ l ∈ g, (f l).length = k) : colsN (g.map f) = k := by
  cases g with
  | nil => exact absurd rfl h0
  | cons r g => simpa [colsN] using h r List.mem_cons_self
/-- a grid: some rows, all as long -/
structure GOk (g : Grid) : Prop where
  ne : g ≠ []
  w : ∀ row ∈ g, row.length = colsN g
  r8 : g.length ≤ 8
  c8 : colsN g ≤ 8
  p : ∀ row ∈ g, ∀ p ∈ row, p.length ≤ 100
theorem getD_mem {row : List Pile} {i : Nat} (h : i < row.length) : row.getD i [] ∈ row := by
  rw [List.getD_eq_getElem?_getD, List.getElem?_eq_getElem h]
  exact List.getElem_mem h
theorem across_w (g : Grid) : ∀ l ∈ across g, l.length = g.length := fun l hl => by
  obtain ⟨i, _, rfl⟩ := List.mem_map.mp hl
  simp
theorem across_len (g : Grid) : (across g).length = colsN g := by simp [across]
theorem across_p {g : Grid} (G : GOk g) : ∀ l ∈ across g, ∀ p ∈ l, p.length ≤ 100 := fun l hl p hp => by
  obtain ⟨i, hi, rfl⟩ := List.mem_map.mp hl
  obtain ⟨row, hr, rfl⟩ := List.mem_map.mp hp
  exact G.p row hr _ (getD_mem (by rw [G.w row hr]; exact List.mem_range.mp hi))
theorem fst_ok (n : Nat) (g : Grid) (past : List Grid) (G : GOk g) (br bh over : Bool) (m : Nat) (hm : 1 ≤ m ∧ (m : Int) ≤ mostF br g) :
    stepS T (evs T (n + 25)) (envF g past br bh over m none none none none) (.expr [0] (.meth "Stack" "need_fold" (.var 0) [(.var 1), (.var 2), (.var 3)])) = some (.nx (envF g past br bh over m none none none none)) := by
  have h := fun j => need_ok j g past G.ne br bh over m ⟨by omega, hm.2⟩
  have hf := stkO_fr g past
  simp [callFI, runB, stepS, evP, evT, evPs, owL, own1, vwL, entE, entA, evs_o, evs_t, evs_b, stepO, stepT, step1, R.calm, Evs.dv, Evs.ds, Evs.os, Evs.ts, Evs.oi, Evs.it, Evs.pl, Ow.fr, frs, dTruth, dBin, dCmp, iCmp, dIdx, dSli, dAtt, dBlt, dBlt1, dBlt2, okN, Ow.nl, D.nl, nls, onls, outF, outM, self0, mkTup, pers, fzo, CT.setO, CTs.setO, putP, Tab.kd, tyN, evs_k, D.asS, D.asL, D.f0, D.in0, D.eq0, D.flat, flats, fdep, eqvI, eqv_str, eqv_bl, eqv_lst, eqv_tup, eqvs_cons, eqvs_nil, eqvs_nc, eqvs_cn, isas, xis, sne, sok, dNeg, dRev, look, keyT, D.isN, Tab.mkX, frs_per, Ow.strip, Ow.isAt, Ow.put, Ow.over, frs_app, Ow.kids, Ow.setKids, -List.map_map, -List.map_take, -List.map_drop, envF, hf, h]
theorem lines_it (n : Nat) (g : Grid) (past : List Grid) (G : GOk g) (br bh over : Bool) (m : Nat) (x5 : Option Ow) : (evs T (n + 20)).it (envF g past br bh over m (some (.per (.bl br))) x5 none none) (.ite (.var 4) (.call i_across [(.att (.var 0) "spots")]) (.att (.var 0) "spots")) = .ok ((linesG br g).map lineD) := by
  have hfix : T.fix "Stack" ["spots", "past"] "spots" = some 0 := by kernel_rfl
  have ha := fun j => across_ok j g G.ne G.w (by have := G.r8; omega) (by have := G.c8; omega)
  have hf := acrossO_fr g
  cases br
  · simp [callFI, runB, stepS, evP, evT, evPs, owL, own1, vwL, entE, entA, evs_o, evs_t, evs_b, stepO, stepT, step1, R.calm, Evs.dv, Evs.ds, Evs.os, Evs.ts, Evs.oi, Evs.it, Evs.pl, Ow.fr, frs, dTruth, dBin, dCmp, iCmp, dIdx, dSli, dAtt, dBlt, dBlt1, dBlt2, okN, Ow.nl, D.nl, nls, onls, outF, outM, self0, mkTup, pers, fzo, CT.setO, CTs.setO, putP, Tab.kd, tyN, evs_k, D.asS, D.asL, D.f0, D.in0, D.eq0, D.flat, flats, fdep, eqvI, eqv_str, eqv_bl, eqv_lst, eqv_tup, eqvs_cons, eqvs_nil, eqvs_nc, eqvs_cn, isas, xis, sne, sok, dNeg, dRev, look, keyT, D.isN, Tab.mkX, frs_per, Ow.strip, Ow.isAt, Ow.put, Ow.over, frs_app, Ow.kids, Ow.setKids, -List.map_map, -List.map_take, -List.map_drop, envF, stkO, hfix, linesG, gridD]
  · simp only [gridD] at ha hf
    simp [callFI, runB, stepS, evP, evT, evPs, owL, own1, vwL, entE, entA, evs_o, evs_t, evs_b, stepO, stepT, step1, R.calm, Evs.dv, Evs.ds, Evs.os, Evs.ts, Evs.oi, Evs.it, Evs.pl, Ow.fr, frs, dTruth, dBin, dCmp, iCmp, dIdx, dSli, dAtt, dBlt, dBlt1, dBlt2, okN, Ow.nl, D.nl, nls, onls, outF, outM, self0, mkTup, pers, fzo, CT.setO, CTs.setO, putP, Tab.kd, tyN, evs_k, D.asS, D.asL, D.f0, D.in0, D.eq0, D.flat, flats, fdep, eqvI, eqv_str, eqv_bl, eqv_lst, eqv_tup, eqvs_cons, eqvs_nil, eqvs_nc, eqvs_cn, isas, xis, sne, sok, dNeg, dRev, look, keyT, D.isN, Tab.mkX, frs_per, Ow.strip, Ow.isAt, Ow.put, Ow.over, frs_app, Ow.kids, Ow.setKids, -List.map_map, -List.map_take, -List.map_drop, envF, stkO, hfix, linesG, gridD, ha, hf]
theorem lines_ok {g : Grid} (G : GOk g) (br : Bool) (m : Nat) (hm : (m : Int) ≤ mostF br g) : (linesG br g).length ≤ 8 ∧ ∀ l ∈ linesG br g, 2 * m ≤ l.length ∧ l.length ≤ 8 ∧ ∀ p ∈ l, p.length ≤ 100 := by
  unfold mostF at hm
  cases br with
  | false =>
    simp only [linesG, Bool.false_eq_true, if_false] at hm ⊢
    refine ⟨G.r8, fun l hl => ⟨?_, ?_, G.p l hl⟩⟩
    · rw [G.w l hl]; omega
    · rw [G.w l hl]; exact G.c8
  | true =>
    simp only [linesG, if_true] at hm ⊢
    refine ⟨by rw [across_len]; exact G.c8, fun l hl => ⟨?_, ?_, across_p G l hl⟩⟩
    · rw [across_w g l hl]; omega
    · rw [across_w g l hl]; exact G.r8
theorem foldL_len (over b : Bool) (ps : List Pile) (m : Nat) (h : 2 * m ≤ ps.length) : (foldL over b ps m).length = ps.length - m := by
  unfold foldL
  rw [lay_len _ _ _ _ (by simp; omega), List.length_drop]
theorem foldLn_len (over br bh : Bool) (m : Nat) (l : List Pile) (h : 2 * m ≤ l.length) : (foldLn over br bh m l).length = l.length - m := by
  unfold foldLn
  rw [revIf_len, foldL_len _ _ _ _ (by rw [revIf_len]; exact h), revIf_len]
def foldsG (over br bh : Bool) (m : Nat) (g : Grid) : Grid := (linesG br g).map (foldLn over br bh m)
theorem foldsG_ne {g : Grid} (G : GOk g) (over br bh : Bool) (m : Nat) (hc : 1 ≤ colsN g) : foldsG over br bh m g ≠ [] := by
  intro h
  have := congrArg List.length h
  simp only [foldsG, List.length_map, List.length_nil] at this
  cases br
  · simp only [linesG, Bool.false_eq_true, if_false] at this
    exact G.ne (List.length_eq_zero_iff.mp this)
  · simp only [linesG, if_true, across_len] at this
    omega
theorem aN : addN (["spots", "past"] : List Str) "spots" = (["spots", "past"] : List Str) := by kernel_rfl
theorem aV (a b v : Ow) : addV (["spots", "past"] : List Str) "spots" [a, b] v = [v, b] := by kernel_rfl
theorem fold_last (n : Nat) (g : Grid) (past : List Grid) (br bh over : Bool) (m : Nat) (ls : Grid) (y6 y7 : Option Ow) (hp : past.length < 1000) (hn : br = true → ls ≠ [] ∧ (∀ row ∈ ls, row.length = colsN ls) ∧ ls.length ≤ 1000 ∧ colsN ls ≤ 1000) :
    runB T (evs T (n + 20)) [.app (.att (.var 0) "past") [] true (.att (.var 0) "spots"), .frz 5, .setF (.var 0) "spots" [5] true (.ite (.var 4) (.call i_across [(.var 5)]) (.var 5))] (envF g past br bh over m (some (.per (.bl br))) (some (fndO ls)) y6 y7) =
      some (.nx (envF (linesG br ls) (past ++ [g]) br bh over m (some (.per (.bl br))) (some (.per (gridD ls))) y6 y7)) := by
  have hfix : T.fix "Stack" ["spots", "past"] "spots" = some 0 := by kernel_rfl
  have hfix2 : T.fix "Stack" ["spots", "past"] "past" = some 1 := by kernel_rfl
  have hz : past.length < sizeLine := by rw [sizeLine_eq]; omega
  have hfr : (fndO ls).fr = gridD ls := by simp only [fndO, Ow.fr, frs_per, gridD]
  rw [runB_nx (e := envF g (past ++ [g]) br bh over m (some (.per (.bl br))) (some (fndO ls)) y6 y7)]
  · rw [runB_nx (e := envF g (past ++ [g]) br bh over m (some (.per (.bl br))) (some (.per (gridD ls))) y6 y7)]
    · rw [runB_nx (e := envF (linesG br ls) (past ++ [g]) br bh over m (some (.per (.bl br))) (some (.per (gridD ls))) y6 y7)]
      · rfl
      · cases br
        · simp [callFI, runB, stepS, evP, evT, evPs, owL, own1, vwL, entE, entA, evs_o, evs_t, evs_b, stepO, stepT, step1, R.calm, Evs.dv, Evs.ds, Evs.os, Evs.ts, Evs.oi, Evs.it, Evs.pl, Ow.fr, frs, dTruth, dBin, dCmp, iCmp, dIdx, dSli, dAtt, dBlt, dBlt1, dBlt2, okN, Ow.nl, D.nl, nls, onls, outF, outM, self0, mkTup, pers, fzo, CT.setO, CTs.setO, putP, Tab.kd, tyN, evs_k, D.asS, D.asL, D.f0, D.in0, D.eq0, D.flat, flats, fdep, eqvI, eqv_str, eqv_bl, eqv_lst, eqv_tup, eqvs_cons, eqvs_nil, eqvs_nc, eqvs_cn, isas, xis, sne, sok, dNeg, dRev, look, keyT, D.isN, Tab.mkX, frs_per, Ow.strip, Ow.isAt, Ow.put, Ow.over, frs_app, Ow.kids, Ow.setKids, -List.map_map, -List.map_take, -List.map_drop, envF, stkO, fld_spots, linesG]
          exact ⟨aN, aV _ _ _⟩
        · obtain ⟨q1, q2, q3, q4⟩ := hn rfl
          have ha := fun j => across_ok j ls q1 q2 q3 q4
          have hf := acrossO_fr ls
          simp [callFI, runB, stepS, evP, evT, evPs, owL, own1, vwL, entE, entA, evs_o, evs_t, evs_b, stepO, stepT, step1, R.calm, Evs.dv, Evs.ds, Evs.os, Evs.ts, Evs.oi, Evs.it, Evs.pl, Ow.fr, frs, dTruth, dBin, dCmp, iCmp, dIdx, dSli, dAtt, dBlt, dBlt1, dBlt2, okN, Ow.nl, D.nl, nls, onls, outF, outM, self0, mkTup, pers, fzo, CT.setO, CTs.setO, putP, Tab.kd, tyN, evs_k, D.asS, D.asL, D.f0, D.in0, D.eq0, D.flat, flats, fdep, eqvI, eqv_str, eqv_bl, eqv_lst, eqv_tup, eqvs_cons, eqvs_nil, eqvs_nc, eqvs_cn, isas, xis, sne, sok, dNeg, dRev, look, keyT, D.isN, Tab.mkX, frs_per, Ow.strip, Ow.isAt, Ow.put, Ow.over, frs_app, Ow.kids, Ow.setKids, -List.map_map, -List.map_take, -List.map_drop, envF, stkO, fld_spots, linesG, ha, hf]
          exact ⟨rfl, aN, aV _ _ _⟩
    · rw [← hfr]
      rfl
  · simp [callFI, runB, stepS, evP, evT, evPs, owL, own1, vwL, entE, entA, evs_o, evs_t, evs_b, stepO, stepT, step1, R.calm, Evs.dv, Evs.ds, Evs.os, Evs.ts, Evs.oi, Evs.it, Evs.pl, Ow.fr, frs, dTruth, dBin, dCmp, iCmp, dIdx, dSli, dAtt, dBlt, dBlt1, dBlt2, okN, Ow.nl, D.nl, nls, onls, outF, outM, self0, mkTup, pers, fzo, CT.setO, CTs.setO, putP, Tab.kd, tyN, evs_k, D.asS, D.asL, D.f0, D.in0, D.eq0, D.flat, flats, fdep, eqvI, eqv_str, eqv_bl, eqv_lst, eqv_tup, eqvs_cons, eqvs_nil, eqvs_nc, eqvs_cn, isas, xis, sne, sok, dNeg, dRev, look, keyT, D.isN, Tab.mkX, frs_per, Ow.strip, Ow.isAt, Ow.put, Ow.over, frs_app, Ow.kids, Ow.setKids, -List.map_map, -List.map_take, -List.map_drop, envF, stkO, hfix, hfix2, hz]
theorem GOk.folds {g : Grid} (G : GOk g) (over br bh : Bool) (m : Nat) (hm : (m : Int) ≤ mostF br g) : ∀ row ∈ foldsG over br bh m g, row.length = (if br then g.length else colsN g) - m := fun row hr => by
  obtain ⟨l, hl, rfl⟩ := List.mem_map.mp hr
  rw [foldLn_len _ _ _ _ _ ((lines_ok G br m hm).2 l hl).1]
  cases br
  · simp only [linesG, Bool.false_eq_true, if_false] at hl ⊢
    rw [G.w l hl]
  · simp only [linesG, if_true] at hl ⊢
    rw [across_w g l hl]
theorem foldG_eq (over br bh : Bool) (m : Nat) (g : Grid) : foldG over br bh m g = linesG br (foldsG over br bh m g) := rfl
theorem fold_ok (n : Nat) (g : Grid) (past : List Grid) (G : GOk g) (hc : 1 ≤ colsN g) (br bh over : Bool) (m : Nat) (hm : 1 ≤ m ∧ (m : Int) ≤ mostF br g) (hp : past.length < 1000) :
    (evs T (n + 26)).io "Stack" "fold_part" (stkO g past) [.str (edgeS br bh), .int m, .str (wayS over)] = .ok (stkO (foldG over br bh m g) (past ++ [g])) (.per .non) := by
  obtain ⟨k1, k2⟩ := lines_ok G br m hm.2
  obtain ⟨y6, y7, hw⟩ := loopF (n + 5) g past br bh over m (linesG br g) [] none none (by simp; omega) fun l hl => ⟨(k2 l hl).1, by have := (k2 l hl).2.1; omega, fun p hp => by have := (k2 l hl).2.2 p hp; omega⟩
  rw [evs_io]
  unfold stepIO
  rw [m_Stack_fold_part]
  show outM (runB T (evs T (n + 25)) b_Stack_fold_part (envF g past br bh over m none none none none)) = _
  unfold b_Stack_fold_part
  rw [runB_nx (fst_ok n g past G br bh over m hm)]
  rw [runB_nx (e := envF g past br bh over m (some (.per (.bl br))) none none none) (by cases br <;> cases bh <;> simp [callFI, runB, stepS, evP, evT, evPs, owL, own1, vwL, entE, entA, evs_o, evs_t, evs_b, stepO, stepT, step1, R.calm, Evs.dv, Evs.ds, Evs.os, Evs.ts, Evs.oi, Evs.it, Evs.pl, Ow.fr, frs, dTruth, dBin, dCmp, iCmp, dIdx, dSli, dAtt, dBlt, dBlt1, dBlt2, okN, Ow.nl, D.nl, nls, onls, outF, outM, self0, mkTup, pers, fzo, CT.setO, CTs.setO, putP, Tab.kd, tyN, evs_k, D.asS, D.asL, D.f0, D.in0, D.eq0, D.flat, flats, fdep, eqvI, eqv_str, eqv_bl, eqv_lst, eqv_tup, eqvs_cons, eqvs_nil, eqvs_nc, eqvs_cn, isas, xis, sne, sok, dNeg, dRev, look, keyT, D.isN, Tab.mkX, frs_per, Ow.strip, Ow.isAt, Ow.put, Ow.over, frs_app, Ow.kids, Ow.setKids, -List.map_map, -List.map_take, -List.map_drop, envF, edgeS, g_BY_ROWS])]
  rw [runB_nx (e := envF g past br bh over m (some (.per (.bl br))) (some (fndO [])) none none) (by simp only [stepS, evP_nil]; simp [envF, evs_o, stepO, step1, Evs.os, okN, R.calm, fzo, CT.setO, fndO])]
  rw [runB_nx (e := envF g past br bh over m (some (.per (.bl br))) (some (fndO (foldsG over br bh m g))) y6 y7)]
  · have hrow := G.folds over br bh m hm.2
    have hne := foldsG_ne G over br bh m hc
    have hcol : ∀ k, (∀ row ∈ foldsG over br bh m g, row.length = k) → colsN (foldsG over br bh m g) = k := fun k h => by
      generalize foldsG over br bh m g = ls at *
      cases ls with
      | nil => exact absurd rfl hne
      | cons r ls => simpa [colsN] using h r List.mem_cons_self
    have hcw := hcol _ hrow
    rw [fold_last (n + 5) g past br bh over m (foldsG over br bh m g) y6 y7 hp fun hb => ⟨hne, fun row hr => by rw [hrow row hr, hcw], by simp only [foldsG, List.length_map]; omega, by rw [hcw]; have := G.r8; have := G.c8; split <;> omega⟩]
    simp only [outM, self0, envF, List.getElem?_cons_zero, foldG_eq]
  · rw [List.nil_append] at hw
    rw [← foldsG] at hw
    rw [← hw]
    simp only [stepS, vwL, lines_it (n + 5) g past G br bh over m (some (fndO [])), owL, List.any_nil, Bool.false_and]
    rfl

end Lw

set_option Elab.async false
set_option linter.all false
set_option autoImplicit false
set_option maxRecDepth 100000
set_option maxHeartbeats 1000001
namespace Lw
open PySem Pu
/-! ### new stacks -/
def grid0 (r c : Nat) : Grid := (List.range r).map fun (i : Nat) => (List.range c).map fun (j : Nat) => [⟨(i : Int) + 1, (j : Int) + 1, false, false⟩]
theorem stk_init (r c : Nat) (hr : 1 ≤ r ∧ r ≤ 8) (hc : 1 ≤ c ∧ c ≤ 8) (hz : r * c ≤ 32) (n : Nat) : (evs T (n + 16)).io "Stack" "__init__" (.ins "Stack" [] []) [.int r, .int c] = .ok (stkO (grid0 r c) []) (.per .non) := by
  have h1 : r = 1 ∨ r = 2 ∨ r = 3 ∨ r = 4 ∨ r = 5 ∨ r = 6 ∨ r = 7 ∨ r = 8 := by omega
  have h2 : c = 1 ∨ c = 2 ∨ c = 3 ∨ c = 4 ∨ c = 5 ∨ c = 6 ∨ c = 7 ∨ c = 8 := by omega
  rcases h1 with rfl | rfl | rfl | rfl | rfl | rfl | rfl | rfl <;> rcases h2 with rfl | rfl | rfl | rfl | rfl | rfl | rfl | rfl <;> first
    | (exact absurd hz (by decide))
    | kernel_rfl
theorem grid0_ok (r c : Nat) (hr : 1 ≤ r ∧ r ≤ 8) (hc : 1 ≤ c ∧ c ≤ 8) : GOk (grid0 r c) ∧ colsN (grid0 r c) = c ∧ (grid0 r c).length = r := by
  have hcol : colsN (grid0 r c) = c := by
    obtain ⟨k, rfl⟩ : ∃ k, r = k + 1 := ⟨r - 1, by omega⟩
    simp [grid0, colsN, List.range_succ_eq_map]
  refine ⟨⟨?_, ?_, by simp [grid0]; omega, by omega, ?_⟩, hcol, by simp [grid0]⟩
  · intro h
    have := congrArg List.length h
    simp [grid0] at this
    omega
  · intro row hr
    obtain ⟨i, _, rfl⟩ := List.mem_map.mp hr
    rw [hcol]; simp
  · intro row hr p hp
    obtain ⟨i, _, rfl⟩ := List.mem_map.mp hr
    obtain ⟨j, _, rfl⟩ := List.mem_map.mp hp
    simp

end Lw

set_option Elab.async false
set_option linter.all false
set_option autoImplicit false
set_option maxRecDepth 100000
set_option maxHeartbeats 1000001
namespace Lw
open PySem Pu
/-! ### the law's cells -/
structure Ce where
  r : Int
  c : Int
  a : Int
  d : Int
  h : Int
  s : Bool
  t : Bool
def Ce.k (e : Ce) : List L2.Key := [.inl e.r, .inl e.c]
def Ce.v (e : Ce) : D := .tup [.int e.a, .int e.d, .int e.h, .bl e.s, .bl e.t]
def Ce.lf (e : Ce) : Lf := ⟨e.r, e.c, e.s, e.t⟩
def dictO (cs : List Ce) : Ow := .dT (cs.map Ce.k) ((cs.map Ce.v).map .per)
def dictL (cs : List Ce) : D := .dL (cs.map Ce.k) (cs.map Ce.v)
def cells0 (r c : Nat) : List Ce := (List.range r).flatMap fun (i : Nat) => (List.range c).map fun (j : Nat) => ⟨(i : Int) + 1, (j : Int) + 1, (j : Int) + 1, (i : Int) + 1, 0, false, false⟩
theorem begun_ok (r c : Nat) (hr : 1 ≤ r ∧ r ≤ 8) (hc : 1 ≤ c ∧ c ≤ 8) (hz : r * c ≤ 32) (n : Nat) : (evs T (n + 16)).f i_l_begun [.int r, .int c] = .ok (dictO (cells0 r c)) := by
  have h1 : r = 1 ∨ r = 2 ∨ r = 3 ∨ r = 4 ∨ r = 5 ∨ r = 6 ∨ r = 7 ∨ r = 8 := by omega
  have h2 : c = 1 ∨ c = 2 ∨ c = 3 ∨ c = 4 ∨ c = 5 ∨ c = 6 ∨ c = 7 ∨ c = 8 := by omega
  rcases h1 with rfl | rfl | rfl | rfl | rfl | rfl | rfl | rfl <;> rcases h2 with rfl | rfl | rfl | rfl | rfl | rfl | rfl | rfl <;> first
    | (exact absurd hz (by decide))
    | kernel_rfl

end Lw

set_option Elab.async false
set_option linter.all false
set_option autoImplicit false
set_option maxRecDepth 100000
set_option maxHeartbeats 1000001
namespace Lw
open PySem Pu
/-! ### _law_moved -/
theorem look_ok : ∀ (cs : List Ce), (cs.map Ce.k).Nodup → ∀ e ∈ cs, look (cs.map Ce.k) (cs.map Ce.v) e.k = some e.v
  | [], _, e, h => by cases h
  | c :: cs, hn, e, h => by
    simp only [List.map_cons, List.nodup_cons] at hn
    simp only [List.map_cons, look]
    rcases List.mem_cons.mp h with rfl | h
    · rw [if_pos rfl]
    · have : c.k ≠ e.k := fun z => hn.1 (z ▸ List.mem_map.mpr ⟨e, h, rfl⟩)
      rw [if_neg this]
      exact look_ok cs hn.2 e h
def spotC (br : Bool) (e : Ce) : Int := if br then e.d else e.a
def goesC (br bh : Bool) (m sz : Int) (e : Ce) : Bool := if bh then decide (sz - m < spotC br e) else decide (spotC br e ≤ m)
/-- one cell behind a fold -/
def mv (br bh over : Bool) (m sz lo hi : Int) (e : Ce) : Ce :=
  let go := goesC br bh m sz e
  let sp := if go then (if bh then 2 * (sz - m) + 1 - spotC br e else m + 1 - spotC br e) else (if bh then spotC br e else spotC br e - m)
  ⟨e.r, e.c, if br then e.a else sp, if br then sp else e.d, if go then (if over then 2 * hi + 1 - e.h else 2 * lo - 1 - e.h) else e.h,
    if go then (if br then e.s else !e.s) else e.s, if go then (if br then !e.t else e.t) else e.t⟩
def spM (br bh : Bool) (m sz : Int) (e : Ce) : Int := if goesC br bh m sz e then (if bh then 2 * (sz - m) + 1 - spotC br e else m + 1 - spotC br e) else (if bh then spotC br e else spotC br e - m)
theorem mv_a (br bh over : Bool) (m sz lo hi : Int) (e : Ce) : (mv br bh over m sz lo hi e).a = if br then e.a else spM br bh m sz e := rfl
theorem mv_d (br bh over : Bool) (m sz lo hi : Int) (e : Ce) : (mv br bh over m sz lo hi e).d = if br then spM br bh m sz e else e.d := rfl
def foldD (br bh over : Bool) (m : Int) : D := .tup [.str (edgeS br bh), .int m, .str (wayS over)]
def envM (cs : List Ce) (r c : Int) (br bh over : Bool) (m sz lo hi : Int) (x8 : Option Ow) (don : List Ce) (x12 x13 x14 x15 x16 x17 x18 x19 x20 : Option Ow) : Ev :=
  [some (.per (dictL cs)), some (.per (.tup [.int r, .int c])), some (.per (foldD br bh over m)), some (.per (.str (edgeS br bh))), some (.per (.int m)), some (.per (.str (wayS over))), some (.per (.bl br)), some (.per (.int sz)), x8, some (.per (.int lo)), some (.per (.int hi)), some (dictO don), x12, x13, x14, x15, x16, x17, x18, x19, x20]
theorem key_d (e : Ce) : keyD e.k = .tup [.int e.r, .int e.c] := rfl
theorem key_t (e : Ce) : keyT [.int e.r, .int e.c] = some e.k := rfl
theorem dict_at (n : Nat) (cs : List Ce) (hn : (cs.map Ce.k).Nodup) (e : Ce) (he : e ∈ cs) (env : Ev) (i j : Nat) (h1 : env[i]? = some (some (.per (dictL cs)))) (h2 : env[j]? = some (some (.per (keyD e.k)))) : (evs T (n + 2)).o env (.idx (.var i) (.var j)) = .ok (.per e.v) := by
  have hl := look_ok cs hn e he
  have hk := key_t e
  rw [key_d] at h2
  rw [evs_o]
  have e1 : Evs.pl T (evs T (n + 1)) env (.idx (.var i) (.var j)) = none := by simp [Evs.pl, h1]
  have e2 : (evs T (n + 1)).dv env (.var i) = .ok (dictL cs) := by simp [Evs.dv, evs_o, stepO, step1, h1, R.calm, Ow.fr]
  have e3 : (evs T (n + 1)).dv env (.var j) = .ok (.tup [.int e.r, .int e.c]) := by simp [Evs.dv, evs_o, stepO, step1, h2, R.calm, Ow.fr]
  simp only [stepO, step1, e1, e2, e3, dIdx, dictL, hk, hl, R.calm]
theorem putKs_new {ks : List (List L2.Key)} {k : List L2.Key} (h : k ∉ ks) : putKs ks k = ks ++ [k] := if_neg h
theorem putVs_new {ks : List (List L2.Key)} {os : List Ow} {k : List L2.Key} {x : Ow} (h : k ∉ ks) : putVs ks os k x = os ++ [x] := if_neg h
abbrev ifM4 : CS := .ife [] (.bop .Or (.bop .And (.var 19) (.cmp .LtE (.var 18) (.var 4))) (.bop .And (.not (.var 19)) (.cmp .Gt (.var 18) (.bin .Sub (.var 7) (.var 4))))) [.asg (.nm 15) [] true (.ite (.cmp .Eq (.var 5) (.cst (.str "over"))) (.bin .Sub (.bin .Add (.bin .Mult (.cst (.int 2)) (.var 10)) (.cst (.int 1))) (.var 15)) (.bin .Sub (.bin .Sub (.bin .Mult (.cst (.int 2)) (.var 9)) (.cst (.int 1))) (.var 15))),
    .asg (.nm 18) [] true (.ite (.var 19) (.bin .Sub (.bin .Add (.var 4) (.cst (.int 1))) (.var 18)) (.bin .Sub (.bin .Add (.bin .Mult (.cst (.int 2)) (.bin .Sub (.var 7) (.var 4))) (.cst (.int 1))) (.var 18))),
    .asg (.nm 16) [] true (.ite (.var 6) (.var 16) (.not (.var 16))),
    .asg (.nm 17) [] true (.ite (.var 6) (.not (.var 17)) (.var 17))] [.ife [] (.var 19) [.asg (.nm 18) [] true (.bin .Sub (.var 18) (.var 4))] []]
abbrev bdM : List CS := [.asg (.tp (.cons (.nm 13) (.cons (.nm 14) (.cons (.nm 15) (.cons (.nm 16) (.cons (.nm 17) .nil)))))) [] true (.idx (.var 0) (.var 12)),
    .asg (.nm 18) [] true (.ite (.var 6) (.var 14) (.var 13)),
    .asg (.nm 19) [] true (.cmp .In (.var 3) (.tup [(.cst (.str "left")), (.cst (.str "top"))])),
    ifM4,
    .asg (.nm 20) [] true (.ite (.var 6) (.tup [(.var 13), (.var 18)]) (.tup [(.var 18), (.var 14)])),
    .setD (.var 11) (.var 12) [] (.bin .Add (.var 20) (.tup [(.var 15), (.var 16), (.var 17)]))]
theorem bodyM (n : Nat) (cs : List Ce) (hn : (cs.map Ce.k).Nodup) (r c : Int) (br bh over : Bool) (m sz lo hi : Int) (x8 : Option Ow) (don : List Ce) (e : Ce) (he : e ∈ cs) (hd : e.k ∉ don.map Ce.k) (hl : don.length ≤ 1000) (x13 x14 x15 x16 x17 x18 x19 x20 : Option Ow) :
    ∃ y13 y14 y15 y16 y17 y18 y19 y20, (evs T (n + 14)).b (envM cs r c br bh over m sz lo hi x8 don (some (.per (keyD e.k))) x13 x14 x15 x16 x17 x18 x19 x20) bdM = some (.nx (envM cs r c br bh over m sz lo hi x8 (don ++ [mv br bh over m sz lo hi e]) (some (.per (keyD e.k))) y13 y14 y15 y16 y17 y18 y19 y20)) := by
  have hz : don.length < sizeLine := by rw [sizeLine_eq]; omega
  have hat := dict_at (n + 11) cs hn e he (envM cs r c br bh over m sz lo hi x8 don (some (.per (keyD e.k))) x13 x14 x15 x16 x17 x18 x19 x20) 0 12 rfl rfl
  have hk := key_t e
  have hpk := putKs_new hd
  have hpv := fun x => putVs_new (os := (don.map Ce.v).map .per) (x := x) hd
  have h2 : ∀ z : Int, (-(2 ^ 64) < (2 : Int) ∧ (2 : Int) < 2 ^ 64) := fun _ => by decide
  rw [evs_b]
  rw [runB_nx (e := envM cs r c br bh over m sz lo hi x8 don (some (.per (keyD e.k))) (some (.per (.int e.a))) (some (.per (.int e.d))) (some (.per (.int e.h))) (some (.per (.bl e.s))) (some (.per (.bl e.t))) x18 x19 x20) (by
    simp only [stepS, evP_nil, hat, fzo, if_true, Ow.fr, Ce.v]
    simp [CT.setO, CTs.setO, envM])]
  rw [runB_nx (e := envM cs r c br bh over m sz lo hi x8 don (some (.per (keyD e.k))) (some (.per (.int e.a))) (some (.per (.int e.d))) (some (.per (.int e.h))) (some (.per (.bl e.s))) (some (.per (.bl e.t))) (some (.per (.int (spotC br e)))) x19 x20) (by
    cases br <;> simp [callFI, runB, stepS, evP, evT, evPs, owL, own1, vwL, entE, entA, evs_o, evs_t, evs_b, stepO, stepT, step1, R.calm, Evs.dv, Evs.ds, Evs.os, Evs.ts, Evs.oi, Evs.it, Evs.pl, Ow.fr, frs, dTruth, dBin, dCmp, iCmp, dIdx, dSli, dAtt, dBlt, dBlt1, dBlt2, okN, Ow.nl, D.nl, nls, onls, outF, outM, self0, mkTup, pers, fzo, CT.setO, CTs.setO, putP, Tab.kd, tyN, evs_k, D.asS, D.asL, D.f0, D.in0, D.eq0, D.flat, flats, fdep, eqvI, eqv_str, eqv_bl, eqv_lst, eqv_tup, eqvs_cons, eqvs_nil, eqvs_nc, eqvs_cn, isas, xis, sne, sok, dNeg, dRev, look, keyT, D.isN, Tab.mkX, frs_per, Ow.strip, Ow.isAt, Ow.put, Ow.over, frs_app, Ow.kids, Ow.setKids, -List.map_map, -List.map_take, -List.map_drop, envM, spotC])]
  rw [runB_nx (e := envM cs r c br bh over m sz lo hi x8 don (some (.per (keyD e.k))) (some (.per (.int e.a))) (some (.per (.int e.d))) (some (.per (.int e.h))) (some (.per (.bl e.s))) (some (.per (.bl e.t))) (some (.per (.int (spotC br e)))) (some (.per (.bl (!bh)))) x20) (by
    cases br <;> cases bh <;> simp [callFI, runB, stepS, evP, evT, evPs, owL, own1, vwL, entE, entA, evs_o, evs_t, evs_b, stepO, stepT, step1, R.calm, Evs.dv, Evs.ds, Evs.os, Evs.ts, Evs.oi, Evs.it, Evs.pl, Ow.fr, frs, dTruth, dBin, dCmp, iCmp, dIdx, dSli, dAtt, dBlt, dBlt1, dBlt2, okN, Ow.nl, D.nl, nls, onls, outF, outM, self0, mkTup, pers, fzo, CT.setO, CTs.setO, putP, Tab.kd, tyN, evs_k, D.asS, D.asL, D.f0, D.in0, D.eq0, D.flat, flats, fdep, eqvI, eqv_str, eqv_bl, eqv_lst, eqv_tup, eqvs_cons, eqvs_nil, eqvs_nc, eqvs_cn, isas, xis, sne, sok, dNeg, dRev, look, keyT, D.isN, Tab.mkX, frs_per, Ow.strip, Ow.isAt, Ow.put, Ow.over, frs_app, Ow.kids, Ow.setKids, -List.map_map, -List.map_take, -List.map_drop, envM, edgeS])]
  have s4 : stepS T (evs T (n + 13)) (envM cs r c br bh over m sz lo hi x8 don (some (.per (keyD e.k))) (some (.per (.int e.a))) (some (.per (.int e.d))) (some (.per (.int e.h))) (some (.per (.bl e.s))) (some (.per (.bl e.t))) (some (.per (.int (spotC br e)))) (some (.per (.bl (!bh)))) x20) ifM4 =
      some (.nx (envM cs r c br bh over m sz lo hi x8 don (some (.per (keyD e.k))) (some (.per (.int e.a))) (some (.per (.int e.d))) (some (.per (.int (mv br bh over m sz lo hi e).h))) (some (.per (.bl (mv br bh over m sz lo hi e).s))) (some (.per (.bl (mv br bh over m sz lo hi e).t))) (some (.per (.int (spM br bh m sz e)))) (some (.per (.bl (!bh)))) x20)) := by
    simp only [mv, spM]
    generalize hsp : spotC br e = sp
    generalize keyD e.k = kd
    generalize dictO don = dd
    generalize dictL cs = dl
    cases bh
    · by_cases hg : sp ≤ m
      · have hgo : goesC br false m sz e = true := by simp [goesC, hsp, hg]
        rw [hgo]
        cases br <;> cases over <;> simp [callFI, runB, stepS, evP, evT, evPs, owL, own1, vwL, entE, entA, evs_o, evs_t, evs_b, stepO, stepT, step1, R.calm, Evs.dv, Evs.ds, Evs.os, Evs.ts, Evs.oi, Evs.it, Evs.pl, Ow.fr, frs, dTruth, dBin, dCmp, iCmp, dIdx, dSli, dAtt, dBlt, dBlt1, dBlt2, okN, Ow.nl, D.nl, nls, onls, outF, outM, self0, mkTup, pers, fzo, CT.setO, CTs.setO, putP, Tab.kd, tyN, evs_k, D.asS, D.asL, D.f0, D.in0, D.eq0, D.flat, flats, fdep, eqvI, eqv_str, eqv_bl, eqv_lst, eqv_tup, eqvs_cons, eqvs_nil, eqvs_nc, eqvs_cn, isas, xis, sne, sok, dNeg, dRev, look, keyT, D.isN, Tab.mkX, frs_per, Ow.strip, Ow.isAt, Ow.put, Ow.over, frs_app, Ow.kids, Ow.setKids, -List.map_map, -List.map_take, -List.map_drop, envM, hg, wayS]
      · have hgo : goesC br false m sz e = false := by simp [goesC, hsp]; omega
        rw [hgo]
        simp [callFI, runB, stepS, evP, evT, evPs, owL, own1, vwL, entE, entA, evs_o, evs_t, evs_b, stepO, stepT, step1, R.calm, Evs.dv, Evs.ds, Evs.os, Evs.ts, Evs.oi, Evs.it, Evs.pl, Ow.fr, frs, dTruth, dBin, dCmp, iCmp, dIdx, dSli, dAtt, dBlt, dBlt1, dBlt2, okN, Ow.nl, D.nl, nls, onls, outF, outM, self0, mkTup, pers, fzo, CT.setO, CTs.setO, putP, Tab.kd, tyN, evs_k, D.asS, D.asL, D.f0, D.in0, D.eq0, D.flat, flats, fdep, eqvI, eqv_str, eqv_bl, eqv_lst, eqv_tup, eqvs_cons, eqvs_nil, eqvs_nc, eqvs_cn, isas, xis, sne, sok, dNeg, dRev, look, keyT, D.isN, Tab.mkX, frs_per, Ow.strip, Ow.isAt, Ow.put, Ow.over, frs_app, Ow.kids, Ow.setKids, -List.map_map, -List.map_take, -List.map_drop, envM, hg]
    · by_cases hg : sz - m < sp
      · have hgo : goesC br true m sz e = true := by simp [goesC, hsp, hg]
        rw [hgo]
        cases br <;> cases over <;> simp [callFI, runB, stepS, evP, evT, evPs, owL, own1, vwL, entE, entA, evs_o, evs_t, evs_b, stepO, stepT, step1, R.calm, Evs.dv, Evs.ds, Evs.os, Evs.ts, Evs.oi, Evs.it, Evs.pl, Ow.fr, frs, dTruth, dBin, dCmp, iCmp, dIdx, dSli, dAtt, dBlt, dBlt1, dBlt2, okN, Ow.nl, D.nl, nls, onls, outF, outM, self0, mkTup, pers, fzo, CT.setO, CTs.setO, putP, Tab.kd, tyN, evs_k, D.asS, D.asL, D.f0, D.in0, D.eq0, D.flat, flats, fdep, eqvI, eqv_str, eqv_bl, eqv_lst, eqv_tup, eqvs_cons, eqvs_nil, eqvs_nc, eqvs_cn, isas, xis, sne, sok, dNeg, dRev, look, keyT, D.isN, Tab.mkX, frs_per, Ow.strip, Ow.isAt, Ow.put, Ow.over, frs_app, Ow.kids, Ow.setKids, -List.map_map, -List.map_take, -List.map_drop, envM, hg, wayS]
      · have hgo : goesC br true m sz e = false := by simp [goesC, hsp]; omega
        rw [hgo]
        simp [callFI, runB, stepS, evP, evT, evPs, owL, own1, vwL, entE, entA, evs_o, evs_t, evs_b, stepO, stepT, step1, R.calm, Evs.dv, Evs.ds, Evs.os, Evs.ts, Evs.oi, Evs.it, Evs.pl, Ow.fr, frs, dTruth, dBin, dCmp, iCmp, dIdx, dSli, dAtt, dBlt, dBlt1, dBlt2, okN, Ow.nl, D.nl, nls, onls, outF, outM, self0, mkTup, pers, fzo, CT.setO, CTs.setO, putP, Tab.kd, tyN, evs_k, D.asS, D.asL, D.f0, D.in0, D.eq0, D.flat, flats, fdep, eqvI, eqv_str, eqv_bl, eqv_lst, eqv_tup, eqvs_cons, eqvs_nil, eqvs_nc, eqvs_cn, isas, xis, sne, sok, dNeg, dRev, look, keyT, D.isN, Tab.mkX, frs_per, Ow.strip, Ow.isAt, Ow.put, Ow.over, frs_app, Ow.kids, Ow.setKids, -List.map_map, -List.map_take, -List.map_drop, envM, hg]
  rw [runB_nx s4]
  rw [runB_nx (e := envM cs r c br bh over m sz lo hi x8 don (some (.per (keyD e.k))) (some (.per (.int e.a))) (some (.per (.int e.d))) (some (.per (.int (mv br bh over m sz lo hi e).h))) (some (.per (.bl (mv br bh over m sz lo hi e).s))) (some (.per (.bl (mv br bh over m sz lo hi e).t))) (some (.per (.int (spM br bh m sz e)))) (some (.per (.bl (!bh)))) (some (.per (.tup [.int (mv br bh over m sz lo hi e).a, .int (mv br bh over m sz lo hi e).d])))) (by
    rw [mv_a, mv_d]
    generalize (mv br bh over m sz lo hi e).h = h0
    generalize (mv br bh over m sz lo hi e).s = s0
    generalize (mv br bh over m sz lo hi e).t = t0
    cases br <;> simp [callFI, runB, stepS, evP, evT, evPs, owL, own1, vwL, entE, entA, evs_o, evs_t, evs_b, stepO, stepT, step1, R.calm, Evs.dv, Evs.ds, Evs.os, Evs.ts, Evs.oi, Evs.it, Evs.pl, Ow.fr, frs, dTruth, dBin, dCmp, iCmp, dIdx, dSli, dAtt, dBlt, dBlt1, dBlt2, okN, Ow.nl, D.nl, nls, onls, outF, outM, self0, mkTup, pers, fzo, CT.setO, CTs.setO, putP, Tab.kd, tyN, evs_k, D.asS, D.asL, D.f0, D.in0, D.eq0, D.flat, flats, fdep, eqvI, eqv_str, eqv_bl, eqv_lst, eqv_tup, eqvs_cons, eqvs_nil, eqvs_nc, eqvs_cn, isas, xis, sne, sok, dNeg, dRev, look, keyT, D.isN, Tab.mkX, frs_per, Ow.strip, Ow.isAt, Ow.put, Ow.over, frs_app, Ow.kids, Ow.setKids, -List.map_map, -List.map_take, -List.map_drop, envM])]
  refine ⟨some (.per (.int e.a)), some (.per (.int e.d)), some (.per (.int (mv br bh over m sz lo hi e).h)), some (.per (.bl (mv br bh over m sz lo hi e).s)), some (.per (.bl (mv br bh over m sz lo hi e).t)), some (.per (.int (spM br bh m sz e))), some (.per (.bl (!bh))), some (.per (.tup [.int (mv br bh over m sz lo hi e).a, .int (mv br bh over m sz lo hi e).d])), ?_⟩
  rw [runB_nx (e := envM cs r c br bh over m sz lo hi x8 (don ++ [mv br bh over m sz lo hi e]) (some (.per (keyD e.k))) (some (.per (.int e.a))) (some (.per (.int e.d))) (some (.per (.int (mv br bh over m sz lo hi e).h))) (some (.per (.bl (mv br bh over m sz lo hi e).s))) (some (.per (.bl (mv br bh over m sz lo hi e).t))) (some (.per (.int (spM br bh m sz e)))) (some (.per (.bl (!bh)))) (some (.per (.tup [.int (mv br bh over m sz lo hi e).a, .int (mv br bh over m sz lo hi e).d]))))]
  · rfl
  · have hv : (mv br bh over m sz lo hi e).v = .tup [.int (mv br bh over m sz lo hi e).a, .int (mv br bh over m sz lo hi e).d, .int (mv br bh over m sz lo hi e).h, .bl (mv br bh over m sz lo hi e).s, .bl (mv br bh over m sz lo hi e).t] := rfl
    have hkk : (mv br bh over m sz lo hi e).k = e.k := rfl
    have hdo : dictO (don ++ [mv br bh over m sz lo hi e]) = .dT (don.map Ce.k ++ [e.k]) ((don.map Ce.v).map .per ++ [.per (mv br bh over m sz lo hi e).v]) := by simp only [dictO, List.map_append, List.map_cons, List.map_nil, hkk]
    have hz5 : (5 : Nat) ≤ sizeLine := by rw [sizeLine_eq]; decide
    have hlen : (don.map Ce.k).length < sizeLine := by simpa using hz
    clear s4 hat
    unfold envM
    rw [hdo, hv, key_d]
    unfold dictO
    clear hdo hv hkk
    generalize mv br bh over m sz lo hi e = e'
    generalize don.map Ce.k = kk at *
    generalize (don.map Ce.v).map Ow.per = vv at *
    generalize dictL cs = dl
    simp [callFI, runB, stepS, evP, evT, evPs, owL, own1, vwL, entE, entA, evs_o, evs_t, evs_b, stepO, stepT, step1, R.calm, Evs.dv, Evs.ds, Evs.os, Evs.ts, Evs.oi, Evs.it, Evs.pl, Ow.fr, frs, dTruth, dBin, dCmp, iCmp, dIdx, dSli, dAtt, dBlt, dBlt1, dBlt2, okN, Ow.nl, D.nl, nls, onls, outF, outM, self0, mkTup, pers, fzo, CT.setO, CTs.setO, putP, Tab.kd, tyN, evs_k, D.asS, D.asL, D.f0, D.in0, D.eq0, D.flat, flats, fdep, eqvI, eqv_str, eqv_bl, eqv_lst, eqv_tup, eqvs_cons, eqvs_nil, eqvs_nc, eqvs_cn, isas, xis, sne, sok, dNeg, dRev, look, keyT, D.isN, Tab.mkX, frs_per, Ow.strip, Ow.isAt, Ow.put, Ow.over, frs_app, Ow.kids, Ow.setKids, -List.map_map, -List.map_take, -List.map_drop, hk, hlen, hpk, hpv, hz5]
    exact ⟨hpk, hpv _⟩
theorem loopM (n : Nat) (cs : List Ce) (hn : (cs.map Ce.k).Nodup) (hc : cs.length ≤ 1000) (r c : Int) (br bh over : Bool) (m sz lo hi : Int) (x8 : Option Ow) : ∀ (rest don : List Ce) (x12 x13 x14 x15 x16 x17 x18 x19 x20 : Option Ow), don ++ rest = cs →
    ∃ y12 y13 y14 y15 y16 y17 y18 y19 y20, forE (evs T (n + 14)) (.nm 12) bdM (rest.map fun e => keyD e.k) (envM cs r c br bh over m sz lo hi x8 (don.map (mv br bh over m sz lo hi)) x12 x13 x14 x15 x16 x17 x18 x19 x20) = some (.nx (envM cs r c br bh over m sz lo hi x8 (cs.map (mv br bh over m sz lo hi)) y12 y13 y14 y15 y16 y17 y18 y19 y20))
  | [], don, x12, x13, x14, x15, x16, x17, x18, x19, x20, h => by
    rw [List.append_nil] at h
    subst h
    exact ⟨_, _, _, _, _, _, _, _, _, rfl⟩
  | e :: rest, don, x12, x13, x14, x15, x16, x17, x18, x19, x20, h => by
    have hkm : ∀ l : List Ce, (l.map (mv br bh over m sz lo hi)).map Ce.k = l.map Ce.k := fun l => by rw [List.map_map]; rfl
    have hd : e.k ∉ (don.map (mv br bh over m sz lo hi)).map Ce.k := by
      rw [hkm]
      rw [← h, List.map_append, List.map_cons] at hn
      have := (List.nodup_append.mp hn).2.2
      intro z
      exact this _ z _ (List.mem_cons_self) rfl
    have hl : (don.map (mv br bh over m sz lo hi)).length ≤ 1000 := by
      have := congrArg List.length h
      simp only [List.length_append, List.length_cons] at this
      simp only [List.length_map]
      omega
    obtain ⟨y13, y14, y15, y16, y17, y18, y19, y20, hb⟩ := bodyM n cs hn r c br bh over m sz lo hi x8 (don.map (mv br bh over m sz lo hi)) e (by rw [← h]; simp) hd hl x13 x14 x15 x16 x17 x18 x19 x20
    obtain ⟨z12, z13, z14, z15, z16, z17, z18, z19, z20, ih⟩ := loopM n cs hn hc r c br bh over m sz lo hi x8 rest (don ++ [e]) (some (.per (keyD e.k))) y13 y14 y15 y16 y17 y18 y19 y20 (by simpa using h)
    refine ⟨z12, z13, z14, z15, z16, z17, z18, z19, z20, ?_⟩
    have hs : (CT.nm 12).setO (envM cs r c br bh over m sz lo hi x8 (don.map (mv br bh over m sz lo hi)) x12 x13 x14 x15 x16 x17 x18 x19 x20) (.per (keyD e.k)) = some (envM cs r c br bh over m sz lo hi x8 (don.map (mv br bh over m sz lo hi)) (some (.per (keyD e.k))) x13 x14 x15 x16 x17 x18 x19 x20) := by simp [CT.setO, envM]
    simp only [List.map_cons, forE, hs, hb]
    rw [← ih]
    simp
def loC : List Ce → Int
  | [] => 0
  | e :: cs => minL e.h (cs.map Ce.h)
def hiC : List Ce → Int
  | [] => 0
  | e :: cs => maxL e.h (cs.map Ce.h)
def mvs (br bh over : Bool) (m r c : Int) (cs : List Ce) : List Ce := cs.map (mv br bh over m (if br then r else c) (loC cs) (hiC cs))
theorem heights_it (n : Nat) (cs : List Ce) (env : Ev) (i : Nat) (h : env[i]? = some (some (.per (dictL cs)))) : (evs T (n + 1)).it env (.var i) = .ok (cs.map fun e => keyD e.k) := by
  simp only [Evs.it, Evs.dv, evs_o, stepO, step1, h, R.calm, Ow.fr, dictL, D.asS]
  rw [List.map_map]
  rfl
theorem moved_ok (cs : List Ce) (hn : (cs.map Ce.k).Nodup) (h0 : cs ≠ []) (hc : cs.length ≤ 1000) (r c : Int) (br bh over : Bool) (m : Int) (n : Nat) : (evs T (n + 16)).f i_l_moved [dictL cs, .tup [.int r, .int c], foldD br bh over m] = .ok (dictO (mvs br bh over m r c cs)) := by
  have hz : cs.length ≤ sizeLine := by rw [sizeLine_eq]; omega
  obtain ⟨y12, y13, y14, y15, y16, y17, y18, y19, y20, hw⟩ := loopM (n + 1) cs hn hc r c br bh over m (if br then r else c) (loC cs) (hiC cs) (some (.per (.lst ((cs.map Ce.h).map D.int)))) cs [] none none none none none none none none none rfl
  rw [call_fn fn_l_moved]
  show outF (runB T (evs T (n + 15)) b_l_moved ([some (.per (dictL cs)), some (.per (.tup [.int r, .int c])), some (.per (foldD br bh over m)), none, none, none, none, none, none, none, none, none, none, none, none, none, none, none, none, none, none])) = _
  unfold b_l_moved
  rw [runB_nx (e := [some (.per (dictL cs)), some (.per (.tup [.int r, .int c])), some (.per (foldD br bh over m)), some (.per (.str (edgeS br bh))), some (.per (.int m)), some (.per (.str (wayS over))), none, none, none, none, none, none, none, none, none, none, none, none, none, none, none]) (by simp [callFI, runB, stepS, evP, evT, evPs, owL, own1, vwL, entE, entA, evs_o, evs_t, evs_b, stepO, stepT, step1, R.calm, Evs.dv, Evs.ds, Evs.os, Evs.ts, Evs.oi, Evs.it, Evs.pl, Ow.fr, frs, dTruth, dBin, dCmp, iCmp, dIdx, dSli, dAtt, dBlt, dBlt1, dBlt2, okN, Ow.nl, D.nl, nls, onls, outF, outM, self0, mkTup, pers, fzo, CT.setO, CTs.setO, putP, Tab.kd, tyN, evs_k, D.asS, D.asL, D.f0, D.in0, D.eq0, D.flat, flats, fdep, eqvI, eqv_str, eqv_bl, eqv_lst, eqv_tup, eqvs_cons, eqvs_nil, eqvs_nc, eqvs_cn, isas, xis, sne, sok, dNeg, dRev, look, keyT, D.isN, Tab.mkX, frs_per, Ow.strip, Ow.isAt, Ow.put, Ow.over, frs_app, Ow.kids, Ow.setKids, -List.map_map, -List.map_take, -List.map_drop, foldD])]
  rw [runB_nx (e := [some (.per (dictL cs)), some (.per (.tup [.int r, .int c])), some (.per (foldD br bh over m)), some (.per (.str (edgeS br bh))), some (.per (.int m)), some (.per (.str (wayS over))), some (.per (.bl br)), none, none, none, none, none, none, none, none, none, none, none, none, none, none]) (by cases br <;> cases bh <;> simp [callFI, runB, stepS, evP, evT, evPs, owL, own1, vwL, entE, entA, evs_o, evs_t, evs_b, stepO, stepT, step1, R.calm, Evs.dv, Evs.ds, Evs.os, Evs.ts, Evs.oi, Evs.it, Evs.pl, Ow.fr, frs, dTruth, dBin, dCmp, iCmp, dIdx, dSli, dAtt, dBlt, dBlt1, dBlt2, okN, Ow.nl, D.nl, nls, onls, outF, outM, self0, mkTup, pers, fzo, CT.setO, CTs.setO, putP, Tab.kd, tyN, evs_k, D.asS, D.asL, D.f0, D.in0, D.eq0, D.flat, flats, fdep, eqvI, eqv_str, eqv_bl, eqv_lst, eqv_tup, eqvs_cons, eqvs_nil, eqvs_nc, eqvs_cn, isas, xis, sne, sok, dNeg, dRev, look, keyT, D.isN, Tab.mkX, frs_per, Ow.strip, Ow.isAt, Ow.put, Ow.over, frs_app, Ow.kids, Ow.setKids, -List.map_map, -List.map_take, -List.map_drop, edgeS])]
  rw [runB_nx (e := [some (.per (dictL cs)), some (.per (.tup [.int r, .int c])), some (.per (foldD br bh over m)), some (.per (.str (edgeS br bh))), some (.per (.int m)), some (.per (.str (wayS over))), some (.per (.bl br)), some (.per (.int (if br then r else c))), none, none, none, none, none, none, none, none, none, none, none, none, none]) (by cases br <;> simp [callFI, runB, stepS, evP, evT, evPs, owL, own1, vwL, entE, entA, evs_o, evs_t, evs_b, stepO, stepT, step1, R.calm, Evs.dv, Evs.ds, Evs.os, Evs.ts, Evs.oi, Evs.it, Evs.pl, Ow.fr, frs, dTruth, dBin, dCmp, iCmp, dIdx, dSli, dAtt, dBlt, dBlt1, dBlt2, okN, Ow.nl, D.nl, nls, onls, outF, outM, self0, mkTup, pers, fzo, CT.setO, CTs.setO, putP, Tab.kd, tyN, evs_k, D.asS, D.asL, D.f0, D.in0, D.eq0, D.flat, flats, fdep, eqvI, eqv_str, eqv_bl, eqv_lst, eqv_tup, eqvs_cons, eqvs_nil, eqvs_nc, eqvs_cn, isas, xis, sne, sok, dNeg, dRev, look, keyT, D.isN, Tab.mkX, frs_per, Ow.strip, Ow.isAt, Ow.put, Ow.over, frs_app, Ow.kids, Ow.setKids, -List.map_map, -List.map_take, -List.map_drop, L2.atI, L2.ixN])]
  have hl : ∀ env : Ev, env[0]? = some (some (.per (dictL cs))) → env.length = 21 → (lendE (evs T (n + 15)) []).lc (wipeE env [12]) (.nm 12) [] (.idx (.idx (.var 0) (.var 12)) (.cst (.int 2))) (cs.map fun e => keyD e.k) = .ok (cs.map fun e => .per (.int e.h)) := fun env he hlen =>
    lc_map (fun e : Ce => keyD e.k) (fun e => .per (.int e.h)) cs fun e hm => ⟨(wipeE env [12]).set 12 (some (.per (keyD e.k))), by
      have : 12 < (wipeE env [12]).length := by simp [wipeE, hlen]
      simp [CT.setO, this], by
      rw [lend_nil]
      have h1 : ((wipeE env [12]).set 12 (some (.per (keyD e.k))))[0]? = some (some (.per (dictL cs))) := by simp [wipeE, he]
      have h2 : ((wipeE env [12]).set 12 (some (.per (keyD e.k))))[12]? = some (some (.per (keyD e.k))) := by simp [wipeE, hlen]
      have hd := fun j => dict_at j cs hn e hm _ 0 12 h1 h2
      generalize (wipeE env [12]).set 12 (some (.per (keyD e.k))) = env' at *
      have hpl : Evs.pl T (evs T (n + 14)) env' (.idx (.idx (.var 0) (.var 12)) (.cst (.int 2))) = none := by simp [Evs.pl, h1]
      have hd1 : (evs T (n + 14)).dv env' (.idx (.var 0) (.var 12)) = .ok e.v := by
        simp only [Evs.dv, hd (n + 12), Ow.fr]
      rw [evs_o]
      simp only [stepO, step1, hpl, hd1]
      simp [callFI, runB, stepS, evP, evT, evPs, owL, own1, vwL, entE, entA, evs_o, evs_t, evs_b, stepO, stepT, step1, R.calm, Evs.dv, Evs.ds, Evs.os, Evs.ts, Evs.oi, Evs.it, Evs.pl, Ow.fr, frs, dTruth, dBin, dCmp, iCmp, dIdx, dSli, dAtt, dBlt, dBlt1, dBlt2, okN, Ow.nl, D.nl, nls, onls, outF, outM, self0, mkTup, pers, fzo, CT.setO, CTs.setO, putP, Tab.kd, tyN, evs_k, D.asS, D.asL, D.f0, D.in0, D.eq0, D.flat, flats, fdep, eqvI, eqv_str, eqv_bl, eqv_lst, eqv_tup, eqvs_cons, eqvs_nil, eqvs_nc, eqvs_cn, isas, xis, sne, sok, dNeg, dRev, look, keyT, D.isN, Tab.mkX, frs_per, Ow.strip, Ow.isAt, Ow.put, Ow.over, frs_app, Ow.kids, Ow.setKids, -List.map_map, -List.map_take, -List.map_drop, Ce.v, L2.atI, L2.ixN]⟩
  rw [runB_nx (e := [some (.per (dictL cs)), some (.per (.tup [.int r, .int c])), some (.per (foldD br bh over m)), some (.per (.str (edgeS br bh))), some (.per (.int m)), some (.per (.str (wayS over))), some (.per (.bl br)), some (.per (.int (if br then r else c))), some (.per (.lst ((cs.map Ce.h).map D.int))), none, none, none, none, none, none, none, none, none, none, none, none]) (by
    have hit := heights_it (n + 14) cs [some (.per (dictL cs)), some (.per (.tup [.int r, .int c])), some (.per (foldD br bh over m)), some (.per (.str (edgeS br bh))), some (.per (.int m)), some (.per (.str (wayS over))), some (.per (.bl br)), some (.per (.int (if br then r else c))), none, none, none, none, none, none, none, none, none, none, none, none, none] 0 rfl
    have hl2 := hl [some (.per (dictL cs)), some (.per (.tup [.int r, .int c])), some (.per (foldD br bh over m)), some (.per (.str (edgeS br bh))), some (.per (.int m)), some (.per (.str (wayS over))), some (.per (.bl br)), some (.per (.int (if br then r else c))), none, none, none, none, none, none, none, none, none, none, none, none, none] rfl rfl
    have hf : frs (cs.map fun e => Ow.per (.int e.h)) = (cs.map Ce.h).map D.int := by rw [frs_map, List.map_map]; rfl
    simp only [stepS, hit, hl2, List.length_map, hz]
    simp [fzo, Ow.fr, hf, -List.map_map])]
  rw [runB_nx (e := [some (.per (dictL cs)), some (.per (.tup [.int r, .int c])), some (.per (foldD br bh over m)), some (.per (.str (edgeS br bh))), some (.per (.int m)), some (.per (.str (wayS over))), some (.per (.bl br)), some (.per (.int (if br then r else c))), some (.per (.lst ((cs.map Ce.h).map D.int))), some (.per (.int (loC cs))), some (.per (.int (hiC cs))), none, none, none, none, none, none, none, none, none, none]) (by
    obtain ⟨e, cs', rfl⟩ : ∃ e cs', cs = e :: cs' := by
      cases cs with
      | nil => exact absurd rfl h0
      | cons e cs' => exact ⟨e, cs', rfl⟩
    have hdi := dints_map ((e :: cs').map Ce.h)
    generalize dictL (e :: cs') = dl
    simp only [List.map_cons] at hdi ⊢
    simp [callFI, runB, stepS, evP, evT, evPs, owL, own1, vwL, entE, entA, evs_o, evs_t, evs_b, stepO, stepT, step1, R.calm, Evs.dv, Evs.ds, Evs.os, Evs.ts, Evs.oi, Evs.it, Evs.pl, Ow.fr, frs, dTruth, dBin, dCmp, iCmp, dIdx, dSli, dAtt, dBlt, dBlt1, dBlt2, okN, Ow.nl, D.nl, nls, onls, outF, outM, self0, mkTup, pers, fzo, CT.setO, CTs.setO, putP, Tab.kd, tyN, evs_k, D.asS, D.asL, D.f0, D.in0, D.eq0, D.flat, flats, fdep, eqvI, eqv_str, eqv_bl, eqv_lst, eqv_tup, eqvs_cons, eqvs_nil, eqvs_nc, eqvs_cn, isas, xis, sne, sok, dNeg, dRev, look, keyT, D.isN, Tab.mkX, frs_per, Ow.strip, Ow.isAt, Ow.put, Ow.over, frs_app, Ow.kids, Ow.setKids, -List.map_map, -List.map_take, -List.map_drop, hdi, loC, hiC])]
  rw [runB_nx (e := envM cs r c br bh over m (if br then r else c) (loC cs) (hiC cs) (some (.per (.lst ((cs.map Ce.h).map D.int)))) [] none none none none none none none none none) (by
    simp only [stepS, evP_nil]
    simp [evs_o, stepO, step1, R.calm, fzo, CT.setO, envM, dictO])]
  rw [runB_nx (e := envM cs r c br bh over m (if br then r else c) (loC cs) (hiC cs) (some (.per (.lst ((cs.map Ce.h).map D.int)))) (mvs br bh over m r c cs) y12 y13 y14 y15 y16 y17 y18 y19 y20) (by
    have hit := heights_it (n + 14) cs (envM cs r c br bh over m (if br then r else c) (loC cs) (hiC cs) (some (.per (.lst ((cs.map Ce.h).map D.int)))) [] none none none none none none none none none) 0 rfl
    unfold mvs
    rw [← hw]
    simp only [stepS, vwL, hit, owL, List.any_nil, Bool.false_and]
    rfl)]
  rfl

end Lw

set_option Elab.async false
set_option linter.all false
set_option autoImplicit false
set_option maxRecDepth 100000
set_option maxHeartbeats 1000001
namespace Lw
open PySem Pu
/-! ### _law_size, _law_at -/
theorem lsize_ok (n : Nat) (r c m : Int) (br bh over : Bool) : (evs T (n + 10)).f i_l_size [.tup [.int r, .int c], foldD br bh over m] = .ok (.per (.tup [.int (if br then r - m else r), .int (if br then c else c - m)])) := by
  rw [call_fn fn_l_size]
  cases br <;> cases bh <;> simp [callFI, runB, stepS, evP, evT, evPs, owL, own1, vwL, entE, entA, evs_o, evs_t, evs_b, stepO, stepT, step1, R.calm, Evs.dv, Evs.ds, Evs.os, Evs.ts, Evs.oi, Evs.it, Evs.pl, Ow.fr, frs, dTruth, dBin, dCmp, iCmp, dIdx, dSli, dAtt, dBlt, dBlt1, dBlt2, okN, Ow.nl, D.nl, nls, onls, outF, outM, self0, mkTup, pers, fzo, CT.setO, CTs.setO, putP, Tab.kd, tyN, evs_k, D.asS, D.asL, D.f0, D.in0, D.eq0, D.flat, flats, fdep, eqvI, eqv_str, eqv_bl, eqv_lst, eqv_tup, eqvs_cons, eqvs_nil, eqvs_nc, eqvs_cn, isas, xis, sne, sok, dNeg, dRev, look, keyT, D.isN, Tab.mkX, frs_per, Ow.strip, Ow.isAt, Ow.put, Ow.over, frs_app, Ow.kids, Ow.setKids, -List.map_map, -List.map_take, -List.map_drop, f_l_size, b_l_size, foldD, edgeS, L2.atI, L2.ixN]
/-- the cells at a place -/
def hereC (a d : Int) (cs : List Ce) : List Ce := cs.filter fun e => decide (e.a = a) && decide (e.d = d)
def itemC (e : Ce) : D := .tup [.int (0 - e.h), e.lf.d]
def insC (x : Ce) : List Ce → List Ce
  | [] => [x]
  | y :: ys => if 0 - x.h ≤ 0 - y.h then x :: y :: ys else y :: insC x ys
def sortC : List Ce → List Ce
  | [] => []
  | x :: xs => insC x (sortC xs)
def keyC (e : Ce) : Int × D := (0 - e.h, itemC e)
theorem insK_map (x : Ce) : ∀ ys : List Ce, insK (keyC x) (ys.map keyC) = (insC x ys).map keyC
  | [] => rfl
  | y :: ys => by
    simp only [List.map_cons, insK, insC, keyC]
    by_cases h : 0 - x.h ≤ 0 - y.h
    · rw [if_pos h, if_pos h]; rfl
    · rw [if_neg h, if_neg h]
      have := insK_map x ys
      simp only [keyC] at this
      simp only [List.map_cons, this]
      rfl
theorem sortK_map : ∀ ys : List Ce, sortK (ys.map keyC) = (sortC ys).map keyC
  | [] => rfl
  | y :: ys => by simp only [List.map_cons, sortK, sortC, sortK_map ys, insK_map]
theorem keyed_map : ∀ ys : List Ce, keyed (ys.map itemC) = some (ys.map keyC)
  | [] => rfl
  | y :: ys => by simp only [List.map_cons, itemC, keyed, keyed_map ys]; rfl
def atL (cs : List Ce) (a d : Int) : List Lf := (sortC (hereC a d cs)).map Ce.lf
def apartC (cs : List Ce) : Prop := apartI (cs.map fun e => 0 - e.h) = true
def envT (cs : List Ce) (a d : Int) (don : List Ce) (x4 x5 x6 : Option Ow) : Ev := [some (.per (dictL cs)), some (.per (.int a)), some (.per (.int d)), some (.lst ((don.map itemC).map .per)), x4, x5, x6]
abbrev bdT : List CS := [.ife [] (.cmp .Eq (.sli (.idx (.var 0) (.var 4)) none (some (.cst (.int 2)))) (.tup [(.var 1), (.var 2)])) [.app (.var 3) [] true (.tup [(.bin .Sub (.cst (.int 0)) (.idx (.idx (.var 0) (.var 4)) (.cst (.int 2)))), (.bin .Add (.var 4) (.sli (.idx (.var 0) (.var 4)) (some (.cst (.int 3))) none))])] []]
theorem cut2 (x y z : D) (u v : D) : cutD [x, y, z, u, v] none (some 2) = [x, y] := by kernel_rfl
theorem cut3 (x y z : D) (u v : D) : cutD [x, y, z, u, v] (some 3) none = [u, v] := by kernel_rfl
theorem bodyT (n : Nat) (cs : List Ce) (hn : (cs.map Ce.k).Nodup) (a d : Int) (don : List Ce) (e : Ce) (he : e ∈ cs) (hl : don.length ≤ 1000) (x5 x6 : Option Ow) :
    (evs T (n + 12)).b (envT cs a d don (some (.per (keyD e.k))) x5 x6) bdT = some (.nx (envT cs a d (if e.a = a ∧ e.d = d then don ++ [e] else don) (some (.per (keyD e.k))) x5 x6)) := by
  have hz : don.length < sizeLine := by rw [sizeLine_eq]; omega
  have hz4 : (4 : Nat) ≤ sizeLine := by rw [sizeLine_eq]; decide
  have hat : ∀ j, (evs T (j + 2)).o (envT cs a d don (some (.per (keyD e.k))) x5 x6) (.idx (.var 0) (.var 4)) = .ok (.per e.v) := fun j => dict_at j cs hn e he _ 0 4 rfl rfl
  have hv : ∀ j, (evs T (j + 2)).dv (envT cs a d don (some (.per (keyD e.k))) x5 x6) (.idx (.var 0) (.var 4)) = .ok e.v := fun j => by simp only [Evs.dv, hat, Ow.fr]
  have h1 : ∀ j, (evs T (j + 4)).o (envT cs a d don (some (.per (keyD e.k))) x5 x6) (.sli (.idx (.var 0) (.var 4)) none (some (.cst (.int 2)))) = .ok (.per (.tup [.int e.a, .int e.d])) := fun j => by
    rw [evs_o]
    simp only [stepO, step1, hv (j + 1), Ce.v]
    simp [callFI, runB, stepS, evP, evT, evPs, owL, own1, vwL, entE, entA, evs_o, evs_t, evs_b, stepO, stepT, step1, R.calm, Evs.dv, Evs.ds, Evs.os, Evs.ts, Evs.oi, Evs.it, Evs.pl, Ow.fr, frs, dTruth, dBin, dCmp, iCmp, dIdx, dSli, dAtt, dBlt, dBlt1, dBlt2, okN, Ow.nl, D.nl, nls, onls, outF, outM, self0, mkTup, pers, fzo, CT.setO, CTs.setO, putP, Tab.kd, tyN, evs_k, D.asS, D.asL, D.f0, D.in0, D.eq0, D.flat, flats, fdep, eqvI, eqv_str, eqv_bl, eqv_lst, eqv_tup, eqvs_cons, eqvs_nil, eqvs_nc, eqvs_cn, isas, xis, sne, sok, dNeg, dRev, look, keyT, D.isN, Tab.mkX, frs_per, Ow.strip, Ow.isAt, Ow.put, Ow.over, frs_app, Ow.kids, Ow.setKids, -List.map_map, -List.map_take, -List.map_drop, cut2]
  have h3 : ∀ j, (evs T (j + 4)).o (envT cs a d don (some (.per (keyD e.k))) x5 x6) (.sli (.idx (.var 0) (.var 4)) (some (.cst (.int 3))) none) = .ok (.per (.tup [.bl e.s, .bl e.t])) := fun j => by
    rw [evs_o]
    simp only [stepO, step1, hv (j + 1), Ce.v]
    simp [callFI, runB, stepS, evP, evT, evPs, owL, own1, vwL, entE, entA, evs_o, evs_t, evs_b, stepO, stepT, step1, R.calm, Evs.dv, Evs.ds, Evs.os, Evs.ts, Evs.oi, Evs.it, Evs.pl, Ow.fr, frs, dTruth, dBin, dCmp, iCmp, dIdx, dSli, dAtt, dBlt, dBlt1, dBlt2, okN, Ow.nl, D.nl, nls, onls, outF, outM, self0, mkTup, pers, fzo, CT.setO, CTs.setO, putP, Tab.kd, tyN, evs_k, D.asS, D.asL, D.f0, D.in0, D.eq0, D.flat, flats, fdep, eqvI, eqv_str, eqv_bl, eqv_lst, eqv_tup, eqvs_cons, eqvs_nil, eqvs_nc, eqvs_cn, isas, xis, sne, sok, dNeg, dRev, look, keyT, D.isN, Tab.mkX, frs_per, Ow.strip, Ow.isAt, Ow.put, Ow.over, frs_app, Ow.kids, Ow.setKids, -List.map_map, -List.map_take, -List.map_drop, cut3]
  have h2 : ∀ j, (evs T (j + 4)).o (envT cs a d don (some (.per (keyD e.k))) x5 x6) (.idx (.idx (.var 0) (.var 4)) (.cst (.int 2))) = .ok (.per (.int e.h)) := fun j => by
    have hpl : Evs.pl T (evs T (j + 3)) (envT cs a d don (some (.per (keyD e.k))) x5 x6) (.idx (.idx (.var 0) (.var 4)) (.cst (.int 2))) = none := by simp [Evs.pl, envT]
    rw [evs_o]
    simp only [stepO, step1, hpl, hv (j + 1), Ce.v]
    simp [callFI, runB, stepS, evP, evT, evPs, owL, own1, vwL, entE, entA, evs_o, evs_t, evs_b, stepO, stepT, step1, R.calm, Evs.dv, Evs.ds, Evs.os, Evs.ts, Evs.oi, Evs.it, Evs.pl, Ow.fr, frs, dTruth, dBin, dCmp, iCmp, dIdx, dSli, dAtt, dBlt, dBlt1, dBlt2, okN, Ow.nl, D.nl, nls, onls, outF, outM, self0, mkTup, pers, fzo, CT.setO, CTs.setO, putP, Tab.kd, tyN, evs_k, D.asS, D.asL, D.f0, D.in0, D.eq0, D.flat, flats, fdep, eqvI, eqv_str, eqv_bl, eqv_lst, eqv_tup, eqvs_cons, eqvs_nil, eqvs_nc, eqvs_cn, isas, xis, sne, sok, dNeg, dRev, look, keyT, D.isN, Tab.mkX, frs_per, Ow.strip, Ow.isAt, Ow.put, Ow.over, frs_app, Ow.kids, Ow.setKids, -List.map_map, -List.map_take, -List.map_drop, L2.atI, L2.ixN]
  have htu : ∀ j, (evs T (j + 4)).o (envT cs a d don (some (.per (keyD e.k))) x5 x6) (.tup [(.var 1), (.var 2)]) = .ok (.per (.tup [.int a, .int d])) := fun j => by simp [callFI, runB, stepS, evP, evT, evPs, owL, own1, vwL, entE, entA, evs_o, evs_t, evs_b, stepO, stepT, step1, R.calm, Evs.dv, Evs.ds, Evs.os, Evs.ts, Evs.oi, Evs.it, Evs.pl, Ow.fr, frs, dTruth, dBin, dCmp, iCmp, dIdx, dSli, dAtt, dBlt, dBlt1, dBlt2, okN, Ow.nl, D.nl, nls, onls, outF, outM, self0, mkTup, pers, fzo, CT.setO, CTs.setO, putP, Tab.kd, tyN, evs_k, D.asS, D.asL, D.f0, D.in0, D.eq0, D.flat, flats, fdep, eqvI, eqv_str, eqv_bl, eqv_lst, eqv_tup, eqvs_cons, eqvs_nil, eqvs_nc, eqvs_cn, isas, xis, sne, sok, dNeg, dRev, look, keyT, D.isN, Tab.mkX, frs_per, Ow.strip, Ow.isAt, Ow.put, Ow.over, frs_app, Ow.kids, Ow.setKids, -List.map_map, -List.map_take, -List.map_drop, envT]
  have ht : evT (evs T (n + 11)) [] (envT cs a d don (some (.per (keyD e.k))) x5 x6) (.cmp .Eq (.sli (.idx (.var 0) (.var 4)) none (some (.cst (.int 2)))) (.tup [(.var 1), (.var 2)])) = .ok (decide (e.a = a ∧ e.d = d)) := by
    simp only [evT, vwL, evs_t, stepT, Evs.dv, h1 (n + 6), htu (n + 6), Ow.fr]
    by_cases q1 : e.a = a <;> by_cases q2 : e.d = d <;> simp [callFI, runB, stepS, evP, evT, evPs, owL, own1, vwL, entE, entA, evs_o, evs_t, evs_b, stepO, stepT, step1, R.calm, Evs.dv, Evs.ds, Evs.os, Evs.ts, Evs.oi, Evs.it, Evs.pl, Ow.fr, frs, dTruth, dBin, dCmp, iCmp, dIdx, dSli, dAtt, dBlt, dBlt1, dBlt2, okN, Ow.nl, D.nl, nls, onls, outF, outM, self0, mkTup, pers, fzo, CT.setO, CTs.setO, putP, Tab.kd, tyN, evs_k, D.asS, D.asL, D.f0, D.in0, D.eq0, D.flat, flats, fdep, eqvI, eqv_str, eqv_bl, eqv_lst, eqv_tup, eqvs_cons, eqvs_nil, eqvs_nc, eqvs_cn, isas, xis, sne, sok, dNeg, dRev, look, keyT, D.isN, Tab.mkX, frs_per, Ow.strip, Ow.isAt, Ow.put, Ow.over, frs_app, Ow.kids, Ow.setKids, -List.map_map, -List.map_take, -List.map_drop, q1, q2]
  rw [evs_b]
  by_cases hq : e.a = a ∧ e.d = d
  · rw [decide_eq_true hq] at ht
    rw [if_pos hq]
    rw [runB_nx (e := envT cs a d (don ++ [e]) (some (.per (keyD e.k))) x5 x6)]
    · rfl
    · simp only [stepS, ht]
      have ho : (evs T (n + 10)).o (envT cs a d don (some (.per (keyD e.k))) x5 x6) (.tup [(.bin .Sub (.cst (.int 0)) (.idx (.idx (.var 0) (.var 4)) (.cst (.int 2)))), (.bin .Add (.var 4) (.sli (.idx (.var 0) (.var 4)) (some (.cst (.int 3))) none))]) = .ok (.per (itemC e)) := by
        have a1 : (evs T (n + 9)).o (envT cs a d don (some (.per (keyD e.k))) x5 x6) (.bin .Sub (.cst (.int 0)) (.idx (.idx (.var 0) (.var 4)) (.cst (.int 2)))) = .ok (.per (.int (0 - e.h))) := by
          have c0 : (evs T (n + 8)).dv (envT cs a d don (some (.per (keyD e.k))) x5 x6) (.cst (.int 0)) = .ok (.int 0) := by simp [callFI, runB, stepS, evP, evT, evPs, owL, own1, vwL, entE, entA, evs_o, evs_t, evs_b, stepO, stepT, step1, R.calm, Evs.dv, Evs.ds, Evs.os, Evs.ts, Evs.oi, Evs.it, Evs.pl, Ow.fr, frs, dTruth, dBin, dCmp, iCmp, dIdx, dSli, dAtt, dBlt, dBlt1, dBlt2, okN, Ow.nl, D.nl, nls, onls, outF, outM, self0, mkTup, pers, fzo, CT.setO, CTs.setO, putP, Tab.kd, tyN, evs_k, D.asS, D.asL, D.f0, D.in0, D.eq0, D.flat, flats, fdep, eqvI, eqv_str, eqv_bl, eqv_lst, eqv_tup, eqvs_cons, eqvs_nil, eqvs_nc, eqvs_cn, isas, xis, sne, sok, dNeg, dRev, look, keyT, D.isN, Tab.mkX, frs_per, Ow.strip, Ow.isAt, Ow.put, Ow.over, frs_app, Ow.kids, Ow.setKids, -List.map_map, -List.map_take, -List.map_drop, ]
          rw [evs_o]
          simp only [stepO, step1, Evs.dv, h2 (n + 4), Ow.fr]
          simp only [Evs.dv] at c0
          simp only [c0, dBin, R.calm]
        have a2 : (evs T (n + 9)).o (envT cs a d don (some (.per (keyD e.k))) x5 x6) (.bin .Add (.var 4) (.sli (.idx (.var 0) (.var 4)) (some (.cst (.int 3))) none)) = .ok (.per e.lf.d) := by
          have c0 : (evs T (n + 8)).dv (envT cs a d don (some (.per (keyD e.k))) x5 x6) (.var 4) = .ok (.tup [.int e.r, .int e.c]) := by rw [key_d]; simp [callFI, runB, stepS, evP, evT, evPs, owL, own1, vwL, entE, entA, evs_o, evs_t, evs_b, stepO, stepT, step1, R.calm, Evs.dv, Evs.ds, Evs.os, Evs.ts, Evs.oi, Evs.it, Evs.pl, Ow.fr, frs, dTruth, dBin, dCmp, iCmp, dIdx, dSli, dAtt, dBlt, dBlt1, dBlt2, okN, Ow.nl, D.nl, nls, onls, outF, outM, self0, mkTup, pers, fzo, CT.setO, CTs.setO, putP, Tab.kd, tyN, evs_k, D.asS, D.asL, D.f0, D.in0, D.eq0, D.flat, flats, fdep, eqvI, eqv_str, eqv_bl, eqv_lst, eqv_tup, eqvs_cons, eqvs_nil, eqvs_nc, eqvs_cn, isas, xis, sne, sok, dNeg, dRev, look, keyT, D.isN, Tab.mkX, frs_per, Ow.strip, Ow.isAt, Ow.put, Ow.over, frs_app, Ow.kids, Ow.setKids, -List.map_map, -List.map_take, -List.map_drop, envT]
          rw [evs_o]
          simp only [Evs.dv] at c0
          simp only [stepO, step1, Evs.dv, h3 (n + 4), Ow.fr, c0, dBin]
          simp [okN, hz4, R.calm, Ce.lf, Lf.d]
        rw [evs_o]
        simp only [stepO, step1, Evs.os, a1, a2]
        simp [okN, mkTup, pers, R.calm, itemC]
      rw [evs_b, runB_nx (e := envT cs a d (don ++ [e]) (some (.per (keyD e.k))) x5 x6)]
      · rfl
      · simp only [stepS, evP_nil, ho]
        simp [Evs.pl, envT, Ow.strip, Ow.isAt, hz, putP, Ow.put, Ow.over, fzo, Ow.fr, -List.map_map]
  · rw [decide_eq_false hq] at ht
    rw [if_neg hq]
    rw [runB_nx (e := envT cs a d don (some (.per (keyD e.k))) x5 x6)]
    · rfl
    · simp only [stepS, ht]
      rfl
theorem hereC_cons (a d : Int) (e : Ce) (cs : List Ce) : hereC a d (e :: cs) = if e.a = a ∧ e.d = d then e :: hereC a d cs else hereC a d cs := by
  unfold hereC
  rw [List.filter_cons]
  by_cases h : e.a = a ∧ e.d = d
  · rw [if_pos h, if_pos (by simp [h.1, h.2])]
  · rw [if_neg h, if_neg (by simpa using h)]
theorem loopT (n : Nat) (cs : List Ce) (hn : (cs.map Ce.k).Nodup) (a d : Int) (x5 x6 : Option Ow) : ∀ (rest don : List Ce) (x4 : Option Ow), (∀ e ∈ rest, e ∈ cs) → don.length + rest.length ≤ 1000 →
    ∃ y4, forE (evs T (n + 12)) (.nm 4) bdT (rest.map fun e => keyD e.k) (envT cs a d don x4 x5 x6) = some (.nx (envT cs a d (don ++ hereC a d rest) y4 x5 x6))
  | [], don, x4, _, _ => ⟨x4, by simp [forE, hereC]⟩
  | e :: rest, don, x4, hm, hl => by
    simp only [List.length_cons] at hl
    have hb := bodyT n cs hn a d don e (hm e List.mem_cons_self) (by omega) x5 x6
    obtain ⟨y4, ih⟩ := loopT n cs hn a d x5 x6 rest (if e.a = a ∧ e.d = d then don ++ [e] else don) (some (.per (keyD e.k))) (fun z hz => hm z (List.mem_cons_of_mem _ hz)) (by
      split
      · simp only [List.length_append, List.length_cons, List.length_nil]; omega
      · omega)
    refine ⟨y4, ?_⟩
    have hs : (CT.nm 4).setO (envT cs a d don x4 x5 x6) (.per (keyD e.k)) = some (envT cs a d don (some (.per (keyD e.k))) x5 x6) := by simp [CT.setO, envT]
    simp only [List.map_cons, forE, hs, hb]
    rw [ih, hereC_cons]
    by_cases h : e.a = a ∧ e.d = d
    · rw [if_pos h, if_pos h]; simp
    · rw [if_neg h, if_neg h]
theorem dints_item : ∀ ys : List Ce, ys ≠ [] → dints (ys.map itemC) = none
  | [], h => absurd rfl h
  | y :: ys, _ => by simp only [List.map_cons, itemC, dints]
theorem sorted_o (ys : List Ce) (h : apartC ys) : dBlt1 .sorted (.lst (ys.map itemC)) = .ok (.lst ((sortC ys).map fun e => .per (itemC e))) := by
  cases ys with
  | nil => rfl
  | cons y ys =>
    have h1 := dints_item (y :: ys) (by simp)
    have h2 := keyed_map (y :: ys)
    have h3 : apartI (((y :: ys).map keyC).map (·.1)) = true := by rw [List.map_map]; exact h
    simp only [dBlt1, D.asL, h1, h2, h3, if_true]
    rw [sortK_map, List.map_map]
    rfl
theorem sortC_len : ∀ ys : List Ce, (sortC ys).length = ys.length := by
  have ins : ∀ (x : Ce) (ys : List Ce), (insC x ys).length = ys.length + 1 := fun x ys => by
    induction ys with
    | nil => rfl
    | cons y ys ih => simp only [insC]; split <;> simp [ih]
  intro ys
  induction ys with
  | nil => rfl
  | cons y ys ih => simp [sortC, ins, ih]
theorem at_ok (cs : List Ce) (hn : (cs.map Ce.k).Nodup) (hl : cs.length ≤ 1000) (a d : Int) (hp : apartC (hereC a d cs)) (n : Nat) : (evs T (n + 16)).f i_l_at [dictL cs, .int a, .int d] = .ok (ownP (atL cs a d)) := by
  obtain ⟨y4, hw⟩ := loopT (n + 3) cs hn a d none none cs [] none (fun _ h => h) (by simpa using hl)
  rw [List.nil_append] at hw
  rw [call_fn fn_l_at]
  show outF (runB T (evs T (n + 15)) b_l_at [some (.per (dictL cs)), some (.per (.int a)), some (.per (.int d)), none, none, none, none]) = _
  unfold b_l_at
  rw [runB_nx (e := envT cs a d [] none none none) (by
    simp only [stepS, evP_nil]
    simp [evs_o, stepO, step1, Evs.os, okN, R.calm, fzo, CT.setO, envT])]
  rw [runB_nx (e := envT cs a d (hereC a d cs) y4 none none) (by
    have hit := heights_it (n + 14) cs (envT cs a d [] none none none) 0 rfl
    rw [← hw]
    simp only [stepS, vwL, hit, owL, List.any_nil, Bool.false_and]
    rfl)]
  have hz : (sortC (hereC a d cs)).length ≤ sizeLine := by
    rw [sortC_len, sizeLine_eq]
    have := List.length_filter_le (fun e : Ce => decide (e.a = a) && decide (e.d = d)) cs
    show (cs.filter _).length ≤ _
    omega
  have hso := sorted_o (hereC a d cs) hp
  have hit : (evs T (n + 14)).it [some (.per (dictL cs)), some (.per (.int a)), some (.per (.int d)), some (.per (.lst ((hereC a d cs).map itemC))), y4, none, none] (.blt .sorted [(.var 3)]) = .ok ((sortC (hereC a d cs)).map itemC) := by
    have hf : frs ((sortC (hereC a d cs)).map fun e => Ow.per (itemC e)) = (sortC (hereC a d cs)).map itemC := by rw [frs_map]; rfl
    have e1 : (evs T (n + 14)).o [some (.per (dictL cs)), some (.per (.int a)), some (.per (.int d)), some (.per (.lst ((hereC a d cs).map itemC))), y4, none, none] (.blt .sorted [(.var 3)]) = .ok (.lst ((sortC (hereC a d cs)).map fun e => .per (itemC e))) := by
      rw [evs_o]
      have e0 : (evs T (n + 13)).ds [some (.per (dictL cs)), some (.per (.int a)), some (.per (.int d)), some (.per (.lst ((hereC a d cs).map itemC))), y4, none, none] [(.var 3)] = .ok [.lst ((hereC a d cs).map itemC)] := by simp [callFI, runB, stepS, evP, evT, evPs, owL, own1, vwL, entE, entA, evs_o, evs_t, evs_b, stepO, stepT, step1, R.calm, Evs.dv, Evs.ds, Evs.os, Evs.ts, Evs.oi, Evs.it, Evs.pl, Ow.fr, frs, dTruth, dBin, dCmp, iCmp, dIdx, dSli, dAtt, dBlt, dBlt1, dBlt2, okN, Ow.nl, D.nl, nls, onls, outF, outM, self0, mkTup, pers, fzo, CT.setO, CTs.setO, putP, Tab.kd, tyN, evs_k, D.asS, D.asL, D.f0, D.in0, D.eq0, D.flat, flats, fdep, eqvI, eqv_str, eqv_bl, eqv_lst, eqv_tup, eqvs_cons, eqvs_nil, eqvs_nc, eqvs_cn, isas, xis, sne, sok, dNeg, dRev, look, keyT, D.isN, Tab.mkX, frs_per, Ow.strip, Ow.isAt, Ow.put, Ow.over, frs_app, Ow.kids, Ow.setKids, -List.map_map, -List.map_take, -List.map_drop, ]
      simp only [stepO, step1, e0, dBlt, hso, R.calm]
    simp only [Evs.it, Evs.dv, e1, Ow.fr, hf, D.asS]
  have hlc := lc_map (E := evs T (n + 14)) (env := [some (.per (dictL cs)), some (.per (.int a)), some (.per (.int d)), some (.per (.lst ((hereC a d cs).map itemC))), y4, none, none]) (t := .tp (.cons (.nm 5) (.cons (.nm 6) .nil))) (elt := .var 6) itemC (fun e => .per e.lf.d) (sortC (hereC a d cs)) fun e _ => ⟨[some (.per (dictL cs)), some (.per (.int a)), some (.per (.int d)), some (.per (.lst ((hereC a d cs).map itemC))), y4, some (.per (.int (0 - e.h))), some (.per e.lf.d)], by simp [CT.setO, CTs.setO, itemC], by simp [callFI, runB, stepS, evP, evT, evPs, owL, own1, vwL, entE, entA, evs_o, evs_t, evs_b, stepO, stepT, step1, R.calm, Evs.dv, Evs.ds, Evs.os, Evs.ts, Evs.oi, Evs.it, Evs.pl, Ow.fr, frs, dTruth, dBin, dCmp, iCmp, dIdx, dSli, dAtt, dBlt, dBlt1, dBlt2, okN, Ow.nl, D.nl, nls, onls, outF, outM, self0, mkTup, pers, fzo, CT.setO, CTs.setO, putP, Tab.kd, tyN, evs_k, D.asS, D.asL, D.f0, D.in0, D.eq0, D.flat, flats, fdep, eqvI, eqv_str, eqv_bl, eqv_lst, eqv_tup, eqvs_cons, eqvs_nil, eqvs_nc, eqvs_cn, isas, xis, sne, sok, dNeg, dRev, look, keyT, D.isN, Tab.mkX, frs_per, Ow.strip, Ow.isAt, Ow.put, Ow.over, frs_app, Ow.kids, Ow.setKids, -List.map_map, -List.map_take, -List.map_drop, ]⟩
  have hwp : wipeE [some (.per (dictL cs)), some (.per (.int a)), some (.per (.int d)), some (.per (.lst ((hereC a d cs).map itemC))), y4, none, none] [5, 6] = [some (.per (dictL cs)), some (.per (.int a)), some (.per (.int d)), some (.per (.lst ((hereC a d cs).map itemC))), y4, none, none] := rfl
  have ho : (evs T (n + 15)).o [some (.per (dictL cs)), some (.per (.int a)), some (.per (.int d)), some (.per (.lst ((hereC a d cs).map itemC))), y4, none, none] (.lc [5, 6] (.tp (.cons (.nm 5) (.cons (.nm 6) .nil))) (.blt .sorted [(.var 3)]) [] (.var 6)) = .ok (ownP (atL cs a d)) := by
    rw [evs_o]
    simp only [stepO, step1, hit, hwp, hlc, List.length_map, hz]
    simp [R.calm, ownP, atL, Function.comp_def]
  have hnl : (ownP (atL cs a d)).nl = true := by simp only [ownP, Ow.nl, onls_per]; exact nls_pile _
  have hvw : vwL [3] (envT cs a d (hereC a d cs) y4 none none) = [some (.per (dictL cs)), some (.per (.int a)), some (.per (.int d)), some (.per (.lst ((hereC a d cs).map itemC))), y4, none, none] := by
    simp [vwL, own1, envT, Ow.fr, frs_per, -List.map_map]
  simp only [runB, stepS, evP, hvw, ho, hnl]
  simp [outF]

end Lw

set_option Elab.async false
set_option linter.all false
set_option autoImplicit false
set_option maxRecDepth 100000
set_option maxHeartbeats 1000001
namespace Lw
open PySem Pu
/-! ### _law_leaves -/
def dueL (cs : List Ce) (d : Int) (c : Nat) : List Pile := (List.range c).map fun (j : Nat) => atL cs (1 + (j : Int)) d
def dueG (cs : List Ce) (r c : Nat) : Grid := (List.range r).map fun (i : Nat) => dueL cs (1 + (i : Int)) c
theorem rng_ok (k : Nat) : rangeD 1 k = (List.range k).map fun (i : Nat) => D.int (1 + (i : Int)) := by simp [rangeD]
structure COk (cs : List Ce) : Prop where
  nd : (cs.map Ce.k).Nodup
  len : cs.length ≤ 1000
  ap : ∀ a d, apartC (hereC a d cs)
def envV (cs : List Ce) (r c : Nat) (don : Grid) (x3 x4 : Option Ow) : Ev := [some (.per (dictL cs)), some (.per (.tup [.int r, .int c])), some (.lst ((don.map lineD).map .per)), x3, x4]
abbrev elV : CE := .lc [4] (.nm 4) (.range [(.cst (.int 1)), (.bin .Add (.idx (.var 1) (.cst (.int 1))) (.cst (.int 1)))]) [] (.call i_l_at [(.var 0), (.var 4), (.var 3)])
theorem rowV1 (n : Nat) (cs : List Ce) (r c : Nat) (hc : c ≤ 8) (don : Grid) (d : Int) (x4 : Option Ow) : (evs T (n + 19)).it (envV cs r c don (some (.per (.int d))) x4) (.range [(.cst (.int 1)), (.bin .Add (.idx (.var 1) (.cst (.int 1))) (.cst (.int 1)))]) = .ok ((List.range c).map fun (i : Nat) => D.int (1 + (i : Int))) := by
    rw [← rng_ok]
    have hci : (0 : Int) ≤ c ∧ (c : Int) ≤ 8 := by omega
    have h2 : ((c : Int) + 1 - 1).toNat = c := by omega
    unfold envV
    generalize (c : Int) = ci at *
    have h1 : -4611686018427387904 ≤ ci + 1 ∧ ci + 1 < 4611686018427387904 := by omega
    have h3 : ci + 1 - 1 = ci := by omega
    rw [h3] at h2
    simp [callFI, runB, stepS, evP, evT, evPs, owL, own1, vwL, entE, entA, evs_o, evs_t, evs_b, stepO, stepT, step1, R.calm, Evs.dv, Evs.ds, Evs.os, Evs.ts, Evs.oi, Evs.it, Evs.pl, Ow.fr, frs, dTruth, dBin, dCmp, iCmp, dIdx, dSli, dAtt, dBlt, dBlt1, dBlt2, okN, Ow.nl, D.nl, nls, onls, outF, outM, self0, mkTup, pers, fzo, CT.setO, CTs.setO, putP, Tab.kd, tyN, evs_k, D.asS, D.asL, D.f0, D.in0, D.eq0, D.flat, flats, fdep, eqvI, eqv_str, eqv_bl, eqv_lst, eqv_tup, eqvs_cons, eqvs_nil, eqvs_nc, eqvs_cn, isas, xis, sne, sok, dNeg, dRev, look, keyT, D.isN, Tab.mkX, frs_per, Ow.strip, Ow.isAt, Ow.put, Ow.over, frs_app, Ow.kids, Ow.setKids, -List.map_map, -List.map_take, -List.map_drop, L2.atI, L2.ixN, h1, h3, h2]
theorem rowV2 (n : Nat) (cs : List Ce) (C : COk cs) (r c : Nat) (don : Grid) (d : Int) (i : Nat) : (evs T (n + 19)).o (envV cs r c don (some (.per (.int d))) (some (.per (.int (1 + (i : Int)))))) (.call i_l_at [(.var 0), (.var 4), (.var 3)]) = .ok (ownP (atL cs (1 + (i : Int)) d)) := by
    have h := fun j => at_ok cs C.nd C.len (1 + (i : Int)) d (C.ap _ _) j
    unfold envV
    generalize dictL cs = dl at *
    simp [callFI, runB, stepS, evP, evT, evPs, owL, own1, vwL, entE, entA, evs_o, evs_t, evs_b, stepO, stepT, step1, R.calm, Evs.dv, Evs.ds, Evs.os, Evs.ts, Evs.oi, Evs.it, Evs.pl, Ow.fr, frs, dTruth, dBin, dCmp, iCmp, dIdx, dSli, dAtt, dBlt, dBlt1, dBlt2, okN, Ow.nl, D.nl, nls, onls, outF, outM, self0, mkTup, pers, fzo, CT.setO, CTs.setO, putP, Tab.kd, tyN, evs_k, D.asS, D.asL, D.f0, D.in0, D.eq0, D.flat, flats, fdep, eqvI, eqv_str, eqv_bl, eqv_lst, eqv_tup, eqvs_cons, eqvs_nil, eqvs_nc, eqvs_cn, isas, xis, sne, sok, dNeg, dRev, look, keyT, D.isN, Tab.mkX, frs_per, Ow.strip, Ow.isAt, Ow.put, Ow.over, frs_app, Ow.kids, Ow.setKids, -List.map_map, -List.map_take, -List.map_drop, h]
theorem tB (c : Nat) (hc : c ≤ 8) : ((List.range c).map fun (i : Nat) => D.int (1 + (i : Int))).length ≤ sizeLine := by rw [sizeLine_eq, List.length_map, List.length_range]; omega
theorem tC (cs : List Ce) (c : Nat) (d : Int) : (List.range c).map (fun (i : Nat) => ownP (atL cs (1 + (i : Int)) d)) = (dueL cs d c).map ownP := by unfold dueL; rw [List.map_map]; rfl
theorem tD (cs : List Ce) (r c : Nat) (don : Grid) (d : Int) (x4 : Option Ow) : wipeE (envV cs r c don (some (.per (.int d))) x4) [4] = envV cs r c don (some (.per (.int d))) none := rfl
theorem tA (n : Nat) (cs : List Ce) (C : COk cs) (r c : Nat) (don : Grid) (d : Int) : (evs T (n + 19)).lc (envV cs r c don (some (.per (.int d))) none) (.nm 4) [] (.call i_l_at [(.var 0), (.var 4), (.var 3)]) ((List.range c).map fun (i : Nat) => D.int (1 + (i : Int))) = .ok ((List.range c).map fun (i : Nat) => ownP (atL cs (1 + (i : Int)) d)) :=
  lc_map (fun (i : Nat) => D.int (1 + (i : Int))) (fun i => ownP (atL cs (1 + (i : Int)) d)) (List.range c) fun i _ => ⟨_, rfl, rowV2 n cs C r c don d i⟩
theorem lcV (E : Evs) (env env0 : Ev) (it elt : CE) (ds : List D) (os : List Ow) (hit : E.it env it = .ok ds) (hz : ds.length ≤ sizeLine) (hw : wipeE env [4] = env0) (hl : E.lc env0 (.nm 4) [] elt ds = .ok os) : stepO T E env (.lc [4] (.nm 4) it [] elt) = .ok (.lst os) := by
  show (step1 T E env (.lc [4] (.nm 4) it [] elt)).calm = _
  simp only [step1, hit, if_pos hz, hw, hl, R.calm]
theorem rowV (n : Nat) (cs : List Ce) (C : COk cs) (r c : Nat) (hc : c ≤ 8) (don : Grid) (d : Int) (x4 : Option Ow) : (evs T (n + 20)).o (envV cs r c don (some (.per (.int d))) x4) elV = .ok (.lst ((dueL cs d c).map ownP)) := by
  rw [evs_o, ← tC]
  exact lcV _ _ _ _ _ _ _ (rowV1 n cs r c hc don d x4) (tB c hc) (tD cs r c don d x4) (tA n cs C r c don d)
theorem app2 (E : Evs) (env : Ev) (e : CE) (o : Ow) (L : List Ow) (h : E.o env e = .ok o) (hat : o.isAt = false) (hp : env[2]? = some (some (.lst L))) (hz : L.length < sizeLine) : stepS T E env (.app (.var 2) [] true e) = some (.nx (env.set 2 (some (.lst (L ++ [.per o.fr]))))) := by
  simp only [stepS, evP_nil, h, hat, Evs.pl, hp]
  simp [Ow.strip, hz, putP, hp, Ow.put, Ow.over, fzo]
theorem bodyG (E : Evs) (env env2 : Ev) (e : CE) (o : Ow) (L : List Ow) (d : D) (h : E.o env e = .ok o) (hat : o.isAt = false) (hp : env[2]? = some (some (.lst L))) (hz : L.length < sizeLine) (hf : o.fr = d) (h2 : env.set 2 (some (.lst (L ++ [.per d]))) = env2) : runB T E [.app (.var 2) [] true e] env = some (.nx env2) := by
  rw [runB_nx (app2 E env e o L h hat hp hz), hf, h2]
  rfl
theorem dueO_fr (cs : List Ce) (d : Int) (c : Nat) : (Ow.lst ((dueL cs d c).map ownP)).fr = lineD (dueL cs d c) := by
  generalize dueL cs d c = x
  simp only [Ow.fr, frs_own, lineD]
theorem envV_set (cs : List Ce) (r c : Nat) (don : Grid) (l : List Pile) (x3 x4 : Option Ow) : (envV cs r c don x3 x4).set 2 (some (.lst ((don.map lineD).map Ow.per ++ [.per (lineD l)]))) = envV cs r c (don ++ [l]) x3 x4 := by
  simp only [envV, List.set_cons_succ, List.set_cons_zero, List.map_append, List.map_cons, List.map_nil]
theorem bodyV (n : Nat) (cs : List Ce) (C : COk cs) (r c : Nat) (hc : c ≤ 8) (don : Grid) (hl : don.length ≤ 1000) (d : Int) (x4 : Option Ow) : (evs T (n + 22)).b (envV cs r c don (some (.per (.int d))) x4) [.app (.var 2) [] true elV] = some (.nx (envV cs r c (don ++ [dueL cs d c]) (some (.per (.int d))) x4)) := by
  have hz : ((don.map lineD).map Ow.per).length < sizeLine := by rw [sizeLine_eq, List.length_map, List.length_map]; omega
  have hr := rowV (n + 1) cs C r c hc don d x4
  have hf := dueO_fr cs d c
  have hs := envV_set cs r c don (dueL cs d c) (some (.per (.int d))) x4
  rw [evs_b]
  exact bodyG _ _ _ _ (Ow.lst ((dueL cs d c).map ownP)) _ _ hr rfl rfl hz hf hs
theorem forE_step {E : Evs} {t : CT} {body : List CS} {d : D} {ds : List D} {env e1 e2 : Ev} (hs : t.setO env (.per d) = some e1) (hb : E.b e1 body = some (.nx e2)) : forE E t body (d :: ds) env = forE E t body ds e2 := by simp only [forE, hs, hb]
theorem loopV (n : Nat) (cs : List Ce) (C : COk cs) (r c : Nat) (hc : c ≤ 8) : ∀ (is : List Nat) (don : Grid) (x3 x4 : Option Ow), don.length + is.length ≤ 1000 →
    ∃ y3, forE (evs T (n + 22)) (.nm 3) [.app (.var 2) [] true elV] (is.map fun (i : Nat) => D.int (1 + (i : Int))) (envV cs r c don x3 x4) = some (.nx (envV cs r c (don ++ is.map fun (i : Nat) => dueL cs (1 + (i : Int)) c) y3 x4))
  | [], don, x3, x4, _ => ⟨x3, by simp [forE]⟩
  | i :: is, don, x3, x4, h => by
    simp only [List.length_cons] at h
    have hb := bodyV n cs C r c hc don (by omega) (1 + (i : Int)) x4
    obtain ⟨y3, ih⟩ := loopV n cs C r c hc is (don ++ [dueL cs (1 + (i : Int)) c]) (some (.per (.int (1 + (i : Int))))) x4 (by simp only [List.length_append, List.length_cons, List.length_nil]; omega)
    refine ⟨y3, ?_⟩
    have hs : (CT.nm 3).setO (envV cs r c don x3 x4) (.per (.int (1 + (i : Int)))) = some (envV cs r c don (some (.per (.int (1 + (i : Int))))) x4) := rfl
    rw [List.map_cons, forE_step hs hb, ih, List.map_cons, List.append_assoc, List.singleton_append]
theorem for_step {E : Evs} {env env2 : Ev} {it : CE} {t : CT} {body : List CS} {ds : List D} (hit : E.it env it = .ok ds) (h : forE E t body ds env = some (.nx env2)) : stepS T E env (.for_ t [] it body) = some (.nx env2) := by
  simp only [stepS, vwL, hit, owL, List.any_nil, Bool.false_and]
  exact h
theorem itV (n : Nat) (cs : List Ce) (r c : Nat) (hr : r ≤ 8) (don : Grid) (x3 x4 : Option Ow) : (evs T (n + 25)).it (envV cs r c don x3 x4) (.range [(.cst (.int 1)), (.bin .Add (.idx (.var 1) (.cst (.int 0))) (.cst (.int 1)))]) = .ok ((List.range r).map fun (i : Nat) => D.int (1 + (i : Int))) := by
    rw [← rng_ok]
    have hci : (0 : Int) ≤ r ∧ (r : Int) ≤ 8 := by omega
    have h2 : ((r : Int) + 1 - 1).toNat = r := by omega
    unfold envV
    generalize (r : Int) = ci at *
    have h1 : -4611686018427387904 ≤ ci + 1 ∧ ci + 1 < 4611686018427387904 := by omega
    have h3 : ci + 1 - 1 = ci := by omega
    rw [h3] at h2
    simp [callFI, runB, stepS, evP, evT, evPs, owL, own1, vwL, entE, entA, evs_o, evs_t, evs_b, stepO, stepT, step1, R.calm, Evs.dv, Evs.ds, Evs.os, Evs.ts, Evs.oi, Evs.it, Evs.pl, Ow.fr, frs, dTruth, dBin, dCmp, iCmp, dIdx, dSli, dAtt, dBlt, dBlt1, dBlt2, okN, Ow.nl, D.nl, nls, onls, outF, outM, self0, mkTup, pers, fzo, CT.setO, CTs.setO, putP, Tab.kd, tyN, evs_k, D.asS, D.asL, D.f0, D.in0, D.eq0, D.flat, flats, fdep, eqvI, eqv_str, eqv_bl, eqv_lst, eqv_tup, eqvs_cons, eqvs_nil, eqvs_nc, eqvs_cn, isas, xis, sne, sok, dNeg, dRev, look, keyT, D.isN, Tab.mkX, frs_per, Ow.strip, Ow.isAt, Ow.put, Ow.over, frs_app, Ow.kids, Ow.setKids, -List.map_map, -List.map_take, -List.map_drop, L2.atI, L2.ixN, h1, h3, h2]
theorem asg2 (E : Evs) (cs : List Ce) (r c : Nat) (h : E.o [some (.per (dictL cs)), some (.per (.tup [.int r, .int c])), none, none, none] (.lst []) = .ok (.lst [])) : stepS T E [some (.per (dictL cs)), some (.per (.tup [.int r, .int c])), none, none, none] (.asg (.nm 2) [] false (.lst [])) = some (.nx (envV cs r c [] none none)) := by
  simp only [stepS, evP_nil, h]
  simp [fzo, CT.setO, envV]
theorem lleaves_ok (cs : List Ce) (C : COk cs) (r c : Nat) (hr : r ≤ 8) (hc : c ≤ 8) (n : Nat) : (evs T (n + 26)).f i_l_leaves [dictL cs, .tup [.int r, .int c]] = .ok (.lst (((dueG cs r c).map lineD).map .per)) := by
  obtain ⟨y3, hw⟩ := loopV (n + 3) cs C r c hc (List.range r) [] none none (by simp; omega)
  rw [List.nil_append, ← dueG] at hw
  rw [call_fn fn_l_leaves]
  show outF (runB T (evs T (n + 25)) b_l_leaves [some (.per (dictL cs)), some (.per (.tup [.int r, .int c])), none, none, none]) = _
  unfold b_l_leaves
  rw [runB_nx (asg2 (evs T (n + 25)) cs r c rfl), runB_nx (for_step (itV n cs r c hr [] none none) hw)]
  rfl

end Lw

set_option Elab.async false
set_option linter.all false
set_option autoImplicit false
set_option maxRecDepth 100000
set_option maxHeartbeats 1000001
namespace Lw
open PySem Pu
/-! ### _law_same -/
def okA : Nat → D → Bool
  | _, .int _ => true
  | _, .bl _ => true
  | _, .str x => PyData.strOk x
  | k + 1, .lst xs => decide (xs.length ≤ 16777216) && xs.all (okA k)
  | k + 1, .tup xs => decide (xs.length ≤ 16777216) && xs.all (okA k)
  | _, _ => false
theorem any_int : T.isAny (.b "int") [.b "list", .b "tuple"] = some false := by kernel_rfl
theorem any_bool : T.isAny (.b "bool") [.b "list", .b "tuple"] = some false := by kernel_rfl
theorem any_str : T.isAny (.b "str") [.b "list", .b "tuple"] = some false := by kernel_rfl
theorem any_tup : T.isAny (.b "tuple") [.b "list", .b "tuple"] = some true := by kernel_rfl
theorem any_lst : T.isAny (.b "list") [.b "list", .b "tuple"] = some true := by kernel_rfl
theorem same_zip (m : Nat) (x y : Option Ow) : ∀ ys : List D, (∀ d ∈ ys, (evs T m).f i_l_same [d, d] = .ok (.per (.bl true))) →
    (evs T (m + 1)).lc [x, y, none, none] (.tp (.cons (.nm 2) (.cons (.nm 3) .nil))) [] (.call i_l_same [(.var 2), (.var 3)]) (zipD ys ys) = .ok (ys.map fun _ => .per (.bl true))
  | [], _ => rfl
  | d :: ys, h => by
    have h1 := h d List.mem_cons_self
    have h2 := same_zip m x y ys fun d hd => h d (List.mem_cons_of_mem _ hd)
    have h3 : (evs T (m + 1)).o [x, y, some (.per d), some (.per d)] (.call i_l_same [(.var 2), (.var 3)]) = .ok (.per (.bl true)) := by
      rw [evs_o]
      have : Evs.ds (evs T m) [x, y, some (.per d), some (.per d)] [(.var 2), (.var 3)] = .ok [d, d] ∨ m = 0 := by
        cases m with
        | zero => exact .inr rfl
        | succ m => left; simp [callFI, runB, stepS, evP, evT, evPs, owL, own1, vwL, entE, entA, evs_o, evs_t, evs_b, stepO, stepT, step1, R.calm, Evs.dv, Evs.ds, Evs.os, Evs.ts, Evs.oi, Evs.it, Evs.pl, Ow.fr, frs, dTruth, dBin, dCmp, iCmp, dIdx, dSli, dAtt, dBlt, dBlt1, dBlt2, okN, Ow.nl, D.nl, nls, onls, outF, outM, self0, mkTup, pers, fzo, CT.setO, CTs.setO, putP, Tab.kd, tyN, evs_k, D.asS, D.asL, D.f0, D.in0, D.eq0, D.flat, flats, fdep, eqvI, eqv_str, eqv_bl, eqv_lst, eqv_tup, eqvs_cons, eqvs_nil, eqvs_nc, eqvs_cn, isas, xis, sne, sok, dNeg, dRev, look, keyT, D.isN, Tab.mkX, frs_per, Ow.strip, Ow.isAt, Ow.put, Ow.over, frs_app, Ow.kids, Ow.setKids, -List.map_map, -List.map_take, -List.map_drop, ]
      rcases this with e | e
      · simp only [stepO, e, h1]
      · subst e; cases h1
    simp only [zipD, Evs.lc, CT.setO, CTs.setO, List.map_cons, List.map_nil, List.length_cons, List.length_nil]
    simp [Evs.ts, h3, h2]
theorem dbools_true : ∀ ys : List D, dbools (frs (ys.map fun _ => Ow.per (.bl true))) = some (ys.map fun _ => true)
  | [] => rfl
  | y :: ys => by simp only [List.map_cons, frs, Ow.fr, dbools, dbools_true ys]
theorem all_true : ∀ ys : List D, (ys.map fun _ => true).all id = true
  | [] => rfl
  | y :: ys => by simp
theorem same_refl : ∀ (k : Nat) (d : D), okA k d = true → ∀ n, (evs T (n + 12 * k + 12)).f i_l_same [d, d] = .ok (.per (.bl true))
  | k, .int i, _, n => by
    rw [call_fn fn_l_same]
    simp [callFI, runB, stepS, evP, evT, evPs, owL, own1, vwL, entE, entA, evs_o, evs_t, evs_b, stepO, stepT, step1, R.calm, Evs.dv, Evs.ds, Evs.os, Evs.ts, Evs.oi, Evs.it, Evs.pl, Ow.fr, frs, dTruth, dBin, dCmp, iCmp, dIdx, dSli, dAtt, dBlt, dBlt1, dBlt2, okN, Ow.nl, D.nl, nls, onls, outF, outM, self0, mkTup, pers, fzo, CT.setO, CTs.setO, putP, Tab.kd, tyN, evs_k, D.asS, D.asL, D.f0, D.in0, D.eq0, D.flat, flats, fdep, eqvI, eqv_str, eqv_bl, eqv_lst, eqv_tup, eqvs_cons, eqvs_nil, eqvs_nc, eqvs_cn, isas, xis, sne, sok, dNeg, dRev, look, keyT, D.isN, Tab.mkX, frs_per, Ow.strip, Ow.isAt, Ow.put, Ow.over, frs_app, Ow.kids, Ow.setKids, -List.map_map, -List.map_take, -List.map_drop, f_l_same, b_l_same, any_int]
  | k, .bl q, _, n => by
    rw [call_fn fn_l_same]
    simp [callFI, runB, stepS, evP, evT, evPs, owL, own1, vwL, entE, entA, evs_o, evs_t, evs_b, stepO, stepT, step1, R.calm, Evs.dv, Evs.ds, Evs.os, Evs.ts, Evs.oi, Evs.it, Evs.pl, Ow.fr, frs, dTruth, dBin, dCmp, iCmp, dIdx, dSli, dAtt, dBlt, dBlt1, dBlt2, okN, Ow.nl, D.nl, nls, onls, outF, outM, self0, mkTup, pers, fzo, CT.setO, CTs.setO, putP, Tab.kd, tyN, evs_k, D.asS, D.asL, D.f0, D.in0, D.eq0, D.flat, flats, fdep, eqvI, eqv_str, eqv_bl, eqv_lst, eqv_tup, eqvs_cons, eqvs_nil, eqvs_nc, eqvs_cn, isas, xis, sne, sok, dNeg, dRev, look, keyT, D.isN, Tab.mkX, frs_per, Ow.strip, Ow.isAt, Ow.put, Ow.over, frs_app, Ow.kids, Ow.setKids, -List.map_map, -List.map_take, -List.map_drop, f_l_same, b_l_same, any_bool]
  | k, .str x, h, n => by
    rw [call_fn fn_l_same]
    have h' : PyData.strOk x = true := by cases k <;> simpa [okA] using h
    simp [callFI, runB, stepS, evP, evT, evPs, owL, own1, vwL, entE, entA, evs_o, evs_t, evs_b, stepO, stepT, step1, R.calm, Evs.dv, Evs.ds, Evs.os, Evs.ts, Evs.oi, Evs.it, Evs.pl, Ow.fr, frs, dTruth, dBin, dCmp, iCmp, dIdx, dSli, dAtt, dBlt, dBlt1, dBlt2, okN, Ow.nl, D.nl, nls, onls, outF, outM, self0, mkTup, pers, fzo, CT.setO, CTs.setO, putP, Tab.kd, tyN, evs_k, D.asS, D.asL, D.f0, D.in0, D.eq0, D.flat, flats, fdep, eqvI, eqv_str, eqv_bl, eqv_lst, eqv_tup, eqvs_cons, eqvs_nil, eqvs_nc, eqvs_cn, isas, xis, sne, sok, dNeg, dRev, look, keyT, D.isN, Tab.mkX, frs_per, Ow.strip, Ow.isAt, Ow.put, Ow.over, frs_app, Ow.kids, Ow.setKids, -List.map_map, -List.map_take, -List.map_drop, f_l_same, b_l_same, any_str, h']
  | k, .non, h, n => by cases k <;> simp [okA] at h
  | k, .ty _, h, n => by cases k <;> simp [okA] at h
  | k, .adr _, h, n => by cases k <;> simp [okA] at h
  | k, .fz _, h, n => by cases k <;> simp [okA] at h
  | k, .ft _, h, n => by cases k <;> simp [okA] at h
  | k, .obj _ _ _, h, n => by cases k <;> simp [okA] at h
  | k, .exc _ _ _, h, n => by cases k <;> simp [okA] at h
  | k, .dK _ _, h, n => by cases k <;> simp [okA] at h
  | k, .dL _ _, h, n => by cases k <;> simp [okA] at h
  | k, .dT _ _, h, n => by cases k <;> simp [okA] at h
  | 0, .lst xs, h, n => by simp [okA] at h
  | 0, .tup xs, h, n => by simp [okA] at h
  | k + 1, .lst xs, h, n => by
    simp only [okA, Bool.and_eq_true, decide_eq_true_eq, List.all_eq_true] at h
    obtain ⟨hl, hx⟩ := h
    have hz : (zipD xs xs).length ≤ sizeLine := by rw [zipD_len, sizeLine_eq]; omega
    have ih : ∀ j, ∀ d ∈ xs, (evs T (n + 12 * k + 12 + j)).f i_l_same [d, d] = .ok (.per (.bl true)) := fun j d hd => by
      have := same_refl k d (hx d hd) (n + j)
      rwa [show n + j + 12 * k + 12 = n + 12 * k + 12 + j by omega] at this
    rw [show n + 12 * (k + 1) + 12 = (n + 12 * k + 12) + 12 by omega]
    generalize n + 12 * k + 12 = m at ih
    rw [call_fn fn_l_same]
    have hlc : ∀ j, (evs T (m + j + 1)).lc (wipeE [some (.per (.lst xs)), some (.per (.lst xs)), none, none] [2, 3]) (.tp (.cons (.nm 2) (.cons (.nm 3) .nil))) [] (.call i_l_same [(.var 2), (.var 3)]) (zipD xs xs) = .ok (xs.map fun _ => .per (.bl true)) := fun j => same_zip (m + j) _ _ xs (ih j)
    simp [callFI, runB, stepS, evP, evT, evPs, owL, own1, vwL, entE, entA, evs_o, evs_t, evs_b, stepO, stepT, step1, R.calm, Evs.dv, Evs.ds, Evs.os, Evs.ts, Evs.oi, Evs.it, Evs.pl, Ow.fr, frs, dTruth, dBin, dCmp, iCmp, dIdx, dSli, dAtt, dBlt, dBlt1, dBlt2, okN, Ow.nl, D.nl, nls, onls, outF, outM, self0, mkTup, pers, fzo, CT.setO, CTs.setO, putP, Tab.kd, tyN, evs_k, D.asS, D.asL, D.f0, D.in0, D.eq0, D.flat, flats, fdep, eqvI, eqv_str, eqv_bl, eqv_lst, eqv_tup, eqvs_cons, eqvs_nil, eqvs_nc, eqvs_cn, isas, xis, sne, sok, dNeg, dRev, look, keyT, D.isN, Tab.mkX, frs_per, Ow.strip, Ow.isAt, Ow.put, Ow.over, frs_app, Ow.kids, Ow.setKids, -List.map_map, -List.map_take, -List.map_drop, f_l_same, b_l_same, any_lst, hz, hlc, dbools_true, all_true]
  | k + 1, .tup xs, h, n => by
    simp only [okA, Bool.and_eq_true, decide_eq_true_eq, List.all_eq_true] at h
    obtain ⟨hl, hx⟩ := h
    have hz : (zipD xs xs).length ≤ sizeLine := by rw [zipD_len, sizeLine_eq]; omega
    have ih : ∀ j, ∀ d ∈ xs, (evs T (n + 12 * k + 12 + j)).f i_l_same [d, d] = .ok (.per (.bl true)) := fun j d hd => by
      have := same_refl k d (hx d hd) (n + j)
      rwa [show n + j + 12 * k + 12 = n + 12 * k + 12 + j by omega] at this
    rw [show n + 12 * (k + 1) + 12 = (n + 12 * k + 12) + 12 by omega]
    generalize n + 12 * k + 12 = m at ih
    rw [call_fn fn_l_same]
    have hlc : ∀ j, (evs T (m + j + 1)).lc (wipeE [some (.per (.tup xs)), some (.per (.tup xs)), none, none] [2, 3]) (.tp (.cons (.nm 2) (.cons (.nm 3) .nil))) [] (.call i_l_same [(.var 2), (.var 3)]) (zipD xs xs) = .ok (xs.map fun _ => .per (.bl true)) := fun j => same_zip (m + j) _ _ xs (ih j)
    simp [callFI, runB, stepS, evP, evT, evPs, owL, own1, vwL, entE, entA, evs_o, evs_t, evs_b, stepO, stepT, step1, R.calm, Evs.dv, Evs.ds, Evs.os, Evs.ts, Evs.oi, Evs.it, Evs.pl, Ow.fr, frs, dTruth, dBin, dCmp, iCmp, dIdx, dSli, dAtt, dBlt, dBlt1, dBlt2, okN, Ow.nl, D.nl, nls, onls, outF, outM, self0, mkTup, pers, fzo, CT.setO, CTs.setO, putP, Tab.kd, tyN, evs_k, D.asS, D.asL, D.f0, D.in0, D.eq0, D.flat, flats, fdep, eqvI, eqv_str, eqv_bl, eqv_lst, eqv_tup, eqvs_cons, eqvs_nil, eqvs_nc, eqvs_cn, isas, xis, sne, sok, dNeg, dRev, look, keyT, D.isN, Tab.mkX, frs_per, Ow.strip, Ow.isAt, Ow.put, Ow.over, frs_app, Ow.kids, Ow.setKids, -List.map_map, -List.map_take, -List.map_drop, f_l_same, b_l_same, any_tup, hz, hlc, dbools_true, all_true]

end Lw

set_option Elab.async false
set_option linter.all false
set_option autoImplicit false
set_option maxRecDepth 100000
set_option maxHeartbeats 1000001
namespace Lw
open PySem Pu
/-! ### the law of folding, in plain words -/
def mk (r c : Nat) (f : Nat → Nat → Pile) : Grid := (List.range r).map fun i => (List.range c).map fun j => f i j
theorem mk_len (r c : Nat) (f : Nat → Nat → Pile) : (mk r c f).length = r := by simp [mk]
theorem mk_cols (r c : Nat) (f : Nat → Nat → Pile) (h : 1 ≤ r) : colsN (mk r c f) = c := by
  obtain ⟨k, rfl⟩ : ∃ k, r = k + 1 := ⟨r - 1, by omega⟩
  simp [mk, colsN, List.range_succ_eq_map]
theorem rng_getD {α : Type} (n i : Nat) (f : Nat → α) (z : α) (h : i < n) : ((List.range n).map f).getD i z = f i := by
  simp [List.getD_eq_getElem?_getD, h]
theorem mk_across (r c : Nat) (f : Nat → Nat → Pile) (h : 1 ≤ r) : across (mk r c f) = mk c r fun i j => f j i := by
  unfold across
  rw [mk_cols r c f h]
  apply List.map_congr_left
  intro i hi
  unfold mk
  rw [List.map_map]
  apply List.map_congr_left
  intro j _
  exact rng_getD c i _ _ (List.mem_range.mp hi)
theorem mk_congr {r c : Nat} {f f' : Nat → Nat → Pile} (h : ∀ i < r, ∀ j < c, f i j = f' i j) : mk r c f = mk r c f' := by
  unfold mk
  apply List.map_congr_left
  intro i hi
  apply List.map_congr_left
  intro j hj
  exact h i (List.mem_range.mp hi) j (List.mem_range.mp hj)
theorem lay_get (over b : Bool) : ∀ (ms ys : List Pile) (k : Nat), ms.length ≤ ys.length → (lay over b ms ys)[k]? = if k < ms.length then (match ms[k]?, ys[k]? with | some m, some y => some (onP over (turnP b m) y) | _, _ => none) else ys[k]?
  | [], ys, k, _ => by simp [lay]
  | m :: ms, [], k, h => by simp at h
  | m :: ms, y :: ys, 0, _ => by simp [lay]
  | m :: ms, y :: ys, k + 1, h => by
    have := lay_get over b ms ys k (by simpa using h)
    simp only [lay, List.getElem?_cons_succ, this, List.length_cons, Nat.add_lt_add_iff_right]
/-- the pile at k behind a fold of a line -/
def fAt (over b bh : Bool) (m n : Nat) (h : Nat → Pile) (k : Nat) : Pile :=
  if bh then (if n ≤ k + 2 * m then onP over (turnP b (h (2 * (n - m) - 1 - k))) (h k) else h k)
  else (if k < m then onP over (turnP b (h (m - 1 - k))) (h (m + k)) else h (m + k))
theorem foldL_rng (over b : Bool) (m n : Nat) (h : Nat → Pile) (hm : 2 * m ≤ n) : foldL over b ((List.range n).map h) m = (List.range (n - m)).map (fAt over b false m n h) := by
  apply List.ext_getElem?
  intro k
  unfold foldL
  have l1 : (((List.range n).map h).take m).reverse.length = m := by simp; omega
  have l2 : (((List.range n).map h).drop m).length = n - m := by simp
  rw [lay_get _ _ _ _ _ (by rw [l1, l2]; omega), l1]
  by_cases hk : k < n - m
  · have e2 : (((List.range n).map h).drop m)[k]? = some (h (m + k)) := by
      have : m + k < n := by omega
      simp [this]
    have e3 : ((List.range (n - m)).map (fAt over b false m n h))[k]? = some (fAt over b false m n h k) := by simp [hk]
    rw [e2, e3]
    by_cases hkm : k < m
    · have e1 : (((List.range n).map h).take m).reverse[k]? = some (h (m - 1 - k)) := by
        rw [List.getElem?_reverse (by simp; omega)]
        have e : (((List.range n).map h).take m).length - 1 - k = m - 1 - k := by simp; omega
        rw [e]
        have q1 : m - 1 - k < m := by omega
        have q2 : m - 1 - k < n := by omega
        simp [List.getElem?_take, q1, q2]
      rw [if_pos hkm, e1]
      simp [fAt, hkm]
    · rw [if_neg hkm]
      simp [fAt, hkm]
  · have hkm : ¬ k < m := by omega
    rw [if_neg hkm]
    have : n ≤ m + k := by omega
    rw [List.getElem?_eq_none (by simp; omega), List.getElem?_eq_none (by simp; omega)]
theorem rev_rng (n : Nat) (h : Nat → Pile) : ((List.range n).map h).reverse = (List.range n).map fun k => h (n - 1 - k) := by
  apply List.ext_getElem?
  intro k
  by_cases hk : k < n
  · rw [List.getElem?_reverse (by simpa using hk)]
    have : n - 1 - k < n := by omega
    simp [hk, this]
  · rw [List.getElem?_eq_none (by simp; omega), List.getElem?_eq_none (by simp; omega)]
theorem foldLn_rng (over b bh : Bool) (m n : Nat) (h : Nat → Pile) (hm : 2 * m ≤ n) : foldLn over b bh m ((List.range n).map h) = (List.range (n - m)).map (fAt over b bh m n h) := by
  cases bh
  · simp only [foldLn, revIf, Bool.false_eq_true, if_false]
    exact foldL_rng over b m n h hm
  · simp only [foldLn, revIf, if_true]
    rw [rev_rng, foldL_rng over b m n _ hm, rev_rng]
    apply List.map_congr_left
    intro k hk
    have hk : k < n - m := List.mem_range.mp hk
    simp only [fAt, Bool.false_eq_true, if_false, if_true]
    have e1 : n - 1 - (m + (n - m - 1 - k)) = k := by omega
    have e2 : n - 1 - (m - 1 - (n - m - 1 - k)) = 2 * (n - m) - 1 - k ∨ ¬ (n - m - 1 - k < m) := by omega
    rw [e1]
    by_cases hq : n - m - 1 - k < m
    · rw [if_pos hq, if_pos (by omega)]
      rcases e2 with e2 | e2
      · rw [e2]
      · exact absurd hq e2
    · rw [if_neg hq, if_neg (by omega)]
theorem fold_mk (over br bh : Bool) (m r c : Nat) (f : Nat → Nat → Pile) (hr : 1 ≤ r) (hc : 1 ≤ c) (hm : 1 ≤ m ∧ 2 * m ≤ (if br then r else c)) :
    foldG over br bh m (mk r c f) = mk (if br then r - m else r) (if br then c else c - m) fun i j => if br then fAt over br bh m r (fun k => f k j) i else fAt over br bh m c (f i) j := by
  unfold foldG linesG
  cases br
  · simp only [Bool.false_eq_true, if_false] at hm ⊢
    unfold mk
    rw [List.map_map]
    apply List.map_congr_left
    intro i _
    exact foldLn_rng over false bh m c (f i) hm.2
  · simp only [if_true] at hm ⊢
    rw [mk_across r c f hr]
    have : (mk c r fun i j => f j i).map (foldLn over true bh m) = mk c (r - m) fun j => fAt over true bh m r (fun k => f k j) := by
      unfold mk
      rw [List.map_map]
      apply List.map_congr_left
      intro j _
      exact foldLn_rng over true bh m r (fun k => f k j) hm.2
    rw [this, mk_across c (r - m) _ hc]
/-! ### cells in order of heights -/
def Desc (l : List Ce) : Prop := l.Pairwise fun x y => y.h < x.h
theorem desc_uniq : ∀ {l1 l2 : List Ce}, Desc l1 → Desc l2 → (∀ x, x ∈ l1 ↔ x ∈ l2) → l1 = l2
  | [], [], _, _, _ => rfl
  | [], y :: ys, _, _, h => by have := (h y).mpr List.mem_cons_self; cases this
  | x :: xs, [], _, _, h => by have := (h x).mp List.mem_cons_self; cases this
  | x :: xs, y :: ys, d1, d2, h => by
    have p1 := List.pairwise_cons.mp d1
    have p2 := List.pairwise_cons.mp d2
    have e : x = y := by
      rcases List.mem_cons.mp ((h x).mp List.mem_cons_self) with e | e
      · exact e
      · rcases List.mem_cons.mp ((h y).mpr List.mem_cons_self) with e' | e'
        · exact e'.symm
        · have := p2.1 x e
          have := p1.1 y e'
          omega
    subst e
    rw [desc_uniq p1.2 p2.2 fun z => ⟨fun hz => by
      rcases List.mem_cons.mp ((h z).mp (List.mem_cons_of_mem _ hz)) with e | e
      · subst e; have := p1.1 z hz; omega
      · exact e, fun hz => by
      rcases List.mem_cons.mp ((h z).mpr (List.mem_cons_of_mem _ hz)) with e | e
      · subst e; have := p2.1 z hz; omega
      · exact e⟩]
theorem insC_mem (x : Ce) : ∀ (ys : List Ce) (z : Ce), z ∈ insC x ys ↔ z = x ∨ z ∈ ys
  | [], z => by simp [insC]
  | y :: ys, z => by
    simp only [insC]
    split
    · simp
    · simp only [List.mem_cons, insC_mem x ys z]
      exact or_left_comm
theorem sortC_mem : ∀ (ys : List Ce) (z : Ce), z ∈ sortC ys ↔ z ∈ ys
  | [], z => by simp [sortC]
  | y :: ys, z => by simp only [sortC, insC_mem, sortC_mem ys z, List.mem_cons]
theorem insC_desc (x : Ce) : ∀ {ys : List Ce}, Desc ys → (∀ y ∈ ys, y.h ≠ x.h) → Desc (insC x ys)
  | [], _, _ => by simp [insC, Desc]
  | y :: ys, d, h => by
    have p := List.pairwise_cons.mp d
    simp only [insC]
    split
    · rename_i hle
      refine List.pairwise_cons.mpr ⟨fun z hz => ?_, d⟩
      rcases List.mem_cons.mp hz with rfl | hz
      · have := h z List.mem_cons_self; omega
      · have := p.1 z hz
        have := h y List.mem_cons_self
        omega
    · rename_i hle
      refine List.pairwise_cons.mpr ⟨fun z hz => ?_, insC_desc x p.2 fun z hz => h z (List.mem_cons_of_mem _ hz)⟩
      rcases (insC_mem x ys z).mp hz with rfl | hz
      · omega
      · exact p.1 z hz
theorem sortC_desc : ∀ {ys : List Ce}, ys.Pairwise (fun x y => x.h ≠ y.h) → Desc (sortC ys)
  | [], _ => by simp [sortC, Desc]
  | y :: ys, p => by
    have p := List.pairwise_cons.mp p
    exact insC_desc y (sortC_desc p.2) fun z hz => fun e => p.1 z ((sortC_mem ys z).mp hz) e.symm
/-- cells: keys apart, heights apart at each place, places within the sheet -/
structure CI (r c : Nat) (cs : List Ce) : Prop where
  nd : (cs.map Ce.k).Nodup
  ne : cs ≠ []
  len : cs.length ≤ 32
  ap : ∀ e ∈ cs, ∀ e' ∈ cs, e.a = e'.a → e.d = e'.d → e.h = e'.h → e = e'
  rg : ∀ e ∈ cs, (1 ≤ e.a ∧ e.a ≤ c) ∧ (1 ≤ e.d ∧ e.d ≤ r)
theorem here_mem {a d : Int} {cs : List Ce} {e : Ce} : e ∈ hereC a d cs ↔ e ∈ cs ∧ e.a = a ∧ e.d = d := by simp [hereC, List.mem_filter]
theorem CI.pair {r c : Nat} {cs : List Ce} (C : CI r c cs) (a d : Int) : (hereC a d cs).Pairwise fun x y => x.h ≠ y.h := by
  have h1 : cs.Pairwise fun x y => x ≠ y := by
    have := C.nd
    rw [List.Nodup, List.pairwise_map] at this
    exact this.imp fun h e => h (by rw [e])
  have h2 : (hereC a d cs).Pairwise fun x y => x ≠ y := h1.sublist List.filter_sublist
  refine h2.imp_of_mem fun {x y} hx hy hne hh => ?_
  obtain ⟨m1, a1, d1⟩ := here_mem.mp hx
  obtain ⟨m2, a2, d2⟩ := here_mem.mp hy
  exact hne (C.ap x m1 y m2 (by rw [a1, a2]) (by rw [d1, d2]) hh)
theorem apart_of : ∀ {ys : List Ce}, ys.Pairwise (fun x y => x.h ≠ y.h) → apartC ys
  | [], _ => rfl
  | y :: ys, p => by
    have p := List.pairwise_cons.mp p
    have ih := apart_of p.2
    unfold apartC at ih ⊢
    simp only [List.map_cons, apartI, ih, Bool.and_true, Bool.not_eq_true', List.contains_eq_mem, decide_eq_false_iff_not, List.mem_map, not_exists, not_and]
    intro z hz e
    have := p.1 z hz
    omega
theorem CI.cok {r c : Nat} {cs : List Ce} (C : CI r c cs) : COk cs := ⟨C.nd, by have := C.len; omega, fun a d => apart_of (C.pair a d)⟩
theorem minL_le : ∀ (xs : List Int) (n : Int), minL n xs ≤ n ∧ ∀ x ∈ xs, minL n xs ≤ x
  | [], n => ⟨by simp [minL], by simp⟩
  | x :: xs, n => by
    obtain ⟨h1, h2⟩ := minL_le xs (if x < n then x else n)
    simp only [minL]
    constructor
    · split at h1 <;> rename_i hh <;> simp only [hh, if_true, if_false] <;> omega
    · intro y hy
      rcases List.mem_cons.mp hy with rfl | hy
      · split at h1 <;> rename_i hh <;> simp only [hh, if_true, if_false] <;> omega
      · exact h2 y hy
theorem maxL_le : ∀ (xs : List Int) (n : Int), n ≤ maxL n xs ∧ ∀ x ∈ xs, x ≤ maxL n xs
  | [], n => ⟨by simp [maxL], by simp⟩
  | x :: xs, n => by
    obtain ⟨h1, h2⟩ := maxL_le xs (if n < x then x else n)
    simp only [maxL]
    constructor
    · split at h1 <;> rename_i hh <;> simp only [hh, if_true, if_false] <;> omega
    · intro y hy
      rcases List.mem_cons.mp hy with rfl | hy
      · split at h1 <;> rename_i hh <;> simp only [hh, if_true, if_false] <;> omega
      · exact h2 y hy
theorem lohi {cs : List Ce} {e : Ce} (h : e ∈ cs) : loC cs ≤ e.h ∧ e.h ≤ hiC cs := by
  cases cs with
  | nil => cases h
  | cons x xs =>
    simp only [loC, hiC]
    obtain ⟨h1, h2⟩ := minL_le (xs.map Ce.h) x.h
    obtain ⟨h3, h4⟩ := maxL_le (xs.map Ce.h) x.h
    rcases List.mem_cons.mp h with rfl | h
    · exact ⟨h1, h3⟩
    · exact ⟨h2 _ (List.mem_map.mpr ⟨e, h, rfl⟩), h4 _ (List.mem_map.mpr ⟨e, h, rfl⟩)⟩
/-- the place of a cell in a line -/
def hereB (br : Bool) (o p : Int) (cs : List Ce) : List Ce := if br then hereC o p cs else hereC p o cs
def othC (br : Bool) (e : Ce) : Int := if br then e.a else e.d
theorem hereB_mem {br : Bool} {o p : Int} {cs : List Ce} {e : Ce} : e ∈ hereB br o p cs ↔ e ∈ cs ∧ othC br e = o ∧ spotC br e = p := by
  cases br
  · simp only [hereB, Bool.false_eq_true, if_false, here_mem, othC, spotC]
    exact ⟨fun h => ⟨h.1, h.2.2, h.2.1⟩, fun h => ⟨h.1, h.2.2, h.2.1⟩⟩
  · simp only [hereB, if_true, here_mem, othC, spotC]
def atB (br : Bool) (cs : List Ce) (o p : Int) : Pile := (sortC (hereB br o p cs)).map Ce.lf
def srcM (bh : Bool) (m sz p : Int) : Int := if bh then 2 * (sz - m) + 1 - p else m + 1 - p
def srcY (bh : Bool) (m p : Int) : Int := if bh then p else p + m
theorem mv_oth (br bh over : Bool) (m sz lo hi : Int) (e : Ce) : othC br (mv br bh over m sz lo hi e) = othC br e := by cases br <;> simp [othC, mv]
theorem mv_spot (br bh over : Bool) (m sz lo hi : Int) (e : Ce) : spotC br (mv br bh over m sz lo hi e) = spM br bh m sz e := by cases br <;> simp [spotC, mv_a, mv_d]
theorem mv_h (br bh over : Bool) (m sz lo hi : Int) (e : Ce) : (mv br bh over m sz lo hi e).h = if goesC br bh m sz e then (if over then 2 * hi + 1 - e.h else 2 * lo - 1 - e.h) else e.h := rfl
theorem mv_goes (br bh over : Bool) (m sz lo hi : Int) (e : Ce) (h : goesC br bh m sz e = true) : (mv br bh over m sz lo hi e).lf = e.lf.nx br := by
  simp only [mv, h, Ce.lf, Lf.nx, if_true]
theorem mv_stays (br bh over : Bool) (m sz lo hi : Int) (e : Ce) (h : goesC br bh m sz e = false) : (mv br bh over m sz lo hi e).lf = e.lf := by
  simp [mv, h, Ce.lf]
theorem goes_iff (br bh : Bool) (m sz : Int) (e : Ce) : goesC br bh m sz e = true ↔ (if bh then sz - m < spotC br e else spotC br e ≤ m) := by
  cases bh <;> simp [goesC]
/-- where a cell comes from -/
theorem spM_iff (br bh : Bool) (m sz p : Int) (e : Ce) (hp : 1 ≤ p ∧ p ≤ sz - m) : spM br bh m sz e = p ↔ spotC br e = srcM bh m sz p ∧ goesC br bh m sz e = true ∨ spotC br e = srcY bh m p ∧ goesC br bh m sz e = false := by
  have h0 : goesC br bh m sz e = false ↔ ¬ (if bh then sz - m < spotC br e else spotC br e ≤ m) := by rw [← goes_iff, Bool.not_eq_true]
  rw [h0, goes_iff]
  unfold spM
  cases bh
  · simp only [srcM, srcY, Bool.false_eq_true, if_false]
    by_cases hg : spotC br e ≤ m
    · rw [if_pos ((goes_iff br false m sz e).mpr hg)]; omega
    · rw [if_neg (fun z => hg ((goes_iff br false m sz e).mp z))]; omega
  · simp only [srcM, srcY, if_true]
    by_cases hg : sz - m < spotC br e
    · rw [if_pos ((goes_iff br true m sz e).mpr hg)]; omega
    · rw [if_neg (fun z => hg ((goes_iff br true m sz e).mp z))]; omega
theorem src_goes (br bh : Bool) (m sz p : Int) (e : Ce) (hp : 1 ≤ p ∧ p ≤ sz - m) : (spotC br e = srcM bh m sz p → goesC br bh m sz e = true) ∧ (spotC br e = srcY bh m p → goesC br bh m sz e = false) := by
  have h0 : goesC br bh m sz e = false ↔ ¬ (if bh then sz - m < spotC br e else spotC br e ≤ m) := by rw [← goes_iff, Bool.not_eq_true]
  rw [h0, goes_iff]
  cases bh <;> simp only [srcM, srcY, Bool.false_eq_true, if_false, if_true] <;> omega
theorem CI.pairB {r c : Nat} {cs : List Ce} (C : CI r c cs) (br : Bool) (o p : Int) : (hereB br o p cs).Pairwise fun x y => x.h ≠ y.h := by
  cases br
  · exact C.pair p o
  · exact C.pair o p
theorem fold_at {r c : Nat} {cs : List Ce} (C : CI r c cs) (br bh over : Bool) (m sz o p : Int) (hp : 1 ≤ p ∧ p ≤ sz - m) (C' : ∀ a d, (hereC a d (cs.map (mv br bh over m sz (loC cs) (hiC cs)))).Pairwise fun x y => x.h ≠ y.h) :
    atB br (cs.map (mv br bh over m sz (loC cs) (hiC cs))) o p = onP over (turnP br (atB br cs o (srcM bh m sz p))) (atB br cs o (srcY bh m p)) := by
  have dM := sortC_desc (C.pairB br o (srcM bh m sz p))
  have dY := sortC_desc (C.pairB br o (srcY bh m p))
  have dN : Desc (sortC (hereB br o p (cs.map (mv br bh over m sz (loC cs) (hiC cs))))) := sortC_desc (by cases br <;> simpa [hereB] using C' _ _)
  have mM : ∀ e, e ∈ sortC (hereB br o (srcM bh m sz p) cs) ↔ e ∈ cs ∧ othC br e = o ∧ spotC br e = srcM bh m sz p := fun e => by rw [sortC_mem, hereB_mem]
  have mY : ∀ e, e ∈ sortC (hereB br o (srcY bh m p) cs) ↔ e ∈ cs ∧ othC br e = o ∧ spotC br e = srcY bh m p := fun e => by rw [sortC_mem, hereB_mem]
  have mN : ∀ e, e ∈ sortC (hereB br o p (cs.map (mv br bh over m sz (loC cs) (hiC cs)))) ↔ ∃ x ∈ cs, mv br bh over m sz (loC cs) (hiC cs) x = e ∧ othC br x = o ∧ (spotC br x = srcM bh m sz p ∨ spotC br x = srcY bh m p) := fun e => by
    rw [sortC_mem, hereB_mem, List.mem_map]
    constructor
    · rintro ⟨⟨x, hx, rfl⟩, h1, h2⟩
      rw [mv_oth] at h1
      rw [mv_spot] at h2
      rcases (spM_iff br bh m sz p x hp).mp h2 with h | h
      · exact ⟨x, hx, rfl, h1, .inl h.1⟩
      · exact ⟨x, hx, rfl, h1, .inr h.1⟩
    · rintro ⟨x, hx, rfl, h1, h2⟩
      refine ⟨⟨x, hx, rfl⟩, by rw [mv_oth]; exact h1, ?_⟩
      rw [mv_spot, spM_iff br bh m sz p x hp]
      rcases h2 with h | h
      · exact .inl ⟨h, (src_goes br bh m sz p x hp).1 h⟩
      · exact .inr ⟨h, (src_goes br bh m sz p x hp).2 h⟩
  have gM : ∀ e ∈ sortC (hereB br o (srcM bh m sz p) cs), goesC br bh m sz e = true := fun e he => (src_goes br bh m sz p e hp).1 ((mM e).mp he).2.2
  have gY : ∀ e ∈ sortC (hereB br o (srcY bh m p) cs), goesC br bh m sz e = false := fun e he => (src_goes br bh m sz p e hp).2 ((mY e).mp he).2.2
  have lM : ∀ e ∈ sortC (hereB br o (srcM bh m sz p) cs), e ∈ cs := fun e he => ((mM e).mp he).1
  have lY : ∀ e ∈ sortC (hereB br o (srcY bh m p) cs), e ∈ cs := fun e he => ((mY e).mp he).1
  have key : sortC (hereB br o p (cs.map (mv br bh over m sz (loC cs) (hiC cs)))) =
      if over then (sortC (hereB br o (srcM bh m sz p) cs)).reverse.map (mv br bh over m sz (loC cs) (hiC cs)) ++ (sortC (hereB br o (srcY bh m p) cs)).map (mv br bh over m sz (loC cs) (hiC cs))
      else (sortC (hereB br o (srcY bh m p) cs)).map (mv br bh over m sz (loC cs) (hiC cs)) ++ (sortC (hereB br o (srcM bh m sz p) cs)).reverse.map (mv br bh over m sz (loC cs) (hiC cs)) := by
    generalize sortC (hereB br o (srcM bh m sz p) cs) = sM at *
    generalize sortC (hereB br o (srcY bh m p) cs) = sY at *
    have d1 : Desc (sM.reverse.map (mv br bh over m sz (loC cs) (hiC cs))) := by
      unfold Desc
      rw [List.pairwise_map, List.pairwise_reverse]
      refine dM.imp_of_mem fun {x y} hx hy h => ?_
      rw [mv_h, mv_h, gM x hx, gM y hy]
      cases over <;> simp <;> omega
    have d2 : Desc (sY.map (mv br bh over m sz (loC cs) (hiC cs))) := by
      unfold Desc
      rw [List.pairwise_map]
      refine dY.imp_of_mem fun {x y} hx hy h => ?_
      rw [mv_h, mv_h, gY x hx, gY y hy]
      simpa using h
    apply desc_uniq dN
    · cases over
      · refine List.pairwise_append.mpr ⟨d2, d1, fun x hx y hy => ?_⟩
        obtain ⟨x0, hx0, rfl⟩ := List.mem_map.mp hx
        obtain ⟨y0, hy0, rfl⟩ := List.mem_map.mp hy
        rw [List.mem_reverse] at hy0
        have b1 := lohi (lY x0 hx0)
        have b2 := lohi (lM y0 hy0)
        rw [mv_h, mv_h, gY x0 hx0, gM y0 hy0]
        simp
        omega
      · refine List.pairwise_append.mpr ⟨d1, d2, fun y hy x hx => ?_⟩
        obtain ⟨x0, hx0, rfl⟩ := List.mem_map.mp hx
        obtain ⟨y0, hy0, rfl⟩ := List.mem_map.mp hy
        rw [List.mem_reverse] at hy0
        have b1 := lohi (lY x0 hx0)
        have b2 := lohi (lM y0 hy0)
        rw [mv_h, mv_h, gY x0 hx0, gM y0 hy0]
        simp
        omega
    · intro x
      rw [mN]
      have : (x ∈ (if over then sM.reverse.map (mv br bh over m sz (loC cs) (hiC cs)) ++ sY.map (mv br bh over m sz (loC cs) (hiC cs)) else sY.map (mv br bh over m sz (loC cs) (hiC cs)) ++ sM.reverse.map (mv br bh over m sz (loC cs) (hiC cs)))) ↔ (∃ y ∈ sM, mv br bh over m sz (loC cs) (hiC cs) y = x) ∨ ∃ y ∈ sY, mv br bh over m sz (loC cs) (hiC cs) y = x := by
        cases over
        · simp only [Bool.false_eq_true, if_false, List.mem_append, List.mem_map, List.mem_reverse]
          exact Or.comm
        · simp only [if_true, List.mem_append, List.mem_map, List.mem_reverse]
      rw [this]
      constructor
      · rintro ⟨z, hz, e, h1, h2 | h2⟩
        · exact .inl ⟨z, (mM z).mpr ⟨hz, h1, h2⟩, e⟩
        · exact .inr ⟨z, (mY z).mpr ⟨hz, h1, h2⟩, e⟩
      · rintro (⟨z, hz, e⟩ | ⟨z, hz, e⟩)
        · obtain ⟨k1, k2, k3⟩ := (mM z).mp hz
          exact ⟨z, k1, e, k2, .inl k3⟩
        · obtain ⟨k1, k2, k3⟩ := (mY z).mp hz
          exact ⟨z, k1, e, k2, .inr k3⟩
  have eM : ((sortC (hereB br o (srcM bh m sz p) cs)).reverse.map (mv br bh over m sz (loC cs) (hiC cs))).map Ce.lf = turnP br ((sortC (hereB br o (srcM bh m sz p) cs)).map Ce.lf) := by
    unfold turnP
    rw [List.map_map, ← List.map_reverse, List.map_map]
    apply List.map_congr_left
    intro e he
    exact mv_goes br bh over m sz _ _ e (gM e (List.mem_reverse.mp he))
  have eY : ((sortC (hereB br o (srcY bh m p) cs)).map (mv br bh over m sz (loC cs) (hiC cs))).map Ce.lf = (sortC (hereB br o (srcY bh m p) cs)).map Ce.lf := by
    rw [List.map_map]
    apply List.map_congr_left
    intro e he
    exact mv_stays br bh over m sz _ _ e (gY e he)
  unfold atB
  rw [key]
  cases over
  · simp only [Bool.false_eq_true, if_false, List.map_append, eM, eY, onP]
  · simp only [if_true, List.map_append, eM, eY, onP]

end Lw

set_option Elab.async false
set_option linter.all false
set_option autoImplicit false
set_option maxRecDepth 100000
set_option maxHeartbeats 1000001
namespace Lw
open PySem Pu
/-! ### drawn numbers, folds, schemes -/
theorem forE_stI {α σ : Type} {E : Evs} {t : CT} {body : List CS} (f : α → D) (st : σ → Ev) (g : σ → α → σ) (I : Nat → σ → Prop) : ∀ (xs : List α) (k : Nat) (s : σ), I k s → (∀ x ∈ xs, ∀ k s, I k s → (∃ e1, t.setO (st s) (.per (f x)) = some e1 ∧ E.b e1 body = some (.nx (st (g s x)))) ∧ I (k + 1) (g s x)) →
    forE E t body (xs.map f) (st s) = some (.nx (st (xs.foldl g s))) ∧ I (k + xs.length) (xs.foldl g s)
  | [], k, s, h, _ => ⟨rfl, h⟩
  | x :: xs, k, s, h, hb => by
    obtain ⟨⟨e1, h1, h2⟩, h3⟩ := hb x List.mem_cons_self k s h
    obtain ⟨i1, i2⟩ := forE_stI f st g I xs (k + 1) (g s x) h3 fun y hy => hb y (List.mem_cons_of_mem _ hy)
    refine ⟨?_, ?_⟩
    · simp only [List.map_cons, forE, h1, h2, i1, List.foldl_cons]
    · rw [List.foldl_cons, List.length_cons, show k + (xs.length + 1) = k + 1 + xs.length by omega]
      exact i2
def mx (a k : Int) : Int := (a % 1000000007 + 7919 * k + 13) * (a % 1000000007 + 7919 * k + 13) % 1000000007 * 48271 % 2147483647
theorem drawn_ok (n : Nat) (a k : Int) (hk : -1000 < k ∧ k < 1000) : (evs T (n + 10)).f i_l_drawn [.int a, .int k] = .ok (.per (.int (mx a k))) := by
  rw [call_fn fn_l_drawn]
  have h1 : 0 ≤ a % 1000000007 := Int.emod_nonneg _ (by decide)
  have h2 : a % 1000000007 < 1000000007 := Int.emod_lt_of_pos _ (by decide)
  have h3 : -18446744073709551616 < a % 1000000007 + 7919 * k + 13 ∧ a % 1000000007 + 7919 * k + 13 < 18446744073709551616 := ⟨by omega, by omega⟩
  simp [callFI, runB, stepS, evP, evT, evPs, owL, own1, vwL, entE, entA, evs_o, evs_t, evs_b, stepO, stepT, step1, R.calm, Evs.dv, Evs.ds, Evs.os, Evs.ts, Evs.oi, Evs.it, Evs.pl, Ow.fr, frs, dTruth, dBin, dCmp, iCmp, dIdx, dSli, dAtt, dBlt, dBlt1, dBlt2, okN, Ow.nl, D.nl, nls, onls, outF, outM, self0, mkTup, pers, fzo, CT.setO, CTs.setO, putP, Tab.kd, tyN, evs_k, D.asS, D.asL, D.f0, D.in0, D.eq0, D.flat, flats, fdep, eqv_int, eqv_str, eqv_bl, eqv_lst, eqv_tup, eqvs_cons, eqvs_nil, eqvs_nc, eqvs_cn, isas, xis, sne, sok, f_l_drawn, b_l_drawn, h3, mx]
/-- a fold: of the rows?, from behind?, over?, of how many -/
structure Fx where
  br : Bool
  bh : Bool
  ov : Bool
  m : Nat
def Fx.d (f : Fx) : D := .tup [.str (edgeS f.br f.bh), .int f.m, .str (wayS f.ov)]
def Fx.fd (f : Fx) : Fd := ⟨edgeS f.br f.bh, f.m, wayS f.ov⟩
theorem Fx.fd_d (f : Fx) : f.fd.d = f.d := rfl
def manyI (mo side : Int) : Int := if mo / 4 % 3 = 0 then 1 else if mo / 4 % 3 = 1 then side / 2 else 1 + mo / 16 % (side / 2)
theorem many_in (mo side : Int) (h : 2 ≤ side) : 1 ≤ manyI mo side ∧ manyI mo side ≤ side / 2 := by
  unfold manyI
  have h1 := Int.emod_nonneg (mo / 16) (show side / 2 ≠ 0 by omega)
  have h2 := Int.emod_lt_of_pos (mo / 16) (show 0 < side / 2 by omega)
  split
  · constructor <;> omega
  · split <;> constructor <;> omega
def envW (r0 c0 num r c : Int) (fs : List D) (x5 x6 x7 x8 x9 x10 x11 : Option Ow) : Ev := [some (.per (.int r0)), some (.per (.int c0)), some (.per (.int num)), some (.lst [.per (.int r), .per (.int c)]), some (.lst (fs.map .per)), x5, x6, x7, x8, x9, x10, x11]
def edgesL (r c : Int) : List D := (if 1 < r then [.str "top", .str "bottom"] else []) ++ (if 1 < c then [.str "left", .str "right"] else [])
abbrev bW1 : CS := .asg (.nm 6) [3] true (.bin .Add (.bin .Mult (.lst [(.cst (.str "top")), (.cst (.str "bottom"))]) (.blt .int [(.cmp .Gt (.idx (.var 3) (.cst (.int 0))) (.cst (.int 1)))])) (.bin .Mult (.lst [(.cst (.str "left")), (.cst (.str "right"))]) (.blt .int [(.cmp .Gt (.idx (.var 3) (.cst (.int 1))) (.cst (.int 1)))])))
abbrev bW2 : List CS := [.asg (.nm 7) [] true (.call i_l_drawn [(.var 2), (.bin .Add (.cst (.int 40)) (.var 5))]),
    .asg (.nm 8) [] true (.idx (.var 6) (.bin .Mod (.var 7) (.blt .len [(.var 6)]))),
    .asg (.nm 9) [] true (.blt .int [(.cmp .In (.var 8) (.tup [(.cst (.str "left")), (.cst (.str "right"))]))]),
    .asg (.nm 10) [3] true (.bin .FloorDiv (.idx (.var 3) (.var 9)) (.cst (.int 2))),
    .asg (.nm 11) [] true (.idx (.lst [(.cst (.int 1)), (.var 10), (.bin .Add (.cst (.int 1)) (.bin .Mod (.bin .FloorDiv (.var 7) (.cst (.int 16))) (.var 10)))]) (.bin .Mod (.bin .FloorDiv (.var 7) (.cst (.int 4))) (.cst (.int 3)))),
    .setI (.var 3) (.var 9) [3] true (.bin .Sub (.idx (.var 3) (.var 9)) (.var 11)),
    .app (.var 4) [] true (.tup [(.var 8), (.var 11), (.idx (.lst [(.cst (.str "over")), (.cst (.str "under"))]) (.bin .Mod (.bin .FloorDiv (.var 7) (.cst (.int 1024))) (.cst (.int 2))))])]
abbrev bW : List CS := [bW1, .ife [] (.cmp .NotEq (.var 6) (.lst [])) bW2 [], .wipe [5, 6, 7, 8, 9, 10, 11]]
section
variable (r0 c0 num r c : Int) (fs : List D) (x5 x6 x7 x8 x9 x10 x11 : Option Ow)
theorem w1 (n : Nat) : stepS T (evs T (n + 20)) (envW r0 c0 num r c fs x5 x6 x7 x8 x9 x10 x11) bW1 = some (.nx (envW r0 c0 num r c fs x5 (some (.per (.lst (edgesL r c)))) x7 x8 x9 x10 x11)) := by
  have hz : (2 : Nat) ≤ sizeLine ∧ 4 ≤ sizeLine := by rw [sizeLine_eq]; decide
  by_cases h1 : 1 < r <;> by_cases h2 : 1 < c <;> simp [callFI, runB, stepS, evP, evT, evPs, owL, own1, vwL, entE, entA, evs_o, evs_t, evs_b, stepO, stepT, step1, R.calm, Evs.dv, Evs.ds, Evs.os, Evs.ts, Evs.oi, Evs.it, Evs.pl, Ow.fr, frs, dTruth, dBin, dCmp, iCmp, dIdx, dSli, dAtt, dBlt, dBlt1, dBlt2, okN, Ow.nl, D.nl, nls, onls, outF, outM, self0, mkTup, pers, fzo, CT.setO, CTs.setO, putP, Tab.kd, tyN, evs_k, D.asS, D.asL, D.f0, D.in0, D.eq0, D.flat, flats, fdep, eqvI, eqv_str, eqv_bl, eqv_lst, eqv_tup, eqvs_cons, eqvs_nil, eqvs_nc, eqvs_cn, isas, xis, sne, sok, dNeg, dRev, look, keyT, D.isN, Tab.mkX, frs_per, Ow.strip, Ow.isAt, Ow.put, Ow.over, frs_app, Ow.kids, Ow.setKids, -List.map_map, -List.map_take, -List.map_drop, envW, edgesL, h1, h2, hz, L2.atI, L2.ixN]
theorem w7 (n : Nat) (t : Int) (ht : 0 ≤ t ∧ t < 100) : stepS T (evs T (n + 20)) (envW r0 c0 num r c fs (some (.per (.int t))) x6 x7 x8 x9 x10 x11) (.asg (.nm 7) [] true (.call i_l_drawn [(.var 2), (.bin .Add (.cst (.int 40)) (.var 5))])) = some (.nx (envW r0 c0 num r c fs (some (.per (.int t))) x6 (some (.per (.int (mx num (40 + t))))) x8 x9 x10 x11)) := by
  have h := fun j => drawn_ok j num (40 + t) ⟨by omega, by omega⟩
  simp [callFI, runB, stepS, evP, evT, evPs, owL, own1, vwL, entE, entA, evs_o, evs_t, evs_b, stepO, stepT, step1, R.calm, Evs.dv, Evs.ds, Evs.os, Evs.ts, Evs.oi, Evs.it, Evs.pl, Ow.fr, frs, dTruth, dBin, dCmp, iCmp, dIdx, dSli, dAtt, dBlt, dBlt1, dBlt2, okN, Ow.nl, D.nl, nls, onls, outF, outM, self0, mkTup, pers, fzo, CT.setO, CTs.setO, putP, Tab.kd, tyN, evs_k, D.asS, D.asL, D.f0, D.in0, D.eq0, D.flat, flats, fdep, eqvI, eqv_str, eqv_bl, eqv_lst, eqv_tup, eqvs_cons, eqvs_nil, eqvs_nc, eqvs_cn, isas, xis, sne, sok, dNeg, dRev, look, keyT, D.isN, Tab.mkX, frs_per, Ow.strip, Ow.isAt, Ow.put, Ow.over, frs_app, Ow.kids, Ow.setKids, -List.map_map, -List.map_take, -List.map_drop, envW, h]
theorem w8 (n : Nat) (es : List D) (mo : Int) (e : Str) (h0 : 0 < es.length) (hat : L2.atI es (mo % (es.length : Int)) = some (.str e)) : stepS T (evs T (n + 20)) (envW r0 c0 num r c fs x5 (some (.per (.lst es))) (some (.per (.int mo))) x8 x9 x10 x11) (.asg (.nm 8) [] true (.idx (.var 6) (.bin .Mod (.var 7) (.blt .len [(.var 6)])))) = some (.nx (envW r0 c0 num r c fs x5 (some (.per (.lst es))) (some (.per (.int mo))) (some (.per (.str e))) x9 x10 x11)) := by
  simp [callFI, runB, stepS, evP, evT, evPs, owL, own1, vwL, entE, entA, evs_o, evs_t, evs_b, stepO, stepT, step1, R.calm, Evs.dv, Evs.ds, Evs.os, Evs.ts, Evs.oi, Evs.it, Evs.pl, Ow.fr, frs, dTruth, dBin, dCmp, iCmp, dIdx, dSli, dAtt, dBlt, dBlt1, dBlt2, okN, Ow.nl, D.nl, nls, onls, outF, outM, self0, mkTup, pers, fzo, CT.setO, CTs.setO, putP, Tab.kd, tyN, evs_k, D.asS, D.asL, D.f0, D.in0, D.eq0, D.flat, flats, fdep, eqvI, eqv_str, eqv_bl, eqv_lst, eqv_tup, eqvs_cons, eqvs_nil, eqvs_nc, eqvs_cn, isas, xis, sne, sok, dNeg, dRev, look, keyT, D.isN, Tab.mkX, frs_per, Ow.strip, Ow.isAt, Ow.put, Ow.over, frs_app, Ow.kids, Ow.setKids, -List.map_map, -List.map_take, -List.map_drop, envW, hat, h0]
theorem w9 (n : Nat) (br bh : Bool) : stepS T (evs T (n + 20)) (envW r0 c0 num r c fs x5 x6 x7 (some (.per (.str (edgeS br bh)))) x9 x10 x11) (.asg (.nm 9) [] true (.blt .int [(.cmp .In (.var 8) (.tup [(.cst (.str "left")), (.cst (.str "right"))]))])) = some (.nx (envW r0 c0 num r c fs x5 x6 x7 (some (.per (.str (edgeS br bh)))) (some (.per (.int (if br then 0 else 1)))) x10 x11)) := by
  cases br <;> cases bh <;> simp [callFI, runB, stepS, evP, evT, evPs, owL, own1, vwL, entE, entA, evs_o, evs_t, evs_b, stepO, stepT, step1, R.calm, Evs.dv, Evs.ds, Evs.os, Evs.ts, Evs.oi, Evs.it, Evs.pl, Ow.fr, frs, dTruth, dBin, dCmp, iCmp, dIdx, dSli, dAtt, dBlt, dBlt1, dBlt2, okN, Ow.nl, D.nl, nls, onls, outF, outM, self0, mkTup, pers, fzo, CT.setO, CTs.setO, putP, Tab.kd, tyN, evs_k, D.asS, D.asL, D.f0, D.in0, D.eq0, D.flat, flats, fdep, eqvI, eqv_str, eqv_bl, eqv_lst, eqv_tup, eqvs_cons, eqvs_nil, eqvs_nc, eqvs_cn, isas, xis, sne, sok, dNeg, dRev, look, keyT, D.isN, Tab.mkX, frs_per, Ow.strip, Ow.isAt, Ow.put, Ow.over, frs_app, Ow.kids, Ow.setKids, -List.map_map, -List.map_take, -List.map_drop, envW, edgeS]
theorem w10 (n : Nat) (br : Bool) : stepS T (evs T (n + 20)) (envW r0 c0 num r c fs x5 x6 x7 x8 (some (.per (.int (if br then 0 else 1)))) x10 x11) (.asg (.nm 10) [3] true (.bin .FloorDiv (.idx (.var 3) (.var 9)) (.cst (.int 2)))) = some (.nx (envW r0 c0 num r c fs x5 x6 x7 x8 (some (.per (.int (if br then 0 else 1)))) (some (.per (.int ((if br then r else c) / 2)))) x11)) := by
  cases br <;> simp [callFI, runB, stepS, evP, evT, evPs, owL, own1, vwL, entE, entA, evs_o, evs_t, evs_b, stepO, stepT, step1, R.calm, Evs.dv, Evs.ds, Evs.os, Evs.ts, Evs.oi, Evs.it, Evs.pl, Ow.fr, frs, dTruth, dBin, dCmp, iCmp, dIdx, dSli, dAtt, dBlt, dBlt1, dBlt2, okN, Ow.nl, D.nl, nls, onls, outF, outM, self0, mkTup, pers, fzo, CT.setO, CTs.setO, putP, Tab.kd, tyN, evs_k, D.asS, D.asL, D.f0, D.in0, D.eq0, D.flat, flats, fdep, eqvI, eqv_str, eqv_bl, eqv_lst, eqv_tup, eqvs_cons, eqvs_nil, eqvs_nc, eqvs_cn, isas, xis, sne, sok, dNeg, dRev, look, keyT, D.isN, Tab.mkX, frs_per, Ow.strip, Ow.isAt, Ow.put, Ow.over, frs_app, Ow.kids, Ow.setKids, -List.map_map, -List.map_take, -List.map_drop, envW, L2.atI, L2.ixN]
theorem w11 (n : Nat) (mo side : Int) (hs : 2 ≤ side) : stepS T (evs T (n + 20)) (envW r0 c0 num r c fs x5 x6 (some (.per (.int mo))) x8 x9 (some (.per (.int (side / 2)))) x11) (.asg (.nm 11) [] true (.idx (.lst [(.cst (.int 1)), (.var 10), (.bin .Add (.cst (.int 1)) (.bin .Mod (.bin .FloorDiv (.var 7) (.cst (.int 16))) (.var 10)))]) (.bin .Mod (.bin .FloorDiv (.var 7) (.cst (.int 4))) (.cst (.int 3))))) = some (.nx (envW r0 c0 num r c fs x5 x6 (some (.per (.int mo))) x8 x9 (some (.per (.int (side / 2)))) (some (.per (.int (manyI mo side)))))) := by
  have h : 0 < side / 2 := by omega
  unfold manyI
  generalize side / 2 = hf at *
  rcases (show mo / 4 % 3 = 0 ∨ mo / 4 % 3 = 1 ∨ mo / 4 % 3 = 2 by omega) with q | q | q <;> simp [callFI, runB, stepS, evP, evT, evPs, owL, own1, vwL, entE, entA, evs_o, evs_t, evs_b, stepO, stepT, step1, R.calm, Evs.dv, Evs.ds, Evs.os, Evs.ts, Evs.oi, Evs.it, Evs.pl, Ow.fr, frs, dTruth, dBin, dCmp, iCmp, dIdx, dSli, dAtt, dBlt, dBlt1, dBlt2, okN, Ow.nl, D.nl, nls, onls, outF, outM, self0, mkTup, pers, fzo, CT.setO, CTs.setO, putP, Tab.kd, tyN, evs_k, D.asS, D.asL, D.f0, D.in0, D.eq0, D.flat, flats, fdep, eqvI, eqv_str, eqv_bl, eqv_lst, eqv_tup, eqvs_cons, eqvs_nil, eqvs_nc, eqvs_cn, isas, xis, sne, sok, dNeg, dRev, look, keyT, D.isN, Tab.mkX, frs_per, Ow.strip, Ow.isAt, Ow.put, Ow.over, frs_app, Ow.kids, Ow.setKids, -List.map_map, -List.map_take, -List.map_drop, envW, L2.atI, L2.ixN, q, h]
theorem w12 (n : Nat) (br : Bool) (m : Int) : stepS T (evs T (n + 20)) (envW r0 c0 num r c fs x5 x6 x7 x8 (some (.per (.int (if br then 0 else 1)))) x10 (some (.per (.int m)))) (.setI (.var 3) (.var 9) [3] true (.bin .Sub (.idx (.var 3) (.var 9)) (.var 11))) = some (.nx (envW r0 c0 num (if br then r - m else r) (if br then c else c - m) fs x5 x6 x7 x8 (some (.per (.int (if br then 0 else 1)))) x10 (some (.per (.int m))))) := by
  cases br <;> simp [callFI, runB, stepS, evP, evT, evPs, owL, own1, vwL, entE, entA, evs_o, evs_t, evs_b, stepO, stepT, step1, R.calm, Evs.dv, Evs.ds, Evs.os, Evs.ts, Evs.oi, Evs.it, Evs.pl, Ow.fr, frs, dTruth, dBin, dCmp, iCmp, dIdx, dSli, dAtt, dBlt, dBlt1, dBlt2, okN, Ow.nl, D.nl, nls, onls, outF, outM, self0, mkTup, pers, fzo, CT.setO, CTs.setO, putP, Tab.kd, tyN, evs_k, D.asS, D.asL, D.f0, D.in0, D.eq0, D.flat, flats, fdep, eqvI, eqv_str, eqv_bl, eqv_lst, eqv_tup, eqvs_cons, eqvs_nil, eqvs_nc, eqvs_cn, isas, xis, sne, sok, dNeg, dRev, look, keyT, D.isN, Tab.mkX, frs_per, Ow.strip, Ow.isAt, Ow.put, Ow.over, frs_app, Ow.kids, Ow.setKids, -List.map_map, -List.map_take, -List.map_drop, envW, L2.atI, L2.ixN]
theorem w13 (n : Nat) (mo m : Int) (e : Str) (hl : fs.length < 1000) : stepS T (evs T (n + 20)) (envW r0 c0 num r c fs x5 x6 (some (.per (.int mo))) (some (.per (.str e))) x9 x10 (some (.per (.int m)))) (.app (.var 4) [] true (.tup [(.var 8), (.var 11), (.idx (.lst [(.cst (.str "over")), (.cst (.str "under"))]) (.bin .Mod (.bin .FloorDiv (.var 7) (.cst (.int 1024))) (.cst (.int 2))))])) = some (.nx (envW r0 c0 num r c (fs ++ [.tup [.str e, .int m, .str (wayS (decide (mo / 1024 % 2 = 0)))]]) x5 x6 (some (.per (.int mo))) (some (.per (.str e))) x9 x10 (some (.per (.int m))))) := by
  have hz : fs.length < sizeLine := by rw [sizeLine_eq]; omega
  rcases (show mo / 1024 % 2 = 0 ∨ mo / 1024 % 2 = 1 by omega) with h | h <;> simp [callFI, runB, stepS, evP, evT, evPs, owL, own1, vwL, entE, entA, evs_o, evs_t, evs_b, stepO, stepT, step1, R.calm, Evs.dv, Evs.ds, Evs.os, Evs.ts, Evs.oi, Evs.it, Evs.pl, Ow.fr, frs, dTruth, dBin, dCmp, iCmp, dIdx, dSli, dAtt, dBlt, dBlt1, dBlt2, okN, Ow.nl, D.nl, nls, onls, outF, outM, self0, mkTup, pers, fzo, CT.setO, CTs.setO, putP, Tab.kd, tyN, evs_k, D.asS, D.asL, D.f0, D.in0, D.eq0, D.flat, flats, fdep, eqvI, eqv_str, eqv_bl, eqv_lst, eqv_tup, eqvs_cons, eqvs_nil, eqvs_nc, eqvs_cn, isas, xis, sne, sok, dNeg, dRev, look, keyT, D.isN, Tab.mkX, frs_per, Ow.strip, Ow.isAt, Ow.put, Ow.over, frs_app, Ow.kids, Ow.setKids, -List.map_map, -List.map_take, -List.map_drop, envW, h, wayS, L2.atI, L2.ixN, hz]
end
/-- one turn: the places left, the folds -/
def turnX (num : Int) (s : Nat × Nat × List Fx) (t : Nat) : Nat × Nat × List Fx :=
  if 1 < s.1 ∨ 1 < s.2.1 then
    let mo := mx num (40 + t)
    let br := if 1 < s.1 then (if 1 < s.2.1 then decide (mo % 4 < 2) else true) else false
    let m := (manyI mo (if br then s.1 else s.2.1)).toNat
    (if br then s.1 - m else s.1, if br then s.2.1 else s.2.1 - m, s.2.2 ++ [⟨br, decide (mo % 2 = 1), decide (mo / 1024 % 2 = 0), m⟩])
  else s
theorem edge_at (r c mo : Int) (h : 1 < r ∨ 1 < c) : L2.atI (edgesL r c) (mo % ((edgesL r c).length : Int)) = some (.str (edgeS (if 1 < r then (if 1 < c then decide (mo % 4 < 2) else true) else false) (decide (mo % 2 = 1)))) ∧ 0 < (edgesL r c).length := by
  unfold edgesL
  by_cases h1 : 1 < r <;> by_cases h2 : 1 < c
  · simp only [h1, h2, if_true]
    refine ⟨?_, by decide⟩
    show L2.atI _ (mo % 4) = _
    rcases (show mo % 4 = 0 ∧ mo % 2 = 0 ∨ mo % 4 = 1 ∧ mo % 2 = 1 ∨ mo % 4 = 2 ∧ mo % 2 = 0 ∨ mo % 4 = 3 ∧ mo % 2 = 1 by omega) with q | q | q | q <;> rw [q.1, q.2] <;> simp [L2.atI, L2.ixN, edgeS]
  · simp only [h1, h2, if_true, if_false]
    refine ⟨?_, by decide⟩
    show L2.atI _ (mo % 2) = _
    rcases (show mo % 2 = 0 ∨ mo % 2 = 1 by omega) with q | q <;> rw [q] <;> simp [L2.atI, L2.ixN, edgeS]
  · simp only [h1, h2, if_true, if_false]
    refine ⟨?_, by decide⟩
    show L2.atI _ (mo % 2) = _
    rcases (show mo % 2 = 0 ∨ mo % 2 = 1 by omega) with q | q <;> rw [q] <;> simp [L2.atI, L2.ixN, edgeS]
  · omega
/-- the places left behind folds that can be -/
def okX : Nat → Nat → List Fx → Option (Nat × Nat)
  | r, c, [] => some (r, c)
  | r, c, f :: fs => if 1 ≤ f.m ∧ 2 * f.m ≤ (if f.br then r else c) then okX (if f.br then r - f.m else r) (if f.br then c else c - f.m) fs else none
theorem okX_snoc (f : Fx) : ∀ (fs : List Fx) (r c r1 c1 : Nat), okX r c fs = some (r1, c1) → (1 ≤ f.m ∧ 2 * f.m ≤ (if f.br then r1 else c1)) → okX r c (fs ++ [f]) = some (if f.br then r1 - f.m else r1, if f.br then c1 else c1 - f.m)
  | [], r, c, r1, c1, h, hf => by
    simp only [okX, Option.some.injEq, Prod.mk.injEq] at h
    obtain ⟨rfl, rfl⟩ := h
    simp only [List.nil_append, okX, if_pos hf]
  | g :: fs, r, c, r1, c1, h, hf => by
    rw [okX] at h
    by_cases hg : 1 ≤ g.m ∧ 2 * g.m ≤ (if g.br then r else c)
    · rw [if_pos hg] at h
      rw [List.cons_append, okX, if_pos hg]
      exact okX_snoc f fs _ _ _ _ h hf
    · rw [if_neg hg] at h
      cases h
def stX (r0 c0 : Nat) (num : Int) (s : Nat × Nat × List Fx) : Ev := envW r0 c0 num s.1 s.2.1 (s.2.2.map Fx.d) none none none none none none none
def invX (r0 c0 : Nat) (k : Nat) (s : Nat × Nat × List Fx) : Prop := okX r0 c0 s.2.2 = some (s.1, s.2.1) ∧ 1 ≤ s.1 ∧ 1 ≤ s.2.1 ∧ s.1 + s.2.1 - 2 ≤ r0 + c0 - 2 - k ∧ s.2.2.length + s.1 + s.2.1 ≤ r0 + c0
theorem turnX_inv (r0 c0 : Nat) (num : Int) (k : Nat) (s : Nat × Nat × List Fx) (t : Nat) (h : invX r0 c0 k s) : invX r0 c0 (k + 1) (turnX num s t) := by
  obtain ⟨r, c, fs⟩ := s
  obtain ⟨h1, h2, h3, h4, h5⟩ := h
  simp only at h1 h2 h3 h4 h5
  unfold turnX
  by_cases hq : 1 < r ∨ 1 < c
  · simp only [if_pos hq]
    generalize mx num (40 + t) = mo
    generalize hbr : (if 1 < r then (if 1 < c then decide (mo % 4 < 2) else true) else false) = br
    have hs : 2 ≤ (if br then r else c) := by
      by_cases q1 : 1 < r <;> by_cases q2 : 1 < c <;> simp only [q1, q2, if_true, if_false] at hbr
      · split <;> omega
      · subst hbr; simp; omega
      · subst hbr; simp; omega
      · omega
    have hm := many_in mo ((if br then r else c : Nat) : Int) (by exact_mod_cast hs)
    have e0 : (if br = true then (r : Int) else (c : Int)) = ((if br then r else c : Nat) : Int) := by cases br <;> rfl
    rw [e0]
    generalize manyI mo ((if br then r else c : Nat) : Int) = mi at hm
    have m1 : 1 ≤ mi.toNat ∧ 2 * mi.toNat ≤ (if br then r else c) := by omega
    refine ⟨okX_snoc _ fs r0 c0 r c h1 m1, ?_, ?_, ?_, ?_⟩
    · cases br <;> simp at m1 hs ⊢ <;> omega
    · cases br <;> simp at m1 hs ⊢ <;> omega
    · cases br <;> simp at m1 hs ⊢ <;> omega
    · cases br <;> simp at m1 hs ⊢ <;> omega
  · simp only [if_neg hq]
    exact ⟨h1, h2, h3, by simp only; omega, by simp only; omega⟩
theorem bodyW (r0 c0 : Nat) (num : Int) (hk : r0 + c0 ≤ 100) (k : Nat) (s : Nat × Nat × List Fx) (t : Nat) (ht : t < 14) (h : invX r0 c0 k s) (n : Nat) : (evs T (n + 22)).b (envW r0 c0 num s.1 s.2.1 (s.2.2.map Fx.d) (some (.per (.int t))) none none none none none none) bW = some (.nx (stX r0 c0 num (turnX num s t))) := by
  obtain ⟨r, c, fs⟩ := s
  obtain ⟨h1, h2, h3, h4, h5⟩ := h
  simp only at h1 h2 h3 h4 h5
  rw [evs_b, runB_nx (w1 r0 c0 num r c _ _ none none none none none none (n + 1))]
  unfold turnX
  by_cases hq : 1 < r ∨ 1 < c
  · simp only [if_pos hq]
    generalize hmo : mx num (40 + t) = mo
    obtain ⟨ha, hl⟩ := edge_at r c mo (by omega)
    generalize hbr : (if 1 < r then (if 1 < c then decide (mo % 4 < 2) else true) else false) = br
    have hbi : (if (1 : Int) < r then (if (1 : Int) < c then decide (mo % 4 < 2) else true) else false) = br := by
      have i1 : ((1 : Int) < r) = (1 < r) := propext (by omega)
      have i2 : ((1 : Int) < c) = (1 < c) := propext (by omega)
      rw [← hbr]
      simp only [i1, i2]
    rw [hbi] at ha
    have hs : 2 ≤ (if br then r else c) := by
      by_cases q1 : 1 < r <;> by_cases q2 : 1 < c <;> simp only [q1, q2, if_true, if_false] at hbr
      · split <;> omega
      · subst hbr; simp; omega
      · subst hbr; simp; omega
      · omega
    have hsI : 2 ≤ (if br = true then (r : Int) else (c : Int)) := by cases br <;> simp at hs ⊢ <;> omega
    have hm := many_in mo _ hsI
    have ht2 : stepS T (evs T (n + 21)) (envW r0 c0 num r c (fs.map Fx.d) (some (.per (.int t))) (some (.per (.lst (edgesL r c)))) none none none none none) (.ife [] (.cmp .NotEq (.var 6) (.lst [])) bW2 []) = (evs T (n + 21)).b (envW r0 c0 num r c (fs.map Fx.d) (some (.per (.int t))) (some (.per (.lst (edgesL r c)))) none none none none none) bW2 := by
      have hne : edgesL r c = (edgesL r c).headD .non :: (edgesL r c).tail := by
        cases hh : edgesL (r : Int) c with
        | nil => rw [hh] at hl; simp at hl
        | cons a b => rfl
      have e : evT (evs T (n + 21)) [] (envW r0 c0 num r c (fs.map Fx.d) (some (.per (.int t))) (some (.per (.lst (edgesL r c)))) none none none none none) (.cmp .NotEq (.var 6) (.lst [])) = .ok true := by
        by_cases q1 : (1 : Int) < r <;> by_cases q2 : (1 : Int) < c
        · simp [callFI, runB, stepS, evP, evT, evPs, owL, own1, vwL, entE, entA, evs_o, evs_t, evs_b, stepO, stepT, step1, R.calm, Evs.dv, Evs.ds, Evs.os, Evs.ts, Evs.oi, Evs.it, Evs.pl, Ow.fr, frs, dTruth, dBin, dCmp, iCmp, dIdx, dSli, dAtt, dBlt, dBlt1, dBlt2, okN, Ow.nl, D.nl, nls, onls, outF, outM, self0, mkTup, pers, fzo, CT.setO, CTs.setO, putP, Tab.kd, tyN, evs_k, D.asS, D.asL, D.f0, D.in0, D.eq0, D.flat, flats, fdep, eqvI, eqv_str, eqv_bl, eqv_lst, eqv_tup, eqvs_cons, eqvs_nil, eqvs_nc, eqvs_cn, isas, xis, sne, sok, dNeg, dRev, look, keyT, D.isN, Tab.mkX, frs_per, Ow.strip, Ow.isAt, Ow.put, Ow.over, frs_app, Ow.kids, Ow.setKids, -List.map_map, -List.map_take, -List.map_drop, envW, edgesL, q1, q2]
        · simp [callFI, runB, stepS, evP, evT, evPs, owL, own1, vwL, entE, entA, evs_o, evs_t, evs_b, stepO, stepT, step1, R.calm, Evs.dv, Evs.ds, Evs.os, Evs.ts, Evs.oi, Evs.it, Evs.pl, Ow.fr, frs, dTruth, dBin, dCmp, iCmp, dIdx, dSli, dAtt, dBlt, dBlt1, dBlt2, okN, Ow.nl, D.nl, nls, onls, outF, outM, self0, mkTup, pers, fzo, CT.setO, CTs.setO, putP, Tab.kd, tyN, evs_k, D.asS, D.asL, D.f0, D.in0, D.eq0, D.flat, flats, fdep, eqvI, eqv_str, eqv_bl, eqv_lst, eqv_tup, eqvs_cons, eqvs_nil, eqvs_nc, eqvs_cn, isas, xis, sne, sok, dNeg, dRev, look, keyT, D.isN, Tab.mkX, frs_per, Ow.strip, Ow.isAt, Ow.put, Ow.over, frs_app, Ow.kids, Ow.setKids, -List.map_map, -List.map_take, -List.map_drop, envW, edgesL, q1, q2]
        · simp [callFI, runB, stepS, evP, evT, evPs, owL, own1, vwL, entE, entA, evs_o, evs_t, evs_b, stepO, stepT, step1, R.calm, Evs.dv, Evs.ds, Evs.os, Evs.ts, Evs.oi, Evs.it, Evs.pl, Ow.fr, frs, dTruth, dBin, dCmp, iCmp, dIdx, dSli, dAtt, dBlt, dBlt1, dBlt2, okN, Ow.nl, D.nl, nls, onls, outF, outM, self0, mkTup, pers, fzo, CT.setO, CTs.setO, putP, Tab.kd, tyN, evs_k, D.asS, D.asL, D.f0, D.in0, D.eq0, D.flat, flats, fdep, eqvI, eqv_str, eqv_bl, eqv_lst, eqv_tup, eqvs_cons, eqvs_nil, eqvs_nc, eqvs_cn, isas, xis, sne, sok, dNeg, dRev, look, keyT, D.isN, Tab.mkX, frs_per, Ow.strip, Ow.isAt, Ow.put, Ow.over, frs_app, Ow.kids, Ow.setKids, -List.map_map, -List.map_take, -List.map_drop, envW, edgesL, q1, q2]
        · omega
      simp only [stepS, e]
    have hw7 := w7 r0 c0 num r c (fs.map Fx.d) (some (.per (.lst (edgesL r c)))) none none none none none n t ⟨by omega, by omega⟩
    rw [hmo] at hw7
    have hrun : (evs T (n + 21)).b (envW r0 c0 num r c (fs.map Fx.d) (some (.per (.int t))) (some (.per (.lst (edgesL r c)))) none none none none none) bW2 = some (.nx (envW r0 c0 num (if br then (r : Int) - manyI mo (if br = true then (r : Int) else (c : Int)) else r) (if br then (c : Int) else (c : Int) - manyI mo (if br = true then (r : Int) else (c : Int))) (fs.map Fx.d ++ [.tup [.str (edgeS br (decide (mo % 2 = 1))), .int (manyI mo (if br = true then (r : Int) else (c : Int))), .str (wayS (decide (mo / 1024 % 2 = 0)))]]) (some (.per (.int t))) (some (.per (.lst (edgesL r c)))) (some (.per (.int mo))) (some (.per (.str (edgeS br (decide (mo % 2 = 1)))))) (some (.per (.int (if br then 0 else 1)))) (some (.per (.int ((if br then (r : Int) else c) / 2)))) (some (.per (.int (manyI mo (if br = true then (r : Int) else (c : Int)))))))) := by
      rw [evs_b, runB_nx hw7, runB_nx (w8 r0 c0 num r c _ _ none none none none n _ mo _ hl ha), runB_nx (w9 r0 c0 num r c _ _ _ _ none none none n br _), runB_nx (w10 r0 c0 num r c _ _ _ _ _ none none n br), runB_nx (w11 r0 c0 num r c _ _ _ _ _ none n mo _ hsI), runB_nx (w12 r0 c0 num r c _ _ _ _ _ _ n br _), runB_nx (w13 r0 c0 num _ _ _ _ _ _ _ n mo _ _ (by simp; omega))]
      rfl
    rw [hrun] at ht2
    rw [runB_nx ht2]
    have e0 : (((manyI mo (if br = true then (r : Int) else (c : Int))).toNat : Nat) : Int) = manyI mo (if br = true then (r : Int) else (c : Int)) := by omega
    generalize manyI mo (if br = true then (r : Int) else (c : Int)) = mi at *
    have hr' : ((if br then r - mi.toNat else r : Nat) : Int) = if br then (r : Int) - mi else r := by cases br <;> simp at hm ⊢; omega
    have hc' : ((if br then c else c - mi.toNat : Nat) : Int) = if br then (c : Int) else (c : Int) - mi := by cases br <;> simp at hm ⊢; omega
    have e2 : stX r0 c0 num (if br then r - mi.toNat else r, if br then c else c - mi.toNat, fs ++ [⟨br, decide (mo % 2 = 1), decide (mo / 1024 % 2 = 0), mi.toNat⟩]) = envW r0 c0 num (if br then (r : Int) - mi else r) (if br then (c : Int) else (c : Int) - mi) (fs.map Fx.d ++ [.tup [.str (edgeS br (decide (mo % 2 = 1))), .int mi, .str (wayS (decide (mo / 1024 % 2 = 0)))]]) none none none none none none none := by
      simp only [stX, hr', hc', List.map_append, List.map_cons, List.map_nil, Fx.d, e0]
    rw [e2]
    rfl
  · simp only [if_neg hq]
    have he : edgesL r c = [] := by
      have q1 : ¬ (1 : Int) < r := by omega
      have q2 : ¬ (1 : Int) < c := by omega
      simp [edgesL, q1, q2]
    rw [he]
    have e : stepS T (evs T (n + 21)) (envW r0 c0 num r c (fs.map Fx.d) (some (.per (.int t))) (some (.per (.lst []))) none none none none none) (.ife [] (.cmp .NotEq (.var 6) (.lst [])) bW2 []) = some (.nx (envW r0 c0 num r c (fs.map Fx.d) (some (.per (.int t))) (some (.per (.lst []))) none none none none none)) := by
      have e : evT (evs T (n + 21)) [] (envW r0 c0 num r c (fs.map Fx.d) (some (.per (.int t))) (some (.per (.lst []))) none none none none none) (.cmp .NotEq (.var 6) (.lst [])) = .ok false := by
        simp [callFI, runB, stepS, evP, evT, evPs, owL, own1, vwL, entE, entA, evs_o, evs_t, evs_b, stepO, stepT, step1, R.calm, Evs.dv, Evs.ds, Evs.os, Evs.ts, Evs.oi, Evs.it, Evs.pl, Ow.fr, frs, dTruth, dBin, dCmp, iCmp, dIdx, dSli, dAtt, dBlt, dBlt1, dBlt2, okN, Ow.nl, D.nl, nls, onls, outF, outM, self0, mkTup, pers, fzo, CT.setO, CTs.setO, putP, Tab.kd, tyN, evs_k, D.asS, D.asL, D.f0, D.in0, D.eq0, D.flat, flats, fdep, eqvI, eqv_str, eqv_bl, eqv_lst, eqv_tup, eqvs_cons, eqvs_nil, eqvs_nc, eqvs_cn, isas, xis, sne, sok, dNeg, dRev, look, keyT, D.isN, Tab.mkX, frs_per, Ow.strip, Ow.isAt, Ow.put, Ow.over, frs_app, Ow.kids, Ow.setKids, -List.map_map, -List.map_take, -List.map_drop, envW]
      simp only [stepS, e]
      rfl
    rw [runB_nx e]
    rfl
def foldsX (r c : Nat) (num : Int) : List Fx := ((List.range 14).foldl (turnX num) (r, c, [])).2.2
theorem foldsX_ok (r c : Nat) (num : Int) (hr : 1 ≤ r ∧ r ≤ 8) (hc : 1 ≤ c ∧ c ≤ 8) : (∀ n, (evs T (n + 26)).f i_l_folds [.int r, .int c, .int num] = .ok (.lst (((foldsX r c num).map Fx.d).map .per))) ∧ okX r c (foldsX r c num) = some (1, 1) ∧ (foldsX r c num).length ≤ 14 := by
  have key := fun n => forE_stI (E := evs T (n + 25)) (t := .nm 5) (body := bW) (fun (i : Nat) => D.int i) (stX r c num) (turnX num) (invX r c) (List.range 14) 0 (r, c, []) ⟨rfl, hr.1, hc.1, by simp, by simp⟩ fun t ht k s h => ⟨⟨_, rfl, bodyW r c num (by omega) k s t (List.mem_range.mp ht) h (n + 3)⟩, turnX_inv r c num k s t h⟩
  obtain ⟨i1, i2, i3, i4, i5⟩ := (key 0).2
  have q1 : ((List.range 14).foldl (turnX num) (r, c, [])).1 = 1 := by simp only [List.length_range] at i4; omega
  have q2 : ((List.range 14).foldl (turnX num) (r, c, [])).2.1 = 1 := by simp only [List.length_range] at i4; omega
  refine ⟨fun n => ?_, by rw [q1, q2] at i1; exact i1, by unfold foldsX; omega⟩
  rw [call_fn fn_l_folds]
  show outF (runB T (evs T (n + 25)) b_l_folds [some (.per (.int r)), some (.per (.int c)), some (.per (.int num)), none, none, none, none, none, none, none, none, none]) = _
  unfold b_l_folds
  have e1 : stepS T (evs T (n + 25)) [some (.per (.int r)), some (.per (.int c)), some (.per (.int num)), none, none, none, none, none, none, none, none, none] (.asg (.nm 3) [] false (.lst [(.var 0), (.var 1)])) = some (.nx [some (.per (.int r)), some (.per (.int c)), some (.per (.int num)), some (.lst [.per (.int r), .per (.int c)]), none, none, none, none, none, none, none, none]) := by simp [callFI, runB, stepS, evP, evT, evPs, owL, own1, vwL, entE, entA, evs_o, evs_t, evs_b, stepO, stepT, step1, R.calm, Evs.dv, Evs.ds, Evs.os, Evs.ts, Evs.oi, Evs.it, Evs.pl, Ow.fr, frs, dTruth, dBin, dCmp, iCmp, dIdx, dSli, dAtt, dBlt, dBlt1, dBlt2, okN, Ow.nl, D.nl, nls, onls, outF, outM, self0, mkTup, pers, fzo, CT.setO, CTs.setO, putP, Tab.kd, tyN, evs_k, D.asS, D.asL, D.f0, D.in0, D.eq0, D.flat, flats, fdep, eqvI, eqv_str, eqv_bl, eqv_lst, eqv_tup, eqvs_cons, eqvs_nil, eqvs_nc, eqvs_cn, isas, xis, sne, sok, dNeg, dRev, look, keyT, D.isN, Tab.mkX, frs_per, Ow.strip, Ow.isAt, Ow.put, Ow.over, frs_app, Ow.kids, Ow.setKids, -List.map_map, -List.map_take, -List.map_drop, ]
  have e2 : stepS T (evs T (n + 25)) [some (.per (.int r)), some (.per (.int c)), some (.per (.int num)), some (.lst [.per (.int r), .per (.int c)]), none, none, none, none, none, none, none, none] (.asg (.nm 4) [] false (.lst [])) = some (.nx (stX r c num (r, c, []))) := by simp [callFI, runB, stepS, evP, evT, evPs, owL, own1, vwL, entE, entA, evs_o, evs_t, evs_b, stepO, stepT, step1, R.calm, Evs.dv, Evs.ds, Evs.os, Evs.ts, Evs.oi, Evs.it, Evs.pl, Ow.fr, frs, dTruth, dBin, dCmp, iCmp, dIdx, dSli, dAtt, dBlt, dBlt1, dBlt2, okN, Ow.nl, D.nl, nls, onls, outF, outM, self0, mkTup, pers, fzo, CT.setO, CTs.setO, putP, Tab.kd, tyN, evs_k, D.asS, D.asL, D.f0, D.in0, D.eq0, D.flat, flats, fdep, eqvI, eqv_str, eqv_bl, eqv_lst, eqv_tup, eqvs_cons, eqvs_nil, eqvs_nc, eqvs_cn, isas, xis, sne, sok, dNeg, dRev, look, keyT, D.isN, Tab.mkX, frs_per, Ow.strip, Ow.isAt, Ow.put, Ow.over, frs_app, Ow.kids, Ow.setKids, -List.map_map, -List.map_take, -List.map_drop, stX, envW]
  have e3 : stepS T (evs T (n + 25)) (stX r c num (r, c, [])) (.for_ (.nm 5) [] (.range [(.cst (.int 14))]) bW) = some (.nx (stX r c num ((List.range 14).foldl (turnX num) (r, c, [])))) := by
    rw [← (key n).1]
    rfl
  rw [runB_nx e1, runB_nx e2, runB_nx e3]
  rfl

end Lw

set_option Elab.async false
set_option linter.all false
set_option autoImplicit false
set_option maxRecDepth 100000
set_option maxHeartbeats 1000001
namespace Lw
open PySem Pu
/-! ### _law_scheme -/
def rowsX (v : Int) : Int := if v % 4 = 0 then 1 else if v % 4 = 1 then 2 else if v % 4 = 2 then 4 else 1 + v / 8 % 8
def colsX (v : Int) : Int := 1 + v / 64 % (if 32 / rowsX v < 8 then 32 / rowsX v else 8)
theorem rows_in (v : Int) : 1 ≤ rowsX v ∧ rowsX v ≤ 8 := by unfold rowsX; (repeat' split) <;> omega
theorem cols_in (v : Int) : (1 ≤ colsX v ∧ colsX v ≤ 8) ∧ rowsX v * colsX v ≤ 32 := by
  have h := rows_in v
  unfold colsX
  generalize v / 64 = w
  generalize rowsX v = r at h
  have h8 : r = 1 ∨ r = 2 ∨ r = 3 ∨ r = 4 ∨ r = 5 ∨ r = 6 ∨ r = 7 ∨ r = 8 := by omega
  rcases h8 with rfl | rfl | rfl | rfl | rfl | rfl | rfl | rfl <;> simp <;> omega
/-- a drawn scheme -/
structure Sx where
  r : Nat
  c : Nat
  fs : List Fx
structure Sx.Ok (s : Sx) : Prop where
  r1 : 1 ≤ s.r ∧ s.r ≤ 8
  c1 : 1 ≤ s.c ∧ s.c ≤ 8
  z : s.r * s.c ≤ 32
  ok : okX s.r s.c s.fs = some (1, 1)
  l : s.fs.length ≤ 14
def schX (a k : Int) : Sx := ⟨(rowsX (mx a k)).toNat, (colsX (mx a k)).toNat, foldsX (rowsX (mx a k)).toNat (colsX (mx a k)).toNat (mx a k)⟩
theorem sch3 (m : Nat) (a k v : Int) : stepS T (evs T (m + 20)) [some (.per (.int a)), some (.per (.int k)), some (.per (.int v)), none, none] (.asg (.nm 3) [] true (.idx (.lst [(.cst (.int 1)), (.cst (.int 2)), (.cst (.int 4)), (.bin .Add (.cst (.int 1)) (.bin .Mod (.bin .FloorDiv (.var 2) (.cst (.int 8))) (.cst (.int 8))))]) (.bin .Mod (.var 2) (.cst (.int 4))))) = some (.nx [some (.per (.int a)), some (.per (.int k)), some (.per (.int v)), some (.per (.int (rowsX v))), none]) := by
  unfold rowsX
  rcases (show v % 4 = 0 ∨ v % 4 = 1 ∨ v % 4 = 2 ∨ v % 4 = 3 by omega) with q | q | q | q <;> simp [callFI, runB, stepS, evP, evT, evPs, owL, own1, vwL, entE, entA, evs_o, evs_t, evs_b, stepO, stepT, step1, R.calm, Evs.dv, Evs.ds, Evs.os, Evs.ts, Evs.oi, Evs.it, Evs.pl, Ow.fr, frs, dTruth, dBin, dCmp, iCmp, dIdx, dSli, dAtt, dBlt, dBlt1, dBlt2, okN, Ow.nl, D.nl, nls, onls, outF, outM, self0, mkTup, pers, fzo, CT.setO, CTs.setO, putP, Tab.kd, tyN, evs_k, D.asS, D.asL, D.f0, D.in0, D.eq0, D.flat, flats, fdep, eqvI, eqv_str, eqv_bl, eqv_lst, eqv_tup, eqvs_cons, eqvs_nil, eqvs_nc, eqvs_cn, isas, xis, sne, sok, dNeg, dRev, look, keyT, D.isN, Tab.mkX, frs_per, Ow.strip, Ow.isAt, Ow.put, Ow.over, frs_app, Ow.kids, Ow.setKids, -List.map_map, -List.map_take, -List.map_drop, q, L2.atI, L2.ixN]
theorem sch4 (m : Nat) (a k v rv cv : Int) (hcv : 1 + v / 64 % (if 32 / rv < 8 then 32 / rv else 8) = cv) (hr0 : 0 < rv ∧ rv < 1073741824) (hmn : 0 < (if 32 / rv < 8 then 32 / rv else 8)) : stepS T (evs T (m + 20)) [some (.per (.int a)), some (.per (.int k)), some (.per (.int v)), some (.per (.int rv)), none] (.asg (.nm 4) [] true (.bin .Add (.cst (.int 1)) (.bin .Mod (.bin .FloorDiv (.var 2) (.cst (.int 64))) (.blt .min [(.cst (.int 8)), (.bin .FloorDiv (.cst (.int 32)) (.var 3))])))) = some (.nx [some (.per (.int a)), some (.per (.int k)), some (.per (.int v)), some (.per (.int rv)), some (.per (.int cv))]) := by
  rw [← hcv]
  simp [callFI, runB, stepS, evP, evT, evPs, owL, own1, vwL, entE, entA, evs_o, evs_t, evs_b, stepO, stepT, step1, R.calm, Evs.dv, Evs.ds, Evs.os, Evs.ts, Evs.oi, Evs.it, Evs.pl, Ow.fr, frs, dTruth, dBin, dCmp, iCmp, dIdx, dSli, dAtt, dBlt, dBlt1, dBlt2, okN, Ow.nl, D.nl, nls, onls, outF, outM, self0, mkTup, pers, fzo, CT.setO, CTs.setO, putP, Tab.kd, tyN, evs_k, D.asS, D.asL, D.f0, D.in0, D.eq0, D.flat, flats, fdep, eqvI, eqv_str, eqv_bl, eqv_lst, eqv_tup, eqvs_cons, eqvs_nil, eqvs_nc, eqvs_cn, isas, xis, sne, sok, dNeg, dRev, look, keyT, D.isN, Tab.mkX, frs_per, Ow.strip, Ow.isAt, Ow.put, Ow.over, frs_app, Ow.kids, Ow.setKids, -List.map_map, -List.map_take, -List.map_drop, hr0, hmn]
theorem sch2 (m : Nat) (a k v : Int) (hd : ∀ n, (evs T (n + 10)).f i_l_drawn [.int a, .int k] = .ok (.per (.int v))) : stepS T (evs T (m + 20)) [some (.per (.int a)), some (.per (.int k)), none, none, none] (.asg (.nm 2) [] true (.call i_l_drawn [(.var 0), (.var 1)])) = some (.nx [some (.per (.int a)), some (.per (.int k)), some (.per (.int v)), none, none]) := by
  simp [callFI, runB, stepS, evP, evT, evPs, owL, own1, vwL, entE, entA, evs_o, evs_t, evs_b, stepO, stepT, step1, R.calm, Evs.dv, Evs.ds, Evs.os, Evs.ts, Evs.oi, Evs.it, Evs.pl, Ow.fr, frs, dTruth, dBin, dCmp, iCmp, dIdx, dSli, dAtt, dBlt, dBlt1, dBlt2, okN, Ow.nl, D.nl, nls, onls, outF, outM, self0, mkTup, pers, fzo, CT.setO, CTs.setO, putP, Tab.kd, tyN, evs_k, D.asS, D.asL, D.f0, D.in0, D.eq0, D.flat, flats, fdep, eqvI, eqv_str, eqv_bl, eqv_lst, eqv_tup, eqvs_cons, eqvs_nil, eqvs_nc, eqvs_cn, isas, xis, sne, sok, dNeg, dRev, look, keyT, D.isN, Tab.mkX, frs_per, Ow.strip, Ow.isAt, Ow.put, Ow.over, frs_app, Ow.kids, Ow.setKids, -List.map_map, -List.map_take, -List.map_drop, hd]
theorem sch5 (m : Nat) (a k v rv cv : Int) (gs : List D) (f1 : ∀ n, (evs T (n + 26)).f i_l_folds [.int rv, .int cv, .int v] = .ok (.lst (gs.map .per))) : stepS T (evs T (m + 29)) [some (.per (.int a)), some (.per (.int k)), some (.per (.int v)), some (.per (.int rv)), some (.per (.int cv))] (.ret [] (.tup [(.var 3), (.var 4), (.call i_l_folds [(.var 3), (.var 4), (.var 2)])])) = some (.rt (.tup [.per (.int rv), .per (.int cv), .lst (gs.map .per)]) [some (.per (.int a)), some (.per (.int k)), some (.per (.int v)), some (.per (.int rv)), some (.per (.int cv))]) := by
  simp [callFI, runB, stepS, evP, evT, evPs, owL, own1, vwL, entE, entA, evs_o, evs_t, evs_b, stepO, stepT, step1, R.calm, Evs.dv, Evs.ds, Evs.os, Evs.ts, Evs.oi, Evs.it, Evs.pl, Ow.fr, frs, dTruth, dBin, dCmp, iCmp, dIdx, dSli, dAtt, dBlt, dBlt1, dBlt2, okN, Ow.nl, D.nl, nls, onls, outF, outM, self0, mkTup, pers, fzo, CT.setO, CTs.setO, putP, Tab.kd, tyN, evs_k, D.asS, D.asL, D.f0, D.in0, D.eq0, D.flat, flats, fdep, eqvI, eqv_str, eqv_bl, eqv_lst, eqv_tup, eqvs_cons, eqvs_nil, eqvs_nc, eqvs_cn, isas, xis, sne, sok, dNeg, dRev, look, keyT, D.isN, Tab.mkX, frs_per, Ow.strip, Ow.isAt, Ow.put, Ow.over, frs_app, Ow.kids, Ow.setKids, -List.map_map, -List.map_take, -List.map_drop, f1]
theorem sch_walk (n : Nat) (a k v : Int) (gs : List D) (hd : ∀ n, (evs T (n + 10)).f i_l_drawn [.int a, .int k] = .ok (.per (.int v))) (f1 : ∀ n, (evs T (n + 26)).f i_l_folds [.int (rowsX v), .int (colsX v), .int v] = .ok (.lst (gs.map .per))) : (evs T (n + 30)).f i_l_scheme [.int a, .int k] = .ok (.tup [.per (.int (rowsX v)), .per (.int (colsX v)), .lst (gs.map .per)]) := by
  have h1 := rows_in v
  have hmn : 0 < (if 32 / rowsX v < 8 then 32 / rowsX v else 8) := by
    generalize rowsX v = rv at h1
    have h8 : rv = 1 ∨ rv = 2 ∨ rv = 3 ∨ rv = 4 ∨ rv = 5 ∨ rv = 6 ∨ rv = 7 ∨ rv = 8 := by omega
    rcases h8 with rfl | rfl | rfl | rfl | rfl | rfl | rfl | rfl <;> decide
  rw [call_fn fn_l_scheme]
  show outF (runB T (evs T (n + 29)) b_l_scheme [some (.per (.int a)), some (.per (.int k)), none, none, none]) = _
  unfold b_l_scheme
  rw [runB_nx (sch2 (n + 9) a k v hd), runB_nx (sch3 (n + 9) a k v), runB_nx (sch4 (n + 9) a k v (rowsX v) (colsX v) rfl ⟨by omega, by omega⟩ hmn), runB_rt (sch5 n a k v (rowsX v) (colsX v) gs f1)]
  rfl
theorem Sx.mk_ok {r c : Nat} {L : List Fx} (hr : 1 ≤ r ∧ r ≤ 8) (hc : 1 ≤ c ∧ c ≤ 8) (hz : r * c ≤ 32) (h : okX r c L = some (1, 1)) (h2 : L.length ≤ 14) : Sx.Ok ⟨r, c, L⟩ := ⟨hr, hc, hz, h, h2⟩
theorem sch_abs1 (a k v : Int) (rv cv : Nat) (hR : rowsX v = rv) (hC : colsX v = cv) (gs : List D) (f1 : ∀ n, (evs T (n + 26)).f i_l_folds [.int rv, .int cv, .int v] = .ok (.lst (gs.map .per))) (hd : ∀ n, (evs T (n + 10)).f i_l_drawn [.int a, .int k] = .ok (.per (.int v))) :
    ∀ n, (evs T (n + 30)).f i_l_scheme [.int a, .int k] = .ok (.tup [.per (.int rv), .per (.int cv), .lst (gs.map .per)]) := by
  intro n
  rw [← hR, ← hC] at f1 ⊢
  exact sch_walk n a k v gs hd f1
theorem sch_abs (a k v : Int) (rv cv : Nat) (hR : rowsX v = rv) (hC : colsX v = cv) (hr : 1 ≤ rv ∧ rv ≤ 8) (hc : 1 ≤ cv ∧ cv ≤ 8) (hz : rv * cv ≤ 32) (hd : ∀ n, (evs T (n + 10)).f i_l_drawn [.int a, .int k] = .ok (.per (.int v))) :
    (∀ n, (evs T (n + 30)).f i_l_scheme [.int a, .int k] = .ok (.tup [.per (.int rv), .per (.int cv), .lst (((foldsX rv cv v).map Fx.d).map .per)])) ∧ Sx.Ok ⟨rv, cv, foldsX rv cv v⟩ :=
  ⟨sch_abs1 a k v rv cv hR hC _ (foldsX_ok rv cv v hr hc).1 hd, Sx.mk_ok hr hc hz (foldsX_ok rv cv v hr hc).2.1 (foldsX_ok rv cv v hr hc).2.2⟩
theorem toNat_in {x : Int} (h : 1 ≤ x ∧ x ≤ 8) : x = (x.toNat : Int) ∧ 1 ≤ x.toNat ∧ x.toNat ≤ 8 := by omega
theorem toNat_mul {x y : Int} (h1 : 1 ≤ x ∧ x ≤ 8) (h2 : 1 ≤ y ∧ y ≤ 8) (h : x * y ≤ 32) : x.toNat * y.toNat ≤ 32 := by
  have : ((x.toNat * y.toNat : Nat) : Int) ≤ 32 := by rw [Int.natCast_mul, ← (toNat_in h1).1, ← (toNat_in h2).1]; exact h
  exact_mod_cast this
theorem schX_ok (a k : Int) (hk : -1000 < k ∧ k < 1000) : (∀ n, (evs T (n + 30)).f i_l_scheme [.int a, .int k] = .ok (.tup [.per (.int (schX a k).r), .per (.int (schX a k).c), .lst (((schX a k).fs.map Fx.d).map .per)])) ∧ (schX a k).Ok := by
  have h1 := rows_in (mx a k)
  have h2 := cols_in (mx a k)
  have hd := fun j => drawn_ok j a k hk
  unfold schX
  dsimp only
  generalize mx a k = v at *
  exact sch_abs a k v (rowsX v).toNat (colsX v).toNat (toNat_in h1).1 (toNat_in h2.1).1 (toNat_in h1).2 (toNat_in h2.1).2 (toNat_mul h1 h2.1 h2.2) hd
theorem okX_goods : ∀ (fs : List Fx) (r c r1 c1 : Nat), okX r c fs = some (r1, c1) → goods ((r : Int), (c : Int)) (fs.map Fx.fd) = some ((r1 : Int), (c1 : Int))
  | [], r, c, r1, c1, h => by
    simp only [okX, Option.some.injEq, Prod.mk.injEq] at h
    obtain ⟨rfl, rfl⟩ := h
    rfl
  | f :: fs, r, c, r1, c1, h => by
    rw [okX] at h
    by_cases hf : 1 ≤ f.m ∧ 2 * f.m ≤ (if f.br then r else c)
    · rw [if_pos hf] at h
      have ih := okX_goods fs _ _ _ _ h
      have t1 : (("top" : Str) = "left") = False := by simp [← beq_iff_eq, sne]
      have t2 : (("top" : Str) = "right") = False := by simp [← beq_iff_eq, sne]
      have t3 : (("bottom" : Str) = "left") = False := by simp [← beq_iff_eq, sne]
      have t4 : (("bottom" : Str) = "right") = False := by simp [← beq_iff_eq, sne]
      obtain ⟨br, bh, ov, m⟩ := f
      simp only at hf ih
      have hz : fsz r c (edgeS br bh) m = some (((if br then r - m else r : Nat) : Int), ((if br then c else c - m : Nat) : Int)) := by
        cases br <;> cases bh <;> simp only [if_true, if_false, Bool.false_eq_true] at hf <;> simp [fsz, edgeS, t1, t2, t3, t4] <;> omega
      simp only [List.map_cons, goods, Fx.fd, hz]
      exact ih
    · rw [if_neg hf] at h
      cases h
theorem Fx.ok (f : Fx) : f.fd.ok := by
  obtain ⟨br, bh, ov, m⟩ := f
  cases br <;> cases bh <;> cases ov <;> simp [Fx.fd, Fd.ok, edgeS, wayS, edges, ways]

end Lw

set_option Elab.async false
set_option linter.all false
set_option autoImplicit false
set_option maxRecDepth 100000
set_option maxHeartbeats 1000001
namespace Lw
open PySem Pu
/-! ### _law_stands -/
def envZ (sd cd sz gd : D) (x4 x5 x6 x7 x8 : Option Ow) : Ev := [some (.per sd), some (.per cd), some (.per sz), some (.per gd), x4, x5, x6, x7, x8]
abbrev teZ : CE := .bop .Or (.not (.call i_l_same [(.meth "Stack" "size" (.var 0) []), (.var 2)])) (.not (.call i_l_same [(.var 5), (.var 3)]))
theorem zT (n : Nat) (sd cd sz gd : D) (L : List Ow) (x4 : Option Ow) (hsz : ∀ j, (evs T (j + 12)).m "Stack" "size" sd [] = .ok (.per sz)) (h1 : ∀ j, (evs T (j + 60)).f i_l_same [sz, sz] = .ok (.per (.bl true))) (h2 : ∀ j, (evs T (j + 60)).f i_l_same [gd, gd] = .ok (.per (.bl true))) (hfr : D.lst (frs L) = gd) :
    evT (evs T (n + 70)) [5] (envZ sd cd sz gd x4 (some (.lst L)) none none none) teZ = .ok false := by
  have hv : vwL [5] (envZ sd cd sz gd x4 (some (.lst L)) none none none) = envZ sd cd sz gd x4 (some (.per gd)) none none none := by
    rw [← hfr]
    rfl
  have ht : (evs T (n + 70)).t (envZ sd cd sz gd x4 (some (.per gd)) none none none) teZ = .ok false := by
    simp [callFI, runB, stepS, evP, evT, evPs, owL, own1, vwL, entE, entA, evs_o, evs_t, evs_b, stepO, stepT, step1, R.calm, Evs.dv, Evs.ds, Evs.os, Evs.ts, Evs.oi, Evs.it, Evs.pl, Ow.fr, frs, dTruth, dBin, dCmp, iCmp, dIdx, dSli, dAtt, dBlt, dBlt1, dBlt2, okN, Ow.nl, D.nl, nls, onls, outF, outM, self0, mkTup, pers, fzo, CT.setO, CTs.setO, putP, Tab.kd, tyN, evs_k, D.asS, D.asL, D.f0, D.in0, D.eq0, D.flat, flats, fdep, eqvI, eqv_str, eqv_bl, eqv_lst, eqv_tup, eqvs_cons, eqvs_nil, eqvs_nc, eqvs_cn, isas, xis, sne, sok, dNeg, dRev, look, keyT, D.isN, Tab.mkX, frs_per, Ow.strip, Ow.isAt, Ow.put, Ow.over, frs_app, Ow.kids, Ow.setKids, -List.map_map, -List.map_take, -List.map_drop, envZ, hsz, h1, h2]
  unfold evT
  rw [hv, ht]
abbrev bdZ8 : List CS := [.asg (.nm 8) [] false (.meth "Stack" "leaves_at" (.var 0) [(.bin .Add (.var 6) (.cst (.int 1))), (.bin .Add (.var 7) (.cst (.int 1)))]),
    .ife [8] (.not (.call i_l_same [(.var 8), (.idx (.idx (.var 3) (.var 6)) (.var 7))])) [.ret [] (.cst (.bl false))] [],
    .app (.var 8) [] true (.cst (.str "more")),
    .wipe [7, 8]]
theorem zI (n : Nat) (sd cd sz : D) (rows row xs : List D) (x4 x5 : Option Ow) (i j : Int) (hleaf : ∀ k, (evs T (k + 16)).m "Stack" "leaves_at" sd [.int (i + 1), .int (j + 1)] = .ok (.lst (xs.map .per))) (hi : L2.atI rows i = some (.lst row)) (hj : L2.atI row j = some (.lst xs)) (hs : ∀ k, (evs T (k + 60)).f i_l_same [.lst xs, .lst xs] = .ok (.per (.bl true))) (hz : xs.length < 1000) :
    (evs T (n + 72)).b (envZ sd cd sz (.lst rows) x4 x5 (some (.per (.int i))) (some (.per (.int j))) none) bdZ8 = some (.nx (envZ sd cd sz (.lst rows) x4 x5 (some (.per (.int i))) none none)) := by
  have hz' : xs.length < sizeLine := by rw [sizeLine_eq]; omega
  have e1 : stepS T (evs T (n + 71)) (envZ sd cd sz (.lst rows) x4 x5 (some (.per (.int i))) (some (.per (.int j))) none) (.asg (.nm 8) [] false (.meth "Stack" "leaves_at" (.var 0) [(.bin .Add (.var 6) (.cst (.int 1))), (.bin .Add (.var 7) (.cst (.int 1)))])) = some (.nx (envZ sd cd sz (.lst rows) x4 x5 (some (.per (.int i))) (some (.per (.int j))) (some (.lst (xs.map .per))))) := by
    simp [callFI, runB, stepS, evP, evT, evPs, owL, own1, vwL, entE, entA, evs_o, evs_t, evs_b, stepO, stepT, step1, R.calm, Evs.dv, Evs.ds, Evs.os, Evs.ts, Evs.oi, Evs.it, Evs.pl, Ow.fr, frs, dTruth, dBin, dCmp, iCmp, dIdx, dSli, dAtt, dBlt, dBlt1, dBlt2, okN, Ow.nl, D.nl, nls, onls, outF, outM, self0, mkTup, pers, fzo, CT.setO, CTs.setO, putP, Tab.kd, tyN, evs_k, D.asS, D.asL, D.f0, D.in0, D.eq0, D.flat, flats, fdep, eqvI, eqv_str, eqv_bl, eqv_lst, eqv_tup, eqvs_cons, eqvs_nil, eqvs_nc, eqvs_cn, isas, xis, sne, sok, dNeg, dRev, look, keyT, D.isN, Tab.mkX, frs_per, Ow.strip, Ow.isAt, Ow.put, Ow.over, frs_app, Ow.kids, Ow.setKids, -List.map_map, -List.map_take, -List.map_drop, envZ, hleaf]
  have hv : vwL [8] (envZ sd cd sz (.lst rows) x4 x5 (some (.per (.int i))) (some (.per (.int j))) (some (.lst (xs.map .per)))) = envZ sd cd sz (.lst rows) x4 x5 (some (.per (.int i))) (some (.per (.int j))) (some (.per (.lst xs))) := by
    simp [vwL, own1, envZ, Ow.fr, frs_per]
  have ht : (evs T (n + 71)).t (envZ sd cd sz (.lst rows) x4 x5 (some (.per (.int i))) (some (.per (.int j))) (some (.per (.lst xs)))) (.not (.call i_l_same [(.var 8), (.idx (.idx (.var 3) (.var 6)) (.var 7))])) = .ok false := by
    simp [callFI, runB, stepS, evP, evT, evPs, owL, own1, vwL, entE, entA, evs_o, evs_t, evs_b, stepO, stepT, step1, R.calm, Evs.dv, Evs.ds, Evs.os, Evs.ts, Evs.oi, Evs.it, Evs.pl, Ow.fr, frs, dTruth, dBin, dCmp, iCmp, dIdx, dSli, dAtt, dBlt, dBlt1, dBlt2, okN, Ow.nl, D.nl, nls, onls, outF, outM, self0, mkTup, pers, fzo, CT.setO, CTs.setO, putP, Tab.kd, tyN, evs_k, D.asS, D.asL, D.f0, D.in0, D.eq0, D.flat, flats, fdep, eqvI, eqv_str, eqv_bl, eqv_lst, eqv_tup, eqvs_cons, eqvs_nil, eqvs_nc, eqvs_cn, isas, xis, sne, sok, dNeg, dRev, look, keyT, D.isN, Tab.mkX, frs_per, Ow.strip, Ow.isAt, Ow.put, Ow.over, frs_app, Ow.kids, Ow.setKids, -List.map_map, -List.map_take, -List.map_drop, envZ, hi, hj, hs]
  have e2 : stepS T (evs T (n + 71)) (envZ sd cd sz (.lst rows) x4 x5 (some (.per (.int i))) (some (.per (.int j))) (some (.lst (xs.map .per)))) (.ife [8] (.not (.call i_l_same [(.var 8), (.idx (.idx (.var 3) (.var 6)) (.var 7))])) [.ret [] (.cst (.bl false))] []) = some (.nx (envZ sd cd sz (.lst rows) x4 x5 (some (.per (.int i))) (some (.per (.int j))) (some (.lst (xs.map .per))))) := by
    simp only [stepS, evT, hv, ht]
    rfl
  have e3 : stepS T (evs T (n + 71)) (envZ sd cd sz (.lst rows) x4 x5 (some (.per (.int i))) (some (.per (.int j))) (some (.lst (xs.map .per)))) (.app (.var 8) [] true (.cst (.str "more"))) = some (.nx (envZ sd cd sz (.lst rows) x4 x5 (some (.per (.int i))) (some (.per (.int j))) (some (.lst (xs.map .per ++ [.per (.str "more")]))))) := by
    simp [callFI, runB, stepS, evP, evT, evPs, owL, own1, vwL, entE, entA, evs_o, evs_t, evs_b, stepO, stepT, step1, R.calm, Evs.dv, Evs.ds, Evs.os, Evs.ts, Evs.oi, Evs.it, Evs.pl, Ow.fr, frs, dTruth, dBin, dCmp, iCmp, dIdx, dSli, dAtt, dBlt, dBlt1, dBlt2, okN, Ow.nl, D.nl, nls, onls, outF, outM, self0, mkTup, pers, fzo, CT.setO, CTs.setO, putP, Tab.kd, tyN, evs_k, D.asS, D.asL, D.f0, D.in0, D.eq0, D.flat, flats, fdep, eqvI, eqv_str, eqv_bl, eqv_lst, eqv_tup, eqvs_cons, eqvs_nil, eqvs_nc, eqvs_cn, isas, xis, sne, sok, dNeg, dRev, look, keyT, D.isN, Tab.mkX, frs_per, Ow.strip, Ow.isAt, Ow.put, Ow.over, frs_app, Ow.kids, Ow.setKids, -List.map_map, -List.map_take, -List.map_drop, envZ, hz']
  rw [evs_b, runB_nx e1, runB_nx e2, runB_nx e3]
  rfl
theorem forE_const {α : Type} {E : Evs} {t : CT} {body : List CS} (f : α → D) (env : Ev) : ∀ (xs : List α), (∀ x ∈ xs, ∃ e1, t.setO env (.per (f x)) = some e1 ∧ E.b e1 body = some (.nx env)) → forE E t body (xs.map f) env = some (.nx env)
  | [], _ => rfl
  | x :: xs, h => by
    obtain ⟨e1, h1, h2⟩ := h x List.mem_cons_self
    simp only [List.map_cons, forE, h1, h2]
    exact forE_const f env xs fun y hy => h y (List.mem_cons_of_mem _ hy)
theorem rng0 (k : Nat) : rangeD 0 k = (List.range k).map fun (i : Nat) => D.int (i : Int) := by simp [rangeD]
theorem it_rng (n : Nat) (env : Ev) (e : CE) (k : Nat) (hk : k ≤ 1000) (h : (evs T n).o env e = .ok (.per (.int k))) : (evs T n).it env (.range [e]) = .ok ((List.range k).map fun (i : Nat) => D.int (i : Int)) := by
  have h2 : -(2 ^ 62) ≤ (k : Int) ∧ (k : Int) < 2 ^ 62 := ⟨by omega, by omega⟩
  simp only [Evs.it, Evs.dv, h, Ow.fr, if_pos h2, Int.toNat_natCast, rng0]
theorem for_rng (E : Evs) (env env2 : Ev) (e : CE) (i : Nat) (body : List CS) (ds : List D) (hit : E.it env (.range [e]) = .ok ds) (h : forE E (.nm i) body ds env = some (.nx env2)) : stepS T E env (.for_ (.nm i) [] (.range [e]) body) = some (.nx env2) := for_step hit h
abbrev foZ7 : CS := .for_ (.nm 7) [] (.range [(.idx (.var 2) (.cst (.int 1)))]) bdZ8
abbrev foZ6 : CS := .for_ (.nm 6) [] (.range [(.idx (.var 2) (.cst (.int 0)))]) [foZ7, .wipe [6]]
theorem okA_pile (k : Nat) (p : Pile) (h : p.length ≤ 1000) : okA (k + 2) (pileD p) = true := by
  simp only [pileD, okA, Bool.and_eq_true, decide_eq_true_eq, List.all_eq_true, List.length_map]
  refine ⟨by omega, fun d hd => ?_⟩
  obtain ⟨l, _, rfl⟩ := List.mem_map.mp hd
  simp [Lf.d, okA]
theorem okA_line (k : Nat) (l : List Pile) (h : l.length ≤ 1000) (hp : ∀ p ∈ l, p.length ≤ 1000) : okA (k + 3) (lineD l) = true := by
  simp only [lineD, okA, Bool.and_eq_true, decide_eq_true_eq, List.all_eq_true, List.length_map]
  refine ⟨by omega, fun d hd => ?_⟩
  obtain ⟨p, hpm, rfl⟩ := List.mem_map.mp hd
  exact okA_pile k p (hp p hpm)
theorem okA_grid (k : Nat) (g : Grid) (G : GOk g) : okA (k + 4) (gridD g) = true := by
  simp only [gridD, okA, Bool.and_eq_true, decide_eq_true_eq, List.all_eq_true, List.length_map]
  refine ⟨by have := G.r8; omega, fun d hd => ?_⟩
  obtain ⟨l, hl, rfl⟩ := List.mem_map.mp hd
  exact okA_line k l (by rw [G.w l hl]; have := G.c8; omega) fun p hp => by have := G.p l hl p hp; omega
theorem zInner (n : Nat) (g : Grid) (past : List Grid) (G : GOk g) (cd : D) (x4 x5 : Option Ow) (i : Nat) (hi : i < g.length) :
    stepS T (evs T (n + 72)) (envZ (stkD g past) cd (.tup [.int g.length, .int (colsN g)]) (gridD g) x4 x5 (some (.per (.int i))) none none) foZ7 = some (.nx (envZ (stkD g past) cd (.tup [.int g.length, .int (colsN g)]) (gridD g) x4 x5 (some (.per (.int i))) none none)) := by
  have hc : (evs T (n + 72)).o (envZ (stkD g past) cd (.tup [.int g.length, .int (colsN g)]) (gridD g) x4 x5 (some (.per (.int i))) none none) (.idx (.var 2) (.cst (.int 1))) = .ok (.per (.int (colsN g))) := by
    generalize stkD g past = sd
    generalize gridD g = gd
    simp [callFI, runB, stepS, evP, evT, evPs, owL, own1, vwL, entE, entA, evs_o, evs_t, evs_b, stepO, stepT, step1, R.calm, Evs.dv, Evs.ds, Evs.os, Evs.ts, Evs.oi, Evs.it, Evs.pl, Ow.fr, frs, dTruth, dBin, dCmp, iCmp, dIdx, dSli, dAtt, dBlt, dBlt1, dBlt2, okN, Ow.nl, D.nl, nls, onls, outF, outM, self0, mkTup, pers, fzo, CT.setO, CTs.setO, putP, Tab.kd, tyN, evs_k, D.asS, D.asL, D.f0, D.in0, D.eq0, D.flat, flats, fdep, eqvI, eqv_str, eqv_bl, eqv_lst, eqv_tup, eqvs_cons, eqvs_nil, eqvs_nc, eqvs_cn, isas, xis, sne, sok, dNeg, dRev, look, keyT, D.isN, Tab.mkX, frs_per, Ow.strip, Ow.isAt, Ow.put, Ow.over, frs_app, Ow.kids, Ow.setKids, -List.map_map, -List.map_take, -List.map_drop, envZ, L2.atI, L2.ixN]
  refine for_rng _ _ _ _ _ _ _ (it_rng (n + 72) _ _ (colsN g) (by have := G.c8; omega) hc) (forE_const _ _ _ fun j hj => ⟨_, rfl, ?_⟩)
  have hj := List.mem_range.mp hj
  obtain ⟨row, hr⟩ : ∃ row, g[i]? = some row := ⟨_, List.getElem?_eq_getElem hi⟩
  have hw : row.length = colsN g := G.w _ (List.mem_of_getElem? hr)
  obtain ⟨p, hcj⟩ : ∃ p, row[j]? = some p := ⟨_, List.getElem?_eq_getElem (by rw [hw]; exact hj)⟩
  have hp : p.length ≤ 100 := G.p _ (List.mem_of_getElem? hr) _ (List.mem_of_getElem? hcj)
  have hlv := fun k => leaves_ok k g past i j row p G.ne hr hcj hw
  exact zI n (stkD g past) cd _ (g.map lineD) (row.map pileD) (p.map Lf.d) x4 x5 i j hlv (by rw [atI_nat, List.getElem?_map, hr]; rfl) (by rw [atI_nat, List.getElem?_map, hcj]; rfl) (fun k => by
    have := same_refl 2 (pileD p) (okA_pile 0 p (by omega)) (k + 24)
    exact this) (by simp; omega)
theorem zOuter (n : Nat) (g : Grid) (past : List Grid) (G : GOk g) (cd : D) (x4 x5 : Option Ow) :
    stepS T (evs T (n + 73)) (envZ (stkD g past) cd (.tup [.int g.length, .int (colsN g)]) (gridD g) x4 x5 none none none) foZ6 = some (.nx (envZ (stkD g past) cd (.tup [.int g.length, .int (colsN g)]) (gridD g) x4 x5 none none none)) := by
  have hc : (evs T (n + 73)).o (envZ (stkD g past) cd (.tup [.int g.length, .int (colsN g)]) (gridD g) x4 x5 none none none) (.idx (.var 2) (.cst (.int 0))) = .ok (.per (.int g.length)) := by
    generalize stkD g past = sd
    generalize gridD g = gd
    simp [callFI, runB, stepS, evP, evT, evPs, owL, own1, vwL, entE, entA, evs_o, evs_t, evs_b, stepO, stepT, step1, R.calm, Evs.dv, Evs.ds, Evs.os, Evs.ts, Evs.oi, Evs.it, Evs.pl, Ow.fr, frs, dTruth, dBin, dCmp, iCmp, dIdx, dSli, dAtt, dBlt, dBlt1, dBlt2, okN, Ow.nl, D.nl, nls, onls, outF, outM, self0, mkTup, pers, fzo, CT.setO, CTs.setO, putP, Tab.kd, tyN, evs_k, D.asS, D.asL, D.f0, D.in0, D.eq0, D.flat, flats, fdep, eqvI, eqv_str, eqv_bl, eqv_lst, eqv_tup, eqvs_cons, eqvs_nil, eqvs_nc, eqvs_cn, isas, xis, sne, sok, dNeg, dRev, look, keyT, D.isN, Tab.mkX, frs_per, Ow.strip, Ow.isAt, Ow.put, Ow.over, frs_app, Ow.kids, Ow.setKids, -List.map_map, -List.map_take, -List.map_drop, envZ, L2.atI, L2.ixN]
  refine for_rng _ _ _ _ _ _ _ (it_rng (n + 73) _ _ g.length (by have := G.r8; omega) hc) (forE_const _ _ _ fun i hi => ⟨_, rfl, ?_⟩)
  show (evs T (n + 73)).b (envZ (stkD g past) cd (.tup [.int g.length, .int (colsN g)]) (gridD g) x4 x5 (some (.per (.int i))) none none) [foZ7, .wipe [6]] = _
  rw [evs_b, runB_nx (zInner n g past G cd x4 x5 i (List.mem_range.mp hi))]
  rfl
theorem zClr (n : Nat) (sd cd sz gd : D) (p ps rest : List Ow) (x4 : Option Ow) (hz : rest.length < 1000) :
    runB T (evs T (n + 20)) [.clr (.idx (.idx (.var 5) (.cst (.int 0))) (.cst (.int 0))), .app (.var 5) [] true (.cst (.str "more")), .wipe [4, 5]] (envZ sd cd sz gd x4 (some (.lst (.lst (.lst p :: ps) :: rest))) none none none) = some (.nx (envZ sd cd sz gd none none none none none)) := by
  have hz' : rest.length + 1 < sizeLine := by rw [sizeLine_eq]; omega
  have e1 : stepS T (evs T (n + 20)) (envZ sd cd sz gd x4 (some (.lst (.lst (.lst p :: ps) :: rest))) none none none) (.clr (.idx (.idx (.var 5) (.cst (.int 0))) (.cst (.int 0)))) = some (.nx (envZ sd cd sz gd x4 (some (.lst (.lst (.lst [] :: ps) :: rest))) none none none)) := by
    simp [callFI, runB, stepS, evP, evT, evPs, owL, own1, vwL, entE, entA, evs_o, evs_t, evs_b, stepO, stepT, step1, R.calm, Evs.dv, Evs.ds, Evs.os, Evs.ts, Evs.oi, Evs.it, Evs.pl, Ow.fr, frs, dTruth, dBin, dCmp, iCmp, dIdx, dSli, dAtt, dBlt, dBlt1, dBlt2, okN, Ow.nl, D.nl, nls, onls, outF, outM, self0, mkTup, pers, fzo, CT.setO, CTs.setO, putP, Tab.kd, tyN, evs_k, D.asS, D.asL, D.f0, D.in0, D.eq0, D.flat, flats, fdep, eqvI, eqv_str, eqv_bl, eqv_lst, eqv_tup, eqvs_cons, eqvs_nil, eqvs_nc, eqvs_cn, isas, xis, sne, sok, dNeg, dRev, look, keyT, D.isN, Tab.mkX, frs_per, Ow.strip, Ow.isAt, Ow.put, Ow.over, frs_app, Ow.kids, Ow.setKids, -List.map_map, -List.map_take, -List.map_drop, envZ, L2.ixN]
  have e2 : stepS T (evs T (n + 20)) (envZ sd cd sz gd x4 (some (.lst (.lst (.lst [] :: ps) :: rest))) none none none) (.app (.var 5) [] true (.cst (.str "more"))) = some (.nx (envZ sd cd sz gd x4 (some (.lst (.lst (.lst [] :: ps) :: rest ++ [.per (.str "more")]))) none none none)) := by
    simp [callFI, runB, stepS, evP, evT, evPs, owL, own1, vwL, entE, entA, evs_o, evs_t, evs_b, stepO, stepT, step1, R.calm, Evs.dv, Evs.ds, Evs.os, Evs.ts, Evs.oi, Evs.it, Evs.pl, Ow.fr, frs, dTruth, dBin, dCmp, iCmp, dIdx, dSli, dAtt, dBlt, dBlt1, dBlt2, okN, Ow.nl, D.nl, nls, onls, outF, outM, self0, mkTup, pers, fzo, CT.setO, CTs.setO, putP, Tab.kd, tyN, evs_k, D.asS, D.asL, D.f0, D.in0, D.eq0, D.flat, flats, fdep, eqvI, eqv_str, eqv_bl, eqv_lst, eqv_tup, eqvs_cons, eqvs_nil, eqvs_nc, eqvs_cn, isas, xis, sne, sok, dNeg, dRev, look, keyT, D.isN, Tab.mkX, frs_per, Ow.strip, Ow.isAt, Ow.put, Ow.over, frs_app, Ow.kids, Ow.setKids, -List.map_map, -List.map_take, -List.map_drop, envZ, hz']
  rw [runB_nx e1, runB_nx e2]
  rfl
theorem all_fr (g : Grid) : D.lst (frs (g.map fun row => Ow.lst (row.map ownP))) = gridD g := by
  rw [frs_map]
  simp only [Ow.fr, frs_own]
  rfl
abbrev bdZ : List CS := [.asg (.nm 5) [] false (.meth "Stack" "all_leaves" (.var 0) []), .ife [5] teZ [.ret [] (.cst (.bl false))] [], foZ6, .clr (.idx (.idx (.var 5) (.cst (.int 0))) (.cst (.int 0))), .app (.var 5) [] true (.cst (.str "more")), .wipe [4, 5]]
theorem ife_n0 (E : Evs) (L : List Nat) (env : Ev) (c : CE) (a : List CS) (h : evT E L env c = .ok false) (hb : E.b env [] = some (.nx env)) : stepS T E env (.ife L c a []) = some (.nx env) := by
  simp only [stepS, h, hb]
theorem zs0 (n : Nat) (sd cd sz gd : D) (od : Ow) (hdue : ∀ k, (evs T (k + 26)).f i_l_leaves [cd, sz] = .ok od) (hd3 : od.fr = gd) : stepS T (evs T (n + 75)) [some (.per sd), some (.per cd), some (.per sz), none, none, none, none, none, none] (.asg (.nm 3) [] true (.call i_l_leaves [(.var 1), (.var 2)])) = some (.nx (envZ sd cd sz gd none none none none none)) := by
  have : (evs T (n + 75)).o [some (.per sd), some (.per cd), some (.per sz), none, none, none, none, none, none] (.call i_l_leaves [(.var 1), (.var 2)]) = .ok od := by simp [callFI, runB, stepS, evP, evT, evPs, owL, own1, vwL, entE, entA, evs_o, evs_t, evs_b, stepO, stepT, step1, R.calm, Evs.dv, Evs.ds, Evs.os, Evs.ts, Evs.oi, Evs.it, Evs.pl, Ow.fr, frs, dTruth, dBin, dCmp, iCmp, dIdx, dSli, dAtt, dBlt, dBlt1, dBlt2, okN, Ow.nl, D.nl, nls, onls, outF, outM, self0, mkTup, pers, fzo, CT.setO, CTs.setO, putP, Tab.kd, tyN, evs_k, D.asS, D.asL, D.f0, D.in0, D.eq0, D.flat, flats, fdep, eqvI, eqv_str, eqv_bl, eqv_lst, eqv_tup, eqvs_cons, eqvs_nil, eqvs_nc, eqvs_cn, isas, xis, sne, sok, dNeg, dRev, look, keyT, D.isN, Tab.mkX, frs_per, Ow.strip, Ow.isAt, Ow.put, Ow.over, frs_app, Ow.kids, Ow.setKids, -List.map_map, -List.map_take, -List.map_drop, hdue]
  simp only [stepS, evP_nil, this]
  simp [fzo, hd3, CT.setO, envZ]
theorem zs1 (n : Nat) (sd cd sz gd : D) (L : List Ow) (x4 : Option Ow) (hall : ∀ j, (evs T (j + 12)).m "Stack" "all_leaves" sd [] = .ok (.lst L)) : stepS T (evs T (n + 74)) (envZ sd cd sz gd x4 none none none none) (.asg (.nm 5) [] false (.meth "Stack" "all_leaves" (.var 0) [])) = some (.nx (envZ sd cd sz gd x4 (some (.lst L)) none none none)) := by
  simp [callFI, runB, stepS, evP, evT, evPs, owL, own1, vwL, entE, entA, evs_o, evs_t, evs_b, stepO, stepT, step1, R.calm, Evs.dv, Evs.ds, Evs.os, Evs.ts, Evs.oi, Evs.it, Evs.pl, Ow.fr, frs, dTruth, dBin, dCmp, iCmp, dIdx, dSli, dAtt, dBlt, dBlt1, dBlt2, okN, Ow.nl, D.nl, nls, onls, outF, outM, self0, mkTup, pers, fzo, CT.setO, CTs.setO, putP, Tab.kd, tyN, evs_k, D.asS, D.asL, D.f0, D.in0, D.eq0, D.flat, flats, fdep, eqvI, eqv_str, eqv_bl, eqv_lst, eqv_tup, eqvs_cons, eqvs_nil, eqvs_nc, eqvs_cn, isas, xis, sne, sok, dNeg, dRev, look, keyT, D.isN, Tab.mkX, frs_per, Ow.strip, Ow.isAt, Ow.put, Ow.over, frs_app, Ow.kids, Ow.setKids, -List.map_map, -List.map_take, -List.map_drop, envZ, hall]
theorem zs3 (n : Nat) (sd cd sz gd : D) (p ps rest : List Ow) (x4 : Option Ow) (hz : rest.length < 1000) (hall : ∀ j, (evs T (j + 12)).m "Stack" "all_leaves" sd [] = .ok (.lst (.lst (.lst p :: ps) :: rest)))
    (hsz : ∀ j, (evs T (j + 12)).m "Stack" "size" sd [] = .ok (.per sz)) (h1 : ∀ j, (evs T (j + 60)).f i_l_same [sz, sz] = .ok (.per (.bl true))) (h2 : ∀ j, (evs T (j + 60)).f i_l_same [gd, gd] = .ok (.per (.bl true))) (hfr : D.lst (frs (.lst (.lst p :: ps) :: rest)) = gd)
    (hout : ∀ x4 x5, stepS T (evs T (n + 74)) (envZ sd cd sz gd x4 x5 none none none) foZ6 = some (.nx (envZ sd cd sz gd x4 x5 none none none))) :
    (evs T (n + 75)).b (envZ sd cd sz gd x4 none none none none) bdZ = some (.nx (envZ sd cd sz gd none none none none none)) := by
  rw [evs_b, runB_nx (zs1 n sd cd sz gd _ x4 hall), runB_nx (ife_n0 _ _ _ _ _ (zT (n + 4) sd cd sz gd _ x4 hsz h1 h2 hfr) rfl), runB_nx (hout _ _)]
  exact zClr (n + 54) sd cd sz gd _ _ _ x4 hz
theorem zs4 (n : Nat) (sd cd sz gd : D) (h : ∀ x4, (evs T (n + 75)).b (envZ sd cd sz gd x4 none none none none) bdZ = some (.nx (envZ sd cd sz gd none none none none none))) :
    stepS T (evs T (n + 75)) (envZ sd cd sz gd none none none none none) (.for_ (.nm 4) [] (.range [(.cst (.int 2))]) bdZ) = some (.nx (envZ sd cd sz gd none none none none none)) :=
  for_rng _ _ _ _ _ _ _ (it_rng (n + 75) _ _ 2 (by omega) rfl) (forE_const _ _ _ fun i _ => ⟨_, rfl, h _⟩)
theorem zs5 (n : Nat) (sd cd sz gd : D) (e0 : stepS T (evs T (n + 75)) [some (.per sd), some (.per cd), some (.per sz), none, none, none, none, none, none] (.asg (.nm 3) [] true (.call i_l_leaves [(.var 1), (.var 2)])) = some (.nx (envZ sd cd sz gd none none none none none)))
    (e4 : stepS T (evs T (n + 75)) (envZ sd cd sz gd none none none none none) (.for_ (.nm 4) [] (.range [(.cst (.int 2))]) bdZ) = some (.nx (envZ sd cd sz gd none none none none none))) : (evs T (n + 76)).f i_l_stands [sd, cd, sz] = .ok (.per (.bl true)) := by
  rw [call_fn fn_l_stands]
  show outF (runB T (evs T (n + 75)) b_l_stands [some (.per sd), some (.per cd), some (.per sz), none, none, none, none, none, none]) = _
  unfold b_l_stands
  rw [runB_nx e0, runB_nx e4]
  rfl
theorem same_sz (r c : Int) (j : Nat) : (evs T (j + 60)).f i_l_same [.tup [.int r, .int c], .tup [.int r, .int c]] = .ok (.per (.bl true)) := same_refl 1 _ (by simp [okA]) (j + 36)
theorem same_grid (g : Grid) (G : GOk g) (j : Nat) : (evs T (j + 60)).f i_l_same [gridD g, gridD g] = .ok (.per (.bl true)) := same_refl 4 _ (okA_grid 0 _ G) j
theorem stands_ok (n : Nat) (cs : List Ce) (C : COk cs) (r c : Nat) (past : List Grid) (g : Grid) (hgd : g = dueG cs r c) (G : GOk g) (hr : g.length = r) (hc : colsN g = c) (hc1 : 1 ≤ c) : (evs T (n + 76)).f i_l_stands [stkD g past, dictL cs, .tup [.int r, .int c]] = .ok (.per (.bl true)) := by
  have hdue := fun k => lleaves_ok cs C r c (by have := G.r8; omega) (by have := G.c8; omega) k
  rw [← hgd] at hdue
  have hsz : ∀ j, (evs T (j + 12)).m "Stack" "size" (stkD g past) [] = .ok (.per (.tup [.int r, .int c])) := fun j => by
    have := size_ok (j + 2) g past G.ne
    rw [hr, hc] at this
    exact this
  have hall := fun j => all_ok j g past (by have := G.r8; omega) fun row hrow => by rw [G.w row hrow]; have := G.c8; omega
  have hout := fun x4 x5 => zOuter (n + 1) g past G (dictL cs) x4 x5
  rw [hr, hc] at hout
  have hfr := all_fr g
  have hd3 : (Ow.lst ((g.map lineD).map .per)).fr = gridD g := by simp only [Ow.fr, frs_per, gridD]
  have hs2 := same_grid g G
  have hrl := G.r8
  have hne := G.ne
  refine zs5 n _ _ _ (gridD g) (zs0 n _ _ _ _ _ hdue hd3) (zs4 n _ _ _ _ fun x4 => ?_)
  clear hd3 hdue
  cases g with
  | nil => exact absurd rfl hne
  | cons row rows =>
    cases row with
    | nil => simp [colsN] at hc; omega
    | cons p ps => exact zs3 n _ _ _ _ ((p.map Lf.d).map .per) (ps.map ownP) (rows.map fun (row : List Pile) => Ow.lst (row.map ownP)) x4 (by simp only [List.length_cons] at hrl; simp only [List.length_map]; omega) hall hsz (same_sz r c) hs2 hfr hout

end Lw

set_option Elab.async false
set_option linter.all false
set_option autoImplicit false
set_option maxRecDepth 100000
set_option maxHeartbeats 1000001
namespace Lw
open PySem Pu
/-! ### what a fold keeps -/
structure PS where
  g : Grid
  past : List Grid
  cs : List Ce
  r : Nat
  c : Nat
def PS.nx (s : PS) (f : Fx) : PS := ⟨foldG f.ov f.br f.bh f.m s.g, s.past ++ [s.g], mvs f.br f.bh f.ov f.m s.r s.c s.cs, if f.br then s.r - f.m else s.r, if f.br then s.c else s.c - f.m⟩
structure PS.Ok (s : PS) : Prop where
  ci : CI s.r s.c s.cs
  g : s.g = dueG s.cs s.r s.c
  r : 1 ≤ s.r ∧ s.r ≤ 8
  c : 1 ≤ s.c ∧ s.c ≤ 8
theorem spM_in (br bh : Bool) (m sz : Int) (e : Ce) (h : 1 ≤ spotC br e ∧ spotC br e ≤ sz) (hm : 1 ≤ m ∧ 2 * m ≤ sz) : 1 ≤ spM br bh m sz e ∧ spM br bh m sz e ≤ sz - m := by
  have hg := goes_iff br bh m sz e
  unfold spM
  by_cases q : goesC br bh m sz e = true
  · rw [if_pos q]
    have := hg.mp q
    cases bh <;> simp at this ⊢ <;> omega
  · rw [if_neg q]
    have := fun z => q (hg.mpr z)
    cases bh <;> simp at this ⊢ <;> omega
theorem Ce.place {br : Bool} {e e' : Ce} (h1 : othC br e = othC br e') (h2 : spotC br e = spotC br e') : e.a = e'.a ∧ e.d = e'.d := by
  cases br <;> simp only [othC, spotC, Bool.false_eq_true, if_false, if_true] at h1 h2
  · exact ⟨h2, h1⟩
  · exact ⟨h1, h2⟩
theorem CI.oth {r c : Nat} {cs : List Ce} (C : CI r c cs) (br : Bool) {e : Ce} (he : e ∈ cs) : (1 ≤ othC br e ∧ othC br e ≤ (if br then (c : Int) else r)) ∧ (1 ≤ spotC br e ∧ spotC br e ≤ (if br then (r : Int) else c)) := by
  have := C.rg e he
  cases br <;> simp only [othC, spotC, Bool.false_eq_true, if_false, if_true]
  · exact ⟨this.2, this.1⟩
  · exact ⟨this.1, this.2⟩
theorem mv_inj (br bh over : Bool) (m sz lo hi : Int) (x y : Ce) (bx : lo ≤ x.h ∧ x.h ≤ hi) (by' : lo ≤ y.h ∧ y.h ≤ hi) (hs : spM br bh m sz x = spM br bh m sz y) (hh : (mv br bh over m sz lo hi x).h = (mv br bh over m sz lo hi y).h) : spotC br x = spotC br y ∧ x.h = y.h := by
  rw [mv_h, mv_h] at hh
  unfold spM at hs
  by_cases q1 : goesC br bh m sz x = true <;> by_cases q2 : goesC br bh m sz y = true <;> simp only [q1, q2, if_true, if_false, Bool.false_eq_true] at hs hh
  · cases bh <;> cases over <;> simp at hs hh <;> omega
  · cases over <;> simp at hh <;> omega
  · cases over <;> simp at hh <;> omega
  · cases bh <;> simp at hs <;> omega
theorem CI.move {r c : Nat} {cs : List Ce} (C : CI r c cs) (br bh over : Bool) (m : Nat) (hm : 1 ≤ m ∧ 2 * m ≤ (if br then r else c)) : CI (if br then r - m else r) (if br then c else c - m) (mvs br bh over m r c cs) := by
  have hmI : 1 ≤ (m : Int) ∧ 2 * (m : Int) ≤ (if br then (r : Int) else c) := by cases br <;> simp at hm ⊢ <;> omega
  refine ⟨?_, ?_, ?_, ?_, ?_⟩
  · unfold mvs
    rw [List.map_map]
    exact C.nd
  · intro h
    exact C.ne (List.map_eq_nil_iff.mp h)
  · unfold mvs
    rw [List.length_map]
    exact C.len
  · intro e he e' he' ha hd hh
    obtain ⟨x, hx, rfl⟩ := List.mem_map.mp he
    obtain ⟨y, hy, rfl⟩ := List.mem_map.mp he'
    have ho : othC br x = othC br y := by
      rw [← mv_oth br bh over m (if br then (r : Int) else c) (loC cs) (hiC cs) x, ← mv_oth br bh over m (if br then (r : Int) else c) (loC cs) (hiC cs) y]
      cases br <;> simp only [othC, Bool.false_eq_true, if_false, if_true]
      · exact hd
      · exact ha
    have hs : spM br bh m (if br then (r : Int) else c) x = spM br bh m (if br then (r : Int) else c) y := by
      rw [← mv_spot br bh over m (if br then (r : Int) else c) (loC cs) (hiC cs) x, ← mv_spot br bh over m (if br then (r : Int) else c) (loC cs) (hiC cs) y]
      cases br <;> simp only [spotC, Bool.false_eq_true, if_false, if_true]
      · exact ha
      · exact hd
    obtain ⟨k1, k2⟩ := mv_inj br bh over m _ _ _ x y (lohi hx) (lohi hy) hs hh
    obtain ⟨k3, k4⟩ := Ce.place ho k1
    rw [C.ap x hx y hy k3 k4 k2]
  · intro e he
    obtain ⟨x, hx, rfl⟩ := List.mem_map.mp he
    obtain ⟨h1, h2⟩ := C.oth br hx
    have h3 := spM_in br bh m (if br then (r : Int) else c) x h2 hmI
    have hc1 : ((if br then r - m else r : Nat) : Int) = if br then (r : Int) - m else r := by cases br <;> simp at hm ⊢; omega
    have hc2 : ((if br then c else c - m : Nat) : Int) = if br then (c : Int) else (c : Int) - m := by cases br <;> simp at hm ⊢; omega
    rw [hc1, hc2, mv_a, mv_d]
    cases br <;> simp only [othC, Bool.false_eq_true, if_false, if_true] at h1 h3 ⊢
    · exact ⟨h3, h1⟩
    · exact ⟨h1, h3⟩
theorem atB_out {r c : Nat} {cs : List Ce} (C : CI r c cs) (br : Bool) (o p : Int) (h : p < 1 ∨ (if br then (r : Int) else c) < p) : atB br cs o p = [] := by
  have : hereB br o p cs = [] := by
    rw [List.eq_nil_iff_forall_not_mem]
    intro e he
    obtain ⟨h1, h2, h3⟩ := hereB_mem.mp he
    have := (C.oth br h1).2
    omega
  simp [atB, this, sortC]
theorem onP_nil (over b : Bool) (y : Pile) : onP over (turnP b []) y = y := by cases over <;> simp [onP, turnP]
/-- the law of folding -/
theorem fold_line {r c : Nat} {cs : List Ce} (C : CI r c cs) (br bh over : Bool) (m : Nat) (hm : 1 ≤ m ∧ 2 * m ≤ (if br then r else c)) (o : Int) (k : Nat) (hk : k < (if br then r else c) - m) :
    fAt over br bh m (if br then r else c) (fun i => atB br cs o (1 + (i : Int))) k = atB br (mvs br bh over m r c cs) o (1 + (k : Int)) := by
  have C2 := C.move br bh over m hm
  have e0 : (if br then (r : Int) else c) = ((if br then r else c : Nat) : Int) := by cases br <;> rfl
  have hf := fold_at C br bh over m (if br then (r : Int) else c) o (1 + (k : Int)) ⟨by omega, by rw [e0]; omega⟩ fun a d => C2.pair a d
  show _ = atB br (cs.map (mv br bh over m (if br then (r : Int) else c) (loC cs) (hiC cs))) o (1 + (k : Int))
  rw [hf]
  have out := fun p h => atB_out C br o p h
  rw [e0] at out ⊢
  generalize hn : (if br then r else c) = n at *
  unfold fAt srcM srcY
  cases bh
  · simp only [Bool.false_eq_true, if_false]
    have e1 : (1 : Int) + k + m = 1 + ((m + k : Nat) : Int) := by omega
    rw [e1]
    by_cases q : k < m
    · rw [if_pos q]
      have e2 : (m : Int) + 1 - (1 + k) = 1 + ((m - 1 - k : Nat) : Int) := by omega
      rw [e2]
    · rw [if_neg q, out (m + 1 - (1 + k)) (by omega), onP_nil]
  · simp only [if_true]
    by_cases q : n ≤ k + 2 * m
    · rw [if_pos q]
      have e2 : 2 * ((n : Int) - m) + 1 - (1 + k) = 1 + ((2 * (n - m) - 1 - k : Nat) : Int) := by omega
      rw [e2]
    · rw [if_neg q, out (2 * ((n : Int) - m) + 1 - (1 + k)) (by omega), onP_nil]
theorem PS.nx_ok (s : PS) (h : s.Ok) (f : Fx) (hf : 1 ≤ f.m ∧ 2 * f.m ≤ (if f.br then s.r else s.c)) : (s.nx f).Ok := by
  obtain ⟨g, past, cs, r, c⟩ := s
  obtain ⟨br, bh, ov, m⟩ := f
  obtain ⟨C, hg, hr, hc⟩ := h
  simp only at C hg hr hc hf
  refine ⟨C.move br bh ov m hf, ?_, ?_, ?_⟩
  · show foldG ov br bh m g = dueG (mvs br bh ov m r c cs) (if br then r - m else r) (if br then c else c - m)
    have e : dueG cs r c = Lw.mk r c fun i j => atL cs (1 + (j : Int)) (1 + (i : Int)) := rfl
    rw [hg, e, fold_mk ov br bh m r c _ hr.1 hc.1 hf]
    refine mk_congr fun i hi j hj => ?_
    cases br
    · simp only [Bool.false_eq_true, if_false] at hi hj ⊢
      exact fold_line C false bh ov m hf (1 + (i : Int)) j hj
    · simp only [if_true] at hi hj ⊢
      exact fold_line C true bh ov m hf (1 + (j : Int)) i hi
  · show 1 ≤ (if br then r - m else r) ∧ (if br then r - m else r) ≤ 8
    cases br <;> simp at hf ⊢ <;> omega
  · show 1 ≤ (if br then c else c - m) ∧ (if br then c else c - m) ≤ 8
    cases br <;> simp at hf ⊢ <;> omega
theorem due_gok {r c : Nat} {cs : List Ce} (C : CI r c cs) (hr : 1 ≤ r ∧ r ≤ 8) (hc : 1 ≤ c ∧ c ≤ 8) : GOk (dueG cs r c) ∧ (dueG cs r c).length = r ∧ colsN (dueG cs r c) = c := by
  have e : dueG cs r c = mk r c fun i j => atL cs (1 + (j : Int)) (1 + (i : Int)) := rfl
  have e1 : (dueG cs r c).length = r := by rw [e]; exact mk_len r c _
  have e2 : colsN (dueG cs r c) = c := by rw [e]; exact mk_cols r c _ hr.1
  refine ⟨⟨fun h => by rw [h] at e1; simp at e1; omega, fun row hrow => ?_, by omega, by omega, fun row hrow p hp => ?_⟩, e1, e2⟩
  · rw [e2]
    rw [e] at hrow
    obtain ⟨i, _, rfl⟩ := List.mem_map.mp hrow
    simp
  · rw [e] at hrow
    obtain ⟨i, _, rfl⟩ := List.mem_map.mp hrow
    obtain ⟨j, _, rfl⟩ := List.mem_map.mp hp
    have h1 := C.len
    have h2 := List.length_filter_le (fun e : Ce => decide (e.a = 1 + (j : Int)) && decide (e.d = 1 + (i : Int))) cs
    simp only [atL, List.length_map, sortC_len, hereC]
    omega
theorem PS.gok {s : PS} (h : s.Ok) : GOk s.g ∧ s.g.length = s.r ∧ colsN s.g = s.c := by rw [h.g]; exact due_gok h.ci h.r h.c
/-! ### the beginning -/
theorem cells0_mem {r c : Nat} {e : Ce} : e ∈ cells0 r c ↔ ∃ i < r, ∃ j < c, e = ⟨(i : Int) + 1, (j : Int) + 1, (j : Int) + 1, (i : Int) + 1, 0, false, false⟩ := by
  simp only [cells0, List.mem_flatMap, List.mem_map, List.mem_range]
  constructor
  · rintro ⟨i, hi, j, hj, rfl⟩; exact ⟨i, hi, j, hj, rfl⟩
  · rintro ⟨i, hi, j, hj, rfl⟩; exact ⟨i, hi, j, hj, rfl⟩
theorem begin_fin (r c : Nat) (hr : 1 ≤ r ∧ r ≤ 8) (hc : 1 ≤ c ∧ c ≤ 8) (hz : r * c ≤ 32) : ((cells0 r c).map Ce.k).Nodup ∧ (cells0 r c).length ≤ 32 ∧ grid0 r c = dueG (cells0 r c) r c := by
  have h1 : r = 1 ∨ r = 2 ∨ r = 3 ∨ r = 4 ∨ r = 5 ∨ r = 6 ∨ r = 7 ∨ r = 8 := by omega
  have h2 : c = 1 ∨ c = 2 ∨ c = 3 ∨ c = 4 ∨ c = 5 ∨ c = 6 ∨ c = 7 ∨ c = 8 := by omega
  rcases h1 with rfl | rfl | rfl | rfl | rfl | rfl | rfl | rfl <;> rcases h2 with rfl | rfl | rfl | rfl | rfl | rfl | rfl | rfl <;> first
    | (exact absurd hz (by decide))
    | exact ⟨by decide +kernel, by decide +kernel, by kernel_rfl⟩
def PS.begin (r c : Nat) : PS := ⟨grid0 r c, [], cells0 r c, r, c⟩
theorem begin_ok (r c : Nat) (hr : 1 ≤ r ∧ r ≤ 8) (hc : 1 ≤ c ∧ c ≤ 8) (hz : r * c ≤ 32) : (PS.begin r c).Ok := by
  obtain ⟨h1, h2, h3⟩ := begin_fin r c hr hc hz
  refine ⟨⟨h1, ?_, h2, ?_, ?_⟩, h3, hr, hc⟩
  · show cells0 r c ≠ []
    intro h
    have : (⟨((0 : Nat) : Int) + 1, ((0 : Nat) : Int) + 1, ((0 : Nat) : Int) + 1, ((0 : Nat) : Int) + 1, 0, false, false⟩ : Ce) ∈ cells0 r c := cells0_mem.mpr ⟨0, by omega, 0, by omega, rfl⟩
    rw [h] at this
    cases this
  · intro e he e' he' ha hd hh
    obtain ⟨i, hi, j, hj, rfl⟩ := cells0_mem.mp he
    obtain ⟨i', hi', j', hj', rfl⟩ := cells0_mem.mp he'
    simp only at ha hd
    have e1 : i = i' := by omega
    have e2 : j = j' := by omega
    rw [e1, e2]
  · intro e he
    obtain ⟨i, hi, j, hj, rfl⟩ := cells0_mem.mp he
    show (1 ≤ (j : Int) + 1 ∧ (j : Int) + 1 ≤ c) ∧ (1 ≤ (i : Int) + 1 ∧ (i : Int) + 1 ≤ r)
    omega
theorem forE_rest {α σ : Type} {E : Evs} {t : CT} {body : List CS} (f : α → D) (st : σ → Ev) (g : σ → α → σ) (I : List α → σ → Prop) (hb : ∀ x xs s, I (x :: xs) s → (∃ e1, t.setO (st s) (.per (f x)) = some e1 ∧ E.b e1 body = some (.nx (st (g s x)))) ∧ I xs (g s x)) : ∀ (xs : List α) (s : σ), I xs s →
    forE E t body (xs.map f) (st s) = some (.nx (st (xs.foldl g s))) ∧ I [] (xs.foldl g s)
  | [], s, h => ⟨rfl, h⟩
  | x :: xs, s, h => by
    obtain ⟨⟨e1, h1, h2⟩, h3⟩ := hb x xs s h
    obtain ⟨i1, i2⟩ := forE_rest f st g I hb xs (g s x) h3
    exact ⟨by simp only [List.map_cons, forE, h1, h2, i1, List.foldl_cons], i2⟩
/-- folds that can be done from here on, down to one place -/
def PS.Go (fs : List Fx) (s : PS) : Prop := s.Ok ∧ okX s.r s.c fs = some (1, 1) ∧ s.past.length + fs.length ≤ 14
theorem PS.go_nx {f : Fx} {fs : List Fx} {s : PS} (h : PS.Go (f :: fs) s) : (1 ≤ f.m ∧ 2 * f.m ≤ (if f.br then s.r else s.c)) ∧ PS.Go fs (s.nx f) := by
  obtain ⟨h1, h2, h3⟩ := h
  rw [okX] at h2
  by_cases hf : 1 ≤ f.m ∧ 2 * f.m ≤ (if f.br then s.r else s.c)
  · rw [if_pos hf] at h2
    refine ⟨hf, s.nx_ok h1 f hf, h2, ?_⟩
    simp only [PS.nx, List.length_append, List.length_cons, List.length_nil] at h3 ⊢
    omega
  · rw [if_neg hf] at h2
    cases h2
theorem Sx.go {s : Sx} (h : s.Ok) : PS.Go s.fs (PS.begin s.r s.c) := ⟨begin_ok s.r s.c h.r1 h.c1 h.z, h.ok, by have := h.l; simp [PS.begin]; omega⟩

end Lw

set_option Elab.async false
set_option linter.all false
set_option autoImplicit false
set_option maxRecDepth 100000
set_option maxHeartbeats 1000001
namespace Lw
open PySem Pu
/-! ### steps over any fuel -/
theorem o_call {n i : Nat} {es : List CE} {ds : List D} {env : Ev} {o : Ow} (h1 : (evs T n).ds env es = .ok ds) (h2 : (evs T n).f i ds = .ok o) : (evs T (n + 1)).o env (.call i es) = .ok o := by
  rw [evs_o]
  simp only [stepO, h1, h2]
theorem o_make {n : Nat} {c : Str} {es : List CE} {ds : List D} {env : Ev} {o : Ow} (h1 : (evs T n).ds env es = .ok ds) (h2 : (evs T n).io c "__init__" (.ins c [] []) ds = .ok o (.per .non)) : (evs T (n + 1)).o env (.make c es) = .ok o := by
  rw [evs_o]
  simp only [stepO, h1, h2]
theorem o_meth {n : Nat} {c m : Str} {a : CE} {x : D} {es : List CE} {ds : List D} {env : Ev} {o : Ow} (h0 : (evs T n).dv env a = .ok x) (h1 : (evs T n).ds env es = .ok ds) (h2 : (evs T n).m c m x ds = .ok o) : (evs T (n + 1)).o env (.meth c m a es) = .ok o := by
  rw [evs_o]
  simp only [stepO, h0, h1, h2]
theorem ds_nil {E : Evs} {env : Ev} : E.ds env [] = .ok [] := rfl
theorem ds_cons {E : Evs} {env : Ev} {c : CE} {cs : List CE} {o : Ow} {d : D} {ds : List D} (h : E.o env c = .ok o) (hf : o.fr = d) (h2 : E.ds env cs = .ok ds) : E.ds env (c :: cs) = .ok (d :: ds) := by
  rw [Evs.ds, h]
  simp only [h2, hf]
theorem t_not {n : Nat} {env : Ev} {a : CE} {q : Bool} (h : (evs T n).t env a = .ok q) : (evs T (n + 1)).t env (.not a) = .ok (!q) := by
  rw [evs_t]
  simp only [stepT, h]
theorem t_call {n i : Nat} {env : Ev} {es : List CE} {q : Bool} (h : (evs T n).o env (.call i es) = .ok (.per (.bl q))) : (evs T (n + 1)).t env (.call i es) = .ok q := by
  rw [evs_t]
  simp only [stepT, h, Ow.fr, dTruth, R.calm]
theorem st_asg {E : Evs} {env : Ev} {i : Nat} {fz : Bool} {e : CE} {o o2 : Ow} (h : E.o env e = .ok o) (ho : fzo fz o = o2) (hi : i < env.length) (ha : o2.isAt = false) : stepS T E env (.asg (.nm i) [] fz e) = some (.nx (env.set i (some o2))) := by
  simp only [stepS, evP_nil, h, ho]
  cases o2 <;> first | (cases ha; done) | simp [CT.setO, hi]
theorem ife_no (E : Evs) (L : List Nat) (env : Ev) (c : CE) (a : List CS) (h : evT E L env c = .ok false) (hb : E.b env [] = some (.nx env)) : stepS T E env (.ife L c a []) = some (.nx env) := by
  simp only [stepS, h, hb]
theorem evT_of {E : Evs} {L : List Nat} {env env2 : Ev} {c : CE} {q : Bool} (hv : vwL L env = env2) (h : E.t env2 c = .ok q) : evT E L env c = .ok q := by
  unfold evT
  rw [hv, h]
theorem b_nil {n : Nat} {env : Ev} : (evs T (n + 1)).b env [] = some (.nx env) := rfl
/-! ### folded_stack -/
theorem pers_per : ∀ ds : List D, pers (ds.map .per) = some ds
  | [] => rfl
  | d :: ds => by simp only [List.map_cons, pers, pers_per ds]
theorem mth_no (E : Evs) (env : Ev) (i : Nat) (c m : Str) (es : List CE) (ds : List D) (ns : List Str) (os : List Ow) (s r : Ow) (hes : evPs E [] env es = .ok ds) (hp : env[i]? = some (some (.ins c ns os))) (hm : m ∉ ns ∧ m ≠ "__init__") (hio : E.io c m (.ins c ns os) ds = .ok s r) (hs : s.isAt = false) (hr : r.isAt = false) : stepS T E env (.mth .no (.var i) c m [] es) = some (.nx (env.set i (some s))) := by
  simp only [stepS, hes, Evs.pl, hp, Ow.strip, if_pos (show c = c ∧ m ∉ ns ∧ m ≠ "__init__" from ⟨rfl, hm.1, hm.2⟩), hio, hs, hr, Bool.or_self, putP, Ow.put]
  simp [hm.1, hm.2, Ow.over]
theorem ifM_no (E : Evs) (env : Ev) (i : Nat) (c m : Str) (es : List CE) (ds : List D) (ns : List Str) (os : List Ow) (s : Ow) (a : List CS) (hes : evPs E [] env es = .ok ds) (hp : env[i]? = some (some (.ins c ns os))) (hm : m ∉ ns ∧ m ≠ "__init__") (hio : E.io c m (.ins c ns os) ds = .ok s (.per .non)) (hs : s.isAt = false) (hb : E.b (env.set i (some s)) [] = some (.nx (env.set i (some s)))) : stepS T E env (.ifM (.var i) c m [] es a []) = some (.nx (env.set i (some s))) := by
  simp only [stepS, hes, Evs.pl, hp, Ow.strip, if_pos (show c = c ∧ m ∉ ns ∧ m ≠ "__init__" from ⟨rfl, hm.1, hm.2⟩), hio, hs, putP, Ow.put, D.isN]
  simpa [hm.1, hm.2, Ow.over] using hb
theorem fold_io (n : Nat) (s : PS) (h : s.Ok) (f : Fx) (hf : 1 ≤ f.m ∧ 2 * f.m ≤ (if f.br then s.r else s.c)) (hp : s.past.length ≤ 14) : (evs T (n + 26)).io "Stack" "fold_part" (stkO s.g s.past) [.str (edgeS f.br f.bh), .int f.m, .str (wayS f.ov)] = .ok (stkO (s.nx f).g (s.nx f).past) (.per .non) := by
  obtain ⟨G, h1, h2⟩ := s.gok h
  refine fold_ok n s.g s.past G (by rw [h2]; exact h.c.1) f.br f.bh f.ov f.m ⟨hf.1, ?_⟩ (by omega)
  unfold mostF
  rw [h1, h2]
  cases hb : f.br <;> simp only [hb, Bool.false_eq_true, if_false, if_true] at hf ⊢ <;> omega
def schD (r c : Int) (ds : List D) : D := .obj "Scheme" ["rows", "columns", "folds"] [.int r, .int c, .lst ds]
def envY (r c : Int) (ds : List D) (x4 x5 x6 x7 : Option Ow) : Ev := [some (.per (schD r c ds)), some (.per (.int r)), some (.per (.int c)), some (.per (.lst ds)), x4, x5, x6, x7]
abbrev bdY : List CS := [.mth .no (.var 4) "Stack" "fold_part" [] [(.var 5), (.var 6), (.var 7)], .wipe [5, 6, 7]]
theorem y_args (n : Nat) (r c : Int) (ds : List D) (x4 : Option Ow) (a b d : D) : evPs (evs T (n + 2)) [] (envY r c ds x4 (some (.per a)) (some (.per b)) (some (.per d))) [(.var 5), (.var 6), (.var 7)] = .ok [a, b, d] := rfl
theorem spn : ("fold_part" : Str) ∉ (["spots", "past"] : List Str) ∧ ("fold_part" : Str) ≠ "__init__" := by decide +kernel
theorem y_body (n : Nat) (r c : Int) (ds : List D) (s : PS) (h : s.Ok) (f : Fx) (hf : 1 ≤ f.m ∧ 2 * f.m ≤ (if f.br then s.r else s.c)) (hp : s.past.length ≤ 14) :
    (evs T (n + 28)).b (envY r c ds (some (stkO s.g s.past)) (some (.per (.str (edgeS f.br f.bh)))) (some (.per (.int f.m))) (some (.per (.str (wayS f.ov))))) bdY = some (.nx (envY r c ds (some (stkO (s.nx f).g (s.nx f).past)) none none none)) := by
  rw [evs_b]
  exact (runB_nx (mth_no (evs T (n + 27)) _ 4 _ _ _ _ _ _ _ _ (y_args (n + 25) r c ds _ _ _ _) rfl spn (fold_io (n + 1) s h f hf hp) rfl rfl)).trans rfl
theorem y_loop (n : Nat) (r c : Int) (ds : List D) (fs : List Fx) (s : PS) (h : PS.Go fs s) :
    forE (evs T (n + 28)) (.tp (.cons (.nm 5) (.cons (.nm 6) (.cons (.nm 7) .nil)))) bdY (fs.map Fx.d) (envY r c ds (some (stkO s.g s.past)) none none none) = some (.nx (envY r c ds (some (stkO (fs.foldl PS.nx s).g (fs.foldl PS.nx s).past)) none none none)) :=
  (forE_rest Fx.d (fun (s : PS) => envY r c ds (some (stkO s.g s.past)) none none none) PS.nx PS.Go (fun f fs s h => by
    obtain ⟨h1, h2⟩ := PS.go_nx h
    have hp : s.past.length ≤ 14 := by have := h.2.2; omega
    exact ⟨⟨_, rfl, y_body n r c ds s h.1 f h1 hp⟩, h2⟩) fs s h).1
theorem y0 (n : Nat) (r c : Int) (ds : List D) : stepS T (evs T (n + 30)) [some (.per (schD r c ds)), none, none, none, none, none, none, none] (.asg (.tp (.cons (.nm 1) (.cons (.nm 2) (.cons (.nm 3) .nil)))) [] true (.meth "Scheme" "told" (.var 0) [])) = some (.nx (envY r c ds none none none none)) := by
  have h := told_ok (n + 17) r c ds
  have e : (evs T (n + 30)).o [some (.per (schD r c ds)), none, none, none, none, none, none, none] (.meth "Scheme" "told" (.var 0) []) = .ok (.tup [.per (.int r), .per (.int c), .lst (ds.map .per)]) := h
  have hf : (Ow.tup [.per (.int r), .per (.int c), .lst (ds.map .per)]).fr = .tup [.int r, .int c, .lst ds] := by simp only [Ow.fr, frs, frs_per]
  simp only [stepS, evP_nil, e, fzo, hf, if_true]
  rfl
theorem y1 (n : Nat) (r c : Nat) (ds : List D) (hr : 1 ≤ r ∧ r ≤ 8) (hc : 1 ≤ c ∧ c ≤ 8) (hz : r * c ≤ 32) : stepS T (evs T (n + 30)) (envY r c ds none none none none) (.asg (.nm 4) [] false (.make "Stack" [(.var 1), (.var 2)])) = some (.nx (envY r c ds (some (stkO (grid0 r c) [])) none none none)) := by
  have h := stk_init r c hr hc hz (n + 13)
  have e : (evs T (n + 30)).o (envY r c ds none none none none) (.make "Stack" [(.var 1), (.var 2)]) = .ok (stkO (grid0 r c) []) := by
    rw [evs_o]
    have e0 : (evs T (n + 29)).ds (envY r c ds none none none none) [(.var 1), (.var 2)] = .ok [.int r, .int c] := rfl
    simp only [stepO, e0, h]
  simp only [stepS, evP_nil, e, fzo]
  rfl
theorem folded_stack_ok (n : Nat) (s : Sx) (h : s.Ok) : (evs T (n + 31)).f i_folded_stack [schD s.r s.c (s.fs.map Fx.d)] = .ok (stkO (s.fs.foldl PS.nx (PS.begin s.r s.c)).g (s.fs.foldl PS.nx (PS.begin s.r s.c)).past) := by
  have hl := y_loop (n + 2) s.r s.c (s.fs.map Fx.d) s.fs (PS.begin s.r s.c) (Sx.go h)
  have hit : (evs T (n + 30)).it (envY s.r s.c (s.fs.map Fx.d) (some (stkO (grid0 s.r s.c) [])) none none none) (.var 3) = .ok (s.fs.map Fx.d) := rfl
  have e2 := for_step (E := evs T (n + 30)) hit hl
  rw [call_fn fn_folded_stack]
  show outF (runB T (evs T (n + 30)) b_folded_stack [some (.per (schD s.r s.c (s.fs.map Fx.d))), none, none, none, none, none, none, none]) = _
  unfold b_folded_stack
  rw [runB_nx (y0 n s.r s.c (s.fs.map Fx.d)), runB_nx (y1 n s.r s.c _ h.r1 h.c1 h.z), runB_nx e2]
  generalize s.fs.foldl PS.nx (PS.begin s.r s.c) = z
  rfl
/-- at the end there is one place -/
theorem go_end : ∀ (fs : List Fx) (s : PS), PS.Go fs s → PS.Go [] (fs.foldl PS.nx s)
  | [], s, h => h
  | f :: fs, s, h => go_end fs (s.nx f) (PS.go_nx h).2

end Lw

set_option Elab.async false
set_option linter.all false
set_option autoImplicit false
set_option maxRecDepth 100000
set_option maxHeartbeats 1000001
namespace Lw
open PySem Pu
/-! ### the law -/
structure LE where
  ns : D
  k : Int
  v : Int
  r : Int
  c : Int
  ds : List D
def envQ (l : LE) (x6 x7 x8 x9 : Option Ow) : Ev := [some (.per l.ns), some (.per (.int l.k)), some (.per (.int l.v)), some (.per (.int l.r)), some (.per (.int l.c)), some (.per (.lst l.ds)), x6, x7, x8, x9]
def szD (r c : Nat) : D := .tup [.int r, .int c]
abbrev tsQ : CE := .not (.call i_l_stands [(.var 6), (.var 7), (.var 8)])
theorem q_t (n : Nat) (env : Ev) (a b c : CE) (sd cd zd : D) (h : (evs T (n + 77)).ds env [a, b, c] = .ok [sd, cd, zd]) (hst : ∀ j, (evs T (j + 76)).f i_l_stands [sd, cd, zd] = .ok (.per (.bl true))) : (evs T (n + 80)).t env (.not (.call i_l_stands [a, b, c])) = .ok false :=
  t_not (t_call (o_call h (hst (n + 1))))
theorem q_st (n : Nat) (l : LE) (c : Str) (ns : List Str) (os : List Ow) (sd cd zd : D) (x9 : Option Ow) (hso : (Ow.ins c ns os).fr = sd) (hst : ∀ j, (evs T (j + 76)).f i_l_stands [sd, cd, zd] = .ok (.per (.bl true))) : stepS T (evs T (n + 80)) (envQ l (some (.ins c ns os)) (some (.per cd)) (some (.per zd)) x9) (.ife [6] tsQ [.ret [] (.cst (.bl false))] []) = some (.nx (envQ l (some (.ins c ns os)) (some (.per cd)) (some (.per zd)) x9)) := by
  have hv : vwL [6] (envQ l (some (.ins c ns os)) (some (.per cd)) (some (.per zd)) x9) = envQ l (some (.per sd)) (some (.per cd)) (some (.per zd)) x9 := by
    rw [← hso]
    rfl
  exact ife_no _ _ _ _ _ (evT_of hv (q_t n _ _ _ _ sd cd zd rfl hst)) rfl
theorem st_all (s : PS) (h : s.Ok) (j : Nat) : (evs T (j + 76)).f i_l_stands [stkD s.g s.past, dictL s.cs, szD s.r s.c] = .ok (.per (.bl true)) := by
  obtain ⟨G, h1, h2⟩ := s.gok h
  exact stands_ok j s.cs h.ci.cok s.r s.c s.past s.g h.g G h1 h2 h.c.1
theorem q_stands (n : Nat) (l : LE) (s : PS) (h : s.Ok) (x9 : Option Ow) : stepS T (evs T (n + 80)) (envQ l (some (stkO s.g s.past)) (some (.per (dictL s.cs))) (some (.per (szD s.r s.c))) x9) (.ife [6] tsQ [.ret [] (.cst (.bl false))] []) = some (.nx (envQ l (some (stkO s.g s.past)) (some (.per (dictL s.cs))) (some (.per (szD s.r s.c))) x9)) :=
  q_st n l _ _ _ _ _ _ x9 (stkO_fr s.g s.past) (st_all s h)
abbrev bdQ : List CS := [.ifM (.var 6) "Stack" "fold_part" [] [(.idx (.var 9) (.cst (.int 0))), (.idx (.var 9) (.cst (.int 1))), (.idx (.var 9) (.cst (.int 2)))] [.ret [] (.cst (.bl false))] [],
    .asg (.nm 7) [] false (.call i_l_moved [(.var 7), (.var 8), (.var 9)]),
    .frzP 7 [],
    .asg (.nm 8) [] true (.call i_l_size [(.var 8), (.var 9)]),
    .ife [6] tsQ [.ret [] (.cst (.bl false))] [],
    .wipe [9]]
theorem q_args (n : Nat) (l : LE) (x6 x7 x8 : Option Ow) (f : Fx) : evPs (evs T (n + 4)) [] (envQ l x6 x7 x8 (some (.per f.d))) [(.idx (.var 9) (.cst (.int 0))), (.idx (.var 9) (.cst (.int 1))), (.idx (.var 9) (.cst (.int 2)))] = .ok [.str (edgeS f.br f.bh), .int f.m, .str (wayS f.ov)] := rfl
theorem q_moved (n : Nat) (l : LE) (x6 : Option Ow) (cs cs2 : List Ce) (z fd : D) (hm : ∀ j, (evs T (j + 16)).f i_l_moved [dictL cs, z, fd] = .ok (dictO cs2)) : stepS T (evs T (n + 80)) (envQ l x6 (some (.per (dictL cs))) (some (.per z)) (some (.per fd))) (.asg (.nm 7) [] false (.call i_l_moved [(.var 7), (.var 8), (.var 9)])) = some (.nx (envQ l x6 (some (dictO cs2)) (some (.per z)) (some (.per fd)))) := by
  have e : (evs T (n + 80)).o (envQ l x6 (some (.per (dictL cs))) (some (.per z)) (some (.per fd))) (.call i_l_moved [(.var 7), (.var 8), (.var 9)]) = .ok (dictO cs2) := by
    generalize dictL cs = cd at *
    generalize dictO cs2 = co at *
    simp [callFI, runB, stepS, evP, evT, evPs, owL, own1, vwL, entE, entA, evs_o, evs_t, evs_b, stepO, stepT, step1, R.calm, Evs.dv, Evs.ds, Evs.os, Evs.ts, Evs.oi, Evs.it, Evs.pl, Ow.fr, frs, dTruth, dBin, dCmp, iCmp, dIdx, dSli, dAtt, dBlt, dBlt1, dBlt2, okN, Ow.nl, D.nl, nls, onls, outF, outM, self0, mkTup, pers, fzo, CT.setO, CTs.setO, putP, Tab.kd, tyN, evs_k, D.asS, D.asL, D.f0, D.in0, D.eq0, D.flat, flats, fdep, eqvI, eqv_str, eqv_bl, eqv_lst, eqv_tup, eqvs_cons, eqvs_nil, eqvs_nc, eqvs_cn, isas, xis, sne, sok, dNeg, dRev, look, keyT, D.isN, Tab.mkX, frs_per, Ow.strip, Ow.isAt, Ow.put, Ow.over, frs_app, Ow.kids, Ow.setKids, -List.map_map, -List.map_take, -List.map_drop, envQ, hm]
  simp only [stepS, evP_nil, e, fzo]
  rfl
theorem q_frz (E : Evs) (l : LE) (x6 x8 x9 : Option Ow) (cs : List Ce) : stepS T E (envQ l x6 (some (dictO cs)) x8 x9) (.frzP 7 []) = some (.nx (envQ l x6 (some (.per (dictL cs))) x8 x9)) := by
  have h := pers_per (cs.map Ce.v)
  have hs : (dictO cs).sub [] = some (.dT (cs.map Ce.k) ((cs.map Ce.v).map .per)) := rfl
  have hp : (dictO cs).put [] (.per (dictL cs)) = .per (dictL cs) := rfl
  have hg : (envQ l x6 (some (dictO cs)) x8 x9)[7]? = some (some (dictO cs)) := rfl
  simp only [stepS, hg, hs, h]
  show some (Out.nx ((envQ l x6 (some (dictO cs)) x8 x9).set 7 (some ((dictO cs).put [] (.per (dictL cs)))))) = _
  rw [hp]
  rfl
theorem q_size (n : Nat) (l : LE) (x6 x7 : Option Ow) (z z2 fd : D) (hm : ∀ j, (evs T (j + 10)).f i_l_size [z, fd] = .ok (.per z2)) : stepS T (evs T (n + 80)) (envQ l x6 x7 (some (.per z)) (some (.per fd))) (.asg (.nm 8) [] true (.call i_l_size [(.var 8), (.var 9)])) = some (.nx (envQ l x6 x7 (some (.per z2)) (some (.per fd)))) := by
  simp [callFI, runB, stepS, evP, evT, evPs, owL, own1, vwL, entE, entA, evs_o, evs_t, evs_b, stepO, stepT, step1, R.calm, Evs.dv, Evs.ds, Evs.os, Evs.ts, Evs.oi, Evs.it, Evs.pl, Ow.fr, frs, dTruth, dBin, dCmp, iCmp, dIdx, dSli, dAtt, dBlt, dBlt1, dBlt2, okN, Ow.nl, D.nl, nls, onls, outF, outM, self0, mkTup, pers, fzo, CT.setO, CTs.setO, putP, Tab.kd, tyN, evs_k, D.asS, D.asL, D.f0, D.in0, D.eq0, D.flat, flats, fdep, eqvI, eqv_str, eqv_bl, eqv_lst, eqv_tup, eqvs_cons, eqvs_nil, eqvs_nc, eqvs_cn, isas, xis, sne, sok, dNeg, dRev, look, keyT, D.isN, Tab.mkX, frs_per, Ow.strip, Ow.isAt, Ow.put, Ow.over, frs_app, Ow.kids, Ow.setKids, -List.map_map, -List.map_take, -List.map_drop, envQ, hm]
theorem q_body (n : Nat) (l : LE) (s : PS) (h : s.Ok) (f : Fx) (hf : 1 ≤ f.m ∧ 2 * f.m ≤ (if f.br then s.r else s.c)) (hp : s.past.length ≤ 14) :
    (evs T (n + 81)).b (envQ l (some (stkO s.g s.past)) (some (.per (dictL s.cs))) (some (.per (szD s.r s.c))) (some (.per f.d))) bdQ = some (.nx (envQ l (some (stkO (s.nx f).g (s.nx f).past)) (some (.per (dictL (s.nx f).cs))) (some (.per (szD (s.nx f).r (s.nx f).c))) none)) := by
  have h2 := s.nx_ok h f hf
  have hmv : ∀ j, (evs T (j + 16)).f i_l_moved [dictL s.cs, szD s.r s.c, f.d] = .ok (dictO (s.nx f).cs) := fun j => moved_ok s.cs h.ci.nd h.ci.ne (by have := h.ci.len; omega) s.r s.c f.br f.bh f.ov f.m j
  have hsz : ∀ j, (evs T (j + 10)).f i_l_size [szD s.r s.c, f.d] = .ok (.per (szD (s.nx f).r (s.nx f).c)) := fun j => by
    have e := lsize_ok j s.r s.c f.m f.br f.bh f.ov
    have e1 : (if f.br = true then (s.r : Int) - f.m else s.r) = ((s.nx f).r : Int) := by
      show _ = ((if f.br then s.r - f.m else s.r : Nat) : Int)
      cases hb : f.br <;> simp only [hb, Bool.false_eq_true, if_false, if_true] at hf ⊢
      omega
    have e2 : (if f.br = true then (s.c : Int) else (s.c : Int) - f.m) = ((s.nx f).c : Int) := by
      show _ = ((if f.br then s.c else s.c - f.m : Nat) : Int)
      cases hb : f.br <;> simp only [hb, Bool.false_eq_true, if_false, if_true] at hf ⊢
      omega
    rw [e1, e2] at e
    exact e
  rw [evs_b]
  refine (runB_nx (ifM_no (evs T (n + 80)) _ 6 _ _ _ _ _ _ _ _ (q_args (n + 76) l _ _ _ f) rfl spn (fold_io (n + 54) s h f hf hp) rfl rfl)).trans ?_
  refine (runB_nx (q_moved n l _ s.cs (s.nx f).cs _ f.d hmv)).trans ?_
  refine (runB_nx (q_frz _ l _ _ _ _)).trans ?_
  refine (runB_nx (q_size n l _ _ _ _ f.d hsz)).trans ?_
  refine (runB_nx (q_stands n l (s.nx f) h2 _)).trans ?_
  rfl
theorem q_loop (n : Nat) (l : LE) (fs : List Fx) (s : PS) (h : PS.Go fs s) : forE (evs T (n + 81)) (.nm 9) bdQ (fs.map Fx.d) (envQ l (some (stkO s.g s.past)) (some (.per (dictL s.cs))) (some (.per (szD s.r s.c))) none) =
    some (.nx (envQ l (some (stkO (fs.foldl PS.nx s).g (fs.foldl PS.nx s).past)) (some (.per (dictL (fs.foldl PS.nx s).cs))) (some (.per (szD (fs.foldl PS.nx s).r (fs.foldl PS.nx s).c))) none)) :=
  (forE_rest Fx.d (fun (s : PS) => envQ l (some (stkO s.g s.past)) (some (.per (dictL s.cs))) (some (.per (szD s.r s.c))) none) PS.nx PS.Go (fun f fs s h => by
    obtain ⟨h1, h2⟩ := PS.go_nx h
    have hp : s.past.length ≤ 14 := by have := h.2.2; omega
    exact ⟨⟨_, rfl, q_body n l s h.1 f h1 hp⟩, h2⟩) fs s h).1
abbrev tlQ : CS := .ife [] (.not (.call i_l_stands [(.call i_folded_stack [(.make "Scheme" [(.var 3), (.var 4), (.var 5)])]), (.var 7), (.var 8)])) [.ret [] (.cst (.bl false))] []
theorem q_last (n : Nat) (l : LE) (x6 : Option Ow) (cd zd sd fd : D) (so fo : Ow) (hi : ∀ j, (evs T (j + 27)).io "Scheme" "__init__" (.ins "Scheme" [] []) [.int l.r, .int l.c, .lst l.ds] = .ok so (.per .non)) (h1 : so.fr = sd) (hf : ∀ j, (evs T (j + 31)).f i_folded_stack [sd] = .ok fo) (h2 : fo.fr = fd) (hst : ∀ j, (evs T (j + 76)).f i_l_stands [fd, cd, zd] = .ok (.per (.bl true))) :
    stepS T (evs T (n + 81)) (envQ l x6 (some (.per cd)) (some (.per zd)) none) tlQ = some (.nx (envQ l x6 (some (.per cd)) (some (.per zd)) none)) :=
  have a1 : (evs T (n + 77)).o (envQ l x6 (some (.per cd)) (some (.per zd)) none) (.make "Scheme" [(.var 3), (.var 4), (.var 5)]) = .ok so := o_make (n := n + 76) (ds := [.int l.r, .int l.c, .lst l.ds]) rfl (hi (n + 49))
  have a2 : (evs T (n + 78)).o (envQ l x6 (some (.per cd)) (some (.per zd)) none) (.call i_folded_stack [(.make "Scheme" [(.var 3), (.var 4), (.var 5)])]) = .ok fo := o_call (n := n + 77) (ds_cons a1 h1 ds_nil) (hf (n + 46))
  ife_no _ _ _ _ _ (evT_of (env2 := envQ l x6 (some (.per cd)) (some (.per zd)) none) rfl (q_t (n + 1) _ _ _ _ fd cd zd (ds_cons a2 h2 rfl) hst)) rfl
theorem init_sx (n : Nat) (s : Sx) (h : s.Ok) : (evs T (n + 27)).io "Scheme" "__init__" (.ins "Scheme" [] []) [.int s.r, .int s.c, .lst (s.fs.map Fx.d)] = .ok (.ins "Scheme" ["rows", "columns", "folds"] [.per (.int s.r), .per (.int s.c), .lst ((s.fs.map Fx.d).map .per)]) (.per .non) := by
  have hz : (s.r : Int) * s.c ≤ 32 := by exact_mod_cast h.z
  have := init_ok n s.r s.c (s.fs.map Fx.fd) ⟨⟨by have := h.r1; omega, by have := h.r1; omega⟩, ⟨by have := h.c1; omega, by have := h.c1; omega⟩, hz⟩ (fun f hf => by obtain ⟨x, _, rfl⟩ := List.mem_map.mp hf; exact x.ok) (okX_goods s.fs _ _ _ _ h.ok)
  rw [List.map_map] at this
  exact this
abbrev bdLw : List CS := [.asg (.tp (.cons (.nm 3) (.cons (.nm 4) (.cons (.nm 5) .nil)))) [] true (.call i_l_scheme [(.var 2), (.var 1)]),
    .asg (.nm 6) [] false (.make "Stack" [(.var 3), (.var 4)]),
    .asg (.nm 7) [] false (.call i_l_begun [(.var 3), (.var 4)]),
    .frzP 7 [],
    .asg (.nm 8) [] true (.tup [(.var 3), (.var 4)]),
    .ife [6] tsQ [.ret [] (.cst (.bl false))] [],
    .for_ (.nm 9) [] (.var 5) bdQ,
    tlQ,
    .wipe [1, 2, 3, 4, 5, 6, 7, 8]]
theorem b_law_eq : b_law = [.for_ (.tp (.cons (.nm 1) (.cons (.nm 2) .nil))) [] (.enum (.bin .Add (.sli (.var 0) none (some (.cst (.int 20)))) (.lst [(.cst (.int 3)), (.cst (.int 9))])) none) bdLw, .ret [] (.cst (.bl true))] := rfl
theorem l_1 (n : Nat) (nd : D) (k v : Int) (s : Sx) (hs : ∀ n, (evs T (n + 30)).f i_l_scheme [.int v, .int k] = .ok (.tup [.per (.int s.r), .per (.int s.c), .lst ((s.fs.map Fx.d).map .per)])) : stepS T (evs T (n + 81)) [some (.per nd), some (.per (.int k)), some (.per (.int v)), none, none, none, none, none, none, none] (.asg (.tp (.cons (.nm 3) (.cons (.nm 4) (.cons (.nm 5) .nil)))) [] true (.call i_l_scheme [(.var 2), (.var 1)])) = some (.nx (envQ ⟨nd, k, v, s.r, s.c, s.fs.map Fx.d⟩ none none none none)) := by
  have e : (evs T (n + 81)).o [some (.per nd), some (.per (.int k)), some (.per (.int v)), none, none, none, none, none, none, none] (.call i_l_scheme [(.var 2), (.var 1)]) = .ok (.tup [.per (.int s.r), .per (.int s.c), .lst ((s.fs.map Fx.d).map .per)]) := hs (n + 50)
  have hf : (Ow.tup [.per (.int s.r), .per (.int s.c), .lst ((s.fs.map Fx.d).map .per)]).fr = .tup [.int s.r, .int s.c, .lst (s.fs.map Fx.d)] := by simp only [Ow.fr, frs, frs_per]
  simp only [stepS, evP_nil, e, fzo, hf, if_true]
  rfl
theorem l_2 (n : Nat) (nd : D) (k v : Int) (r c : Nat) (ds : List D) (hr : 1 ≤ r ∧ r ≤ 8) (hc : 1 ≤ c ∧ c ≤ 8) (hz : r * c ≤ 32) : stepS T (evs T (n + 81)) (envQ ⟨nd, k, v, r, c, ds⟩ none none none none) (.asg (.nm 6) [] false (.make "Stack" [(.var 3), (.var 4)])) = some (.nx (envQ ⟨nd, k, v, r, c, ds⟩ (some (stkO (grid0 r c) [])) none none none)) := by
  have h := stk_init r c hr hc hz (n + 64)
  have e : (evs T (n + 81)).o (envQ ⟨nd, k, v, r, c, ds⟩ none none none none) (.make "Stack" [(.var 3), (.var 4)]) = .ok (stkO (grid0 r c) []) := by
    rw [evs_o]
    have e0 : (evs T (n + 80)).ds (envQ ⟨nd, k, v, r, c, ds⟩ none none none none) [(.var 3), (.var 4)] = .ok [.int r, .int c] := rfl
    simp only [stepO, e0, h]
  simp only [stepS, evP_nil, e, fzo]
  rfl
theorem l_3 (n : Nat) (nd : D) (k v : Int) (r c : Nat) (ds : List D) (x6 : Option Ow) (hr : 1 ≤ r ∧ r ≤ 8) (hc : 1 ≤ c ∧ c ≤ 8) (hz : r * c ≤ 32) : stepS T (evs T (n + 81)) (envQ ⟨nd, k, v, r, c, ds⟩ x6 none none none) (.asg (.nm 7) [] false (.call i_l_begun [(.var 3), (.var 4)])) = some (.nx (envQ ⟨nd, k, v, r, c, ds⟩ x6 (some (dictO (cells0 r c))) none none)) :=
  st_asg (E := evs T (n + 81)) (o_call (n := n + 80) (ds := [.int r, .int c]) rfl (begun_ok r c hr hc hz (n + 64))) rfl (by show 7 < 10; decide) rfl
theorem l_5 (n : Nat) (l : LE) (x6 x7 : Option Ow) : stepS T (evs T (n + 81)) (envQ l x6 x7 none none) (.asg (.nm 8) [] true (.tup [(.var 3), (.var 4)])) = some (.nx (envQ l x6 x7 (some (.per (.tup [.int l.r, .int l.c]))) none)) := by
  simp [callFI, runB, stepS, evP, evT, evPs, owL, own1, vwL, entE, entA, evs_o, evs_t, evs_b, stepO, stepT, step1, R.calm, Evs.dv, Evs.ds, Evs.os, Evs.ts, Evs.oi, Evs.it, Evs.pl, Ow.fr, frs, dTruth, dBin, dCmp, iCmp, dIdx, dSli, dAtt, dBlt, dBlt1, dBlt2, okN, Ow.nl, D.nl, nls, onls, outF, outM, self0, mkTup, pers, fzo, CT.setO, CTs.setO, putP, Tab.kd, tyN, evs_k, D.asS, D.asL, D.f0, D.in0, D.eq0, D.flat, flats, fdep, eqvI, eqv_str, eqv_bl, eqv_lst, eqv_tup, eqvs_cons, eqvs_nil, eqvs_nc, eqvs_cn, isas, xis, sne, sok, dNeg, dRev, look, keyT, D.isN, Tab.mkX, frs_per, Ow.strip, Ow.isAt, Ow.put, Ow.over, frs_app, Ow.kids, Ow.setKids, -List.map_map, -List.map_take, -List.map_drop, envQ]
theorem l_it5 (n : Nat) (l : LE) (x6 x7 x8 : Option Ow) : (evs T (n + 81)).it (envQ l x6 x7 x8 none) (.var 5) = .ok l.ds := rfl
theorem sch_fr (r c : Int) (ds : List D) : (Ow.ins "Scheme" ["rows", "columns", "folds"] [.per (.int r), .per (.int c), .lst (ds.map .per)]).fr = schD r c ds := by
  simp only [Ow.fr, frs, frs_per, schD]
theorem q_stands0 (n : Nat) (l : LE) (r c : Nat) (hst : ∀ j, (evs T (j + 76)).f i_l_stands [stkD (grid0 r c) [], dictL (cells0 r c), .tup [.int r, .int c]] = .ok (.per (.bl true))) : stepS T (evs T (n + 81)) (envQ l (some (stkO (grid0 r c) [])) (some (.per (dictL (cells0 r c)))) (some (.per (.tup [.int r, .int c]))) none) (.ife [6] tsQ [.ret [] (.cst (.bl false))] []) = some (.nx (envQ l (some (stkO (grid0 r c) [])) (some (.per (dictL (cells0 r c)))) (some (.per (.tup [.int r, .int c]))) none)) :=
  q_st (n + 1) l _ _ _ _ _ _ none (stkO_fr (grid0 r c) []) hst
theorem l_run (n : Nat) (nd : D) (k v : Int) (s : Sx) (S : s.Ok) (zg : Grid) (zp : List Grid) (zc : List Ce) (zr zs : Nat) (hs : ∀ n, (evs T (n + 30)).f i_l_scheme [.int v, .int k] = .ok (.tup [.per (.int s.r), .per (.int s.c), .lst ((s.fs.map Fx.d).map .per)]))
    (h0 : ∀ j, (evs T (j + 76)).f i_l_stands [stkD (grid0 s.r s.c) [], dictL (cells0 s.r s.c), .tup [.int s.r, .int s.c]] = .ok (.per (.bl true)))
    (hlp : forE (evs T (n + 81)) (.nm 9) bdQ (s.fs.map Fx.d) (envQ ⟨nd, k, v, s.r, s.c, s.fs.map Fx.d⟩ (some (stkO (grid0 s.r s.c) [])) (some (.per (dictL (cells0 s.r s.c)))) (some (.per (.tup [.int s.r, .int s.c]))) none) = some (.nx (envQ ⟨nd, k, v, s.r, s.c, s.fs.map Fx.d⟩ (some (stkO zg zp)) (some (.per (dictL zc))) (some (.per (szD zr zs))) none)))
    (hfs : ∀ j, (evs T (j + 31)).f i_folded_stack [schD s.r s.c (s.fs.map Fx.d)] = .ok (stkO zg zp)) (hst : ∀ j, (evs T (j + 76)).f i_l_stands [stkD zg zp, dictL zc, szD zr zs] = .ok (.per (.bl true))) :
    runB T (evs T (n + 81)) bdLw [some (.per nd), some (.per (.int k)), some (.per (.int v)), none, none, none, none, none, none, none] = some (.nx [some (.per nd), none, none, none, none, none, none, none, none, none]) := by
  rw [runB_nx (l_1 n nd k v s hs), runB_nx (l_2 n nd k v s.r s.c _ S.r1 S.c1 S.z), runB_nx (l_3 n nd k v s.r s.c _ _ S.r1 S.c1 S.z), runB_nx (q_frz _ _ _ _ _ _), runB_nx (l_5 n _ _ _), runB_nx (q_stands0 n _ s.r s.c h0), runB_nx (for_step (E := evs T (n + 81)) (l_it5 n _ _ _ _) hlp), runB_nx (q_last n ⟨nd, k, v, s.r, s.c, s.fs.map Fx.d⟩ (some (stkO zg zp)) (dictL zc) (szD zr zs) (schD s.r s.c (s.fs.map Fx.d)) (stkD zg zp) (.ins "Scheme" ["rows", "columns", "folds"] [.per (.int s.r), .per (.int s.c), .lst ((s.fs.map Fx.d).map .per)]) (stkO zg zp) (fun j => init_sx j s S) (sch_fr _ _ _) hfs (stkO_fr _ _) hst)]
  rfl
theorem st_begin (s : Sx) (h : (PS.begin s.r s.c).Ok) (j : Nat) : (evs T (j + 76)).f i_l_stands [stkD (grid0 s.r s.c) [], dictL (cells0 s.r s.c), .tup [.int s.r, .int s.c]] = .ok (.per (.bl true)) := by
  have := st_all _ h j
  simp only [PS.begin, szD] at this
  exact this
theorem q_loop0 (n : Nat) (l : LE) (s : Sx) (S : s.Ok) (z : PS) (hz : s.fs.foldl PS.nx (PS.begin s.r s.c) = z) : forE (evs T (n + 81)) (.nm 9) bdQ (s.fs.map Fx.d) (envQ l (some (stkO (grid0 s.r s.c) [])) (some (.per (dictL (cells0 s.r s.c)))) (some (.per (.tup [.int s.r, .int s.c]))) none) = some (.nx (envQ l (some (stkO z.g z.past)) (some (.per (dictL z.cs))) (some (.per (szD z.r z.c))) none)) := by
  have := q_loop n l s.fs (PS.begin s.r s.c) (Sx.go S)
  rw [hz] at this
  rw [← this]
  simp only [PS.begin, szD]
theorem l_body (n : Nat) (nd : D) (k v : Int) (hk : -1000 < k ∧ k < 1000) : (evs T (n + 82)).b [some (.per nd), some (.per (.int k)), some (.per (.int v)), none, none, none, none, none, none, none] bdLw = some (.nx [some (.per nd), none, none, none, none, none, none, none, none, none]) := by
  obtain ⟨hs, S⟩ := schX_ok v k hk
  generalize schX v k = s at hs S
  have hfs := fun j => folded_stack_ok j s S
  have hst := st_all _ (go_end s.fs (PS.begin s.r s.c) (Sx.go S)).1
  obtain ⟨z, hz⟩ : ∃ z, s.fs.foldl PS.nx (PS.begin s.r s.c) = z := ⟨_, rfl⟩
  have hlp := q_loop0 n ⟨nd, k, v, s.r, s.c, s.fs.map Fx.d⟩ s S z hz
  rw [hz] at hfs hst
  rw [evs_b]
  exact l_run n nd k v s S z.g z.past z.cs z.r z.c hs (st_begin s (Sx.go S).1) hlp hfs hst
theorem enumD_mem {k : Int} {ds : List D} {d : D} (h : d ∈ enumD k ds) : ∃ (i : Nat) (x : D), x ∈ ds ∧ i < ds.length ∧ d = .tup [.int (k + i), x] := by
  unfold enumD at h
  obtain ⟨i, hi, rfl⟩ := List.mem_mapIdx.mp h
  exact ⟨i, ds[i], List.getElem_mem hi, hi, rfl⟩
theorem l_it (n : Nat) (ns : List Int) (hl : ns.length ≤ 63) : (evs T (n + 83)).it [some (.per (.fz (ns.map D.int))), none, none, none, none, none, none, none, none, none] (.enum (.bin .Add (.sli (.var 0) none (some (.cst (.int 20)))) (.lst [(.cst (.int 3)), (.cst (.int 9))])) none) = .ok (enumD 0 ((ns.take 20 ++ [3, 9]).map D.int)) := by
  have hc := cutD_take (ns.map D.int) 20
  rw [← List.map_take] at hc
  obtain ⟨xs, hxs⟩ : ∃ xs : List D, xs = (ns.take 20).map D.int := ⟨_, rfl⟩
  have hlen : xs.length + 2 ≤ sizeLine := by rw [sizeLine_eq, hxs, List.length_map, List.length_take]; omega
  rw [← hxs] at hc
  have hc' : cutD (ns.map D.int) none (some 20) = xs := hc
  rw [List.map_append, ← hxs]
  generalize ns.map D.int = qs at *
  simp [callFI, runB, stepS, evP, evT, evPs, owL, own1, vwL, entE, entA, evs_o, evs_t, evs_b, stepO, stepT, step1, R.calm, Evs.dv, Evs.ds, Evs.os, Evs.ts, Evs.oi, Evs.it, Evs.pl, Ow.fr, frs, dTruth, dBin, dCmp, iCmp, dIdx, dSli, dAtt, dBlt, dBlt1, dBlt2, okN, Ow.nl, D.nl, nls, onls, outF, outM, self0, mkTup, pers, fzo, CT.setO, CTs.setO, putP, Tab.kd, tyN, evs_k, D.asS, D.asL, D.f0, D.in0, D.eq0, D.flat, flats, fdep, eqvI, eqv_str, eqv_bl, eqv_lst, eqv_tup, eqvs_cons, eqvs_nil, eqvs_nc, eqvs_cn, isas, xis, sne, sok, dNeg, dRev, look, keyT, D.isN, Tab.mkX, frs_per, Ow.strip, Ow.isAt, Ow.put, Ow.over, frs_app, Ow.kids, Ow.setKids, -List.map_map, -List.map_take, -List.map_drop, hc', hlen]
theorem holds (ns : List Int) (hl : ns.length ≤ 63) : callFI T (evs T 90) f_law [.fz (ns.map D.int)] = .ok (.per (.bl true)) := by
  show outF (runB T (evs T 90) b_law [some (.per (.fz (ns.map D.int))), none, none, none, none, none, none, none, none, none]) = _
  have hf : forE (evs T 90) (.tp (.cons (.nm 1) (.cons (.nm 2) .nil))) bdLw (enumD 0 ((ns.take 20 ++ [3, 9]).map D.int)) [some (.per (.fz (ns.map D.int))), none, none, none, none, none, none, none, none, none] = some (.nx [some (.per (.fz (ns.map D.int))), none, none, none, none, none, none, none, none, none]) := by
    have := forE_const (E := evs T 90) (t := .tp (.cons (.nm 1) (.cons (.nm 2) .nil))) (body := bdLw) (fun d : D => d) [some (.per (.fz (ns.map D.int))), none, none, none, none, none, none, none, none, none] (enumD 0 ((ns.take 20 ++ [3, 9]).map D.int)) fun d hd => by
      obtain ⟨i, x, hx, hi, rfl⟩ := enumD_mem hd
      obtain ⟨v, _, rfl⟩ := List.mem_map.mp hx
      have hi' : i < 100 := by
        simp only [List.length_map, List.length_append, List.length_take, List.length_cons, List.length_nil] at hi
        omega
      exact ⟨_, rfl, l_body 8 _ (0 + (i : Int)) v ⟨by omega, by omega⟩⟩
    rw [List.map_id'] at this
    exact this
  rw [b_law_eq]
  refine (congrArg outF (runB_nx (for_step (E := evs T 90) (l_it 7 ns hl) hf))).trans ?_
  rfl

end Lw

set_option Elab.async false
set_option linter.all false
set_option maxRecDepth 100000
open PySem PySem.W PySem.Calls PyProof.Rows
set_option maxHeartbeats 0 in
theorem PySem.Challenge.cw_foldpress_k05_stacks_folded_holds : PySem.Challenge.rw_foldpress_k05_stacks_folded.Holds := by
  w_on; o_law
  refine HandSHeadRun.head_any (r := OpenLaw.row PySem.Challenge.rw_foldpress_k05_stacks_folded) (q := view (OpenLaw.row PySem.Challenge.rw_foldpress_k05_stacks_folded).prog [43]) (H := Lw.hk) (ob := Lw.ob) (M := 3000) (loose := Lw.loose) (d := HandSHeadRun.topDef (OpenLaw.row PySem.Challenge.rw_foldpress_k05_stacks_folded).prog 43) (kwd := []) Lw.ob_eq
    (by kernel_rfl) (fun s => by kernel_rfl) Lw.run (by kernel_rfl) (by kernel_rfl) (by kernel_rfl) (by rfl) (by first | assumption | decide +kernel) (by decide +kernel) ⟨rfl, rfl, rfl, rfl, rfl, by decide +kernel⟩ ?hw ?hc
  case hw => w_witness2
  case hc =>
    refine L2.walk_ofE (l := PySem.Challenge.rw_foldpress_k05_stacks_folded) (n := 63) (k := 90 + 1) (x := "_law_script") (CX := fun _ _ _ _ _ _ => False) rfl (by decide) (by kernel_rfl) ⟨rfl, by decide, by decide⟩ ?F (fun _ _ _ _ z => z)
    intro w mg fa h Y G hmg0
    obtain ⟨K, KX, c, hx⟩ := Y
    have hmg : mg ("law" : PySem.Str) = some (.ref fa) := by
      have e : (HandSHeadRun.topDef (OpenLaw.row PySem.Challenge.rw_foldpress_k05_stacks_folded).prog 43).name = ("law" : PySem.Str) := by kernel_rfl
      rw [← e]
      exact hmg0
    obtain ⟨fd, sp, h1, h2, h3⟩ := Pu.law_F (x := "_law_script") Lw.sta (i := 20) (n := 90) (fi := Lw.f_law) rfl rfl rfl Lw.holds (P := (PySem.Challenge.rw_foldpress_k05_stacks_folded).prog) KX G hmg c hx
    exact ⟨K, fd, sp, KX, h1, h2, h3⟩
