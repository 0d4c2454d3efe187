import PyProof.Rows.All
import Wide.All
import OpenK.AllK
import Wide.FinOn
import KE.KStateDown
import Lean
import HandS.ForMost
import HandS.Defaults
import HandS.IsInst
import HandS.RevRange
import HandS.Wide
import HandS.Flow
import HandS.Head0
import HandS.Head1
import HandS.Head2
import HandS.HeadEnd
import HandS.HeadHook1
import HandS.HeadHook2
import HandS.Rev
import HandS.Iter
import HandS.HeadNt
import HandS.Property
import HandS.GenYield
import PySem.Challenge.RW_textortree_k08_flat_trees
section
set_option Elab.async false
set_option linter.all false
set_option maxRecDepth 100000
set_option maxHeartbeats 4000000
/-! MrA: data D, cells O, the relation Rel between cells and the abstract heap. -/
namespace Mr
open PySem PySem.Spec PyProof.Rows L2

/-- plain data, a list that is only read (rl) among it -/
inductive D where
  | non | bl (b : Bool) | int (i : Int) | str (s : Str) | tup (ds : List D) | lst (ds : List D) | rl (ds : List D) | ty (n : String) | ins (c : Str) (ns : List Str) (ds : List D) | dc (ks : List Key) (ds : List D)

mutual
def Rep (K : PySem.W.Frag) (h : Hp) : D → V → Prop
  | .non, v => v = .non
  | .bl b, v => v = .bl b
  | .int i, v => v = .int i
  | .str s, v => v = .str s
  | .tup ds, v => ∃ a xs, v = .ref a ∧ SqT K h a xs ∧ Reps K h ds xs
  | .lst ds, v => ∃ a xs, v = .ref a ∧ h a = some (.lst xs) ∧ Reps K h ds xs
  | .rl ds, v => ∃ a xs, v = .ref a ∧ SqL K h a xs ∧ Reps K h ds xs
  | .ty n, v => v = .ty n
  | .ins c ns ds, v => ∃ a dx fs xs, v = .ref a ∧ h a = some (.ins (He.ga K c) dx fs) ∧ ns.map (fun f => fs.lookup f) = xs.map some ∧ (∀ f, f ∉ ns → fs.lookup f = none) ∧ Reps K h ds xs
  | .dc ks ds, v => ∃ a xs, v = .ref a ∧ h a = some (.dK (ks.zip xs)) ∧ ks.length = xs.length ∧ Reps K h ds xs
def Reps (K : PySem.W.Frag) (h : Hp) : List D → List V → Prop
  | [], xs => xs = []
  | d :: ds, xs => ∃ x r, xs = x :: r ∧ Rep K h d x ∧ Reps K h ds r
end

theorem sqT_same {K : PySem.W.Frag} {H H' : Hp} {a : Addr} {xs : List V} (e : Same H H') (h : SqT K H a xs) : SqT K H' a xs := by
  rcases h with (h | ⟨o, h⟩) | h
  · exact .inl (.inl (e _ _ h))
  · exact .inl (.inr ⟨o, e _ _ h⟩)
  · exact .inr h

mutual
theorem Rep.mono {K : PySem.W.Frag} {h h' : Hp} (e : Same h h') : ∀ {d : D} {v : V}, Rep K h d v → Rep K h' d v
  | .non, _, r => r
  | .bl _, _, r => r
  | .int _, _, r => r
  | .str _, _, r => r
  | .tup _, _, ⟨a, xs, e1, e2, e3⟩ => ⟨a, xs, e1, sqT_same e e2, Reps.mono e e3⟩
  | .lst _, _, ⟨a, xs, e1, e2, e3⟩ => ⟨a, xs, e1, e _ _ e2, Reps.mono e e3⟩
  | .rl _, _, ⟨a, xs, e1, e2, e3⟩ => ⟨a, xs, e1, e.seq e2, Reps.mono e e3⟩
  | .ty _, _, r => r
  | .ins _ _ _, _, ⟨a, dx, fs, xs, e1, e2, e3, e0, e4⟩ => ⟨a, dx, fs, xs, e1, e _ _ e2, e3, e0, Reps.mono e e4⟩
  | .dc _ _, _, ⟨a, xs, e1, e2, e3, e4⟩ => ⟨a, xs, e1, e _ _ e2, e3, Reps.mono e e4⟩
theorem Reps.mono {K : PySem.W.Frag} {h h' : Hp} (e : Same h h') : ∀ {ds : List D} {vs : List V}, Reps K h ds vs → Reps K h' ds vs
  | [], _, r => r
  | _ :: _, _, ⟨x, r, e1, e2, e3⟩ => ⟨x, r, e1, Rep.mono e e2, Reps.mono e e3⟩
end
section
variable {K : PySem.W.Frag} {h : Hp}
theorem Reps.length : ∀ {ds : List D} {vs : List V}, Reps K h ds vs → ds.length = vs.length
  | [], _, r => by cases r; rfl
  | _ :: _, _, ⟨x, r, e1, e2, e3⟩ => by rw [e1, List.length_cons, List.length_cons, Reps.length e3]
theorem Reps.get : ∀ {ds : List D} {vs : List V} {i : Nat} {d : D}, Reps K h ds vs → ds[i]? = some d → ∃ v, vs[i]? = some v ∧ Rep K h d v
  | [], _, _, _, _, e => by simp at e
  | _ :: _, _, 0, _, ⟨x, r, e1, e2, _⟩, e => by
    subst e1
    have e' : _ = _ := Option.some.inj e
    subst e'
    exact ⟨x, rfl, e2⟩
  | _ :: ds, _, i + 1, d, ⟨x, r, e1, _, e3⟩, e => by
    subst e1
    obtain ⟨v, q1, q2⟩ := Reps.get (i := i) e3 (by simpa using e)
    exact ⟨v, by simpa using q1, q2⟩
theorem Reps.at : ∀ {ds : List D} {vs : List V} {i : Nat} {v : V}, Reps K h ds vs → vs[i]? = some v → ∃ d, ds[i]? = some d ∧ Rep K h d v
  | [], _, _, _, r, e => by cases r; simp at e
  | d :: _, _, 0, v, ⟨x, r, e1, e2, _⟩, e => by
    subst e1
    have e' : _ = _ := Option.some.inj e
    subst e'
    exact ⟨d, rfl, e2⟩
  | _ :: ds, _, i + 1, v, ⟨x, r, e1, _, e3⟩, e => by
    subst e1
    obtain ⟨v, q1, q2⟩ := Reps.at (i := i) e3 (by simpa using e)
    exact ⟨v, by simpa using q1, q2⟩
theorem Reps.append : ∀ {ds es : List D} {vs us : List V}, Reps K h ds vs → Reps K h es us → Reps K h (ds ++ es) (vs ++ us)
  | [], _, _, _, r, s => by cases r; exact s
  | _ :: _, _, _, _, ⟨x, r, e1, e2, e3⟩, s => by subst e1; exact ⟨x, _, rfl, e2, Reps.append e3 s⟩
theorem Reps.one {d : D} {v : V} (r : Rep K h d v) : Reps K h [d] [v] := ⟨v, [], rfl, r, rfl⟩
theorem Reps.take : ∀ {ds : List D} {vs : List V} (n : Nat), Reps K h ds vs → Reps K h (ds.take n) (vs.take n)
  | _, _, 0, _ => rfl
  | [], _, _ + 1, r => by cases r; rfl
  | _ :: _, _, n + 1, ⟨x, r, e1, e2, e3⟩ => by subst e1; exact ⟨x, _, rfl, e2, Reps.take n e3⟩
theorem Reps.drop : ∀ {ds : List D} {vs : List V} (n : Nat), Reps K h ds vs → Reps K h (ds.drop n) (vs.drop n)
  | _, _, 0, r => r
  | [], _, _ + 1, r => by cases r; rfl
  | _ :: _, _, n + 1, ⟨x, r, e1, e2, e3⟩ => by subst e1; exact Reps.drop n e3
theorem Reps.set {d : D} {v : V} (rv : Rep K h d v) : ∀ {ds : List D} {vs : List V} (n : Nat), Reps K h ds vs → Reps K h (ds.set n d) (vs.set n v)
  | [], _, _, r => by cases r; rfl
  | _ :: _, _, 0, ⟨x, r, e1, e2, e3⟩ => by subst e1; exact ⟨v, _, rfl, rv, e3⟩
  | _ :: _, _, n + 1, ⟨x, r, e1, e2, e3⟩ => by subst e1; exact ⟨x, _, rfl, e2, Reps.set rv n e3⟩
theorem Reps.eraseIdx : ∀ {ds : List D} {vs : List V} (n : Nat), Reps K h ds vs → Reps K h (ds.eraseIdx n) (vs.eraseIdx n)
  | [], _, _, r => by cases r; rfl
  | _ :: _, _, 0, ⟨x, r, e1, e2, e3⟩ => by subst e1; exact e3
  | _ :: _, _, n + 1, ⟨x, r, e1, e2, e3⟩ => by subst e1; exact ⟨x, _, rfl, e2, Reps.eraseIdx n e3⟩
theorem Reps.dropLast {ds : List D} {vs : List V} (r : Reps K h ds vs) : Reps K h ds.dropLast vs.dropLast := by
  rw [List.dropLast_eq_take, List.dropLast_eq_take, ← r.length]
  exact r.take _
theorem Reps.reverse : ∀ {ds : List D} {vs : List V}, Reps K h ds vs → Reps K h ds.reverse vs.reverse
  | [], _, r => by cases r; exact rfl
  | _ :: _, _, ⟨x, r, e1, e2, e3⟩ => by
    subst e1
    rw [List.reverse_cons, List.reverse_cons]
    exact (Reps.reverse e3).append (.one e2)
theorem Reps.flatten_rep {ds : List D} {vs : List V} (r : Reps K h ds vs) : ∀ n : Nat, Reps K h (List.replicate n ds).flatten (List.replicate n vs).flatten
  | 0 => rfl
  | n + 1 => by
    rw [List.replicate_succ, List.replicate_succ, List.flatten_cons, List.flatten_cons]
    exact r.append (Reps.flatten_rep r n)
theorem Reps.ints : ∀ {ns : List Int} {vs : List V}, Reps K h (ns.map D.int) vs → vs = ns.map V.int
  | [], _, r => r
  | _ :: _, _, ⟨x, r, e1, e2, e3⟩ => by
    have e2' : x = _ := e2
    rw [e1, e2', Reps.ints e3]
    rfl
theorem Reps.of_ints : ∀ (ns : List Int), Reps K h (ns.map D.int) (ns.map V.int)
  | [] => rfl
  | _ :: ns => ⟨_, _, rfl, rfl, Reps.of_ints ns⟩
end

/-! ### cells -/
/-- owned containers: a list, a tuple, an instance of the module's class c with these attributes -/
inductive Knd where
  | lst | tup | ins (c : Str) (ns : List Str)
/-- a cell: nothing known; plain data; an owned list, an owned dict of plain data; an owned container of cells -/
inductive O where
  | n | v (d : D) | l (ds : List D) | dd (ks : List Key) (ds : List D) | g (k : Knd) (os : List O)
abbrev Cells := List (O × Option V)
/-- the container k stands at a, its parts xs -/
def objG (K : PySem.W.Frag) (H : Hp) (a : Addr) : Knd → List V → Prop
  | .lst, xs => H a = some (.lst xs)
  | .tup, xs => H a = some (.tup xs)
  | .ins c ns, xs => ∃ dx fv, H a = some (.ins (He.ga K c) dx fv) ∧ fv.length ≤ ns.length ∧ ns.map (fun f => fv.lookup f) = xs.map some ∧ ∀ f, f ∉ ns → fv.lookup f = none
theorem objG.ok {K : PySem.W.Frag} {H : Hp} {a : Addr} {k : Knd} {xs : List V} (h : objG K H a k xs) : ∃ u, H a = some u := by
  cases k with
  | lst => exact ⟨_, h⟩
  | tup => exact ⟨_, h⟩
  | ins c ns => obtain ⟨_, _, e, _⟩ := h; exact ⟨_, e⟩
theorem objG.to {K : PySem.W.Frag} {H H' : Hp} {a : Addr} {k : Knd} {xs : List V} (e : H' a = H a) (h : objG K H a k xs) : objG K H' a k xs := by
  cases k with
  | lst => exact e.trans h
  | tup => exact e.trans h
  | ins c ns => obtain ⟨dx, fv, q, r⟩ := h; exact ⟨dx, fv, e.trans q, r⟩
theorem map_some_inj {α : Type} : ∀ {a b : List α}, a.map some = b.map some → a = b
  | [], [], _ => rfl
  | [], _ :: _, e => by simp at e
  | _ :: _, [], e => by simp at e
  | x :: a, y :: b, e => by
    simp only [List.map_cons, List.cons.injEq, Option.some.injEq] at e
    rw [e.1, map_some_inj e.2]
mutual
def RO (K : PySem.W.Frag) (h H : Hp) : O → Option V → List Addr → Prop
  | .n, _, F => F = []
  | .v d, x, F => F = [] ∧ ∃ y, x = some y ∧ Rep K h d y
  | .l ds, x, F => ∃ a xs, x = some (.ref a) ∧ H a = some (.lst xs) ∧ Reps K h ds xs ∧ F = [a]
  | .dd ks ds, x, F => ∃ a xs, x = some (.ref a) ∧ H a = some (.dK (ks.zip xs)) ∧ ks.length = xs.length ∧ Reps K h ds xs ∧ F = [a]
  | .g k os, x, F => ∃ a xs F2, x = some (.ref a) ∧ objG K H a k xs ∧ ROs K h H os xs F2 ∧ F = a :: F2
def ROs (K : PySem.W.Frag) (h H : Hp) : List O → List V → List Addr → Prop
  | [], xs, F => xs = [] ∧ F = []
  | o :: os, xs, F => ∃ x r F1 F2, xs = x :: r ∧ RO K h H o (some x) F1 ∧ ROs K h H os r F2 ∧ F = F1 ++ F2
end
def RC (K : PySem.W.Frag) (h H : Hp) : Cells → List Addr → Prop
  | [], F => F = []
  | (o, x) :: cs, F => ∃ F1 F2, RO K h H o x F1 ∧ RC K h H cs F2 ∧ F = F1 ++ F2
def hid (F : List Addr) (H : Hp) : Hp := fun b => if b ∈ F then none else H b
/-- B: hidden addresses (the callers' own); H0, F0: the heap and the owned addresses at the entry -/
structure Cc where
  B : List Addr
  H0 : Hp
  F0 : List Addr
structure RelAt (K : PySem.W.Frag) (c : Cc) (F : List Addr) (cs : Cells) (H : Hp) : Prop where
  rc : RC K (hid (F ++ c.B) H) H cs F
  nd : F.Nodup
  dj : ∀ a ∈ F, a ∉ c.B
  bt : ∀ b ∈ c.B, (∃ o, c.H0 b = some o) ∧ b ∉ c.F0
  fr : ∀ b o, c.H0 b = some o → b ∉ c.F0 → H b = some o
  ow : ∀ a ∈ F, a ∈ c.F0 ∨ c.H0 a = none
def Rel (K : PySem.W.Frag) (c : Cc) (cs : Cells) (H : Hp) : Prop := ∃ F, RelAt K c F cs H

theorem hid_in {F : List Addr} {H : Hp} {b : Addr} (h : b ∈ F) : hid F H b = none := if_pos h
theorem hid_out {F : List Addr} {H : Hp} {b : Addr} (h : b ∉ F) : hid F H b = H b := if_neg h
theorem hid_some {F : List Addr} {H : Hp} {b : Addr} {o : HO} (h : hid F H b = some o) : b ∉ F ∧ H b = some o := by
  by_cases hb : b ∈ F
  · rw [hid_in hb] at h; cases h
  · exact ⟨hb, by rw [hid_out hb] at h; exact h⟩
theorem hid_of {F : List Addr} {H : Hp} {b : Addr} {o : HO} (h1 : b ∉ F) (h : H b = some o) : hid F H b = some o := by rw [hid_out h1]; exact h
theorem hid_same {F : List Addr} {H : Hp} : Same (hid F H) H := fun b o e => (hid_some e).2
theorem hid_congr {F G : List Addr} {H : Hp} (h : ∀ b, b ∈ F ↔ b ∈ G) : hid F H = hid G H := by
  funext b
  by_cases hb : b ∈ F
  · rw [hid_in hb, hid_in ((h b).mp hb)]
  · rw [hid_out hb, hid_out fun z => hb ((h b).mpr z)]
theorem hid_less {F G : List Addr} {H : Hp} (h : ∀ b, b ∈ G → b ∈ F) : Same (hid F H) (hid G H) := fun b o e => by
  obtain ⟨h1, h2⟩ := hid_some e
  exact hid_of (fun z => h1 (h b z)) h2

section
variable {K : PySem.W.Frag} {h h' H H' : Hp} {c : Cc}
mutual
theorem RO.mono (e : Same h h') : ∀ {o : O} {x : Option V} {F : List Addr}, RO K h H o x F → (∀ a ∈ F, H' a = H a) → RO K h' H' o x F
  | .n, _, _, r, _ => r
  | .v _, _, _, ⟨e1, y, e2, e3⟩, _ => ⟨e1, y, e2, e3.mono e⟩
  | .l _, _, _, ⟨a, xs, e1, e2, e3, e4⟩, k => ⟨a, xs, e1, (k a (by rw [e4]; exact List.mem_singleton.mpr rfl)).trans e2, e3.mono e, e4⟩
  | .dd _ _, _, _, ⟨a, xs, e1, e2, e0, e3, e4⟩, k => ⟨a, xs, e1, (k a (by rw [e4]; exact List.mem_singleton.mpr rfl)).trans e2, e0, e3.mono e, e4⟩
  | .g _ _, _, _, ⟨a, xs, F2, e1, e2, e3, e4⟩, k => ⟨a, xs, F2, e1, e2.to (k a (by rw [e4]; exact List.mem_cons_self)), ROs.mono e e3 fun b hb => k b (by rw [e4]; exact List.mem_cons_of_mem _ hb), e4⟩
theorem ROs.mono (e : Same h h') : ∀ {os : List O} {xs : List V} {F : List Addr}, ROs K h H os xs F → (∀ a ∈ F, H' a = H a) → ROs K h' H' os xs F
  | [], _, _, r, _ => r
  | _ :: _, _, _, ⟨x, r, F1, F2, e1, e2, e3, e4⟩, k => ⟨x, r, F1, F2, e1, RO.mono e e2 fun a ha => k a (by rw [e4]; exact List.mem_append_left _ ha), ROs.mono e e3 fun a ha => k a (by rw [e4]; exact List.mem_append_right _ ha), e4⟩
end
mutual
theorem RO.trk : ∀ {o : O} {x : Option V} {F : List Addr}, RO K h H o x F → ∀ a ∈ F, ∃ u, H a = some u
  | .n, _, _, r, a, ha => by rw [show _ = [] from r] at ha; cases ha
  | .v _, _, _, ⟨e1, _⟩, a, ha => by rw [e1] at ha; cases ha
  | .l _, _, _, ⟨b, xs, _, e2, _, e4⟩, a, ha => by
    rw [e4] at ha
    rw [List.mem_singleton.mp ha]
    exact ⟨_, e2⟩
  | .dd _ _, _, _, ⟨b, xs, _, e2, _, _, e4⟩, a, ha => by
    rw [e4] at ha
    rw [List.mem_singleton.mp ha]
    exact ⟨_, e2⟩
  | .g _ _, _, _, ⟨b, xs, F2, _, e2, e3, e4⟩, a, ha => by
    rw [e4] at ha
    rcases List.mem_cons.mp ha with z | z
    · rw [z]; exact e2.ok
    · exact ROs.trk e3 a z
theorem ROs.trk : ∀ {os : List O} {xs : List V} {F : List Addr}, ROs K h H os xs F → ∀ a ∈ F, ∃ u, H a = some u
  | [], _, _, ⟨_, e⟩, a, ha => by rw [e] at ha; cases ha
  | _ :: _, _, _, ⟨x, r, F1, F2, e1, e2, e3, e4⟩, a, ha => by
    rw [e4] at ha
    rcases List.mem_append.mp ha with z | z
    · exact RO.trk e2 a z
    · exact ROs.trk e3 a z
end
theorem ROs.length : ∀ {os : List O} {xs : List V} {F : List Addr}, ROs K h H os xs F → os.length = xs.length
  | [], _, _, r => by rw [r.1]; rfl
  | _ :: _, _, _, ⟨x, r, F1, F2, e1, e2, e3, e4⟩ => by rw [e1, List.length_cons, List.length_cons, ROs.length e3]
/-- a part taken out, or put in -/
theorem ROs.at : ∀ {os : List O} {xs : List V} {F : List Addr} {j : Nat} {o : O}, ROs K h H os xs F → os[j]? = some o → ∃ y F1 F2, xs[j]? = some y ∧ RO K h H o (some y) F1 ∧ ROs K h H (os.set j .n) xs F2 ∧ F.Perm (F1 ++ F2)
  | [], _, _, _, _, _, e => by simp at e
  | o0 :: os, _, _, 0, o, ⟨x, r, F1, F2, e1, e2, e3, e4⟩, e => by
    cases (Option.some.inj e : o0 = o)
    subst e1 e4
    exact ⟨x, F1, F2, rfl, e2, ⟨x, r, [], F2, rfl, rfl, e3, rfl⟩, .refl _⟩
  | o0 :: os, _, _, j + 1, o, ⟨x, r, F1, F2, e1, e2, e3, e4⟩, e => by
    subst e1 e4
    obtain ⟨y, G1, G2, q1, q2, q3, q4⟩ := ROs.at (j := j) e3 (by simpa using e)
    exact ⟨y, G1, F1 ++ G2, by simpa using q1, q2, ⟨x, r, F1, G2, rfl, e2, q3, rfl⟩, (List.Perm.append_left F1 q4).trans (by rw [← List.append_assoc, ← List.append_assoc]; exact List.Perm.append_right _ List.perm_append_comm)⟩
theorem ROs.put : ∀ {os : List O} {xs : List V} {F G : List Addr} {j : Nat} {o : O} {y : V}, ROs K h H os xs F → os[j]? = some .n → xs[j]? = some y → RO K h H o (some y) G → ∃ F', ROs K h H (os.set j o) xs F' ∧ F'.Perm (G ++ F)
  | [], _, _, _, _, _, _, _, e, _, _ => by simp at e
  | o0 :: os, _, _, G, 0, o, y, ⟨x, r, F1, F2, e1, e2, e3, e4⟩, e, ex, ro => by
    cases (Option.some.inj e : o0 = .n)
    subst e1 e4
    cases (Option.some.inj ex : x = y)
    have e2' : F1 = [] := e2
    subst e2'
    exact ⟨G ++ F2, ⟨_, r, G, F2, rfl, ro, e3, rfl⟩, .refl _⟩
  | o0 :: os, _, _, G, j + 1, o, y, ⟨x, r, F1, F2, e1, e2, e3, e4⟩, e, ex, ro => by
    subst e1 e4
    obtain ⟨F', q1, q2⟩ := ROs.put (j := j) e3 (by simpa using e) (by simpa using ex) ro
    exact ⟨F1 ++ F', ⟨x, r, F1, F', rfl, e2, q1, rfl⟩, (List.Perm.append_left F1 q2).trans (by rw [← List.append_assoc, ← List.append_assoc]; exact List.Perm.append_right _ List.perm_append_comm)⟩
theorem ROs.append : ∀ {os ps : List O} {xs ys : List V} {F G : List Addr}, ROs K h H os xs F → ROs K h H ps ys G → ROs K h H (os ++ ps) (xs ++ ys) (F ++ G)
  | [], _, _, _, _, _, ⟨e1, e2⟩, s => by subst e1 e2; exact s
  | _ :: _, _, _, _, _, _, ⟨x, r, F1, F2, e1, e2, e3, e4⟩, s => by subst e1 e4; exact ⟨x, _, F1, _, rfl, e2, ROs.append e3 s, by rw [List.append_assoc]⟩
mutual
def toD : O → Option D
  | .n => none
  | .v d => some d
  | .l ds => some (.lst ds)
  | .dd ks ds => some (.dc ks ds)
  | .g .lst os => (toDs os).map .lst
  | .g .tup os => (toDs os).map .tup
  | .g (.ins c ns) os => (toDs os).map (.ins c ns)
def toDs : List O → Option (List D)
  | [] => some []
  | o :: os => (toD o).bind fun d => (toDs os).map (d :: ·)
end
mutual
theorem RO.toD (e : Same h h') : ∀ {o : O} {x : Option V} {F : List Addr} {d : D}, RO K h H o x F → Mr.toD o = some d → (∀ a ∈ F, h' a = H a) → ∃ y, x = some y ∧ Rep K h' d y
  | .n, _, _, _, _, t, _ => by simp [Mr.toD] at t
  | .v _, _, _, _, ⟨e1, y, e2, e3⟩, t, _ => by
    simp only [Mr.toD, Option.some.injEq] at t
    subst t
    exact ⟨y, e2, e3.mono e⟩
  | .l _, _, _, _, ⟨a, xs, e1, e2, e3, e4⟩, t, k => by
    simp only [Mr.toD, Option.some.injEq] at t
    subst t
    exact ⟨_, e1, a, xs, rfl, (k a (by rw [e4]; exact List.mem_singleton.mpr rfl)).trans e2, e3.mono e⟩
  | .dd _ _, _, _, _, ⟨a, xs, e1, e2, e0, e3, e4⟩, t, k => by
    simp only [Mr.toD, Option.some.injEq] at t
    subst t
    exact ⟨_, e1, a, xs, rfl, (k a (by rw [e4]; exact List.mem_singleton.mpr rfl)).trans e2, e0, e3.mono e⟩
  | .g kd os, _, _, d, ⟨a, xs, F2, e1, e2, e3, e4⟩, t, k => by
    have ka := k a (by rw [e4]; exact List.mem_cons_self)
    have key : ∀ ds, toDs os = some ds → Reps K h' ds xs := fun ds ht => ROs.toDs e e3 ht fun b hb => k b (by rw [e4]; exact List.mem_cons_of_mem _ hb)
    refine ⟨_, e1, ?_⟩
    cases kd with
    | lst =>
      simp only [Mr.toD] at t
      obtain ⟨ds, t1, t2⟩ := Option.map_eq_some_iff.mp t
      subst t2
      exact ⟨a, xs, rfl, ka.trans e2, key ds t1⟩
    | tup =>
      simp only [Mr.toD] at t
      obtain ⟨ds, t1, t2⟩ := Option.map_eq_some_iff.mp t
      subst t2
      exact ⟨a, xs, rfl, .inl (.inl (ka.trans e2)), key ds t1⟩
    | ins c ns =>
      simp only [Mr.toD] at t
      obtain ⟨ds, t1, t2⟩ := Option.map_eq_some_iff.mp t
      subst t2
      obtain ⟨dx, fv, q1, q2, q3, q4⟩ := e2
      exact ⟨a, dx, fv, xs, rfl, ka.trans q1, q3, q4, key ds t1⟩
theorem ROs.toDs (e : Same h h') : ∀ {os : List O} {xs : List V} {F : List Addr} {ds : List D}, ROs K h H os xs F → Mr.toDs os = some ds → (∀ a ∈ F, h' a = H a) → Reps K h' ds xs
  | [], _, _, _, ⟨e1, _⟩, t, _ => by
    simp only [Mr.toDs, Option.some.injEq] at t
    subst t
    exact e1
  | _ :: _, _, _, _, ⟨x, r, F1, F2, e1, e2, e3, e4⟩, t, k => by
    simp only [Mr.toDs] at t
    obtain ⟨d, t1, t⟩ := Option.bind_eq_some_iff.mp t
    obtain ⟨ds, t2, t3⟩ := Option.map_eq_some_iff.mp t
    subst t3
    obtain ⟨y, ey, ry⟩ := RO.toD e e2 t1 fun a ha => k a (by rw [e4]; exact List.mem_append_left _ ha)
    cases ey
    exact ⟨_, r, e1, ry, ROs.toDs e e3 t2 fun a ha => k a (by rw [e4]; exact List.mem_append_right _ ha)⟩
end
theorem RC.mono (e : Same h h') : ∀ {cs : Cells} {F : List Addr}, RC K h H cs F → (∀ a ∈ F, H' a = H a) → RC K h' H' cs F
  | [], _, r, _ => r
  | (o, x) :: cs, F, ⟨F1, F2, r1, r2, e1⟩, k => ⟨F1, F2, r1.mono e fun a ha => k a (by rw [e1]; exact List.mem_append_left _ ha), RC.mono e r2 fun a ha => k a (by rw [e1]; exact List.mem_append_right _ ha), e1⟩
theorem RC.append : ∀ {cs ds : Cells} {F G : List Addr}, RC K h H cs F → RC K h H ds G → RC K h H (cs ++ ds) (F ++ G)
  | [], _, _, _, r, s => by cases r; exact s
  | (o, x) :: cs, _, _, _, ⟨F1, F2, r1, r2, e1⟩, s => ⟨F1, _, r1, RC.append r2 s, by rw [e1, List.append_assoc]⟩
theorem RC.split : ∀ {cs ds : Cells} {F : List Addr}, RC K h H (cs ++ ds) F → ∃ F1 F2, RC K h H cs F1 ∧ RC K h H ds F2 ∧ F = F1 ++ F2
  | [], _, F, r => ⟨[], F, rfl, r, rfl⟩
  | (o, x) :: cs, ds, F, ⟨F1, F2, r1, r2, e1⟩ => by
    obtain ⟨G1, G2, s1, s2, e2⟩ := RC.split (cs := cs) r2
    exact ⟨F1 ++ G1, G2, ⟨F1, G1, r1, s1, rfl⟩, s2, by rw [e1, e2, List.append_assoc]⟩
theorem RC.perm {cs cs' : Cells} (p : cs.Perm cs') : ∀ {F : List Addr}, RC K h H cs F → ∃ F', RC K h H cs' F' ∧ F.Perm F' := by
  induction p with
  | nil => exact fun {F} r => ⟨F, r, .refl _⟩
  | cons x _ ih =>
    obtain ⟨o, x⟩ := x
    rintro F ⟨F1, F2, r1, r2, rfl⟩
    obtain ⟨G, s, q⟩ := ih r2
    exact ⟨F1 ++ G, ⟨F1, G, r1, s, rfl⟩, List.Perm.append_left _ q⟩
  | swap x y l =>
    obtain ⟨o, x⟩ := x
    obtain ⟨o', y⟩ := y
    rintro F ⟨F1, _, r1, ⟨F2, F3, r2, r3, rfl⟩, rfl⟩
    refine ⟨F2 ++ (F1 ++ F3), ⟨F2, _, r2, ⟨F1, F3, r1, r3, rfl⟩, rfl⟩, ?_⟩
    rw [← List.append_assoc, ← List.append_assoc]
    exact List.Perm.append_right _ List.perm_append_comm
  | trans _ _ ih1 ih2 =>
    intro F r
    obtain ⟨G, s, q⟩ := ih1 r
    obtain ⟨G', s', q'⟩ := ih2 s
    exact ⟨G', s', q.trans q'⟩
theorem RC.trk : ∀ {cs : Cells} {F : List Addr}, RC K h H cs F → ∀ a ∈ F, ∃ u, H a = some u
  | [], _, r, a, ha => by rw [show _ = [] from r] at ha; cases ha
  | (o, x) :: cs, F, ⟨F1, F2, r1, r2, e1⟩, a, ha => by
    rw [e1] at ha
    rcases List.mem_append.mp ha with z | z
    · exact r1.trk a z
    · exact RC.trk r2 a z

theorem Rel.perm {cs cs' : Cells} (p : cs.Perm cs') (r : Rel K c cs H) : Rel K c cs' H := by
  obtain ⟨F, r⟩ := r
  obtain ⟨F', s, q⟩ := r.rc.perm p
  have m : ∀ b, b ∈ F ↔ b ∈ F' := fun b => q.mem_iff
  have e : hid (F ++ c.B) H = hid (F' ++ c.B) H := hid_congr fun b => by rw [List.mem_append, List.mem_append, m b]
  exact ⟨F', by rw [← e]; exact s, q.nodup_iff.mp r.nd, fun a ha => r.dj a ((m a).mpr ha), r.bt, r.fr, fun a ha => r.ow a ((m a).mpr ha)⟩
/-- some cells forgotten -/
theorem Rel.drops {cs ds : Cells} (r : Rel K c (cs ++ ds) H) : Rel K c ds H := by
  obtain ⟨F, r⟩ := r
  obtain ⟨F1, F2, s1, s2, rfl⟩ := r.rc.split
  refine ⟨F2, s2.mono (hid_less fun b hb => ?_) fun _ _ => rfl, (List.nodup_append.mp r.nd).2.1, fun a ha => r.dj a (List.mem_append_right _ ha), r.bt, r.fr, fun a ha => r.ow a (List.mem_append_right _ ha)⟩
  rcases List.mem_append.mp hb with z | z
  · exact List.mem_append_left _ (List.mem_append_right _ z)
  · exact List.mem_append_right _ z
theorem Rel.drop {p : O × Option V} {ds : Cells} (r : Rel K c (p :: ds) H) : Rel K c ds H := Rel.drops (cs := [p]) r
/-- cells in the middle forgotten -/
theorem Rel.mid {cs ds es : Cells} (r : Rel K c (cs ++ (ds ++ es)) H) : Rel K c (cs ++ es) H := by
  refine Rel.drops (cs := ds) (r.perm ?_)
  rw [← List.append_assoc, ← List.append_assoc]
  exact List.Perm.append_right _ List.perm_append_comm
theorem Rel.mid1 {p : O × Option V} {ds es : Cells} (r : Rel K c (p :: (ds ++ es)) H) : Rel K c (p :: es) H := Rel.mid (cs := [p]) r
/-- a cell lets go what it owns: plain data -/
theorem Rel.toD {o : O} {d : D} {x : Option V} {cs : Cells} (r : Rel K c ((o, x) :: cs) H) (t : Mr.toD o = some d) : Rel K c ((.v d, x) :: cs) H := by
  obtain ⟨F, r⟩ := r
  obtain ⟨F1, F2, s1, s2, rfl⟩ := r.rc
  have nd := List.nodup_append.mp r.nd
  have le : Same (hid (F1 ++ F2 ++ c.B) H) (hid (F2 ++ c.B) H) := hid_less fun b hb => by
    rcases List.mem_append.mp hb with z | z
    · exact List.mem_append_left _ (List.mem_append_right _ z)
    · exact List.mem_append_right _ z
  have hn : ∀ b ∈ F1, hid (F2 ++ c.B) H b = H b := fun b hb => hid_out fun z => by
    rcases List.mem_append.mp z with z | z
    · exact nd.2.2 b hb b z rfl
    · exact r.dj b (List.mem_append_left _ hb) z
  obtain ⟨y, e1, e2⟩ := s1.toD le t hn
  exact ⟨F2, ⟨[], F2, ⟨rfl, y, e1, e2⟩, s2.mono le fun _ _ => rfl, rfl⟩, nd.2.1, fun b hb => r.dj b (List.mem_append_right _ hb), r.bt, r.fr, fun b hb => r.ow b (List.mem_append_right _ hb)⟩
/-- a cell that owned a list lets it go: plain data -/
theorem Rel.rel {ds : List D} {x : Option V} {cs : Cells} (r : Rel K c ((.l ds, x) :: cs) H) : Rel K c ((.v (.lst ds), x) :: cs) H := r.toD rfl
/-- an owned container's part becomes a cell of its own -/
theorem RelAt.out {k : Knd} {os : List O} {j : Nat} {o : O} {x : Option V} {cs : Cells} {F : List Addr} (r : RelAt K c F ((.g k os, x) :: cs) H) (e : os[j]? = some o) :
    ∃ a xs y, x = some (.ref a) ∧ objG K H a k xs ∧ xs[j]? = some y ∧ os.length = xs.length ∧ Rel K c ((o, some y) :: (.g k (os.set j .n), x) :: cs) H := by
  obtain ⟨F1, F2, ⟨a, xs, F3, e1, e2, e3, e4⟩, s2, rfl⟩ := r.rc
  subst e4
  obtain ⟨y, G1, G2, q1, q2, q3, q4⟩ := e3.at e
  have pm : (a :: F3 ++ F2).Perm (G1 ++ (a :: G2 ++ F2)) := by
    refine (List.Perm.append_right F2 (List.Perm.cons a q4)).trans ?_
    rw [show a :: (G1 ++ G2) = [a] ++ (G1 ++ G2) from rfl, ← List.append_assoc, show a :: G2 = [a] ++ G2 from rfl]
    refine (List.Perm.append_right F2 (List.Perm.append_right G2 List.perm_append_comm)).trans ?_
    simp only [List.append_assoc]
    exact .refl _
  have m : ∀ b, b ∈ a :: F3 ++ F2 ↔ b ∈ G1 ++ (a :: G2 ++ F2) := fun b => pm.mem_iff
  have eh : hid (a :: F3 ++ F2 ++ c.B) H = hid (G1 ++ (a :: G2 ++ F2) ++ c.B) H := hid_congr fun b => by rw [List.mem_append, m b, ← List.mem_append]
  refine ⟨a, xs, y, e1, e2, q1, e3.length, G1 ++ (a :: G2 ++ F2), ?_, pm.nodup_iff.mp r.nd, fun b hb => r.dj b ((m b).mpr hb), r.bt, r.fr, fun b hb => r.ow b ((m b).mpr hb)⟩
  rw [← eh]
  exact ⟨G1, a :: G2 ++ F2, q2, ⟨a :: G2, F2, ⟨a, xs, G2, e1, e2, q3, rfl⟩, s2, rfl⟩, rfl⟩
/-- .. and goes back -/
theorem RelAt.into {k : Knd} {os : List O} {j : Nat} {o : O} {a : Addr} {xs : List V} {y : V} {cs : Cells} {F : List Addr} (r : RelAt K c F ((o, some y) :: (.g k os, some (.ref a)) :: cs) H) (ho : objG K H a k xs) (hx : xs[j]? = some y) (e : os[j]? = some .n) :
    Rel K c ((.g k (os.set j o), some (.ref a)) :: cs) H := by
  obtain ⟨G1, _, q2, ⟨_, F2, ⟨b, ys, G2, e1, e2, q3, e5⟩, s2, e6⟩, e7⟩ := r.rc
  cases e1
  subst e5 e6 e7
  have hxy : xs = ys := by
    have hl := q3.length
    cases k with
    | lst => exact (HO.lst.inj (Option.some.inj (ho.symm.trans e2)))
    | tup => exact (HO.tup.inj (Option.some.inj (ho.symm.trans e2)))
    | ins c ns =>
      obtain ⟨_, _, g1, _, g2, _⟩ := ho
      obtain ⟨_, _, g3, _, g4, _⟩ := e2
      obtain ⟨_, _, e⟩ := HO.ins.inj (Option.some.inj (g1.symm.trans g3))
      subst e
      have := g2.symm.trans g4
      exact map_some_inj this
  subst hxy
  obtain ⟨F', p1, p2⟩ := q3.put e hx q2
  have pm : (a :: F' ++ F2).Perm (G1 ++ (a :: G2 ++ F2)) := by
    refine (List.Perm.append_right F2 (List.Perm.cons a p2)).trans ?_
    rw [show a :: (G1 ++ G2) = [a] ++ (G1 ++ G2) from rfl, ← List.append_assoc, show a :: G2 = [a] ++ G2 from rfl]
    refine (List.Perm.append_right F2 (List.Perm.append_right G2 List.perm_append_comm)).trans ?_
    simp only [List.append_assoc]
    exact .refl _
  have m : ∀ b, b ∈ a :: F' ++ F2 ↔ b ∈ G1 ++ (a :: G2 ++ F2) := fun b => pm.mem_iff
  have eh : hid (a :: F' ++ F2 ++ c.B) H = hid (G1 ++ (a :: G2 ++ F2) ++ c.B) H := hid_congr fun b => by rw [List.mem_append, m b, ← List.mem_append]
  refine ⟨a :: F' ++ F2, ?_, pm.nodup_iff.mpr r.nd, fun b hb => r.dj b ((m b).mp hb), r.bt, r.fr, fun b hb => r.ow b ((m b).mp hb)⟩
  rw [eh]
  exact ⟨a :: F', F2, ⟨a, xs, F', rfl, e2, p1, rfl⟩, s2, rfl⟩
/-- an owned object is changed in its own place: its parts stay, or are plain; the addresses that it owns stay -/
theorem RelAt.rewr {k k' : Knd} {os os' : List O} {a : Addr} {u : HO} {xs' : List V} {cs : Cells} {F : List Addr} (r : RelAt K c F ((.g k os, some (.ref a)) :: cs) H) (hk : objG K (upd H a u) a k' xs')
    (hs : ∀ h H' xs F2, objG K H a k xs → ROs K h H' os xs F2 → (h = hid (F ++ c.B) H) → ROs K h H' os' xs' F2) : Rel K c ((.g k' os', some (.ref a)) :: cs) (upd H a u) := by
  obtain ⟨F1, F2, ⟨b, xs, F3, e1, e2, e3, e4⟩, s2, e5⟩ := r.rc
  cases e1
  subst e4 e5
  have nd := List.nodup_append.mp r.nd
  have ndl := List.nodup_cons.mp nd.1
  have eh : hid (a :: F3 ++ F2 ++ c.B) (upd H a u) = hid (a :: F3 ++ F2 ++ c.B) H := by
    funext x
    by_cases hx : x ∈ a :: F3 ++ F2 ++ c.B
    · rw [hid_in hx, hid_in hx]
    · rw [hid_out hx, hid_out hx, upd_ne fun z => hx (by rw [z]; simp)]
  refine ⟨a :: F3 ++ F2, ⟨?_, r.nd, r.dj, r.bt, ?_, r.ow⟩⟩
  · rw [eh]
    exact ⟨a :: F3, F2, ⟨a, xs', F3, rfl, hk, hs _ _ xs F3 e2 (e3.mono (fun _ _ z => z) fun x hx => upd_ne fun z => ndl.1 (z ▸ hx)) rfl, rfl⟩, s2.mono (fun _ _ z => z) fun x hx => upd_ne fun z => nd.2.2 a List.mem_cons_self x hx z.symm, rfl⟩
  · intro x o g1 g2
    have nx : x ≠ a := fun z => by
      subst z
      rcases r.ow x (by simp) with w | w
      · exact g2 w
      · rw [g1] at w; cases w
    rw [upd_ne nx]
    exact r.fr x o g1 g2
theorem RC.mem : ∀ {cs : Cells} {F : List Addr} {p : O × Option V}, RC K h H cs F → p ∈ cs → ∃ F1, RO K h H p.1 p.2 F1 ∧ ∀ a ∈ F1, a ∈ F
  | [], _, _, _, hp => by cases hp
  | (o, x) :: cs, F, p, ⟨F1, F2, r1, r2, e1⟩, hp => by
    rcases List.mem_cons.mp hp with z | z
    · subst z
      exact ⟨F1, r1, fun a ha => by rw [e1]; exact List.mem_append_left _ ha⟩
    · obtain ⟨G, s, q⟩ := RC.mem r2 z
      exact ⟨G, s, fun a ha => by rw [e1]; exact List.mem_append_right _ (q a ha)⟩
/-- plain data once more -/
theorem Rel.dup {d : D} {x : Option V} {cs : Cells} (r : Rel K c cs H) (hm : (O.v d, x) ∈ cs) : Rel K c ((.v d, x) :: cs) H := by
  obtain ⟨F, r⟩ := r
  obtain ⟨F1, ⟨e1, e2⟩, _⟩ := r.rc.mem hm
  exact ⟨F, ⟨[], F, ⟨rfl, e2⟩, r.rc, rfl⟩, r.nd, r.dj, r.bt, r.fr, r.ow⟩
/-- a cell of which nothing is known -/
theorem Rel.non {x : Option V} {cs : Cells} (r : Rel K c cs H) : Rel K c ((.n, x) :: cs) H := by
  obtain ⟨F, r⟩ := r
  exact ⟨F, ⟨[], F, rfl, r.rc, rfl⟩, r.nd, r.dj, r.bt, r.fr, r.ow⟩
/-- plain data that holds over any heap's visible part -/
theorem RelAt.add {F : List Addr} {d : D} {x : V} {cs : Cells} (r : RelAt K c F cs H) (q : Rep K (hid (F ++ c.B) H) d x) : Rel K c ((.v d, some x) :: cs) H :=
  ⟨F, ⟨[], F, ⟨rfl, x, rfl, q⟩, r.rc, rfl⟩, r.nd, r.dj, r.bt, r.fr, r.ow⟩

/-! ### what an operand shows -/
def Vw (K : PySem.W.Frag) (h H : Hp) (d : D) (x : V) : Prop := Rep K h d x ∨ (∃ ds a xs, d = .lst ds ∧ x = .ref a ∧ H a = some (.lst xs) ∧ Reps K h ds xs) ∨ ∃ ks ds a xs, d = .dc ks ds ∧ x = .ref a ∧ H a = some (.dK (ks.zip xs)) ∧ ks.length = xs.length ∧ Reps K h ds xs
def er : O → Option D
  | .v d => some d
  | .l ds => some (.lst ds)
  | .dd ks ds => some (.dc ks ds)
  | .g _ _ => none
  | .n => none
theorem RelAt.vw {F : List Addr} {cs : Cells} {o : O} {x : V} {d : D} (r : RelAt K c F cs H) (hm : (o, some x) ∈ cs) (e : er o = some d) : Vw K (hid (F ++ c.B) H) H d x := by
  obtain ⟨F1, q, _⟩ := r.rc.mem hm
  cases o with
  | n => cases e
  | g k os => cases e
  | v d' =>
    cases e
    obtain ⟨_, y, e1, e2⟩ := q
    cases e1
    exact .inl e2
  | l ds =>
    cases e
    obtain ⟨a, xs, e1, e2, e3, _⟩ := q
    cases e1
    exact .inr (.inl ⟨ds, a, xs, rfl, rfl, e2, e3⟩)
  | dd ks ds =>
    cases e
    obtain ⟨a, xs, e1, e2, e0, e3, _⟩ := q
    cases e1
    exact .inr (.inr ⟨ks, ds, a, xs, rfl, rfl, e2, e0, e3⟩)
/-- a result by values: plain; a new list; a new tuple -/
inductive Res where
  | s (d : D) | nl (ds : List D) | nt (ds : List D)
def Res.o : Res → O
  | .s d => .v d
  | .nl ds => .l ds
  | .nt ds => .v (.tup ds)
def ResAt (K : PySem.W.Frag) (h H : Hp) : Res → V → Hp → Prop
  | .s d, z, H' => H' = H ∧ Rep K h d z
  | .nl ds, z, H' => ∃ p xs, z = .ref p ∧ H p = none ∧ H' = upd H p (.lst xs) ∧ Reps K h ds xs
  | .nt ds, z, H' => ∃ p xs, z = .ref p ∧ H p = none ∧ H' = upd H p (.tup xs) ∧ Reps K h ds xs
theorem same_new {H : Hp} {p : Addr} {o : HO} (h : H p = none) : Same H (upd H p o) := fun b x e => by
  rw [upd_ne (ne_of_none e h)]
  exact e
theorem RelAt.notin {F : List Addr} {cs : Cells} {p : Addr} (r : RelAt K c F cs H) (hp : H p = none) : p ∉ F ++ c.B := fun z => by
  rcases List.mem_append.mp z with z | z
  · obtain ⟨u, e⟩ := r.rc.trk p z
    rw [hp] at e; cases e
  · obtain ⟨⟨o, e⟩, hf⟩ := r.bt p z
    rw [r.fr p o e hf] at hp; cases hp
theorem RelAt.h0 {F : List Addr} {cs : Cells} {p : Addr} (r : RelAt K c F cs H) (hp : H p = none) : p ∈ c.F0 ∨ c.H0 p = none := by
  by_cases hf : p ∈ c.F0
  · exact .inl hf
  · refine .inr ?_
    cases e : c.H0 p with
    | none => rfl
    | some o => rw [r.fr p o e hf] at hp; cases hp
/-- a new list at p, owned -/
theorem RelAt.newL {F : List Addr} {cs : Cells} {p : Addr} {ds : List D} {xs : List V} (r : RelAt K c F cs H) (hp : H p = none) (q : Reps K (hid (F ++ c.B) H) ds xs) : Rel K c ((.l ds, some (.ref p)) :: cs) (upd H p (.lst xs)) := by
  have np := r.notin hp
  have e : hid (p :: F ++ c.B) (upd H p (.lst xs)) = hid (F ++ c.B) H := by
    funext b
    by_cases hb : b = p
    · subst hb
      rw [hid_in (by simp), hid_out np, hp]
    · by_cases hF : b ∈ F ++ c.B
      · rw [hid_in hF, hid_in (by rw [List.cons_append]; exact List.mem_cons_of_mem _ hF)]
      · rw [hid_out hF, hid_out (by rw [List.cons_append]; intro z; rcases List.mem_cons.mp z with z | z; exact hb z; exact hF z), upd_ne hb]
  refine ⟨p :: F, ⟨[p], F, ⟨p, xs, rfl, upd_same, by rw [e]; exact q, rfl⟩, by rw [e]; exact r.rc.mono (fun _ _ z => z) fun a ha => upd_ne fun z => np (by rw [← z]; exact List.mem_append_left _ ha), rfl⟩, List.nodup_cons.mpr ⟨fun z => np (List.mem_append_left _ z), r.nd⟩, fun a ha => ?_, r.bt, fun b o e1 e2 => ?_, fun a ha => ?_⟩
  · rcases List.mem_cons.mp ha with z | z
    · rw [z]; exact fun w => np (List.mem_append_right _ w)
    · exact r.dj a z
  · have q1 := r.fr b o e1 e2
    rw [upd_ne (ne_of_none q1 hp)]
    exact q1
  · rcases List.mem_cons.mp ha with z | z
    · rw [z]; exact r.h0 hp
    · exact r.ow a z
/-- a new object at p that is plain (a tuple) -/
theorem RelAt.newH {F : List Addr} {cs : Cells} {p : Addr} {o : HO} (r : RelAt K c F cs H) (hp : H p = none) : RelAt K c F cs (upd H p o) ∧ Same (hid (F ++ c.B) H) (hid (F ++ c.B) (upd H p o)) ∧ hid (F ++ c.B) (upd H p o) p = some o := by
  have np := r.notin hp
  have e : Same (hid (F ++ c.B) H) (hid (F ++ c.B) (upd H p o)) := fun b u z => by
    obtain ⟨z1, z2⟩ := hid_some z
    exact hid_of z1 (same_new hp b u z2)
  refine ⟨⟨r.rc.mono e fun a ha => upd_ne fun z => np (by rw [← z]; exact List.mem_append_left _ ha), r.nd, r.dj, r.bt, fun b u e1 e2 => same_new hp b u (r.fr b u e1 e2), r.ow⟩, e, ?_⟩
  rw [hid_out np, upd_same]
theorem RelAt.res {F : List Addr} {cs : Cells} {res : Res} {z : V} {H' : Hp} (r : RelAt K c F cs H) (q : ResAt K (hid (F ++ c.B) H) H res z H') : Rel K c ((res.o, some z) :: cs) H' := by
  cases res with
  | s d =>
    obtain ⟨rfl, q⟩ := q
    exact r.add q
  | nl ds =>
    obtain ⟨p, xs, rfl, hp, rfl, q⟩ := q
    exact r.newL hp q
  | nt ds =>
    obtain ⟨p, xs, rfl, hp, rfl, q⟩ := q
    obtain ⟨r', e, e2⟩ := r.newH (o := .tup xs) hp
    exact r'.add ⟨p, xs, rfl, .inl (.inl e2), q.mono e⟩
/-- an owned list is changed -/
theorem RelAt.mut {F : List Addr} {cs : Cells} {ds ds' : List D} {a : Addr} {xs' : List V} (r : RelAt K c F ((.l ds, some (.ref a)) :: cs) H) (q : Reps K (hid (F ++ c.B) H) ds' xs') :
    Rel K c ((.l ds', some (.ref a)) :: cs) (upd H a (.lst xs')) := by
  obtain ⟨F1, F2, ⟨a', xs, e1, e2, e3, e4⟩, s2, rfl⟩ := r.rc
  cases e1
  subst e4
  have nd := r.nd
  rw [List.singleton_append, List.nodup_cons] at nd
  have e : hid ([a] ++ F2 ++ c.B) (upd H a (.lst xs')) = hid ([a] ++ F2 ++ c.B) H := by
    funext b
    by_cases hb : b ∈ [a] ++ F2 ++ c.B
    · rw [hid_in hb, hid_in hb]
    · rw [hid_out hb, hid_out hb, upd_ne fun z => hb (by rw [z]; simp)]
  refine ⟨[a] ++ F2, ⟨[a], F2, ⟨a, xs', rfl, upd_same, by rw [e]; exact q, rfl⟩, by rw [e]; exact s2.mono (fun _ _ z => z) fun b hb => upd_ne fun z => nd.1 (by rw [← z]; exact hb), rfl⟩, r.nd, r.dj, r.bt, fun b o e1 e5 => ?_, r.ow⟩
  have na : b ≠ a := fun z => by
    subst z
    rcases r.ow b (by simp) with w | w
    · exact e5 w
    · rw [e1] at w; cases w
  rw [upd_ne na]
  exact r.fr b o e1 e5
theorem Rel.ref {cs : Cells} {ds : List D} {x : Option V} (r : Rel K c ((.l ds, x) :: cs) H) : ∃ a xs, x = some (.ref a) ∧ H a = some (.lst xs) ∧ ds.length = xs.length := by
  obtain ⟨F, r⟩ := r
  obtain ⟨F1, F2, ⟨a, xs, e1, e2, e3, e4⟩, s2, rfl⟩ := r.rc
  exact ⟨a, xs, e1, e2, e3.length⟩

/-! ### a call -/
theorem Rel.enter {F1 F2 : List Addr} {ps cs : Cells} (r : RelAt K c (F1 ++ F2) (ps ++ cs) H) (s1 : RC K (hid (F1 ++ F2 ++ c.B) H) H ps F1) : RelAt K ⟨F2 ++ c.B, H, F1⟩ F1 ps H where
  rc := by rw [← List.append_assoc]; exact s1
  nd := (List.nodup_append.mp r.nd).1
  dj := fun a ha z => by
    rcases List.mem_append.mp z with z | z
    · exact (List.nodup_append.mp r.nd).2.2 a ha a z rfl
    · exact r.dj a (List.mem_append_left _ ha) z
  bt := fun b hb => by
    have nb : b ∉ F1 := fun z => by
      rcases List.mem_append.mp hb with w | w
      · exact (List.nodup_append.mp r.nd).2.2 b z b w rfl
      · exact r.dj b (List.mem_append_left _ z) w
    refine ⟨?_, nb⟩
    rcases List.mem_append.mp hb with z | z
    · exact r.rc.trk b (List.mem_append_right _ z)
    · obtain ⟨⟨o, e⟩, hf⟩ := r.bt b z
      exact ⟨o, r.fr b o e hf⟩
  fr := fun b o e _ => e
  ow := fun a ha => .inl ha
theorem Rel.leave {F1 F2 : List Addr} {ps cs qs : Cells} {H' : Hp} (r : RelAt K c (F1 ++ F2) (ps ++ cs) H) (s2 : RC K (hid (F1 ++ F2 ++ c.B) H) H cs F2) (r' : Rel K ⟨F2 ++ c.B, H, F1⟩ qs H') : Rel K c (qs ++ cs) H' := by
  obtain ⟨G, r'⟩ := r'
  have hf : ∀ b o, H b = some o → b ∉ F1 → H' b = some o := r'.fr
  have n12 := (List.nodup_append.mp r.nd)
  have gout : ∀ b o, H b = some o → b ∉ F1 → b ∉ G := fun b o e n z => by
    rcases r'.ow b z with w | w
    · exact n w
    · rw [show H b = none from w] at e; cases e
  have e1 : hid (G ++ F2 ++ c.B) H' = hid (G ++ (F2 ++ c.B)) H' := by rw [List.append_assoc]
  have le : Same (hid (F1 ++ F2 ++ c.B) H) (hid (G ++ F2 ++ c.B) H') := fun b o e => by
    obtain ⟨z1, z2⟩ := hid_some e
    have n1 : b ∉ F1 := fun z => z1 (by simp [z])
    refine hid_of (fun z => ?_) (hf b o z2 n1)
    rcases List.mem_append.mp z with z | z
    · rcases List.mem_append.mp z with z | z
      · exact gout b o z2 n1 z
      · exact z1 (by simp [z])
    · exact z1 (by simp [z])
  refine ⟨G ++ F2, RC.append (by rw [e1]; exact r'.rc) (s2.mono le fun a ha => ?_), ?_, fun a ha => ?_, r.bt, fun b o e n => ?_, fun a ha => ?_⟩
  · obtain ⟨u, e⟩ := s2.trk a ha
    rw [e]
    exact hf a u e fun z => n12.2.2 a z a ha rfl
  · refine List.nodup_append.mpr ⟨r'.nd, n12.2.1, fun a ha b hb e => ?_⟩
    subst e
    exact r'.dj a ha (List.mem_append_left _ hb)
  · rcases List.mem_append.mp ha with z | z
    · exact fun w => r'.dj a z (List.mem_append_right _ w)
    · exact r.dj a (List.mem_append_right _ z)
  · refine hf b o (r.fr b o e n) fun z => ?_
    rcases r.ow b (List.mem_append_left _ z) with w | w
    · exact n w
    · rw [e] at w; cases w
  · rcases List.mem_append.mp ha with z | z
    · rcases r'.ow a z with w | w
      · exact r.ow a (List.mem_append_left _ w)
      · exact r.h0 w
    · exact r.ow a (List.mem_append_right _ z)
end
end Mr

end
section
set_option Elab.async false
set_option linter.all false
set_option maxRecDepth 100000
set_option maxHeartbeats 4000000
/-! MrB: expressions, operands, argument lists, calls: readings against mirrors. -/
namespace Mr
open PySem PySem.Spec PyProof.Rows L2

/-! ### the slots -/
section
variable {K : PySem.W.Frag} {c : Cc} {H : Hp} {τ : Cells} {ρ : List O} {σ : L2.St}
theorem zip_perm : ∀ {ρ : List O} {σ : List (Option V)} {i : Nat} {o : O} {x : Option V}, ρ[i]? = some o → σ[i]? = some x → (ρ.zip σ).Perm ((o, x) :: (ρ.eraseIdx i).zip (σ.eraseIdx i))
  | [], _, _, _, _, h, _ => by simp at h
  | _ :: _, [], _, _, _, _, h => by simp at h
  | a :: ρ, b :: σ, 0, o, x, h1, h2 => by
    have e1 : a = o := Option.some.inj h1
    have e2 : b = x := Option.some.inj h2
    subst e1; subst e2
    exact .refl _
  | a :: ρ, b :: σ, i + 1, o, x, h1, h2 => by
    have q := zip_perm (i := i) (ρ := ρ) (σ := σ) (by simpa using h1) (by simpa using h2)
    show ((a, b) :: ρ.zip σ).Perm ((o, x) :: (a, b) :: (ρ.eraseIdx i).zip (σ.eraseIdx i))
    exact (List.Perm.cons _ q).trans (.swap _ _ _)
theorem Rel.take {i : Nat} {o : O} {x : Option V} (r : Rel K c (τ ++ ρ.zip σ) H) (h1 : ρ[i]? = some o) (h2 : σ[i]? = some x) : Rel K c ((o, x) :: (τ ++ (ρ.set i .n).zip σ)) H := by
  have hi : i < ρ.length := (List.getElem?_eq_some_iff.mp h1).1
  have a : Rel K c ((o, x) :: (τ ++ (ρ.eraseIdx i).zip (σ.eraseIdx i))) H := r.perm ((List.Perm.append_left τ (zip_perm h1 h2)).trans List.perm_middle)
  have p2 := zip_perm (ρ := ρ.set i .n) (σ := σ) (i := i) (o := .n) (x := x) (List.getElem?_set_self hi) h2
  rw [List.eraseIdx_set_eq] at p2
  refine (a.non (x := x)).perm ?_
  refine (List.Perm.swap _ _ _).trans (.cons _ ?_)
  exact (List.perm_middle.symm).trans (List.Perm.append_left τ p2.symm)
theorem Rel.put {i : Nat} {o : O} {x : Option V} (r : Rel K c ((o, x) :: (τ ++ ρ.zip σ)) H) (hl : ρ.length = σ.length) (h2 : σ[i]? = some x) : Rel K c (τ ++ (ρ.set i o).zip σ) H := by
  have hi : i < ρ.length := by rw [hl]; exact (List.getElem?_eq_some_iff.mp h2).1
  obtain ⟨o1, h1⟩ : ∃ o1, ρ[i]? = some o1 := ⟨ρ[i], List.getElem?_eq_getElem hi⟩
  have p1 := zip_perm h1 h2
  have p2 := zip_perm (ρ := ρ.set i o) (σ := σ) (i := i) (o := o) (x := x) (List.getElem?_set_self hi) h2
  rw [List.eraseIdx_set_eq] at p2
  have a : Rel K c ((o, x) :: (τ ++ (ρ.eraseIdx i).zip (σ.eraseIdx i))) H := by
    have r1 : Rel K c ((o, x) :: (τ ++ (o1, x) :: (ρ.eraseIdx i).zip (σ.eraseIdx i))) H := r.perm (.cons _ (List.Perm.append_left τ p1))
    have r2 : Rel K c ((o1, x) :: (o, x) :: (τ ++ (ρ.eraseIdx i).zip (σ.eraseIdx i))) H := r1.perm ((List.Perm.cons _ List.perm_middle).trans (.swap _ _ _))
    exact r2.drop
  exact a.perm ((List.perm_middle.symm).trans (List.Perm.append_left τ p2.symm))
/-- a value stored in a slot -/
theorem Rel.store {i : Nat} {o : O} {x : Option V} (r : Rel K c ((o, x) :: (τ ++ ρ.zip σ)) H) (hl : ρ.length = σ.length) (hi : i < σ.length) : Rel K c (τ ++ (ρ.set i o).zip (σ.set i x)) H := by
  have hi' : i < ρ.length := by rw [hl]; exact hi
  have p1 := zip_perm (ρ := ρ) (σ := σ) (i := i) (List.getElem?_eq_getElem hi') (List.getElem?_eq_getElem hi)
  have p2 := zip_perm (ρ := ρ.set i o) (σ := σ.set i x) (i := i) (o := o) (x := x) (List.getElem?_set_self hi') (List.getElem?_set_self hi)
  rw [List.eraseIdx_set_eq, List.eraseIdx_set_eq] at p2
  have a : Rel K c ((o, x) :: (τ ++ (ρ.eraseIdx i).zip (σ.eraseIdx i))) H := by
    have r1 := r.perm (List.Perm.cons (o, x) (List.Perm.append_left τ p1))
    exact (r1.perm ((List.Perm.cons _ List.perm_middle).trans (.swap _ _ _))).drop
  exact a.perm ((List.perm_middle.symm).trans (List.Perm.append_left τ p2.symm))
theorem mem_zip {i : Nat} {o : O} {x : Option V} (h1 : ρ[i]? = some o) (h2 : σ[i]? = some x) : (o, x) ∈ ρ.zip σ := (zip_perm h1 h2).mem_iff.mpr List.mem_cons_self
theorem slot_of {i : Nat} {o : O} (hl : ρ.length = σ.length) (h1 : ρ[i]? = some o) : ∃ x, σ[i]? = some x := by
  have hi : i < σ.length := by rw [← hl]; exact (List.getElem?_eq_some_iff.mp h1).1
  exact ⟨σ[i], List.getElem?_eq_getElem hi⟩
/-- the value of a plain cell -/
theorem Rel.val {d : D} {x : Option V} {cs : Cells} (r : Rel K c cs H) (h : (O.v d, x) ∈ cs) : ∃ F y, RelAt K c F cs H ∧ x = some y ∧ Rep K (hid (F ++ c.B) H) d y := by
  obtain ⟨F, r⟩ := r
  obtain ⟨F1, ⟨_, y, e, q⟩, _⟩ := r.rc.mem h
  exact ⟨F, y, r, e, q⟩
theorem Rel.valL {ds : List D} {x : Option V} {cs : Cells} (r : Rel K c cs H) (h : (O.l ds, x) ∈ cs) : ∃ F a xs, RelAt K c F cs H ∧ x = some (.ref a) ∧ H a = some (.lst xs) ∧ Reps K (hid (F ++ c.B) H) ds xs := by
  obtain ⟨F, r⟩ := r
  obtain ⟨F1, ⟨a, xs, e, e2, q, _⟩, _⟩ := r.rc.mem h
  exact ⟨F, a, xs, r, e, e2, q⟩
end

/-! ### contexts -/
structure Cd where
  P : Program
  w : World
  K : PySem.W.Frag
  mg : Str → Option Value
  base : Heap
  k : Nat
/-- a block's names: as they are looked up; as they were written (a comprehension's captured names differ) -/
structure Sk where
  sc : Scope
  as : Scope
/-- a context of a def's body, or of a block in it -/
structure Gd (C : Cd) (N : List Str) (sc : Sk) (X : Cx) : Prop where
  prog : X.prog = C.P
  w : X.w = C.w
  K : X.K = C.K
  mg : X.mg = C.mg
  base : X.base = C.base
  N : X.N = N
  calm : X.calm = true
  room : Room C.k X.A
  scp : X.env.scope = sc.sc
  fn : ∀ x, sc.as.names.lookup x = some .cell → X.fn x = true
def okName (x : Str) : Bool := !decide (x = ("__debug__" : Str)) && !decide (x = ("__classdict__" : Str)) && !decide (x = ("__name__" : Str))
def visB (N : List Str) (sc : Sk) (i : Nat) (x : Str) : Bool := decide (N[i]? = some x) && okName x && match sc.sc.names.lookup x with
  | some .local => true
  | some .cell => true
  | some .free => true
  | _ => false
def locB (N : List Str) (sc : Sk) (i : Nat) (x : Str) : Bool := decide (N[i]? = some x) && okName x && match sc.as.names.lookup x, sc.sc.names.lookup x with
  | some .local, some .local => true
  | some .cell, some .cell => true
  | _, _ => false
def gloB (sc : Sk) (x : Str) : Bool := okName x && match sc.sc.names.lookup x with
  | some .globalImplicit => true
  | _ => false
theorem okName_d {x : Str} (h : okName x = true) : (x == ("__debug__" : Str)) = false ∧ (x == ("__classdict__" : Str)) = false ∧ x ≠ ("__name__" : Str) := by
  unfold okName at h
  simp only [Bool.and_eq_true, Bool.not_eq_true', decide_eq_false_iff_not] at h
  exact ⟨beq_eq_false_iff_ne.mpr h.1.1, beq_eq_false_iff_ne.mpr h.1.2, h.2⟩
theorem visB_ok {N : List Str} {sc : Sk} {i : Nat} {x : Str} (h : visB N sc i x = true) : N[i]? = some x ∧ Vis sc.sc x ∧ okName x = true := by
  unfold visB at h
  simp only [Bool.and_eq_true, decide_eq_true_eq] at h
  obtain ⟨⟨h1, h2⟩, h3⟩ := h
  refine ⟨h1, ?_, h2⟩
  split at h3
  · exact .inl (by assumption)
  · exact .inr (.inl (by assumption))
  · exact .inr (.inr (by assumption))
  · cases h3
theorem locB_ok {N : List Str} {sc : Sk} {i : Nat} {x : Str} (h : locB N sc i x = true) : N[i]? = some x ∧ (sc.sc.names.lookup x = some .local ∨ (sc.sc.names.lookup x = some .cell ∧ sc.as.names.lookup x = some .cell)) ∧ okName x = true := by
  unfold locB at h
  simp only [Bool.and_eq_true, decide_eq_true_eq] at h
  obtain ⟨⟨h1, h2⟩, h3⟩ := h
  refine ⟨h1, ?_, h2⟩
  split at h3
  · exact .inl (by assumption)
  · exact .inr ⟨by assumption, by assumption⟩
  · cases h3
theorem gloB_ok {sc : Sk} {x : Str} (h : gloB sc x = true) : sc.sc.names.lookup x = some .globalImplicit ∧ okName x = true := by
  unfold gloB at h
  simp only [Bool.and_eq_true] at h
  obtain ⟨h2, h3⟩ := h
  refine ⟨?_, h2⟩
  split at h3
  · assumption
  · cases h3
section
variable {C : Cd} {N : List Str} {sc : Sk} {X : Cx}
theorem Gd.vis (g : Gd C N sc X) {i : Nat} {x : Str} (h : visB N sc i x = true) : X.N[i]? = some x ∧ Vis X.env.scope x := by
  obtain ⟨h1, h2, _⟩ := visB_ok h
  rw [g.N, g.scp]
  exact ⟨h1, h2⟩
theorem Gd.loc (g : Gd C N sc X) {i : Nat} {x : Str} (h : locB N sc i x = true) : X.N[i]? = some x ∧ Loc X.env.scope x ∧ (X.fn x = true ∨ X.env.scope.names.lookup x = some .local) := by
  obtain ⟨h1, h2, _⟩ := locB_ok h
  rw [g.N, g.scp]
  rcases h2 with h2 | ⟨h2, h3⟩
  · exact ⟨h1, .inl h2, .inr h2⟩
  · exact ⟨h1, .inr h2, .inl (g.fn x h3)⟩
theorem Gd.gl (g : Gd C N sc X) {x : Str} (h : gloB sc x = true) : Gl X x := by
  show X.env.scope.names.lookup x = _
  rw [g.scp]
  exact (gloB_ok h).1
end

/-! ### expressions -/
abbrev ME := List O → Option (O × List O)
def Rf (K : PySem.W.Frag) (t : TE) (m : ME) : Prop := ∀ (c : Cc) (τ : Cells) (ρ : List O) (σ : L2.St) (H : Hp) (Q : VK) (o : O) (ρ' : List O), ρ.length = σ.length → Rel K c (τ ++ ρ.zip σ) H → m ρ = some (o, ρ') →
  (∀ x H', ρ'.length = σ.length → Rel K c ((o, some x) :: (τ ++ ρ'.zip σ)) H' → Q x H') → t σ H Q
def RE (C : Cd) (N : List Str) (sc : Sk) (e : Expr) (m : ME) : Prop := ∃ t, (∀ X, Gd C N sc X → PE X e t) ∧ Rf C.K t m
/-- an operand: a name (its slot), or a value of its own -/
inductive Pr where
  | nm (i : Nat) | ex (o : O)
abbrev MP := List O → Option (Pr × List O)
def kap : Pr → V → Cells
  | .nm _, _ => []
  | .ex o, x => [(o, some x)]
def pval : Pr → L2.St → V → Prop
  | .nm i, σ, x => σ[i]? = some (some x)
  | .ex _, _, _ => True
def Rfp (K : PySem.W.Frag) (t : TE) (m : MP) : Prop := ∀ (c : Cc) (τ : Cells) (ρ : List O) (σ : L2.St) (H : Hp) (Q : VK) (p : Pr) (ρ' : List O), ρ.length = σ.length → Rel K c (τ ++ ρ.zip σ) H → m ρ = some (p, ρ') →
  (∀ x H', ρ'.length = σ.length → pval p σ x → Rel K c (kap p x ++ (τ ++ ρ'.zip σ)) H' → Q x H') → t σ H Q
def RP (C : Cd) (N : List Str) (sc : Sk) (e : Expr) (m : MP) : Prop := ∃ t, (∀ X, Gd C N sc X → PE X e t) ∧ Rfp C.K t m
def vw (ρ : List O) : Pr → Option D
  | .nm i => (ρ[i]?).bind er
  | .ex o => er o

/-- a name's value: what it owns is let go -/
def m_var (i : Nat) : ME := fun ρ => match ρ[i]? with
  | some (.v d) => some (.v d, ρ)
  | some o => (toD o).map fun d => (.v d, ρ.set i (.v d))
  | none => none
/-- .. moved out -/
def m_mv (i : Nat) : ME := fun ρ => match ρ[i]? with
  | some (.v d) => some (.v d, ρ)
  | some (.l ds) => some (.l ds, ρ.set i .n)
  | some (.dd ks ds) => some (.dd ks ds, ρ.set i .n)
  | some (.g k os) => some (.g k os, ρ.set i .n)
  | _ => none
def m_c (d : D) : ME := fun ρ => some (.v d, ρ)
def p_nm (i : Nat) : MP := fun ρ => match ρ[i]? with
  | some (.v _) => some (.nm i, ρ)
  | some (.l _) => some (.nm i, ρ)
  | some (.dd _ _) => some (.nm i, ρ)
  | some (.g _ _) => some (.nm i, ρ)
  | _ => none
def p_ex (m : ME) : MP := fun ρ => (m ρ).map fun a => (.ex a.1, a.2)
section
variable {K : PySem.W.Frag}
theorem m_var_o {i : Nat} {ρ : List O} {o : O} {d : D} (h : ρ[i]? = some o) (t : toD o = some d) : m_var i ρ = some (.v d, ρ.set i (.v d)) := by
  unfold m_var
  rw [h]
  cases o with
  | v d' =>
    simp only [toD, Option.some.injEq] at t
    subst t
    have hi := (List.getElem?_eq_some_iff.mp h)
    obtain ⟨hl, e⟩ := hi
    simp only
    rw [← e, List.set_getElem_self]
  | n => simp [toD] at t
  | l ds => simp only; rw [t]; rfl
  | g k os => simp only; rw [t]; rfl
  | dd ks ds => simp only; rw [t]; rfl
theorem rf_var {i : Nat} : Rf K (tVar i) (m_var i) := by
  intro c τ ρ σ H Q o ρ' hl r e k
  cases h1 : ρ[i]? with
  | none => unfold m_var at e; rw [h1] at e; cases e
  | some oi =>
    obtain ⟨x, h2⟩ := slot_of hl h1
    obtain ⟨d, t⟩ : ∃ d, toD oi = some d := by
      unfold m_var at e
      rw [h1] at e
      cases oi with
      | n => simp [toD] at e
      | v d => exact ⟨d, by simp [toD]⟩
      | l ds => exact ⟨_, by simp [toD]; rfl⟩
      | dd ks ds => exact ⟨_, by simp [toD]; rfl⟩
      | g k os =>
        simp only at e
        obtain ⟨d, q, _⟩ := Option.map_eq_some_iff.mp e
        exact ⟨d, q⟩
    rw [m_var_o h1 t] at e
    cases e
    have r1 := (r.take h1 h2).toD t
    have hm : (O.v d, x) ∈ (O.v d, x) :: (τ ++ (ρ.set i .n).zip σ) := List.mem_cons_self
    obtain ⟨F, y, _, e1, _⟩ := r1.val hm
    subst e1
    have r2 : Rel K c ((O.v d, some y) :: (((O.v d, some y) :: τ) ++ (ρ.set i .n).zip σ)) H := r1.dup hm
    have r3 := r2.put (i := i) (by rw [List.length_set]; exact hl) h2
    rw [List.set_set] at r3
    exact ⟨y, h2, k y H (by rw [List.length_set]; exact hl) r3⟩
theorem rf_mv {i : Nat} : Rf K (tVar i) (m_mv i) := by
  intro c τ ρ σ H Q o ρ' hl r e k
  unfold m_mv at e
  cases h1 : ρ[i]? with
  | none => rw [h1] at e; cases e
  | some oi =>
    rw [h1] at e
    obtain ⟨x, h2⟩ := slot_of hl h1
    cases oi with
    | n => cases e
    | v d =>
      cases e
      have hm : (O.v d, x) ∈ τ ++ ρ.zip σ := List.mem_append_right _ (mem_zip h1 h2)
      obtain ⟨F, y, _, e1, _⟩ := r.val hm
      subst e1
      exact ⟨y, h2, k y H hl (r.dup hm)⟩
    | l ds =>
      cases e
      have r1 := r.take h1 h2
      obtain ⟨a, xs, e1, _⟩ := r1.ref
      subst e1
      exact ⟨.ref a, h2, k _ H (by rw [List.length_set]; exact hl) r1⟩
    | dd ks ds =>
      cases e
      have r1 := r.take h1 h2
      obtain ⟨_, r0⟩ := id r1
      obtain ⟨_, _, ⟨a, _, ex, _⟩, _⟩ := r0.rc
      subst ex
      exact ⟨.ref a, h2, k _ H (by rw [List.length_set]; exact hl) r1⟩
    | g kd os =>
      cases e
      have r1 := r.take h1 h2
      obtain ⟨_, r0⟩ := id r1
      obtain ⟨_, _, ⟨a, _, _, ex, _⟩, _⟩ := r0.rc
      subst ex
      exact ⟨.ref a, h2, k _ H (by rw [List.length_set]; exact hl) r1⟩
theorem rf_c {v : V} {d : D} (h : ∀ h, Rep K h d v) : Rf K (tC v) (m_c d) := by
  intro c τ ρ σ H Q o ρ' hl r e k
  cases e
  obtain ⟨F, r⟩ := r
  exact k v H hl (r.add (h _))
theorem rfp_nm {i : Nat} : Rfp K (tVar i) (p_nm i) := by
  intro c τ ρ σ H Q p ρ' hl r e k
  unfold p_nm at e
  cases h1 : ρ[i]? with
  | none => rw [h1] at e; cases e
  | some oi =>
    rw [h1] at e
    obtain ⟨x, h2⟩ := slot_of hl h1
    cases oi with
    | dd ks ds =>
      cases e
      have hm : (O.dd ks ds, x) ∈ τ ++ ρ.zip σ := List.mem_append_right _ (mem_zip h1 h2)
      obtain ⟨F, rr⟩ := id r
      obtain ⟨F1, ⟨a, xs, e1, _⟩, _⟩ := rr.rc.mem hm
      subst e1
      exact ⟨.ref a, h2, k _ H hl h2 r⟩
    | g kd os =>
      cases e
      have hm : (O.g kd os, x) ∈ τ ++ ρ.zip σ := List.mem_append_right _ (mem_zip h1 h2)
      obtain ⟨F, rr⟩ := id r
      obtain ⟨F1, ⟨a, xs, F2, e1, _⟩, _⟩ := rr.rc.mem hm
      subst e1
      exact ⟨.ref a, h2, k _ H hl h2 r⟩
    | n => cases e
    | v d =>
      cases e
      have hm : (O.v d, x) ∈ τ ++ ρ.zip σ := List.mem_append_right _ (mem_zip h1 h2)
      obtain ⟨F, y, _, e1, _⟩ := r.val hm
      subst e1
      exact ⟨y, h2, k y H hl h2 r⟩
    | l ds =>
      cases e
      have hm : (O.l ds, x) ∈ τ ++ ρ.zip σ := List.mem_append_right _ (mem_zip h1 h2)
      obtain ⟨F, a, xs, _, e1, _⟩ := r.valL hm
      subst e1
      exact ⟨.ref a, h2, k _ H hl h2 r⟩
theorem rfp_ex {t : TE} {m : ME} (h : Rf K t m) : Rfp K t (p_ex m) := by
  intro c τ ρ σ H Q p ρ' hl r e k
  unfold p_ex at e
  obtain ⟨⟨o, ρ1⟩, e1, e2⟩ := Option.map_eq_some_iff.mp e
  cases e2
  exact h c τ ρ σ H Q o _ hl r e1 fun x H' hl' r' => k x H' hl' True.intro r'
theorem vw_mem {ρ : List O} {σ : L2.St} {p : Pr} {d : D} {x : V} (e : vw ρ p = some d) (q : pval p σ x) : ∃ o, er o = some d ∧ ((o, some x) ∈ kap p x ∨ (o, some x) ∈ ρ.zip σ) := by
  cases p with
  | nm i =>
    obtain ⟨o, h1, h2⟩ := Option.bind_eq_some_iff.mp e
    exact ⟨o, h2, .inr (mem_zip h1 q)⟩
  | ex o => exact ⟨o, e, .inl (List.mem_singleton.mpr rfl)⟩
end
section
variable {C : Cd} {N : List Str} {sc : Sk} {pos : Pos}
theorem re_var (i : Nat) {x : Str} (h : visB N sc i x = true := by decide +kernel) : RE C N sc (.Name x pos) (m_var i) :=
  ⟨tVar i, fun X g => pe_var (g.vis h).1 (g.vis h).2 (okName_d (visB_ok h).2.2).1 (okName_d (visB_ok h).2.2).2.1, rf_var⟩
theorem re_mv (i : Nat) {x : Str} (h : visB N sc i x = true := by decide +kernel) : RE C N sc (.Name x pos) (m_mv i) :=
  ⟨tVar i, fun X g => pe_var (g.vis h).1 (g.vis h).2 (okName_d (visB_ok h).2.2).1 (okName_d (visB_ok h).2.2).2.1, rf_mv⟩
theorem rp_nm (i : Nat) {x : Str} (h : visB N sc i x = true := by decide +kernel) : RP C N sc (.Name x pos) (p_nm i) :=
  ⟨tVar i, fun X g => pe_var (g.vis h).1 (g.vis h).2 (okName_d (visB_ok h).2.2).1 (okName_d (visB_ok h).2.2).2.1, rfp_nm⟩
theorem rp_ex {e : Expr} {m : ME} (h : RE C N sc e m) : RP C N sc e (p_ex m) := let ⟨t, h1, h2⟩ := h; ⟨t, h1, rfp_ex h2⟩
theorem re_int {i : Int} {j} : RE C N sc (.Constant (.int i) j pos) (m_c (.int i)) := ⟨_, fun X g => pe_int, rf_c fun _ => rfl⟩
theorem re_bl {b : Bool} {j} : RE C N sc (.Constant (.bool b) j pos) (m_c (.bl b)) := ⟨_, fun X g => pe_bl, rf_c fun _ => rfl⟩
theorem re_non {j} : RE C N sc (.Constant .none j pos) (m_c .non) := ⟨_, fun X g => pe_non, rf_c fun _ => rfl⟩
theorem re_str {x : Str} {j} : RE C N sc (.Constant (.str x) j pos) (m_c (.str x)) := ⟨_, fun X g => pe_str, rf_c fun _ => rfl⟩
/-- a module's constant -/
theorem re_glob {x : Str} {v : V} {u : Value} {d : D} (hm : C.mg x = some u) (r : RelV v u) (hd : ∀ h, Rep C.K h d v) (h : gloB sc x = true := by decide +kernel) : RE C N sc (.Name x pos) (m_c d) :=
  ⟨tC v, fun X g => pe_glob (g.gl h) (by rw [g.mg]; exact hm) r (okName_d (gloB_ok h).2).1, rf_c hd⟩
theorem re_gstr {x s : Str} {t : Tok} (hm : C.mg x = some (.str s t)) (h : gloB sc x = true := by decide +kernel) : RE C N sc (.Name x pos) (m_c (.str s)) := re_glob (v := .str s) hm ⟨t, rfl⟩ (fun _ => rfl) h
theorem re_gint {x : Str} {i : Int} {t : Tok} (hm : C.mg x = some (.int i t)) (h : gloB sc x = true := by decide +kernel) : RE C N sc (.Name x pos) (m_c (.int i)) := re_glob (v := .int i) hm ⟨t, rfl⟩ (fun _ => rfl) h
end

/-! ### operators by values -/
def R2ok (K : PySem.W.Frag) (r : R2) (f : D → D → Option Res) : Prop := ∀ (h H : Hp) (x y : V) (dx dy : D) (res : Res) (Q : VK), Same h H → Vw K h H dx x → Vw K h H dy y → f dx dy = some res → (∀ z H', ResAt K h H res z H' → Q z H') → r x y H Q
def R1ok (K : PySem.W.Frag) (r : V → Hp → VK → Prop) (f : D → Option Res) : Prop := ∀ (h H : Hp) (x : V) (dx : D) (res : Res) (Q : VK), Same h H → Vw K h H dx x → f dx = some res → (∀ z H', ResAt K h H res z H' → Q z H') → r x H Q
def m_op2 (f : D → D → Option Res) (ma mb : MP) : ME := fun ρ => (ma ρ).bind fun a => (mb a.2).bind fun b => (vw b.2 a.1).bind fun d1 => (vw b.2 b.1).bind fun d2 => (f d1 d2).map fun r => (r.o, b.2)
def m_op1 (f : D → Option Res) (ma : MP) : ME := fun ρ => (ma ρ).bind fun a => (vw a.2 a.1).bind fun d1 => (f d1).map fun r => (r.o, a.2)
section
variable {K : PySem.W.Frag}
theorem rf_op2 {r : R2} {f : D → D → Option Res} {ta tb : TE} {ma mb : MP} (hr : R2ok K r f) (ha : Rfp K ta ma) (hb : Rfp K tb mb) : Rf K (tOp r ta tb) (m_op2 f ma mb) := by
  intro c τ ρ σ H Q o ρ' hl rl e k
  unfold m_op2 at e
  obtain ⟨⟨p1, ρ1⟩, e1, e⟩ := Option.bind_eq_some_iff.mp e
  obtain ⟨⟨p2, ρ2⟩, e2, e⟩ := Option.bind_eq_some_iff.mp e
  obtain ⟨d1, e3, e⟩ := Option.bind_eq_some_iff.mp e
  obtain ⟨d2, e4, e⟩ := Option.bind_eq_some_iff.mp e
  obtain ⟨res, e5, e⟩ := Option.map_eq_some_iff.mp e
  cases e
  refine ha c τ ρ σ H _ p1 ρ1 hl rl e1 fun x H1 hl1 pv1 r1 => ?_
  refine hb c (kap p1 x ++ τ) ρ1 σ H1 _ p2 ρ2 hl1 (by rw [List.append_assoc]; exact r1) e2 fun y H2 hl2 pv2 r2 => ?_
  obtain ⟨F, rr⟩ := id r2
  obtain ⟨o1, x1, x2⟩ := vw_mem e3 pv1
  obtain ⟨o2, y1, y2⟩ := vw_mem e4 pv2
  refine hr _ H2 x y d1 d2 res Q hid_same (rr.vw (o := o1) ?_ x1) (rr.vw (o := o2) ?_ y1) e5 fun z H' q => k z H' hl2 ?_
  · rcases x2 with x2 | x2
    · simp [x2]
    · simp [x2]
  · rcases y2 with y2 | y2
    · simp [y2]
    · simp [y2]
  · have q1 := (rr.res q).mid1
    rw [List.append_assoc] at q1
    exact q1.mid1
theorem rf_op1 {r : V → Hp → VK → Prop} {f : D → Option Res} {ta : TE} {ma : MP} (hr : R1ok K r f) (ha : Rfp K ta ma) : Rf K (tUn r ta) (m_op1 f ma) := by
  intro c τ ρ σ H Q o ρ' hl rl e k
  unfold m_op1 at e
  obtain ⟨⟨p1, ρ1⟩, e1, e⟩ := Option.bind_eq_some_iff.mp e
  obtain ⟨d1, e3, e⟩ := Option.bind_eq_some_iff.mp e
  obtain ⟨res, e5, e⟩ := Option.map_eq_some_iff.mp e
  cases e
  refine ha c τ ρ σ H _ p1 ρ1 hl rl e1 fun x H1 hl1 pv1 r1 => ?_
  obtain ⟨F, rr⟩ := id r1
  obtain ⟨o1, x1, x2⟩ := vw_mem e3 pv1
  refine hr _ H1 x d1 res Q hid_same (rr.vw (o := o1) ?_ x1) e5 fun z H' q => k z H' hl1 (rr.res q).mid1
  rcases x2 with x2 | x2
  · simp [x2]
  · simp [x2]
end

/-! ### argument lists -/
abbrev MA := List O → Option (List Pr × List O)
def kaps : List Pr → List V → Cells
  | p :: ps, x :: xs => kaps ps xs ++ kap p x
  | _, _ => []
def pvals : List Pr → L2.St → List V → Prop
  | [], _, xs => xs = []
  | p :: ps, σ, xs => ∃ x r, xs = x :: r ∧ pval p σ x ∧ pvals ps σ r
def Rfa (K : PySem.W.Frag) (t : TA) (m : MA) : Prop := ∀ (c : Cc) (τ : Cells) (ρ : List O) (σ : L2.St) (H : Hp) (Q : List V → Hp → Prop) (ps : List Pr) (ρ' : List O), ρ.length = σ.length → Rel K c (τ ++ ρ.zip σ) H → m ρ = some (ps, ρ') →
  (∀ xs H', ρ'.length = σ.length → pvals ps σ xs → Rel K c (kaps ps xs ++ (τ ++ ρ'.zip σ)) H' → Q xs H') → t σ H Q
def RA (C : Cd) (N : List Str) (sc : Sk) (es : List Expr) (m : MA) : Prop := ∃ t, (∀ X, Gd C N sc X → PA X es t) ∧ Rfa C.K t m
def a_nil : MA := fun ρ => some ([], ρ)
def a_cons (m : MP) (ms : MA) : MA := fun ρ => (m ρ).bind fun a => (ms a.2).map fun b => (a.1 :: b.1, b.2)
section
variable {K : PySem.W.Frag}
theorem rfa_nil : Rfa K tNil a_nil := by
  intro c τ ρ σ H Q ps ρ' hl r e k
  cases e
  exact k [] H hl rfl r
theorem rfa_cons {te : TE} {tr : TA} {m : MP} {ms : MA} (h1 : Rfp K te m) (h2 : Rfa K tr ms) : Rfa K (tCons te tr) (a_cons m ms) := by
  intro c τ ρ σ H Q ps ρ' hl r e k
  unfold a_cons at e
  obtain ⟨⟨p, ρ1⟩, e1, e⟩ := Option.bind_eq_some_iff.mp e
  obtain ⟨⟨qs, ρ2⟩, e2, e⟩ := Option.map_eq_some_iff.mp e
  cases e
  refine h1 c τ ρ σ H _ p ρ1 hl r e1 fun x H1 hl1 pv1 r1 => ?_
  refine h2 c (kap p x ++ τ) ρ1 σ H1 _ qs ρ2 hl1 (by rw [List.append_assoc]; exact r1) e2 fun xs H2 hl2 pv2 r2 => ?_
  refine k (x :: xs) H2 hl2 ⟨x, xs, rfl, pv1, pv2⟩ ?_
  show Rel K c ((kaps qs xs ++ kap p x) ++ _) H2
  rw [List.append_assoc, ← List.append_assoc (kap p x)]
  exact r2
/-- the arguments as cells: an owned list of a name is moved -/
def tk : List Pr → List O → Option (List O × List O)
  | [], ρ => some ([], ρ)
  | .ex o :: ps, ρ => (tk ps ρ).map fun a => (o :: a.1, a.2)
  | .nm i :: ps, ρ => match ρ[i]? with
    | some (.v d) => (tk ps ρ).map fun a => (.v d :: a.1, a.2)
    | some (.l ds) => (tk ps (ρ.set i .n)).map fun a => (.l ds :: a.1, a.2)
    | some (.dd ks ds) => (tk ps (ρ.set i .n)).map fun a => (.dd ks ds :: a.1, a.2)
    | some (.g k qs) => (tk ps (ρ.set i .n)).map fun a => (.g k qs :: a.1, a.2)
    | _ => none
/-- .. and back -/
def bk : List Pr → List O → List O → List O
  | .nm i :: ps, o :: os, ρ => bk ps os (match ρ[i]? with
    | some .n => ρ.set i o
    | _ => ρ)
  | .ex _ :: ps, _ :: os, ρ => bk ps os ρ
  | _, _, ρ => ρ
theorem tk_ok {c : Cc} {σ : L2.St} {H : Hp} : ∀ {ps : List Pr} {xs : List V} {τ : Cells} {ρ os ρ1 : List O}, ρ.length = σ.length → pvals ps σ xs → Rel K c (kaps ps xs ++ (τ ++ ρ.zip σ)) H → tk ps ρ = some (os, ρ1) →
    Rel K c (os.zip (xs.map some) ++ (τ ++ ρ1.zip σ)) H ∧ ρ1.length = σ.length ∧ os.length = xs.length
  | [], xs, τ, ρ, os, ρ1, hl, pv, r, e => by
    cases pv
    cases e
    exact ⟨r, hl, rfl⟩
  | .ex o :: ps, xs, τ, ρ, os, ρ1, hl, ⟨x, xr, ex, p1, p2⟩, r, e => by
    subst ex
    obtain ⟨⟨os1, ρ2⟩, e1, e⟩ := Option.map_eq_some_iff.mp e
    cases e
    have r' : Rel K c ((kaps ps xr ++ [(o, some x)]) ++ (τ ++ ρ.zip σ)) H := r
    rw [List.append_assoc] at r'
    obtain ⟨a, b, l⟩ := tk_ok (τ := (o, some x) :: τ) hl p2 r' e1
    refine ⟨a.perm ?_, b, by rw [List.length_cons, List.length_cons, l]⟩
    exact List.perm_middle
  | .nm i :: ps, xs, τ, ρ, os, ρ1, hl, ⟨x, xr, ex, p1, p2⟩, r, e => by
    subst ex
    have r' : Rel K c ((kaps ps xr ++ []) ++ (τ ++ ρ.zip σ)) H := r
    rw [List.append_nil] at r'
    unfold tk at e
    cases h1 : ρ[i]? with
    | none => rw [h1] at e; cases e
    | some oi =>
      rw [h1] at e
      cases oi with
      | dd ks ds =>
        obtain ⟨⟨os1, ρ2⟩, e1, e⟩ := Option.map_eq_some_iff.mp e
        cases e
        rw [← List.append_assoc] at r'
        have r1 := r'.take h1 p1
        rw [List.append_assoc] at r1
        have r2 : Rel K c (kaps ps xr ++ (((O.dd ks ds, some x) :: τ) ++ (ρ.set i .n).zip σ)) H := r1.perm List.perm_middle.symm
        obtain ⟨a, b, l⟩ := tk_ok (by rw [List.length_set]; exact hl) p2 r2 e1
        exact ⟨a.perm List.perm_middle, b, by rw [List.length_cons, List.length_cons, l]⟩
      | g kd qs =>
        obtain ⟨⟨os1, ρ2⟩, e1, e⟩ := Option.map_eq_some_iff.mp e
        cases e
        rw [← List.append_assoc] at r'
        have r1 := r'.take h1 p1
        rw [List.append_assoc] at r1
        have r2 : Rel K c (kaps ps xr ++ (((O.g kd qs, some x) :: τ) ++ (ρ.set i .n).zip σ)) H := r1.perm List.perm_middle.symm
        obtain ⟨a, b, l⟩ := tk_ok (by rw [List.length_set]; exact hl) p2 r2 e1
        exact ⟨a.perm List.perm_middle, b, by rw [List.length_cons, List.length_cons, l]⟩
      | n => cases e
      | v d =>
        obtain ⟨⟨os1, ρ2⟩, e1, e⟩ := Option.map_eq_some_iff.mp e
        cases e
        have hm : (O.v d, some x) ∈ kaps ps xr ++ (τ ++ ρ.zip σ) := List.mem_append_right _ (List.mem_append_right _ (mem_zip h1 p1))
        have r2 : Rel K c (kaps ps xr ++ (((O.v d, some x) :: τ) ++ ρ.zip σ)) H := (r'.dup hm).perm List.perm_middle.symm
        obtain ⟨a, b, l⟩ := tk_ok hl p2 r2 e1
        exact ⟨a.perm List.perm_middle, b, by rw [List.length_cons, List.length_cons, l]⟩
      | l ds =>
        obtain ⟨⟨os1, ρ2⟩, e1, e⟩ := Option.map_eq_some_iff.mp e
        cases e
        rw [← List.append_assoc] at r'
        have r1 := r'.take h1 p1
        rw [List.append_assoc] at r1
        have r2 : Rel K c (kaps ps xr ++ (((O.l ds, some x) :: τ) ++ (ρ.set i .n).zip σ)) H := r1.perm List.perm_middle.symm
        obtain ⟨a, b, l⟩ := tk_ok (by rw [List.length_set]; exact hl) p2 r2 e1
        exact ⟨a.perm List.perm_middle, b, by rw [List.length_cons, List.length_cons, l]⟩
theorem bk_ok {c : Cc} {σ : L2.St} {H : Hp} : ∀ {ps : List Pr} {xs : List V} {τ : Cells} {ρ os : List O}, ρ.length = σ.length → pvals ps σ xs → Rel K c (os.zip (xs.map some) ++ (τ ++ ρ.zip σ)) H →
    Rel K c (τ ++ (bk ps os ρ).zip σ) H ∧ (bk ps os ρ).length = σ.length
  | [], xs, τ, ρ, os, hl, pv, r => by
    cases pv
    rw [List.map_nil, List.zip_nil_right] at r
    exact ⟨r, hl⟩
  | .ex o :: ps, xs, τ, ρ, [], hl, ⟨x, xr, ex, p1, p2⟩, r => ⟨r, hl⟩
  | .nm i :: ps, xs, τ, ρ, [], hl, ⟨x, xr, ex, p1, p2⟩, r => ⟨r, hl⟩
  | .ex _ :: ps, xs, τ, ρ, o :: os, hl, ⟨x, xr, ex, p1, p2⟩, r => by
    subst ex
    have r' : Rel K c ((o, some x) :: (os.zip (xr.map some) ++ (τ ++ ρ.zip σ))) H := r
    exact bk_ok (os := os) hl p2 r'.drop
  | .nm i :: ps, xs, τ, ρ, o :: os, hl, ⟨x, xr, ex, p1, p2⟩, r => by
    subst ex
    have r' : Rel K c ((o, some x) :: (os.zip (xr.map some) ++ (τ ++ ρ.zip σ))) H := r
    unfold bk
    cases h1 : ρ[i]? with
    | none => exact bk_ok hl p2 r'.drop
    | some oi =>
      cases oi with
      | g kd os => exact bk_ok hl p2 r'.drop
      | dd ks ds => exact bk_ok hl p2 r'.drop
      | v d => exact bk_ok hl p2 r'.drop
      | l ds => exact bk_ok hl p2 r'.drop
      | n =>
        rw [← List.append_assoc] at r'
        have r2 := r'.put hl p1
        rw [List.append_assoc] at r2
        exact bk_ok (by rw [List.length_set]; exact hl) p2 r2
def Vws (K : PySem.W.Frag) (h H : Hp) : List D → List V → Prop
  | [], xs => xs = []
  | d :: ds, xs => ∃ x r, xs = x :: r ∧ Vw K h H d x ∧ Vws K h H ds r
def vws (ρ : List O) : List Pr → Option (List D)
  | [] => some []
  | p :: ps => (vw ρ p).bind fun d => (vws ρ ps).map fun ds => d :: ds
theorem vws_ok {c : Cc} {F : List Addr} {cs : Cells} {H : Hp} {ρ : List O} {σ : L2.St} (r : RelAt K c F cs H) (hz : ∀ p ∈ ρ.zip σ, p ∈ cs) : ∀ {ps : List Pr} {xs : List V} {ds : List D}, (∀ p ∈ kaps ps xs, p ∈ cs) → pvals ps σ xs → vws ρ ps = some ds → Vws K (hid (F ++ c.B) H) H ds xs
  | [], xs, ds, hk, pv, e => by
    cases pv
    cases e
    rfl
  | p :: ps, xs, ds, hk, ⟨x, xr, ex, p1, p2⟩, e => by
    subst ex
    obtain ⟨d, e1, e⟩ := Option.bind_eq_some_iff.mp e
    obtain ⟨ds1, e2, e⟩ := Option.map_eq_some_iff.mp e
    cases e
    obtain ⟨o, h1, h2⟩ := vw_mem e1 p1
    refine ⟨x, xr, rfl, r.vw (o := o) ?_ h1, vws_ok r hz (fun q hq => hk q (List.mem_append_left _ hq)) p2 e2⟩
    rcases h2 with h2 | h2
    · exact hk _ (List.mem_append_right _ h2)
    · exact hz _ h2
end
section
variable {C : Cd} {N : List Str} {sc : Sk} {pos : Pos}
theorem ra_nil : RA C N sc [] a_nil := ⟨_, fun X g => pa_nil, rfa_nil⟩
theorem ra_cons {e : Expr} {es : List Expr} {m : MP} {ms : MA} (h1 : RP C N sc e m) (h2 : RA C N sc es ms) (hs : ∀ env : Env, starEach (e :: es) env = (false, eval e env) :: starEach es env := by intro _; rfl) : RA C N sc (e :: es) (a_cons m ms) :=
  let ⟨t, a1, a2⟩ := h1; let ⟨u, b1, b2⟩ := h2; ⟨_, fun X g => pa_cons (a1 X g) (b1 X g) (hs _), rfa_cons a2 b2⟩
end

/-! ### built-in calls, displays -/
def RLok (K : PySem.W.Frag) (r : List V → Hp → VK → Prop) (f : List D → Option Res) : Prop := ∀ (h H : Hp) (xs : List V) (ds : List D) (res : Res) (Q : VK), Same h H → Vws K h H ds xs → f ds = some res → (∀ z H', ResAt K h H res z H' → Q z H') → r xs H Q
def m_bi (f : List D → Option Res) (ma : MA) : ME := fun ρ => (ma ρ).bind fun a => (vws a.2 a.1).bind fun ds => (f ds).map fun r => (r.o, a.2)
/-- items that become parts of a new object: each plain -/
def m_it (m : ME) : MP := fun ρ => (m ρ).bind fun a => (toD a.1).map fun d => (.ex (.v d), a.2)
section
variable {K : PySem.W.Frag}
theorem rf_bi {r : List V → Hp → VK → Prop} {f : List D → Option Res} {ta : TA} {ma : MA} (hr : RLok K r f) (ha : Rfa K ta ma) : Rf K (tCB r ta) (m_bi f ma) := by
  intro c τ ρ σ H Q o ρ' hl rl e k
  unfold m_bi at e
  obtain ⟨⟨ps, ρ1⟩, e1, e⟩ := Option.bind_eq_some_iff.mp e
  obtain ⟨ds, e3, e⟩ := Option.bind_eq_some_iff.mp e
  obtain ⟨res, e5, e⟩ := Option.map_eq_some_iff.mp e
  cases e
  refine ha c τ ρ σ H _ ps ρ1 hl rl e1 fun xs H1 hl1 pv1 r1 => ?_
  obtain ⟨F, rr⟩ := id r1
  exact hr _ H1 xs ds res Q hid_same (vws_ok rr (fun p hp => by simp [hp]) (fun p hp => by simp [hp]) pv1 e3) e5 fun z H' q => k z H' hl1 (rr.res q).mid1
theorem rfp_it {t : TE} {m : ME} (h : Rf K t m) : Rfp K t (m_it m) := by
  intro c τ ρ σ H Q p ρ' hl r e k
  unfold m_it at e
  obtain ⟨⟨o, ρ1⟩, e1, e⟩ := Option.bind_eq_some_iff.mp e
  obtain ⟨d, e2, e⟩ := Option.map_eq_some_iff.mp e
  refine h c τ ρ σ H Q o _ hl r e1 fun x H' hl' r' => ?_
  cases e
  exact k x H' hl' True.intro (r'.toD e2)
end
/-- all operands plain -/
def plains (ρ : List O) : List Pr → Option (List D)
  | [] => some []
  | .ex (.v d) :: ps => (plains ρ ps).map fun ds => d :: ds
  | .nm i :: ps => match ρ[i]? with
    | some (.v d) => (plains ρ ps).map fun ds => d :: ds
    | _ => none
  | _ :: _ => none
def m_lst (ma : MA) : ME := fun ρ => (ma ρ).bind fun a => (plains a.2 a.1).bind fun ds => if ds.length ≤ 100000 then some (.l ds, a.2) else none
def m_tup (ma : MA) : ME := fun ρ => (ma ρ).bind fun a => (plains a.2 a.1).bind fun ds => if ds.length ≤ 100000 then some (.v (.tup ds), a.2) else none
section
variable {K : PySem.W.Frag}
theorem plains_ok {c : Cc} {F : List Addr} {cs : Cells} {H : Hp} {ρ : List O} {σ : L2.St} (r : RelAt K c F cs H) (hz : ∀ p ∈ ρ.zip σ, p ∈ cs) : ∀ {ps : List Pr} {xs : List V} {ds : List D}, (∀ p ∈ kaps ps xs, p ∈ cs) → pvals ps σ xs → plains ρ ps = some ds → Reps K (hid (F ++ c.B) H) ds xs
  | [], xs, ds, hk, pv, e => by
    cases pv
    cases e
    rfl
  | .ex o :: ps, xs, ds, hk, ⟨x, xr, ex, p1, p2⟩, e => by
    subst ex
    cases o with
    | g kd os => cases e
    | dd ks ds => cases e
    | n => cases e
    | l ds => cases e
    | v d =>
      obtain ⟨ds1, e2, e⟩ := Option.map_eq_some_iff.mp e
      cases e
      refine ⟨x, xr, rfl, ?_, plains_ok r hz (fun q hq => hk q (List.mem_append_left _ hq)) p2 e2⟩
      obtain ⟨F1, ⟨_, y, e1, q⟩, _⟩ := r.rc.mem (hk (.v d, some x) (List.mem_append_right _ (List.mem_singleton.mpr rfl)))
      cases e1
      exact q
  | .nm i :: ps, xs, ds, hk, ⟨x, xr, ex, p1, p2⟩, e => by
    subst ex
    unfold plains at e
    cases h1 : ρ[i]? with
    | none => rw [h1] at e; cases e
    | some oi =>
      rw [h1] at e
      cases oi with
      | g kd os => cases e
      | dd ks ds => cases e
      | n => cases e
      | l ds => cases e
      | v d =>
        obtain ⟨ds1, e2, e⟩ := Option.map_eq_some_iff.mp e
        cases e
        refine ⟨x, xr, rfl, ?_, plains_ok r hz (fun q hq => hk q (List.mem_append_left _ hq)) p2 e2⟩
        obtain ⟨F1, ⟨_, y, e1, q⟩, _⟩ := r.rc.mem (hz _ (mem_zip h1 p1))
        cases e1
        exact q
theorem line_ok {n : Nat} (h : n ≤ 100000) : n ≤ sizeLine := Nat.le_trans h (by decide)
theorem rf_lst {ta : TA} {ma : MA} (ha : Rfa K ta ma) : Rf K (tLst ta) (m_lst ma) := by
  intro c τ ρ σ H Q o ρ' hl rl e k
  unfold m_lst at e
  obtain ⟨⟨ps, ρ1⟩, e1, e⟩ := Option.bind_eq_some_iff.mp e
  obtain ⟨ds, e3, e⟩ := Option.bind_eq_some_iff.mp e
  split at e
  · rename_i hz
    cases e
    refine ha c τ ρ σ H _ ps ρ1 hl rl e1 fun xs H1 hl1 pv1 r1 => ?_
    obtain ⟨F, rr⟩ := id r1
    have q := plains_ok rr (fun p hp => by simp [hp]) (fun p hp => by simp [hp]) pv1 e3
    exact ⟨by rw [← q.length]; exact line_ok hz, fun p hp => k _ _ hl1 (rr.newL hp q).mid1⟩
  · cases e
theorem rf_tup {ta : TA} {ma : MA} (ha : Rfa K ta ma) : Rf K (tTup ta) (m_tup ma) := by
  intro c τ ρ σ H Q o ρ' hl rl e k
  unfold m_tup at e
  obtain ⟨⟨ps, ρ1⟩, e1, e⟩ := Option.bind_eq_some_iff.mp e
  obtain ⟨ds, e3, e⟩ := Option.bind_eq_some_iff.mp e
  split at e
  · rename_i hz
    cases e
    refine ha c τ ρ σ H _ ps ρ1 hl rl e1 fun xs H1 hl1 pv1 r1 => ?_
    obtain ⟨F, rr⟩ := id r1
    have q := plains_ok rr (fun p hp => by simp [hp]) (fun p hp => by simp [hp]) pv1 e3
    exact ⟨by rw [← q.length]; exact line_ok hz, fun p hp => k _ _ hl1 (rr.res (res := .nt ds) ⟨p, xs, rfl, hp, rfl, q⟩).mid1⟩
  · cases e
end
section
variable {C : Cd} {N : List Str} {sc : Sk} {pos : Pos}
theorem rp_it {e : Expr} {m : ME} (h : RE C N sc e m) : RP C N sc e (m_it m) := let ⟨t, h1, h2⟩ := h; ⟨t, h1, rfp_it h2⟩
theorem re_lst {es : List Expr} {ma : MA} (h : RA C N sc es ma) : RE C N sc (.List es pos) (m_lst ma) := let ⟨t, h1, h2⟩ := h; ⟨_, fun X g => pe_lst (h1 X g), rf_lst h2⟩
theorem re_tup {es : List Expr} {x1} {ma : MA} (h : RA C N sc es ma) : RE C N sc (.Tuple es x1 pos) (m_tup ma) := let ⟨t, h1, h2⟩ := h; ⟨_, fun X g => pe_tup (h1 X g), rf_tup h2⟩
/-- a built-in function, a built-in class called: its rule by values -/
theorem re_bi {id : String} {x : Str} {e : Expr} {es : List Expr} {p : Pos} {ma : MA} {f : List D → Option Res} (r : PySem.W.Frag → List V → Hp → VK → Prop) (hc : ∀ X : Cx, X.calm = true → CallR X (.builtin id) (r X.K)) (hr : RLok C.K (r C.K) f) (hm : C.mg x = none)
    (hv : bootBuiltins x = some (.builtin id)) (ha : RA C N sc (e :: es) ma) (hg : gloB sc x = true := by decide +kernel) (he : ∀ env : Env, starEach (e :: es) env = (false, eval e env) :: starEach es env := by intro _; rfl)
    (hpl : ∀ env : Env, (backTo pos (starEach es env)).any (·.1) = false := by intro _; rfl) : RE C N sc (.Call (.Name x p) (e :: es) [] pos) (m_bi f ma) :=
  let ⟨t, a1, a2⟩ := ha
  ⟨tCB (r C.K) t, fun X g => pe_callB (by rw [← g.K]; exact hc X g.calm) (g.gl hg) (by rw [g.mg]; exact hm) hv (a1 X g) (okName_d (gloB_ok hg).2).2.2 (okName_d (gloB_ok hg).2).1 (he _) (hpl _), rf_bi hr a2⟩
theorem re_ty {T : String} {x : Str} {e : Expr} {es : List Expr} {p : Pos} {ma : MA} {f : List D → Option Res} (r : PySem.W.Frag → List V → Hp → VK → Prop) (hc : ∀ X : Cx, X.calm = true → CallR X (.type T) (r X.K)) (hr : RLok C.K (r C.K) f) (hm : C.mg x = none)
    (hv : bootBuiltins x = some (.type T)) (ha : RA C N sc (e :: es) ma) (hg : gloB sc x = true := by decide +kernel) (he : ∀ env : Env, starEach (e :: es) env = (false, eval e env) :: starEach es env := by intro _; rfl)
    (hpl : ∀ env : Env, (backTo pos (starEach es env)).any (·.1) = false := by intro _; rfl) : RE C N sc (.Call (.Name x p) (e :: es) [] pos) (m_bi f ma) :=
  let ⟨t, a1, a2⟩ := ha
  ⟨tCB (r C.K) t, fun X g => pe_callTy (by rw [← g.K]; exact hc X g.calm) (g.gl hg) (by rw [g.mg]; exact hm) hv (a1 X g) (okName_d (gloB_ok hg).2).2.2 (okName_d (gloB_ok hg).2).1 (he _) (hpl _), rf_bi hr a2⟩
/-- an operator -/
theorem re_op {op : Operator} {a b : Expr} {ma mb : MP} {f : D → D → Option Res} (r : PySem.W.Frag → R2) (ho : ∀ X : Cx, OpR X (binaryOp op) (r X.K)) (hr : R2ok C.K (r C.K) f) (ha : RP C N sc a ma) (hb : RP C N sc b mb) : RE C N sc (.BinOp a op b pos) (m_op2 f ma mb) :=
  let ⟨t, a1, a2⟩ := ha; let ⟨u, b1, b2⟩ := hb
  ⟨tOp (r C.K) t u, fun X g => pe_op (by rw [← g.K]; exact ho X) (a1 X g) (b1 X g), rf_op2 hr a2 b2⟩
theorem re_un {op : UnaryOp} {a : Expr} {ma : MP} {f : D → Option Res} (r : PySem.W.Frag → V → Hp → VK → Prop) (ho : ∀ X : Cx, UnR X (unaryOp op) (r X.K)) (hr : R1ok C.K (r C.K) f) (ha : RP C N sc a ma) : RE C N sc (.UnaryOp op a pos) (m_op1 f ma) :=
  let ⟨t, a1, a2⟩ := ha
  ⟨tUn (r C.K) t, fun X g => pe_un (by rw [← g.K]; exact ho X) (a1 X g), rf_op1 hr a2⟩
theorem re_cmp {op : CmpOp} {a b : Expr} {ma mb : MP} {f : D → D → Option Res} (r : PySem.W.Frag → R2) (ho : ∀ X : Cx, X.A.units + 64 < cLine → OpR X (compareOp op) (r X.K)) (hr : R2ok C.K (r C.K) f) (ha : RP C N sc a ma) (hb : RP C N sc b mb) (hm : behindInMarks op b = false) : RE C N sc (.Compare a [op] [b] pos) (m_op2 f ma mb) :=
  let ⟨t, a1, a2⟩ := ha; let ⟨u, b1, b2⟩ := hb
  ⟨tOp (r C.K) t u, fun X g => pe_cmpR (by rw [← g.K]; exact ho X g.room.units) (a1 X g) (b1 X g) hm, rf_op2 hr a2 b2⟩
/-- x[i] -/
theorem re_ix {a b : Expr} {ma mb : MP} {f : D → D → Option Res} (r : PySem.W.Frag → R2) (ho : ∀ X : Cx, IxR X (r X.K)) (hr : R2ok C.K (r C.K) f) (ha : RP C N sc a ma) (hb : RP C N sc b mb) (hs : PlainIx b := by intro _ _; rfl) : RE C N sc (.Subscript a b pos) (m_op2 f ma mb) :=
  let ⟨t, a1, a2⟩ := ha; let ⟨u, b1, b2⟩ := hb
  ⟨tOp (r C.K) t u, fun X g => pe_ix (by rw [← g.K]; exact ho X) (a1 X g) (b1 X g) hs, rf_op2 hr a2 b2⟩
end
end Mr

end
section
set_option Elab.async false
set_option linter.all false
set_option maxRecDepth 100000
set_option maxHeartbeats 4000000
/-! MrC: calls, tests, statements, loops, comprehensions, defs. -/
namespace Mr
open PySem PySem.Spec PyProof.Rows L2

/-! ### cells weakened place by place -/
section
variable {K : PySem.W.Frag} {h H : Hp} {c : Cc}
theorem RC.wk : ∀ {cs' cs : Cells} {F : List Addr}, (∀ (i : Nat) (p : O × Option V), cs'[i]? = some p → p.1 = .n ∨ cs[i]? = some p) → RC K h H cs F → ∃ F', RC K h H cs' F' ∧ F'.Sublist F
  | [], _, _, _, _ => ⟨[], rfl, List.nil_sublist _⟩
  | (o, x) :: cs', [], F, hk, r => by
    have e : o = .n := by
      rcases hk 0 (o, x) rfl with z | z
      · exact z
      · cases z
    subst e
    obtain ⟨F', r', s⟩ := RC.wk (cs' := cs') (cs := []) (fun i p q => by
      rcases hk (i + 1) p (by simpa using q) with z | z
      · exact .inl z
      · simp at z) r
    exact ⟨F', ⟨[], F', rfl, r', rfl⟩, s⟩
  | (o, x) :: cs', (o1, x1) :: cs, F, hk, ⟨F1, F2, r1, r2, e⟩ => by
    subst e
    obtain ⟨F', r', s⟩ := RC.wk (cs' := cs') (cs := cs) (fun i p q => by
      rcases hk (i + 1) p (by simpa using q) with z | z
      · exact .inl z
      · exact .inr (by simpa using z)) r2
    rcases hk 0 (o, x) rfl with z | z
    · have z' : o = .n := z
      subst z'
      exact ⟨F', ⟨[], F', rfl, r', rfl⟩, s.trans (List.sublist_append_right _ _)⟩
    · have z' : (o1, x1) = (o, x) := Option.some.inj z
      cases z'
      exact ⟨F1 ++ F', ⟨F1, F', r1, r', rfl⟩, (List.Sublist.refl F1).append s⟩
theorem Rel.wk {cs cs' : Cells} (r : Rel K c cs H) (hk : ∀ (i : Nat) (p : O × Option V), cs'[i]? = some p → p.1 = .n ∨ cs[i]? = some p) : Rel K c cs' H := by
  obtain ⟨F, r⟩ := r
  obtain ⟨F', r', s⟩ := r.rc.wk hk
  refine ⟨F', r'.mono (hid_less fun b hb => ?_) fun _ _ => rfl, r.nd.sublist s, fun a ha => r.dj a (s.mem ha), r.bt, r.fr, fun a ha => r.ow a (s.mem ha)⟩
  rcases List.mem_append.mp hb with z | z
  · exact List.mem_append_left _ (s.mem z)
  · exact List.mem_append_right _ z
/-- the slots' values exchanged where they agree, or nothing is known -/
theorem Rel.slots {τ : Cells} {ρ ρ' : List O} {σ σ' : L2.St} (r : Rel K c (τ ++ ρ.zip σ) H) (hl : ρ'.length = ρ.length) (hs : σ'.length = σ.length) (hk : ∀ (i : Nat) (o : O), ρ'[i]? = some o → o = .n ∨ (ρ[i]? = some o ∧ σ'[i]? = σ[i]?)) : Rel K c (τ ++ ρ'.zip σ') H := by
  refine r.wk fun i p e => ?_
  by_cases hi : i < τ.length
  · rw [List.getElem?_append_left hi] at e
    exact .inr (by rw [List.getElem?_append_left hi]; exact e)
  · have hi' : τ.length ≤ i := Nat.le_of_not_lt hi
    rw [List.getElem?_append_right hi'] at e ⊢
    rw [List.getElem?_zip_eq_some] at e
    obtain ⟨e1, e2⟩ := e
    rcases hk _ _ e1 with z | ⟨z1, z2⟩
    · exact .inl z
    · refine .inr ?_
      rw [List.getElem?_zip_eq_some]
      exact ⟨z1, by rw [← z2]; exact e2⟩
end

/-! ### calls of the text's defs -/
def spM (K : PySem.W.Frag) (n : Nat) (g : List O → Option (O × List O)) : Sp := fun vs H Q _ => vs.length = n ∧ ∃ (B F : List Addr) (os : List O) (r : O) (outs : List O), os.length = n ∧ RelAt K ⟨B, H, F⟩ F (os.zip (vs.map some)) H ∧ g os = some (r, outs) ∧
  ∀ v H', Rel K ⟨B, H, F⟩ ((r, some v) :: outs.zip (vs.map some)) H' → Q v H'
def m_call (g : List O → Option (O × List O)) (ma : MA) : ME := fun ρ => (ma ρ).bind fun a => (tk a.1 a.2).bind fun b => (g b.1).map fun r => (r.1, bk a.1 r.2 b.2)
structure Cal (P : Program) (w : World) (K : PySem.W.Frag) (mg : Str → Option Value) (base : Heap) (k : Nat) (x : Str) (n : Nat) (g : List O → Option (O × List O)) : Prop where
  ex : ∃ (f : Addr) (fd : FuncData) (ps : List Str), ps.length = n ∧ FnOk P w K mg base CX0 k f fd ps (spM K n g) ∧ mg x = some (.ref f) ∧ PySem.W.keepIn K (.ref f) = true ∧ Binds K fd ps []
theorem rf_call {K : PySem.W.Frag} {n : Nat} {g : List O → Option (O × List O)} {ta : TA} {ma : MA} {E : XK} (ha : Rfa K ta ma) (hn : ∀ ρ ps ρ', ma ρ = some (ps, ρ') → ps.length = n) : Rf K (tCall (spM K n g) [] E ta) (m_call g ma) := by
  intro c τ ρ σ H Q o ρ' hl rl e k
  unfold m_call at e
  obtain ⟨⟨ps, ρ1⟩, e1, e⟩ := Option.bind_eq_some_iff.mp e
  obtain ⟨⟨os, ρ2⟩, e2, e⟩ := Option.bind_eq_some_iff.mp e
  obtain ⟨⟨r, outs⟩, e3, e⟩ := Option.map_eq_some_iff.mp e
  cases e
  refine ha c τ ρ σ H _ ps ρ1 hl rl e1 fun xs H1 hl1 pv1 r1 => ?_
  obtain ⟨a, b, l⟩ := tk_ok hl1 pv1 r1 e2
  obtain ⟨F, rr⟩ := a
  obtain ⟨F1, F2, s1, s2, rfl⟩ := rr.rc.split
  have ln : os.length = n := by
    have h1 := hn _ _ _ e1
    have h2 : ∀ {ps : List Pr} {xs : List V}, pvals ps σ xs → ps.length = xs.length := by
      intro ps
      induction ps with
      | nil => intro xs h; cases h; rfl
      | cons p ps ih => intro xs ⟨x, r, ex, _, h⟩; rw [ex, List.length_cons, List.length_cons, ih h]
    rw [l, ← h2 pv1]; exact h1
  have en := Rel.enter rr s1
  refine ⟨by rw [List.append_nil, ← l]; exact ln, _, F1, os, r, outs, ln, by rw [List.append_nil]; exact en, e3, fun v H' q => ?_⟩
  rw [List.append_nil] at q
  have lv := Rel.leave rr s2 q
  have lv' : Rel K c ((r, some v) :: (outs.zip (xs.map some) ++ (τ ++ ρ2.zip σ))) H' := lv
  have lv2 : Rel K c (outs.zip (xs.map some) ++ (((r, some v) :: τ) ++ ρ2.zip σ)) H' := lv'.perm List.perm_middle.symm
  obtain ⟨q1, q2⟩ := bk_ok b pv1 lv2
  exact k v H' q2 q1
/-- how many arguments -/
inductive ALen : MA → Nat → Prop where
  | nil : ALen a_nil 0
  | cons {m : MP} {ms : MA} {n : Nat} (h : ALen ms n) : ALen (a_cons m ms) (n + 1)
theorem ALen.ok {ma : MA} {n : Nat} (h : ALen ma n) : ∀ ρ ps ρ', ma ρ = some (ps, ρ') → ps.length = n := by
  induction h with
  | nil => intro ρ ps ρ' e; cases e; rfl
  | cons h ih =>
    intro ρ ps ρ' e
    unfold a_cons at e
    obtain ⟨⟨p, ρ1⟩, e1, e⟩ := Option.bind_eq_some_iff.mp e
    obtain ⟨⟨qs, ρ2⟩, e2, e⟩ := Option.map_eq_some_iff.mp e
    cases e
    rw [List.length_cons, ih _ _ _ e2]
section
variable {C : Cd} {N : List Str} {sc : Sk} {pos : Pos}
theorem re_call {j n : Nat} {x : Str} {g : List O → Option (O × List O)} {e : Expr} {es : List Expr} {p : Pos} {ma : MA} (hf : Cal C.P C.w C.K C.mg C.base j x n g) (hj : j ≤ C.k) (ha : RA C N sc (e :: es) ma) (hn : ALen ma n) (hg : gloB sc x = true := by decide +kernel)
    (he : ∀ env : Env, starEach (e :: es) env = (false, eval e env) :: starEach es env := by intro _; rfl) (hpl : ∀ env : Env, (backTo pos (starEach es env)).any (·.1) = false := by intro _; rfl) :
    RE C N sc (.Call (.Name x p) (e :: es) [] pos) (m_call g ma) := by
  obtain ⟨f, fd, ps, hps, F, hm, hk, hb⟩ := hf.ex
  obtain ⟨t, a1, a2⟩ := ha
  refine ⟨tCall (spM C.K n g) [] E0 t, fun X gd => ?_, rf_call a2 hn.ok⟩
  exact pe_call (by rw [gd.prog, gd.w, gd.K, gd.mg, gd.base]; exact F) (gd.room.mono hj) (gd.gl hg) (by rw [gd.mg]; exact hm) (by rw [gd.K]; exact hk) (by rw [gd.K]; exact hb) .nil pass0 (a1 X gd) (okName_d (gloB_ok hg).2).1 (he _) (hpl _)
theorem re_call0 {j : Nat} {x : Str} {g : List O → Option (O × List O)} {p : Pos} (hf : Cal C.P C.w C.K C.mg C.base j x 0 g) (hj : j ≤ C.k) (hg : gloB sc x = true := by decide +kernel) : RE C N sc (.Call (.Name x p) [] [] pos) (m_call g a_nil) := by
  obtain ⟨f, fd, ps, hps, F, hm, hk, hb⟩ := hf.ex
  refine ⟨tCall (spM C.K 0 g) [] E0 tNil, fun X gd => ?_, rf_call rfa_nil ALen.nil.ok⟩
  exact pe_call0 (by rw [gd.prog, gd.w, gd.K, gd.mg, gd.base]; exact F) (gd.room.mono hj) (gd.gl hg) (by rw [gd.mg]; exact hm) (by rw [gd.K]; exact hk) (by rw [gd.K]; exact hb) .nil pass0 (okName_d (gloB_ok hg).2).1
end

/-! ### tests -/
abbrev MT := List O → Option (Bool × List O)
def Rft (K : PySem.W.Frag) (t : TT) (m : MT) : Prop := ∀ (c : Cc) (τ : Cells) (ρ : List O) (σ : L2.St) (H : Hp) (Q : Bool → Hp → Prop) (b : Bool) (ρ' : List O), ρ.length = σ.length → Rel K c (τ ++ ρ.zip σ) H → m ρ = some (b, ρ') →
  (∀ H', ρ'.length = σ.length → Rel K c (τ ++ ρ'.zip σ) H' → Q b H') → t σ H Q
def RT (C : Cd) (N : List Str) (sc : Sk) (e : Expr) (m : MT) : Prop := ∃ t, (∀ X, Gd C N sc X → PT X e t) ∧ Rft C.K t m
def RW (C : Cd) (N : List Str) (sc : Sk) (e : Expr) (m : MT) : Prop := ∃ t, (∀ X, Gd C N sc X → PW X e t) ∧ Rft C.K t m
def asB : O → Option Bool
  | .v (.bl b) => some b
  | _ => none
def m_tst (m : ME) : MT := fun ρ => (m ρ).bind fun a => (asB a.1).map fun b => (b, a.2)
def truD : D → Option Bool
  | .non => some false
  | .bl b => some b
  | .int i => some (i != 0)
  | .str s => if s.length ≤ 1000000 then some ((s.length : Int) != 0) else none
  | .tup ds => some (!ds.isEmpty)
  | .lst ds => some (!ds.isEmpty)
  | .rl ds => some (!ds.isEmpty)
  | .ty _ => none
  | .ins _ _ _ => none
  | .dc _ _ => none
def m_tru (m : MP) : MT := fun ρ => (m ρ).bind fun a => (vw a.2 a.1).bind fun d => (truD d).map fun b => (b, a.2)
def m_and (a b : MT) : MT := fun ρ => (a ρ).bind fun r => if r.1 = true then b r.2 else some (false, r.2)
def m_or (a b : MT) : MT := fun ρ => (a ρ).bind fun r => if r.1 = true then some (true, r.2) else b r.2
def m_not (a : MT) : MT := fun ρ => (a ρ).map fun r => (!r.1, r.2)
theorem asB_ok {o : O} {b : Bool} (h : asB o = some b) : o = .v (.bl b) := by
  unfold asB at h
  split at h
  · cases h; rfl
  · cases h
theorem line6 {n : Nat} (h : n ≤ 1000000) : n ≤ sizeLine := Nat.le_trans h (by decide)
section
variable {K : PySem.W.Frag}
theorem Rel.bl {c : Cc} {b : Bool} {x : V} {cs : Cells} {H : Hp} (r : Rel K c ((.v (.bl b), some x) :: cs) H) : x = .bl b := by
  obtain ⟨F, y, _, e, q⟩ := r.val List.mem_cons_self
  cases e
  exact q
theorem rft_tst {t : TE} {m : ME} (h : Rf K t m) : Rft K (fun σ H Q => t σ H fun x H' => ∃ k, x = .bl k ∧ Q k H') (m_tst m) := by
  intro c τ ρ σ H Q b ρ' hl r e k
  unfold m_tst at e
  obtain ⟨⟨o, ρ1⟩, e1, e⟩ := Option.bind_eq_some_iff.mp e
  obtain ⟨b1, e2, e⟩ := Option.map_eq_some_iff.mp e
  cases e
  refine h c τ ρ σ H _ o _ hl r e1 fun x H' hl' r' => ?_
  have eo := asB_ok (o := o) e2
  subst eo
  exact ⟨b, r'.bl, k H' hl' r'.drop⟩
theorem truV_of {h H : Hp} {d : D} {x : V} {b : Bool} (hs : Same h H) (q : Vw K h H d x) (e : truD d = some b) : TruV K x H b := by
  rcases q with q | ⟨ds, a, xs, rfl, rfl, q1, q2⟩ | ⟨ks, ds, a, xs, rfl, rfl, q1, q2⟩
  · cases d with
    | non => cases q; cases e; rfl
    | bl b' => cases q; cases e; rfl
    | int i => cases q; cases e; rfl
    | str s =>
      cases q
      unfold truD at e
      simp only at e
      split at e
      · rename_i hz
        cases e
        exact ⟨line6 hz, rfl⟩
      · cases e
    | tup ds =>
      obtain ⟨a, xs, rfl, q1, q2⟩ := q
      cases e
      refine .inr (.inl ⟨xs, sqT_same hs q1, ?_⟩)
      cases ds with
      | nil => cases q2; rfl
      | cons d ds => obtain ⟨x, r, e, _⟩ := q2; rw [e]; rfl
    | lst ds =>
      obtain ⟨a, xs, rfl, q1, q2⟩ := q
      cases e
      refine .inl ⟨xs, .inl (.inl (hs _ _ q1)), ?_⟩
      cases ds with
      | nil => cases q2; rfl
      | cons d ds => obtain ⟨x, r, e, _⟩ := q2; rw [e]; rfl
    | ty n => cases e
    | ins c ns ds => cases e
    | dc ks ds => cases e
    | rl ds =>
      obtain ⟨a, xs, rfl, q1, q2⟩ := q
      cases e
      refine .inl ⟨xs, hs.seq q1, ?_⟩
      cases ds with
      | nil => cases q2; rfl
      | cons d ds => obtain ⟨x, r, e, _⟩ := q2; rw [e]; rfl
  · cases e
    refine .inl ⟨xs, .inl (.inl q1), ?_⟩
    cases ds with
    | nil => cases q2; rfl
    | cons d ds => obtain ⟨x, r, e, _⟩ := q2; rw [e]; rfl
  · cases e
theorem rft_tru {t : TE} {m : MP} (h : Rfp K t m) : Rft K (fun σ H Q => t σ H fun x H' => ∃ k, TruV K x H' k ∧ Q k H') (m_tru m) := by
  intro c τ ρ σ H Q b ρ' hl r e k
  unfold m_tru at e
  obtain ⟨⟨p, ρ1⟩, e1, e⟩ := Option.bind_eq_some_iff.mp e
  obtain ⟨d, e2, e⟩ := Option.bind_eq_some_iff.mp e
  obtain ⟨b1, e3, e⟩ := Option.map_eq_some_iff.mp e
  cases e
  refine h c τ ρ σ H _ p _ hl r e1 fun x H' hl' pv r' => ?_
  obtain ⟨F, rr⟩ := id r'
  obtain ⟨o1, x1, x2⟩ := vw_mem e2 pv
  exact ⟨b, truV_of hid_same (rr.vw (o := o1) (by rcases x2 with z | z <;> simp [z]) x1) e3, k H' hl' r'.drops⟩
theorem rft_and {t u : TT} {a b : MT} (h1 : Rft K t a) (h2 : Rft K u b) : Rft K (tAnd t u) (m_and a b) := by
  intro c τ ρ σ H Q b' ρ' hl r e k
  unfold m_and at e
  obtain ⟨⟨b1, ρ1⟩, e1, e⟩ := Option.bind_eq_some_iff.mp e
  refine h1 c τ ρ σ H _ b1 ρ1 hl r e1 fun H' hl' r' => ?_
  cases b1 with
  | true => rw [if_pos rfl]; exact h2 c τ ρ1 σ H' _ b' ρ' hl' r' (by simpa using e) k
  | false =>
    rw [if_neg Bool.false_ne_true]
    have e' : some (false, ρ1) = some (b', ρ') := by simpa using e
    cases e'
    exact k H' hl' r'
theorem rft_or {t u : TT} {a b : MT} (h1 : Rft K t a) (h2 : Rft K u b) : Rft K (tOr t u) (m_or a b) := by
  intro c τ ρ σ H Q b' ρ' hl r e k
  unfold m_or at e
  obtain ⟨⟨b1, ρ1⟩, e1, e⟩ := Option.bind_eq_some_iff.mp e
  refine h1 c τ ρ σ H _ b1 ρ1 hl r e1 fun H' hl' r' => ?_
  cases b1 with
  | false => rw [if_neg Bool.false_ne_true]; exact h2 c τ ρ1 σ H' _ b' ρ' hl' r' (by simpa using e) k
  | true =>
    rw [if_pos rfl]
    have e' : some (true, ρ1) = some (b', ρ') := by simpa using e
    cases e'
    exact k H' hl' r'
theorem rft_not {t : TT} {a : MT} (h1 : Rft K t a) : Rft K (tNot t) (m_not a) := by
  intro c τ ρ σ H Q b' ρ' hl r e k
  unfold m_not at e
  obtain ⟨⟨b1, ρ1⟩, e1, e⟩ := Option.map_eq_some_iff.mp e
  cases e
  exact h1 c τ ρ σ H _ b1 _ hl r e1 fun H' hl' r' => k H' hl' r'
end
/-- and, or, not as values; a if t else b -/
def m_andV (a b : ME) : ME := fun ρ => (a ρ).bind fun r => (asB r.1).bind fun k => if k = true then b r.2 else some (.v (.bl false), r.2)
def m_orV (a b : ME) : ME := fun ρ => (a ρ).bind fun r => (asB r.1).bind fun k => if k = true then some (.v (.bl true), r.2) else b r.2
def m_notV (a : ME) : ME := fun ρ => (a ρ).bind fun r => (asB r.1).map fun k => (.v (.bl (!k)), r.2)
def m_if (t : MT) (a b : ME) : ME := fun ρ => (t ρ).bind fun r => if r.1 = true then a r.2 else b r.2
section
variable {K : PySem.W.Frag}
theorem Rel.setBl {c : Cc} {b : Bool} {p : O × Option V} {cs : Cells} {H : Hp} (r : Rel K c (p :: cs) H) : Rel K c ((.v (.bl b), some (.bl b)) :: cs) H := by
  obtain ⟨F, r⟩ := r.drop
  exact r.add rfl
theorem rf_andV {t u : TE} {a b : ME} (h1 : Rf K t a) (h2 : Rf K u b) : Rf K (tAndV t u) (m_andV a b) := by
  intro c τ ρ σ H Q o ρ' hl r e k
  unfold m_andV at e
  obtain ⟨⟨o1, ρ1⟩, e1, e⟩ := Option.bind_eq_some_iff.mp e
  obtain ⟨b1, e2, e⟩ := Option.bind_eq_some_iff.mp e
  refine h1 c τ ρ σ H _ o1 ρ1 hl r e1 fun x H' hl' r' => ?_
  have eo := asB_ok (o := o1) e2
  subst eo
  refine ⟨b1, r'.bl, ?_⟩
  cases b1 with
  | true => rw [if_pos rfl]; exact h2 c τ ρ1 σ H' _ o ρ' hl' r'.drop (by simpa using e) k
  | false =>
    rw [if_neg Bool.false_ne_true]
    have e' : some (O.v (.bl false), ρ1) = some (o, ρ') := by simpa using e
    cases e'
    exact k _ H' hl' r'.setBl
theorem rf_orV {t u : TE} {a b : ME} (h1 : Rf K t a) (h2 : Rf K u b) : Rf K (tOrV t u) (m_orV a b) := by
  intro c τ ρ σ H Q o ρ' hl r e k
  unfold m_orV at e
  obtain ⟨⟨o1, ρ1⟩, e1, e⟩ := Option.bind_eq_some_iff.mp e
  obtain ⟨b1, e2, e⟩ := Option.bind_eq_some_iff.mp e
  refine h1 c τ ρ σ H _ o1 ρ1 hl r e1 fun x H' hl' r' => ?_
  have eo := asB_ok (o := o1) e2
  subst eo
  refine ⟨b1, r'.bl, ?_⟩
  cases b1 with
  | false => rw [if_neg Bool.false_ne_true]; exact h2 c τ ρ1 σ H' _ o ρ' hl' r'.drop (by simpa using e) k
  | true =>
    rw [if_pos rfl]
    have e' : some (O.v (.bl true), ρ1) = some (o, ρ') := by simpa using e
    cases e'
    exact k _ H' hl' r'.setBl
theorem rf_notV {t : TE} {a : ME} (h1 : Rf K t a) : Rf K (tNotV t) (m_notV a) := by
  intro c τ ρ σ H Q o ρ' hl r e k
  unfold m_notV at e
  obtain ⟨⟨o1, ρ1⟩, e1, e⟩ := Option.bind_eq_some_iff.mp e
  obtain ⟨b1, e2, e⟩ := Option.map_eq_some_iff.mp e
  cases e
  refine h1 c τ ρ σ H _ o1 _ hl r e1 fun x H' hl' r' => ?_
  have eo := asB_ok (o := o1) e2
  subst eo
  exact ⟨b1, r'.bl, k _ H' hl' r'.setBl⟩
theorem rf_if {t : TT} {u v : TE} {mt : MT} {a b : ME} (ht : Rft K t mt) (h1 : Rf K u a) (h2 : Rf K v b) : Rf K (tIf t u v) (m_if mt a b) := by
  intro c τ ρ σ H Q o ρ' hl r e k
  unfold m_if at e
  obtain ⟨⟨b1, ρ1⟩, e1, e⟩ := Option.bind_eq_some_iff.mp e
  refine ht c τ ρ σ H _ b1 ρ1 hl r e1 fun H' hl' r' => ?_
  cases b1 with
  | true => rw [if_pos rfl]; exact h1 c τ ρ1 σ H' _ o ρ' hl' r' (by simpa using e) k
  | false => rw [if_neg Bool.false_ne_true]; exact h2 c τ ρ1 σ H' _ o ρ' hl' r' (by simpa using e) k
end
section
variable {C : Cd} {N : List Str} {sc : Sk} {pos : Pos}
/-- a test that is a comparison -/
theorem rt_cmp {op : CmpOp} {a b : Expr} {ma mb : MP} {f : D → D → Option Res} (r : PySem.W.Frag → R2) (ho : ∀ X : Cx, X.A.units + 64 < cLine → OpR X (compareOp op) (r X.K)) (hr : R2ok C.K (r C.K) f) (ha : RP C N sc a ma) (hb : RP C N sc b mb) (hm : behindInMarks op b = false) : RT C N sc (.Compare a [op] [b] pos) (m_tst (m_op2 f ma mb)) :=
  let ⟨t, a1, a2⟩ := ha; let ⟨u, b1, b2⟩ := hb
  ⟨tTest (tOp (r C.K) t u), fun X g => pt_cmpR (by rw [← g.K]; exact ho X g.room.units) (a1 X g) (b1 X g) hm, rft_tst (rf_op2 hr a2 b2)⟩
/-- any other expression as a test, by its truth -/
theorem rt_tru {e : Expr} {m : MP} (h : RP C N sc e m) (he : ∀ (env : Env) (whole : Sem Value), isTrue e env whole = (do let v ← whole; standAt e.pos; holding [v] (truthy v)) := by intro _ _; rfl) : RT C N sc e (m_tru m) :=
  let ⟨t, a1, a2⟩ := h
  ⟨_, fun X g => by have q := pt_truth (a1 X g) (he _); rw [g.K] at q; exact q, rft_tru a2⟩
theorem rt_not {e : Expr} {m : MT} (h : RT C N sc e m) : RT C N sc (.UnaryOp .Not e pos) (m_not m) := let ⟨t, a1, a2⟩ := h; ⟨_, fun X g => pt_not (a1 X g), rft_not a2⟩
theorem rw_and1 {e : Expr} {m : MT} (h : RT C N sc e m) : RW C N sc (.BoolOp .And [e] pos) m := let ⟨t, a1, a2⟩ := h; ⟨_, fun X g => pw_and1 (a1 X g), a2⟩
theorem rw_or1 {e : Expr} {m : MT} (h : RT C N sc e m) : RW C N sc (.BoolOp .Or [e] pos) m := let ⟨t, a1, a2⟩ := h; ⟨_, fun X g => pw_or1 (a1 X g), a2⟩
theorem rw_and {e e2 : Expr} {es : List Expr} {m m2 : MT} (h : RT C N sc e m) (h2 : RW C N sc (.BoolOp .And (e2 :: es) pos) m2) : RW C N sc (.BoolOp .And (e :: e2 :: es) pos) (m_and m m2) := let ⟨t, a1, a2⟩ := h; let ⟨u, b1, b2⟩ := h2; ⟨_, fun X g => pw_and (a1 X g) (b1 X g), rft_and a2 b2⟩
theorem rw_or {e e2 : Expr} {es : List Expr} {m m2 : MT} (h : RT C N sc e m) (h2 : RW C N sc (.BoolOp .Or (e2 :: es) pos) m2) : RW C N sc (.BoolOp .Or (e :: e2 :: es) pos) (m_or m m2) := let ⟨t, a1, a2⟩ := h; let ⟨u, b1, b2⟩ := h2; ⟨_, fun X g => pw_or (a1 X g) (b1 X g), rft_or a2 b2⟩
theorem rt_bool {e : Expr} {m : MT} (h : RW C N sc e m) : RT C N sc e m := let ⟨t, a1, a2⟩ := h; ⟨t, fun X g => (a1 X g).pt, a2⟩
theorem re_one {op : BoolOp} {e : Expr} {m : ME} (h : RE C N sc e m) : RE C N sc (.BoolOp op [e] pos) m := let ⟨t, a1, a2⟩ := h; ⟨t, fun X g => pe_one (a1 X g), a2⟩
theorem re_and {e e2 : Expr} {es : List Expr} {m m2 : ME} (h : RE C N sc e m) (h2 : RE C N sc (.BoolOp .And (e2 :: es) pos) m2) : RE C N sc (.BoolOp .And (e :: e2 :: es) pos) (m_andV m m2) := let ⟨t, a1, a2⟩ := h; let ⟨u, b1, b2⟩ := h2; ⟨_, fun X g => pe_and (a1 X g) (b1 X g), rf_andV a2 b2⟩
theorem re_or {e e2 : Expr} {es : List Expr} {m m2 : ME} (h : RE C N sc e m) (h2 : RE C N sc (.BoolOp .Or (e2 :: es) pos) m2) : RE C N sc (.BoolOp .Or (e :: e2 :: es) pos) (m_orV m m2) := let ⟨t, a1, a2⟩ := h; let ⟨u, b1, b2⟩ := h2; ⟨_, fun X g => pe_or (a1 X g) (b1 X g), rf_orV a2 b2⟩
theorem re_not {e : Expr} {m : ME} (h : RE C N sc e m) : RE C N sc (.UnaryOp .Not e pos) (m_notV m) := let ⟨t, a1, a2⟩ := h; ⟨_, fun X g => pe_not (a1 X g), rf_notV a2⟩
theorem re_if {e a b : Expr} {mt : MT} {ma mb : ME} (h : RT C N sc e mt) (h1 : RE C N sc a ma) (h2 : RE C N sc b mb) : RE C N sc (.IfExp e a b pos) (m_if mt ma mb) := let ⟨t, a1, a2⟩ := h; let ⟨u, b1, b2⟩ := h1; let ⟨v, c1, c2⟩ := h2; ⟨_, fun X g => pe_ifExp (a1 X g) (b1 X g) (c1 X g), rf_if a2 b2 c2⟩
end

/-! ### a chain of two comparisons -/
def m_chain (f g : D → D → Option Res) (ma mb mc : MP) : ME := fun ρ => (ma ρ).bind fun a => (mb a.2).bind fun b => (vw b.2 a.1).bind fun d1 => (vw b.2 b.1).bind fun d2 => (f d1 d2).bind fun r => (asB r.o).bind fun k =>
  if k = true then (mc b.2).bind fun c => (vw c.2 b.1).bind fun d2' => (vw c.2 c.1).bind fun d3 => (g d2' d3).map fun r => (r.o, c.2) else some (.v (.bl false), b.2)
/-- the answer of a comparison: it leaves the heap -/
def R2b (K : PySem.W.Frag) (r : R2) (f : D → D → Option Res) : Prop := R2ok K r f ∧ ∀ d1 d2 res, f d1 d2 = some res → ∃ b, res = .s (.bl b)
section
variable {K : PySem.W.Frag}
theorem rf_chain {r r' : R2} {f f' : D → D → Option Res} {ta tb tc : TE} {ma mb mc : MP} (hr : R2b K r f) (hr' : R2b K r' f') (ha : Rfp K ta ma) (hb : Rfp K tb mb) (hc : Rfp K tc mc) : Rf K (tChain r r' ta tb tc) (m_chain f f' ma mb mc) := by
  intro c τ ρ σ H Q o ρ' hl rl e k
  unfold m_chain at e
  obtain ⟨⟨p1, ρ1⟩, e1, e⟩ := Option.bind_eq_some_iff.mp e
  obtain ⟨⟨p2, ρ2⟩, e2, e⟩ := Option.bind_eq_some_iff.mp e
  obtain ⟨d1, e3, e⟩ := Option.bind_eq_some_iff.mp e
  obtain ⟨d2, e4, e⟩ := Option.bind_eq_some_iff.mp e
  obtain ⟨res, e5, e⟩ := Option.bind_eq_some_iff.mp e
  obtain ⟨b, e6, e⟩ := Option.bind_eq_some_iff.mp e
  refine ha c τ ρ σ H _ p1 ρ1 hl rl e1 fun x H1 hl1 pv1 r1 => ?_
  refine hb c (kap p1 x ++ τ) ρ1 σ H1 _ p2 ρ2 hl1 (by rw [List.append_assoc]; exact r1) e2 fun y H2 hl2 pv2 r2 => ?_
  obtain ⟨F, rr⟩ := id r2
  obtain ⟨o1, x1, x2⟩ := vw_mem e3 pv1
  obtain ⟨o2, y1, y2⟩ := vw_mem e4 pv2
  refine hr.1 _ H2 x y d1 d2 res _ hid_same (rr.vw (o := o1) ?_ x1) (rr.vw (o := o2) ?_ y1) e5 fun z H3 q => ?_
  · rcases x2 with x2 | x2
    · simp [x2]
    · simp [x2]
  · rcases y2 with y2 | y2
    · simp [y2]
    · simp [y2]
  · obtain ⟨b', eb⟩ := hr.2 _ _ _ e5
    subst eb
    obtain ⟨rfl, q⟩ := q
    have q' : z = .bl b' := q
    subst q'
    have ebb : b' = b := Option.some.inj e6
    subst ebb
    refine ⟨b', rfl, ?_⟩
    have r2' : Rel K c ((kap p2 y ++ τ) ++ ρ2.zip σ) H3 := by
      rw [List.append_assoc, ← List.append_assoc (kap p1 x)] at *
      have := r2
      rw [List.append_assoc (kap p1 x)] at this
      exact Rel.mid this
    cases b' with
    | false =>
      rw [if_neg Bool.false_ne_true]
      have e' : some (O.v (.bl false), ρ2) = some (o, ρ') := by simpa using e
      cases e'
      refine k _ H3 hl2 ?_
      rw [List.append_assoc] at r2'
      obtain ⟨G, g⟩ := r2'.drops
      exact g.add rfl
    | true =>
      rw [if_pos rfl]
      have e : ((mc ρ2).bind fun c => (vw c.2 p2).bind fun d2' => (vw c.2 c.1).bind fun d3 => (f' d2' d3).map fun r => (r.o, c.2)) = some (o, ρ') := by simpa using e
      obtain ⟨⟨p3, ρ3⟩, e7, e⟩ := Option.bind_eq_some_iff.mp e
      obtain ⟨d2', e8, e⟩ := Option.bind_eq_some_iff.mp e
      obtain ⟨d3, e9, e⟩ := Option.bind_eq_some_iff.mp e
      obtain ⟨res', e10, e⟩ := Option.map_eq_some_iff.mp e
      cases e
      refine hc c (kap p2 y ++ τ) ρ2 σ H3 _ p3 ρ3 hl2 r2' e7 fun w H4 hl4 pv3 r3 => ?_
      obtain ⟨G, gg⟩ := id r3
      obtain ⟨o3, x3, x4⟩ := vw_mem e8 pv2
      obtain ⟨o4, y3, y4⟩ := vw_mem e9 pv3
      refine hr'.1 _ H4 y w d2' d3 res' _ hid_same (gg.vw (o := o3) ?_ x3) (gg.vw (o := o4) ?_ y3) e10 fun z H5 q => k z H5 hl4 ?_
      · rcases x4 with x2 | x2
        · simp [x2]
        · simp [x2]
      · rcases y4 with y2 | y2
        · simp [y2]
        · simp [y2]
      · have q1 := (gg.res q).mid1
        rw [List.append_assoc] at q1
        exact q1.mid1
end
section
variable {C : Cd} {N : List Str} {sc : Sk} {pos : Pos}
theorem re_chain {op op' : CmpOp} {a b e : Expr} {ma mb mc : MP} {f f' : D → D → Option Res} (r r' : PySem.W.Frag → R2) (ho : ∀ X : Cx, X.A.units + 64 < cLine → OpR X (compareOp op) (r X.K)) (ho' : ∀ X : Cx, X.A.units + 64 < cLine → OpR X (compareOp op') (r' X.K)) (hr : R2b C.K (r C.K) f) (hr' : R2b C.K (r' C.K) f')
    (ha : RP C N sc a ma) (hb : RP C N sc b mb) (hc : RP C N sc e mc) (hm : lastMarks [op, op'] [b, e] = false := by with_unfolding_all rfl) : RE C N sc (.Compare a [op, op'] [b, e] pos) (m_chain f f' ma mb mc) :=
  let ⟨t, a1, a2⟩ := ha; let ⟨u, b1, b2⟩ := hb; let ⟨v, c1, c2⟩ := hc
  ⟨tChain (r C.K) (r' C.K) t u v, fun X g => pe_chain (by rw [← g.K]; exact ho X g.room.units) (by rw [← g.K]; exact ho' X g.room.units) (a1 X g) (b1 X g) (c1 X g) hm, rf_chain hr hr' a2 b2 c2⟩
theorem rt_chain {op op' : CmpOp} {a b e : Expr} {ma mb mc : MP} {f f' : D → D → Option Res} (r r' : PySem.W.Frag → R2) (ho : ∀ X : Cx, X.A.units + 64 < cLine → OpR X (compareOp op) (r X.K)) (ho' : ∀ X : Cx, X.A.units + 64 < cLine → OpR X (compareOp op') (r' X.K)) (hr : R2b C.K (r C.K) f) (hr' : R2b C.K (r' C.K) f')
    (ha : RP C N sc a ma) (hb : RP C N sc b mb) (hc : RP C N sc e mc) (hm : lastMarks [op, op'] [b, e] = false := by with_unfolding_all rfl) : RT C N sc (.Compare a [op, op'] [b, e] pos) (m_tst (m_chain f f' ma mb mc)) :=
  let ⟨t, a1, a2⟩ := ha; let ⟨u, b1, b2⟩ := hb; let ⟨v, c1, c2⟩ := hc
  ⟨tTest (tChain (r C.K) (r' C.K) t u v), fun X g => pt_chain (by rw [← g.K]; exact ho X g.room.units) (by rw [← g.K]; exact ho' X g.room.units) (a1 X g) (b1 X g) (c1 X g) hm, rft_tst (rf_chain hr hr' a2 b2 c2)⟩
end
end Mr

end
section
set_option Elab.async false
set_option linter.all false
set_option maxRecDepth 100000
set_option maxHeartbeats 4000000
/-! MrD: statements, loops, comprehensions, defs. -/
namespace Mr
open PySem PySem.Spec PyProof.Rows L2

/-! ### statements -/
inductive Out where
  | nx (ρ : List O) | rt (o : O) (ρ : List O) | bk (ρ : List O) | ct (ρ : List O)
abbrev MS := List O → Option Out
/-- the slots that stay -/
def lkp (lk : List Nat) (σ σ' : L2.St) : Prop := ∀ i ∈ lk, σ'[i]? = σ[i]?
theorem lkp.refl {lk : List Nat} {σ : L2.St} : lkp lk σ σ := fun _ _ => rfl
theorem lkp.trans {lk : List Nat} {σ σ' σ'' : L2.St} (a : lkp lk σ σ') (b : lkp lk σ' σ'') : lkp lk σ σ'' := fun i hi => (b i hi).trans (a i hi)
theorem lkp.set {lk : List Nat} {σ : L2.St} {i : Nat} {x : Option V} (h : i ∉ lk) : lkp lk σ (σ.set i x) := fun j hj => List.getElem?_set_ne (fun e => h (by rw [e]; exact hj))
def OutOk (K : PySem.W.Frag) (c : Cc) (τ : Cells) (lk : List Nat) (σ : L2.St) (D : Ends) : Out → Prop
  | .nx ρ' => ∀ σ' H', ρ'.length = σ'.length → σ'.length = σ.length → lkp lk σ σ' → Rel K c (τ ++ ρ'.zip σ') H' → D.nx σ' H'
  | .rt o ρ' => ∀ x σ' H', ρ'.length = σ'.length → σ'.length = σ.length → lkp lk σ σ' → Rel K c ((o, some x) :: (τ ++ ρ'.zip σ')) H' → D.rt x H'
  | .bk ρ' => ∀ σ' H', ρ'.length = σ'.length → σ'.length = σ.length → lkp lk σ σ' → Rel K c (τ ++ ρ'.zip σ') H' → D.bk σ' H'
  | .ct ρ' => ∀ σ' H', ρ'.length = σ'.length → σ'.length = σ.length → lkp lk σ σ' → Rel K c (τ ++ ρ'.zip σ') H' → D.ct σ' H'
def Rfs (K : PySem.W.Frag) (n : Nat) (lk : List Nat) (t : TS) (m : MS) : Prop := ∀ (c : Cc) (τ : Cells) (ρ : List O) (σ : L2.St) (H : Hp) (D : Ends) (out : Out), ρ.length = σ.length → σ.length = n → Rel K c (τ ++ ρ.zip σ) H → m ρ = some out → OutOk K c τ lk σ D out → t D σ H
def RS (C : Cd) (N : List Str) (sc : Sk) (lk : List Nat) (st : Stmt) (m : MS) : Prop := ∃ t, (∀ X, Gd C N sc X → X.xe = (fun _ _ => False) → PS X st t) ∧ Rfs C.K N.length lk t m
def RSs (C : Cd) (N : List Str) (sc : Sk) (lk : List Nat) (st : List Stmt) (m : MS) : Prop := ∃ t, (∀ X, Gd C N sc X → X.xe = (fun _ _ => False) → PSs X st t) ∧ Rfs C.K N.length lk t m
/-- targets -/
abbrev MG := D → List O → Option (List O)
def Rfg (K : PySem.W.Frag) (n : Nat) (lk : List Nat) (g : TG) (m : MG) : Prop := ∀ (c : Cc) (τ : Cells) (ρ : List O) (σ : L2.St) (H : Hp) (d : D) (x : V) (ρ' : List O) (Q : L2.St → Hp → Prop), ρ.length = σ.length → σ.length = n → Rel K c ((.v d, some x) :: (τ ++ ρ.zip σ)) H → m d ρ = some ρ' →
  (∀ σ' H', ρ'.length = σ'.length → σ'.length = σ.length → lkp lk σ σ' → Rel K c (τ ++ ρ'.zip σ') H' → Q σ' H') → g x σ H Q
/-- vs: the slots that the target stores -/
def RG (C : Cd) (N : List Str) (sc : Sk) (vs : List Nat) (tg : Expr) (m : MG) : Prop := ∃ g, (∀ X, Gd C N sc X → PG X tg g) ∧ ∀ lk : List Nat, (∀ i ∈ lk, i ∉ vs) → Rfg C.K N.length lk g m
def s_nop : MS := fun ρ => some (.nx ρ)
def s_seq (a b : MS) : MS := fun ρ => (a ρ).bind fun o => match o with
  | .nx ρ' => b ρ'
  | o => some o
def s_if (t : MT) (a b : MS) : MS := fun ρ => (t ρ).bind fun r => if r.1 = true then a r.2 else b r.2
def s_drop (m : ME) : MS := fun ρ => (m ρ).map fun a => .nx a.2
def s_ret (m : ME) : MS := fun ρ => (m ρ).map fun a => .rt a.1 a.2
def s_retN : MS := fun ρ => some (.rt (.v .non) ρ)
def s_bk : MS := fun ρ => some (.bk ρ)
def s_ct : MS := fun ρ => some (.ct ρ)
def s_no : MS := fun _ => none
def s_set (i : Nat) (m : ME) : MS := fun ρ => (m ρ).map fun a => .nx (a.2.set i a.1)
def g_name (i : Nat) : MG := fun d ρ => some (ρ.set i (.v d))
/-- target = value, a value that becomes plain -/
def s_asg (g : MG) (m : ME) : MS := fun ρ => (m ρ).bind fun a => (toD a.1).bind fun d => (g d a.2).map fun ρ' => .nx ρ'
section
variable {K : PySem.W.Frag} {n : Nat} {lk : List Nat}
theorem rfs_nop : Rfs K n lk tNext s_nop := by
  intro c τ ρ σ H D out hl hn r e k
  cases e
  exact k σ H hl rfl .refl r
theorem rfs_no {t : TS} : Rfs K n lk t s_no := by
  intro c τ ρ σ H D out hl hn r e k
  cases e
theorem rfs_seq {t u : TS} {a b : MS} (h1 : Rfs K n lk t a) (h2 : Rfs K n lk u b) : Rfs K n lk (tSeq t u) (s_seq a b) := by
  intro c τ ρ σ H D out hl hn r e k
  unfold s_seq at e
  obtain ⟨o1, e1, e⟩ := Option.bind_eq_some_iff.mp e
  refine h1 c τ ρ σ H _ o1 hl hn r e1 ?_
  cases o1 with
  | nx ρ1 =>
    intro σ' H' hl' hs' hk' r'
    refine h2 c τ ρ1 σ' H' D out hl' (hs'.trans hn) r' e ?_
    cases out with
    | nx ρ2 => exact fun σ2 H2 a1 a2 a3 a4 => k σ2 H2 a1 (a2.trans hs') (hk'.trans a3) a4
    | rt o ρ2 => exact fun x σ2 H2 a1 a2 a3 a4 => k x σ2 H2 a1 (a2.trans hs') (hk'.trans a3) a4
    | bk ρ2 => exact fun σ2 H2 a1 a2 a3 a4 => k σ2 H2 a1 (a2.trans hs') (hk'.trans a3) a4
    | ct ρ2 => exact fun σ2 H2 a1 a2 a3 a4 => k σ2 H2 a1 (a2.trans hs') (hk'.trans a3) a4
  | rt o ρ1 => cases e; exact k
  | bk ρ1 => cases e; exact k
  | ct ρ1 => cases e; exact k
theorem rfs_if {t : TT} {u v : TS} {mt : MT} {a b : MS} (ht : Rft K t mt) (h1 : Rfs K n lk u a) (h2 : Rfs K n lk v b) : Rfs K n lk (tIfS t u v) (s_if mt a b) := by
  intro c τ ρ σ H D out hl hn r e k
  unfold s_if at e
  obtain ⟨⟨b1, ρ1⟩, e1, e⟩ := Option.bind_eq_some_iff.mp e
  refine ht c τ ρ σ H _ b1 ρ1 hl r e1 fun H' hl' r' => ?_
  cases b1 with
  | true => rw [if_pos rfl]; exact h1 c τ ρ1 σ H' D out hl' hn r' (by simpa using e) k
  | false => rw [if_neg Bool.false_ne_true]; exact h2 c τ ρ1 σ H' D out hl' hn r' (by simpa using e) k
theorem rfs_drop {t : TE} {m : ME} (h : Rf K t m) : Rfs K n lk (tDrop t) (s_drop m) := by
  intro c τ ρ σ H D out hl hn r e k
  unfold s_drop at e
  obtain ⟨⟨o, ρ1⟩, e1, e⟩ := Option.map_eq_some_iff.mp e
  cases e
  exact h c τ ρ σ H _ o ρ1 hl r e1 fun x H' hl' r' => k σ H' hl' rfl .refl r'.drop
theorem rfs_ret {t : TE} {m : ME} (h : Rf K t m) : Rfs K n lk (tRet t) (s_ret m) := by
  intro c τ ρ σ H D out hl hn r e k
  unfold s_ret at e
  obtain ⟨⟨o, ρ1⟩, e1, e⟩ := Option.map_eq_some_iff.mp e
  cases e
  exact h c τ ρ σ H _ o ρ1 hl r e1 fun x H' hl' r' => k x σ H' hl' rfl .refl r'
theorem rfs_retN : Rfs K n lk tRetN s_retN := by
  intro c τ ρ σ H D out hl hn r e k
  cases e
  obtain ⟨F, rr⟩ := id r
  exact k .non σ H hl rfl .refl (rr.add rfl)
theorem rfs_bk : Rfs K n lk tBreak s_bk := by
  intro c τ ρ σ H D out hl hn r e k
  cases e
  exact k σ H hl rfl .refl r
theorem rfs_ct : Rfs K n lk tCont s_ct := by
  intro c τ ρ σ H D out hl hn r e k
  cases e
  exact k σ H hl rfl .refl r
theorem rfs_set {t : TE} {m : ME} {i : Nat} (h : Rf K t m) (hi : i < n) (hk : i ∉ lk) : Rfs K n lk (tAsg t (gName i)) (s_set i m) := by
  intro c τ ρ σ H D out hl hn r e k
  unfold s_set at e
  obtain ⟨⟨o, ρ1⟩, e1, e⟩ := Option.map_eq_some_iff.mp e
  cases e
  refine h c τ ρ σ H _ o ρ1 hl r e1 fun x H' hl' r' => ?_
  exact k _ H' (by rw [List.length_set, List.length_set]; exact hl') (by rw [List.length_set]) (.set hk) (r'.store hl' (by rw [hn]; exact hi))
theorem rfg_name {i : Nat} (hi : i < n) (hk : i ∉ lk) : Rfg K n lk (gName i) (g_name i) := by
  intro c τ ρ σ H d x ρ' Q hl hn r e k
  cases e
  exact k _ H (by rw [List.length_set, List.length_set]; exact hl) (by rw [List.length_set]) (.set hk) (r.store hl (by rw [hn]; exact hi))
theorem rfs_asg {t : TE} {m : ME} {g : TG} {mg : MG} (h : Rf K t m) (hg : Rfg K n lk g mg) : Rfs K n lk (tAsg t g) (s_asg mg m) := by
  intro c τ ρ σ H D out hl hn r e k
  unfold s_asg at e
  obtain ⟨⟨o, ρ1⟩, e1, e⟩ := Option.bind_eq_some_iff.mp e
  obtain ⟨d, e2, e⟩ := Option.bind_eq_some_iff.mp e
  obtain ⟨ρ2, e3, e⟩ := Option.map_eq_some_iff.mp e
  cases e
  refine h c τ ρ σ H _ o ρ1 hl r e1 fun x H' hl' r' => ?_
  exact hg c τ ρ1 σ H' d x ρ2 _ hl' hn (r'.toD e2) e3 k
/-- (a, b, ..) = a tuple -/
abbrev MGs := List D → List O → Option (List O)
def gs_nil : MGs := fun ds ρ => match ds with
  | [] => some ρ
  | _ => none
def gs_cons (g : MG) (gs : MGs) : MGs := fun ds ρ => match ds with
  | d :: ds => (g d ρ).bind (gs ds)
  | _ => none
def g_tup (k : Nat) (gs : MGs) : MG := fun d ρ => match d with
  | .tup ds => if ds.length = k then gs ds ρ else none
  | _ => none
def Rfgs (K : PySem.W.Frag) (n : Nat) (lk : List Nat) (g : TGs) (m : MGs) : Prop := ∀ (c : Cc) (τ : Cells) (ρ : List O) (σ : L2.St) (H : Hp) (ds : List D) (xs : List V) (ρ' : List O) (Q : L2.St → Hp → Prop), ρ.length = σ.length → σ.length = n → Rel K c ((ds.map O.v).zip (xs.map some) ++ (τ ++ ρ.zip σ)) H → ds.length = xs.length → m ds ρ = some ρ' →
  (∀ σ' H', ρ'.length = σ'.length → σ'.length = σ.length → lkp lk σ σ' → Rel K c (τ ++ ρ'.zip σ') H' → Q σ' H') → g xs σ H Q
theorem rfgs_nil : Rfgs K n lk gNil gs_nil := by
  intro c τ ρ σ H ds xs ρ' Q hl hn r hd e k
  cases ds with
  | nil =>
    cases e
    have ex : xs = [] := List.length_eq_zero_iff.mp hd.symm
    subst ex
    exact ⟨rfl, k σ H hl rfl .refl r⟩
  | cons d ds => cases e
theorem rfgs_cons {g : TG} {gs : TGs} {m : MG} {ms : MGs} (h1 : Rfg K n lk g m) (h2 : Rfgs K n lk gs ms) : Rfgs K n lk (gCons g gs) (gs_cons m ms) := by
  intro c τ ρ σ H ds xs ρ' Q hl hn r hd e k
  cases ds with
  | nil => cases e
  | cons d ds =>
    cases xs with
    | nil => cases hd
    | cons x xs =>
      obtain ⟨ρ1, e1, e⟩ := Option.bind_eq_some_iff.mp (show (m d ρ).bind (ms ds) = some ρ' from e)
      have r' : Rel K c ((.v d, some x) :: (((ds.map O.v).zip (xs.map some) ++ τ) ++ ρ.zip σ)) H := by rw [List.append_assoc]; exact r
      refine ⟨x, xs, rfl, h1 c _ ρ σ H d x ρ1 _ hl hn r' e1 fun σ1 H1 hl1 hs1 hk1 r1 => ?_⟩
      exact h2 c τ ρ1 σ1 H1 ds xs ρ' Q hl1 (hs1.trans hn) (by rw [List.append_assoc] at r1; exact r1) (by simpa using hd) e fun σ2 H2 a1 a2 a3 a4 => k σ2 H2 a1 (a2.trans hs1) (hk1.trans a3) a4
theorem RelAt.adds {c : Cc} {F : List Addr} {cs : Cells} {H : Hp} (r : RelAt K c F cs H) : ∀ {ds : List D} {xs : List V}, Reps K (hid (F ++ c.B) H) ds xs → RelAt K c F ((ds.map O.v).zip (xs.map some) ++ cs) H
  | [], _, q => by cases q; exact r
  | d :: ds, _, ⟨x, xr, e, q1, q2⟩ => by
    subst e
    have r' := r.adds q2
    exact ⟨⟨[], F, ⟨rfl, x, rfl, q1⟩, r'.rc, rfl⟩, r'.nd, r'.dj, r'.bt, r'.fr, r'.ow⟩
theorem rfg_tup {gs : TGs} {ms : MGs} {k : Nat} (h : Rfgs K n lk gs ms) : Rfg K n lk (gTup K k gs) (g_tup k ms) := by
  intro c τ ρ σ H d x ρ' Q hl hn r e kk
  cases d with
  | tup ds =>
    unfold g_tup at e
    simp only at e
    split at e
    · rename_i hk
      obtain ⟨F, y, rr, ey, q⟩ := r.val List.mem_cons_self
      cases ey
      obtain ⟨a, xs, rfl, q1, q2⟩ := q
      refine ⟨a, xs, rfl, sqT_same hid_same q1, q2.length ▸ hk, ?_⟩
      have r2 : Rel K c ((ds.map O.v).zip (xs.map some) ++ ((.v (.tup ds), some (.ref a)) :: (τ ++ ρ.zip σ))) H := ⟨F, rr.adds q2⟩
      have r3 : Rel K c ((ds.map O.v).zip (xs.map some) ++ (τ ++ ρ.zip σ)) H := Rel.mid (ds := [(.v (.tup ds), some (.ref a))]) r2
      exact h c τ ρ σ H ds xs ρ' Q hl hn r3 q2.length e kk
    · cases e
  | _ => cases e
end
section
variable {C : Cd} {N : List Str} {sc : Sk} {lk vs : List Nat} {pos : Pos}
theorem rss_nil : RSs C N sc lk [] s_nop := ⟨_, fun X g _ => pss_nil, rfs_nop⟩
theorem rss_cons {st : Stmt} {sts : List Stmt} {a b : MS} (h1 : RS C N sc lk st a) (h2 : RSs C N sc lk sts b) : RSs C N sc lk (st :: sts) (s_seq a b) := let ⟨t, a1, a2⟩ := h1; let ⟨u, b1, b2⟩ := h2; ⟨_, fun X g z => pss_cons (a1 X g z) (b1 X g z), rfs_seq a2 b2⟩
theorem rss_one {st : Stmt} {a : MS} (h1 : RS C N sc lk st a) : RSs C N sc lk [st] a := let ⟨t, a1, a2⟩ := h1; ⟨_, fun X g z => pss_one (a1 X g z), a2⟩
/-- a block that is not come to -/
theorem rss_no {sts : List Stmt} : RSs C N sc lk sts s_no := ⟨_, fun X g _ => pss_never, rfs_no⟩
theorem rs_no {st : Stmt} : RS C N sc lk st s_no := ⟨_, fun X g _ => ps_never, rfs_no⟩
theorem rs_pass : RS C N sc lk (.Pass pos) s_nop := ⟨_, fun X g _ => ps_pass, rfs_nop⟩
theorem rs_bk : RS C N sc lk (.Break pos) s_bk := ⟨_, fun X g _ => ps_break, rfs_bk⟩
theorem rs_ct : RS C N sc lk (.Continue pos) s_ct := ⟨_, fun X g _ => ps_continue, rfs_ct⟩
theorem rs_if {e : Expr} {mt : MT} {x y : List Stmt} {a b : MS} (h : RT C N sc e mt) (h1 : RSs C N sc lk x a) (h2 : RSs C N sc lk y b) : RS C N sc lk (.If e x y pos) (s_if mt a b) := let ⟨t, a1, a2⟩ := h; let ⟨u, b1, b2⟩ := h1; let ⟨v, c1, c2⟩ := h2; ⟨_, fun X g z => ps_if (a1 X g) (b1 X g z) (c1 X g z), rfs_if a2 b2 c2⟩
theorem rs_ret {e : Expr} {m : ME} (h : RE C N sc e m) : RS C N sc lk (.Return (some e) pos) (s_ret m) := let ⟨t, a1, a2⟩ := h; ⟨_, fun X g _ => ps_ret (a1 X g), rfs_ret a2⟩
theorem rs_retN : RS C N sc lk (.Return none pos) s_retN := ⟨_, fun X g _ => ps_retN, rfs_retN⟩
theorem rs_expr {e : Expr} {m : ME} (h : RE C N sc e m) (hs : ∀ env : Env, swapsWith e none pos.line env = pure false := by intro _; rfl) : RS C N sc lk (.Expr e pos) (s_drop m) := let ⟨t, a1, a2⟩ := h; ⟨_, fun X g _ => ps_expr (a1 X g) (hs _), rfs_drop a2⟩
theorem rs_set (i : Nat) {x : Str} {e : Expr} {m : ME} {pos' : Pos} (h : RE C N sc e m) (hx : locB N sc i x = true := by decide +kernel) (nd : N.Nodup := by decide +kernel) (hk : i ∉ lk := by decide) (hs : ∀ env : Env, swapsWith e (some (.Name x pos')) pos.line env = pure false := by intro _; rfl) : RS C N sc lk (.Assign [.Name x pos'] e pos) (s_set i m) :=
  let ⟨t, a1, a2⟩ := h
  ⟨_, fun X g _ => ps_set (by rw [g.N]; exact nd) (g.loc hx).1 (g.loc hx).2.1 (a1 X g) (hs _) (g.loc hx).2.2, rfs_set a2 (by have := (locB_ok hx).1; exact (List.getElem?_eq_some_iff.mp this).1) hk⟩
theorem rg_name (i : Nat) {x : Str} {p : Pos} (hx : locB N sc i x = true := by decide +kernel) (nd : N.Nodup := by decide +kernel) (hk : i ∈ vs := by decide) : RG C N sc vs (.Name x p) (g_name i) :=
  ⟨_, fun X g => pg_name (by rw [g.N]; exact nd) (g.loc hx).1 (g.loc hx).2.1 (g.loc hx).2.2, fun lk h => rfg_name (by have := (locB_ok hx).1; exact (List.getElem?_eq_some_iff.mp this).1) fun z => h i z hk⟩
def RGs (C : Cd) (N : List Str) (sc : Sk) (vs : List Nat) (tg : List Expr) (m : MGs) : Prop := ∃ g, (∀ X, Gd C N sc X → PGs X tg g) ∧ ∀ lk : List Nat, (∀ i ∈ lk, i ∉ vs) → Rfgs C.K N.length lk g m
theorem rgs_nil : RGs C N sc vs [] gs_nil := ⟨_, fun X g => pgs_nil, fun _ _ => rfgs_nil⟩
theorem rgs_cons {e : Expr} {es : List Expr} {m : MG} {ms : MGs} (h1 : RG C N sc vs e m) (h2 : RGs C N sc vs es ms) (hs : ∀ env : Env, (assignEach (e :: es) env).map (·.2) = assign e env :: (assignEach es env).map (·.2) := by intro _; rfl) : RGs C N sc vs (e :: es) (gs_cons m ms) :=
  let ⟨t, a1, a2⟩ := h1; let ⟨u, b1, b2⟩ := h2; ⟨_, fun X g => pgs_cons (a1 X g) (b1 X g) (hs _), fun lk h => rfgs_cons (a2 lk h) (b2 lk h)⟩
theorem rg_tup {es : List Expr} {k n : Nat} {p : Pos} {ms : MGs} (h : RGs C N sc vs es ms) (hn : ∀ env : Env, (assignEach es env).length = n := by intro _; rfl) (hst : ∀ env : Env, (assignEach es env).findIdx? (·.1) = none := by intro _; rfl) : RG C N sc vs (.Tuple es k p) (g_tup n ms) :=
  let ⟨t, a1, a2⟩ := h; ⟨gTup C.K n t, fun X g => by have q := pg_tup g.calm (a1 X g) (hn _) (hst _) (pos := p) (k := k); rw [g.K] at q; exact q, fun lk h => rfg_tup (a2 lk h)⟩
theorem rs_asg {tg e : Expr} {m : ME} {mg : MG} (h : RE C N sc e m) (hg : RG C N sc vs tg mg) (hv : ∀ i ∈ lk, i ∉ vs := by decide) (hs : ∀ env : Env, swapsWithSole [tg] e pos.line env = pure false := by intro _; rfl) (hw : ∀ env : Env, swappedStores [tg] e env = pure none := by intro _; rfl)
    (h1 : ∀ env : Env, (assignEach [tg] env).map (·.2) = [assign tg env] := by intro _; rfl) : RS C N sc lk (.Assign [tg] e pos) (s_asg mg m) :=
  let ⟨t, a1, a2⟩ := h; let ⟨u, b1, b2⟩ := hg; ⟨_, fun X g _ => ps_asg (a1 X g) (b1 X g) (hs _) (hw _) (h1 _), rfs_asg a2 (b2 lk hv)⟩
end

/-! ### what a loop walks -/
abbrev MI := List O → Option (List D × List O)
def Yld (K : PySem.W.Frag) (c : Cc) (κ : Cells) (J : It) (ds : List D) : Prop := ∀ (i : Nat) (cs : Cells) (H : Hp), Rel K c (κ ++ cs) H →
  (∀ d, ds[i]? = some d → J.go i H ∧ ∀ x H', J.yld i H x H' → Rel K c ((.v d, some x) :: (κ ++ cs)) H') ∧ (i = ds.length → J.stop i H)
def Rfi (K : PySem.W.Frag) (t : TI) (m : MI) : Prop := ∀ (c : Cc) (τ : Cells) (ρ : List O) (σ : L2.St) (H : Hp) (R : It → Hp → Prop) (ds : List D) (ρ' : List O), ρ.length = σ.length → Rel K c (τ ++ ρ.zip σ) H → m ρ = some (ds, ρ') →
  (∀ J H' κ, ρ'.length = σ.length → Rel K c (κ ++ (τ ++ ρ'.zip σ)) H' → Yld K c κ J ds → R J H') → t σ H R
def RI (C : Cd) (N : List Str) (sc : Sk) (tg e : Expr) (m : MI) : Prop := ∃ t, (∀ X, Gd C N sc X → PI X tg e t) ∧ Rfi C.K t m
def chars (s : Str) : List D := s.cps.toList.map fun k => .str ⟨#[k]⟩
def items : D → Option (List D)
  | .lst ds => some ds
  | .tup ds => some ds
  | .rl ds => some ds
  | .str s => some (chars s)
  | _ => none
def i_seq (m : ME) : MI := fun ρ => (m ρ).bind fun a => (toD a.1).bind fun d => (items d).map fun ds => (ds, a.2)
theorem PI.or {X : Cx} {tg e : Expr} {t u : TI} (h1 : PI X tg e t) (h2 : PI X tg e u) : PI X tg e (fun σ H R => t σ H R ∨ u σ H R) :=
  ⟨fun pins s σ H R I h => by
    rcases h with h | h
    · exact h1.run pins s σ H R I h
    · exact h2.run pins s σ H R I h⟩
section
variable {K : PySem.W.Frag}
theorem rfi_seq {t : TE} {m : ME} (h : Rf K t m) : Rfi K (fun σ H R => iList K t σ H R ∨ iTup K t σ H R ∨ iStr t σ H R) (i_seq m) := by
  intro c τ ρ σ H R ds ρ' hl r e k
  unfold i_seq at e
  obtain ⟨⟨o, ρ1⟩, e1, e⟩ := Option.bind_eq_some_iff.mp e
  obtain ⟨d, e2, e⟩ := Option.bind_eq_some_iff.mp e
  obtain ⟨ds', e3, e⟩ := Option.map_eq_some_iff.mp e
  cases e
  have list : ∀ (r3 : ∀ (cs : Cells) (a : Addr) (H : Hp), Rel K c ((.v d, some (.ref a)) :: cs) H → ∃ F xs, RelAt K c F ((.v d, some (.ref a)) :: cs) H ∧ SqL K H a xs ∧ Reps K (hid (F ++ c.B) H) ds xs), (∀ x H', Rel K c ((.v d, some x) :: (τ ++ ρ1.zip σ)) H' → ∃ a, x = .ref a) → iList K t σ H R := by
    intro r3 hx
    refine h c τ ρ σ H _ o ρ1 hl r e1 fun x H' hl' r' => ?_
    have r'' := r'.toD e2
    obtain ⟨a, rfl⟩ := hx x H' r''
    obtain ⟨F, xs, rr, q1, q2⟩ := r3 _ a H' r''
    refine ⟨a, rfl, ⟨xs, q1⟩, k _ H' [(.v d, some (.ref a))] hl' r'' fun i cs H2 r2 => ?_⟩
    obtain ⟨F2, xs2, rr2, p1, p2⟩ := r3 _ a H2 r2
    refine ⟨fun d' hd => ?_, fun hi => ⟨xs2, p1, by rw [← p2.length, hi]; exact Nat.le_refl _⟩⟩
    obtain ⟨v, hv, rv⟩ := p2.get hd
    refine ⟨⟨xs2, v, p1, hv⟩, fun x H3 y => ?_⟩
    obtain ⟨rfl, y⟩ := y
    have ev : v = x := Option.some.inj (hv.symm.trans (y xs2 p1))
    subst ev
    exact rr2.add rv
  have tup : ∀ (r3 : ∀ (cs : Cells) (a : Addr) (H : Hp), Rel K c ((.v d, some (.ref a)) :: cs) H → ∃ F xs, RelAt K c F ((.v d, some (.ref a)) :: cs) H ∧ SqT K H a xs ∧ Reps K (hid (F ++ c.B) H) ds xs), (∀ x H', Rel K c ((.v d, some x) :: (τ ++ ρ1.zip σ)) H' → ∃ a, x = .ref a) → iTup K t σ H R := by
    intro r3 hx
    refine h c τ ρ σ H _ o ρ1 hl r e1 fun x H' hl' r' => ?_
    have r'' := r'.toD e2
    obtain ⟨a, rfl⟩ := hx x H' r''
    obtain ⟨F, xs, rr, q1, q2⟩ := r3 _ a H' r''
    refine ⟨a, rfl, ⟨xs, q1⟩, k _ H' [(.v d, some (.ref a))] hl' r'' fun i cs H2 r2 => ?_⟩
    obtain ⟨F2, xs2, rr2, p1, p2⟩ := r3 _ a H2 r2
    refine ⟨fun d' hd => ?_, fun hi => ⟨xs2, p1, by rw [← p2.length, hi]; exact Nat.le_refl _⟩⟩
    obtain ⟨v, hv, rv⟩ := p2.get hd
    refine ⟨⟨xs2, v, p1, hv⟩, fun x H3 y => ?_⟩
    obtain ⟨rfl, y⟩ := y
    have ev : v = x := Option.some.inj (hv.symm.trans (y xs2 p1))
    subst ev
    exact rr2.add rv
  cases d with
  | lst es =>
    cases e3
    refine .inl (list (fun cs a H1 r1 => ?_) fun x H1 r1 => ?_)
    · obtain ⟨F, y, rr, ey, q⟩ := r1.val List.mem_cons_self
      cases ey
      obtain ⟨a', xs, ea, q1, q2⟩ := q
      cases ea
      exact ⟨F, xs, rr, .inl (.inl (hid_same _ _ q1)), q2⟩
    · obtain ⟨F, y, rr, ey, q⟩ := r1.val List.mem_cons_self
      cases ey
      obtain ⟨a', xs, ea, q1, q2⟩ := q
      exact ⟨a', ea⟩
  | rl es =>
    cases e3
    refine .inl (list (fun cs a H1 r1 => ?_) fun x H1 r1 => ?_)
    · obtain ⟨F, y, rr, ey, q⟩ := r1.val List.mem_cons_self
      cases ey
      obtain ⟨a', xs, ea, q1, q2⟩ := q
      cases ea
      exact ⟨F, xs, rr, hid_same.seq q1, q2⟩
    · obtain ⟨F, y, rr, ey, q⟩ := r1.val List.mem_cons_self
      cases ey
      obtain ⟨a', xs, ea, q1, q2⟩ := q
      exact ⟨a', ea⟩
  | tup es =>
    cases e3
    refine .inr (.inl (tup (fun cs a H1 r1 => ?_) fun x H1 r1 => ?_))
    · obtain ⟨F, y, rr, ey, q⟩ := r1.val List.mem_cons_self
      cases ey
      obtain ⟨a', xs, ea, q1, q2⟩ := q
      cases ea
      exact ⟨F, xs, rr, sqT_same hid_same q1, q2⟩
    · obtain ⟨F, y, rr, ey, q⟩ := r1.val List.mem_cons_self
      cases ey
      obtain ⟨a', xs, ea, q1, q2⟩ := q
      exact ⟨a', ea⟩
  | str s =>
    cases e3
    refine .inr (.inr (h c τ ρ σ H _ o ρ1 hl r e1 fun x H' hl' r' => ?_))
    have r'' := r'.toD e2
    obtain ⟨F, y, rr, ey, q⟩ := r''.val List.mem_cons_self
    cases ey
    have q' : x = .str s := q
    subst q'
    refine ⟨s, rfl, k _ H' [] hl' r''.drop fun i cs H2 r2 => ⟨fun d' hd => ?_, fun hi => ?_⟩⟩
    · have hd' : (chars s)[i]? = some d' := hd
      unfold chars at hd'
      rw [List.getElem?_map] at hd'
      obtain ⟨cp, hc, ed⟩ := Option.map_eq_some_iff.mp hd'
      have hi : i < s.cps.toList.length := (List.getElem?_eq_some_iff.mp hc).1
      refine ⟨by show i < s.cps.size; simpa using hi, fun x H3 y => ?_⟩
      obtain ⟨rfl, cp', h1, rfl⟩ := y
      rw [Array.getElem?_toList] at hc
      have ec : cp = cp' := Option.some.inj (hc.symm.trans h1)
      subst ec
      subst ed
      obtain ⟨G, gg⟩ := r2
      exact RelAt.add gg rfl
    · show s.cps.size ≤ i
      rw [hi]
      unfold chars
      simp
  | _ => cases e3
end
/-- the ints of a range -/
def rngD (lo : Int) (n : Nat) : List D := (List.range n).map fun i : Nat => .int (lo + (i : Int))
theorem rngD_length (lo : Int) (n : Nat) : (rngD lo n).length = n := by unfold rngD; rw [List.length_map, List.length_range]
theorem rngD_get {lo : Int} {n i : Nat} {d : D} (h : (rngD lo n)[i]? = some d) : i < n ∧ d = .int (lo + (i : Int)) := by
  unfold rngD at h
  rw [List.getElem?_map] at h
  obtain ⟨j, hj, ed⟩ := Option.map_eq_some_iff.mp h
  obtain ⟨hh, eh⟩ := List.getElem?_eq_some_iff.mp hj
  rw [List.length_range] at hh
  rw [List.getElem_range] at eh
  subst eh
  exact ⟨hh, ed.symm⟩
def big (i : Int) : Bool := decide (-(2 ^ 62) ≤ i) && decide (i < 2 ^ 62)
theorem big_ok {i : Int} (h : big i = true) : -(2 ^ 62) ≤ i ∧ i < 2 ^ 62 := by
  unfold big at h
  rw [Bool.and_eq_true, decide_eq_true_eq, decide_eq_true_eq] at h
  exact h
def i_rng1 (m : MP) : MI := fun ρ => (m ρ).bind fun a => (vw a.2 a.1).bind fun d => match d with
  | .int j => if big j = true then some (rngD 0 j.toNat, a.2) else none
  | _ => none
def i_rng2 (ma mb : MP) : MI := fun ρ => (ma ρ).bind fun a => (mb a.2).bind fun b => (vw b.2 a.1).bind fun d1 => (vw b.2 b.1).bind fun d2 => match d1, d2 with
  | .int i, .int j => if (big i && big j) = true then some (rngD i (j - i).toNat, b.2) else none
  | _, _ => none
section
variable {K : PySem.W.Frag}
theorem vw_int {h H : Hp} {i : Int} {x : V} (q : Vw K h H (.int i) x) : x = .int i := by
  rcases q with q | ⟨ds, a, xs, e, _⟩ | ⟨ks, ds, a, xs, e, _⟩
  · exact q
  · cases e
  · cases e
theorem Rel.vwp {c : Cc} {τ : Cells} {ρ : List O} {σ : L2.St} {H : Hp} {p : Pr} {x : V} {d : D} (r : Rel K c (τ ++ ρ.zip σ) H) (hk : ∀ q ∈ kap p x, q ∈ τ) (e : vw ρ p = some d) (pv : pval p σ x) : ∃ h, Same h H ∧ Vw K h H d x := by
  obtain ⟨F, rr⟩ := r
  obtain ⟨o1, x1, x2⟩ := vw_mem e pv
  refine ⟨_, hid_same, rr.vw (o := o1) ?_ x1⟩
  rcases x2 with z | z
  · exact List.mem_append_left _ (hk _ z)
  · exact List.mem_append_right _ z
theorem yld_rng {c : Cc} {lo : Int} {n : Nat} : Yld K c [] (Itr lo n) (rngD lo n) := by
  intro i cs H r
  refine ⟨fun d hd => ?_, fun hi => ?_⟩
  · obtain ⟨h1, rfl⟩ := rngD_get hd
    refine ⟨h1, fun x H' y => ?_⟩
    obtain ⟨rfl, rfl⟩ := y
    obtain ⟨F, rr⟩ := r
    exact RelAt.add rr rfl
  · rw [rngD_length] at hi
    show n ≤ i
    omega
theorem rfi_rng1 {t : TE} {m : MP} (h : Rfp K t m) : Rfi K (iRng1 (tCons t tNil)) (i_rng1 m) := by
  intro c τ ρ σ H R ds ρ' hl r e k
  unfold i_rng1 at e
  obtain ⟨⟨p, ρ1⟩, e1, e⟩ := Option.bind_eq_some_iff.mp e
  obtain ⟨d, e2, e⟩ := Option.bind_eq_some_iff.mp e
  cases d with
  | int j =>
    simp only at e
    split at e
    · rename_i hb
      cases e
      refine h c τ ρ σ H _ p ρ' hl r e1 fun x H1 hl1 pv1 r1 => ?_
      obtain ⟨g, hs, q⟩ := (by rw [← List.append_assoc] at r1; exact r1 : Rel K c ((kap p x ++ τ) ++ ρ'.zip σ) H1).vwp (fun q hq => List.mem_append_left _ hq) e2 pv1
      have ex := vw_int q
      subst ex
      exact ⟨j, rfl, (big_ok hb).1, (big_ok hb).2, k _ H1 [] hl1 r1.drops yld_rng⟩
    · cases e
  | _ => cases e
theorem rfi_rng2 {t u : TE} {ma mb : MP} (h1 : Rfp K t ma) (h2 : Rfp K u mb) : Rfi K (iRng2 (tCons t (tCons u tNil))) (i_rng2 ma mb) := by
  intro c τ ρ σ H R ds ρ' hl r e k
  unfold i_rng2 at e
  obtain ⟨⟨p1, ρ1⟩, e1, e⟩ := Option.bind_eq_some_iff.mp e
  obtain ⟨⟨p2, ρ2⟩, e2, e⟩ := Option.bind_eq_some_iff.mp e
  obtain ⟨d1, e3, e⟩ := Option.bind_eq_some_iff.mp e
  obtain ⟨d2, e4, e⟩ := Option.bind_eq_some_iff.mp e
  cases d1 with
  | int i =>
    cases d2 with
    | int j =>
      simp only at e
      split at e
      · rename_i hb
        cases e
        rw [Bool.and_eq_true] at hb
        refine h1 c τ ρ σ H _ p1 ρ1 hl r e1 fun x H1 hl1 pv1 r1 => ?_
        refine h2 c (kap p1 x ++ τ) ρ1 σ H1 _ p2 ρ' hl1 (by rw [List.append_assoc]; exact r1) e2 fun y H2 hl2 pv2 r2 => ?_
        have r2' : Rel K c ((kap p2 y ++ (kap p1 x ++ τ)) ++ ρ'.zip σ) H2 := by rw [List.append_assoc]; exact r2
        obtain ⟨g, hs, q⟩ := r2'.vwp (p := p1) (fun q hq => List.mem_append_right _ (List.mem_append_left _ hq)) e3 pv1
        obtain ⟨g', hs', q'⟩ := r2'.vwp (p := p2) (fun q hq => List.mem_append_left _ hq) e4 pv2
        have ex := vw_int q
        have ey := vw_int q'
        subst ex
        subst ey
        refine ⟨i, j, rfl, ⟨(big_ok hb.1).1, (big_ok hb.1).2, (big_ok hb.2).1, (big_ok hb.2).2⟩, k _ H2 [] hl2 ?_ yld_rng⟩
        have r3 := r2.drops
        rw [List.append_assoc] at r3
        exact r3.drops
      · cases e
    | _ => cases e
  | _ => cases e
/-- reversed(range(n)) -/
def revD (lo : Int) (n : Nat) : List D := (rngD lo n).reverse
def i_rev1 (m : ME) : MI := fun ρ => (m ρ).bind fun a => match a.1 with
  | .v (.int j) => if big j = true then some (revD 0 j.toNat, a.2) else none
  | _ => none
theorem revD_get {lo : Int} {n i : Nat} {d : D} (h : (revD lo n)[i]? = some d) : i < n ∧ d = .int (lo + (n : Int) - 1 - (i : Int)) := by
  unfold revD at h
  have hi : i < n := by
    have := (List.getElem?_eq_some_iff.mp h).1
    rw [List.length_reverse, rngD_length] at this
    exact this
  rw [List.getElem?_reverse (by rw [rngD_length]; exact hi), rngD_length] at h
  obtain ⟨_, rfl⟩ := rngD_get h
  refine ⟨hi, ?_⟩
  congr 1
  omega
theorem rfi_rev1 {t : TE} {m : ME} (h : Rf K t m) : Rfi K (iRevR (tRg1 t)) (i_rev1 m) := by
  intro c τ ρ σ H R ds ρ' hl r e k
  unfold i_rev1 at e
  obtain ⟨⟨o, ρ1⟩, e1, e⟩ := Option.bind_eq_some_iff.mp e
  cases o with
  | v d =>
    cases d with
    | int j =>
      simp only at e
      split at e
      · rename_i hb
        cases e
        refine h c τ ρ σ H _ _ ρ' hl r e1 fun x H1 hl1 r1 => ?_
        obtain ⟨F, y, rr, ey, q⟩ := r1.val List.mem_cons_self
        cases ey
        have q' : x = .int j := q
        subst q'
        refine ⟨j, rfl, by decide, by decide, (big_ok hb).1, (big_ok hb).2, k _ H1 [] hl1 r1.drop fun i cs H2 r2 => ⟨fun d hd => ?_, fun hi => ?_⟩⟩
        · obtain ⟨h1, rfl⟩ := revD_get hd
          refine ⟨by show i < (j - 0).toNat; rw [Int.sub_zero]; exact h1, fun x H' y => ?_⟩
          obtain ⟨rfl, rfl⟩ := y
          obtain ⟨F2, rr2⟩ := r2
          refine RelAt.add rr2 (show V.int _ = V.int _ from ?_)
          rw [Int.sub_zero]
          congr 1
          omega
        · show (j - 0).toNat ≤ i
          rw [Int.sub_zero, hi]
          unfold revD
          rw [List.length_reverse, rngD_length]
          exact Nat.le_refl _
      · cases e
    | _ => cases e
  | n => cases e
  | g kd os => cases e
  | dd ks ds => cases e
  | l ds => cases e
end
section
variable {C : Cd} {N : List Str} {sc : Sk} {pos : Pos} {tg : Expr}
theorem ri_seq {e : Expr} {m : ME} (h : RE C N sc e m) : RI C N sc tg e (i_seq m) := by
  obtain ⟨t, a1, a2⟩ := h
  refine ⟨_, fun X g => ?_, rfi_seq a2⟩
  rw [← g.K]
  exact PI.or (pi_list (a1 X g)) (PI.or (pi_tup (a1 X g)) (pi_str (a1 X g)))
theorem ri_rng1 {a : Expr} {p : Pos} {m : MP} (hm : C.mg "range" = none) (h : RP C N sc a m) (hg : gloB sc "range" = true := by decide +kernel) (hs : ∀ env : Env, starEach [a] env = [(false, eval a env)] := by intro _; rfl) : RI C N sc tg (.Call (.Name "range" p) [a] [] pos) (i_rng1 m) :=
  let ⟨t, a1, a2⟩ := h
  ⟨_, fun X g => pi_range1 (g.gl hg) (by rw [g.mg]; exact hm) (pa_cons (a1 X g) pa_nil (hs _)) (hs _), rfi_rng1 a2⟩
theorem ri_rng2 {a b : Expr} {p : Pos} {ma mb : MP} (hm : C.mg "range" = none) (h : RP C N sc a ma) (h2 : RP C N sc b mb) (hg : gloB sc "range" = true := by decide +kernel) (hs : ∀ env : Env, starEach [a, b] env = [(false, eval a env), (false, eval b env)] := by intro _; rfl)
    (hs2 : ∀ env : Env, starEach [b] env = [(false, eval b env)] := by intro _; rfl) : RI C N sc tg (.Call (.Name "range" p) [a, b] [] pos) (i_rng2 ma mb) :=
  let ⟨t, a1, a2⟩ := h; let ⟨u, b1, b2⟩ := h2
  ⟨_, fun X g => pi_range2 (g.gl hg) (by rw [g.mg]; exact hm) (pa_cons (a1 X g) (pa_cons (b1 X g) pa_nil (hs2 _)) (by rw [hs, hs2])) (hs _) (hs2 _), rfi_rng2 a2 b2⟩
theorem ri_rev1 {a : Expr} {p p2 pos2 : Pos} {m : ME} (hm : C.mg "range" = none) (hm2 : C.mg "reversed" = none) (h : RE C N sc a m) (hg : gloB sc "range" = true := by decide +kernel) (hg2 : gloB sc "reversed" = true := by decide +kernel) (hs : ∀ env : Env, starEach [a] env = (false, eval a env) :: starEach [] env := by intro _; rfl)
    (hs2 : ∀ env : Env, starEach [.Call (.Name "range" p) [a] [] pos] env = (false, eval (.Call (.Name "range" p) [a] [] pos) env) :: starEach [] env := by intro _; rfl) : RI C N sc tg (.Call (.Name "reversed" p2) [.Call (.Name "range" p) [a] [] pos] [] pos2) (i_rev1 m) :=
  let ⟨t, a1, a2⟩ := h
  ⟨_, fun X g => pi_revR (g.gl hg2) (by rw [g.mg]; exact hm2) (prg_1 (g.gl hg) (by rw [g.mg]; exact hm) (a1 X g) (hs _)) (hs2 _), rfi_rev1 a2⟩
end

/-! ### for -/
def floop (g : MG) (mb : MS) : List D → List O → Option Out
  | [], ρ => some (.nx ρ)
  | d :: ds, ρ => (g d ρ).bind fun ρ1 => (mb ρ1).bind fun o => match o with
    | .nx ρ2 => floop g mb ds ρ2
    | .ct ρ2 => floop g mb ds ρ2
    | .bk ρ2 => some (.nx ρ2)
    | .rt r ρ2 => some (.rt r ρ2)
def s_for (mi : MI) (g : MG) (mb : MS) : MS := fun ρ => (mi ρ).bind fun a => floop g mb a.1 a.2
section
variable {K : PySem.W.Frag} {n : Nat} {lk : List Nat}
theorem OutOk.back {c : Cc} {τ : Cells} {σ σ' : L2.St} {D : Ends} {out : Out} (k : OutOk K c τ lk σ D out) (hs : σ'.length = σ.length) (hk : lkp lk σ σ') : OutOk K c τ lk σ' D out := by
  cases out with
  | nx ρ2 => exact fun σ2 H2 a1 a2 a3 a4 => k σ2 H2 a1 (a2.trans hs) (hk.trans a3) a4
  | rt o ρ2 => exact fun x σ2 H2 a1 a2 a3 a4 => k x σ2 H2 a1 (a2.trans hs) (hk.trans a3) a4
  | bk ρ2 => exact fun σ2 H2 a1 a2 a3 a4 => k σ2 H2 a1 (a2.trans hs) (hk.trans a3) a4
  | ct ρ2 => exact fun σ2 H2 a1 a2 a3 a4 => k σ2 H2 a1 (a2.trans hs) (hk.trans a3) a4
theorem rfs_for {wi : TI} {g : TG} {tb : TS} {mi : MI} {mg : MG} {mb : MS} (hi : Rfi K wi mi) (hg : Rfg K n lk g mg) (hb : Rfs K n lk tb mb) : Rfs K n lk (tFor wi g tb) (s_for mi mg mb) := by
  intro c τ ρ σ H D out hl hn r e k
  unfold s_for at e
  obtain ⟨⟨ds, ρ1⟩, e1, e⟩ := Option.bind_eq_some_iff.mp e
  have e : floop mg mb ds ρ1 = some out := e
  refine hi c τ ρ σ H _ ds ρ1 hl r e1 fun J H1 κ hl1 r1 y => ?_
  refine ⟨fun i m σ' H' => m = ds.length - i ∧ i ≤ ds.length ∧ σ'.length = σ.length ∧ lkp lk σ σ' ∧ ∃ ρ', ρ'.length = σ'.length ∧ Rel K c (κ ++ (τ ++ ρ'.zip σ')) H' ∧ floop mg mb (ds.drop i) ρ' = some out, ⟨_, rfl, Nat.zero_le _, rfl, .refl, ρ1, hl1, r1, by simpa using e⟩, ?_⟩
  rintro i m σ' H' ⟨rfl, hi', hs', hk', ρ', hl', r', e'⟩
  obtain ⟨yg, ys⟩ := y i _ H' r'
  by_cases hlt : i < ds.length
  · have hd : ds[i]? = some ds[i] := List.getElem?_eq_getElem hlt
    obtain ⟨go, yy⟩ := yg _ hd
    rw [List.drop_eq_getElem_cons hlt] at e'
    unfold floop at e'
    obtain ⟨ρ2, e2, e'⟩ := Option.bind_eq_some_iff.mp e'
    obtain ⟨o2, e3, e'⟩ := Option.bind_eq_some_iff.mp e'
    refine .inr ⟨go, fun σ2 H2 => σ2.length = σ.length ∧ lkp lk σ σ2 ∧ ∃ ρ3, ρ3.length = σ2.length ∧ Rel K c (κ ++ (τ ++ ρ3.zip σ2)) H2 ∧ floop mg mb (ds.drop (i + 1)) ρ3 = some out, fun σ2 H2 ⟨a1, a2, ρ3, a3, a4, a5⟩ => ⟨ds.length - (i + 1), by omega, rfl, hlt, a1, a2, ρ3, a3, a4, a5⟩, fun x H2 hy => ?_⟩
    have r2 := yy x H2 hy
    refine hg c (κ ++ τ) ρ' σ' H2 _ x ρ2 _ hl' (hs'.trans hn) (by rw [List.append_assoc]; exact r2) e2 fun σ3 H3 hl3 hs3 hk3 r3 => ?_
    refine hb c (κ ++ τ) ρ2 σ3 H3 _ o2 hl3 (hs3.trans (hs'.trans hn)) r3 e3 ?_
    have s3 : σ3.length = σ.length := hs3.trans hs'
    have k3 : lkp lk σ σ3 := hk'.trans hk3
    cases o2 with
    | nx ρ3 => exact fun σ4 H4 a1 a2 a3 a4 => ⟨a2.trans s3, k3.trans a3, ρ3, a1, by rw [List.append_assoc] at a4; exact a4, e'⟩
    | ct ρ3 => exact fun σ4 H4 a1 a2 a3 a4 => ⟨a2.trans s3, k3.trans a3, ρ3, a1, by rw [List.append_assoc] at a4; exact a4, e'⟩
    | bk ρ3 =>
      cases e'
      exact fun σ4 H4 a1 a2 a3 a4 => k σ4 H4 a1 (a2.trans s3) (k3.trans a3) (by rw [List.append_assoc] at a4; exact a4.drops)
    | rt o ρ3 =>
      cases e'
      exact fun x σ4 H4 a1 a2 a3 a4 => k x σ4 H4 a1 (a2.trans s3) (k3.trans a3) (by rw [List.append_assoc] at a4; exact a4.mid1)
  · have ei : i = ds.length := by omega
    subst ei
    rw [List.drop_length] at e'
    cases e'
    exact .inl ⟨ys rfl, k σ' H' hl' hs' hk' r'.drops⟩
end
section
variable {C : Cd} {N : List Str} {sc : Sk} {lk vs : List Nat} {pos : Pos}
theorem rs_for {tg e : Expr} {body : List Stmt} {mi : MI} {mg : MG} {mb : MS} (hi : RI C N sc tg e mi) (hg : RG C N sc vs tg mg) (hb : RSs C N sc lk body mb) (hv : ∀ i ∈ lk, i ∉ vs := by decide) (hs : ∀ (env : Env) (x : Value), foldedSetIterable e env x = pure x := by intro _ _; rfl) : RS C N sc lk (.For tg e body [] pos) (s_for mi mg mb) :=
  let ⟨t, a1, a2⟩ := hi; let ⟨u, b1, b2⟩ := hg; let ⟨v, c1, c2⟩ := hb
  ⟨_, fun X g z => ps_for (by rw [z]; exact PassesOwn.never) g.calm (a1 X g) (b1 X g) (c1 X g z) (hs _), rfs_for a2 (b2 lk hv) c2⟩
end

/-! ### comprehensions -/
def wipeO : List Nat → List O → List O
  | [], ρ => ρ
  | v :: vs, ρ => (wipeO vs ρ).set v .n
theorem wipeO_length : ∀ (vs : List Nat) (ρ : List O), (wipeO vs ρ).length = ρ.length
  | [], _ => rfl
  | v :: vs, ρ => by unfold wipeO; rw [List.length_set, wipeO_length vs ρ]
theorem wipe_pair {σ σ' : L2.St} {ρ : List O} : ∀ {vs : List Nat}, ρ.length = σ.length → (∀ i, i ∉ vs → σ'[i]? = σ[i]?) → ∀ (i : Nat) (o : O), (wipeO vs ρ)[i]? = some o → o = .n ∨ (ρ[i]? = some o ∧ σ'[i]? = σ[i]?)
  | [], hl, hk, i, o, e => .inr ⟨e, hk i (by simp)⟩
  | v :: vs, hl, hk, i, o, e => by
    unfold wipeO at e
    by_cases hi : v = i
    · subst hi
      by_cases hv : v < (wipeO vs ρ).length
      · rw [List.getElem?_set_self hv] at e
        exact .inl (Option.some.inj e).symm
      · rw [List.getElem?_eq_none (by simpa using hv)] at e; cases e
    · rw [List.getElem?_set_ne hi] at e
      by_cases hm : i ∈ vs
      · have q := wipe_pair (vs := vs) (σ' := wipe σ vs) (σ := σ) (ρ := ρ) hl (fun j hj => wipe_out hj) i o e
        rcases q with q | ⟨q1, q2⟩
        · exact .inl q
        · -- in vs: the cell is n
          refine .inl ?_
          have : ∀ {ws : List Nat}, i ∈ ws → ∀ {o : O}, (wipeO ws ρ)[i]? = some o → o = .n := by
            intro ws
            induction ws with
            | nil => intro h; cases h
            | cons w ws ih =>
              intro h o e
              unfold wipeO at e
              by_cases hw : w = i
              · subst hw
                by_cases hv : w < (wipeO ws ρ).length
                · rw [List.getElem?_set_self hv] at e
                  exact (Option.some.inj e).symm
                · rw [List.getElem?_eq_none (by simpa using hv)] at e; cases e
              · rw [List.getElem?_set_ne hw] at e
                rcases List.mem_cons.mp h with z | z
                · exact absurd z.symm hw
                · exact ih z e
          exact this hm e
      · have hn : i ∉ v :: vs := fun z => by
          rcases List.mem_cons.mp z with z | z
          · exact hi z.symm
          · exact hm z
        have : ∀ {ws : List Nat}, i ∉ ws → (wipeO ws ρ)[i]? = ρ[i]? := by
          intro ws
          induction ws with
          | nil => intro _; rfl
          | cons w ws ih =>
            intro h
            unfold wipeO
            rw [List.getElem?_set_ne (fun z => h (by simp [z])), ih (fun z => h (List.mem_cons_of_mem _ z))]
        rw [this hm] at e
        exact .inr ⟨e, hk i hn⟩
/-- one turn's list, from the left -/
def lcl (vs : List Nat) (g : MG) (mt : MT) (me : ME) : List D → List D → List O → Option (List D × List O)
  | [], acc, ρ => some (acc, wipeO vs ρ)
  | d :: ds, acc, ρ => (g d (wipeO vs ρ)).bind fun ρ1 => (mt ρ1).bind fun b => if b.1 = true then (me b.2).bind fun a => (toD a.1).bind fun y => lcl vs g mt me ds (acc ++ [y]) a.2 else lcl vs g mt me ds acc b.2
def m_lc (vs : List Nat) (mi : MI) (g : MG) (mt : MT) (me : ME) : ME := fun ρ => (mi ρ).bind fun a => if a.1.length ≤ 1000000 then (lcl vs g mt me a.1 [] a.2).map fun r => (.l r.1, r.2) else none
def m_yes : MT := fun ρ => some (true, ρ)
section
variable {K : PySem.W.Frag} {n : Nat}
theorem rft_yes : Rft K tYes m_yes := by
  intro c τ ρ σ H Q b ρ' hl r e k
  cases e
  exact k H hl r
theorem wipe_eq_out {σ2 σ : L2.St} {vs : List Nat} (h : wipe σ2 vs = wipe σ vs) : ∀ i, i ∉ vs → σ2[i]? = σ[i]? := fun i hi => by rw [← wipe_out (σ := σ2) hi, h, wipe_out hi]
theorem rf_lc {vs : List Nat} {wi : TI} {g : TG} {tt : TT} {te : TE} {mi : MI} {mg : MG} {mt : MT} {me : ME} (hi : Rfi K wi mi) (hg : ∀ lk : List Nat, (∀ i ∈ lk, i ∉ vs) → Rfg K n lk g mg) (ht : Rft K tt mt) (he : Rf K te me) :
    ∀ (c : Cc) (τ : Cells) (ρ : List O) (σ : L2.St) (H : Hp) (Q : VK) (o : O) (ρ' : List O), σ.length = n → ρ.length = σ.length → Rel K c (τ ++ ρ.zip σ) H → m_lc vs mi mg mt me ρ = some (o, ρ') →
      (∀ x H', ρ'.length = σ.length → Rel K c ((o, some x) :: (τ ++ ρ'.zip σ)) H' → Q x H') → tLc wi g tt te vs σ H Q := by
  intro c τ ρ σ H Q o ρ' hn hl r e k
  unfold m_lc at e
  obtain ⟨⟨ds, ρ1⟩, e1, e⟩ := Option.bind_eq_some_iff.mp e
  simp only at e
  split at e
  · rename_i hz
    obtain ⟨⟨acc', ρ2⟩, e2, e⟩ := Option.map_eq_some_iff.mp e
    cases e
    refine hi c τ ρ σ H _ ds ρ1 hl r e1 fun J H1 κ hl1 r1 y => fun L hD => ?_
    have start : Rel K c ((.l [], some (.ref L)) :: (κ ++ (τ ++ (wipeO vs ρ1).zip (wipe σ vs)))) (upd H1 L (.lst [])) := by
      have r2 : Rel K c ((κ ++ τ) ++ (wipeO vs ρ1).zip (wipe σ vs)) H1 := by
        rw [← List.append_assoc] at r1
        exact r1.slots (wipeO_length _ _) (wipe_length _ _) (wipe_pair hl1 fun i h => wipe_out h)
      rw [List.append_assoc] at r2
      obtain ⟨F, rr⟩ := r2
      exact rr.newL hD rfl
    refine ⟨fun i m H' => m = ds.length - i ∧ i ≤ ds.length ∧ ∃ acc ρ3, acc.length ≤ i ∧ ρ3.length = σ.length ∧ Rel K c ((.l acc, some (.ref L)) :: (κ ++ (τ ++ (wipeO vs ρ3).zip (wipe σ vs)))) H' ∧ lcl vs mg mt me (ds.drop i) acc ρ3 = some (acc', ρ2), ⟨_, rfl, Nat.zero_le _, [], ρ1, Nat.le_refl _, hl1, start, by simpa using e2⟩, ?_⟩
    rintro i m H' ⟨rfl, hi', acc, ρ3, ha, hl3, r3, e3⟩
    have r3' : Rel K c (κ ++ ((.l acc, some (.ref L)) :: (τ ++ (wipeO vs ρ3).zip (wipe σ vs)))) H' := r3.perm List.perm_middle.symm
    obtain ⟨yg, ys⟩ := y i _ H' r3'
    by_cases hlt : i < ds.length
    · have hd : ds[i]? = some ds[i] := List.getElem?_eq_getElem hlt
      obtain ⟨go, yy⟩ := yg _ hd
      rw [List.drop_eq_getElem_cons hlt] at e3
      unfold lcl at e3
      obtain ⟨ρ4, e4, e3⟩ := Option.bind_eq_some_iff.mp e3
      obtain ⟨⟨b, ρ5⟩, e5, e3⟩ := Option.bind_eq_some_iff.mp e3
      simp only at e3
      refine .inr ⟨go, fun H2 => ∃ acc ρ6, acc.length ≤ i + 1 ∧ ρ6.length = σ.length ∧ Rel K c ((.l acc, some (.ref L)) :: (κ ++ (τ ++ (wipeO vs ρ6).zip (wipe σ vs)))) H2 ∧ lcl vs mg mt me (ds.drop (i + 1)) acc ρ6 = some (acc', ρ2), fun H2 ⟨ac, ρ6, a1, a2, a3, a4⟩ => ⟨ds.length - (i + 1), by omega, rfl, hlt, ac, ρ6, a1, a2, a3, a4⟩, fun x H2 hy => ?_⟩
      have r4 := yy x H2 hy
      have lw : (wipe σ vs).length = σ.length := wipe_length _ _
      let lk0 : List Nat := (List.range n).filter fun j => decide (j ∉ vs)
      have hlk : ∀ j ∈ lk0, j ∉ vs := fun j hj => of_decide_eq_true (List.mem_filter.mp hj).2
      refine hg lk0 hlk c (κ ++ ((.l acc, some (.ref L)) :: τ)) (wipeO vs ρ3) (wipe σ vs) H2 _ x ρ4 _ (by rw [wipeO_length, wipe_length]; exact hl3) (lw.trans hn) (by rw [List.append_assoc]; exact r4) e4 fun σ2 H3 hl4 hs4 hk4 r5 => ?_
      have out2 : ∀ j, j ∉ vs → σ2[j]? = σ[j]? := fun j hj => by
        by_cases hjn : j < n
        · rw [hk4 j (List.mem_filter.mpr ⟨List.mem_range.mpr hjn, decide_eq_true hj⟩), wipe_out hj]
        · rw [List.getElem?_eq_none (by rw [hs4, lw, hn]; omega), List.getElem?_eq_none (by rw [hn]; omega)]
      refine ⟨?_, ?_⟩
      · refine List.ext_getElem? fun j => ?_
        have gen : ∀ {ws : List Nat} {a b : L2.St}, a.length = b.length → (∀ j : Nat, j ∉ ws → a[j]? = b[j]?) → ∀ j : Nat, (wipe a ws)[j]? = (wipe b ws)[j]? := by
          intro ws
          induction ws with
          | nil => intro a b _ h j; exact h j (by simp)
          | cons w ws ih =>
            intro a b hab h j
            unfold wipe
            by_cases hj : w = j
            · subst hj
              by_cases hv : w < a.length
              · rw [List.getElem?_set_self (by rw [wipe_length]; exact hv), List.getElem?_set_self (by rw [wipe_length, ← hab]; exact hv)]
              · rw [List.getElem?_eq_none (by rw [List.length_set, wipe_length]; omega), List.getElem?_eq_none (by rw [List.length_set, wipe_length, ← hab]; omega)]
            · rw [List.getElem?_set_ne hj, List.getElem?_set_ne hj]
              by_cases hm : j ∈ ws
              · -- both were set to none within
                have wn : ∀ {us : List Nat} {a : L2.St}, j ∈ us → (wipe a us)[j]? = if j < a.length then some none else none := by
                  intro us
                  induction us with
                  | nil => intro a h; cases h
                  | cons u us ih2 =>
                    intro a h
                    unfold wipe
                    by_cases hu : u = j
                    · subst hu
                      by_cases hv : u < a.length
                      · rw [List.getElem?_set_self (by rw [wipe_length]; exact hv), if_pos hv]
                      · rw [List.getElem?_eq_none (by rw [List.length_set, wipe_length]; omega), if_neg hv]
                    · rw [List.getElem?_set_ne hu]
                      rcases List.mem_cons.mp h with z | z
                      · exact absurd z.symm hu
                      · exact ih2 z
                rw [wn hm, wn hm, hab]
              · rw [wipe_out hm, wipe_out hm]
                exact h j (fun z => by
                  rcases List.mem_cons.mp z with z | z
                  · exact hj z.symm
                  · exact hm z)
        exact gen (hs4.trans lw) out2 j
      · refine ht c _ ρ4 σ2 H3 _ b ρ5 hl4 r5 e5 fun H4 hl5 r6 => ?_
        have back : ∀ (ρ7 : List O) (ac : List D) (H5 : Hp), ρ7.length = σ2.length → Rel K c ((.l ac, some (.ref L)) :: ((κ ++ τ) ++ ρ7.zip σ2)) H5 → Rel K c ((.l ac, some (.ref L)) :: (κ ++ (τ ++ (wipeO vs ρ7).zip (wipe σ vs)))) H5 := fun ρ7 ac H5 h7 r7 => by
          have r8 : Rel K c ((((.l ac, some (.ref L)) :: (κ ++ τ))) ++ ρ7.zip σ2) H5 := r7
          have r9 := r8.slots (ρ' := wipeO vs ρ7) (σ' := wipe σ vs) (wipeO_length _ _) (lw.trans (hs4.trans lw).symm) (wipe_pair h7 fun j hj => by rw [wipe_out hj, out2 j hj])
          have r10 : Rel K c ((.l ac, some (.ref L)) :: ((κ ++ τ) ++ (wipeO vs ρ7).zip (wipe σ vs))) H5 := r9
          rw [List.append_assoc] at r10
          exact r10
        cases b with
        | true =>
          rw [if_pos rfl]
          obtain ⟨⟨oy, ρ6⟩, e6, e3⟩ := Option.bind_eq_some_iff.mp (by simpa using e3 : ((me ρ5).bind fun a => (toD a.1).bind fun y => lcl vs mg mt me (ds.drop (i + 1)) (acc ++ [y]) a.2) = some (acc', ρ2))
          obtain ⟨y', e7, e3⟩ := Option.bind_eq_some_iff.mp e3
          refine he c _ ρ5 σ2 H4 _ oy ρ6 hl5 r6 e6 fun z H5 hl6 r7 => ?_
          have r8 := r7.toD e7
          have r9 : Rel K c ((.l acc, some (.ref L)) :: (.v y', some z) :: ((κ ++ τ) ++ ρ6.zip σ2)) H5 := by
            refine r8.perm ((List.Perm.cons _ ?_).trans (.swap _ _ _))
            rw [List.append_assoc, List.append_assoc]
            exact List.perm_middle
          obtain ⟨a', xs, ea, hD5, hlen⟩ := r9.ref
          have ea' : L = a' := by cases ea; rfl
          subst ea'
          obtain ⟨F, rr⟩ := id r9
          obtain ⟨F1, F2, ⟨a2, xs2, q1, q2, q3, q4⟩, ⟨G1, G2, ⟨_, z', ez, qz⟩, _, _⟩, _⟩ := rr.rc
          cases q1
          cases ez
          rw [hD5] at q2
          cases q2
          refine ⟨xs, hD5, ?_, acc ++ [y'], ρ6, by rw [List.length_append]; simp; exact ha, hl6.trans (hs4.trans lw), back _ _ _ hl6 ?_, e3⟩
          · have : acc.length = xs.length := q3.length
            have h2 : xs.length ≤ 1000000 := by omega
            exact Nat.lt_of_le_of_lt h2 (by decide)
          · have m1 := rr.mut (ds' := acc ++ [y']) (xs' := xs ++ [z]) (q3.append (.one qz))
            exact (m1.perm (.swap _ _ _)).drop
        | false =>
          rw [if_neg Bool.false_ne_true]
          refine ⟨acc, ρ5, by omega, hl5.trans (hs4.trans lw), back _ _ _ hl5 ?_, by simpa using e3⟩
          refine r6.perm ?_
          rw [List.append_assoc]
          exact List.perm_middle.trans (by rw [List.append_assoc]; exact List.Perm.refl _)
    · have ei : i = ds.length := by omega
      subst ei
      rw [List.drop_length] at e3
      cases e3
      refine .inl ⟨ys rfl, k _ H' (by rw [wipeO_length]; exact hl3) ?_⟩
      have r4 : Rel K c (((.l acc', some (.ref L)) :: (κ ++ τ)) ++ (wipeO vs ρ3).zip (wipe σ vs)) H' := by rw [List.cons_append, List.append_assoc]; exact r3
      have r5 := r4.slots (ρ' := wipeO vs ρ3) (σ' := σ) rfl (wipe_length _ _).symm fun j o ho => by
        have q := wipe_pair (vs := vs) (σ := wipe σ vs) (σ' := σ) (ρ := ρ3) (by rw [wipe_length]; exact hl3) (fun j hj => (wipe_out hj).symm) j o ho
        rcases q with q | ⟨q1, q2⟩
        · exact .inl q
        · exact .inr ⟨ho, q2⟩
      have r6 : Rel K c ((.l acc', some (.ref L)) :: ((κ ++ τ) ++ (wipeO vs ρ3).zip σ)) H' := r5
      rw [List.append_assoc] at r6
      exact r6.mid1
  · cases e
end
end Mr

end
section
set_option Elab.async false
set_option linter.all false
set_option maxRecDepth 100000
set_option maxHeartbeats 4000000
/-! MrE: comprehensions as rules, methods, slices, item stores, defs. -/
namespace Mr
open PySem PySem.Spec PyProof.Rows L2

/-! ### comprehensions -/
def tLcn (n : Nat) (wi : TI) (g : TG) (tt : TT) (te : TE) (vs : List Nat) : TE := fun σ H Q => σ.length = n → tLc wi g tt te vs σ H Q
def blkS (sc : Sk) (scope : Scope) : Sk := ⟨relS scope sc.sc, scope⟩
theorem Gd.blk {C : Cd} {N : List Str} {sc : Sk} {X : Cx} (g : Gd C N sc X) (s : Shared) (H : Hp) (scope : Scope) (Ca : Addr) (cl : List (Str × Addr)) (fp : List Addr) (hk : sc.sc.kind = .function) : Gd C N (blkS sc scope) (X.blk s H scope (compEnvC scope cl Ca X.env) fp) where
  prog := g.prog
  w := g.w
  K := g.K
  mg := g.mg
  base := g.base
  N := g.N
  calm := g.calm
  room := g.room
  scp := by
    have e := g.scp
    show relabel scope X.env = relS scope sc.sc
    unfold relabel relS
    unfold Env.kindOf
    rw [e]
  fn := fun x h => by
    show (scope.names.lookup x == some NameKind.cell) = true
    rw [show scope.names.lookup x = some .cell from h]
    rfl
def RTs (C : Cd) (N : List Str) (sc : Sk) (ifs : List Expr) (m : MT) : Prop := ∃ t, (∀ X, Gd C N sc X → PTs X ifs t) ∧ Rft C.K t m
section
variable {C : Cd} {N : List Str} {sc : Sk} {lk : List Nat} {pos : Pos}
theorem rts_nil : RTs C N sc [] m_yes := ⟨_, fun X g => pts_nil, rft_yes⟩
theorem rts_one {e : Expr} {m : MT} (h : RT C N sc e m) : RTs C N sc [e] m := let ⟨t, a1, a2⟩ := h; ⟨_, fun X g => pts_one (a1 X g), a2⟩
def kindB (sc : Sk) : Bool := match sc.sc.kind with
  | .function => true
  | _ => false
theorem kindB_ok {sc : Sk} (h : kindB sc = true) : sc.sc.kind = .function := by
  unfold kindB at h
  split at h
  · assumption
  · cases h
theorem re_lc {elt tg iter : Expr} {ifs : List Expr} {scope : Scope} (own : List (Str × Nat)) {mi : MI} {mg : MG} {mt : MT} {me : ME} (hi : RI C N sc tg iter mi) (hg : RG C N (blkS sc scope) (own.map (·.2)) tg mg) (ht : RTs C N (blkS sc scope) ifs mt) (he : RE C N (blkS sc scope) elt me)
    (ok : blkC N sc.sc scope own = true := by decide +kernel) (hk : kindB sc = true := by decide +kernel) (nd : N.Nodup := by decide +kernel) (hs : ∀ (env : Env) (x : Value), foldedSetIterable iter env x = pure x := by intro _ _; rfl) :
    RE C N sc (.ListComp elt [⟨tg, iter, ifs, 0⟩] scope pos) (m_lc (own.map (·.2)) mi mg mt me) := by
  obtain ⟨t, a1, a2⟩ := hi
  obtain ⟨u, b1, b2⟩ := hg
  obtain ⟨v, c1, c2⟩ := ht
  obtain ⟨w, d1, d2⟩ := he
  refine ⟨tLcn N.length t u v w (own.map (·.2)), fun X g => ?_, fun c τ ρ σ H Q o ρ' hl r e k hn => rf_lc a2 b2 c2 d2 c τ ρ σ H Q o ρ' hn hl r e k⟩
  have p : PE X (.ListComp elt [⟨tg, iter, ifs, 0⟩] scope pos) (tLc t u v w (own.map (·.2))) :=
    pe_lc g.calm (by rw [g.N]; exact nd) (a1 X g) (by rw [g.N, g.scp]; exact blkOk_by ok) (fun s H Ca cl fp => b1 _ (g.blk s H scope Ca cl fp (kindB_ok hk))) (fun s H Ca cl fp => c1 _ (g.blk s H scope Ca cl fp (kindB_ok hk))) (fun s H Ca cl fp => d1 _ (g.blk s H scope Ca cl fp (kindB_ok hk))) (hs _)
  exact ⟨fun pins s σ H Q I h => p.run pins s σ H Q I (h (by rw [I.len, g.N]))⟩
theorem rfs_setN {K : PySem.W.Frag} {n : Nat} {t : TE} {m : ME} {i : Nat} (h : ∀ (c : Cc) (τ : Cells) (ρ : List O) (σ : L2.St) (H : Hp) (Q : VK) (o : O) (ρ' : List O), σ.length = n → ρ.length = σ.length → Rel K c (τ ++ ρ.zip σ) H → m ρ = some (o, ρ') →
      (∀ x H', ρ'.length = σ.length → Rel K c ((o, some x) :: (τ ++ ρ'.zip σ)) H' → Q x H') → t σ H Q) (hi : i < n) (hk : i ∉ lk) : Rfs K n lk (tAsg t (gName i)) (s_set i m) := by
  intro c τ ρ σ H D out hl hn r e k
  unfold s_set at e
  obtain ⟨⟨o, ρ1⟩, e1, e⟩ := Option.map_eq_some_iff.mp e
  cases e
  refine h c τ ρ σ H _ o ρ1 hn hl r e1 fun x H' hl' r' => ?_
  exact k _ H' (by rw [List.length_set, List.length_set]; exact hl') (by rw [List.length_set]) (.set hk) (r'.store hl' (by rw [hn]; exact hi))
def locL (sc : Sk) (y : Str) : Bool := match sc.sc.names.lookup y with
  | some .local => true
  | _ => false
def ownB (scope : Scope) (y : Str) : Bool := !(scope.names.any fun (n, k) => n == y && (k == .local || k == .cell))
/-- y = [..] on one line, y a local -/
theorem rs_setLc (i : Nat) {y : Str} {py spos : Pos} {elt tg iter : Expr} {ifs : List Expr} {scope : Scope} (own : List (Str × Nat)) {mi : MI} {mg : MG} {mt : MT} {me : ME} (hi : RI C N sc tg iter mi) (hg : RG C N (blkS sc scope) (own.map (·.2)) tg mg) (ht : RTs C N (blkS sc scope) ifs mt) (he : RE C N (blkS sc scope) elt me)
    (hx : locB N sc i y = true := by decide +kernel) (hy : locL sc y = true := by decide +kernel) (hl : (py.line == spos.line) = true := by rfl) (hl2 : (py.line == pos.line) = true := by rfl) (ho : ownB scope y = true := by decide +kernel)
    (ok : blkC N sc.sc scope own = true := by decide +kernel) (hk : kindB sc = true := by decide +kernel) (nd : N.Nodup := by decide +kernel) (hj : i ∉ lk := by decide) (hs : ∀ (env : Env) (x : Value), foldedSetIterable iter env x = pure x := by intro _ _; rfl) :
    RS C N sc lk (.Assign [.Name y py] (.ListComp elt [⟨tg, iter, ifs, 0⟩] scope pos) spos) (s_set i (m_lc (own.map (·.2)) mi mg mt me)) := by
  obtain ⟨t, a1, a2⟩ := hi
  obtain ⟨u, b1, b2⟩ := hg
  obtain ⟨v, c1, c2⟩ := ht
  obtain ⟨w, d1, d2⟩ := he
  have hloc : sc.sc.names.lookup y = some .local := by
    unfold locL at hy
    split at hy
    · assumption
    · cases hy
  refine ⟨tAsg (tLc t u v w (own.map (·.2))) (gName i), fun X g _ => ?_, rfs_setN (fun c τ ρ σ H Q o ρ' hn hl r e k => rf_lc a2 b2 c2 d2 c τ ρ σ H Q o ρ' hn hl r e k) (by have := (locB_ok hx).1; exact (List.getElem?_eq_some_iff.mp this).1) hj⟩
  exact ps_setLc g.calm (by rw [g.N]; exact nd) (g.loc hx).1 (by rw [g.scp]; exact hloc) (by
      have e1 : spos.line = py.line := (beq_iff_eq.mp hl).symm
      rw [e1]
      refine sw_true (by rw [g.scp]; exact kindB_ok hk) (by rw [g.scp]; exact hloc) hl2 ?_
      unfold ownB at ho
      simpa using ho)
    (a1 X g) (by rw [g.N, g.scp]; exact blkOk_by ok) (fun s H Ca cl fp => b1 _ (g.blk s H scope Ca cl fp (kindB_ok hk))) (fun s H Ca cl fp => c1 _ (g.blk s H scope Ca cl fp (kindB_ok hk))) (fun s H Ca cl fp => d1 _ (g.blk s H scope Ca cl fp (kindB_ok hk))) (hs _)
end

/-! ### methods of an owned list -/
/-- x.append(e), x in slot i -/
def m_app (i : Nat) (m : ME) : ME := fun ρ => match ρ[i]? with
  | some (.l _) => (m ρ).bind fun a => (toD a.1).bind fun d => match a.2[i]? with
    | some (.l ds) => if ds.length < 1000000 then some (.v .non, a.2.set i (.l (ds ++ [d]))) else none
    | _ => none
  | _ => none
def m_pop (i : Nat) : ME := fun ρ => match ρ[i]? with
  | some (.l ds) => (ds[ds.length - 1]?).map fun d => (.v d, ρ.set i (.l ds.dropLast))
  | _ => none
def m_popAt (i : Nat) (m : ME) : ME := fun ρ => match ρ[i]? with
  | some (.l _) => (m ρ).bind fun a => match a.1 with
    | .v (.int j) => match a.2[i]? with
      | some (.l ds) => if big j = true then (seqIndex? j ds.length).bind fun k => (ds[k]?).map fun d => (.v d, a.2.set i (.l (ds.eraseIdx k))) else none
      | _ => none
    | _ => none
  | _ => none
section
variable {K : PySem.W.Frag}
theorem slot_ref {c : Cc} {τ : Cells} {ρ : List O} {σ : L2.St} {H : Hp} {i : Nat} {ds : List D} (hl : ρ.length = σ.length) (r : Rel K c (τ ++ ρ.zip σ) H) (h1 : ρ[i]? = some (.l ds)) : ∃ a xs, σ[i]? = some (some (.ref a)) ∧ H a = some (.lst xs) ∧ ds.length = xs.length := by
  obtain ⟨x, h2⟩ := slot_of hl h1
  obtain ⟨F, a, xs, rr, e, q1, q2⟩ := r.valL (List.mem_append_right _ (mem_zip h1 h2))
  subst e
  exact ⟨a, xs, h2, q1, q2.length⟩
theorem rf_app {i : Nat} {t : TE} {m : ME} (h : Rf K t m) : Rf K (tBM K "list" rAppend (tVar i) (tCons t tNil)) (m_app i m) := by
  intro c τ ρ σ H Q o ρ' hl r e k
  unfold m_app at e
  split at e
  · rename_i ds0 h0
    obtain ⟨⟨oa, ρ1⟩, e1, e⟩ := Option.bind_eq_some_iff.mp e
    obtain ⟨d, e2, e⟩ := Option.bind_eq_some_iff.mp e
    simp only at e
    split at e
    · rename_i ds h1
      split at e
      · rename_i hz
        cases e
        obtain ⟨a, xs0, s1, s2, _⟩ := slot_ref hl r h0
        refine ⟨.ref a, s1, .inl ⟨rfl, xs0, .inl (.inl s2)⟩, h c τ ρ σ H _ oa ρ1 hl r e1 fun x H1 hl1 r1 => ?_⟩
        have r2 := r1.toD e2
        have r3 : Rel K c (((.v d, some x) :: τ) ++ ρ1.zip σ) H1 := r2
        have r4 := r3.take h1 s1
        obtain ⟨a', xs, ea, q1, q2⟩ := r4.ref
        cases ea
        obtain ⟨F, rr⟩ := id r4
        obtain ⟨F1, F2, ⟨a2, xs2, p1, p2, p3, p4⟩, ⟨G1, G2, ⟨_, z, ez, qz⟩, _, _⟩, _⟩ := rr.rc
        cases p1
        cases ez
        rw [q1] at p2
        cases p2
        refine ⟨a, xs, x, rfl, rfl, q1, by rw [← q2]; exact Nat.lt_of_lt_of_le hz (by decide), ?_⟩
        have m1 := rr.mut (ds' := ds ++ [d]) (xs' := xs ++ [x]) (p3.append (.one qz))
        have m2 := m1.put (i := i) (τ := (.v d, some x) :: τ) (by rw [List.length_set]; exact hl1) s1
        rw [List.set_set] at m2
        obtain ⟨G, gg⟩ := m2.drop
        exact k .non _ (by rw [List.length_set]; exact hl1) (gg.add rfl)
      · cases e
    · cases e
  · cases e
theorem rf_pop {i : Nat} : Rf K (tBM0 K "list" rPop (tVar i)) (m_pop i) := by
  intro c τ ρ σ H Q o ρ' hl r e k
  unfold m_pop at e
  split at e
  · rename_i ds h0
    obtain ⟨d, e1, e⟩ := Option.map_eq_some_iff.mp e
    cases e
    obtain ⟨a, xs0, s1, s2, _⟩ := slot_ref hl r h0
    have r4 := r.take h0 s1
    obtain ⟨F, rr⟩ := id r4
    obtain ⟨F1, F2, ⟨a2, xs, p1, p2, p3, p4⟩, _⟩ := rr.rc
    cases p1
    rw [s2] at p2
    cases p2
    obtain ⟨y, hy, ry⟩ := p3.get e1
    rw [p3.length] at hy
    refine ⟨.ref a, s1, .inl ⟨rfl, xs0, .inl (.inl s2)⟩, a, xs0, y, rfl, rfl, s2, hy, ?_⟩
    have r5 : Rel K c ((.v d, some y) :: (.l ds, some (.ref a)) :: (τ ++ (ρ.set i .n).zip σ)) H := rr.add ry
    have r6 : Rel K c ((.l ds, some (.ref a)) :: (((.v d, some y) :: τ) ++ (ρ.set i .n).zip σ)) H := r5.perm (.swap _ _ _)
    obtain ⟨G, gg⟩ := id r6
    obtain ⟨F1, F2, ⟨a2, xs2, p5, p6, p7, p8⟩, _⟩ := gg.rc
    cases p5
    rw [s2] at p6
    cases p6
    have m1 := gg.mut (ds' := ds.dropLast) (xs' := xs0.dropLast) p7.dropLast
    have m2 := m1.put (i := i) (by rw [List.length_set]; exact hl) s1
    rw [List.set_set] at m2
    exact k y _ (by rw [List.length_set]; exact hl) m2
  · cases e
theorem rf_popAt {i : Nat} {t : TE} {m : ME} (h : Rf K t m) : Rf K (tBM K "list" rPopAt (tVar i) (tCons t tNil)) (m_popAt i m) := by
  intro c τ ρ σ H Q o ρ' hl r e k
  unfold m_popAt at e
  split at e
  · rename_i ds0 h0
    obtain ⟨⟨oa, ρ1⟩, e1, e⟩ := Option.bind_eq_some_iff.mp e
    simp only at e
    split at e
    · rename_i j
      split at e
      · rename_i ds h1
        split at e
        · rename_i hz
          obtain ⟨kk, e3, e⟩ := Option.bind_eq_some_iff.mp e
          obtain ⟨d, e4, e⟩ := Option.map_eq_some_iff.mp e
          cases e
          obtain ⟨a, xs0, s1, s2, _⟩ := slot_ref hl r h0
          refine ⟨.ref a, s1, .inl ⟨rfl, xs0, .inl (.inl s2)⟩, h c τ ρ σ H _ _ ρ1 hl r e1 fun x H1 hl1 r1 => ?_⟩
          obtain ⟨_, y0, _, ey, qy⟩ := r1.val List.mem_cons_self
          cases ey
          have qy' : x = .int j := qy
          subst qy'
          have r4 := r1.drop.take h1 s1
          obtain ⟨F, rr⟩ := id r4
          obtain ⟨F1, F2, ⟨a2, xs, p1, p2, p3, p4⟩, _⟩ := rr.rc
          cases p1
          obtain ⟨y, hy, ry⟩ := p3.get e4
          have b := big_ok hz
          refine ⟨a, xs, j, kk, y, rfl, rfl, p2, by omega, by omega, by rw [← p3.length]; exact e3, hy, ?_⟩
          have r5 : Rel K c ((.v d, some y) :: (.l ds, some (.ref a)) :: (τ ++ (ρ1.set i .n).zip σ)) H1 := rr.add ry
          have r6 : Rel K c ((.l ds, some (.ref a)) :: (((.v d, some y) :: τ) ++ (ρ1.set i .n).zip σ)) H1 := r5.perm (.swap _ _ _)
          obtain ⟨G, gg⟩ := id r6
          obtain ⟨F1, F2, ⟨a2, xs2, p5, p6, p7, p8⟩, _⟩ := gg.rc
          cases p5
          rw [p2] at p6
          cases p6
          have m1 := gg.mut (ds' := ds.eraseIdx kk) (xs' := xs.eraseIdx kk) (p7.eraseIdx kk)
          have m2 := m1.put (i := i) (by rw [List.length_set]; exact hl1) s1
          rw [List.set_set] at m2
          exact k y _ (by rw [List.length_set]; exact hl1) m2
        · cases e
      · cases e
    · cases e
  · cases e
end
section
variable {C : Cd} {N : List Str} {sc : Sk} {lk : List Nat} {pos apos p : Pos}
theorem re_app (i : Nat) {x : Str} {e : Expr} {m : ME} (h : RE C N sc e m) (hv : visB N sc i x = true := by decide +kernel) (hb : ∀ env : Env, attributeBase (.Name x p) "append" env (eval (.Name x p) env) = eval (.Name x p) env := by intro _; rfl)
    (hf : ∀ env : Env, ((backTo pos (starEach [e] env)).all (fun x => !x.1) && (backToKw pos (keywordEach [] env)).all (fun x => x.1.isSome) && decide ([e].length + ([] : List Keyword).length + (if ([] : List Keyword).isEmpty then 0 else 1) < 30)) = true := by intro _; rfl)
    (hline : (apos.endLine == pos.line) = true := by rfl) (hs : ∀ env : Env, starEach [e] env = (false, eval e env) :: starEach [] env := by intro _; rfl) : RE C N sc (.Call (.Attribute (.Name x p) "append" apos) [e] [] pos) (m_app i m) := by
  obtain ⟨t, a1, a2⟩ := h
  refine ⟨tBM C.K "list" rAppend (tVar i) (tCons t tNil), fun X g => ?_, rf_app a2⟩
  have q := pe_bm PySem.F.plainAttrs_list PySem.F.slot_list_append PySem.F.type_list_append (mt_append (X := X)) (pe_var (pos := p) (g.vis hv).1 (g.vis hv).2 (okName_d (visB_ok hv).2.2).1 (okName_d (visB_ok hv).2.2).2.1) (pa_cons (a1 X g) pa_nil (hs _)) (apos := apos) (cpos := pos) (hb _) (hf _) hline (hs _) rfl
  rw [g.K] at q
  exact q
theorem re_pop (i : Nat) {x : Str} (hv : visB N sc i x = true := by decide +kernel) (hb : ∀ env : Env, attributeBase (.Name x p) "pop" env (eval (.Name x p) env) = eval (.Name x p) env := by intro _; rfl) (hline : (apos.endLine == pos.line) = true := by rfl) : RE C N sc (.Call (.Attribute (.Name x p) "pop" apos) [] [] pos) (m_pop i) := by
  refine ⟨tBM0 C.K "list" rPop (tVar i), fun X g => ?_, rf_pop⟩
  have q := pe_bm0 PySem.F.plainAttrs_list PySem.F.slot_list_pop PySem.F.type_list_pop (mt_pop (X := X)) (pe_var (pos := p) (g.vis hv).1 (g.vis hv).2 (okName_d (visB_ok hv).2.2).1 (okName_d (visB_ok hv).2.2).2.1) (apos := apos) (cpos := pos) (hb _) hline
  rw [g.K] at q
  exact q
theorem re_popAt (i : Nat) {x : Str} {e : Expr} {m : ME} (h : RE C N sc e m) (hv : visB N sc i x = true := by decide +kernel) (hb : ∀ env : Env, attributeBase (.Name x p) "pop" env (eval (.Name x p) env) = eval (.Name x p) env := by intro _; rfl)
    (hf : ∀ env : Env, ((backTo pos (starEach [e] env)).all (fun x => !x.1) && (backToKw pos (keywordEach [] env)).all (fun x => x.1.isSome) && decide ([e].length + ([] : List Keyword).length + (if ([] : List Keyword).isEmpty then 0 else 1) < 30)) = true := by intro _; rfl)
    (hline : (apos.endLine == pos.line) = true := by rfl) (hs : ∀ env : Env, starEach [e] env = (false, eval e env) :: starEach [] env := by intro _; rfl) : RE C N sc (.Call (.Attribute (.Name x p) "pop" apos) [e] [] pos) (m_popAt i m) := by
  obtain ⟨t, a1, a2⟩ := h
  refine ⟨tBM C.K "list" rPopAt (tVar i) (tCons t tNil), fun X g => ?_, rf_popAt a2⟩
  have q := pe_bm PySem.F.plainAttrs_list PySem.F.slot_list_pop PySem.F.type_list_pop (mt_popAt (X := X)) (pe_var (pos := p) (g.vis hv).1 (g.vis hv).2 (okName_d (visB_ok hv).2.2).1 (okName_d (visB_ok hv).2.2).2.1) (pa_cons (a1 X g) pa_nil (hs _)) (apos := apos) (cpos := pos) (hb _) (hf _) hline (hs _) rfl
  rw [g.K] at q
  exact q
end

/-! ### x[i] = e, x an owned list in slot i; x op= e -/
def s_sti (i : Nat) (me : ME) (mi : MP) : MS := fun ρ => (me ρ).bind fun a => (toD a.1).bind fun d => match a.2[i]? with
  | some (.l _) => (mi a.2).bind fun b => match vw b.2 b.1, b.2[i]? with
    | some (.int k), some (.l ds) => (ixN ds.length k).map fun j => .nx (b.2.set i (.l (ds.set j d)))
    | _, _ => none
  | _ => none
def s_aug (i : Nat) (f : Int → Int → Int) (m : MP) : MS := fun ρ => match ρ[i]? with
  | some (.v (.int a)) => (m ρ).bind fun b => match vw b.2 b.1 with
    | some (.int k) => some (.nx (b.2.set i (.v (.int (f a k)))))
    | _ => none
  | _ => none
section
variable {K : PySem.W.Frag} {n : Nat} {lk : List Nat}
theorem rfs_sti {i : Nat} {te ti : TE} {me : ME} {mi : MP} (h1 : Rf K te me) (h2 : Rfp K ti mi) : Rfs K n lk (tAsg te (gSub (tVar i) ti rSetL)) (s_sti i me mi) := by
  intro c τ ρ σ H D out hl hn r e k
  unfold s_sti at e
  obtain ⟨⟨oa, ρ1⟩, e1, e⟩ := Option.bind_eq_some_iff.mp e
  obtain ⟨d, e2, e⟩ := Option.bind_eq_some_iff.mp e
  simp only at e
  split at e
  · rename_i ds0 h0
    obtain ⟨⟨p, ρ2⟩, e3, e⟩ := Option.bind_eq_some_iff.mp e
    simp only at e
    split at e
    · rename_i kk ds e4 h3
      obtain ⟨j, e5, e⟩ := Option.map_eq_some_iff.mp e
      cases e
      refine h1 c τ ρ σ H _ oa ρ1 hl r e1 fun x H1 hl1 r1 => ?_
      have r2 := r1.toD e2
      have r3 : Rel K c (((.v d, some x) :: τ) ++ ρ1.zip σ) H1 := r2
      obtain ⟨a, xs0, s1, s2, _⟩ := slot_ref hl1 r3 h0
      refine ⟨.ref a, s1, h2 c _ ρ1 σ H1 _ p ρ2 hl1 r3 e3 fun y H2 hl2 pv2 r4 => ?_⟩
      have r4' : Rel K c ((kap p y ++ ((.v d, some x) :: τ)) ++ ρ2.zip σ) H2 := by rw [List.append_assoc]; exact r4
      obtain ⟨g, hs, q⟩ := r4'.vwp (p := p) (fun q hq => List.mem_append_left _ hq) e4 pv2
      have ey := vw_int q
      subst ey
      have r5 := (r4.drops).take h3 s1
      obtain ⟨F, rr⟩ := id r5
      obtain ⟨F1, F2, ⟨a2, xs, p1, p2, p3, p4⟩, ⟨G1, G2, ⟨_, z, ez, qz⟩, _, _⟩, _⟩ := rr.rc
      cases p1
      cases ez
      refine ⟨a, xs, kk, j, rfl, rfl, p2, by rw [← p3.length]; exact e5, ?_⟩
      have m1 := rr.mut (ds' := ds.set j d) (xs' := xs.set j x) (p3.set qz j)
      have m2 := m1.put (i := i) (τ := (.v d, some x) :: τ) (by rw [List.length_set]; exact hl2) s1
      rw [List.set_set] at m2
      exact k σ _ (by rw [List.length_set]; exact hl2) rfl .refl m2.drop
    · cases e
  · cases e
theorem rfs_aug {i : Nat} {f : Int → Int → Int} {t : TE} {m : MP} (h : Rfp K t m) (hi : i < n) (hk : i ∉ lk) : Rfs K n lk (tAug i t (ipI f)) (s_aug i f m) := by
  intro c τ ρ σ H D out hl hn r e k
  unfold s_aug at e
  split at e
  · rename_i a h0
    obtain ⟨⟨p, ρ1⟩, e1, e⟩ := Option.bind_eq_some_iff.mp e
    simp only at e
    split at e
    · rename_i b e2
      cases e
      obtain ⟨x, s1⟩ := slot_of hl h0
      obtain ⟨F, y, rr, ey, qy⟩ := r.val (List.mem_append_right _ (mem_zip h0 s1))
      subst ey
      have qy' : y = .int a := qy
      subst qy'
      refine ⟨_, s1, h c τ ρ σ H _ p ρ1 hl r e1 fun z H1 hl1 pv1 r1 => ?_⟩
      have r1' : Rel K c ((kap p z ++ τ) ++ ρ1.zip σ) H1 := by rw [List.append_assoc]; exact r1
      obtain ⟨g, hs, q⟩ := r1'.vwp (p := p) (fun q hq => List.mem_append_left _ hq) e2 pv1
      have ez := vw_int q
      subst ez
      obtain ⟨G, gg⟩ := r1.drops
      have r2 : Rel K c ((.v (.int (f a b)), some (.int (f a b))) :: (τ ++ ρ1.zip σ)) H1 := gg.add rfl
      exact ⟨a, b, rfl, rfl, k _ H1 (by rw [List.length_set, List.length_set]; exact hl1) (by rw [List.length_set]) (.set hk) (r2.store hl1 (by rw [hn]; exact hi))⟩
    · cases e
  · cases e
end
section
variable {C : Cd} {N : List Str} {sc : Sk} {lk : List Nat} {pos apos p : Pos}
theorem rs_sti (i : Nat) {x : Str} {e ix : Expr} {me : ME} {mi : MP} (h1 : RE C N sc e me) (h2 : RP C N sc ix mi) (hv : visB N sc i x = true := by decide +kernel)
    (ha : ∀ (env : Env) (v : Value), assign (.Subscript (.Name x p) ix apos) env v = (do
      let ov ← holding [v] (eval (.Name x p) env)
      let iv ← holding [v, ov] (eval ix env)
      standAt apos
      holding [v, ov, iv] (setItem ov iv v)
      release [v, ov, iv] []) := by intro _ _; rfl)
    (hs : ∀ env : Env, swapsWithSole [.Subscript (.Name x p) ix apos] e pos.line env = pure false := by intro _; rfl) (hw : ∀ env : Env, swappedStores [.Subscript (.Name x p) ix apos] e env = pure none := by intro _; rfl)
    (h3 : ∀ env : Env, (assignEach [.Subscript (.Name x p) ix apos] env).map (·.2) = [assign (.Subscript (.Name x p) ix apos) env] := by intro _; rfl) : RS C N sc lk (.Assign [.Subscript (.Name x p) ix apos] e pos) (s_sti i me mi) := by
  obtain ⟨t, a1, a2⟩ := h1
  obtain ⟨u, b1, b2⟩ := h2
  exact ⟨tAsg t (gSub (tVar i) u rSetL), fun X g _ => ps_asg (a1 X g) (pg_sub (pe_var (g.vis hv).1 (g.vis hv).2 (okName_d (visB_ok hv).2.2).1 (okName_d (visB_ok hv).2.2).2.1) (b1 X g) set_list (ha _)) (hs _) (hw _) (h3 _), rfs_sti a2 b2⟩
theorem rs_augAdd (i : Nat) {x : Str} {e : Expr} {m : MP} (h : RP C N sc e m) (hx : locB N sc i x = true := by decide +kernel) (nd : N.Nodup := by decide +kernel) (hk : i ∉ lk := by decide) : RS C N sc lk (.AugAssign (.Name x p) .Add e pos) (s_aug i (fun a b => a + b) m) :=
  let ⟨t, a1, a2⟩ := h
  ⟨_, fun X g _ => ps_aug (by rw [g.N]; exact nd) (g.loc hx).1 (g.loc hx).2.1 (a1 X g) ip_add (g.loc hx).2.2, rfs_aug a2 (by have := (locB_ok hx).1; exact (List.getElem?_eq_some_iff.mp this).1) hk⟩
theorem rs_augSub (i : Nat) {x : Str} {e : Expr} {m : MP} (h : RP C N sc e m) (hx : locB N sc i x = true := by decide +kernel) (nd : N.Nodup := by decide +kernel) (hk : i ∉ lk := by decide) : RS C N sc lk (.AugAssign (.Name x p) .Sub e pos) (s_aug i (fun a b => a - b) m) :=
  let ⟨t, a1, a2⟩ := h
  ⟨_, fun X g _ => ps_aug (by rw [g.N]; exact nd) (g.loc hx).1 (g.loc hx).2.1 (a1 X g) ip_sub (g.loc hx).2.2, rfs_aug a2 (by have := (locB_ok hx).1; exact (List.getElem?_eq_some_iff.mp this).1) hk⟩
end

/-! ### slices -/
abbrev MO := List O → Option (Option Int × List O)
def o_none : MO := fun ρ => some (none, ρ)
def o_some (m : MP) : MO := fun ρ => (m ρ).bind fun a => match vw a.2 a.1 with
  | some (.int i) => some (some i, a.2)
  | _ => none
def Rfo (K : PySem.W.Frag) (t : TO) (m : MO) : Prop := ∀ (c : Cc) (τ : Cells) (ρ : List O) (σ : L2.St) (H : Hp) (Q : Option Int → Hp → Prop) (o : Option Int) (ρ' : List O), ρ.length = σ.length → Rel K c (τ ++ ρ.zip σ) H → m ρ = some (o, ρ') →
  (∀ H', ρ'.length = σ.length → Rel K c (τ ++ ρ'.zip σ) H' → Q o H') → t σ H Q
def RO' (C : Cd) (N : List Str) (sc : Sk) (e : Option Expr) (m : MO) : Prop := ∃ t, (∀ X, Gd C N sc X → PO X e t) ∧ Rfo C.K t m
def RSok (K : PySem.W.Frag) (r : V → Option Int → Option Int → Hp → VK → Prop) (f : D → Option Int → Option Int → Option Res) : Prop := ∀ (h H : Hp) (x : V) (dx : D) (lo hi : Option Int) (res : Res) (Q : VK), Same h H → Vw K h H dx x → f dx lo hi = some res → (∀ z H', ResAt K h H res z H' → Q z H') → r x lo hi H Q
def m_sl (f : D → Option Int → Option Int → Option Res) (ma : MP) (ml mh : MO) : ME := fun ρ => (ma ρ).bind fun a => (ml a.2).bind fun l => (mh l.2).bind fun u => (vw u.2 a.1).bind fun d => (f d l.1 u.1).map fun r => (r.o, u.2)
section
variable {K : PySem.W.Frag}
theorem rfo_none : Rfo K tNoPart o_none := by
  intro c τ ρ σ H Q o ρ' hl r e k
  cases e
  exact k H hl r
theorem rfo_some {t : TE} {m : MP} (h : Rfp K t m) : Rfo K (tPart t) (o_some m) := by
  intro c τ ρ σ H Q o ρ' hl r e k
  unfold o_some at e
  obtain ⟨⟨p, ρ1⟩, e1, e⟩ := Option.bind_eq_some_iff.mp e
  simp only at e
  split at e
  · rename_i i e2
    cases e
    refine h c τ ρ σ H _ p ρ' hl r e1 fun z H1 hl1 pv1 r1 => ?_
    have r1' : Rel K c ((kap p z ++ τ) ++ ρ'.zip σ) H1 := by rw [List.append_assoc]; exact r1
    obtain ⟨g, hs, q⟩ := r1'.vwp (p := p) (fun q hq => List.mem_append_left _ hq) e2 pv1
    have ez := vw_int q
    subst ez
    exact ⟨i, rfl, k H1 hl1 r1.drops⟩
  · cases e
theorem rf_sl {r : V → Option Int → Option Int → Hp → VK → Prop} {f : D → Option Int → Option Int → Option Res} {te : TE} {tl th : TO} {ma : MP} {ml mh : MO} (hr : RSok K r f) (h1 : Rfp K te ma) (h2 : Rfo K tl ml) (h3 : Rfo K th mh) : Rf K (tSl r te tl th) (m_sl f ma ml mh) := by
  intro c τ ρ σ H Q o ρ' hl rl e k
  unfold m_sl at e
  obtain ⟨⟨p, ρ1⟩, e1, e⟩ := Option.bind_eq_some_iff.mp e
  obtain ⟨⟨l, ρ2⟩, e2, e⟩ := Option.bind_eq_some_iff.mp e
  obtain ⟨⟨u, ρ3⟩, e3, e⟩ := Option.bind_eq_some_iff.mp e
  obtain ⟨d, e4, e⟩ := Option.bind_eq_some_iff.mp e
  obtain ⟨res, e5, e⟩ := Option.map_eq_some_iff.mp e
  cases e
  refine h1 c τ ρ σ H _ p ρ1 hl rl e1 fun x H1 hl1 pv1 r1 => ?_
  refine h2 c (kap p x ++ τ) ρ1 σ H1 _ l ρ2 hl1 (by rw [List.append_assoc]; exact r1) e2 fun H2 hl2 r2 => ?_
  refine h3 c (kap p x ++ τ) ρ2 σ H2 _ u ρ3 hl2 r2 e3 fun H3 hl3 r3 => ?_
  obtain ⟨F, rr⟩ := id r3
  obtain ⟨o1, x1, x2⟩ := vw_mem e4 pv1
  refine hr _ H3 x d l u res Q hid_same (rr.vw (o := o1) (by rcases x2 with z | z <;> simp [z]) x1) e5 fun z H' q => k z H' hl3 ?_
  have q1 := rr.res q
  rw [List.append_assoc] at q1
  exact q1.mid1
end
section
variable {C : Cd} {N : List Str} {sc : Sk} {pos p2 : Pos}
theorem ro_none : RO' C N sc none o_none := ⟨_, fun X g => po_none, rfo_none⟩
theorem ro_some {e : Expr} {m : MP} (h : RP C N sc e m) : RO' C N sc (some e) (o_some m) := let ⟨t, a1, a2⟩ := h; ⟨_, fun X g => po_some (a1 X g), rfo_some a2⟩
theorem re_sl {e : Expr} {lo hi : Option Expr} {ma : MP} {ml mh : MO} {f : D → Option Int → Option Int → Option Res} (r : PySem.W.Frag → V → Option Int → Option Int → Hp → VK → Prop) (ho : ∀ X : Cx, SlR X (r X.K)) (hr : RSok C.K (r C.K) f) (ha : RP C N sc e ma) (hl : RO' C N sc lo ml) (hh : RO' C N sc hi mh) : RE C N sc (.Subscript e (.Slice lo hi none p2) pos) (m_sl f ma ml mh) :=
  let ⟨t, a1, a2⟩ := ha; let ⟨u, b1, b2⟩ := hl; let ⟨v, c1, c2⟩ := hh
  ⟨tSl (r C.K) t u v, fun X g => pe_slice (by rw [← g.K]; exact ho X) (a1 X g) (b1 X g) (c1 X g), rf_sl hr a2 b2 c2⟩
end

/-! ### methods of texts -/
def m_m0 (f : Str → Option Res) (ma : MP) : ME := fun ρ => (ma ρ).bind fun a => match vw a.2 a.1 with
  | some (.str s) => (f s).map fun r => (r.o, a.2)
  | _ => none
def m_m1 (f : Str → D → Option Res) (ma mb : MP) : ME := fun ρ => (ma ρ).bind fun a => match vw a.2 a.1 with
  | some (.str s) => (mb a.2).bind fun b => (vw b.2 b.1).bind fun d => (f s d).map fun r => (r.o, b.2)
  | _ => none
def RM0ok (K : PySem.W.Frag) (r : V → List V → Hp → VK → Prop) (f : Str → Option Res) : Prop := ∀ (h H : Hp) (s : Str) (res : Res) (Q : VK), Same h H → f s = some res → (∀ z H', ResAt K h H res z H' → Q z H') → r (.str s) [] H Q
def RM1ok (K : PySem.W.Frag) (r : V → List V → Hp → VK → Prop) (f : Str → D → Option Res) : Prop := ∀ (h H : Hp) (s : Str) (y : V) (dy : D) (res : Res) (Q : VK), Same h H → Vw K h H dy y → f s dy = some res → (∀ z H', ResAt K h H res z H' → Q z H') → r (.str s) [y] H Q
section
variable {K : PySem.W.Frag}
theorem vw_str {h H : Hp} {i : Str} {x : V} (q : Vw K h H (.str i) x) : x = .str i := by
  rcases q with q | ⟨ds, a, xs, e, _⟩ | ⟨ks, ds, a, xs, e, _⟩
  · exact q
  · cases e
  · cases e
theorem rf_m0 {r : V → List V → Hp → VK → Prop} {f : Str → Option Res} {ta : TE} {ma : MP} (hr : RM0ok K r f) (ha : Rfp K ta ma) : Rf K (tM0 r ta) (m_m0 f ma) := by
  intro c τ ρ σ H Q o ρ' hl rl e k
  unfold m_m0 at e
  obtain ⟨⟨p, ρ1⟩, e1, e⟩ := Option.bind_eq_some_iff.mp e
  simp only at e
  split at e
  · rename_i s e2
    obtain ⟨res, e5, e⟩ := Option.map_eq_some_iff.mp e
    cases e
    refine ha c τ ρ σ H _ p ρ' hl rl e1 fun x H1 hl1 pv1 r1 => ?_
    obtain ⟨F, rr⟩ := id r1
    obtain ⟨o1, x1, x2⟩ := vw_mem e2 pv1
    have ex := vw_str (rr.vw (x := x) (o := o1) (by rcases x2 with z | z <;> simp [z]) x1)
    subst ex
    exact ⟨⟨s, rfl⟩, hr _ H1 s res Q hid_same e5 fun z H' q => k z H' hl1 (rr.res q).mid1⟩
  · cases e
theorem rf_m1 {r : V → List V → Hp → VK → Prop} {f : Str → D → Option Res} {ta tb : TE} {ma mb : MP} (hr : RM1ok K r f) (ha : Rfp K ta ma) (hb : Rfp K tb mb) : Rf K (tM1 r ta tb) (m_m1 f ma mb) := by
  intro c τ ρ σ H Q o ρ' hl rl e k
  unfold m_m1 at e
  obtain ⟨⟨p, ρ1⟩, e1, e⟩ := Option.bind_eq_some_iff.mp e
  simp only at e
  split at e
  · rename_i s e2
    obtain ⟨⟨p2, ρ2⟩, e3, e⟩ := Option.bind_eq_some_iff.mp e
    obtain ⟨d, e4, e⟩ := Option.bind_eq_some_iff.mp e
    obtain ⟨res, e5, e⟩ := Option.map_eq_some_iff.mp e
    cases e
    refine ha c τ ρ σ H _ p ρ1 hl rl e1 fun x H1 hl1 pv1 r1 => ?_
    obtain ⟨F, rr⟩ := id r1
    obtain ⟨o1, x1, x2⟩ := vw_mem e2 pv1
    have ex := vw_str (rr.vw (x := x) (o := o1) (by rcases x2 with z | z <;> simp [z]) x1)
    subst ex
    refine ⟨⟨s, rfl⟩, hb c (kap p (.str s) ++ τ) ρ1 σ H1 _ p2 ρ2 hl1 (by rw [List.append_assoc]; exact r1) e3 fun y H2 hl2 pv2 r2 => ?_⟩
    obtain ⟨F, rr⟩ := id r2
    obtain ⟨o2, y1, y2⟩ := vw_mem e4 pv2
    refine hr _ H2 s y d res Q hid_same (rr.vw (o := o2) (by rcases y2 with z | z <;> simp [z]) y1) e5 fun z H' q => k z H' hl2 ?_
    have q1 := (rr.res q).mid1
    rw [List.append_assoc] at q1
    exact q1.mid1
  · cases e
end
section
variable {C : Cd} {N : List Str} {sc : Sk} {pos apos : Pos}
theorem re_m0 {id : String} {name : Str} {o : Expr} {ma : MP} {f : Str → Option Res} (r : PySem.W.Frag → V → List V → Hp → VK → Prop) (slot : Slot "str" name id) (ty : typeOf (.builtin id) = pure (.type "method_descriptor")) (rule : ∀ X : Cx, MtR X id (r X.K)) (hr : RM0ok C.K (r C.K) f) (ha : RP C N sc o ma)
    (hb : ∀ env : Env, attributeBase o name env (eval o env) = eval o env := by intro _; rfl) (hline : (apos.endLine == pos.line) = true := by rfl) : RE C N sc (.Call (.Attribute o name apos) [] [] pos) (m_m0 f ma) :=
  let ⟨t, a1, a2⟩ := ha
  ⟨tM0 (r C.K) t, fun X g => pe_m0 slot ty (by rw [← g.K]; exact rule X) (a1 X g) (hb _) hline, rf_m0 hr a2⟩
theorem re_m1 {id : String} {name : Str} {o e : Expr} {ma mb : MP} {f : Str → D → Option Res} (r : PySem.W.Frag → V → List V → Hp → VK → Prop) (slot : Slot "str" name id) (ty : typeOf (.builtin id) = pure (.type "method_descriptor")) (rule : ∀ X : Cx, MtR X id (r X.K)) (hr : RM1ok C.K (r C.K) f) (ha : RP C N sc o ma) (hb : RP C N sc e mb)
    (hs : ∀ env : Env, starEach [e] env = [(false, eval e env)] := by intro _; rfl) (hab : ∀ env : Env, attributeBase o name env (eval o env) = eval o env := by intro _; rfl) (hline : (apos.endLine == pos.line) = true := by rfl) : RE C N sc (.Call (.Attribute o name apos) [e] [] pos) (m_m1 f ma mb) :=
  let ⟨t, a1, a2⟩ := ha; let ⟨u, b1, b2⟩ := hb
  ⟨tM1 (r C.K) t u, fun X g => pe_m1 slot ty (by rw [← g.K]; exact rule X) (a1 X g) (b1 X g) (hs _) (hab _) hline, rf_m1 hr a2 b2⟩
end

/-! ### a def -/
def keep (lk : List Nat) (k : Nat) (ρ : List O) : List O := (List.range k).map fun i => if i ∈ lk then ρ.getD i .n else .n
/-- a def's mirror by its body's: n names, k parameters, those of lk never stored -/
def fnM (n k : Nat) (lk : List Nat) (m : MS) : List O → Option (O × List O) := fun os => (m (os ++ List.replicate (n - os.length) .n)).bind fun o => match o with
  | .rt r ρ => some (r, keep lk k ρ)
  | .nx ρ => some (.v .non, keep lk k ρ)
  | _ => none
section
variable {P : Program} {w : World} {K : PySem.W.Frag} {mg : Str → Option Value} {base : Heap}
theorem start_len {N : List Str} {vs : List V} (h : vs.length ≤ N.length) : (L2.start N vs).length = N.length := by
  unfold L2.start
  rw [List.length_append, List.length_map, List.length_replicate]
  omega
theorem keep_ok {c : Cc} {lk : List Nat} {k : Nat} {ρ : List O} {σ : L2.St} {vs : List V} {H : Hp} {o : O} {x : V} (hv : vs.length = k) (hl : ρ.length = σ.length) (hk : ∀ i ∈ lk, i < k → σ[i]? = some (vs[i]?)) (r : Rel K c ((o, some x) :: ρ.zip σ) H) : Rel K c ((o, some x) :: (keep lk k ρ).zip (vs.map some)) H := by
  refine r.wk fun i p e => ?_
  cases i with
  | zero => exact .inr e
  | succ i =>
    have e : ((keep lk k ρ).zip (vs.map some))[i]? = some p := e
    show p.1 = .n ∨ (ρ.zip σ)[i]? = some p
    rw [List.getElem?_zip_eq_some] at e ⊢
    obtain ⟨e1, e2⟩ := e
    unfold keep at e1
    rw [List.getElem?_map] at e1
    obtain ⟨j, hj, e1⟩ := Option.map_eq_some_iff.mp e1
    obtain ⟨hjk, ej⟩ := List.getElem?_eq_some_iff.mp hj
    rw [List.length_range] at hjk
    rw [List.getElem_range] at ej
    subst ej
    by_cases hm : i ∈ lk
    · rw [if_pos hm] at e1
      have q := hk i hm hjk
      have hi : i < ρ.length := by
        rw [hl]
        exact (List.getElem?_eq_some_iff.mp q).1
      refine .inr ⟨?_, ?_⟩
      · rw [← e1, List.getD_eq_getElem?_getD, List.getElem?_eq_getElem hi]
        rfl
      · rw [q, ← e2, List.getElem?_map]
        have hiv : i < vs.length := by omega
        rw [List.getElem?_eq_getElem hiv]
        rfl
    · rw [if_neg hm] at e1
      exact .inl e1.symm
theorem fn_ok {x qual : Str} {params : Arguments} {body : List Stmt} {scope : Scope} {f : Addr} {fd : FuncData} {N ps : List Str} {k : Nat} (lk : List Nat) {m : MS} (F : FunD K x qual params body scope [] [] f fd) (S : FnScope N ps scope) (h : RSs ⟨P, w, K, mg, base, k⟩ N ⟨scope, scope⟩ lk body m) :
    FnOk P w K mg base CX0 (k + 1) f fd ps (spM K ps.length (fnM N.length ps.length lk m)) := by
  obtain ⟨t, a1, a2⟩ := h
  have hpl : ps.length ≤ N.length := by have := congrArg List.length S.pre; rw [List.length_take] at this; omega
  refine F.ok S (fun vs H Q E q => q.1) (fun cdv A outer s H vs Q E hr q => ⟨t, PSs.nox (a1 _ ⟨rfl, rfl, rfl, rfl, rfl, rfl, rfl, hr, rfl, fun _ _ => rfl⟩ rfl), ?_⟩)
  obtain ⟨hv, B, F1, os, r, outs, ho, rel, e, kk⟩ := q
  unfold fnM at e
  obtain ⟨out, e1, e⟩ := Option.bind_eq_some_iff.mp e
  have hs : (L2.start N vs).length = N.length := start_len (by omega)
  have hsl : (os ++ List.replicate (N.length - os.length) O.n).length = (L2.start N vs).length := by
    rw [hs, List.length_append, List.length_replicate]
    omega
  have rel0 : Rel K ⟨B, H, F1⟩ (([] : Cells) ++ (os ++ List.replicate (N.length - os.length) O.n).zip (L2.start N vs)) H := by
    have q : Rel K ⟨B, H, F1⟩ (os.zip (vs.map some)) H := ⟨F1, rel⟩
    refine q.wk fun i p e => ?_
    have e : ((os ++ List.replicate (N.length - os.length) O.n).zip (L2.start N vs))[i]? = some p := e
    rw [List.getElem?_zip_eq_some] at e
    obtain ⟨e1, e2⟩ := e
    by_cases hi : i < os.length
    · rw [List.getElem?_append_left hi] at e1
      refine .inr ?_
      rw [List.getElem?_zip_eq_some]
      refine ⟨e1, ?_⟩
      unfold L2.start at e2
      rw [List.getElem?_append_left (by rw [List.length_map]; omega)] at e2
      exact e2
    · rw [List.getElem?_append_right (by omega), List.getElem?_replicate] at e1
      split at e1
      · exact .inl (Option.some.inj e1).symm
      · cases e1
  have pin : ∀ σ' : L2.St, lkp lk (L2.start N vs) σ' → ∀ i ∈ lk, i < ps.length → σ'[i]? = some (vs[i]?) := fun σ' hk i hi hlt => by
    rw [hk i hi]
    unfold L2.start
    rw [List.getElem?_append_left (by rw [List.length_map]; omega), List.getElem?_map, List.getElem?_eq_getElem (by omega)]
    rfl
  refine a2 ⟨B, H, F1⟩ [] _ (L2.start N vs) H _ out hsl hs rel0 e1 ?_
  cases out with
  | nx ρ1 =>
    cases e
    intro σ' H' hl' _ hk' r'
    obtain ⟨G, gg⟩ := r'
    exact kk .non H' (keep_ok hv hl' (pin σ' hk') (gg.add rfl))
  | rt o ρ1 =>
    cases e
    intro x σ' H' hl' _ hk' r'
    exact kk x H' (keep_ok hv hl' (pin σ' hk') r')
  | bk ρ1 => cases e
  | ct ρ1 => cases e
theorem Cal.mk' {x : Str} {k n : Nat} {g : List O → Option (O × List O)} {f : Addr} {fd : FuncData} {ps : List Str} (hn : ps.length = n) (F : FnOk P w K mg base CX0 k f fd ps (spM K n g)) (hm : mg x = some (.ref f)) (hk : PySem.W.keepIn K (.ref f) = true) (hb : Binds K fd ps []) : Cal P w K mg base k x n g := ⟨⟨f, fd, ps, hn, F, hm, hk, hb⟩⟩
end
end Mr

end
section
set_option Elab.async false
set_option linter.all false
set_option maxRecDepth 100000
set_option maxHeartbeats 4000000
/-! MrF: operators, built-ins and methods by their values. -/
namespace Mr
open PySem PySem.Spec PyProof.Rows L2

/-! ### what an operand is -/
section
variable {K : PySem.W.Frag} {h H : Hp}
theorem vw_bl {b : Bool} {x : V} (q : Vw K h H (.bl b) x) : x = .bl b := by
  rcases q with q | ⟨ds, a, xs, e, _⟩ | ⟨ks, ds, a, xs, e, _⟩
  · exact q
  · cases e
  · cases e
theorem vw_non {x : V} (q : Vw K h H .non x) : x = .non := by
  rcases q with q | ⟨ds, a, xs, e, _⟩ | ⟨ks, ds, a, xs, e, _⟩
  · exact q
  · cases e
  · cases e
theorem vw_ty {n : String} {x : V} (q : Vw K h H (.ty n) x) : x = .ty n := by
  rcases q with q | ⟨ds, a, xs, e, _⟩ | ⟨ks, ds, a, xs, e, _⟩
  · exact q
  · cases e
  · cases e
theorem vw_lst (hs : Same h H) {ds : List D} {x : V} (q : Vw K h H (.lst ds) x) : ∃ a xs, x = .ref a ∧ H a = some (.lst xs) ∧ Reps K h ds xs := by
  rcases q with ⟨a, xs, e1, e2, e3⟩ | ⟨ds', a, xs, e, e1, e2, e3⟩ | ⟨ks', ds', a, xs, e, e1, e2, e3⟩
  · exact ⟨a, xs, e1, hs _ _ e2, e3⟩
  · cases e
    exact ⟨a, xs, e1, e2, e3⟩
  · cases e
theorem vw_tup (hs : Same h H) {ds : List D} {x : V} (q : Vw K h H (.tup ds) x) : ∃ a xs, x = .ref a ∧ SqT K H a xs ∧ Reps K h ds xs ∧ Rep K h (.tup ds) x := by
  rcases q with ⟨a, xs, e1, e2, e3⟩ | ⟨ds', a, xs, e, e1, e2, e3⟩ | ⟨ks', ds', a, xs, e, e1, e2, e3⟩
  · exact ⟨a, xs, e1, sqT_same hs e2, e3, a, xs, e1, e2, e3⟩
  · cases e
  · cases e
theorem vw_rl (hs : Same h H) {ds : List D} {x : V} (q : Vw K h H (.rl ds) x) : ∃ a xs, x = .ref a ∧ SqL K H a xs ∧ Reps K h ds xs := by
  rcases q with ⟨a, xs, e1, e2, e3⟩ | ⟨ds', a, xs, e, e1, e2, e3⟩ | ⟨ks', ds', a, xs, e, e1, e2, e3⟩
  · exact ⟨a, xs, e1, hs.seq e2, e3⟩
  · cases e
  · cases e
theorem sql {a : Addr} {xs : List V} (h : H a = some (.lst xs)) : SqL K H a xs := .inl (.inl h)
theorem line1 {n : Nat} (h : n ≤ 1000000) : n ≤ sizeLine := Nat.le_trans h (by decide)
/-- plain results -/
theorem resS {d : D} {z : V} (q : Rep K h d z) : ResAt K h H (.s d) z H := ⟨rfl, q⟩
theorem resL {ds : List D} {xs : List V} {p : Addr} (hp : H p = none) (q : Reps K h ds xs) : ResAt K h H (.nl ds) (.ref p) (upd H p (.lst xs)) := ⟨p, xs, rfl, hp, rfl, q⟩
theorem resT {ds : List D} {xs : List V} {p : Addr} (hp : H p = none) (q : Reps K h ds xs) : ResAt K h H (.nt ds) (.ref p) (upd H p (.tup xs)) := ⟨p, xs, rfl, hp, rfl, q⟩
theorem Reps.isNil {ds : List D} {xs : List V} (q : Reps K h ds xs) : ds = [] ↔ xs = [] := by
  have := q.length
  constructor
  · intro e; subst e; exact List.length_eq_zero_iff.mp this.symm
  · intro e; subst e; exact List.length_eq_zero_iff.mp this
end

/-! ### + -/
def addD : D → D → Option Res
  | .int i, .int j => some (.s (.int (i + j)))
  | .str a, .str b => if a.length + b.length ≤ 1000000 then some (.s (.str (a ++ b))) else none
  | .lst a, .lst b => if a.length + b.length ≤ 1000000 then some (.nl (a ++ b)) else none
  | .tup a, .tup b => if a ≠ [] ∧ b ≠ [] ∧ a.length + b.length ≤ 1000000 then some (.nt (a ++ b)) else none
  | _, _ => none
def rAddA (K : PySem.W.Frag) : R2 := fun x y H Q => (∃ i j, x = .int i ∧ y = .int j ∧ Q (.int (i + j)) H) ∨ (∃ i j, x = .str i ∧ y = .str j ∧ i.length + j.length ≤ sizeLine ∧ Q (.str (i ++ j)) H) ∨ rCat x y H Q ∨ rCatT K x y H Q
theorem op_addA (X : Cx) : OpR X (binaryOp .Add) (rAddA X.K) := op_add.or (op_add_str.or (op_cat.or op_catT))
theorem addD_ok {K : PySem.W.Frag} : R2ok K (rAddA K) addD := by
  intro h H x y dx dy res Q hs vx vy e k
  unfold addD at e
  split at e
  · cases e
    cases vw_int vx
    cases vw_int vy
    exact .inl ⟨_, _, rfl, rfl, k _ _ (resS rfl)⟩
  · split at e
    · rename_i hz
      cases e
      cases vw_str vx
      cases vw_str vy
      exact .inr (.inl ⟨_, _, rfl, rfl, line1 hz, k _ _ (resS rfl)⟩)
    · cases e
  · split at e
    · rename_i hz
      cases e
      obtain ⟨a, xs, rfl, ha, ra⟩ := vw_lst hs vx
      obtain ⟨b, ys, rfl, hb, rb⟩ := vw_lst hs vy
      exact .inr (.inr (.inl ⟨a, b, xs, ys, rfl, rfl, ha, hb, by rw [← ra.length, ← rb.length]; exact line1 hz, fun p hp => k _ _ (resL hp (ra.append rb))⟩))
    · cases e
  · split at e
    · rename_i hz
      cases e
      obtain ⟨a, xs, rfl, ha, ra, _⟩ := vw_tup hs vx
      obtain ⟨b, ys, rfl, hb, rb, _⟩ := vw_tup hs vy
      exact .inr (.inr (.inr ⟨a, b, xs, ys, rfl, rfl, ha, hb, fun z => hz.1 (ra.isNil.mpr z), by rw [← ra.length, ← rb.length]; exact line1 hz.2.2, fun z => absurd (rb.isNil.mpr z) hz.2.1, fun _ p hp => k _ _ (resT hp (ra.append rb))⟩))
    · cases e
  · cases e

/-! ### -, *, //, %, ** -/
def subD : D → D → Option Res
  | .int i, .int j => some (.s (.int (i - j)))
  | _, _ => none
theorem op_subA (X : Cx) : OpR X (binaryOp .Sub) (rI0 fun i j => .int (i - j)) := op_sub
theorem subD_ok {K : PySem.W.Frag} : R2ok K (rI0 fun i j => .int (i - j)) subD := by
  intro h H x y dx dy res Q hs vx vy e k
  unfold subD at e
  split at e
  · cases e
    cases vw_int vx
    cases vw_int vy
    exact ⟨_, _, rfl, rfl, k _ _ (resS rfl)⟩
  · cases e
/-- a text n times -/
def mulS (z : Str) (n : Nat) : Str := ⟨(List.replicate n z.cps.toList).flatten.toArray⟩
theorem fold_app (l : List (Array Nat)) : ∀ acc : Array Nat, (l.foldl (· ++ ·) acc).toList = acc.toList ++ (l.map Array.toList).flatten := by
  induction l with
  | nil => intro acc; simp
  | cons a l ih => intro acc; rw [List.foldl_cons, ih]; simp
theorem mulS_fold (z : Str) (n : Nat) : (⟨(List.replicate n z.cps).foldl (· ++ ·) #[]⟩ : Str) = mulS z n := by
  unfold mulS
  congr 1
  rw [← Array.toList_inj, fold_app]
  simp
def rMulS : R2 := fun x y H Q => ∃ z n, x = .str z ∧ y = .int n ∧ -(2 ^ 62) ≤ n ∧ n < 2 ^ 62 ∧ z.length * n.toNat ≤ sizeLine ∧ Q (.str (mulS z n.toNat)) H
theorem op_mulS (X : Cx) : OpR X (binaryOp .Mult) rMulS := by
  intro pins s σ H x y v u Q I rx ry h
  obtain ⟨z, n, rfl, rfl, h1, h2, hz, q⟩ := h
  obtain ⟨t, rfl⟩ := rx
  obtain ⟨t', rfl⟩ := ry
  have hl : sizeLine = 16777216 := sizeLine_eq
  refine PySem.P.mul_str (by
    rw [decide_eq_false (by omega), decide_eq_false (by omega)]; rfl) (fun n1 n2 => ?_) (fun n1 n2 => ?_) ?_
  · intro w
    have hn : 1 ≤ n := by omega
    have hm : (z.length : Int) * n ≤ 16777216 := by
      rw [hl] at hz
      have : ((z.length * n.toNat : Nat) : Int) ≤ 16777216 := Int.ofNat_le.mpr hz
      rw [Int.natCast_mul, Int.toNat_of_nonneg (by omega)] at this
      exact this
    have hd : (2 ^ 63 - 1) / n < z.length := w
    have := (Int.ediv_lt_iff_lt_mul (by omega : 0 < n)).mp hd
    omega
  · unfold Builtin.Str.tooLong
    exact decide_eq_false (by omega)
  · by_cases c1 : n < 1
    · rw [if_pos c1]
      have e : Str.empty = mulS z n.toNat := by
        rw [show n.toNat = 0 by omega]
        rfl
      exact ⟨by decide, ⟨.str (mulS z n.toNat), H, I.tok _, ⟨_, by rw [e]⟩, q⟩⟩
    · rw [if_neg c1]
      by_cases c2 : (n == 1 || z.length == 0) = true
      · rw [if_pos c2]
        have e : z = mulS z n.toNat := by
          rw [Bool.or_eq_true] at c2
          rcases c2 with c2 | c2
          · rw [show n.toNat = 1 by have := beq_iff_eq.mp c2; omega]
            unfold mulS
            simp
          · have e0 : z.length = 0 := beq_iff_eq.mp c2
            have e1 : z.cps.toList = [] := by
              have : z.cps.size = 0 := e0
              simpa using this
            unfold mulS
            rw [e1]
            have e2 : z.cps = #[] := by rw [← Array.toList_inj]; exact e1
            cases z
            simp only at e2
            rw [e2]
            simp
        exact ⟨.str (mulS z n.toNat), H, I, ⟨t, by rw [← e]⟩, q⟩
      · rw [if_neg c2, mulS_fold]
        refine ⟨?_, ⟨.str (mulS z n.toNat), H, I.tok _, ⟨_, rfl⟩, q⟩⟩
        unfold mulS
        show (List.replicate n.toNat z.cps.toList).flatten.toArray.size ≤ _
        simp only [List.size_toArray, List.length_flatten, List.map_replicate, List.sum_replicate_nat]
        have : z.cps.toList.length = z.length := by simp [Str.length]
        rw [this, Nat.mul_comm]
        exact hz
def mulD : D → D → Option Res
  | .int i, .int j => if i.natAbs < 2 ^ 64 ∨ j.natAbs < 2 ^ 64 then some (.s (.int (i * j))) else none
  | .str z, .int n => if big n = true ∧ z.length * n.toNat ≤ 1000000 then some (.s (.str (mulS z n.toNat))) else none
  | .lst ds, .int n => if big n = true ∧ ds.length * n.toNat ≤ 1000000 then some (.nl (List.replicate n.toNat ds).flatten) else none
  | _, _ => none
def rMulA : R2 := fun x y H Q => rI CMul (fun i j => .int (i * j)) x y H Q ∨ rMulS x y H Q ∨ rRep x y H Q
theorem op_mulA (X : Cx) : OpR X (binaryOp .Mult) rMulA := op_mul.or ((op_mulS X).or op_rep)
theorem mulD_ok {K : PySem.W.Frag} : R2ok K rMulA mulD := by
  intro h H x y dx dy res Q hs vx vy e k
  unfold mulD at e
  split at e
  · split at e
    · rename_i hz
      cases e
      cases vw_int vx
      cases vw_int vy
      refine .inl ⟨_, _, rfl, rfl, ?_, k _ _ (resS rfl)⟩
      rcases hz with hz | hz
      · exact .inl (by omega)
      · exact .inr (by omega)
    · cases e
  · split at e
    · rename_i hz
      cases e
      cases vw_str vx
      cases vw_int vy
      exact .inr (.inl ⟨_, _, rfl, rfl, (big_ok hz.1).1, (big_ok hz.1).2, line1 hz.2, k _ _ (resS rfl)⟩)
    · cases e
  · split at e
    · rename_i hz
      cases e
      obtain ⟨a, xs, rfl, ha, ra⟩ := vw_lst hs vx
      cases vw_int vy
      have b := big_ok hz.1
      exact .inr (.inr ⟨a, _, xs, rfl, rfl, ha, by omega, by omega, by rw [← ra.length]; exact line1 hz.2, fun p hp => k _ _ (resL hp (ra.flatten_rep _))⟩)
    · cases e
  · cases e
def fdivD : D → D → Option Res
  | .int i, .int j => if 0 < j ∧ j < 1000000000000000000000000000000 then some (.s (.int (i / j))) else none
  | _, _ => none
theorem op_fdivA (X : Cx) : OpR X (binaryOp .FloorDiv) (rI CDivW fun i j => .int (i / j)) := op_fdivW
theorem fdivD_ok {K : PySem.W.Frag} : R2ok K (rI CDivW fun i j => .int (i / j)) fdivD := by
  intro h H x y dx dy res Q hs vx vy e k
  unfold fdivD at e
  split at e
  · split at e
    · rename_i j hz
      cases e
      cases vw_int vx
      cases vw_int vy
      have hb : (j.natAbs : Nat) < 2 ^ 100 := by
        have : (2 : Nat) ^ 100 = 1267650600228229401496703205376 := by decide
        omega
      exact ⟨_, _, rfl, rfl, wide_div hz.1 hb (by decide) (by decide), k _ _ (resS rfl)⟩
    · cases e
  · cases e
def modD : D → D → Option Res
  | .int i, .int j => if 0 < j then some (.s (.int (i % j))) else none
  | _, _ => none
theorem op_modA (X : Cx) : OpR X (binaryOp .Mod) (rI (fun _ j => 0 < j) fun i j => .int (i % j)) := op_mod
theorem modD_ok {K : PySem.W.Frag} : R2ok K (rI (fun _ j => 0 < j) fun i j => .int (i % j)) modD := by
  intro h H x y dx dy res Q hs vx vy e k
  unfold modD at e
  split at e
  · split at e
    · rename_i hz
      cases e
      cases vw_int vx
      cases vw_int vy
      exact ⟨_, _, rfl, rfl, hz, k _ _ (resS rfl)⟩
    · cases e
  · cases e
def CPowW (i j : Int) : Prop := 0 ≤ j ∧ j ≤ 100 ∧ i.natAbs < 2 ^ 1000
theorem op_powA (X : Cx) : OpR X (binaryOp .Pow) (rI CPowW fun i j => .int (i ^ j.toNat)) := opI fun i j _ _ _ _ _ hc q => by
  refine pow_int hc.1 ?_ q
  have hb : Builtin.Int.intBits i ≤ 1001 := by
    unfold Builtin.Int.intBits
    split
    · omega
    · have : i.natAbs.log2 < 1000 := PySem.Flt.log2_lt_of (by decide) hc.2.2
      omega
  have h1 : (Builtin.Int.intBits i : Int) * j ≤ 1001 * 100 := Int.mul_le_mul (by omega) hc.2.1 hc.1 (by omega)
  have h2 : (2 : Int) ^ 27 = 134217728 := by decide
  omega
def powD : D → D → Option Res
  | .int i, .int j => if 0 ≤ j ∧ j ≤ 100 ∧ i.natAbs < 2 ^ 1000 then some (.s (.int (i ^ j.toNat))) else none
  | _, _ => none
theorem powD_ok {K : PySem.W.Frag} : R2ok K (rI CPowW fun i j => .int (i ^ j.toNat)) powD := by
  intro h H x y dx dy res Q hs vx vy e k
  unfold powD at e
  split at e
  · split at e
    · rename_i hz
      cases e
      cases vw_int vx
      cases vw_int vy
      exact ⟨_, _, rfl, rfl, hz, k _ _ (resS rfl)⟩
    · cases e
  · cases e
def negD : D → Option Res
  | .int i => some (.s (.int (-i)))
  | _ => none
theorem negD_ok {K : PySem.W.Frag} : R1ok K (rU fun i => .int (-i)) negD := by
  intro h H x dx res Q hs vx e k
  unfold negD at e
  split at e
  · cases e
    cases vw_int vx
    exact ⟨_, rfl, k _ _ (resS rfl)⟩
  · cases e

/-! ### comparisons -/
def ltS (a b : Str) : Bool := decide (a.cps.toList < b.cps.toList)
def rLtA : R2 := fun x y H Q => rI0 (fun i j => .bl (decide (i < j))) x y H Q ∨ ∃ i j, x = .str i ∧ y = .str j ∧ Q (.bl (decide (i.cps.toList < j.cps.toList))) H
theorem op_ltA (X : Cx) (_ : X.A.units + 64 < cLine) : OpR X (compareOp .Lt) rLtA := op_lt.or op_lt_str
def ltD : D → D → Option Res
  | .int i, .int j => some (.s (.bl (decide (i < j))))
  | .str a, .str b => some (.s (.bl (ltS a b)))
  | _, _ => none
theorem ltD_ok {K : PySem.W.Frag} : R2b K rLtA ltD := by
  refine ⟨?_, ?_⟩
  · intro h H x y dx dy res Q hs vx vy e k
    unfold ltD at e
    split at e
    · cases e
      cases vw_int vx
      cases vw_int vy
      exact .inl ⟨_, _, rfl, rfl, k _ _ (resS rfl)⟩
    · cases e
      cases vw_str vx
      cases vw_str vy
      exact .inr ⟨_, _, rfl, rfl, k _ _ (resS rfl)⟩
    · cases e
  · intro d1 d2 res e
    unfold ltD at e
    split at e
    · cases e; exact ⟨_, rfl⟩
    · cases e; exact ⟨_, rfl⟩
    · cases e
theorem cmpI_ok {K : PySem.W.Frag} {g : Int → Int → Bool} {f : D → D → Option Res} (h1 : ∀ i j, f (.int i) (.int j) = some (.s (.bl (g i j)))) (h2 : ∀ d1 d2 res, f d1 d2 = some res → ∃ i j, d1 = .int i ∧ d2 = .int j) : R2b K (rI0 fun i j => .bl (g i j)) f := by
  refine ⟨?_, ?_⟩
  · intro h H x y dx dy res Q hs vx vy e k
    obtain ⟨i, j, rfl, rfl⟩ := h2 _ _ _ e
    rw [h1] at e
    cases e
    cases vw_int vx
    cases vw_int vy
    exact ⟨_, _, rfl, rfl, k _ _ (resS rfl)⟩
  · intro d1 d2 res e
    obtain ⟨i, j, rfl, rfl⟩ := h2 _ _ _ e
    rw [h1] at e
    cases e
    exact ⟨_, rfl⟩
def leD : D → D → Option Res
  | .int i, .int j => some (.s (.bl (decide (i ≤ j))))
  | _, _ => none
def gtD : D → D → Option Res
  | .int i, .int j => some (.s (.bl (decide (j < i))))
  | _, _ => none
def geD : D → D → Option Res
  | .int i, .int j => some (.s (.bl (decide (j ≤ i))))
  | _, _ => none
theorem leD_ok {K : PySem.W.Frag} : R2b K (rI0 fun i j => .bl (decide (i ≤ j))) leD := cmpI_ok (fun _ _ => rfl) fun d1 d2 res e => by
  unfold leD at e
  split at e
  · exact ⟨_, _, rfl, rfl⟩
  · cases e
theorem gtD_ok {K : PySem.W.Frag} : R2b K (rI0 fun i j => .bl (decide (j < i))) gtD := cmpI_ok (fun _ _ => rfl) fun d1 d2 res e => by
  unfold gtD at e
  split at e
  · exact ⟨_, _, rfl, rfl⟩
  · cases e
theorem geD_ok {K : PySem.W.Frag} : R2b K (rI0 fun i j => .bl (decide (j ≤ i))) geD := cmpI_ok (fun _ _ => rfl) fun d1 d2 res e => by
  unfold geD at e
  split at e
  · exact ⟨_, _, rfl, rfl⟩
  · cases e
theorem op_leA (X : Cx) (_ : X.A.units + 64 < cLine) : OpR X (compareOp .LtE) (rI0 fun i j => .bl (decide (i ≤ j))) := op_le
theorem op_gtA (X : Cx) (_ : X.A.units + 64 < cLine) : OpR X (compareOp .Gt) (rI0 fun i j => .bl (decide (j < i))) := op_gt
theorem op_geA (X : Cx) (_ : X.A.units + 64 < cLine) : OpR X (compareOp .GtE) (rI0 fun i j => .bl (decide (j ≤ i))) := op_ge
/-- == of flat data -/
def eqB : D → D → Option Bool
  | .non, .non => some true | .non, .int _ => some false | .int _, .non => some false | .non, .bl _ => some false | .bl _, .non => some false | .non, .str _ => some false | .str _, .non => some false
  | .int i, .int j => some (decide (i = j)) | .bl i, .bl j => some (decide (i = j)) | .str i, .str j => some (decide (i = j))
  | .int _, .str _ => some false | .str _, .int _ => some false | .bl _, .str _ => some false | .str _, .bl _ => some false
  | _, _ => none
def eqD (a b : D) : Option Res := (eqB a b).map fun k => .s (.bl k)
def neD (a b : D) : Option Res := (eqB a b).map fun k => .s (.bl (!k))
theorem op_eqA (X : Cx) (_ : X.A.units + 64 < cLine) : OpR X (compareOp .Eq) rEq := op_eq
theorem op_neA (X : Cx) (_ : X.A.units + 64 < cLine) : OpR X (compareOp .NotEq) rNe := op_ne
theorem eqB_ok {K : PySem.W.Frag} {h H : Hp} {x y : V} {dx dy : D} {b : Bool} (vx : Vw K h H dx x) (vy : Vw K h H dy y) (e : eqB dx dy = some b) : scal x y = true ∧ decide (x = y) = b := by
  unfold eqB at e
  split at e <;> first
    | (cases e; done)
    | skip
  all_goals (cases e)
  all_goals first
    | cases vw_non vx
    | cases vw_int vx
    | cases vw_bl vx
    | cases vw_str vx
  all_goals first
    | cases vw_non vy
    | cases vw_int vy
    | cases vw_bl vy
    | cases vw_str vy
  all_goals refine ⟨rfl, ?_⟩
  all_goals simp
theorem eqD_ok {K : PySem.W.Frag} : R2b K rEq eqD := by
  refine ⟨?_, ?_⟩
  · intro h H x y dx dy res Q hs vx vy e k
    obtain ⟨b, e1, e⟩ := Option.map_eq_some_iff.mp e
    subst e
    obtain ⟨s1, s2⟩ := eqB_ok vx vy e1
    exact ⟨s1, by rw [s2]; exact k _ _ (resS rfl)⟩
  · intro d1 d2 res e
    obtain ⟨b, e1, e⟩ := Option.map_eq_some_iff.mp e
    exact ⟨b, e.symm⟩
theorem neD_ok {K : PySem.W.Frag} : R2b K rNe neD := by
  refine ⟨?_, ?_⟩
  · intro h H x y dx dy res Q hs vx vy e k
    obtain ⟨b, e1, e⟩ := Option.map_eq_some_iff.mp e
    subst e
    obtain ⟨s1, s2⟩ := eqB_ok vx vy e1
    exact ⟨s1, by rw [s2]; exact k _ _ (resS rfl)⟩
  · intro d1 d2 res e
    obtain ⟨b, e1, e⟩ := Option.map_eq_some_iff.mp e
    exact ⟨!b, e.symm⟩
/-- is None, is not None -/
def isN : D → Bool
  | .non => true
  | _ => false
def isnD : D → D → Option Res
  | d, .non => some (.s (.bl (isN d)))
  | _, _ => none
def nsnD : D → D → Option Res
  | d, .non => some (.s (.bl (!isN d)))
  | _, _ => none
theorem isN_ok {K : PySem.W.Frag} {h H : Hp} {d : D} {x : V} (v : Vw K h H d x) : decide (x = .non) = isN d := by
  rcases v with v | ⟨ds, a, xs, rfl, rfl, _⟩ | ⟨ks, ds, a, xs, rfl, rfl, _⟩
  · cases d with
    | non => cases v; rfl
    | bl b => cases v; rfl
    | int b => cases v; rfl
    | str b => cases v; rfl
    | ty b => cases v; rfl
    | ins c ns ds => obtain ⟨a, dx, fs, xs, rfl, _⟩ := v; rfl
    | dc ks ds => obtain ⟨a, xs, rfl, _⟩ := v; rfl
    | tup ds => obtain ⟨a, xs, rfl, _⟩ := v; rfl
    | lst ds => obtain ⟨a, xs, rfl, _⟩ := v; rfl
    | rl ds => obtain ⟨a, xs, rfl, _⟩ := v; rfl
  · rfl
  · rfl
theorem op_isA (X : Cx) (_ : X.A.units + 64 < cLine) : OpR X (compareOp .Is) (fun x y H Q => y = .non ∧ Q (.bl (decide (x = .non))) H) := op_isN
theorem op_nsA (X : Cx) (_ : X.A.units + 64 < cLine) : OpR X (compareOp .IsNot) (fun x y H Q => y = .non ∧ Q (.bl (!decide (x = .non))) H) := op_notN
theorem isnD_ok {K : PySem.W.Frag} : R2ok K (fun x y H Q => y = .non ∧ Q (.bl (decide (x = .non))) H) isnD := by
  intro h H x y dx dy res Q hs vx vy e k
  unfold isnD at e
  split at e
  · cases e
    exact ⟨vw_non vy, by rw [isN_ok vx]; exact k _ _ (resS rfl)⟩
  · cases e
theorem nsnD_ok {K : PySem.W.Frag} : R2ok K (fun x y H Q => y = .non ∧ Q (.bl (!decide (x = .non))) H) nsnD := by
  intro h H x y dx dy res Q hs vx vy e k
  unfold nsnD at e
  split at e
  · cases e
    exact ⟨vw_non vy, by rw [isN_ok vx]; exact k _ _ (resS rfl)⟩
  · cases e
/-- in, not in: a sign of a text; flat data among flat data -/
def flatD : D → Bool
  | .non => true | .bl _ => true | .int _ => true | .str _ => true
  | _ => false
def eqF : D → D → Bool
  | .non, .non => true
  | .bl a, .bl b => a == b
  | .bl a, .int b => (if a then 1 else 0) == b
  | .int a, .bl b => a == (if b then 1 else 0)
  | .int a, .int b => a == b
  | .str a, .str b => a == b
  | _, _ => false
def inB : D → D → Option Bool
  | .str ⟨⟨[c]⟩⟩, .str z => some (decide (c ∈ z.cps.toList))
  | d, .lst ds => if flatD d = true ∧ ds.all flatD = true then some (ds.any fun e => eqF e d) else none
  | d, .tup ds => if flatD d = true ∧ ds.all flatD = true then some (ds.any fun e => eqF e d) else none
  | _, _ => none
def inD (a b : D) : Option Res := (inB a b).map fun k => .s (.bl k)
def ninD (a b : D) : Option Res := (inB a b).map fun k => .s (.bl (!k))
theorem flat_ok {K : PySem.W.Frag} {h H : Hp} {d : D} {x : V} (v : Rep K h d x) (e : flatD d = true) : flatV x = true := by
  cases d with
  | non => cases v; rfl
  | bl b => cases v; rfl
  | int b => cases v; rfl
  | str b => cases v; rfl
  | _ => cases e
theorem eqF_ok {K : PySem.W.Frag} {h : Hp} {d e : D} {x y : V} (v : Rep K h d x) (w : Rep K h e y) (f1 : flatD d = true) (f2 : flatD e = true) : eqV x y = eqF d e := by
  cases d <;> first
    | (cases f1; done)
    | skip
  all_goals (cases e <;> first
    | (cases f2; done)
    | skip)
  all_goals (cases v; cases w; rfl)
theorem flats_ok {K : PySem.W.Frag} {h : Hp} : ∀ {ds : List D} {xs : List V}, Reps K h ds xs → ds.all flatD = true → xs.all flatV = true
  | [], _, r, _ => by cases r; rfl
  | d :: ds, _, ⟨x, r, e1, e2, e3⟩, f => by
    subst e1
    rw [List.all_cons, Bool.and_eq_true] at f ⊢
    exact ⟨flat_ok (H := h) e2 f.1, flats_ok e3 f.2⟩
theorem any_ok {K : PySem.W.Frag} {h : Hp} {d : D} {x : V} (v : Rep K h d x) (f1 : flatD d = true) : ∀ {ds : List D} {xs : List V}, Reps K h ds xs → ds.all flatD = true → inV x xs = ds.any fun e => eqF e d
  | [], _, r, _ => by cases r; rfl
  | e :: ds, _, ⟨y, r, e1, e2, e3⟩, f => by
    subst e1
    rw [List.all_cons, Bool.and_eq_true] at f
    show (eqV y x || inV x r) = (eqF e d || _)
    rw [eqF_ok e2 v f.1 f1, any_ok v f1 e3 f.2]
theorem vw_flat {K : PySem.W.Frag} {h H : Hp} {d : D} {x : V} (v : Vw K h H d x) (f : flatD d = true) : Rep K h d x := by
  rcases v with v | ⟨ds, a, xs, rfl, _⟩ | ⟨ks, ds, a, xs, rfl, _⟩
  · exact v
  · cases f
  · cases f
def rInA (K : PySem.W.Frag) : R2 := fun x y H Q => (∃ (c : Nat) (z : Str), x = .str ⟨#[c]⟩ ∧ y = .str z ∧ Q (.bl (decide (c ∈ z.cps.toList))) H) ∨ rIn K false x y H Q
def rNinA (K : PySem.W.Frag) : R2 := fun x y H Q => (∃ (c : Nat) (z : Str), x = .str ⟨#[c]⟩ ∧ y = .str z ∧ Q (.bl (!decide (c ∈ z.cps.toList))) H) ∨ rIn K true x y H Q
theorem op_inA (X : Cx) (_ : X.A.units + 64 < cLine) : OpR X (compareOp .In) (rInA X.K) := op_in_sign.or op_in_seq
theorem op_ninA (X : Cx) (_ : X.A.units + 64 < cLine) : OpR X (compareOp .NotIn) (rNinA X.K) := op_notIn_sign.or op_notIn_seq
theorem inD_ok {K : PySem.W.Frag} : R2ok K (rInA K) inD := by
  intro h H x y dx dy res Q hs vx vy e k
  obtain ⟨b, e1, e⟩ := Option.map_eq_some_iff.mp e
  subst e
  unfold inB at e1
  split at e1
  · cases e1
    cases vw_str vx
    cases vw_str vy
    exact .inl ⟨_, _, rfl, rfl, k _ _ (resS rfl)⟩
  · split at e1
    · rename_i hf
      cases e1
      obtain ⟨a, xs, rfl, ha, ra⟩ := vw_lst hs vy
      have vx' := vw_flat vx hf.1
      exact .inr ⟨a, xs, rfl, .inl (sql ha), flat_ok (H := h) vx' hf.1, flats_ok ra hf.2, by
        rw [if_neg Bool.false_ne_true, any_ok vx' hf.1 ra hf.2]; exact k _ _ (resS rfl)⟩
    · cases e1
  · split at e1
    · rename_i hf
      cases e1
      obtain ⟨a, xs, rfl, ha, ra, _⟩ := vw_tup hs vy
      have vx' := vw_flat vx hf.1
      exact .inr ⟨a, xs, rfl, .inr ha, flat_ok (H := h) vx' hf.1, flats_ok ra hf.2, by
        rw [if_neg Bool.false_ne_true, any_ok vx' hf.1 ra hf.2]; exact k _ _ (resS rfl)⟩
    · cases e1
  · cases e1
theorem ninD_ok {K : PySem.W.Frag} : R2ok K (rNinA K) ninD := by
  intro h H x y dx dy res Q hs vx vy e k
  obtain ⟨b, e1, e⟩ := Option.map_eq_some_iff.mp e
  subst e
  unfold inB at e1
  split at e1
  · cases e1
    cases vw_str vx
    cases vw_str vy
    exact .inl ⟨_, _, rfl, rfl, k _ _ (resS rfl)⟩
  · split at e1
    · rename_i hf
      cases e1
      obtain ⟨a, xs, rfl, ha, ra⟩ := vw_lst hs vy
      have vx' := vw_flat vx hf.1
      exact .inr ⟨a, xs, rfl, .inl (sql ha), flat_ok (H := h) vx' hf.1, flats_ok ra hf.2, by
        rw [if_pos rfl, any_ok vx' hf.1 ra hf.2]; exact k _ _ (resS rfl)⟩
    · cases e1
  · split at e1
    · rename_i hf
      cases e1
      obtain ⟨a, xs, rfl, ha, ra, _⟩ := vw_tup hs vy
      have vx' := vw_flat vx hf.1
      exact .inr ⟨a, xs, rfl, .inr ha, flat_ok (H := h) vx' hf.1, flats_ok ra hf.2, by
        rw [if_pos rfl, any_ok vx' hf.1 ra hf.2]; exact k _ _ (resS rfl)⟩
    · cases e1
  · cases e1

/-! ### items, slices -/
def ixD : D → D → Option Res
  | .lst ds, .int i => (atI ds i).map .s
  | .tup ds, .int i => (atI ds i).map .s
  | .rl ds, .int i => (atI ds i).map .s
  | .str z, .int i => if z.length ≤ 1000000 then (atI z.cps.toList i).map fun c => .s (.str ⟨#[c]⟩) else none
  | _, _ => none
theorem Reps.atI {K : PySem.W.Frag} {h : Hp} {ds : List D} {xs : List V} {i : Int} {d : D} (r : Reps K h ds xs) (e : L2.atI ds i = some d) : ∃ v, L2.atI xs i = some v ∧ Rep K h d v := by
  unfold L2.atI at e ⊢
  rw [← r.length]
  obtain ⟨j, e1, e2⟩ := Option.bind_eq_some_iff.mp e
  obtain ⟨v, h1, h2⟩ := r.get e2
  exact ⟨v, Option.bind_eq_some_iff.mpr ⟨j, e1, h1⟩, h2⟩
theorem ixD_ok {K : PySem.W.Frag} : R2ok K (rIx K) ixD := by
  intro h H x y dx dy res Q hs vx vy e k
  unfold ixD at e
  split at e
  · obtain ⟨d, e1, e⟩ := Option.map_eq_some_iff.mp e
    subst e
    obtain ⟨a, xs, rfl, ha, ra⟩ := vw_lst hs vx
    cases vw_int vy
    obtain ⟨v, h1, h2⟩ := ra.atI e1
    exact .inl ⟨a, xs, _, v, rfl, rfl, sql ha, h1, k _ _ (resS h2)⟩
  · obtain ⟨d, e1, e⟩ := Option.map_eq_some_iff.mp e
    subst e
    obtain ⟨a, xs, rfl, ha, ra, _⟩ := vw_tup hs vx
    cases vw_int vy
    obtain ⟨v, h1, h2⟩ := ra.atI e1
    exact .inr (.inl ⟨a, xs, _, v, rfl, rfl, ha, h1, k _ _ (resS h2)⟩)
  · obtain ⟨d, e1, e⟩ := Option.map_eq_some_iff.mp e
    subst e
    obtain ⟨a, xs, rfl, ha, ra⟩ := vw_rl hs vx
    cases vw_int vy
    obtain ⟨v, h1, h2⟩ := ra.atI e1
    exact .inl ⟨a, xs, _, v, rfl, rfl, ha, h1, k _ _ (resS h2)⟩
  · split at e
    · rename_i hz
      obtain ⟨c, e1, e⟩ := Option.map_eq_some_iff.mp e
      subst e
      cases vw_str vx
      cases vw_int vy
      exact .inr (.inr ⟨_, _, c, rfl, rfl, line1 hz, e1, k _ _ (resS rfl)⟩)
    · cases e
  · cases e
/-- the items of ds[lo:hi] -/
def cutD (ds : List D) (lo hi : Option Int) : List D := (ds.drop (HT.sIx ds.length 0 lo)).take (HT.sIx ds.length ds.length hi - HT.sIx ds.length 0 lo)
theorem Reps.cut {K : PySem.W.Frag} {h : Hp} {ds : List D} {xs : List V} (r : Reps K h ds xs) (lo hi : Option Int) : Reps K h (cutD ds lo hi) (cutV xs lo hi) := by
  unfold cutD cutV
  rw [← r.length]
  exact (r.drop _).take _
def slD (d : D) (lo hi : Option Int) : Option Res := match d with
  | .lst ds => some (.nl (cutD ds lo hi))
  | .rl ds => some (.nl (cutD ds lo hi))
  | .str z => if z.length ≤ 1000000 then some (.s (.str (cutS z lo hi))) else none
  | .tup ds => if HT.sIx ds.length 0 lo = 0 ∧ HT.sIx ds.length ds.length hi = ds.length then none else some (.nt (cutD ds lo hi))
  | _ => none
def rSlA (K : PySem.W.Frag) : V → Option Int → Option Int → Hp → VK → Prop := fun x lo hi H Q => rSlL K x lo hi H Q ∨ rSlS x lo hi H Q ∨ rSlT K x lo hi H Q
theorem sl_any (X : Cx) : SlR X (rSlA X.K) := sl_list.or (sl_str.or sl_tup)
theorem slD_ok {K : PySem.W.Frag} : RSok K (rSlA K) slD := by
  intro h H x dx lo hi res Q hs vx e k
  unfold slD at e
  split at e
  · cases e
    obtain ⟨a, xs, rfl, ha, ra⟩ := vw_lst hs vx
    exact .inl ⟨a, xs, rfl, sql ha, fun p hp => k _ _ (resL hp (ra.cut lo hi))⟩
  · cases e
    obtain ⟨a, xs, rfl, ha, ra⟩ := vw_rl hs vx
    exact .inl ⟨a, xs, rfl, ha, fun p hp => k _ _ (resL hp (ra.cut lo hi))⟩
  · split at e
    · rename_i hz
      cases e
      cases vw_str vx
      exact .inr (.inl ⟨_, rfl, line1 hz, k _ _ (resS rfl)⟩)
    · cases e
  · split at e
    · cases e
    · rename_i hz
      cases e
      obtain ⟨a, xs, rfl, ha, ra, _⟩ := vw_tup hs vx
      exact .inr (.inr ⟨a, xs, rfl, ha, by rw [← ra.length]; exact hz, fun p hp => k _ _ (resT hp (ra.cut lo hi))⟩)
  · cases e

/-! ### built-ins -/
def lenD : List D → Option Res
  | [.lst ds] => some (.s (.int ds.length))
  | [.tup ds] => some (.s (.int ds.length))
  | [.rl ds] => some (.s (.int ds.length))
  | [.str z] => if z.length ≤ 1000000 then some (.s (.int z.length)) else none
  | _ => none
def rLenA (K : PySem.W.Frag) : List V → Hp → VK → Prop := fun xs H Q => ∃ x n, xs = [x] ∧ LenV K x H n ∧ Q (.int n) H
theorem cb_len (X : Cx) (_ : X.calm = true) : CallR X (.builtin "len") (rLenA X.K) := call_len
theorem lenD_ok {K : PySem.W.Frag} : RLok K (rLenA K) lenD := by
  intro h H xs ds res Q hs v e k
  unfold lenD at e
  split at e
  · cases e
    obtain ⟨x, r, rfl, vx, rfl⟩ := v
    obtain ⟨a, xs, rfl, ha, ra⟩ := vw_lst hs vx
    exact ⟨_, _, rfl, .inl ⟨xs, sql ha, ra.length⟩, k _ _ (resS rfl)⟩
  · cases e
    obtain ⟨x, r, rfl, vx, rfl⟩ := v
    obtain ⟨a, xs, rfl, ha, ra, _⟩ := vw_tup hs vx
    exact ⟨_, _, rfl, .inr ⟨xs, ha, ra.length⟩, k _ _ (resS rfl)⟩
  · cases e
    obtain ⟨x, r, rfl, vx, rfl⟩ := v
    obtain ⟨a, xs, rfl, ha, ra⟩ := vw_rl hs vx
    exact ⟨_, _, rfl, .inl ⟨xs, ha, ra.length⟩, k _ _ (resS rfl)⟩
  · split at e
    · rename_i hz
      cases e
      obtain ⟨x, r, rfl, vx, rfl⟩ := v
      cases vw_str vx
      exact ⟨_, _, rfl, ⟨line1 hz, rfl⟩, k _ _ (resS rfl)⟩
    · cases e
  · cases e
def intD : List D → Option Res
  | [.int i] => some (.s (.int i))
  | [.bl b] => some (.s (.int (if b then 1 else 0)))
  | _ => none
def rIntA : List V → Hp → VK → Prop := fun xs H Q => (∃ i, xs = [.int i] ∧ Q (.int i) H) ∨ ∃ k, xs = [.bl k] ∧ Q (.int (if k then 1 else 0)) H
theorem cb_int (X : Cx) (_ : X.calm = true) : CallR X (.type "int") rIntA := call_int1
theorem intD_ok {K : PySem.W.Frag} : RLok K rIntA intD := by
  intro h H xs ds res Q hs v e k
  unfold intD at e
  split at e
  · cases e
    obtain ⟨x, r, rfl, vx, rfl⟩ := v
    cases vw_int vx
    exact .inl ⟨_, rfl, k _ _ (resS rfl)⟩
  · cases e
    obtain ⟨x, r, rfl, vx, rfl⟩ := v
    cases vw_bl vx
    exact .inr ⟨_, rfl, k _ _ (resS rfl)⟩
  · cases e
def listD : List D → Option Res
  | [.lst ds] => some (.nl ds)
  | [.tup ds] => some (.nl ds)
  | [.rl ds] => some (.nl ds)
  | _ => none
def rListA (K : PySem.W.Frag) : List V → Hp → VK → Prop := fun xs H Q => ∃ p ys, xs = [.ref p] ∧ (SqL K H p ys ∨ SqT K H p ys) ∧ ∀ l, H l = none → Q (.ref l) (upd H l (.lst ys))
theorem cb_list (X : Cx) (_ : X.calm = true) : CallR X (.type "list") (rListA X.K) := call_list_of
theorem listD_ok {K : PySem.W.Frag} : RLok K (rListA K) listD := by
  intro h H xs ds res Q hs v e k
  unfold listD at e
  split at e
  · cases e
    obtain ⟨x, r, rfl, vx, rfl⟩ := v
    obtain ⟨a, xs, rfl, ha, ra⟩ := vw_lst hs vx
    exact ⟨_, _, rfl, .inl (sql ha), fun p hp => k _ _ (resL hp ra)⟩
  · cases e
    obtain ⟨x, r, rfl, vx, rfl⟩ := v
    obtain ⟨a, xs, rfl, ha, ra, _⟩ := vw_tup hs vx
    exact ⟨_, _, rfl, .inr ha, fun p hp => k _ _ (resL hp ra)⟩
  · cases e
    obtain ⟨x, r, rfl, vx, rfl⟩ := v
    obtain ⟨a, xs, rfl, ha, ra⟩ := vw_rl hs vx
    exact ⟨_, _, rfl, .inl ha, fun p hp => k _ _ (resL hp ra)⟩
  · cases e
def max2D : List D → Option Res
  | [.int i, .int j] => some (.s (.int (if j > i then j else i)))
  | _ => none
def min2D : List D → Option Res
  | [.int i, .int j] => some (.s (.int (if j < i then j else i)))
  | _ => none
def rMax2A : List V → Hp → VK → Prop := fun xs H Q => ∃ i j, xs = [.int i, .int j] ∧ Q (.int (if j > i then j else i)) H
def rMin2A : List V → Hp → VK → Prop := fun xs H Q => ∃ i j, xs = [.int i, .int j] ∧ Q (.int (if j < i then j else i)) H
theorem cb_max2 (X : Cx) (h : X.calm = true) : CallR X (.builtin "max") rMax2A := call_max2 h
theorem cb_min2 (X : Cx) (h : X.calm = true) : CallR X (.builtin "min") rMin2A := call_min2 h
theorem max2D_ok {K : PySem.W.Frag} : RLok K rMax2A max2D := by
  intro h H xs ds res Q hs v e k
  unfold max2D at e
  split at e
  · cases e
    obtain ⟨x, r, rfl, vx, y, r2, rfl, vy, rfl⟩ := v
    cases vw_int vx
    cases vw_int vy
    exact ⟨_, _, rfl, k _ _ (resS rfl)⟩
  · cases e
theorem min2D_ok {K : PySem.W.Frag} : RLok K rMin2A min2D := by
  intro h H xs ds res Q hs v e k
  unfold min2D at e
  split at e
  · cases e
    obtain ⟨x, r, rfl, vx, y, r2, rfl, vy, rfl⟩ := v
    cases vw_int vx
    cases vw_int vy
    exact ⟨_, _, rfl, k _ _ (resS rfl)⟩
  · cases e
/-- a list of truth values -/
def bools : List D → Option (List Bool)
  | [] => some []
  | .bl b :: ds => (bools ds).map fun bs => b :: bs
  | _ :: _ => none
theorem bools_ok {K : PySem.W.Frag} {h : Hp} : ∀ {ds : List D} {xs : List V} {bs : List Bool}, Reps K h ds xs → bools ds = some bs → xs = bs.map V.bl
  | [], _, _, r, e => by cases r; cases e; rfl
  | .bl b :: ds, _, _, ⟨x, r, e1, e2, e3⟩, e => by
    obtain ⟨bs1, q, e⟩ := Option.map_eq_some_iff.mp e
    subst e
    have e2' : x = .bl b := e2
    rw [e1, e2', bools_ok e3 q]
    rfl
  | .non :: _, _, _, _, e => by cases e
  | .int _ :: _, _, _, _, e => by cases e
  | .str _ :: _, _, _, _, e => by cases e
  | .tup _ :: _, _, _, _, e => by cases e
  | .lst _ :: _, _, _, _, e => by cases e
  | .rl _ :: _, _, _, _, e => by cases e
  | .ty _ :: _, _, _, _, e => by cases e
def allD : List D → Option Res
  | [.lst ds] => (bools ds).map fun bs => .s (.bl (bs.all id))
  | _ => none
def anyD : List D → Option Res
  | [.lst ds] => (bools ds).map fun bs => .s (.bl (bs.any id))
  | _ => none
theorem cb_all (X : Cx) (h : X.calm = true) : CallR X (.builtin "all") (rAll X.K) := cr_all h
theorem cb_any (X : Cx) (h : X.calm = true) : CallR X (.builtin "any") (rAny X.K) := cr_any h
theorem allD_ok {K : PySem.W.Frag} : RLok K (rAll K) allD := by
  intro h H xs ds res Q hs v e k
  unfold allD at e
  split at e
  · obtain ⟨bs, e1, e⟩ := Option.map_eq_some_iff.mp e
    subst e
    obtain ⟨x, r, rfl, vx, rfl⟩ := v
    obtain ⟨a, xs, rfl, ha, ra⟩ := vw_lst hs vx
    exact ⟨a, bs, rfl, by rw [← bools_ok ra e1]; exact sql ha, k _ _ (resS rfl)⟩
  · cases e
theorem anyD_ok {K : PySem.W.Frag} : RLok K (rAny K) anyD := by
  intro h H xs ds res Q hs v e k
  unfold anyD at e
  split at e
  · obtain ⟨bs, e1, e⟩ := Option.map_eq_some_iff.mp e
    subst e
    obtain ⟨x, r, rfl, vx, rfl⟩ := v
    obtain ⟨a, xs, rfl, ha, ra⟩ := vw_lst hs vx
    exact ⟨a, bs, rfl, by rw [← bools_ok ra e1]; exact sql ha, k _ _ (resS rfl)⟩
  · cases e
/-- isinstance with a written built-in class -/
def tyN : D → Option String
  | .non => some "NoneType" | .bl _ => some "bool" | .int _ => some "int" | .str _ => some "str" | .tup _ => some "tuple" | .lst _ => some "list" | .rl _ => some "list"
  | .ty _ => none
  | .ins _ _ _ => none
  | .dc _ _ => some "dict"
def isiD : List D → Option Res
  | [d, .ty n] => (tyN d).bind fun m => (kitB m n).map fun b => .s (.bl b)
  | _ => none
theorem cb_isi (X : Cx) (_ : X.calm = true) : CallR X (.builtin "isinstance") (rIsi X.K) := call_isi
theorem tyT {K : PySem.W.Frag} {H : Hp} {a : Addr} {xs : List V} (h : SqT K H a xs) : TyX K H (.ref a) (.type "tuple") := by
  rcases h with (h | ⟨o, h⟩) | ⟨o, its, n, h1, h2, _⟩
  · exact .base (.tup h)
  · exact .fTuple h
  · exact .kTuple h1 h2
theorem tyL {K : PySem.W.Frag} {H : Hp} {a : Addr} {xs : List V} (h : SqL K H a xs) : TyX K H (.ref a) (.type "list") := by
  rcases h with (h | ⟨o, h⟩) | ⟨o, its, n, h1, h2, _⟩
  · exact .base (.lst h)
  · exact .base (.frz h)
  · exact .kList h1 h2
theorem isiD_ok {K : PySem.W.Frag} : RLok K (rIsi K) isiD := by
  intro h H xs ds res Q hs v e k
  unfold isiD at e
  split at e
  · rename_i d n
    obtain ⟨m, e1, e⟩ := Option.bind_eq_some_iff.mp e
    obtain ⟨b, e2, e⟩ := Option.map_eq_some_iff.mp e
    subst e
    obtain ⟨x, r, rfl, vx, y, r2, rfl, vy, rfl⟩ := v
    cases vw_ty vy
    have ty : TyX K H x (.type m) := by
      cases d with
      | non => cases e1; cases vw_non vx; exact .base .non
      | bl b => cases e1; cases vw_bl vx; exact .base (.bl _)
      | int b => cases e1; cases vw_int vx; exact .base (.int _)
      | str b => cases e1; cases vw_str vx; exact .base (.str _)
      | ty b => cases e1
      | ins c ns ds => cases e1
      | dc ks ds =>
        cases e1
        rcases vx with ⟨a, xs, rfl, ha, _⟩ | ⟨_, _, _, q, _⟩ | ⟨_, _, a, xs, q, rfl, ha, _⟩
        · exact .base (.dK (hs _ _ ha))
        · cases q
        · exact .base (.dK ha)
      | tup ds => cases e1; obtain ⟨a, xs, rfl, ha, _⟩ := vw_tup hs vx; exact tyT ha
      | lst ds => cases e1; obtain ⟨a, xs, rfl, ha, _⟩ := vw_lst hs vx; exact tyL (sql ha)
      | rl ds => cases e1; obtain ⟨a, xs, rfl, ha, _⟩ := vw_rl hs vx; exact tyL ha
    exact ⟨x, _, _, _, b, rfl, .ty n, ty, kit_ty e2, k _ _ (resS rfl)⟩
  · cases e

/-! ### methods of texts -/
def strs? : List D → Option (List Str)
  | [] => some []
  | .str s :: ds => (strs? ds).map fun ss => s :: ss
  | _ :: _ => none
theorem strs_ok {K : PySem.W.Frag} {h : Hp} : ∀ {ds : List D} {xs : List V} {ss : List Str}, Reps K h ds xs → strs? ds = some ss → xs = ss.map V.str
  | [], _, _, r, e => by cases r; cases e; rfl
  | .str b :: ds, _, _, ⟨x, r, e1, e2, e3⟩, e => by
    obtain ⟨bs1, q, e⟩ := Option.map_eq_some_iff.mp e
    subst e
    have e2' : x = .str b := e2
    rw [e1, e2', strs_ok e3 q]
    rfl
  | .non :: _, _, _, _, e => by cases e
  | .int _ :: _, _, _, _, e => by cases e
  | .bl _ :: _, _, _, _, e => by cases e
  | .tup _ :: _, _, _, _, e => by cases e
  | .lst _ :: _, _, _, _, e => by cases e
  | .rl _ :: _, _, _, _, e => by cases e
  | .ty _ :: _, _, _, _, e => by cases e
  | .ins _ _ _ :: _, _, _, _, e => by cases e
def joinD (s : Str) : D → Option Res
  | .lst ds => (strs? ds).bind fun ss => if (ss.map (·.length)).sum + ss.length * s.length ≤ 1000000 then some (.s (.str (Txt.join s ss))) else none
  | .tup ds => (strs? ds).bind fun ss => if (ss.map (·.length)).sum + ss.length * s.length ≤ 1000000 then some (.s (.str (Txt.join s ss))) else none
  | _ => none
def rJoinA (K : PySem.W.Frag) : V → List V → Hp → VK → Prop := fun x xs H Q => ∃ a p, ∃ ys : List Str, x = .str a ∧ xs = [.ref p] ∧ (SqL K H p (ys.map V.str) ∨ SqT K H p (ys.map V.str)) ∧
    (ys.map (·.length)).sum + ys.length * a.length ≤ 16777216 ∧ Q (.str (Txt.join a ys)) H
theorem mt_joinA (X : Cx) : MtR X "str.join" (rJoinA X.K) := mt_join
theorem joinD_ok {K : PySem.W.Frag} : RM1ok K (rJoinA K) joinD := by
  intro h H s y dy res Q hs vy e k
  unfold joinD at e
  split at e
  · obtain ⟨ss, e1, e⟩ := Option.bind_eq_some_iff.mp e
    split at e
    · rename_i hz
      cases e
      obtain ⟨a, xs, rfl, ha, ra⟩ := vw_lst hs vy
      exact ⟨s, a, ss, rfl, rfl, .inl (by rw [← strs_ok ra e1]; exact sql ha), Nat.le_trans hz (by decide), k _ _ (resS rfl)⟩
    · cases e
  · obtain ⟨ss, e1, e⟩ := Option.bind_eq_some_iff.mp e
    split at e
    · rename_i hz
      cases e
      obtain ⟨a, xs, rfl, ha, ra, _⟩ := vw_tup hs vy
      exact ⟨s, a, ss, rfl, rfl, .inr (by rw [← strs_ok ra e1]; exact ha), Nat.le_trans hz (by decide), k _ _ (resS rfl)⟩
    · cases e
  · cases e
def lowD (s : Str) : Option Res := if s.length ≤ 1000000 then some (.s (.str (Txt.lower s))) else none
def uppD (s : Str) : Option Res := if s.length ≤ 1000000 then some (.s (.str (Txt.upper s))) else none
def rLowA : V → List V → Hp → VK → Prop := fun x xs H Q => ∃ a, x = .str a ∧ xs = [] ∧ a.length ≤ 5592405 ∧ Q (.str (Txt.lower a)) H
def rUppA : V → List V → Hp → VK → Prop := fun x xs H Q => ∃ a, x = .str a ∧ xs = [] ∧ a.length ≤ 5592405 ∧ Q (.str (Txt.upper a)) H
theorem mt_lowA (X : Cx) : MtR X "str.lower" rLowA := mt_lower
theorem mt_uppA (X : Cx) : MtR X "str.upper" rUppA := mt_upper
theorem lowD_ok {K : PySem.W.Frag} : RM0ok K rLowA lowD := by
  intro h H s res Q hs e k
  unfold lowD at e
  split at e
  · rename_i hz
    cases e
    exact ⟨s, rfl, rfl, by omega, k _ _ (resS rfl)⟩
  · cases e
theorem uppD_ok {K : PySem.W.Frag} : RM0ok K rUppA uppD := by
  intro h H s res Q hs e k
  unfold uppD at e
  split at e
  · rename_i hz
    cases e
    exact ⟨s, rfl, rfl, by omega, k _ _ (resS rfl)⟩
  · cases e
/-- a built-in class as a value -/
theorem re_tyc {C : Cd} {N : List Str} {sc : Sk} {pos : Pos} {x : Str} {T : String} (hm : C.mg x = none) (hv : bootBuiltins x = some (.type T)) (h : gloB sc x = true := by decide +kernel) : RE C N sc (.Name x pos) (m_c (.ty T)) :=
  ⟨tC (.ty T), fun X g => pe_bltn (g.gl h) (by rw [g.mg]; exact hm) hv rfl (okName_d (gloB_ok h).2).2.2 (okName_d (gloB_ok h).2).1, rf_c fun _ => rfl⟩
end Mr
namespace Mr
open PySem PySem.Spec PyProof.Rows L2
theorem re_gstrE {C : Cd} {N : List Str} {sc : Sk} {pos : Pos} {x s : Str} (hm : ∃ t, C.mg x = some (.str s t)) (h : gloB sc x = true := by decide +kernel) : RE C N sc (.Name x pos) (m_c (.str s)) := let ⟨_, e⟩ := hm; re_gstr e h
theorem re_gintE {C : Cd} {N : List Str} {sc : Sk} {pos : Pos} {x : Str} {i : Int} (hm : ∃ t, C.mg x = some (.int i t)) (h : gloB sc x = true := by decide +kernel) : RE C N sc (.Name x pos) (m_c (.int i)) := let ⟨_, e⟩ := hm; re_gint e h
end Mr
namespace Mr
open PySem PySem.Spec PyProof.Rows L2
/-- the law's promise from its mirror -/
theorem spM_law {K : PySem.W.Frag} {g : List O → Option (O × List O)} {H : Hp} {a : Addr} {ns : List Int} {outs : List O} {E : XK} (hS : SqL K H a (ns.map V.int)) (e : g [.v (.rl (ns.map D.int))] = some (.v (.bl true), outs)) : spM K 1 g [.ref a] H (fun v _ => v = .bl true) E := by
  have r0 : RelAt K ⟨[], H, []⟩ [] ([] : Cells) H := ⟨rfl, List.nodup_nil, (fun _ z => nomatch z), (fun _ z => nomatch z), (fun _ _ e _ => e), (fun _ z => nomatch z)⟩
  have e0 : hid ([] ++ ([] : List Addr)) H = H := by
    funext b
    exact hid_out (by simp)
  have r1 : RelAt K ⟨[], H, []⟩ [] [(.v (.rl (ns.map D.int)), some (.ref a))] H := ⟨⟨[], [], ⟨rfl, .ref a, rfl, a, ns.map V.int, rfl, by rw [e0]; exact hS, Reps.of_ints ns⟩, rfl, rfl⟩, r0.nd, r0.dj, r0.bt, r0.fr, r0.ow⟩
  refine ⟨rfl, [], [], [.v (.rl (ns.map D.int))], .v (.bl true), outs, rfl, r1, e, fun v H' q => ?_⟩
  obtain ⟨F, y, _, e1, q1⟩ := q.val List.mem_cons_self
  cases e1
  exact q1
end Mr

end
section
set_option Elab.async false
set_option linter.all false
set_option maxRecDepth 100000
set_option maxHeartbeats 4000000
/-! MrW: stepping through mirrors: what is wanted of a mirror's outcome, rule by rule. -/
namespace Mr
open PySem PySem.Spec PyProof.Rows L2

def WE (x : Option (O × List O)) (P : O → List O → Prop) : Prop := ∃ o ρ, x = some (o, ρ) ∧ P o ρ
/-- the same of a def's mirror -/
def WG (x : Option (O × List O)) (P : O → List O → Prop) : Prop := ∃ o ρ, x = some (o, ρ) ∧ P o ρ
def WP (x : Option (Pr × List O)) (P : Pr → List O → Prop) : Prop := ∃ o ρ, x = some (o, ρ) ∧ P o ρ
def WA (x : Option (List Pr × List O)) (P : List Pr → List O → Prop) : Prop := ∃ o ρ, x = some (o, ρ) ∧ P o ρ
def WT (x : Option (Bool × List O)) (P : Bool → List O → Prop) : Prop := ∃ o ρ, x = some (o, ρ) ∧ P o ρ
def WI (x : Option (List D × List O)) (P : List D → List O → Prop) : Prop := ∃ o ρ, x = some (o, ρ) ∧ P o ρ
def WO (x : Option (Option Int × List O)) (P : Option Int → List O → Prop) : Prop := ∃ o ρ, x = some (o, ρ) ∧ P o ρ
def WS (x : Option Out) (P : Out → Prop) : Prop := ∃ o, x = some o ∧ P o
def WR (x : Option Res) (P : O → Prop) : Prop := ∃ r, x = some r ∧ P r.o
def WV (x : Option D) (P : D → Prop) : Prop := ∃ d, x = some d ∧ P d
def WVs (x : Option (List D)) (P : List D → Prop) : Prop := ∃ d, x = some d ∧ P d
def WX (x : Option Nat) (P : Nat → Prop) : Prop := ∃ j, x = some j ∧ P j
theorem wx_i {x : Option Nat} {j : Nat} {P : Nat → Prop} (e : x = some j) (h : P j) : WX x P := ⟨j, e, h⟩
def WK (x : Option (List O × List O)) (P : List O → List O → Prop) : Prop := ∃ o ρ, x = some (o, ρ) ∧ P o ρ
section
variable {ρ : List O} {P : O → List O → Prop}
theorem WG.get {x : Option (O × List O)} (h : WG x P) : ∃ r outs, x = some (r, outs) ∧ P r outs := h
theorem we_c {d : D} (h : P (.v d) ρ) : WE (m_c d ρ) P := ⟨_, _, rfl, h⟩
theorem we_var {i : Nat} {d : D} (e : ρ[i]? = some (.v d)) (h : P (.v d) ρ) : WE (m_var i ρ) P := ⟨_, _, by unfold m_var; rw [e], h⟩
theorem we_varL {i : Nat} {ds : List D} (e : ρ[i]? = some (.l ds)) (h : P (.v (.lst ds)) (ρ.set i (.v (.lst ds)))) : WE (m_var i ρ) P := ⟨_, _, m_var_o e rfl, h⟩
theorem we_mv {i : Nat} {d : D} (e : ρ[i]? = some (.v d)) (h : P (.v d) ρ) : WE (m_mv i ρ) P := ⟨_, _, by unfold m_mv; rw [e], h⟩
theorem we_mvL {i : Nat} {ds : List D} (e : ρ[i]? = some (.l ds)) (h : P (.l ds) (ρ.set i .n)) : WE (m_mv i ρ) P := ⟨_, _, by unfold m_mv; rw [e], h⟩
theorem we_op2 {f : D → D → Option Res} {ma mb : MP} (h : WP (ma ρ) fun p1 ρ1 => WP (mb ρ1) fun p2 ρ2 => WV (vw ρ2 p1) fun d1 => WV (vw ρ2 p2) fun d2 => WR (f d1 d2) fun o => P o ρ2) : WE (m_op2 f ma mb ρ) P := by
  obtain ⟨p1, ρ1, e1, p2, ρ2, e2, d1, e3, d2, e4, r, e5, q⟩ := h
  exact ⟨r.o, ρ2, by unfold m_op2; rw [e1]; simp only [Option.bind_some]; rw [e2]; simp only [Option.bind_some]; rw [e3, e4]; simp only [Option.bind_some]; rw [e5]; rfl, q⟩
theorem we_op1 {f : D → Option Res} {ma : MP} (h : WP (ma ρ) fun p1 ρ1 => WV (vw ρ1 p1) fun d1 => WR (f d1) fun o => P o ρ1) : WE (m_op1 f ma ρ) P := by
  obtain ⟨p1, ρ1, e1, d1, e3, r, e5, q⟩ := h
  exact ⟨r.o, ρ1, by unfold m_op1; rw [e1]; simp only [Option.bind_some]; rw [e3]; simp only [Option.bind_some]; rw [e5]; rfl, q⟩
theorem we_bi {f : List D → Option Res} {ma : MA} (h : WA (ma ρ) fun ps ρ1 => WVs (vws ρ1 ps) fun ds => WR (f ds) fun o => P o ρ1) : WE (m_bi f ma ρ) P := by
  obtain ⟨ps, ρ1, e1, ds, e3, r, e5, q⟩ := h
  exact ⟨r.o, ρ1, by unfold m_bi; rw [e1]; simp only [Option.bind_some]; rw [e3]; simp only [Option.bind_some]; rw [e5]; rfl, q⟩
theorem we_lst {ma : MA} (h : WA (ma ρ) fun ps ρ1 => WVs (plains ρ1 ps) fun ds => ds.length ≤ 100000 ∧ P (.l ds) ρ1) : WE (m_lst ma ρ) P := by
  obtain ⟨ps, ρ1, e1, ds, e3, hz, q⟩ := h
  exact ⟨_, ρ1, by unfold m_lst; rw [e1]; simp only [Option.bind_some]; rw [e3]; simp only [Option.bind_some]; rw [if_pos hz], q⟩
theorem we_tup {ma : MA} (h : WA (ma ρ) fun ps ρ1 => WVs (plains ρ1 ps) fun ds => ds.length ≤ 100000 ∧ P (.v (.tup ds)) ρ1) : WE (m_tup ma ρ) P := by
  obtain ⟨ps, ρ1, e1, ds, e3, hz, q⟩ := h
  exact ⟨_, ρ1, by unfold m_tup; rw [e1]; simp only [Option.bind_some]; rw [e3]; simp only [Option.bind_some]; rw [if_pos hz], q⟩
theorem we_call {g : List O → Option (O × List O)} {ma : MA} (h : WA (ma ρ) fun ps ρ1 => WK (tk ps ρ1) fun os ρ2 => WG (g os) fun r outs => P r (bk ps outs ρ2)) : WE (m_call g ma ρ) P := by
  obtain ⟨ps, ρ1, e1, os, ρ2, e3, r, outs, e5, q⟩ := h
  exact ⟨r, _, by unfold m_call; rw [e1]; simp only [Option.bind_some]; rw [e3]; simp only [Option.bind_some]; rw [e5]; rfl, q⟩
theorem we_if {t : MT} {a b : ME} (h : WT (t ρ) fun c ρ1 => if c = true then WE (a ρ1) P else WE (b ρ1) P) : WE (m_if t a b ρ) P := by
  obtain ⟨c, ρ1, e1, q⟩ := h
  cases c with
  | true => obtain ⟨o, ρ2, e2, q⟩ := q; exact ⟨o, ρ2, by unfold m_if; rw [e1]; simpa using e2, q⟩
  | false => obtain ⟨o, ρ2, e2, q⟩ := q; exact ⟨o, ρ2, by unfold m_if; rw [e1]; simpa using e2, q⟩
theorem we_andV {a b : ME} (h : WE (a ρ) fun o ρ1 => ∃ c, asB o = some c ∧ if c = true then WE (b ρ1) P else P (.v (.bl false)) ρ1) : WE (m_andV a b ρ) P := by
  obtain ⟨o, ρ1, e1, c, e2, q⟩ := h
  cases c with
  | true => obtain ⟨o, ρ2, e3, q⟩ := q; exact ⟨o, ρ2, by unfold m_andV; rw [e1]; simp only [Option.bind_some]; rw [e2]; simpa using e3, q⟩
  | false => exact ⟨_, ρ1, by unfold m_andV; rw [e1]; simp only [Option.bind_some]; rw [e2]; rfl, q⟩
theorem we_orV {a b : ME} (h : WE (a ρ) fun o ρ1 => ∃ c, asB o = some c ∧ if c = true then P (.v (.bl true)) ρ1 else WE (b ρ1) P) : WE (m_orV a b ρ) P := by
  obtain ⟨o, ρ1, e1, c, e2, q⟩ := h
  cases c with
  | false => obtain ⟨o, ρ2, e3, q⟩ := q; exact ⟨o, ρ2, by unfold m_orV; rw [e1]; simp only [Option.bind_some]; rw [e2]; simpa using e3, q⟩
  | true => exact ⟨_, ρ1, by unfold m_orV; rw [e1]; simp only [Option.bind_some]; rw [e2]; rfl, q⟩
theorem we_notV {a : ME} (h : WE (a ρ) fun o ρ1 => ∃ c, asB o = some c ∧ P (.v (.bl (!c))) ρ1) : WE (m_notV a ρ) P := by
  obtain ⟨o, ρ1, e1, c, e2, q⟩ := h
  exact ⟨_, ρ1, by unfold m_notV; rw [e1]; simp only [Option.bind_some]; rw [e2]; rfl, q⟩
theorem we_chain {f g : D → D → Option Res} {ma mb mc : MP} (h : WP (ma ρ) fun p1 ρ1 => WP (mb ρ1) fun p2 ρ2 => WV (vw ρ2 p1) fun d1 => WV (vw ρ2 p2) fun d2 => WR (f d1 d2) fun o => ∃ k, asB o = some k ∧ if k = true then (WP (mc ρ2) fun p3 ρ3 => WV (vw ρ3 p2) fun d2 => WV (vw ρ3 p3) fun d3 => WR (g d2 d3) fun o => P o ρ3) else P (.v (.bl false)) ρ2) : WE (m_chain f g ma mb mc ρ) P := by
  obtain ⟨p1, ρ1, e1, p2, ρ2, e2, d1, e3, d2, e4, r, e5, k, e6, q⟩ := h
  cases k with
  | true =>
    obtain ⟨p3, ρ3, e7, d2', e8, d3, e9, r', e10, q⟩ := q
    exact ⟨r'.o, ρ3, by unfold m_chain; rw [e1]; simp only [Option.bind_some]; rw [e2]; simp only [Option.bind_some]; rw [e3, e4]; simp only [Option.bind_some]; rw [e5]; simp only [Option.bind_some]; rw [e6]; simp only [Option.bind_some, if_true]; rw [e7]; simp only [Option.bind_some]; rw [e8, e9]; simp only [Option.bind_some]; rw [e10]; rfl, q⟩
  | false => exact ⟨_, ρ2, by unfold m_chain; rw [e1]; simp only [Option.bind_some]; rw [e2]; simp only [Option.bind_some]; rw [e3, e4]; simp only [Option.bind_some]; rw [e5]; simp only [Option.bind_some]; rw [e6]; rfl, q⟩
theorem we_sl {f : D → Option Int → Option Int → Option Res} {ma : MP} {ml mh : MO} (h : WP (ma ρ) fun p ρ1 => WO (ml ρ1) fun l ρ2 => WO (mh ρ2) fun u ρ3 => WV (vw ρ3 p) fun d => WR (f d l u) fun o => P o ρ3) : WE (m_sl f ma ml mh ρ) P := by
  obtain ⟨p1, ρ1, e1, l, ρ2, e2, u, ρ3, e3, d, e4, r, e5, q⟩ := h
  exact ⟨r.o, ρ3, by unfold m_sl; rw [e1]; simp only [Option.bind_some]; rw [e2]; simp only [Option.bind_some]; rw [e3]; simp only [Option.bind_some]; rw [e4]; simp only [Option.bind_some]; rw [e5]; rfl, q⟩
theorem we_m0 {f : Str → Option Res} {ma : MP} (h : WP (ma ρ) fun p ρ1 => ∃ s, vw ρ1 p = some (.str s) ∧ WR (f s) fun o => P o ρ1) : WE (m_m0 f ma ρ) P := by
  obtain ⟨p, ρ1, e1, s, e2, r, e5, q⟩ := h
  exact ⟨r.o, ρ1, by unfold m_m0; rw [e1]; simp only [Option.bind_some]; rw [e2]; simp only; rw [e5]; rfl, q⟩
theorem we_m1 {f : Str → D → Option Res} {ma mb : MP} (h : WP (ma ρ) fun p ρ1 => ∃ s, vw ρ1 p = some (.str s) ∧ WP (mb ρ1) fun p2 ρ2 => WV (vw ρ2 p2) fun d => WR (f s d) fun o => P o ρ2) : WE (m_m1 f ma mb ρ) P := by
  obtain ⟨p, ρ1, e1, s, e2, p2, ρ2, e3, d, e4, r, e5, q⟩ := h
  exact ⟨r.o, ρ2, by unfold m_m1; rw [e1]; simp only [Option.bind_some]; rw [e2]; simp only; rw [e3]; simp only [Option.bind_some]; rw [e4]; simp only [Option.bind_some]; rw [e5]; rfl, q⟩
theorem we_app {i : Nat} {m : ME} {ds0 : List D} (e0 : ρ[i]? = some (.l ds0)) (h : WE (m ρ) fun o ρ1 => ∃ d, toD o = some d ∧ ∃ ds, ρ1[i]? = some (.l ds) ∧ ds.length < 1000000 ∧ P (.v .non) (ρ1.set i (.l (ds ++ [d])))) : WE (m_app i m ρ) P := by
  obtain ⟨o, ρ1, e1, d, e2, ds, e3, hz, q⟩ := h
  exact ⟨_, _, by unfold m_app; rw [e0]; simp only; rw [e1]; simp only [Option.bind_some]; rw [e2]; simp only [Option.bind_some]; rw [e3]; simp only; rw [if_pos hz], q⟩
theorem we_pop {i : Nat} {ds : List D} {d : D} (e0 : ρ[i]? = some (.l ds)) (e1 : ds[ds.length - 1]? = some d) (h : P (.v d) (ρ.set i (.l ds.dropLast))) : WE (m_pop i ρ) P := ⟨_, _, by unfold m_pop; rw [e0]; simp only; rw [e1]; rfl, h⟩
theorem we_popAt {i : Nat} {m : ME} {ds0 : List D} (e0 : ρ[i]? = some (.l ds0)) (h : WE (m ρ) fun o ρ1 => ∃ j, o = .v (.int j) ∧ ∃ ds, ρ1[i]? = some (.l ds) ∧ big j = true ∧ WX (seqIndex? j ds.length) fun k => ∃ d, ds[k]? = some d ∧ P (.v d) (ρ1.set i (.l (ds.eraseIdx k)))) : WE (m_popAt i m ρ) P := by
  obtain ⟨o, ρ1, e1, j, rfl, ds, e2, e3, k, e4, d, e5, q⟩ := h
  exact ⟨_, _, by unfold m_popAt; rw [e0]; simp only; rw [e1]; simp only [Option.bind_some]; rw [e2]; simp only; rw [if_pos e3, e4]; simp only [Option.bind_some]; rw [e5]; rfl, q⟩
end
section
variable {ρ : List O} {P : Pr → List O → Prop}
theorem wp_nm {i : Nat} {d : D} (e : ρ[i]? = some (.v d)) (h : P (.nm i) ρ) : WP (p_nm i ρ) P := ⟨_, _, by unfold p_nm; rw [e], h⟩
theorem wp_nmL {i : Nat} {d : List D} (e : ρ[i]? = some (.l d)) (h : P (.nm i) ρ) : WP (p_nm i ρ) P := ⟨_, _, by unfold p_nm; rw [e], h⟩
theorem wp_ex {m : ME} (h : WE (m ρ) fun o ρ1 => P (.ex o) ρ1) : WP (p_ex m ρ) P := by
  obtain ⟨o, ρ1, e, q⟩ := h
  exact ⟨_, _, by unfold p_ex; rw [e]; rfl, q⟩
theorem wp_it {m : ME} (h : WE (m ρ) fun o ρ1 => ∃ d, toD o = some d ∧ P (.ex (.v d)) ρ1) : WP (m_it m ρ) P := by
  obtain ⟨o, ρ1, e, d, e2, q⟩ := h
  refine ⟨.ex (.v d), ρ1, ?_, q⟩
  unfold m_it
  rw [e]
  simp only [Option.bind_some]
  rw [e2]
  rfl
end
theorem wa_nil {ρ : List O} {P : List Pr → List O → Prop} (h : P [] ρ) : WA (a_nil ρ) P := ⟨_, _, rfl, h⟩
theorem wa_cons {ρ : List O} {P : List Pr → List O → Prop} {m : MP} {ms : MA} (h : WP (m ρ) fun p ρ1 => WA (ms ρ1) fun ps ρ2 => P (p :: ps) ρ2) : WA (a_cons m ms ρ) P := by
  obtain ⟨p, ρ1, e1, ps, ρ2, e2, q⟩ := h
  exact ⟨_, _, by unfold a_cons; rw [e1]; simp only [Option.bind_some]; rw [e2]; rfl, q⟩
section
variable {ρ : List O} {P : Bool → List O → Prop}
theorem wt_tst {m : ME} (h : WE (m ρ) fun o ρ1 => ∃ b, asB o = some b ∧ P b ρ1) : WT (m_tst m ρ) P := by
  obtain ⟨o, ρ1, e1, b, e2, q⟩ := h
  exact ⟨b, ρ1, by unfold m_tst; rw [e1]; simp only [Option.bind_some]; rw [e2]; rfl, q⟩
theorem wt_tru {m : MP} (h : WP (m ρ) fun p ρ1 => WV (vw ρ1 p) fun d => ∃ b, truD d = some b ∧ P b ρ1) : WT (m_tru m ρ) P := by
  obtain ⟨p, ρ1, e1, d, e2, b, e3, q⟩ := h
  exact ⟨b, ρ1, by unfold m_tru; rw [e1]; simp only [Option.bind_some]; rw [e2]; simp only [Option.bind_some]; rw [e3]; rfl, q⟩
theorem wt_and {a b : MT} (h : WT (a ρ) fun c ρ1 => if c = true then WT (b ρ1) P else P false ρ1) : WT (m_and a b ρ) P := by
  obtain ⟨c, ρ1, e1, q⟩ := h
  cases c with
  | true => obtain ⟨o, ρ2, e2, q⟩ := q; exact ⟨o, ρ2, by unfold m_and; rw [e1]; simpa using e2, q⟩
  | false => exact ⟨_, ρ1, by unfold m_and; rw [e1]; rfl, q⟩
theorem wt_or {a b : MT} (h : WT (a ρ) fun c ρ1 => if c = true then P true ρ1 else WT (b ρ1) P) : WT (m_or a b ρ) P := by
  obtain ⟨c, ρ1, e1, q⟩ := h
  cases c with
  | false => obtain ⟨o, ρ2, e2, q⟩ := q; exact ⟨o, ρ2, by unfold m_or; rw [e1]; simpa using e2, q⟩
  | true => exact ⟨_, ρ1, by unfold m_or; rw [e1]; rfl, q⟩
theorem wt_not {a : MT} (h : WT (a ρ) fun c ρ1 => P (!c) ρ1) : WT (m_not a ρ) P := by
  obtain ⟨c, ρ1, e1, q⟩ := h
  exact ⟨_, _, by unfold m_not; rw [e1]; rfl, q⟩
theorem wt_yes (h : P true ρ) : WT (m_yes ρ) P := ⟨_, _, rfl, h⟩
end
theorem wo_none {ρ : List O} {P : Option Int → List O → Prop} (h : P none ρ) : WO (o_none ρ) P := ⟨_, _, rfl, h⟩
theorem wo_some {ρ : List O} {P : Option Int → List O → Prop} {m : MP} (h : WP (m ρ) fun p ρ1 => ∃ i, vw ρ1 p = some (.int i) ∧ P (some i) ρ1) : WO (o_some m ρ) P := by
  obtain ⟨p, ρ1, e1, i, e2, q⟩ := h
  exact ⟨_, _, by unfold o_some; rw [e1]; simp only [Option.bind_some]; rw [e2], q⟩
theorem wv_i {x : Option D} {d : D} {P : D → Prop} (e : x = some d) (h : P d) : WV x P := ⟨d, e, h⟩
theorem wvs_i {x : Option (List D)} {d : List D} {P : List D → Prop} (e : x = some d) (h : P d) : WVs x P := ⟨d, e, h⟩
theorem wk_i {x : Option (List O × List O)} {a b : List O} {P : List O → List O → Prop} (e : x = some (a, b)) (h : P a b) : WK x P := ⟨a, b, e, h⟩
theorem wr_i {x : Option Res} {r : Res} {P : O → Prop} (e : x = some r) (h : P r.o) : WR x P := ⟨r, e, h⟩
theorem wr_s {x : Option Res} {d : D} {P : O → Prop} (e : x = some (.s d)) (h : P (.v d)) : WR x P := ⟨_, e, h⟩
theorem wr_nl {x : Option Res} {d : List D} {P : O → Prop} (e : x = some (.nl d)) (h : P (.l d)) : WR x P := ⟨_, e, h⟩
theorem wr_nt {x : Option Res} {d : List D} {P : O → Prop} (e : x = some (.nt d)) (h : P (.v (.tup d))) : WR x P := ⟨_, e, h⟩
section
variable {P : O → Prop}
theorem wr_add {i j : Int} (h : P (.v (.int (i + j)))) : WR (addD (.int i) (.int j)) P := ⟨_, rfl, h⟩
theorem wr_sub {i j : Int} (h : P (.v (.int (i - j)))) : WR (subD (.int i) (.int j)) P := ⟨_, rfl, h⟩
theorem wr_mul {i j : Int} (c : i.natAbs < 2 ^ 64 ∨ j.natAbs < 2 ^ 64) (h : P (.v (.int (i * j)))) : WR (mulD (.int i) (.int j)) P := ⟨_, if_pos c, h⟩
theorem wr_mod {i j : Int} (c : 0 < j) (h : P (.v (.int (i % j)))) : WR (modD (.int i) (.int j)) P := ⟨_, if_pos c, h⟩
theorem wr_fdiv {i j : Int} (c : 0 < j ∧ j < 1000000000000000000000000000000) (h : P (.v (.int (i / j)))) : WR (fdivD (.int i) (.int j)) P := ⟨_, if_pos c, h⟩
theorem wr_neg {i : Int} (h : P (.v (.int (-i)))) : WR (negD (.int i)) P := ⟨_, rfl, h⟩
theorem wr_lt {i j : Int} (h : P (.v (.bl (decide (i < j))))) : WR (ltD (.int i) (.int j)) P := ⟨_, rfl, h⟩
theorem wr_le {i j : Int} (h : P (.v (.bl (decide (i ≤ j))))) : WR (leD (.int i) (.int j)) P := ⟨_, rfl, h⟩
theorem wr_gt {i j : Int} (h : P (.v (.bl (decide (j < i))))) : WR (gtD (.int i) (.int j)) P := ⟨_, rfl, h⟩
theorem wr_ge {i j : Int} (h : P (.v (.bl (decide (j ≤ i))))) : WR (geD (.int i) (.int j)) P := ⟨_, rfl, h⟩
theorem wr_eq {i j : Int} (h : P (.v (.bl (decide (i = j))))) : WR (eqD (.int i) (.int j)) P := ⟨_, rfl, h⟩
theorem wr_ne {i j : Int} (h : P (.v (.bl (!decide (i = j))))) : WR (neD (.int i) (.int j)) P := ⟨_, rfl, h⟩
theorem wr_int {i : Int} (h : P (.v (.int i))) : WR (intD [.int i]) P := ⟨_, rfl, h⟩
theorem wr_ixL {ds : List D} {i : Int} {d : D} (e : L2.atI ds i = some d) (h : P (.v d)) : WR (ixD (.lst ds) (.int i)) P := ⟨.s d, by show (L2.atI ds i).map Res.s = _; rw [e]; rfl, h⟩
theorem wr_ixT {ds : List D} {i : Int} {d : D} (e : L2.atI ds i = some d) (h : P (.v d)) : WR (ixD (.tup ds) (.int i)) P := ⟨.s d, by show (L2.atI ds i).map Res.s = _; rw [e]; rfl, h⟩
end
theorem wif {c : Prop} [Decidable c] {A B : Prop} (h1 : c → A) (h2 : ¬ c → B) : if decide c = true then A else B := by
  by_cases h : c
  · rw [if_pos (decide_eq_true h)]; exact h1 h
  · rw [if_neg (fun z => h (of_decide_eq_true z))]; exact h2 h
theorem wifT {A B : Prop} (h : A) : if true = true then A else B := by rw [if_pos rfl]; exact h
theorem wifF {A B : Prop} (h : B) : if false = true then A else B := by rw [if_neg Bool.false_ne_true]; exact h
theorem wifB {b : Bool} {A B : Prop} (h1 : b = true → A) (h2 : b = false → B) : if b = true then A else B := by
  cases b with
  | true => exact wifT (h1 rfl)
  | false => exact wifF (h2 rfl)

/-! ### statements -/
/-- what follows a statement in a block -/
def Sq (b : MS) (P : Out → Prop) : Out → Prop
  | .nx ρ => WS (b ρ) P
  | o => P o
section
variable {ρ : List O} {P : Out → Prop}
theorem ws_seq {a b : MS} (h : WS (a ρ) (Sq b P)) : WS (s_seq a b ρ) P := by
  obtain ⟨o, e, q⟩ := h
  cases o with
  | nx ρ1 => obtain ⟨o2, e2, q⟩ := q; exact ⟨o2, by unfold s_seq; rw [e]; exact e2, q⟩
  | rt o ρ1 => exact ⟨_, by unfold s_seq; rw [e]; rfl, q⟩
  | bk ρ1 => exact ⟨_, by unfold s_seq; rw [e]; rfl, q⟩
  | ct ρ1 => exact ⟨_, by unfold s_seq; rw [e]; rfl, q⟩
theorem sq_nx {b : MS} (h : WS (b ρ) P) : Sq b P (.nx ρ) := h
theorem sq_rt {b : MS} {o : O} (h : P (.rt o ρ)) : Sq b P (.rt o ρ) := h
theorem sq_bk {b : MS} (h : P (.bk ρ)) : Sq b P (.bk ρ) := h
theorem sq_ct {b : MS} (h : P (.ct ρ)) : Sq b P (.ct ρ) := h
theorem ws_nop (h : P (.nx ρ)) : WS (s_nop ρ) P := ⟨_, rfl, h⟩
theorem ws_if {t : MT} {a b : MS} (h : WT (t ρ) fun c ρ1 => if c = true then WS (a ρ1) P else WS (b ρ1) P) : WS (s_if t a b ρ) P := by
  obtain ⟨c, ρ1, e1, q⟩ := h
  cases c with
  | true => obtain ⟨o, e2, q⟩ := q; exact ⟨o, by unfold s_if; rw [e1]; simpa using e2, q⟩
  | false => obtain ⟨o, e2, q⟩ := q; exact ⟨o, by unfold s_if; rw [e1]; simpa using e2, q⟩
theorem ws_drop {m : ME} (h : WE (m ρ) fun _ ρ1 => P (.nx ρ1)) : WS (s_drop m ρ) P := by
  obtain ⟨o, ρ1, e, q⟩ := h
  exact ⟨_, by unfold s_drop; rw [e]; rfl, q⟩
theorem ws_ret {m : ME} (h : WE (m ρ) fun o ρ1 => P (.rt o ρ1)) : WS (s_ret m ρ) P := by
  obtain ⟨o, ρ1, e, q⟩ := h
  exact ⟨_, by unfold s_ret; rw [e]; rfl, q⟩
theorem ws_retN (h : P (.rt (.v .non) ρ)) : WS (s_retN ρ) P := ⟨_, rfl, h⟩
theorem ws_bk (h : P (.bk ρ)) : WS (s_bk ρ) P := ⟨_, rfl, h⟩
theorem ws_ct (h : P (.ct ρ)) : WS (s_ct ρ) P := ⟨_, rfl, h⟩
theorem ws_set {i : Nat} {m : ME} (h : WE (m ρ) fun o ρ1 => P (.nx (ρ1.set i o))) : WS (s_set i m ρ) P := by
  obtain ⟨o, ρ1, e, q⟩ := h
  exact ⟨_, by unfold s_set; rw [e]; rfl, q⟩
theorem ws_asg {g : MG} {m : ME} (h : WE (m ρ) fun o ρ1 => ∃ d, toD o = some d ∧ ∃ ρ2, g d ρ1 = some ρ2 ∧ P (.nx ρ2)) : WS (s_asg g m ρ) P := by
  obtain ⟨o, ρ1, e, d, e2, ρ2, e3, q⟩ := h
  exact ⟨_, by unfold s_asg; rw [e]; simp only [Option.bind_some]; rw [e2]; simp only [Option.bind_some]; rw [e3]; rfl, q⟩
theorem ws_sti {i : Nat} {me : ME} {mi : MP} (h : WE (me ρ) fun o ρ1 => ∃ d, toD o = some d ∧ ∃ ds0, ρ1[i]? = some (.l ds0) ∧ WP (mi ρ1) fun p ρ2 => ∃ k, vw ρ2 p = some (.int k) ∧ ∃ ds, ρ2[i]? = some (.l ds) ∧ WX (ixN ds.length k) fun j => P (.nx (ρ2.set i (.l (ds.set j d))))) : WS (s_sti i me mi ρ) P := by
  obtain ⟨o, ρ1, e, d, e2, ds0, e3, p, ρ2, e4, k, e5, ds, e6, j, e7, q⟩ := h
  exact ⟨_, by unfold s_sti; rw [e]; simp only [Option.bind_some]; rw [e2]; simp only [Option.bind_some]; rw [e3]; simp only; rw [e4]; simp only [Option.bind_some]; rw [e5, e6]; simp only; rw [e7]; rfl, q⟩
theorem ws_aug {i : Nat} {f : Int → Int → Int} {m : MP} {a : Int} (e0 : ρ[i]? = some (.v (.int a))) (h : WP (m ρ) fun p ρ1 => ∃ k, vw ρ1 p = some (.int k) ∧ P (.nx (ρ1.set i (.v (.int (f a k)))))) : WS (s_aug i f m ρ) P := by
  obtain ⟨p, ρ1, e1, k, e2, q⟩ := h
  exact ⟨_, by unfold s_aug; rw [e0]; simp only; rw [e1]; simp only [Option.bind_some]; rw [e2], q⟩
/-- a block cut at what holds between its parts -/
theorem ws_cut {a b : MS} (M : List O → Prop) (h1 : WS (a ρ) (Sq (fun ρ1 => some (.nx ρ1)) fun o => match o with
  | .nx ρ1 => M ρ1
  | o => P o)) (h2 : ∀ ρ1, M ρ1 → WS (b ρ1) P) : WS (s_seq a b ρ) P := by
  refine ws_seq ?_
  obtain ⟨o, e, q⟩ := h1
  refine ⟨o, e, ?_⟩
  cases o with
  | nx ρ1 => obtain ⟨o2, e2, q⟩ := q; cases e2; exact h2 _ q
  | rt o ρ1 => exact q
  | bk ρ1 => exact q
  | ct ρ1 => exact q
/-- a def's end -/
def Fin (lk : List Nat) (k : Nat) (P : O → List O → Prop) : Out → Prop
  | .rt r ρ => P r (keep lk k ρ)
  | .nx ρ => P (.v .non) (keep lk k ρ)
  | _ => False
end
theorem wg_fn {n k : Nat} {lk : List Nat} {m : MS} {os : List O} {P : O → List O → Prop} (h : WS (m (os ++ List.replicate (n - os.length) .n)) (Fin lk k P)) : WG (fnM n k lk m os) P := by
  obtain ⟨o, e, q⟩ := h
  cases o with
  | nx ρ1 => exact ⟨_, _, by unfold fnM; rw [e]; rfl, q⟩
  | rt o ρ1 => exact ⟨_, _, by unfold fnM; rw [e]; rfl, q⟩
  | bk ρ1 => exact q.elim
  | ct ρ1 => exact q.elim
theorem fin_rt {lk : List Nat} {k : Nat} {P : O → List O → Prop} {r : O} {ρ : List O} (h : P r (keep lk k ρ)) : Fin lk k P (.rt r ρ) := h
theorem fin_nx {lk : List Nat} {k : Nat} {P : O → List O → Prop} {ρ : List O} (h : P (.v .non) (keep lk k ρ)) : Fin lk k P (.nx ρ) := h

/-! ### loops -/
/-- a turn's end -/
def Tn (Inv : List O → Prop) (P : Out → Prop) : Out → Prop
  | .nx ρ => Inv ρ
  | .ct ρ => Inv ρ
  | .bk ρ => P (.nx ρ)
  | .rt r ρ => P (.rt r ρ)
theorem ws_for {mi : MI} {g : MG} {mb : MS} {ρ : List O} {P : Out → Prop} (h : WI (mi ρ) fun ds ρ1 => WS (floop g mb ds ρ1) P) : WS (s_for mi g mb ρ) P := by
  obtain ⟨ds, ρ1, e, o, e2, q⟩ := h
  exact ⟨o, by unfold s_for; rw [e]; exact e2, q⟩
theorem wf_inv {g : MG} {mb : MS} {ds : List D} {ρ : List O} {P : Out → Prop} (Inv : Nat → List O → Prop) (h0 : Inv 0 ρ)
    (hs : ∀ i d ρ, ds[i]? = some d → Inv i ρ → ∃ ρ1, g d ρ = some ρ1 ∧ WS (mb ρ1) (Tn (Inv (i + 1)) P)) (hd : ∀ ρ, Inv ds.length ρ → P (.nx ρ)) : WS (floop g mb ds ρ) P := by
  have gen : ∀ (k i : Nat) (ρ : List O), i + k = ds.length → Inv i ρ → WS (floop g mb (ds.drop i) ρ) P := by
    intro k
    induction k with
    | zero =>
      intro i ρ e q
      have ei : i = ds.length := by omega
      subst ei
      rw [List.drop_length]
      exact ⟨_, rfl, hd ρ q⟩
    | succ k ih =>
      intro i ρ e q
      have hlt : i < ds.length := by omega
      rw [List.drop_eq_getElem_cons hlt]
      obtain ⟨ρ1, e1, o, e2, q2⟩ := hs i ds[i] ρ (List.getElem?_eq_getElem hlt) q
      unfold floop
      rw [e1]
      simp only [Option.bind_some]
      rw [e2]
      simp only [Option.bind_some]
      cases o with
      | nx ρ2 => exact ih (i + 1) ρ2 (by omega) q2
      | ct ρ2 => exact ih (i + 1) ρ2 (by omega) q2
      | bk ρ2 => exact ⟨_, rfl, q2⟩
      | rt r ρ2 => exact ⟨_, rfl, q2⟩
  have := gen ds.length 0 ρ (by omega) h0
  simpa using this
theorem wi_seq {m : ME} {ρ : List O} {P : List D → List O → Prop} (h : WE (m ρ) fun o ρ1 => ∃ d, toD o = some d ∧ ∃ ds, items d = some ds ∧ P ds ρ1) : WI (i_seq m ρ) P := by
  obtain ⟨o, ρ1, e, d, e2, ds, e3, q⟩ := h
  exact ⟨_, _, by unfold i_seq; rw [e]; simp only [Option.bind_some]; rw [e2]; simp only [Option.bind_some]; rw [e3]; rfl, q⟩
theorem wi_rng1 {m : MP} {ρ : List O} {P : List D → List O → Prop} (h : WP (m ρ) fun p ρ1 => ∃ j, vw ρ1 p = some (.int j) ∧ big j = true ∧ P (rngD 0 j.toNat) ρ1) : WI (i_rng1 m ρ) P := by
  obtain ⟨p, ρ1, e, j, e2, e3, q⟩ := h
  exact ⟨_, _, by unfold i_rng1; rw [e]; simp only [Option.bind_some]; rw [e2]; simp only [Option.bind_some]; rw [if_pos e3], q⟩
theorem wi_rng2 {ma mb : MP} {ρ : List O} {P : List D → List O → Prop} (h : WP (ma ρ) fun p1 ρ1 => WP (mb ρ1) fun p2 ρ2 => ∃ i, vw ρ2 p1 = some (.int i) ∧ ∃ j, vw ρ2 p2 = some (.int j) ∧ (big i && big j) = true ∧ P (rngD i (j - i).toNat) ρ2) : WI (i_rng2 ma mb ρ) P := by
  obtain ⟨p1, ρ1, e, p2, ρ2, e2, i, e3, j, e4, e5, q⟩ := h
  exact ⟨_, _, by unfold i_rng2; rw [e]; simp only [Option.bind_some]; rw [e2]; simp only [Option.bind_some]; rw [e3, e4]; simp only [Option.bind_some]; rw [if_pos e5], q⟩
theorem wi_rev1 {m : ME} {ρ : List O} {P : List D → List O → Prop} (h : WE (m ρ) fun o ρ1 => ∃ j, o = .v (.int j) ∧ big j = true ∧ P (revD 0 j.toNat) ρ1) : WI (i_rev1 m ρ) P := by
  obtain ⟨p, ρ1, e, j, rfl, e3, q⟩ := h
  exact ⟨_, _, by unfold i_rev1; rw [e]; simp only [Option.bind_some]; rw [if_pos e3], q⟩
/-- a comprehension, by what holds of the list so far and the slots -/
theorem we_lc {vs : List Nat} {mi : MI} {g : MG} {mt : MT} {me : ME} {ρ : List O} {P : O → List O → Prop}
    (h : WI (mi ρ) fun ds ρ1 => ds.length ≤ 1000000 ∧ ∃ Inv : Nat → List D → List O → Prop, Inv 0 [] (wipeO vs ρ1) ∧
      (∀ i d acc ρ, ds[i]? = some d → Inv i acc ρ → ∃ ρ1, g d ρ = some ρ1 ∧ WT (mt ρ1) fun b ρ2 => if b = true then (WE (me ρ2) fun o ρ3 => ∃ y, toD o = some y ∧ Inv (i + 1) (acc ++ [y]) (wipeO vs ρ3)) else Inv (i + 1) acc (wipeO vs ρ2)) ∧
      ∀ acc ρ, Inv ds.length acc ρ → P (.l acc) ρ) : WE (m_lc vs mi g mt me ρ) P := by
  obtain ⟨ds, ρ1, e, hz, Inv, h0, hs, hd⟩ := h
  have gen : ∀ (k i : Nat) (acc : List D) (ρ : List O), i + k = ds.length → Inv i acc (wipeO vs ρ) → ∃ acc' ρ', lcl vs g mt me (ds.drop i) acc ρ = some (acc', ρ') ∧ P (.l acc') ρ' := by
    intro k
    induction k with
    | zero =>
      intro i acc ρ e q
      have ei : i = ds.length := by omega
      subst ei
      rw [List.drop_length]
      exact ⟨_, _, rfl, hd _ _ q⟩
    | succ k ih =>
      intro i acc ρ e q
      have hlt : i < ds.length := by omega
      rw [List.drop_eq_getElem_cons hlt]
      obtain ⟨ρ2, e1, b, ρ3, e2, q2⟩ := hs i ds[i] acc _ (List.getElem?_eq_getElem hlt) q
      unfold lcl
      rw [e1]
      simp only [Option.bind_some]
      rw [e2]
      simp only [Option.bind_some]
      cases b with
      | true =>
        obtain ⟨o, ρ4, e3, y, e4, q2⟩ := q2
        rw [if_pos rfl, e3]
        simp only [Option.bind_some]
        rw [e4]
        simp only [Option.bind_some]
        exact ih (i + 1) _ ρ4 (by omega) q2
      | false =>
        rw [if_neg Bool.false_ne_true]
        exact ih (i + 1) acc ρ3 (by omega) q2
  obtain ⟨acc', ρ', e3, q⟩ := gen ds.length 0 [] ρ1 (by omega) h0
  rw [List.drop_zero] at e3
  exact ⟨_, _, by unfold m_lc; rw [e]; simp only [Option.bind_some]; rw [if_pos hz, e3]; rfl, q⟩
end Mr

end
section
set_option Elab.async false
set_option linter.all false
set_option maxRecDepth 100000
set_option maxHeartbeats 4000000
/-! MrX: facts for stepping: places, loops over lists, the store of draws. -/
namespace Mr
open PySem PySem.Spec PyProof.Rows L2
theorem sq_nxE {b : MS} {ρ ρ' : List O} {P : Out → Prop} (e : ρ = ρ') (h : WS (b ρ') P) : Sq b P (.nx ρ) := by rw [e]; exact h
theorem wg_fnE {n k : Nat} {lk : List Nat} {m : MS} {os ρ : List O} {P : O → List O → Prop} (e : os ++ List.replicate (n - os.length) .n = ρ) (h : WS (m ρ) (Fin lk k P)) : WG (fnM n k lk m os) P := wg_fn (by rw [e]; exact h)
theorem ixN_nat {n j : Nat} (h : j < n) : ixN n (j : Int) = some j := by
  unfold ixN
  rw [if_pos (by omega), if_pos (by omega)]
  simp
theorem ixN_of {n : Nat} {i : Int} (h0 : 0 ≤ i) (h : i < n) : ixN n i = some i.toNat := by
  unfold ixN
  rw [if_pos h0, if_pos h]
theorem ixN_neg {n : Nat} {i : Int} (h0 : i < 0) (h : -(n : Int) ≤ i) : ixN n i = some (i + n).toNat := by
  unfold ixN
  rw [if_neg (by omega), if_pos h]
theorem atI_of {α : Type} {xs : List α} {i : Int} {d : α} (h0 : 0 ≤ i) (e : xs[i.toNat]? = some d) : atI xs i = some d := by
  have h1 : i.toNat < xs.length := (List.getElem?_eq_some_iff.mp e).1
  unfold atI
  rw [ixN_of h0 (by omega)]
  exact e
theorem atI_m1 {α : Type} {xs : List α} {d : α} (e : xs[xs.length - 1]? = some d) : atI xs (-1) = some d := by
  have h1 : xs.length - 1 < xs.length := (List.getElem?_eq_some_iff.mp e).1
  unfold atI
  rw [ixN_neg (by omega) (by omega)]
  show xs[(-1 + (xs.length : Int)).toNat]? = _
  rw [show (-1 + (xs.length : Int)).toNat = xs.length - 1 by omega]
  exact e
/-- an index in bounds -/
theorem atI_some {α : Type} {xs : List α} {i : Int} (h0 : 0 ≤ i) (h : i < xs.length) : ∃ d, atI xs i = some d ∧ d ∈ xs := by
  have h1 : i.toNat < xs.length := by omega
  exact ⟨xs[i.toNat], atI_of h0 (List.getElem?_eq_getElem h1), List.getElem_mem h1⟩
theorem big_of {i : Int} (h1 : -(2 ^ 62) ≤ i) (h2 : i < 2 ^ 62) : big i = true := by
  unfold big
  rw [decide_eq_true h1, decide_eq_true h2]
  rfl
end Mr
namespace Mr
open PySem PySem.Spec PyProof.Rows L2
section
variable {ρ : List O} {P : Out → Prop} {b : MS}
theorem wq_set {i : Nat} {m : ME} (h : WE (m ρ) fun o ρ1 => Sq b P (.nx (ρ1.set i o))) : WS (s_seq (s_set i m) b ρ) P := ws_seq (ws_set h)
theorem wq_asg {g : MG} {m : ME} (h : WS (s_asg g m ρ) (Sq b P)) : WS (s_seq (s_asg g m) b ρ) P := ws_seq h
theorem wq_sti {i : Nat} {m : ME} {mi : MP} (h : WS (s_sti i m mi ρ) (Sq b P)) : WS (s_seq (s_sti i m mi) b ρ) P := ws_seq h
theorem wq_drop {m : ME} (h : WE (m ρ) fun _ ρ1 => Sq b P (.nx ρ1)) : WS (s_seq (s_drop m) b ρ) P := ws_seq (ws_drop h)
theorem wq_aug {i : Nat} {f : Int → Int → Int} {m : MP} (h : WS (s_aug i f m ρ) (Sq b P)) : WS (s_seq (s_aug i f m) b ρ) P := ws_seq h
theorem wq_nop (h : Sq b P (.nx ρ)) : WS (s_seq s_nop b ρ) P := ws_seq (ws_nop h)
theorem cut_nx {M : List O → Prop} (h : M ρ) : Sq (fun ρ1 => some (.nx ρ1)) (fun o => match o with
  | .nx ρ1 => M ρ1
  | o => P o) (.nx ρ) := ⟨_, rfl, h⟩
end
/-- a cut's end -/
def Ct (M : List O → Prop) (P : Out → Prop) : Out → Prop
  | .nx ρ => M ρ
  | o => P o
theorem ws_cutC {ρ : List O} {P : Out → Prop} {a b : MS} (M : List O → Prop) (h1 : WS (a ρ) (Ct M P)) (h2 : ∀ ρ1, M ρ1 → WS (b ρ1) P) : WS (s_seq a b ρ) P := by
  refine ws_seq ?_
  obtain ⟨o, e, q⟩ := h1
  refine ⟨o, e, ?_⟩
  cases o with
  | nx ρ1 => exact h2 _ q
  | rt o ρ1 => exact q
  | bk ρ1 => exact q
  | ct ρ1 => exact q
section
variable {ρ : List O} {P : Out → Prop} {M : List O → Prop}
theorem ct_nx (h : M ρ) : Ct M P (.nx ρ) := h
theorem ct_rt {o : O} (h : P (.rt o ρ)) : Ct M P (.rt o ρ) := h
theorem ct_bk (h : P (.bk ρ)) : Ct M P (.bk ρ) := h
theorem ct_ct (h : P (.ct ρ)) : Ct M P (.ct ρ) := h
theorem tn_nx {Inv : List O → Prop} (h : Inv ρ) : Tn Inv P (.nx ρ) := h
theorem tn_ct {Inv : List O → Prop} (h : Inv ρ) : Tn Inv P (.ct ρ) := h
theorem tn_bk {Inv : List O → Prop} (h : P (.nx ρ)) : Tn Inv P (.bk ρ) := h
theorem tn_rt {Inv : List O → Prop} {o : O} (h : P (.rt o ρ)) : Tn Inv P (.rt o ρ) := h
end
/-! ### the store of draws -/
abbrev Sr (s : List Int) : O := .l (s.map D.int)
def WF (s : List Int) : Prop := ∃ a b c d e r, s = a :: b :: c :: d :: e :: r ∧ 0 ≤ b
theorem map_set (s : List Int) (j : Nat) (v : Int) : (s.map D.int).set j (.int v) = (s.set j v).map D.int := by rw [List.map_set]
theorem atI_map {s : List Int} {i : Int} (h0 : 0 ≤ i) (h : i < s.length) : ∃ v, L2.atI (s.map D.int) i = some (.int v) := by
  have h1 : i.toNat < s.length := by omega
  refine ⟨s[i.toNat], atI_of h0 ?_⟩
  rw [List.getElem?_map, List.getElem?_eq_getElem h1]
  rfl
end Mr
namespace Mr
open PySem PySem.Spec PyProof.Rows L2
theorem wr_pow {i j : Int} {P : O → Prop} (c : 0 ≤ j ∧ j ≤ 100 ∧ i.natAbs < 2 ^ 1000) (h : P (.v (.int (i ^ j.toNat)))) : WR (powD (.int i) (.int j)) P := ⟨_, if_pos c, h⟩
theorem wr_max2 {i j : Int} {P : O → Prop} (h : P (.v (.int (if j > i then j else i)))) : WR (max2D [.int i, .int j]) P := ⟨_, rfl, h⟩
theorem wr_min2 {i j : Int} {P : O → Prop} (h : P (.v (.int (if j < i then j else i)))) : WR (min2D [.int i, .int j]) P := ⟨_, rfl, h⟩
theorem wr_lenL {ds : List D} {P : O → Prop} (h : P (.v (.int ds.length))) : WR (lenD [.lst ds]) P := ⟨_, rfl, h⟩
theorem wr_lenT {ds : List D} {P : O → Prop} (h : P (.v (.int ds.length))) : WR (lenD [.tup ds]) P := ⟨_, rfl, h⟩
theorem wr_lenR {ds : List D} {P : O → Prop} (h : P (.v (.int ds.length))) : WR (lenD [.rl ds]) P := ⟨_, rfl, h⟩
theorem wr_lenS {z : Str} {P : O → Prop} (c : z.length ≤ 1000000) (h : P (.v (.int z.length))) : WR (lenD [.str z]) P := ⟨_, if_pos c, h⟩
end Mr

end
section
set_option Elab.async false
set_option linter.all false
set_option maxRecDepth 100000
set_option maxHeartbeats 4000000
/-! MrY: more facts for stepping: texts. -/
namespace Mr
open PySem PySem.Spec PyProof.Rows L2
section
variable {P : O → Prop}
theorem wr_addS {a b : Str} (c : a.length + b.length ≤ 1000000) (h : P (.v (.str (a ++ b)))) : WR (addD (.str a) (.str b)) P := ⟨_, if_pos c, h⟩
theorem wr_addL {a b : List D} (c : a.length + b.length ≤ 1000000) (h : P (.l (a ++ b))) : WR (addD (.lst a) (.lst b)) P := ⟨_, if_pos c, h⟩
theorem wr_ixS {z : Str} {i : Int} {k : Nat} (c : z.length ≤ 1000000) (e : L2.atI z.cps.toList i = some k) (h : P (.v (.str ⟨#[k]⟩))) : WR (ixD (.str z) (.int i)) P := by
  refine ⟨.s (.str ⟨#[k]⟩), ?_, h⟩
  show (if z.length ≤ 1000000 then (L2.atI z.cps.toList i).map fun c => Res.s (.str ⟨#[c]⟩) else none) = _
  rw [if_pos c, e]
  rfl
/-- a place in a text -/
theorem wr_ixS' {z : Str} {i : Int} (c : z.length ≤ 1000000) (h0 : 0 ≤ i) (h1 : i < z.length) (h : ∀ k, k ∈ z.cps.toList → P (.v (.str ⟨#[k]⟩))) : WR (ixD (.str z) (.int i)) P := by
  obtain ⟨k, e, m⟩ := atI_some (xs := z.cps.toList) h0 (by simpa [Str.length] using h1)
  exact wr_ixS c e (h k m)
theorem wr_ixL' {ds : List D} {i : Int} (h0 : 0 ≤ i) (h1 : i < ds.length) (h : ∀ d, d ∈ ds → P (.v d)) : WR (ixD (.lst ds) (.int i)) P := by
  obtain ⟨k, e, m⟩ := atI_some h0 h1
  exact wr_ixL e (h k m)
theorem wr_ixT' {ds : List D} {i : Int} (h0 : 0 ≤ i) (h1 : i < ds.length) (h : ∀ d, d ∈ ds → P (.v d)) : WR (ixD (.tup ds) (.int i)) P := by
  obtain ⟨k, e, m⟩ := atI_some h0 h1
  exact wr_ixT e (h k m)
theorem wr_slS {z : Str} {lo hi : Option Int} (c : z.length ≤ 1000000) (h : P (.v (.str (cutS z lo hi)))) : WR (slD (.str z) lo hi) P := ⟨_, if_pos c, h⟩
theorem wr_slL {ds : List D} {lo hi : Option Int} (h : P (.l (cutD ds lo hi))) : WR (slD (.lst ds) lo hi) P := ⟨_, rfl, h⟩
theorem wr_low {z : Str} (c : z.length ≤ 1000000) (h : P (.v (.str (Txt.lower z)))) : WR (lowD z) P := ⟨_, if_pos c, h⟩
theorem wr_upp {z : Str} (c : z.length ≤ 1000000) (h : P (.v (.str (Txt.upper z)))) : WR (uppD z) P := ⟨_, if_pos c, h⟩
theorem wr_mulS {z : Str} {n : Int} (c : big n = true ∧ z.length * n.toNat ≤ 1000000) (h : P (.v (.str (mulS z n.toNat)))) : WR (mulD (.str z) (.int n)) P := ⟨_, if_pos c, h⟩
theorem wr_mulL {z : List D} {n : Int} (c : big n = true ∧ z.length * n.toNat ≤ 1000000) (h : P (.l (List.replicate n.toNat z).flatten)) : WR (mulD (.lst z) (.int n)) P := ⟨_, if_pos c, h⟩
end
/-- texts of at most n signs -/
def IsS (n : Nat) (d : D) : Prop := ∃ z : Str, d = .str z ∧ z.length ≤ n
theorem len_app (a b : Str) : (a ++ b).length = a.length + b.length := by
  show (a.cps ++ b.cps).size = _
  exact Array.size_append
theorem len_cut (z : Str) (lo hi : Option Int) : (cutS z lo hi).length ≤ z.length := by
  unfold cutS
  show (List.toArray _).size ≤ z.cps.size
  rw [List.size_toArray, List.length_take, List.length_drop, Array.length_toList]
  omega
theorem len_mulS (z : Str) (n : Nat) : (mulS z n).length = z.length * n := by
  unfold mulS
  show (List.toArray _).size = _
  rw [List.size_toArray, List.length_flatten, List.map_replicate, List.sum_replicate_nat, Array.length_toList, Nat.mul_comm]
  rfl
theorem len_one (k : Nat) : (⟨#[k]⟩ : Str).length = 1 := rfl
theorem strs_all {ds : List D} {n : Nat} (h : ∀ d ∈ ds, IsS n d) : ∃ ss, strs? ds = some ss ∧ ss.length = ds.length ∧ (ss.map (·.length)).sum ≤ ds.length * n := by
  induction ds with
  | nil => exact ⟨[], rfl, rfl, Nat.zero_le _⟩
  | cons d ds ih =>
    obtain ⟨ss, e, l, s⟩ := ih fun d' hd => h d' (List.mem_cons_of_mem _ hd)
    obtain ⟨z, rfl, hz⟩ := h d List.mem_cons_self
    refine ⟨z :: ss, by unfold strs?; rw [e]; rfl, by rw [List.length_cons, List.length_cons, l], ?_⟩
    rw [List.map_cons, List.sum_cons, List.length_cons, Nat.add_mul]
    omega
theorem len_join0 (ss : List Str) : (Txt.join (Str.ofString "") ss).length = (ss.map (·.length)).sum := by
  show (Builtin.Str.glued (Str.ofString "") ss).length = _
  rw [PySem.size_glued, show (Str.ofString "").length = 0 by decide +kernel, Nat.mul_zero, Nat.add_zero]
/-- "".join of texts of at most n signs -/
theorem wr_join0 {ds : List D} {n : Nat} {P : O → Prop} (h : ∀ d ∈ ds, IsS n d) (c : ds.length * n ≤ 1000000) (q : ∀ z : Str, z.length ≤ ds.length * n → P (.v (.str z))) : WR (joinD (Str.ofString "") (.lst ds)) P := by
  obtain ⟨ss, e, l, s⟩ := strs_all h
  refine ⟨.s (.str (Txt.join (Str.ofString "") ss)), ?_, q _ (by rw [len_join0]; exact s)⟩
  show ((strs? ds).bind fun ss => if (ss.map (·.length)).sum + ss.length * (Str.ofString "").length ≤ 1000000 then some (Res.s (.str (Txt.join (Str.ofString "") ss))) else none) = _
  rw [e]
  simp only [Option.bind_some]
  rw [show (Str.ofString "").length = 0 by decide +kernel, Nat.mul_zero, Nat.add_zero, if_pos (Nat.le_trans s c)]
end Mr
namespace Mr
open PySem PySem.Spec PyProof.Rows L2
theorem inB_lst {d : D} {ds : List D} (h1 : flatD d = true) (h2 : ds.all flatD = true) : inB d (.lst ds) = some (ds.any fun e => eqF e d) := by
  unfold inB
  split
  · rename_i h; cases h
  · rename_i h; cases h; rw [if_pos ⟨h1, h2⟩]
  · rename_i h; cases h
  · rename_i h; first | exact absurd rfl (h _) | (rename_i h2; exact absurd rfl (h2 _)) | (rename_i h2 h3; exact absurd rfl (h2 _))
theorem wr_ninNil {z : Str} {P : O → Prop} (h : P (.v (.bl true))) : WR (ninD (.str z) (.lst [])) P := ⟨.s (.bl true), by unfold ninD; rw [inB_lst rfl rfl]; rfl, h⟩
end Mr

end
section
set_option linter.all false
set_option maxRecDepth 100000
set_option maxHeartbeats 4000000
/-! MrZ: plain values with a size. -/
namespace Mr
open PySem PySem.Spec PyProof.Rows L2
mutual
def sz : D → Nat
  | .tup ds => 1 + szs ds
  | .lst ds => 1 + szs ds
  | _ => 1
def szs : List D → Nat
  | [] => 0
  | d :: ds => sz d + szs ds
end
/-- plain values: none, truth values, numbers, short texts, and tuples and lists of such -/
inductive Va : D → Prop
  | non : Va .non
  | bl {b} : Va (.bl b)
  | int {i} : Va (.int i)
  | str {z : Str} (h : z.length ≤ 10000) : Va (.str z)
  | tup {ds : List D} (h : ∀ d ∈ ds, Va d) : Va (.tup ds)
  | lst {ds : List D} (h : ∀ d ∈ ds, Va d) : Va (.lst ds)
theorem szs_app (a b : List D) : szs (a ++ b) = szs a + szs b := by
  induction a with
  | nil => simp [szs]
  | cons d a ih => rw [List.cons_append]; simp only [szs]; rw [ih]; omega
theorem sz_pos (d : D) : 1 ≤ sz d := by cases d <;> simp [sz] <;> omega
theorem len_szs (ds : List D) : ds.length ≤ szs ds := by
  induction ds with
  | nil => simp [szs]
  | cons d ds ih => have := sz_pos d; simp only [szs, List.length_cons]; omega
theorem szs_rep (n : Nat) (d : D) : szs (List.replicate n d) = n * sz d := by
  induction n with
  | zero => simp [szs]
  | succ n ih => rw [List.replicate_succ]; simp only [szs]; rw [ih, Nat.add_mul]; omega
theorem szs_rep1 (n : Nat) (d : D) : szs (List.replicate n [d]).flatten = n * sz d := by
  rw [← szs_rep]; congr 1
  induction n with
  | zero => rfl
  | succ n ih => rw [List.replicate_succ, List.replicate_succ, List.flatten_cons, ih]; rfl
theorem va_rep1 {n : Nat} {d : D} (h : Va d) : ∀ e ∈ (List.replicate n [d]).flatten, Va e := by
  intro e he
  simp only [List.mem_flatten, List.mem_replicate] at he
  obtain ⟨l, ⟨_, rfl⟩, he⟩ := he
  rw [List.mem_singleton.mp he]; exact h
theorem szs_mem {d : D} {ds : List D} (h : d ∈ ds) : sz d ≤ szs ds := by
  induction ds with
  | nil => cases h
  | cons e ds ih =>
    simp only [szs]
    rcases List.mem_cons.mp h with rfl | h
    · omega
    · have := ih h; omega
theorem toD_cases {o : O} {d : D} (h : toD o = some d) : o = .v d ∨ (∃ ds, o = .l ds ∧ d = .lst ds) ∨ (∃ ks ds, o = .dd ks ds) ∨ ∃ k os, o = .g k os := by
  cases o with
  | n => simp [toD] at h
  | v e => simp only [toD, Option.some.injEq] at h; exact .inl (by rw [h])
  | l ds => simp only [toD, Option.some.injEq] at h; exact .inr (.inl ⟨ds, rfl, h.symm⟩)
  | dd ks ds => exact .inr (.inr (.inl ⟨ks, ds, rfl⟩))
  | g k os => exact .inr (.inr (.inr ⟨k, os, rfl⟩))
theorem set_same {ρ : List O} {i : Nat} {o : O} (e : ρ[i]? = some o) : ρ.set i o = ρ := by
  apply List.ext_getElem?
  intro j
  rw [List.getElem?_set]
  split
  · rename_i h; subst h; split
    · exact e.symm
    · rename_i h; rw [List.getElem?_eq_none (by omega)]
  · rfl
theorem we_varO {ρ : List O} {i : Nat} {o : O} {d : D} {P : O → List O → Prop} (e : ρ[i]? = some o) (t : toD o = some d) (h : P (.v d) (ρ.set i (.v d))) : WE (m_var i ρ) P := ⟨_, _, m_var_o e t, h⟩
theorem we_mvG {ρ : List O} {i : Nat} {k : Knd} {os : List O} {P : O → List O → Prop} (e : ρ[i]? = some (.g k os)) (h : P (.g k os) (ρ.set i .n)) : WE (m_mv i ρ) P := ⟨_, _, by unfold m_mv; rw [e], h⟩
theorem dropLast_snoc {α : Type} (a : List α) (x : α) : (a ++ [x]).dropLast = a := by simp
/-- the last of a pile -/
theorem last_snoc {α : Type} (a : List α) (x : α) : (a ++ [x])[(a ++ [x]).length - 1]? = some x := by simp
section
variable {P : O → Prop}
theorem wr_isn0 (h : P (.v (.bl true))) : WR (isnD .non .non) P := ⟨_, rfl, h⟩
theorem wr_isn1 {b : Bool} (h : P (.v (.bl false))) : WR (isnD (.bl b) .non) P := ⟨_, rfl, h⟩
theorem wr_isn2 {b : Int} (h : P (.v (.bl false))) : WR (isnD (.int b) .non) P := ⟨_, rfl, h⟩
theorem wr_isn3 {b : Str} (h : P (.v (.bl false))) : WR (isnD (.str b) .non) P := ⟨_, rfl, h⟩
theorem wr_isn4 {b : List D} (h : P (.v (.bl false))) : WR (isnD (.tup b) .non) P := ⟨_, rfl, h⟩
theorem wr_isn5 {b : List D} (h : P (.v (.bl false))) : WR (isnD (.lst b) .non) P := ⟨_, rfl, h⟩
end
theorem wr_isi {d : D} {n : String} {b : Bool} {P : O → Prop} (e : isiD [d, .ty n] = some (.s (.bl b))) (h : P (.v (.bl b))) : WR (isiD [d, .ty n]) P := ⟨_, e, h⟩
theorem isi_non_bool  : isiD [.non, .ty "bool"] = some (.s (.bl false)) := by rfl
theorem isi_non_int  : isiD [.non, .ty "int"] = some (.s (.bl false)) := by rfl
theorem isi_non_str  : isiD [.non, .ty "str"] = some (.s (.bl false)) := by rfl
theorem isi_non_tuple  : isiD [.non, .ty "tuple"] = some (.s (.bl false)) := by rfl
theorem isi_non_list  : isiD [.non, .ty "list"] = some (.s (.bl false)) := by rfl
theorem isi_non_dict  : isiD [.non, .ty "dict"] = some (.s (.bl false)) := by rfl
theorem isi_bl_bool {b : Bool} : isiD [(.bl b), .ty "bool"] = some (.s (.bl true)) := by rfl
theorem isi_bl_int {b : Bool} : isiD [(.bl b), .ty "int"] = some (.s (.bl true)) := by rfl
theorem isi_bl_str {b : Bool} : isiD [(.bl b), .ty "str"] = some (.s (.bl false)) := by rfl
theorem isi_bl_tuple {b : Bool} : isiD [(.bl b), .ty "tuple"] = some (.s (.bl false)) := by rfl
theorem isi_bl_list {b : Bool} : isiD [(.bl b), .ty "list"] = some (.s (.bl false)) := by rfl
theorem isi_bl_dict {b : Bool} : isiD [(.bl b), .ty "dict"] = some (.s (.bl false)) := by rfl
theorem isi_int_bool {b : Int} : isiD [(.int b), .ty "bool"] = some (.s (.bl false)) := by rfl
theorem isi_int_int {b : Int} : isiD [(.int b), .ty "int"] = some (.s (.bl true)) := by rfl
theorem isi_int_str {b : Int} : isiD [(.int b), .ty "str"] = some (.s (.bl false)) := by rfl
theorem isi_int_tuple {b : Int} : isiD [(.int b), .ty "tuple"] = some (.s (.bl false)) := by rfl
theorem isi_int_list {b : Int} : isiD [(.int b), .ty "list"] = some (.s (.bl false)) := by rfl
theorem isi_int_dict {b : Int} : isiD [(.int b), .ty "dict"] = some (.s (.bl false)) := by rfl
theorem isi_str_bool {b : Str} : isiD [(.str b), .ty "bool"] = some (.s (.bl false)) := by rfl
theorem isi_str_int {b : Str} : isiD [(.str b), .ty "int"] = some (.s (.bl false)) := by rfl
theorem isi_str_str {b : Str} : isiD [(.str b), .ty "str"] = some (.s (.bl true)) := by rfl
theorem isi_str_tuple {b : Str} : isiD [(.str b), .ty "tuple"] = some (.s (.bl false)) := by rfl
theorem isi_str_list {b : Str} : isiD [(.str b), .ty "list"] = some (.s (.bl false)) := by rfl
theorem isi_str_dict {b : Str} : isiD [(.str b), .ty "dict"] = some (.s (.bl false)) := by rfl
theorem isi_tup_bool {b : List D} : isiD [(.tup b), .ty "bool"] = some (.s (.bl false)) := by rfl
theorem isi_tup_int {b : List D} : isiD [(.tup b), .ty "int"] = some (.s (.bl false)) := by rfl
theorem isi_tup_str {b : List D} : isiD [(.tup b), .ty "str"] = some (.s (.bl false)) := by rfl
theorem isi_tup_tuple {b : List D} : isiD [(.tup b), .ty "tuple"] = some (.s (.bl true)) := by rfl
theorem isi_tup_list {b : List D} : isiD [(.tup b), .ty "list"] = some (.s (.bl false)) := by rfl
theorem isi_tup_dict {b : List D} : isiD [(.tup b), .ty "dict"] = some (.s (.bl false)) := by rfl
theorem isi_lst_bool {b : List D} : isiD [(.lst b), .ty "bool"] = some (.s (.bl false)) := by rfl
theorem isi_lst_int {b : List D} : isiD [(.lst b), .ty "int"] = some (.s (.bl false)) := by rfl
theorem isi_lst_str {b : List D} : isiD [(.lst b), .ty "str"] = some (.s (.bl false)) := by rfl
theorem isi_lst_tuple {b : List D} : isiD [(.lst b), .ty "tuple"] = some (.s (.bl false)) := by rfl
theorem isi_lst_list {b : List D} : isiD [(.lst b), .ty "list"] = some (.s (.bl true)) := by rfl
theorem isi_lst_dict {b : List D} : isiD [(.lst b), .ty "dict"] = some (.s (.bl false)) := by rfl
theorem wr_ninNil' {d : D} {P : O → Prop} (c : flatD d = true) (h : P (.v (.bl true))) : WR (ninD d (.lst [])) P := ⟨.s (.bl true), by unfold ninD; rw [inB_lst c rfl]; rfl, h⟩
theorem wr_in1 {c : Nat} {y : Str} {P : O → Prop} (h : P (.v (.bl (decide (c ∈ y.cps.toList))))) : WR (inD (.str ⟨#[c]⟩) (.str y)) P := ⟨_, rfl, h⟩
theorem wr_nin1 {c : Nat} {y : Str} {P : O → Prop} (h : P (.v (.bl (!decide (c ∈ y.cps.toList))))) : WR (ninD (.str ⟨#[c]⟩) (.str y)) P := ⟨_, rfl, h⟩
/-- all signs of z are in y -/
def allc (y z : Str) : Bool := z.cps.toList.all fun c => decide (c ∈ y.cps.toList)
theorem bools_map {α : Type} (f : α → Bool) (l : List α) : bools (l.map fun a => D.bl (f a)) = some (l.map f) := by
  induction l with
  | nil => rfl
  | cons a l ih => rw [List.map_cons, List.map_cons]; unfold bools; rw [ih]; rfl
theorem wr_all {α : Type} {f : α → Bool} {l : List α} {P : O → Prop} (h : P (.v (.bl (l.all f)))) : WR (allD [.lst (l.map fun a => D.bl (f a))]) P := by
  refine ⟨.s (.bl ((l.map f).all id)), ?_, ?_⟩
  · show (bools _).map _ = _
    rw [bools_map]; rfl
  · rw [List.all_map]; exact h
theorem chars_len (z : Str) : (chars z).length = z.length := by unfold chars; rw [List.length_map, Array.length_toList]; rfl
theorem chars_get {z : Str} {i : Nat} {d : D} (h : (chars z)[i]? = some d) : ∃ h : i < z.cps.toList.length, d = .str ⟨#[z.cps.toList[i]]⟩ := by
  unfold chars at h
  rw [List.getElem?_map] at h
  obtain ⟨k, e, rfl⟩ := Option.map_eq_some_iff.mp h
  obtain ⟨hi, rfl⟩ := List.getElem?_eq_some_iff.mp e
  exact ⟨hi, rfl⟩
theorem wr_listS {ds : List D} {P : O → Prop} (h : P (.l ds)) : WR (listD [.lst ds]) P := ⟨_, rfl, h⟩
theorem wifNT {A B : Prop} (h : B) : if (!true) = true then A else B := by rw [if_neg (by decide)]; exact h
theorem wifNF {A B : Prop} (h : A) : if (!false) = true then A else B := by rw [if_pos (by decide)]; exact h
end Mr

end
section
set_option Elab.async false
set_option linter.all false
set_option maxRecDepth 100000
set_option maxHeartbeats 4000000
/-! MrG: while. -/
noncomputable section
namespace Mr
open PySem PySem.Spec PyProof.Rows L2
def wloop (t : MT) (b : MS) : Nat → List O → Option Out
  | 0, _ => none
  | n + 1, ρ => (t ρ).bind fun r => if r.1 = true then (b r.2).bind fun o => match o with
    | .nx ρ' => wloop t b n ρ'
    | .ct ρ' => wloop t b n ρ'
    | .bk ρ' => some (.nx ρ')
    | .rt o ρ' => some (.rt o ρ')
  else some (.nx r.2)
open Classical in
/-- while: as many turns as it takes -/
def s_while (t : MT) (b : MS) : MS := fun ρ => if h : ∃ n, (wloop t b n ρ).isSome = true then wloop t b h.choose ρ else none
theorem s_while_some {t : MT} {b : MS} {ρ : List O} {o : Out} (h : s_while t b ρ = some o) : ∃ n, wloop t b n ρ = some o := by
  unfold s_while at h
  split at h
  · exact ⟨_, h⟩
  · cases h
theorem wloop_succ {t : MT} {b : MS} : ∀ {n : Nat} {ρ : List O} {o : Out}, wloop t b n ρ = some o → wloop t b (n + 1) ρ = some o
  | 0, ρ, o, h => by cases h
  | n + 1, ρ, o, h => by
    unfold wloop at h ⊢
    obtain ⟨r, e1, h⟩ := Option.bind_eq_some_iff.mp h
    rw [e1]
    simp only [Option.bind_some]
    split at h
    · rename_i hb
      rw [if_pos hb]
      obtain ⟨q, e2, h⟩ := Option.bind_eq_some_iff.mp h
      rw [e2]
      simp only [Option.bind_some]
      cases q with
      | nx ρ' => exact wloop_succ h
      | ct ρ' => exact wloop_succ h
      | bk ρ' => exact h
      | rt x ρ' => exact h
    · rename_i hb
      rw [if_neg hb]
      exact h
theorem wloop_le {t : MT} {b : MS} {n m : Nat} {ρ : List O} {o : Out} (h : wloop t b n ρ = some o) (hm : n ≤ m) : wloop t b m ρ = some o := by
  induction hm with
  | refl => exact h
  | step _ ih => exact wloop_succ ih
theorem s_while_of {t : MT} {b : MS} {n : Nat} {ρ : List O} {o : Out} (h : wloop t b n ρ = some o) : s_while t b ρ = some o := by
  unfold s_while
  have hx : ∃ n, (wloop t b n ρ).isSome = true := ⟨n, by rw [h]; rfl⟩
  rw [dif_pos hx]
  obtain ⟨o', e'⟩ := Option.isSome_iff_exists.mp hx.choose_spec
  rw [e']
  have a := wloop_le h (Nat.le_max_left n hx.choose)
  have b' := wloop_le e' (Nat.le_max_right n hx.choose)
  rw [a] at b'
  exact b'.symm
section
variable {K : PySem.W.Frag} {n : Nat} {lk : List Nat}
theorem rfs_while {tc : TT} {tb : TS} {mt : MT} {mb : MS} (ht : Rft K tc mt) (hb : Rfs K n lk tb mb) : Rfs K n lk (tWhile tc tb) (s_while mt mb) := by
  intro c τ ρ σ H D out hl hn r e k
  obtain ⟨m, e⟩ := s_while_some e
  refine ⟨fun m σ' H' => ∃ ρ', ρ'.length = σ'.length ∧ σ'.length = σ.length ∧ lkp lk σ σ' ∧ Rel K c (τ ++ ρ'.zip σ') H' ∧ wloop mt mb m ρ' = some out, ⟨m, ρ, hl, rfl, .refl, r, e⟩, ?_⟩
  rintro m σ1 H1 ⟨ρ1, l1, s1, k1, r1, e1⟩
  cases m with
  | zero => cases e1
  | succ m =>
    unfold wloop at e1
    obtain ⟨⟨b, ρ2⟩, e2, e1⟩ := Option.bind_eq_some_iff.mp e1
    refine ht c τ ρ1 σ1 H1 _ b ρ2 l1 r1 e2 fun H2 l2 r2 => ?_
    cases b with
    | true =>
      rw [if_pos rfl]
      rw [if_pos rfl] at e1
      obtain ⟨o, e3, e1⟩ := Option.bind_eq_some_iff.mp e1
      refine ⟨fun σ' H' => ∃ ρ', ρ'.length = σ'.length ∧ σ'.length = σ.length ∧ lkp lk σ σ' ∧ Rel K c (τ ++ ρ'.zip σ') H' ∧ wloop mt mb m ρ' = some out, fun σ' H' h => ⟨m, Nat.lt_succ_self m, h⟩, hb c τ ρ2 σ1 H2 _ o l2 (s1.trans hn) r2 e3 ?_⟩
      cases o with
      | nx ρ3 => exact fun σ3 H3 a1 a2 a3 a4 => ⟨ρ3, a1, a2.trans s1, k1.trans a3, a4, e1⟩
      | ct ρ3 => exact fun σ3 H3 a1 a2 a3 a4 => ⟨ρ3, a1, a2.trans s1, k1.trans a3, a4, e1⟩
      | bk ρ3 =>
        cases e1
        exact fun σ3 H3 a1 a2 a3 a4 => k σ3 H3 a1 (a2.trans s1) (k1.trans a3) a4
      | rt x ρ3 =>
        cases e1
        exact fun y σ3 H3 a1 a2 a3 a4 => k y σ3 H3 a1 (a2.trans s1) (k1.trans a3) a4
    | false =>
      rw [if_neg Bool.false_ne_true]
      rw [if_neg Bool.false_ne_true] at e1
      cases e1
      exact k σ1 H2 l2 s1 k1 r2
end
section
variable {C : Cd} {N : List Str} {sc : Sk} {lk vs : List Nat} {pos : Pos}
theorem rs_while {e : Expr} {mt : MT} {body : List Stmt} {mb : MS} (h : RT C N sc e mt) (hb : RSs C N sc lk body mb) : RS C N sc lk (.While e body [] pos) (s_while mt mb) :=
  let ⟨t, a1, a2⟩ := h; let ⟨u, b1, b2⟩ := hb
  ⟨_, fun X g z => ps_while (by rw [z]; exact PassesOwn.never) (a1 X g) (b1 X g z), rfs_while a2 b2⟩
end
/-- while, by an invariant and a measure -/
theorem ws_while {t : MT} {b : MS} {ρ : List O} {P : Out → Prop} (Inv : Nat → List O → Prop) (k : Nat) (h0 : Inv k ρ)
    (hs : ∀ k ρ, Inv k ρ → WT (t ρ) fun c ρ1 => if c = true then WS (b ρ1) (Tn (fun ρ' => ∃ k', k' < k ∧ Inv k' ρ') P) else P (.nx ρ1)) : WS (s_while t b ρ) P := by
  have gen : ∀ (k : Nat) (ρ : List O), Inv k ρ → ∃ n o, wloop t b n ρ = some o ∧ P o := by
    intro k
    induction k using Nat.strongRecOn with
    | _ k ih =>
      intro ρ q
      obtain ⟨c, ρ1, e1, q⟩ := hs k ρ q
      cases c with
      | true =>
        rw [if_pos rfl] at q
        obtain ⟨o, e2, q⟩ := q
        cases o with
        | nx ρ2 =>
          obtain ⟨k', hk, q⟩ := q
          obtain ⟨n, o, e3, p⟩ := ih k' hk ρ2 q
          refine ⟨n + 1, o, ?_, p⟩
          unfold wloop
          rw [e1]; simp only [Option.bind_some]; rw [if_pos trivial, e2]; simp only [Option.bind_some]; exact e3
        | ct ρ2 =>
          obtain ⟨k', hk, q⟩ := q
          obtain ⟨n, o, e3, p⟩ := ih k' hk ρ2 q
          refine ⟨n + 1, o, ?_, p⟩
          unfold wloop
          rw [e1]; simp only [Option.bind_some]; rw [if_pos trivial, e2]; simp only [Option.bind_some]; exact e3
        | bk ρ2 =>
          refine ⟨1, .nx ρ2, ?_, q⟩
          unfold wloop
          rw [e1]; simp only [Option.bind_some]; rw [if_pos trivial, e2]; rfl
        | rt x ρ2 =>
          refine ⟨1, .rt x ρ2, ?_, q⟩
          unfold wloop
          rw [e1]; simp only [Option.bind_some]; rw [if_pos trivial, e2]; rfl
      | false =>
        rw [if_neg Bool.false_ne_true] at q
        refine ⟨1, .nx ρ1, ?_, q⟩
        unfold wloop
        rw [e1]; simp only [Option.bind_some]; rw [if_neg Bool.false_ne_true]
  obtain ⟨n, o, e, p⟩ := gen k ρ h0
  exact ⟨o, s_while_of e, p⟩
end Mr

end
section
set_option Elab.async false
set_option linter.all false
set_option maxRecDepth 100000
set_option maxHeartbeats 4000000
/-! MrH: == of any plain data. -/
namespace Mr
open PySem PySem.Spec PyProof.Rows L2
mutual
def toPy : D → Option PyData
  | .non => some .none
  | .bl b => some (.bool b)
  | .int i => some (.int i)
  | .str s => some (.str s)
  | .tup ds => (toPys ds).map .tuple
  | .lst ds => (toPys ds).map .list
  | .rl ds => (toPys ds).map .list
  | .ty _ => none
  | .ins _ _ _ => none
  | .dc _ _ => none
def toPys : List D → Option (List PyData)
  | [] => some []
  | d :: ds => (toPy d).bind fun p => (toPys ds).map fun ps => p :: ps
end
section
variable {X : Cx} {pins : List (Addr × Obj)} {σ : L2.St} {H h : Hp} {s : Shared}
mutual
theorem reads_of (I : Inv X pins σ H s) (e : Same h H) : ∀ {d : D} {v : V} {u : Value} {p : PyData}, Rep X.K h d v → RelV v u → toPy d = some p → ∃ as, Reads s.heap u p as
  | .non, v, u, p, q, r, t => by
    cases q; cases t
    cases (show u = Value.none from r)
    exact ⟨_, .none⟩
  | .bl b, v, u, p, q, r, t => by
    cases q; cases t
    cases (show u = Value.bool b from r)
    exact ⟨_, .bool b⟩
  | .int i, v, u, p, q, r, t => by
    cases q; cases t
    obtain ⟨k, rfl⟩ := (show ∃ k, u = Value.int i k from r)
    exact ⟨_, .int i k⟩
  | .str z, v, u, p, q, r, t => by
    cases q; cases t
    obtain ⟨k, rfl⟩ := (show ∃ k, u = Value.str z k from r)
    exact ⟨_, .str z k⟩
  | .tup ds, v, u, p, q, r, t => by
    obtain ⟨a, xs, rfl, q1, q2⟩ := q
    obtain ⟨ps, t1, rfl⟩ := Option.map_eq_some_iff.mp (show (toPys ds).map PyData.tuple = some p from t)
    cases (show u = Value.ref a from r)
    obtain ⟨us, r1, ⟨o, e1, e2, n, e3⟩, _⟩ := I.tuple (sqT_same e q1)
    obtain ⟨as, k⟩ := reads_ofs I e q2 r1 t1
    exact ⟨as, .tuple e1 e2 e3 k⟩
  | .lst ds, v, u, p, q, r, t => by
    obtain ⟨a, xs, rfl, q1, q2⟩ := q
    obtain ⟨ps, t1, rfl⟩ := Option.map_eq_some_iff.mp (show (toPys ds).map PyData.list = some p from t)
    cases (show u = Value.ref a from r)
    obtain ⟨us, r1, ⟨o, n, e1, e2, _, e3⟩, _⟩ := I.list (.inl (.inl (e _ _ q1)))
    obtain ⟨as, k⟩ := reads_ofs I e q2 r1 t1
    exact ⟨_, .list e1 e2 e3 k⟩
  | .rl ds, v, u, p, q, r, t => by
    obtain ⟨a, xs, rfl, q1, q2⟩ := q
    obtain ⟨ps, t1, rfl⟩ := Option.map_eq_some_iff.mp (show (toPys ds).map PyData.list = some p from t)
    cases (show u = Value.ref a from r)
    obtain ⟨us, r1, ⟨o, n, e1, e2, _, e3⟩, _⟩ := I.list (e.seq q1)
    obtain ⟨as, k⟩ := reads_ofs I e q2 r1 t1
    exact ⟨_, .list e1 e2 e3 k⟩
  | .ty _, v, u, p, q, r, t => by cases t
  | .ins _ _ _, v, u, p, q, r, t => by cases t
  | .dc _ _, v, u, p, q, r, t => by cases t
theorem reads_ofs (I : Inv X pins σ H s) (e : Same h H) : ∀ {ds : List D} {vs : List V} {us : List Value} {ps : List PyData}, Reps X.K h ds vs → Vals vs us → toPys ds = some ps → ∃ as, ReadsAll s.heap us ps as
  | [], vs, us, ps, q, r, t => by
    cases q; cases t; cases r
    exact ⟨_, .nil⟩
  | d :: ds, vs, us, ps, q, r, t => by
    obtain ⟨x, xs, rfl, q1, q2⟩ := q
    obtain ⟨p, t1, t⟩ := Option.bind_eq_some_iff.mp (show (toPy d).bind (fun p => (toPys ds).map fun ps => p :: ps) = some ps from t)
    obtain ⟨ps', t2, rfl⟩ := Option.map_eq_some_iff.mp t
    cases r with
    | cons r1 r2 =>
      obtain ⟨as, k1⟩ := reads_of I e q1 r1 t1
      obtain ⟨bs, k2⟩ := reads_ofs I e q2 r2 t2
      exact ⟨_, .cons k1 k2⟩
end
theorem reads_vw (I : Inv X pins σ H s) (e : Same h H) {d : D} {v : V} {u : Value} {p : PyData} (q : Vw X.K h H d v) (r : RelV v u) (t : toPy d = some p) : ∃ as, Reads s.heap u p as := by
  rcases q with q | ⟨ds, a, xs, rfl, rfl, q1, q2⟩ | ⟨ks, ds, a, xs, rfl, rfl, q1, q2⟩
  · exact reads_of I e q r t
  · obtain ⟨ps, t1, rfl⟩ := Option.map_eq_some_iff.mp (show (toPys ds).map PyData.list = some p from t)
    cases (show u = Value.ref a from r)
    obtain ⟨us, r1, ⟨o, n, e1, e2, _, e3⟩, _⟩ := I.list (.inl (.inl q1))
    obtain ⟨as, k⟩ := reads_ofs I e q2 r1 t1
    exact ⟨_, .list e1 e2 e3 k⟩
  · cases t
end
/-- == of data -/
def eqQ (a b : D) : Option Bool := (toPy a).bind fun p => (toPy b).bind fun q => if (p.canLay0 && q.canLay0) = true ∧ min p.depth q.depth ≤ 1500 then some (PyData.eqv p q) else none
def eqP (a b : D) : Option Bool := match eqB a b with
  | some k => some k
  | none => eqQ a b
def eqPD (a b : D) : Option Res := (eqP a b).map fun k => .s (.bl k)
def nePD (a b : D) : Option Res := (eqP a b).map fun k => .s (.bl (!k))
def rDeep (K : PySem.W.Frag) (f : Bool → Bool) : R2 := fun x y H Q => ∃ (h : Hp) (d1 d2 : D) (p q : PyData), Same h H ∧ Vw K h H d1 x ∧ Vw K h H d2 y ∧ toPy d1 = some p ∧ toPy d2 = some q ∧ p.canLay0 = true ∧ q.canLay0 = true ∧ min p.depth q.depth ≤ 1500 ∧ Q (.bl (f (PyData.eqv p q))) H
def rEqP (K : PySem.W.Frag) : R2 := fun x y H Q => rEq x y H Q ∨ rDeep K id x y H Q
def rNeP (K : PySem.W.Frag) : R2 := fun x y H Q => rNe x y H Q ∨ rDeep K not x y H Q
theorem op_eqP (X : Cx) (hu : X.A.units + 1600 < cLine) : OpR X (compareOp .Eq) (rEqP X.K) := by
  intro pins s σ H x y v u Q I rx ry hh
  rcases hh with hh | ⟨h, d1, d2, p, q, e, v1, v2, t1, t2, c1, c2, dp, k⟩
  · exact op_eq pins s σ H x y v u Q I rx ry hh
  · obtain ⟨as, ra⟩ := reads_vw I e v1 rx t1
    obtain ⟨bs, rb⟩ := reads_vw I e v2 ry t2
    exact SeqAt.compareEq_reads ra rb c1 c2 (by omega) ⟨.bl _, H, I, rfl, k⟩
theorem op_neP (X : Cx) (hu : X.A.units + 1600 < cLine) : OpR X (compareOp .NotEq) (rNeP X.K) := by
  intro pins s σ H x y v u Q I rx ry hh
  rcases hh with hh | ⟨h, d1, d2, p, q, e, v1, v2, t1, t2, c1, c2, dp, k⟩
  · exact op_ne pins s σ H x y v u Q I rx ry hh
  · obtain ⟨as, ra⟩ := reads_vw I e v1 rx t1
    obtain ⟨bs, rb⟩ := reads_vw I e v2 ry t2
    exact SeqAt.compareNe_reads ra rb c1 c2 (by omega) ⟨.bl _, H, I, rfl, k⟩
theorem eqQ_some {a b : D} {k : Bool} (e : eqQ a b = some k) : ∃ p q, toPy a = some p ∧ toPy b = some q ∧ p.canLay0 = true ∧ q.canLay0 = true ∧ min p.depth q.depth ≤ 1500 ∧ k = PyData.eqv p q := by
  unfold eqQ at e
  obtain ⟨p, e1, e⟩ := Option.bind_eq_some_iff.mp e
  obtain ⟨q, e2, e⟩ := Option.bind_eq_some_iff.mp e
  split at e
  · rename_i hc
    rw [Bool.and_eq_true] at hc
    cases e
    exact ⟨p, q, e1, e2, hc.1.1, hc.1.2, hc.2, rfl⟩
  · cases e
theorem eqPD_ok {K : PySem.W.Frag} : R2b K (rEqP K) eqPD := by
  refine ⟨?_, ?_⟩
  · intro h H x y dx dy res Q hs vx vy e k
    obtain ⟨b, e1, e⟩ := Option.map_eq_some_iff.mp e
    subst e
    unfold eqP at e1
    split at e1
    · rename_i k' e2
      cases e1
      obtain ⟨s1, s2⟩ := eqB_ok vx vy e2
      exact .inl ⟨s1, by rw [s2]; exact k _ _ (resS rfl)⟩
    · obtain ⟨p, q, t1, t2, c1, c2, dp, rfl⟩ := eqQ_some e1
      exact .inr ⟨h, dx, dy, p, q, hs, vx, vy, t1, t2, c1, c2, dp, k _ _ (resS rfl)⟩
  · intro d1 d2 res e
    obtain ⟨b, e1, e⟩ := Option.map_eq_some_iff.mp e
    exact ⟨b, e.symm⟩
theorem nePD_ok {K : PySem.W.Frag} : R2b K (rNeP K) nePD := by
  refine ⟨?_, ?_⟩
  · intro h H x y dx dy res Q hs vx vy e k
    obtain ⟨b, e1, e⟩ := Option.map_eq_some_iff.mp e
    subst e
    unfold eqP at e1
    split at e1
    · rename_i k' e2
      cases e1
      obtain ⟨s1, s2⟩ := eqB_ok vx vy e2
      exact .inl ⟨s1, by rw [s2]; exact k _ _ (resS rfl)⟩
    · obtain ⟨p, q, t1, t2, c1, c2, dp, rfl⟩ := eqQ_some e1
      exact .inr ⟨h, dx, dy, p, q, hs, vx, vy, t1, t2, c1, c2, dp, k _ _ (resS rfl)⟩
  · intro d1 d2 res e
    obtain ⟨b, e1, e⟩ := Option.map_eq_some_iff.mp e
    exact ⟨!b, e.symm⟩
section
variable {C : Cd} {N : List Str} {sc : Sk} {pos : Pos}
theorem Gd.wide {X : Cx} (g : Gd C N sc X) (hk : 90 ≤ C.k) : X.A.units + 1600 < cLine := by have := g.room.un; omega
theorem re_cmpP {op : CmpOp} {a b : Expr} {ma mb : MP} {f : D → D → Option Res} (r : PySem.W.Frag → R2) (ho : ∀ X : Cx, X.A.units + 1600 < cLine → OpR X (compareOp op) (r X.K)) (hr : R2ok C.K (r C.K) f) (hk : 90 ≤ C.k) (ha : RP C N sc a ma) (hb : RP C N sc b mb) (hm : behindInMarks op b = false) : RE C N sc (.Compare a [op] [b] pos) (m_op2 f ma mb) :=
  let ⟨t, a1, a2⟩ := ha; let ⟨u, b1, b2⟩ := hb
  ⟨tOp (r C.K) t u, fun X g => pe_cmpR (by rw [← g.K]; exact ho X (g.wide hk)) (a1 X g) (b1 X g) hm, rf_op2 hr a2 b2⟩
theorem rt_cmpP {op : CmpOp} {a b : Expr} {ma mb : MP} {f : D → D → Option Res} (r : PySem.W.Frag → R2) (ho : ∀ X : Cx, X.A.units + 1600 < cLine → OpR X (compareOp op) (r X.K)) (hr : R2ok C.K (r C.K) f) (hk : 90 ≤ C.k) (ha : RP C N sc a ma) (hb : RP C N sc b mb) (hm : behindInMarks op b = false) : RT C N sc (.Compare a [op] [b] pos) (m_tst (m_op2 f ma mb)) :=
  let ⟨t, a1, a2⟩ := ha; let ⟨u, b1, b2⟩ := hb
  ⟨tTest (tOp (r C.K) t u), fun X g => pt_cmpR (by rw [← g.K]; exact ho X (g.wide hk)) (a1 X g) (b1 X g) hm, rft_tst (rf_op2 hr a2 b2)⟩
end
section
variable {P : O → Prop}
theorem wr_eqP {i j : Int} (h : P (.v (.bl (decide (i = j))))) : WR (eqPD (.int i) (.int j)) P := ⟨_, rfl, h⟩
theorem wr_neP {i j : Int} (h : P (.v (.bl (!decide (i = j))))) : WR (nePD (.int i) (.int j)) P := ⟨_, rfl, h⟩
theorem wr_eqPs {i j : Str} (h : P (.v (.bl (decide (i = j))))) : WR (eqPD (.str i) (.str j)) P := ⟨_, rfl, h⟩
theorem wr_nePs {i j : Str} (h : P (.v (.bl (!decide (i = j))))) : WR (nePD (.str i) (.str j)) P := ⟨_, rfl, h⟩
end
end Mr

end
section
set_option Elab.async false
set_option linter.all false
set_option maxRecDepth 100000
set_option maxHeartbeats 4000000
/-! MrI: tuple(), extend, reversed(x), enumerate(x). -/
noncomputable section
namespace Mr
open PySem PySem.Spec PyProof.Rows L2
/-- tuple(x) -/
def tupleD : List D → Option Res
  | [.lst ds] => some (.nt ds)
  | [.tup ds] => some (.s (.tup ds))
  | [.rl ds] => some (.nt ds)
  | _ => none
def rTupleA (K : PySem.W.Frag) : List V → Hp → VK → Prop := fun xs H Q => ∃ p ys, xs = [.ref p] ∧ ((SqL K H p ys ∧ ∀ l, H l = none → Q (.ref l) (upd H l (.tup ys))) ∨ (SqT K H p ys ∧ Q (.ref p) H))
theorem cb_tuple (X : Cx) (_ : X.calm = true) : CallR X (.type "tuple") (rTupleA X.K) := call_tuple_of
theorem tupleD_ok {K : PySem.W.Frag} : RLok K (rTupleA K) tupleD := by
  intro h H xs ds res Q hs v e k
  unfold tupleD at e
  split at e
  · cases e
    obtain ⟨x, r, rfl, vx, rfl⟩ := v
    obtain ⟨a, xs, rfl, ha, ra⟩ := vw_lst hs vx
    exact ⟨_, _, rfl, .inl ⟨sql ha, fun p hp => k _ _ ⟨p, xs, rfl, hp, rfl, ra⟩⟩⟩
  · cases e
    obtain ⟨x, r, rfl, vx, rfl⟩ := v
    obtain ⟨a, xs, rfl, ha, ra, rp⟩ := vw_tup hs vx
    exact ⟨_, _, rfl, .inr ⟨ha, k _ _ (resS rp)⟩⟩
  · cases e
    obtain ⟨x, r, rfl, vx, rfl⟩ := v
    obtain ⟨a, xs, rfl, ha, ra⟩ := vw_rl hs vx
    exact ⟨_, _, rfl, .inl ⟨ha, fun p hp => k _ _ ⟨p, xs, rfl, hp, rfl, ra⟩⟩⟩
  · cases e
/-- xs.extend(ys), xs an owned list in slot i, ys a list -/
def m_ext (i : Nat) (m : ME) : ME := fun ρ => match ρ[i]? with
  | some (.l _) => (m ρ).bind fun a => (toD a.1).bind fun d => match d, a.2[i]? with
    | .lst es, some (.l ds) => if ds.length + es.length ≤ 1000000 then some (.v .non, a.2.set i (.l (ds ++ es))) else none
    | _, _ => none
  | _ => none
section
variable {K : PySem.W.Frag}
theorem rf_ext {i : Nat} {t : TE} {m : ME} (h : Rf K t m) : Rf K (tBM K "list" rExtend (tVar i) (tCons t tNil)) (m_ext i m) := by
  intro c τ ρ σ H Q o ρ' hl r e k
  unfold m_ext at e
  split at e
  · rename_i ds0 h0
    obtain ⟨⟨oa, ρ1⟩, e1, e⟩ := Option.bind_eq_some_iff.mp e
    obtain ⟨d, e2, e⟩ := Option.bind_eq_some_iff.mp e
    simp only at e
    split at e
    · rename_i es ds h1
      split at e
      · rename_i hz
        cases e
        obtain ⟨a, xs0, s1, s2, _⟩ := slot_ref hl r h0
        refine ⟨.ref a, s1, .inl ⟨rfl, xs0, .inl (.inl s2)⟩, h c τ ρ σ H _ oa ρ1 hl r e1 fun x H1 hl1 r1 => ?_⟩
        have r2 := r1.toD e2
        have r3 : Rel K c (((.v (.lst es), some x) :: τ) ++ ρ1.zip σ) H1 := r2
        have r4 := r3.take h1 s1
        obtain ⟨a', xs, ea, q1, q2⟩ := r4.ref
        cases ea
        obtain ⟨F, rr⟩ := id r4
        obtain ⟨F1, F2, ⟨a2, xs2, p1, p2, p3, p4⟩, ⟨G1, G2, ⟨_, z, ez, qz⟩, _, _⟩, _⟩ := rr.rc
        cases p1
        cases ez
        rw [q1] at p2
        cases p2
        obtain ⟨b, zs, rfl, b1, b2⟩ := qz
        refine ⟨a, b, xs, zs, rfl, rfl, q1, hid_same _ _ b1, by rw [← q2, ← b2.length]; exact Nat.le_trans hz (by decide), ?_⟩
        have m1 := rr.mut (ds' := ds ++ es) (xs' := xs ++ zs) (p3.append b2)
        have m2 := m1.put (i := i) (τ := (.v (.lst es), some (.ref b)) :: τ) (by rw [List.length_set]; exact hl1) s1
        rw [List.set_set] at m2
        obtain ⟨G, gg⟩ := m2.drop
        exact k .non _ (by rw [List.length_set]; exact hl1) (gg.add rfl)
      · cases e
    · cases e
  · cases e
end
/-- reversed(x), a list or a tuple -/
def itemsR : D → Option (List D)
  | .lst ds => some ds
  | .tup ds => some ds
  | _ => none
def i_revL (m : ME) : MI := fun ρ => (m ρ).bind fun a => (toD a.1).bind fun d => (itemsR d).map fun ds => (ds.reverse, a.2)
/-- enumerate(x), a list -/
def enumD (ds : List D) : List D := ds.mapIdx fun i d => .tup [.int (i : Int), d]
def i_enum (m : ME) : MI := fun ρ => (m ρ).bind fun a => (toD a.1).bind fun d => match d with
  | .lst ds => some (enumD ds, a.2)
  | _ => none
section
variable {K : PySem.W.Frag}
theorem Rel.lstv {c : Cc} {ds : List D} {x : V} {cs : Cells} {H : Hp} (r : Rel K c ((.v (.lst ds), some x) :: cs) H) : ∃ a F xs, x = .ref a ∧ RelAt K c F ((.v (.lst ds), some x) :: cs) H ∧ SqL K H a xs ∧ Reps K (hid (F ++ c.B) H) ds xs := by
  obtain ⟨F, y, rr, ey, q⟩ := r.val List.mem_cons_self
  cases ey
  obtain ⟨a, xs, rfl, q1, q2⟩ := q
  exact ⟨a, F, xs, rfl, rr, .inl (.inl (hid_same _ _ q1)), q2⟩
theorem Rel.tupv {c : Cc} {ds : List D} {x : V} {cs : Cells} {H : Hp} (r : Rel K c ((.v (.tup ds), some x) :: cs) H) : ∃ a F xs, x = .ref a ∧ RelAt K c F ((.v (.tup ds), some x) :: cs) H ∧ SqT K H a xs ∧ Reps K (hid (F ++ c.B) H) ds xs := by
  obtain ⟨F, y, rr, ey, q⟩ := r.val List.mem_cons_self
  cases ey
  obtain ⟨a, xs, rfl, q1, q2⟩ := q
  exact ⟨a, F, xs, rfl, rr, sqT_same hid_same q1, q2⟩
theorem rev_get {ds : List D} {i : Nat} {d : D} (h : ds.reverse[i]? = some d) : i < ds.length ∧ ds[ds.length - 1 - i]? = some d := by
  have hi : i < ds.length := by
    have := (List.getElem?_eq_some_iff.mp h).1
    rwa [List.length_reverse] at this
  rw [List.getElem?_reverse hi] at h
  exact ⟨hi, h⟩
theorem rfi_revL {t : TE} {m : ME} (h : Rf K t m) : Rfi K (RT.iRevA K t) (i_revL m) := by
  intro c τ ρ σ H R ds ρ' hl r e k
  unfold i_revL at e
  obtain ⟨⟨o, ρ1⟩, e1, e⟩ := Option.bind_eq_some_iff.mp e
  obtain ⟨d, e2, e⟩ := Option.bind_eq_some_iff.mp e
  obtain ⟨es, e3, e⟩ := Option.map_eq_some_iff.mp e
  cases e
  refine h c τ ρ σ H _ o _ hl r e1 fun x H' hl' r' => ?_
  have r'' := r'.toD e2
  cases d with
  | lst ds =>
    cases e3
    obtain ⟨a, F, xs, rfl, rr, q1, q2⟩ := r''.lstv
    have hn : es.length = xs.length := q2.length
    refine ⟨a, xs, rfl, .inl ⟨q1, k _ H' [(.v (.lst es), some (.ref a))] hl' r'' fun i cs H2 r2 => ?_⟩⟩
    obtain ⟨a2, F2, xs2, ea, rr2, p1, p2⟩ := Rel.lstv (show Rel K c ((.v (.lst es), some (.ref a)) :: cs) H2 from r2)
    cases ea
    refine ⟨fun d' hd => ?_, fun hi => ?_⟩
    · obtain ⟨hi, hd⟩ := rev_get hd
      obtain ⟨v, hv, rv⟩ := p2.get hd
      rw [hn] at hv
      refine ⟨⟨by rw [← hn]; exact hi, xs2, v, p1, hv⟩, fun x H3 y => ?_⟩
      obtain ⟨rfl, y⟩ := y
      have ev : v = x := Option.some.inj (hv.symm.trans (y xs2 p1))
      subst ev
      exact rr2.add rv
    · show xs.length ≤ i
      rw [hi, List.length_reverse, hn]
      exact Nat.le_refl _
  | tup ds =>
    cases e3
    obtain ⟨a, F, xs, rfl, rr, q1, q2⟩ := r''.tupv
    have hn : es.length = xs.length := q2.length
    refine ⟨a, xs, rfl, .inr ⟨q1, k _ H' [(.v (.tup es), some (.ref a))] hl' r'' fun i cs H2 r2 => ?_⟩⟩
    obtain ⟨a2, F2, xs2, ea, rr2, p1, p2⟩ := Rel.tupv (show Rel K c ((.v (.tup es), some (.ref a)) :: cs) H2 from r2)
    cases ea
    refine ⟨fun d' hd => ?_, fun hi => ?_⟩
    · obtain ⟨hi, hd⟩ := rev_get hd
      obtain ⟨v, hv, rv⟩ := p2.get hd
      rw [hn] at hv
      refine ⟨⟨by rw [← hn]; exact hi, xs2, v, p1, hv⟩, fun x H3 y => ?_⟩
      obtain ⟨rfl, y⟩ := y
      have ev : v = x := Option.some.inj (hv.symm.trans (y xs2 p1))
      subst ev
      exact rr2.add rv
    · show xs.length ≤ i
      rw [hi, List.length_reverse, hn]
      exact Nat.le_refl _
  | _ => cases e3
theorem enumD_get {ds : List D} {i : Nat} {d : D} (h : (enumD ds)[i]? = some d) : ∃ e, ds[i]? = some e ∧ d = .tup [.int (i : Int), e] := by
  unfold enumD at h
  rw [List.getElem?_mapIdx] at h
  obtain ⟨e, e1, e2⟩ := Option.map_eq_some_iff.mp h
  exact ⟨e, e1, e2.symm⟩
theorem enumD_length (ds : List D) : (enumD ds).length = ds.length := by unfold enumD; rw [List.length_mapIdx]
theorem rfi_enum {t : TE} {m : ME} (h : Rf K t m) : Rfi K (iEnum K (tCons t tNil)) (i_enum m) := by
  intro c τ ρ σ H R ds ρ' hl r e k
  unfold i_enum at e
  obtain ⟨⟨o, ρ1⟩, e1, e⟩ := Option.bind_eq_some_iff.mp e
  obtain ⟨d, e2, e⟩ := Option.bind_eq_some_iff.mp e
  cases d with
  | lst es =>
    cases e
    refine h c τ ρ σ H _ o _ hl r e1 fun x H' hl' r' => ?_
    have r'' := r'.toD e2
    obtain ⟨a, F, xs, rfl, rr, q1, q2⟩ := r''.lstv
    refine ⟨a, xs, rfl, q1, k _ H' [(.v (.lst es), some (.ref a))] hl' r'' fun i cs H2 r2 => ?_⟩
    obtain ⟨a2, F2, xs2, ea, rr2, p1, p2⟩ := Rel.lstv (show Rel K c ((.v (.lst es), some (.ref a)) :: cs) H2 from r2)
    cases ea
    refine ⟨fun d' hd => ?_, fun hi => ?_⟩
    · obtain ⟨e', he, rfl⟩ := enumD_get hd
      obtain ⟨v, hv, rv⟩ := p2.get he
      refine ⟨⟨xs2, v, p1, hv⟩, fun x H3 y => ?_⟩
      obtain ⟨T, w, rfl, hT, rfl, y⟩ := y
      have ev : v = w := Option.some.inj (hv.symm.trans (y xs2 p1))
      subst ev
      exact rr2.res (res := .nt [.int (i : Int), e']) ⟨T, _, rfl, hT, rfl, ⟨_, _, rfl, rfl, _, _, rfl, rv, rfl⟩⟩
    · refine ⟨xs2, p1, ?_⟩
      rw [hi, enumD_length, p2.length]
      exact Nat.le_refl _
  | _ => cases e
end
section
variable {C : Cd} {N : List Str} {sc : Sk} {pos : Pos} {tg : Expr} {p apos : Pos}
theorem ri_revL {e : Expr} {m : ME} (hm : C.mg "reversed" = none) (h : RE C N sc e m) (hg : gloB sc "reversed" = true := by decide +kernel) (hs : ∀ env : Env, starEach [e] env = (false, eval e env) :: starEach [] env := by intro _; rfl) : RI C N sc tg (.Call (.Name "reversed" p) [e] [] pos) (i_revL m) :=
  let ⟨t, a1, a2⟩ := h
  ⟨RT.iRevA C.K t, fun X g => by have q := RT.pi_revA (g.gl hg) (by rw [g.mg]; exact hm) (a1 X g) (hs _) (p := p) (pos := pos) (tg := tg); rw [g.K] at q; exact q, rfi_revL a2⟩
theorem ri_enum {e : Expr} {elts : List Expr} {kk : Nat} {tpos : Pos} {m : ME} (hm : C.mg "enumerate" = none) (h : RE C N sc e m) (hg : gloB sc "enumerate" = true := by decide +kernel) (hs : ∀ env : Env, starEach [e] env = [(false, eval e env)] := by intro _; rfl) : RI C N sc (.Tuple elts kk tpos) (.Call (.Name "enumerate" p) [e] [] pos) (i_enum m) :=
  let ⟨t, a1, a2⟩ := h
  ⟨iEnum C.K (tCons t tNil), fun X g => by have q := pi_enum (g.gl hg) (by rw [g.mg]; exact hm) (pa_cons (a1 X g) pa_nil (hs _)) (hs _) (p := p) (pos := pos) (tpos := tpos) (elts := elts) (kk := kk); rw [g.K] at q; exact q, rfi_enum a2⟩
theorem re_ext (i : Nat) {x : Str} {e : Expr} {m : ME} (h : RE C N sc e m) (hv : visB N sc i x = true := by decide +kernel) (hb : ∀ env : Env, attributeBase (.Name x p) "extend" env (eval (.Name x p) env) = eval (.Name x p) env := by intro _; rfl)
    (hf : ∀ env : Env, ((backTo pos (starEach [e] env)).all (fun x => !x.1) && (backToKw pos (keywordEach [] env)).all (fun x => x.1.isSome) && decide ([e].length + ([] : List Keyword).length + (if ([] : List Keyword).isEmpty then 0 else 1) < 30)) = true := by intro _; rfl)
    (hline : (apos.endLine == pos.line) = true := by rfl) (hs : ∀ env : Env, starEach [e] env = (false, eval e env) :: starEach [] env := by intro _; rfl) : RE C N sc (.Call (.Attribute (.Name x p) "extend" apos) [e] [] pos) (m_ext i m) := by
  obtain ⟨t, a1, a2⟩ := h
  refine ⟨tBM C.K "list" rExtend (tVar i) (tCons t tNil), fun X g => ?_, rf_ext a2⟩
  have q := pe_bm PySem.F.plainAttrs_list PySem.F.slot_list_extend PySem.F.type_list_extend (mt_extend (X := X)) (pe_var (pos := p) (g.vis hv).1 (g.vis hv).2 (okName_d (visB_ok hv).2.2).1 (okName_d (visB_ok hv).2.2).2.1) (pa_cons (a1 X g) pa_nil (hs _)) (apos := apos) (cpos := pos) (hb _) (hf _) hline (hs _) rfl
  rw [g.K] at q
  exact q
end
end Mr

end
section
set_option Elab.async false
set_option linter.all false
set_option maxRecDepth 100000
set_option maxHeartbeats 4000000
/-! MrJ: an owned list of cells, made by a comprehension. -/
noncomputable section
namespace Mr
open PySem PySem.Spec PyProof.Rows L2
def lclL (vs : List Nat) (g : MG) (mt : MT) (me : ME) : List D → List O → List O → Option (List O × List O)
  | [], acc, ρ => some (acc, wipeO vs ρ)
  | d :: ds, acc, ρ => (g d (wipeO vs ρ)).bind fun ρ1 => (mt ρ1).bind fun b => if b.1 = true then (me b.2).bind fun a => lclL vs g mt me ds (acc ++ [a.1]) a.2 else lclL vs g mt me ds acc b.2
def m_lcL (vs : List Nat) (mi : MI) (g : MG) (mt : MT) (me : ME) : ME := fun ρ => (mi ρ).bind fun a => if a.1.length ≤ 1000000 then (lclL vs g mt me a.1 [] a.2).map fun r => (.g .lst r.1, r.2) else none
section
variable {K : PySem.W.Frag} {n : Nat}
theorem RelAt.newLL {c : Cc} {F : List Addr} {cs : Cells} {H : Hp} {p : Addr} (r : RelAt K c F cs H) (hp : H p = none) : Rel K c ((.g .lst [], some (.ref p)) :: cs) (upd H p (.lst [])) := by
  obtain ⟨G, g⟩ := r.newL (ds := []) (xs := []) hp rfl
  obtain ⟨F1, F2, ⟨a, xs, e1, e2, e3, e4⟩, s2, e5⟩ := g.rc
  cases e1
  have e3' : xs = [] := e3
  subst e3'
  exact ⟨G, ⟨F1, F2, ⟨p, [], [], rfl, e2, ⟨rfl, rfl⟩, e4⟩, s2, e5⟩, g.nd, g.dj, g.bt, g.fr, g.ow⟩
/-- the second cell goes into the first's list -/
theorem Rel.pushL {c : Cc} {acc : List O} {o : O} {L : Addr} {z : V} {cs : Cells} {H : Hp} (r : Rel K c ((.g .lst acc, some (.ref L)) :: (o, some z) :: cs) H) :
    ∃ xs, H L = some (.lst xs) ∧ xs.length = acc.length ∧ Rel K c ((.g .lst (acc ++ [o]), some (.ref L)) :: cs) (upd H L (.lst (xs ++ [z]))) := by
  obtain ⟨F, r⟩ := r
  obtain ⟨F1, F2, ⟨a, xs, F3, e1, e2, e3, e4⟩, ⟨F4, F5, ro, s2, e5⟩, e6⟩ := r.rc
  cases e1
  subst e4 e5 e6
  have nd := r.nd
  have ndL : L ∉ F3 ++ (F4 ++ F5) := by
    have : (L :: (F3 ++ (F4 ++ F5))).Nodup := by simpa using nd
    exact (List.nodup_cons.mp this).1
  have ne : ∀ x, x ∈ F3 ++ (F4 ++ F5) → x ≠ L := fun x hx e => ndL (e ▸ hx)
  have eqF : (L :: F3 ++ (F4 ++ F5)) = (L :: (F3 ++ F4)) ++ F5 := by simp
  have eh : hid ((L :: (F3 ++ F4)) ++ F5 ++ c.B) (upd H L (.lst (xs ++ [z]))) = hid (L :: F3 ++ (F4 ++ F5) ++ c.B) H := by
    rw [← eqF]
    funext x
    by_cases hx : x ∈ (L :: F3 ++ (F4 ++ F5)) ++ c.B
    · rw [hid_in hx, hid_in hx]
    · rw [hid_out hx, hid_out hx, upd_ne (fun q => hx (by rw [q]; simp))]
  refine ⟨xs, e2, e3.length.symm, (L :: (F3 ++ F4)) ++ F5, ?_, by rw [← eqF]; exact nd, by rw [← eqF]; exact r.dj, r.bt, ?_, by rw [← eqF]; exact r.ow⟩
  · rw [eh]
    refine ⟨L :: (F3 ++ F4), F5, ⟨L, xs ++ [z], F3 ++ F4, rfl, upd_same, ?_, rfl⟩, s2.mono (fun _ _ q => q) fun x hx => upd_ne (ne x (by simp [hx])), rfl⟩
    refine ROs.append (e3.mono (fun _ _ q => q) fun x hx => upd_ne (ne x (by simp [hx]))) ⟨z, [], F4, [], rfl, ro.mono (fun _ _ q => q) fun x hx => upd_ne (ne x (by simp [hx])), ⟨rfl, rfl⟩, by simp⟩
  · intro x o g1 g2
    have nx : x ≠ L := fun e => by
      subst e
      rcases r.ow x (by simp) with w | w
      · exact g2 w
      · rw [g1] at w; cases w
    rw [upd_ne nx]
    exact r.fr x o g1 g2
theorem rf_lcL {vs : List Nat} {wi : TI} {g : TG} {tt : TT} {te : TE} {mi : MI} {mg : MG} {mt : MT} {me : ME} (hi : Rfi K wi mi) (hg : ∀ lk : List Nat, (∀ i ∈ lk, i ∉ vs) → Rfg K n lk g mg) (ht : Rft K tt mt) (he : Rf K te me) :
    ∀ (c : Cc) (τ : Cells) (ρ : List O) (σ : L2.St) (H : Hp) (Q : VK) (o : O) (ρ' : List O), σ.length = n → ρ.length = σ.length → Rel K c (τ ++ ρ.zip σ) H → m_lcL vs mi mg mt me ρ = some (o, ρ') →
      (∀ x H', ρ'.length = σ.length → Rel K c ((o, some x) :: (τ ++ ρ'.zip σ)) H' → Q x H') → tLc wi g tt te vs σ H Q := by
  intro c τ ρ σ H Q o ρ' hn hl r e k
  unfold m_lcL at e
  obtain ⟨⟨ds, ρ1⟩, e1, e⟩ := Option.bind_eq_some_iff.mp e
  simp only at e
  split at e
  · rename_i hz
    obtain ⟨⟨acc', ρ2⟩, e2, e⟩ := Option.map_eq_some_iff.mp e
    cases e
    refine hi c τ ρ σ H _ ds ρ1 hl r e1 fun J H1 κ hl1 r1 y => fun L hD => ?_
    have start : Rel K c ((.g .lst [], some (.ref L)) :: (κ ++ (τ ++ (wipeO vs ρ1).zip (wipe σ vs)))) (upd H1 L (.lst [])) := by
      have r2 : Rel K c ((κ ++ τ) ++ (wipeO vs ρ1).zip (wipe σ vs)) H1 := by
        rw [← List.append_assoc] at r1
        exact r1.slots (wipeO_length _ _) (wipe_length _ _) (wipe_pair hl1 fun i h => wipe_out h)
      rw [List.append_assoc] at r2
      obtain ⟨F, rr⟩ := r2
      exact rr.newLL hD
    refine ⟨fun i m H' => m = ds.length - i ∧ i ≤ ds.length ∧ ∃ acc ρ3, acc.length ≤ i ∧ ρ3.length = σ.length ∧ Rel K c ((.g .lst acc, some (.ref L)) :: (κ ++ (τ ++ (wipeO vs ρ3).zip (wipe σ vs)))) H' ∧ lclL vs mg mt me (ds.drop i) acc ρ3 = some (acc', ρ2), ⟨_, rfl, Nat.zero_le _, [], ρ1, Nat.le_refl _, hl1, start, by simpa using e2⟩, ?_⟩
    rintro i m H' ⟨rfl, hi', acc, ρ3, ha, hl3, r3, e3⟩
    have r3' : Rel K c (κ ++ ((.g .lst acc, some (.ref L)) :: (τ ++ (wipeO vs ρ3).zip (wipe σ vs)))) H' := r3.perm List.perm_middle.symm
    obtain ⟨yg, ys⟩ := y i _ H' r3'
    by_cases hlt : i < ds.length
    · have hd : ds[i]? = some ds[i] := List.getElem?_eq_getElem hlt
      obtain ⟨go, yy⟩ := yg _ hd
      rw [List.drop_eq_getElem_cons hlt] at e3
      unfold lclL at e3
      obtain ⟨ρ4, e4, e3⟩ := Option.bind_eq_some_iff.mp e3
      obtain ⟨⟨b, ρ5⟩, e5, e3⟩ := Option.bind_eq_some_iff.mp e3
      simp only at e3
      refine .inr ⟨go, fun H2 => ∃ acc ρ6, acc.length ≤ i + 1 ∧ ρ6.length = σ.length ∧ Rel K c ((.g .lst acc, some (.ref L)) :: (κ ++ (τ ++ (wipeO vs ρ6).zip (wipe σ vs)))) H2 ∧ lclL vs mg mt me (ds.drop (i + 1)) acc ρ6 = some (acc', ρ2), fun H2 ⟨ac, ρ6, a1, a2, a3, a4⟩ => ⟨ds.length - (i + 1), by omega, rfl, hlt, ac, ρ6, a1, a2, a3, a4⟩, fun x H2 hy => ?_⟩
      have r4 := yy x H2 hy
      have lw : (wipe σ vs).length = σ.length := wipe_length _ _
      let lk0 : List Nat := (List.range n).filter fun j => decide (j ∉ vs)
      have hlk : ∀ j ∈ lk0, j ∉ vs := fun j hj => of_decide_eq_true (List.mem_filter.mp hj).2
      refine hg lk0 hlk c (κ ++ ((.g .lst acc, some (.ref L)) :: τ)) (wipeO vs ρ3) (wipe σ vs) H2 _ x ρ4 _ (by rw [wipeO_length, wipe_length]; exact hl3) (lw.trans hn) (by rw [List.append_assoc]; exact r4) e4 fun σ2 H3 hl4 hs4 hk4 r5 => ?_
      have out2 : ∀ j, j ∉ vs → σ2[j]? = σ[j]? := fun j hj => by
        by_cases hjn : j < n
        · rw [hk4 j (List.mem_filter.mpr ⟨List.mem_range.mpr hjn, decide_eq_true hj⟩), wipe_out hj]
        · rw [List.getElem?_eq_none (by rw [hs4, lw, hn]; omega), List.getElem?_eq_none (by rw [hn]; omega)]
      refine ⟨?_, ?_⟩
      · refine List.ext_getElem? fun j => ?_
        have gen : ∀ {ws : List Nat} {a b : L2.St}, a.length = b.length → (∀ j : Nat, j ∉ ws → a[j]? = b[j]?) → ∀ j : Nat, (wipe a ws)[j]? = (wipe b ws)[j]? := by
          intro ws
          induction ws with
          | nil => intro a b _ h j; exact h j (by simp)
          | cons w ws ih =>
            intro a b hab h j
            unfold wipe
            by_cases hj : w = j
            · subst hj
              by_cases hv : w < a.length
              · rw [List.getElem?_set_self (by rw [wipe_length]; exact hv), List.getElem?_set_self (by rw [wipe_length, ← hab]; exact hv)]
              · rw [List.getElem?_eq_none (by rw [List.length_set, wipe_length]; omega), List.getElem?_eq_none (by rw [List.length_set, wipe_length, ← hab]; omega)]
            · rw [List.getElem?_set_ne hj, List.getElem?_set_ne hj]
              by_cases hm : j ∈ ws
              · -- both were set to none within
                have wn : ∀ {us : List Nat} {a : L2.St}, j ∈ us → (wipe a us)[j]? = if j < a.length then some none else none := by
                  intro us
                  induction us with
                  | nil => intro a h; cases h
                  | cons u us ih2 =>
                    intro a h
                    unfold wipe
                    by_cases hu : u = j
                    · subst hu
                      by_cases hv : u < a.length
                      · rw [List.getElem?_set_self (by rw [wipe_length]; exact hv), if_pos hv]
                      · rw [List.getElem?_eq_none (by rw [List.length_set, wipe_length]; omega), if_neg hv]
                    · rw [List.getElem?_set_ne hu]
                      rcases List.mem_cons.mp h with z | z
                      · exact absurd z.symm hu
                      · exact ih2 z
                rw [wn hm, wn hm, hab]
              · rw [wipe_out hm, wipe_out hm]
                exact h j (fun z => by
                  rcases List.mem_cons.mp z with z | z
                  · exact hj z.symm
                  · exact hm z)
        exact gen (hs4.trans lw) out2 j
      · refine ht c _ ρ4 σ2 H3 _ b ρ5 hl4 r5 e5 fun H4 hl5 r6 => ?_
        have back : ∀ (ρ7 : List O) (ac : List O) (H5 : Hp), ρ7.length = σ2.length → Rel K c ((.g .lst ac, some (.ref L)) :: ((κ ++ τ) ++ ρ7.zip σ2)) H5 → Rel K c ((.g .lst ac, some (.ref L)) :: (κ ++ (τ ++ (wipeO vs ρ7).zip (wipe σ vs)))) H5 := fun ρ7 ac H5 h7 r7 => by
          have r8 : Rel K c ((((.g .lst ac, some (.ref L)) :: (κ ++ τ))) ++ ρ7.zip σ2) H5 := r7
          have r9 := r8.slots (ρ' := wipeO vs ρ7) (σ' := wipe σ vs) (wipeO_length _ _) (lw.trans (hs4.trans lw).symm) (wipe_pair h7 fun j hj => by rw [wipe_out hj, out2 j hj])
          have r10 : Rel K c ((.g .lst ac, some (.ref L)) :: ((κ ++ τ) ++ (wipeO vs ρ7).zip (wipe σ vs))) H5 := r9
          rw [List.append_assoc] at r10
          exact r10
        cases b with
        | true =>
          rw [if_pos rfl]
          obtain ⟨⟨oy, ρ6⟩, e6, e3⟩ := Option.bind_eq_some_iff.mp (by simpa using e3 : ((me ρ5).bind fun a => lclL vs mg mt me (ds.drop (i + 1)) (acc ++ [a.1]) a.2) = some (acc', ρ2))
          refine he c _ ρ5 σ2 H4 _ oy ρ6 hl5 r6 e6 fun z H5 hl6 r7 => ?_
          have r9 : Rel K c ((.g .lst acc, some (.ref L)) :: (oy, some z) :: ((κ ++ τ) ++ ρ6.zip σ2)) H5 := by
            refine r7.perm ((List.Perm.cons _ ?_).trans (.swap _ _ _))
            rw [List.append_assoc, List.append_assoc]
            exact List.perm_middle
          obtain ⟨xs, hD5, hlen, r10⟩ := r9.pushL
          refine ⟨xs, hD5, ?_, acc ++ [oy], ρ6, by rw [List.length_append]; simp; exact ha, hl6.trans (hs4.trans lw), back _ _ _ hl6 r10, e3⟩
          have h2 : xs.length ≤ 1000000 := by omega
          exact Nat.lt_of_le_of_lt h2 (by decide)
        | false =>
          rw [if_neg Bool.false_ne_true]
          refine ⟨acc, ρ5, by omega, hl5.trans (hs4.trans lw), back _ _ _ hl5 ?_, by simpa using e3⟩
          refine r6.perm ?_
          rw [List.append_assoc]
          exact List.perm_middle.trans (by rw [List.append_assoc]; exact List.Perm.refl _)
    · have ei : i = ds.length := by omega
      subst ei
      rw [List.drop_length] at e3
      cases e3
      refine .inl ⟨ys rfl, k _ H' (by rw [wipeO_length]; exact hl3) ?_⟩
      have r4 : Rel K c (((.g .lst acc', some (.ref L)) :: (κ ++ τ)) ++ (wipeO vs ρ3).zip (wipe σ vs)) H' := by rw [List.cons_append, List.append_assoc]; exact r3
      have r5 := r4.slots (ρ' := wipeO vs ρ3) (σ' := σ) rfl (wipe_length _ _).symm fun j o ho => by
        have q := wipe_pair (vs := vs) (σ := wipe σ vs) (σ' := σ) (ρ := ρ3) (by rw [wipe_length]; exact hl3) (fun j hj => (wipe_out hj).symm) j o ho
        rcases q with q | ⟨q1, q2⟩
        · exact .inl q
        · exact .inr ⟨ho, q2⟩
      have r6 : Rel K c ((.g .lst acc', some (.ref L)) :: ((κ ++ τ) ++ (wipeO vs ρ3).zip σ)) H' := r5
      rw [List.append_assoc] at r6
      exact r6.mid1
  · cases e
end
end Mr

end
section
set_option Elab.async false
set_option linter.all false
set_option maxRecDepth 100000
set_option maxHeartbeats 4000000
/-! MrK: x[k].append(e), x an owned list of owned lists. -/
noncomputable section
namespace Mr
open PySem PySem.Spec PyProof.Rows L2
def m_apAt (i k j : Nat) : ME := fun ρ => match ρ[i]?, ρ[k]?, ρ[j]? with
  | some (.g .lst os), some (.v (.int n)), some (.v d) => if 0 ≤ n then match os[n.toNat]? with
    | some (.l ds) => if ds.length < 1000000 then some (.v .non, ρ.set i (.g .lst (os.set n.toNat (.l (ds ++ [d]))))) else none
    | _ => none
    else none
  | _, _, _ => none
section
variable {K : PySem.W.Frag}
/-- one of the owned lists grows -/
theorem Rel.apAt {c : Cc} {os : List O} {ds : List D} {d : D} {q : Nat} {L : Addr} {y : V} {cs : Cells} {H : Hp} (r : Rel K c ((.g .lst os, some (.ref L)) :: (.v d, some y) :: cs) H) (hq : os[q]? = some (.l ds)) :
    ∃ (xs : List V) (b : Addr) (ys : List V), H L = some (.lst xs) ∧ xs[q]? = some (.ref b) ∧ H b = some (.lst ys) ∧ ds.length = ys.length ∧ Rel K c ((.g .lst (os.set q (.l (ds ++ [d]))), some (.ref L)) :: (.v d, some y) :: cs) (upd H b (.lst (ys ++ [y]))) := by
  obtain ⟨F, r⟩ := r
  obtain ⟨a, xs, z, e1, ho, hx, hl, G, g⟩ := r.out hq
  cases e1
  obtain ⟨G1, G2, ⟨b, ys, ez, hb, hr, eG⟩, ⟨G3, G4, ⟨L', xs', G5, eL, hL, _, eG3⟩, ⟨_, _, ⟨_, y', ey, qy⟩, _⟩, eG2⟩, eGG⟩ := id g.rc
  cases ez
  cases eL
  cases ey
  have nb : L ≠ b := fun z => by
    have nd := g.nd
    rw [eGG, eG, eG2, eG3] at nd
    simp only [List.singleton_append, List.cons_append, List.nodup_cons] at nd
    exact nd.1 (by rw [z]; exact List.mem_cons_self)
  obtain ⟨G', g3⟩ := g.mut (ds' := ds ++ [d]) (xs' := ys ++ [y]) (hr.append (.one qy))
  have hq' : q < os.length := (List.getElem?_eq_some_iff.mp hq).1
  have g4 := g3.into (ho.to (upd_ne nb)) hx (List.getElem?_set_self hq')
  rw [List.set_set] at g4
  exact ⟨xs, b, ys, ho, hx, hb, hr.length, g4⟩
theorem rf_apAt {i k j : Nat} : Rf K (tBM K "list" rAppend (tOp (rIx K) (tVar i) (tVar k)) (tCons (tVar j) tNil)) (m_apAt i k j) := by
  intro c τ ρ σ H Q o ρ' hl r e kk
  unfold m_apAt at e
  split at e
  · rename_i os n d h1 h2 h3
    split at e
    · rename_i hn
      split at e
      · rename_i ds e1
        split at e
        · rename_i hz
          cases e
          obtain ⟨xi, s1⟩ := slot_of hl h1
          obtain ⟨xk, s2⟩ := slot_of hl h2
          obtain ⟨xj, s3⟩ := slot_of hl h3
          have mk : (O.v (.int n), xk) ∈ τ ++ ρ.zip σ := List.mem_append_right _ (mem_zip h2 s2)
          have mj : (O.v d, xj) ∈ τ ++ ρ.zip σ := List.mem_append_right _ (mem_zip h3 s3)
          obtain ⟨_, yk, _, ek, qk⟩ := r.val mk
          subst ek
          obtain ⟨_, yj, _, ej, qj⟩ := r.val mj
          subst ej
          have qk' : yk = .int n := qk
          subst qk'
          have r1 : Rel K c ((.v d, some yj) :: (τ ++ ρ.zip σ)) H := r.dup mj
          have r2 : Rel K c ((((.v d, some yj) :: τ)) ++ ρ.zip σ) H := r1
          have r3 := r2.take h1 s1
          have r3' : Rel K c ((.g .lst os, xi) :: (.v d, some yj) :: (τ ++ (ρ.set i .n).zip σ)) H := r3
          obtain ⟨_, r0⟩ := id r3'
          obtain ⟨_, _, ⟨L, _, _, el, _⟩, _⟩ := r0.rc
          subst el
          obtain ⟨xs, b, ys, g1, g2, g3, g4, g5⟩ := r3'.apAt e1
          refine ⟨.ref L, s1, .int n, s2, .inl ⟨L, xs, n, .ref b, rfl, rfl, sql g1, atI_of hn g2, ⟨.inl ⟨rfl, ys, .inl (.inl g3)⟩, yj, s3, b, ys, yj, rfl, rfl, g3, by rw [← g4]; exact Nat.lt_of_lt_of_le hz (by decide), ?_⟩⟩⟩
          have g6 := g5.put (i := i) (τ := (.v d, some yj) :: τ) (by rw [List.length_set]; exact hl) s1
          rw [List.set_set] at g6
          obtain ⟨G, gg⟩ := g6.drop
          exact kk .non _ (by rw [List.length_set]; exact hl) (gg.add rfl)
        · cases e
      · cases e
    · cases e
  · cases e
end
section
variable {C : Cd} {N : List Str} {sc : Sk} {lk : List Nat} {pos p p2 p3 apos spos : Pos}
theorem re_apAt (i k j : Nat) {x y z : Str} (hx : visB N sc i x = true := by decide +kernel) (hy : visB N sc k y = true := by decide +kernel) (hz : visB N sc j z = true := by decide +kernel)
    (hb : ∀ env : Env, attributeBase (.Subscript (.Name x p) (.Name y p2) spos) "append" env (eval (.Subscript (.Name x p) (.Name y p2) spos) env) = eval (.Subscript (.Name x p) (.Name y p2) spos) env := by intro _; rfl)
    (hf : ∀ env : Env, ((backTo pos (starEach [.Name z p3] env)).all (fun x => !x.1) && (backToKw pos (keywordEach [] env)).all (fun x => x.1.isSome) && decide ([Expr.Name z p3].length + ([] : List Keyword).length + (if ([] : List Keyword).isEmpty then 0 else 1) < 30)) = true := by intro _; rfl)
    (hline : (apos.endLine == pos.line) = true := by rfl) (hs : ∀ env : Env, starEach [.Name z p3] env = (false, eval (.Name z p3) env) :: starEach [] env := by intro _; rfl) (hp : PlainIx (.Name y p2) := by intro _ _; rfl) :
    RE C N sc (.Call (.Attribute (.Subscript (.Name x p) (.Name y p2) spos) "append" apos) [.Name z p3] [] pos) (m_apAt i k j) := by
  refine ⟨tBM C.K "list" rAppend (tOp (rIx C.K) (tVar i) (tVar k)) (tCons (tVar j) tNil), fun X g => ?_, rf_apAt⟩
  have a1 : PE X (.Name x p) (tVar i) := pe_var (g.vis hx).1 (g.vis hx).2 (okName_d (visB_ok hx).2.2).1 (okName_d (visB_ok hx).2.2).2.1
  have a2 : PE X (.Name y p2) (tVar k) := pe_var (g.vis hy).1 (g.vis hy).2 (okName_d (visB_ok hy).2.2).1 (okName_d (visB_ok hy).2.2).2.1
  have a3 : PE X (.Name z p3) (tVar j) := pe_var (g.vis hz).1 (g.vis hz).2 (okName_d (visB_ok hz).2.2).1 (okName_d (visB_ok hz).2.2).2.1
  have q := pe_bm PySem.F.plainAttrs_list PySem.F.slot_list_append PySem.F.type_list_append (mt_append (X := X)) (pe_ix ix_seq a1 a2 hp (pos := spos)) (pa_cons a3 pa_nil (hs _)) (apos := apos) (cpos := pos) (hb _) (hf _) hline (hs _) rfl
  rw [g.K] at q
  exact q
/-- [e for x in xs] of new lists -/
theorem re_lcL {elt tg iter : Expr} {ifs : List Expr} {scope : Scope} (own : List (Str × Nat)) {mi : MI} {mg : MG} {mt : MT} {me : ME} (hi : RI C N sc tg iter mi) (hg : RG C N (blkS sc scope) (own.map (·.2)) tg mg) (ht : RTs C N (blkS sc scope) ifs mt) (he : RE C N (blkS sc scope) elt me)
    (ok : blkC N sc.sc scope own = true := by decide +kernel) (hk : kindB sc = true := by decide +kernel) (nd : N.Nodup := by decide +kernel) (hs : ∀ (env : Env) (x : Value), foldedSetIterable iter env x = pure x := by intro _ _; rfl) :
    RE C N sc (.ListComp elt [⟨tg, iter, ifs, 0⟩] scope pos) (m_lcL (own.map (·.2)) mi mg mt me) := by
  obtain ⟨t, a1, a2⟩ := hi
  obtain ⟨u, b1, b2⟩ := hg
  obtain ⟨v, c1, c2⟩ := ht
  obtain ⟨w, d1, d2⟩ := he
  refine ⟨tLcn N.length t u v w (own.map (·.2)), fun X g => ?_, fun c τ ρ σ H Q o ρ' hl r e k hn => rf_lcL a2 b2 c2 d2 c τ ρ σ H Q o ρ' hn hl r e k⟩
  have p : PE X (.ListComp elt [⟨tg, iter, ifs, 0⟩] scope pos) (tLc t u v w (own.map (·.2))) :=
    pe_lc g.calm (by rw [g.N]; exact nd) (a1 X g) (by rw [g.N, g.scp]; exact blkOk_by ok) (fun s H Ca cl fp => b1 _ (g.blk s H scope Ca cl fp (kindB_ok hk))) (fun s H Ca cl fp => c1 _ (g.blk s H scope Ca cl fp (kindB_ok hk))) (fun s H Ca cl fp => d1 _ (g.blk s H scope Ca cl fp (kindB_ok hk))) (hs _)
  exact ⟨fun pins s σ H Q I h => p.run pins s σ H Q I (h (by rw [I.len, g.N]))⟩
theorem rs_setLcL (i : Nat) {y : Str} {py spos : Pos} {elt tg iter : Expr} {ifs : List Expr} {scope : Scope} (own : List (Str × Nat)) {mi : MI} {mg : MG} {mt : MT} {me : ME} (hi : RI C N sc tg iter mi) (hg : RG C N (blkS sc scope) (own.map (·.2)) tg mg) (ht : RTs C N (blkS sc scope) ifs mt) (he : RE C N (blkS sc scope) elt me)
    (hx : locB N sc i y = true := by decide +kernel) (hy : locL sc y = true := by decide +kernel) (hl : (py.line == spos.line) = true := by rfl) (hl2 : (py.line == pos.line) = true := by rfl) (ho : ownB scope y = true := by decide +kernel)
    (ok : blkC N sc.sc scope own = true := by decide +kernel) (hk : kindB sc = true := by decide +kernel) (nd : N.Nodup := by decide +kernel) (hj : i ∉ lk := by decide) (hs : ∀ (env : Env) (x : Value), foldedSetIterable iter env x = pure x := by intro _ _; rfl) :
    RS C N sc lk (.Assign [.Name y py] (.ListComp elt [⟨tg, iter, ifs, 0⟩] scope pos) spos) (s_set i (m_lcL (own.map (·.2)) mi mg mt me)) := by
  obtain ⟨t, a1, a2⟩ := hi
  obtain ⟨u, b1, b2⟩ := hg
  obtain ⟨v, c1, c2⟩ := ht
  obtain ⟨w, d1, d2⟩ := he
  have hloc : sc.sc.names.lookup y = some .local := by
    unfold locL at hy
    split at hy
    · assumption
    · cases hy
  refine ⟨tAsg (tLc t u v w (own.map (·.2))) (gName i), fun X g _ => ?_, rfs_setN (fun c τ ρ σ H Q o ρ' hn hl r e k => rf_lcL a2 b2 c2 d2 c τ ρ σ H Q o ρ' hn hl r e k) (by have := (locB_ok hx).1; exact (List.getElem?_eq_some_iff.mp this).1) hj⟩
  exact ps_setLc g.calm (by rw [g.N]; exact nd) (g.loc hx).1 (by rw [g.scp]; exact hloc) (by
      have e1 : spos.line = py.line := (beq_iff_eq.mp hl).symm
      rw [e1]
      refine sw_true (by rw [g.scp]; exact kindB_ok hk) (by rw [g.scp]; exact hloc) hl2 ?_
      unfold ownB at ho
      simpa using ho)
    (a1 X g) (by rw [g.N, g.scp]; exact blkOk_by ok) (fun s H Ca cl fp => b1 _ (g.blk s H scope Ca cl fp (kindB_ok hk))) (fun s H Ca cl fp => c1 _ (g.blk s H scope Ca cl fp (kindB_ok hk))) (fun s H Ca cl fp => d1 _ (g.blk s H scope Ca cl fp (kindB_ok hk))) (hs _)
end
end Mr

end
section
set_option Elab.async false
set_option linter.all false
set_option maxRecDepth 100000
set_option maxHeartbeats 4000000
/-! MrL: x[::-1] of a list. -/
noncomputable section
namespace Mr
open PySem PySem.Spec PyProof.Rows L2
theorem range_pick {α : Type} : ∀ l : List α, (List.range l.length).filterMap (fun k => l[k]?) = l
  | [] => rfl
  | a :: l => by
    rw [List.length_cons, List.range_succ_eq_map, List.filterMap_cons]
    have e : (a :: l)[0]? = some a := rfl
    rw [e]
    show a :: List.filterMap _ (List.map Nat.succ (List.range l.length)) = a :: l
    rw [List.filterMap_map]
    congr 1
    exact range_pick l
theorem fm_congr {α β : Type} {f g : α → Option β} : ∀ {l : List α}, (∀ x ∈ l, f x = g x) → l.filterMap f = l.filterMap g
  | [], _ => rfl
  | a :: l, h => by
    rw [List.filterMap_cons, List.filterMap_cons, h a List.mem_cons_self, fm_congr fun x hx => h x (List.mem_cons_of_mem _ hx)]
theorem rangeRev (n : Nat) : sliceRange ((n : Int) - 1) (-1) (-1) = (List.range n).map fun k => n - 1 - k := by
  unfold sliceRange
  have h0 : ¬ ((-1 : Int) > 0) := by decide
  simp only [h0, if_false]
  have hc : (if (n : Int) - 1 > -1 then ((n : Int) - 1 - -1 - -1 - 1) / (- -1) else 0).toNat = n := by
    by_cases hn : (n : Int) - 1 > -1
    · rw [if_pos hn]
      have e : (- -1 : Int) = 1 := by decide
      rw [e, Int.ediv_one]
      omega
    · rw [if_neg hn]
      omega
  rw [hc]
  refine List.map_congr_left fun k hk => ?_
  have hk' : k < n := List.mem_range.mp hk
  omega
theorem slicePick_rev (its : List Value) : slicePick its.toArray none none (some (-1)) = its.reverse.toArray := by
  have hb : sliceBounds none none (some (-1)) its.toArray.size = ((its.length : Int) - 1, -1, -1) := by
    unfold sliceBounds
    simp
  unfold slicePick
  rw [hb]
  simp only []
  rw [rangeRev, List.filterMap_map]
  congr 1
  have q := range_pick its.reverse
  rw [List.length_reverse] at q
  refine Eq.trans (fm_congr fun k hk => ?_) q
  have hk' : k < its.length := List.mem_range.mp hk
  show its.toArray[its.length - 1 - k]? = its.reverse[k]?
  rw [List.getElem?_reverse hk', List.getElem?_toArray]
def tRevS (K : PySem.W.Frag) (te : TE) (ts : TO) : TE := fun σ H Q => te σ H fun x H1 => ts σ H1 fun o H2 => o = some (-1) ∧ ∃ a xs, x = .ref a ∧ SqL K H2 a xs ∧ ∀ p, H2 p = none → Q (.ref p) (upd H2 p (.lst xs.reverse))
section
variable {X : Cx} {e : Expr} {te : TE} {st : Expr} {ts : TO} {pos p2 : Pos}
theorem pe_revS (he : PE X e te) (hs : PO X (some st) ts) : PE X (.Subscript e (.Slice none none (some st) p2) pos) (tRevS X.K te ts) := by
  refine ⟨fun pins s σ H Q I h => ?_⟩
  refine Subscript_ (thn (he.run pins s σ H _ I h) fun v s1 ⟨x, H1, I1, r1, q1⟩ => ?_)
  refine wpAny_Slice ?_
  rw [evalPart_none]
  refine wpAny_pure (wpAny_pure ?_)
  refine thn (hs.run pins s1 σ H1 _ I1 q1) fun vs s2 ⟨o, H2, I2, ps, eo, a, xs, ex, hx, q⟩ => ?_
  subst eo ex
  obtain rfl : v = Value.ref a := r1
  have I4 : Inv X pins σ H2 { s2 with heap := s2.heap.push { cls := .type "slice", data := .fields #[.none, .none, vs] } } := I2.kept (t' := s2.toks) fun b ob q => Heap.get?_push_of_some _ q
  obtain ⟨its, r, ht, hz⟩ := I4.list hx
  show wpAny (model X.prog X.w) X.A (subscriptTail e (.Slice none none (some st) p2) (.ref a) (.ref s2.heap.objs.size)) (EP X pins σ Q) X.xe { s2 with heap := s2.heap.push { cls := .type "slice", data := .fields #[.none, .none, vs] } }
  refine tail_any (ops := [.ref a, .ref s2.heap.objs.size]) (T := "list") ht.isList.typeIs slot_list_getitem.lookup ?_ (by with_unfolding_all rfl)
  refine wpAny_getItem_list_slice ht.isList (Heap.IsSliceOf.new ..) .none .none ps (by decide) ?_ (by rw [List.size_toArray, ← r.length] <;> omega)
  rw [slicePick_rev]
  refine ⟨.ref _, _, I4.laid (t' := s2.toks) (o := .lst xs.reverse) (fun b ob q => Heap.get?_push_of_some _ q) (Nat.le_refl _) ?_, rfl, q _ (I4.hok.fresh (Nat.le_refl _))⟩
  exact ⟨by rw [List.length_reverse]; exact hz, _, 0, Vals.reverse r, Heap.get?_push_size _ rfl⟩
end
/-- x[::-1] -/
def m_revS (m : MP) : ME := fun ρ => (m ρ).bind fun a => match vw a.2 a.1 with
  | some (.lst ds) => some (.l ds.reverse, a.2)
  | _ => none
theorem rf_revS {K : PySem.W.Frag} {t : TE} {m : MP} (h : Rfp K t m) : Rf K (tRevS K t (tPart (tUn (rU fun i => .int (-i)) (tC (.int 1))))) (m_revS m) := by
  intro c τ ρ σ H Q o ρ' hl r e k
  unfold m_revS at e
  obtain ⟨⟨p, ρ1⟩, e1, e⟩ := Option.bind_eq_some_iff.mp e
  split at e
  · rename_i ds e2
    cases e
    refine h c τ ρ σ H _ p _ hl r e1 fun x H1 hl1 pv1 r1 => ⟨1, rfl, -1, rfl, rfl, ?_⟩
    obtain ⟨F, rr⟩ := id r1
    obtain ⟨o1, x1, x2⟩ := vw_mem e2 pv1
    have hm : (o1, some x) ∈ kap p x ++ (τ ++ ρ1.zip σ) := by
      rcases x2 with z | z
      · exact List.mem_append_left _ z
      · exact List.mem_append_right _ (List.mem_append_right _ z)
    have v := rr.vw hm x1
    obtain ⟨a, xs, rfl, ha, ra⟩ := vw_lst hid_same v
    exact ⟨a, xs, rfl, sql ha, fun q hq => k _ _ hl1 (rr.newL hq ra.reverse).mid1⟩
  · cases e
theorem re_revS {C : Cd} {N : List Str} {sc : Sk} {pos p1 p2 p3 : Pos} {j} {e : Expr} {m : MP} (h : RP C N sc e m) : RE C N sc (.Subscript e (.Slice none none (some (.UnaryOp .USub (.Constant (.int 1) j p1) p3)) p2) pos) (m_revS m) :=
  let ⟨t, a1, a2⟩ := h
  ⟨tRevS C.K t (tPart (tUn (rU fun i => .int (-i)) (tC (.int 1)))), fun X g => by have q := pe_revS (a1 X g) (po_some (pe_un un_neg pe_int)) (p2 := p2) (pos := pos) (st := .UnaryOp .USub (.Constant (.int 1) j p1) p3); rw [g.K] at q; exact q, rf_revS a2⟩
end Mr

end
section
set_option Elab.async false
set_option linter.all false
set_option maxRecDepth 100000
set_option maxHeartbeats 4000000
/-! MrM: the head's facts: defs by paths, properties, tuples of the module. -/
namespace Mr
open PySem PySem.Spec PyProof.Rows L2
/-- the property m of the module's class x; its getter -/
def propA (x m : Str) (K : PySem.W.Frag) : Addr := match PySem.W.findIn K (.ref (He.ga K x)) m with
  | some (some (.ref p)) => p
  | _ => 0
def getA (x m : Str) (K : PySem.W.Frag) : Addr := match PySem.W.recIn K (propA x m K) "property" with
  | some (.ref g :: _) => g
  | _ => 0
/-- the method m of the module's class x -/
def methA (x m : Str) (K : PySem.W.Frag) : Addr := He.ma K (He.ga K x) m
def gloA (x : Str) (K : PySem.W.Frag) : Addr := He.ga K x
def isGet (K : PySem.W.Frag) (x m : Str) : Bool := match PySem.W.recIn K (propA x m K) "property" with
  | some (.ref g :: _) => decide (g = getA x m K)
  | _ => false
inductive Fx where
  | prop (x m : Str)
  | tup (x : Str) (vs : List He.Dv)
def Fx.ok (K : PySem.W.Frag) : Fx → Bool
  | .prop x m => He.eqO (PySem.W.findIn K (.ref (He.ga K x)) m) (some (some (.ref (propA x m K)))) && (He.eqO (PySem.W.specialIn K (.ref (propA x m K)) "__get__") (some (some (.builtin "property.__get__"))) && (decide (PySem.W.takesIn K (.ref (propA x m K)) = some true) && isGet K x m))
  | .tup x vs => He.eqO (PySem.W.nsIn K mainGlobals x) (some (some (.ref (He.ga K x)))) && He.tupB K x vs
section
variable {K : PySem.W.Frag} {h : Heap} {mg : Str → Option Value}
theorem prop_ok {x m : Str} (c : (Fx.prop x m).ok K = true) : PropOf K (He.ga K x) m (propA x m K) (getA x m K) := by
  obtain ⟨c1, c⟩ := He.ba c
  obtain ⟨c2, c⟩ := He.ba c
  obtain ⟨c3, c4⟩ := He.ba c
  refine ⟨He.eqO_ok c1, He.eqO_ok c2, of_decide_eq_true c3, ?_⟩
  unfold isGet at c4
  split at c4
  · rename_i g r e
    have eg : g = getA x m K := of_decide_eq_true c4
    exact ⟨r, by rw [← eg]; exact e⟩
  · cases c4
theorem tup_ok (X : K.In h) (G : h.Ns mainGlobals mg) {x : Str} {vs : List He.Dv} (c : (Fx.tup x vs).ok K = true) : mg x = some (.ref (He.ga K x)) ∧ ∀ H : Hp, SqT K H (He.ga K x) (vs.map (He.Dv.v K)) := by
  obtain ⟨c1, c2⟩ := He.ba c
  exact ⟨PySem.W.mg_of X G (He.eqO_ok c1), fun H => He.tupB_ok c2 H⟩
end
def obsM (fa : List He.Fa) (fx : List Fx) (fn : List He5.DefA) (K : PySem.W.Frag) : He.AlD := (((fa.all fun f => f.ok K) && fx.all fun f => f.ok K) && fn.all fun d => d.ok K, fn.map fun d => He5.fnA K (d.at_ K))
def valM (fn : List He5.DefA) : He.AlD := (true, fn.map He5.DefA.val)
def SaysM (fa : List He.Fa) (fx : List Fx) (fn : List He5.DefA) (K : PySem.W.Frag) : Prop := obsM fa fx fn K = valM fn
def obsMG (n : Nat) (fa : List He.Fa) (fx : List Fx) (fn : List He5.DefA) (g : Addr → Option Obj) : He.AlD := obsM fa fx fn (He.frG g (He.asD g n))
def hookM (n : Nat) (fa : List He.Fa) (fx : List Fx) (fn : List He5.DefA) : PySem.W.Hook where
  α := He.AlD
  obs := fun s => obsMG n fa fx fn s.heap.get?
  val := fun _ => valM fn
  says := fun _ h => ∃ K : PySem.W.Frag, K.In h ∧ SaysM fa fx fn K
  of := fun _ _ e => ⟨_, He.frG_in, e⟩
  keeps := fun _ _ _ ⟨K, hK, c⟩ k => ⟨K, PySem.W.Frag.In.keeps hK k, c⟩
theorem obsMG_eq {n : Nat} {fa : List He.Fa} {fx : List Fx} {fn : List He5.DefA} {g : Addr → Option Obj} {s : Shared} (h : ∀ a, g a = s.heap.get? a) : obsMG n fa fx fn g = (hookM n fa fx fn).obs s := by
  have e : g = s.heap.get? := funext h
  rw [e] <;> rfl
section
variable {fa : List He.Fa} {fx : List Fx} {fn : List He5.DefA} {K : PySem.W.Frag}
theorem SaysM.one (c : SaysM fa fx fn K) : (((fa.all fun f => f.ok K) && fx.all fun f => f.ok K) && fn.all fun d => d.ok K) = true := congrArg (fun z : He.AlD => z.1) c
theorem SaysM.fact (c : SaysM fa fx fn K) (i : Nat) {f : He.Fa} (h : fa[i]? = some f := by rfl) : f.ok K = true :=
  List.all_eq_true.mp (He.ba (He.ba c.one).1).1 f (List.mem_of_getElem? h)
theorem SaysM.more (c : SaysM fa fx fn K) (i : Nat) {f : Fx} (h : fx[i]? = some f := by rfl) : f.ok K = true :=
  List.all_eq_true.mp (He.ba (He.ba c.one).1).2 f (List.mem_of_getElem? h)
theorem SaysM.def_ (c : SaysM fa fx fn K) (i : Nat) {d : He5.DefA} (h : fn[i]? = some d := by rfl) : ∃ fd, FunD K d.name d.qual d.params d.body d.scope (d.dvs K) (d.kws K) (d.at_ K) fd := by
  have e : fn.map (fun d => He5.fnA K (d.at_ K)) = fn.map He5.DefA.val := congrArg (fun z : He.AlD => z.2) c
  have e2 : (fn.map fun d => He5.fnA K (d.at_ K))[i]? = (fn.map He5.DefA.val)[i]? := by rw [e]
  rw [List.getElem?_map, List.getElem?_map, h] at e2
  exact He5.DefA.funD (Option.some.inj e2) (List.all_eq_true.mp (He.ba c.one).2 d (List.mem_of_getElem? h))
end
end Mr

end
section
set_option Elab.async false
set_option linter.all false
set_option maxRecDepth 100000
set_option maxHeartbeats 4000000
/-! MrN: a tuple of texts of the module; stepping rules for MrG .. MrL. -/
noncomputable section
namespace Mr
open PySem PySem.Spec PyProof.Rows L2
theorem Reps.of_strs {K : PySem.W.Frag} {h : Hp} : ∀ (zs : List Str), Reps K h (zs.map D.str) (zs.map V.str)
  | [] => rfl
  | _ :: zs => ⟨_, _, rfl, rfl, Reps.of_strs zs⟩
theorem re_gtupE {C : Cd} {N : List Str} {sc : Sk} {pos : Pos} {x : Str} (zs : List Str) (hm : ∃ a, C.mg x = some (.ref a) ∧ ∀ H : Hp, SqT C.K H a (zs.map V.str)) (h : gloB sc x = true := by decide +kernel) : RE C N sc (.Name x pos) (m_c (.tup (zs.map D.str))) := by
  obtain ⟨a, h1, h2⟩ := hm
  exact re_glob (v := .ref a) h1 rfl (fun hh => ⟨a, zs.map V.str, rfl, h2 hh, Reps.of_strs zs⟩) h
section
variable {ρ : List O} {P : O → List O → Prop}
theorem we_ext {i : Nat} {m : ME} {ds0 : List D} (e0 : ρ[i]? = some (.l ds0)) (h : WE (m ρ) fun o ρ1 => ∃ es, toD o = some (.lst es) ∧ ∃ ds, ρ1[i]? = some (.l ds) ∧ ds.length + es.length ≤ 1000000 ∧ P (.v .non) (ρ1.set i (.l (ds ++ es)))) : WE (m_ext i m ρ) P := by
  obtain ⟨o, ρ1, e, es, e2, ds, e3, c, q⟩ := h
  exact ⟨_, _, by unfold m_ext; rw [e0]; simp only []; rw [e]; simp only [Option.bind_some]; rw [e2]; simp only [Option.bind_some]; rw [e3]; simp only []; rw [if_pos c], q⟩
theorem we_apAt {i k j : Nat} {os : List O} {n : Int} {d : D} {ds : List D} (e1 : ρ[i]? = some (.g .lst os)) (e2 : ρ[k]? = some (.v (.int n))) (e3 : ρ[j]? = some (.v d)) (h0 : 0 ≤ n) (e4 : os[n.toNat]? = some (.l ds)) (c : ds.length < 1000000) (h : P (.v .non) (ρ.set i (.g .lst (os.set n.toNat (.l (ds ++ [d])))))) : WE (m_apAt i k j ρ) P := ⟨_, _, by unfold m_apAt; rw [e1, e2, e3]; simp only; rw [if_pos h0, e4]; simp only; rw [if_pos c], h⟩
theorem we_revS {m : MP} (h : WP (m ρ) fun p ρ1 => ∃ ds, vw ρ1 p = some (.lst ds) ∧ P (.l ds.reverse) ρ1) : WE (m_revS m ρ) P := by
  obtain ⟨p, ρ1, e, ds, e2, q⟩ := h
  exact ⟨_, _, by unfold m_revS; rw [e]; simp only [Option.bind_some]; rw [e2], q⟩
theorem wi_revL {m : ME} {P : List D → List O → Prop} (h : WE (m ρ) fun o ρ1 => ∃ d, toD o = some d ∧ ∃ ds, itemsR d = some ds ∧ P ds.reverse ρ1) : WI (i_revL m ρ) P := by
  obtain ⟨o, ρ1, e, d, e2, ds, e3, q⟩ := h
  exact ⟨_, _, by unfold i_revL; rw [e]; simp only [Option.bind_some]; rw [e2]; simp only [Option.bind_some]; rw [e3]; rfl, q⟩
theorem wi_enum {m : ME} {P : List D → List O → Prop} (h : WE (m ρ) fun o ρ1 => ∃ ds, toD o = some (.lst ds) ∧ P (enumD ds) ρ1) : WI (i_enum m ρ) P := by
  obtain ⟨o, ρ1, e, ds, e2, q⟩ := h
  exact ⟨_, _, by unfold i_enum; rw [e]; simp only [Option.bind_some]; rw [e2]; rfl, q⟩
end
end Mr

end
section
set_option Elab.async false
set_option linter.all false
set_option maxRecDepth 100000
set_option maxHeartbeats 4000000
/-! MrO: a property of an instance that is data. -/
namespace Mr
open PySem PySem.Spec PyProof.Rows L2
/-- the attribute f of an instance of c -/
def insAt (f : Str) : List Str → List D → Option D
  | n :: ns, d :: ds => if n = f then some d else insAt f ns ds
  | _, _ => none
def propD (c f : Str) : D → Option Res
  | .ins c' ns ds => if c' = c then (insAt f ns ds).map Res.s else none
  | _ => none
theorem insAt_ok {K : PySem.W.Frag} {h : Hp} {f : Str} {fs : List (Str × V)} : ∀ {ns : List Str} {ds : List D} {xs : List V} {d : D}, ns.map (fun g => fs.lookup g) = xs.map some → Reps K h ds xs → insAt f ns ds = some d → ∃ v, fs.lookup f = some v ∧ Rep K h d v
  | [], _, _, _, _, _, e => by cases e
  | _ :: _, [], _, _, _, _, e => by cases e
  | n :: ns, d0 :: ds, _, d, hm, ⟨x, r, e1, e2, e3⟩, e => by
    subst e1
    have hm1 : fs.lookup n = some x := by
      have := congrArg List.head? hm
      simpa using this
    have hm2 : ns.map (fun g => fs.lookup g) = r.map some := by
      have := congrArg List.tail hm
      simpa using this
    unfold insAt at e
    split at e
    · rename_i hn
      cases e
      exact ⟨x, by rw [← hn]; exact hm1, e2⟩
    · exact insAt_ok hm2 e3 e
/-- the property f of the module's class c gives the attribute g -/
structure Prp (P : Program) (w : World) (K : PySem.W.Frag) (mg : Str → Option Value) (base : Heap) (k : Nat) (c f g : Str) : Prop where
  ex : ∃ (p a : Addr) (fd : FuncData), PropOf K (He.ga K c) f p a ∧ FnOk P w K mg base CX0 k a fd ["self"] (getSp (He.ga K c) g) ∧ Binds K fd ["self"] []
  cls : Cls K (He.ga K c)
theorem rf_prop {K : PySem.W.Frag} {c f : Str} {t : TE} {m : MP} (h : Rfp K t m) : Rf K (tProp (He.ga K c) (getSp (He.ga K c) f) [] E0 t) (m_op1 (propD c f) m) := by
  intro cc τ ρ σ H Q o ρ' hl r e k
  unfold m_op1 at e
  obtain ⟨⟨p, ρ1⟩, e1, e⟩ := Option.bind_eq_some_iff.mp e
  obtain ⟨d, e2, e⟩ := Option.bind_eq_some_iff.mp e
  obtain ⟨res, e3, e⟩ := Option.map_eq_some_iff.mp e
  cases e
  refine h cc τ ρ σ H _ p _ hl r e1 fun x H1 hl1 pv1 r1 => ?_
  obtain ⟨F, rr⟩ := id r1
  obtain ⟨o1, x1, x2⟩ := vw_mem e2 pv1
  have hm : (o1, some x) ∈ kap p x ++ (τ ++ ρ1.zip σ) := by
    rcases x2 with z | z
    · exact List.mem_append_left _ z
    · exact List.mem_append_right _ (List.mem_append_right _ z)
  have v := rr.vw hm x1
  cases d with
  | ins c' ns ds =>
    unfold propD at e3
    simp only at e3
    split at e3
    · rename_i hc
      subst hc
      obtain ⟨d', e4, rfl⟩ := Option.map_eq_some_iff.mp e3
      rcases v with ⟨a, dx, fs, xs, rfl, q1, q2, _, q3⟩ | ⟨_, _, _, q, _⟩ | ⟨_, _, _, _, q, _⟩
      · obtain ⟨y, l, ry⟩ := insAt_ok q2 q3 e4
        have q1' := hid_same _ _ q1
        refine ⟨a, dx, fs, rfl, q1', a, dx, fs, y, rfl, q1', l, ?_⟩
        exact k y H1 hl1 (rr.add ry).mid1
      · cases q
      · cases q
    · cases e3
  | _ => cases e3
theorem re_prop {C : Cd} {N : List Str} {sc : Sk} {pos : Pos} {j : Nat} {e : Expr} {c f g : Str} {m : MP} (hp : Prp C.P C.w C.K C.mg C.base j c f g) (hj : j + 1 ≤ C.k) (h : RP C N sc e m) (hab : ∀ env : Env, attributeBase e f env (eval e env) = eval e env := by intro _; rfl) :
    RE C N sc (.Attribute e f pos) (m_op1 (propD c g) m) := by
  obtain ⟨t, a1, a2⟩ := h
  obtain ⟨⟨p, a, fd, q1, q2, q3⟩, q4⟩ := hp
  refine ⟨_, fun X gd => ?_, rf_prop a2⟩
  exact pe_prop (a1 X gd) (by rw [gd.K]; exact q4) (by rw [gd.K]; exact q1) (by rw [gd.prog, gd.w, gd.K, gd.mg, gd.base]; exact q2) (gd.room.mono hj) (by rw [gd.K]; exact q3) .nil pass0 (hab _)
end Mr

end
section
set_option Elab.async false
set_option linter.all false
set_option maxRecDepth 100000
set_option maxHeartbeats 4000000
/-! MrP: enumerate(x), x a tuple. -/
namespace Mr
open PySem PySem.Spec PyProof.Rows L2
open AutoSeq1 (wpAny_loadPart')
theorem draws_tup {prog : Program} {w : World} {A : Around} {it t : Addr} {items : Array Value} (hh : A.handled = none) (hne : t ≠ it) :
    Draws prog w A it [it, t] items.size (fun i x => items[i]? = some x) (fun i h => IsTupIter h it t i ∧ IsTup h t items) where
  live := fun i h st => let ⟨o, ho, _⟩ := st.1; ⟨o, ho⟩
  frame := fun i h h' st k => ⟨let ⟨o, ho, r⟩ := st.1; ⟨o, k it (by simp) o ho, r⟩, let ⟨o, ho, r⟩ := st.2; ⟨o, k t (by simp) o ho, r⟩⟩
  item := fun i s Q E hi st hQ => by
    have hx : items[i]? = some items[i] := Array.getElem?_eq_getElem hi
    unfold Builtin.SmallTypes.nextOf
    refine wpAny_bind (L2.special_tup_item st.1 st.2 hx fun h' st' sb => wpAny_pure ?_)
    exact hQ items[i] h' s.toks hx ⟨st', st.2.extBut sb.extBut hne⟩ sb
  done := fun s Q E st hE => by
    unfold Builtin.SmallTypes.nextOf
    refine wpAny_bind (L2.special_tup_end hh st.1 st.2 (by simp) fun e h' sx eb => ?_)
    obtain ⟨a, o, vs, rfl, ho, hc, _⟩ := sx
    exact hE h' a eb ⟨o, ho, hc⟩
theorem meets_enumerate_newT (l : Addr) (items : Array Value) (n : Nat) (dct : Option Addr) (sl : Array (Option Value)) :
    Meets (Builtin.«enumerate.__new__» ⟨[.type "enumerate", .ref l], []⟩) (fun _ R s => s.heap.get? l = some { cls := .type "tuple", dict := dct, data := .seq items n, slots := sl } ∧
      R (.ok (.ret (.ref (s.heap.push { cls := .type "tuple_iterator", data := .fields #[.ref l, .int 0 0] }).objs.size)))
        { s with heap := (s.heap.push { cls := .type "tuple_iterator", data := .fields #[.ref l, .int 0 0] }).push { cls := .type "enumerate", data := .fields #[.none, .bool false, .ref s.heap.objs.size, rawInt 0, .none, .none] } }) :=
  .of_wp fun prog w A R s h => by
    obtain ⟨hp, g, d, tk, os⟩ := s; obtain ⟨hl, h⟩ := h
    have hsub := sub_enumerate
    have hL : Heap.IsTuple (Shared.heap ⟨hp, g, d, tk, os⟩) l items := ⟨_, hl, rfl, n, rfl⟩
    wp_walk using wpAny_loadPart' hl
    refine wpAny_stack_any fun st => wpAny_pure ?_
    split
    · rename_i c _ _ _ _ _
      cases (c == Value.type "enumerate")
      · wp_walk using wpAny_loadPart' hl, wpAny_pyIter_tuple hL
        exact ⟨_, rfl, h⟩
      · wp_walk using wpAny_loadPart' hl, wpAny_pyIter_tuple hL
        exact ⟨_, rfl, h⟩
    · wp_walk using wpAny_loadPart' hl, wpAny_pyIter_tuple hL
      exact ⟨_, rfl, h⟩
section
variable {prog : Program} {w : World} {A : Around} {E : Value → Shared → Prop} {s : Shared}
theorem call_enumerate_tup {l : Addr} {items : Array Value} {Q : Value → Shared → Prop} (hL : s.heap.IsTuple l items)
    (h : ∀ h', IsEnum h' (s.heap.objs.size + 1) s.heap.objs.size 0 .none → IsTupIter h' s.heap.objs.size l 0 → h'.objs.size = s.heap.objs.size + 2 →
      (∀ b o, s.heap.get? b = some o → h'.get? b = some o) → Q (.ref (s.heap.objs.size + 1)) { s with heap := h' }) :
    wpAny (model prog w) A (call (.type "enumerate") [.ref l]) Q E s := by
  obtain ⟨⟨c, dct, dt, sl⟩, hl, hc, n, hd⟩ := hL
  replace hc : c = .type "tuple" := hc
  replace hd : dt = .seq items n := hd
  subst hc hd
  refine callType_new F.called_enumerate (by decide) (F.typeCall_enumerate_1 _) (F.newCall_enumerate_1 _) (fun obj => F.args_object_init_2 obj _) F.entry_enumerate_new
    (meets_enumerate_newT l items n dct sl) ⟨hl, ?_⟩
  have hz : (s.heap.push { cls := .type "tuple_iterator", data := .fields #[.ref l, .int 0 0] }).objs.size = s.heap.objs.size + 1 := Heap.size_push ..
  show _ ∧ _
  rw [hz]
  have he : IsEnum ((s.heap.push { cls := .type "tuple_iterator", data := .fields #[.ref l, .int 0 0] }).push
      { cls := .type "enumerate", data := .fields #[.none, .bool false, .ref s.heap.objs.size, rawInt 0, .none, .none] }) (s.heap.objs.size + 1) s.heap.objs.size 0 .none := by
    have := Heap.get?_push_size (s.heap.push { cls := .type "tuple_iterator", data := .fields #[.ref l, .int 0 0] })
      (o := { cls := .type "enumerate", data := .fields #[.none, .bool false, .ref s.heap.objs.size, rawInt 0, .none, .none] }) rfl
    rw [hz] at this; exact this
  exact ⟨⟨_, he, rfl⟩, h _ he ⟨_, Heap.get?_push_of_some _ (Heap.get?_push_size _ rfl), rfl, rfl⟩ (by rw [Heap.size_push, hz]) fun b o x => Heap.get?_push_of_some _ (Heap.get?_push_of_some _ x)⟩
end
/-- the tuple at a, the items in new pairs -/
def IteT (K : PySem.W.Frag) (a : Addr) (n : Nat) : It :=
  ⟨fun i H => ∃ (xs : List V) (x : V), SqT K H a xs ∧ xs.length = n ∧ xs[i]? = some x, fun i H v H' => ∃ T x, v = .ref T ∧ H T = none ∧ H' = upd H T (.tup [.int (i : Nat), x]) ∧ ∀ xs, SqT K H a xs → xs[i]? = some x, fun i H => ∃ xs : List V, SqT K H a xs ∧ xs.length = n ∧ n ≤ i⟩
theorem apart_tup {h : Heap} {a b : Addr} {items : Array Value} {o : Obj} (t : IsTup h a items) (e : h.get? b = some o) (hc : o.cls ≠ .type "tuple") : a ≠ b := fun z => by
  obtain ⟨o', e', c', _⟩ := t
  rw [z, e] at e'
  cases e'
  exact hc c'
theorem turn_enumT {P : Program} {w : World} {K : PySem.W.Frag} {elts : List Expr} {kk : Nat} {tpos : Pos} (a e it : Addr) (n : Nat) :
    Turn P w K (.Tuple elts kk tpos) (IteT K a n) [e, it] e (fun i h => (∃ old, IsEnum h e it ((i : Nat) : Int) old) ∧ IsTupIter h it a i ∧ e ≠ it ∧ i ≤ n) where
  mem := by simp
  obj := fun i h st b hb => by
    obtain ⟨⟨old, he⟩, ⟨o, ho, hc, hd⟩, _⟩ := st
    have e' : b = e ∨ b = it := by simpa using hb
    rcases e' with z | z
    · rw [z]; exact ⟨_, he, fun v q => nomatch q⟩
    · rw [z]; exact ⟨o, ho, fun v q => by rw [hd] at q; cases q⟩
  keep := fun i h h' st k => let ⟨⟨old, he⟩, ⟨o, ho, r⟩, hne⟩ := st; ⟨⟨old, k e (by simp) _ he⟩, ⟨o, k it (by simp) o ho, r⟩, hne⟩
  item := by
    intro X hP hw hK hc i pins s σ H E I hf st hg
    subst hP hw hK
    obtain ⟨⟨old, he⟩, hit, hne, hin⟩ := st
    obtain ⟨xs, x, hq, hn, hx⟩ := hg
    obtain ⟨its, rv, p, hz⟩ := I.tuple hq
    obtain ⟨u, hu, ru⟩ := rv.get hx
    have hel : e < s.heap.objs.size := Heap.lt_size he
    have hil : it < s.heap.objs.size := by obtain ⟨_, q, _⟩ := hit; exact Heap.lt_size q
    have ae : a ≠ e := apart_tup p he (by simp)
    have ai : a ≠ it := by
      obtain ⟨_, q, c, _⟩ := hit
      exact apart_tup p q (by rw [c]; simp)
    have hlt : i < its.toArray.size := by
      have := (List.getElem?_eq_some_iff.mp hu).1
      simpa using this
    refine wpAny_pyNext_enum_itemD (draws_tup (I.ok.hd hc) ai) he ⟨hit, p⟩ hlt hne (by simp; exact ⟨hne, ae.symm⟩) fun y h' tk hy ho hit' hT hsz hk => ?_
    have ey : y = u := by
      have q : its.toArray[i]? = some y := hy
      have q2 : its.toArray[i]? = some u := by simpa using hu
      rw [q] at q2
      exact Option.some.inj q2
    subst ey
    refine ⟨_, rfl, wpAny_letOwnedTupleGo_enum (s := { s with heap := h', toks := tk + 1 }) ho fun h'' he' sb => ?_⟩
    have hT2 : h''.get? s.heap.objs.size = some { cls := .type "tuple", data := .seq #[.int i tk, y] } := (sb.2 _ (Nat.ne_of_gt hel)).trans hT
    have new : ObjOk X.prog X.w (upd H s.heap.objs.size (.tup [.int (i : Nat), x])) h'' s.heap.objs.size (.tup [.int (i : Nat), x]) :=
      ⟨by show 2 ≤ sizeLine; decide, [.int i tk, y], .cons ⟨_, rfl⟩ (.cons ru .nil), ⟨_, hT2, rfl, _, rfl⟩⟩
    have I1 : Inv X pins σ (upd H s.heap.objs.size (.tup [.int (i : Nat), x])) { s with heap := h'', toks := tk + 1 } :=
      I.turnedNew (ch := [e, it]) (fun b ob hb q => (sb.2 b (fun z => hb (by simp [z]))).trans (hk b ob (fun z => hb (by simp [z])) (fun z => hb (by simp [z])) q)) hf (Nat.le_refl _) new
    refine ⟨.ref s.heap.objs.size, _, I1, rfl, ⟨_, x, rfl, I.hok.fresh (Nat.le_refl _), rfl, fun ys hy => by rw [I.tuple_inj hy hq]; exact hx⟩, ⟨⟨y, ?_⟩, ?_, hne, ?_⟩, fun b hb => ?_⟩
    · have e1 : ((i + 1 : Nat) : Int) = (i : Int) + 1 := by omega
      rw [e1]; exact he'
    · obtain ⟨⟨o, q, r⟩, _⟩ := hit'
      exact ⟨o, (sb.2 it (Ne.symm hne)).trans q, r⟩
    · have := (List.getElem?_eq_some_iff.mp hx).1
      omega
    · have hb' : b < s.heap.objs.size := by
        have e' : b = e ∨ b = it := by simpa using hb
        rcases e' with z | z
        · rw [z]; exact hel
        · rw [z]; exact hil
      rw [upd_ne (Nat.ne_of_lt hb')]
      exact (hf b hb).1
  done := by
    intro X hP hw hK hc i pins s σ H E I hf st hg
    subst hP hw hK
    obtain ⟨⟨old, he⟩, hit, hne, hin⟩ := st
    obtain ⟨xs, hq, hn, hx⟩ := hg
    obtain ⟨its, rv, p, hz⟩ := I.tuple hq
    obtain ⟨f0, f1, f2, f3, f4, f5⟩ := hf it (by simp)
    have hl := rv.length
    have ai : a ≠ it := by
      obtain ⟨_, q, c, _⟩ := hit
      exact apart_tup p q (by rw [c]; simp)
    have ei : i = its.toArray.size := by simp; omega
    subst ei
    exact wpAny_pyNext_enum_endD (draws_tup (I.ok.hd hc) ai) he ⟨hit, p⟩ fun h' eb => ⟨rfl, I.turned (t' := s.toks) (fun b o hb q => eb b o hb q) f0 f1 f3 f4 f5⟩
  self := fun A i s Q E st h => let ⟨⟨_, he⟩, _⟩ := st; wpAny_pyIter_enum he h
def iEnumT (K : PySem.W.Frag) (ta : TA) : TI := fun σ H R => ta σ H fun vs H1 => ∃ a xs, vs = [.ref a] ∧ SqT K H1 a xs ∧ R (IteT K a xs.length) H1
theorem pi_enumT {X : Cx} {e : Expr} {ta : TA} {p pos tpos : Pos} {elts : List Expr} {kk : Nat} (hg : Gl X "enumerate") (hm : X.mg "enumerate" = none) (ha : PA X [e] ta) (hs : starEach [e] X.env = [(false, eval e X.env)] := by rfl) :
    PI X (.Tuple elts kk tpos) (.Call (.Name "enumerate" p) [e] [] pos) (iEnumT X.K ta) := by
  refine ⟨fun pins s σ H R I h => ?_⟩
  refine Call_ (ld_blt I hg hm boot_enumerate (PyProof.Rows.callWith_type1 (thn (ha.run pos pins s σ H _ I h) fun us s1 ⟨vs, H1, I1, r1, q1⟩ => ?_) hs rfl))
  obtain ⟨a, xs, ex, hq, q⟩ := q1
  subst ex
  cases r1 with
  | cons r rr =>
    cases rr
    cases r
    obtain ⟨its, rv, p', hz⟩ := I1.tuple hq
    refine call_enumerate_tup (show s1.heap.IsTuple a its.toArray from p') fun h' he hit hsz hk => wpAny_pyIter_enum he ?_
    have I2 : Inv X pins σ H1 { s1 with heap := h' } := I1.kept (t' := s1.toks) hk
    refine ⟨s1.heap.objs.size + 1, [s1.heap.objs.size + 1, s1.heap.objs.size], _, _, H1, rfl, I2, turn_enumT a (s1.heap.objs.size + 1) s1.heap.objs.size xs.length, ⟨⟨.none, he⟩, hit, Nat.succ_ne_self _, Nat.zero_le _⟩, fun b hb => ?_, q⟩
    have e' : b = s1.heap.objs.size + 1 ∨ b = s1.heap.objs.size := by simpa using hb
    have hle : s1.heap.objs.size ≤ b := by
      rcases e' with z | z
      · rw [z]; exact Nat.le_add_right _ _
      · rw [z]; exact Nat.le_refl _
    exact I1.fpOk hle (I1.hok.fresh hle)
end Mr

end
section
set_option Elab.async false
set_option linter.all false
set_option maxRecDepth 100000
set_option maxHeartbeats 4000000
/-! MrQ: stepping rules. -/
noncomputable section
namespace Mr
open PySem PySem.Spec PyProof.Rows L2
section
variable {P : O → Prop}
theorem wr_tupL {ds : List D} (h : P (.v (.tup ds))) : WR (tupleD [.lst ds]) P := ⟨_, rfl, h⟩
theorem wr_tupT {ds : List D} (h : P (.v (.tup ds))) : WR (tupleD [.tup ds]) P := ⟨_, rfl, h⟩
theorem wr_addT {a b : List D} (c : a ≠ [] ∧ b ≠ [] ∧ a.length + b.length ≤ 1000000) (h : P (.v (.tup (a ++ b)))) : WR (addD (.tup a) (.tup b)) P := ⟨_, if_pos c, h⟩
theorem wr_inL {d : D} {ds : List D} (h1 : flatD d = true) (h2 : ds.all flatD = true) (h : P (.v (.bl (ds.any fun e => eqF e d)))) : WR (inD d (.lst ds)) P := ⟨.s (.bl _), by unfold inD; rw [inB_lst h1 h2]; rfl, h⟩
theorem wr_ninL {d : D} {ds : List D} (h1 : flatD d = true) (h2 : ds.all flatD = true) (h : P (.v (.bl (!(ds.any fun e => eqF e d))))) : WR (ninD d (.lst ds)) P := ⟨.s (.bl _), by unfold ninD; rw [inB_lst h1 h2]; rfl, h⟩
/-- == of data -/
theorem wr_eqQ {a b : D} {p q : PyData} (e : eqB a b = none) (h1 : toPy a = some p) (h2 : toPy b = some q) (c : (p.canLay0 && q.canLay0) = true ∧ min p.depth q.depth ≤ 1500) (h : P (.v (.bl (PyData.eqv p q)))) : WR (eqPD a b) P := by
  refine ⟨.s (.bl (PyData.eqv p q)), ?_, h⟩
  unfold eqPD eqP
  rw [e]
  simp only []
  unfold eqQ
  rw [h1, h2]
  simp only [Option.bind_some]
  rw [if_pos c]
  rfl
end
end Mr

end
section
set_option Elab.async false
set_option linter.all false
set_option maxRecDepth 100000
set_option maxHeartbeats 4000000
/-! MrR: owned containers: attributes, dicts. -/
noncomputable section
namespace Mr
open PySem PySem.Spec PyProof.Rows L2
section
variable {K : PySem.W.Frag} {c : Cc} {H : Hp}
/-- the second cell goes into the first one's object, which is written -/
theorem RelAt.absorb {k k' : Knd} {os os' : List O} {a : Addr} {u : HO} {xs' : List V} {y : V} {o : O} {cs : Cells} {F : List Addr} (r : RelAt K c F ((.g k os, some (.ref a)) :: (o, some y) :: cs) H) (hk : objG K (upd H a u) a k' xs')
    (hs : ∀ h H' xs F3 F4, objG K H a k xs → ROs K h H' os xs F3 → RO K h H' o (some y) F4 → ∃ F', ROs K h H' os' xs' F' ∧ F'.Perm (F3 ++ F4)) : Rel K c ((.g k' os', some (.ref a)) :: cs) (upd H a u) := by
  obtain ⟨F1, F2, ⟨b, xs, F3, e1, e2, e3, e4⟩, ⟨F4, F5, ro, s2, e5⟩, e6⟩ := r.rc
  cases e1
  subst e4 e5 e6
  have nd := r.nd
  have nda : a ∉ F3 ++ (F4 ++ F5) := by
    have : (a :: (F3 ++ (F4 ++ F5))).Nodup := by simpa using nd
    exact (List.nodup_cons.mp this).1
  have U : ∀ x, x ∈ F3 ++ (F4 ++ F5) → upd H a u x = H x := fun x hx => upd_ne fun z => nda (z ▸ hx)
  have eh : hid (a :: F3 ++ (F4 ++ F5) ++ c.B) (upd H a u) = hid (a :: F3 ++ (F4 ++ F5) ++ c.B) H := by
    funext x
    by_cases hx : x ∈ a :: F3 ++ (F4 ++ F5) ++ c.B
    · rw [hid_in hx, hid_in hx]
    · rw [hid_out hx, hid_out hx, upd_ne fun z => hx (by rw [z]; simp)]
  obtain ⟨F', q1, q2⟩ := hs (hid (a :: F3 ++ (F4 ++ F5) ++ c.B) H) (upd H a u) xs F3 F4 e2 (e3.mono (fun _ _ z => z) fun x hx => U x (by simp [hx])) (ro.mono (fun _ _ z => z) fun x hx => U x (by simp [hx]))
  have pm : (a :: F' ++ F5).Perm (a :: F3 ++ (F4 ++ F5)) := by
    have := List.Perm.append_right F5 (List.Perm.cons a q2)
    simpa using this
  have m : ∀ b, b ∈ a :: F' ++ F5 ↔ b ∈ a :: F3 ++ (F4 ++ F5) := fun b => pm.mem_iff
  have eh2 : hid (a :: F' ++ F5 ++ c.B) (upd H a u) = hid (a :: F3 ++ (F4 ++ F5) ++ c.B) (upd H a u) := hid_congr fun b => by rw [List.mem_append, m b, ← List.mem_append]
  refine ⟨a :: F' ++ F5, ⟨?_, pm.nodup_iff.mpr nd, fun b hb => r.dj b ((m b).mp hb), r.bt, ?_, fun b hb => r.ow b ((m b).mp hb)⟩⟩
  · rw [eh2, eh]
    exact ⟨a :: F', F5, ⟨a, xs', F', rfl, hk, q1, rfl⟩, s2.mono (fun _ _ z => z) fun x hx => U x (by simp [hx]), rfl⟩
  · intro x o g1 g2
    have nx : x ≠ a := fun z => by
      subst z
      rcases r.ow x (by simp) with w | w
      · exact g2 w
      · rw [g1] at w; cases w
    rw [upd_ne nx]
    exact r.fr x o g1 g2
/-- a new empty container -/
theorem RelAt.newG {F : List Addr} {cs : Cells} {p : Addr} {k : Knd} {u : HO} (r : RelAt K c F cs H) (hp : H p = none) (hk : objG K (upd H p u) p k []) : Rel K c ((.g k [], some (.ref p)) :: cs) (upd H p u) := by
  have np := r.notin hp
  have e : hid (p :: F ++ c.B) (upd H p u) = hid (F ++ c.B) H := by
    funext b
    by_cases hb : b = p
    · subst hb
      rw [hid_in (by simp), hid_out np, hp]
    · by_cases hF : b ∈ F ++ c.B
      · rw [hid_in hF, hid_in (by rw [List.cons_append]; exact List.mem_cons_of_mem _ hF)]
      · rw [hid_out hF, hid_out (by rw [List.cons_append]; intro z; rcases List.mem_cons.mp z with z | z; exact hb z; exact hF z), upd_ne hb]
  refine ⟨p :: F, ⟨[p], F, ⟨p, [], [], rfl, hk, ⟨rfl, rfl⟩, rfl⟩, by rw [e]; exact r.rc.mono (fun _ _ z => z) fun a ha => upd_ne fun z => np (by rw [← z]; exact List.mem_append_left _ ha), rfl⟩, List.nodup_cons.mpr ⟨fun z => np (List.mem_append_left _ z), r.nd⟩, fun a ha => ?_, r.bt, fun b o e1 e2 => ?_, fun a ha => ?_⟩
  · rcases List.mem_cons.mp ha with z | z
    · rw [z]; exact fun w => np (List.mem_append_right _ w)
    · exact r.dj a z
  · have q1 := r.fr b o e1 e2
    rw [upd_ne (ne_of_none q1 hp)]
    exact q1
  · rcases List.mem_cons.mp ha with z | z
    · rw [z]; exact r.h0 hp
    · exact r.ow a z
theorem RelAt.newDD {F : List Addr} {cs : Cells} {p : Addr} (r : RelAt K c F cs H) (hp : H p = none) : Rel K c ((.dd [] [], some (.ref p)) :: cs) (upd H p (.dK [])) := by
  have np := r.notin hp
  have e : hid (p :: F ++ c.B) (upd H p (.dK [])) = hid (F ++ c.B) H := by
    funext b
    by_cases hb : b = p
    · subst hb
      rw [hid_in (by simp), hid_out np, hp]
    · by_cases hF : b ∈ F ++ c.B
      · rw [hid_in hF, hid_in (by rw [List.cons_append]; exact List.mem_cons_of_mem _ hF)]
      · rw [hid_out hF, hid_out (by rw [List.cons_append]; intro z; rcases List.mem_cons.mp z with z | z; exact hb z; exact hF z), upd_ne hb]
  refine ⟨p :: F, ⟨[p], F, ⟨p, [], rfl, upd_same, rfl, rfl, rfl⟩, by rw [e]; exact r.rc.mono (fun _ _ z => z) fun a ha => upd_ne fun z => np (by rw [← z]; exact List.mem_append_left _ ha), rfl⟩, List.nodup_cons.mpr ⟨fun z => np (List.mem_append_left _ z), r.nd⟩, fun a ha => ?_, r.bt, fun b o e1 e2 => ?_, fun a ha => ?_⟩
  · rcases List.mem_cons.mp ha with z | z
    · rw [z]; exact fun w => np (List.mem_append_right _ w)
    · exact r.dj a z
  · have q1 := r.fr b o e1 e2
    rw [upd_ne (ne_of_none q1 hp)]
    exact q1
  · rcases List.mem_cons.mp ha with z | z
    · rw [z]; exact r.h0 hp
    · exact r.ow a z
theorem objG.inj {H : Hp} {a : Addr} {k : Knd} {xs ys : List V} (h1 : objG K H a k xs) (h2 : objG K H a k ys) : xs = ys := by
  cases k with
  | lst => exact (HO.lst.inj (Option.some.inj (h1.symm.trans h2)))
  | tup => exact (HO.tup.inj (Option.some.inj (h1.symm.trans h2)))
  | ins c ns =>
    obtain ⟨_, _, g1, _, g2, _⟩ := h1
    obtain ⟨_, _, g3, _, g4, _⟩ := h2
    obtain ⟨_, _, e⟩ := HO.ins.inj (Option.some.inj (g1.symm.trans g3))
    subst e
    exact map_some_inj (g2.symm.trans g4)
end
/-! ### attributes -/
/-- an attribute of an instance that is being made -/
def putAt (f : Str) (o : O) : List Str → List O → Option (List Str × List O)
  | ns, os => if f ∈ ns then none else some (f :: ns, o :: os)
/-- x.f = e, a new attribute of the instance in slot i -/
def s_fld (i : Nat) (cl f : Str) (m : ME) : MS := fun ρ => (m ρ).bind fun a => match a.2[i]? with
  | some (.g (.ins c ns) os) => if c = cl ∧ f ∉ ns ∧ ns.length < 900 then some (.nx (a.2.set i (.g (.ins c (f :: ns)) (a.1 :: os)))) else none
  | _ => none
section
variable {K : PySem.W.Frag}
/-- the attribute goes in -/
theorem Rel.fld {c : Cc} {cl f : Str} {ns : List Str} {os : List O} {a : Addr} {o : O} {y : V} {cs : Cells} {H : Hp} (r : Rel K c ((.g (.ins cl ns) os, some (.ref a)) :: (o, some y) :: cs) H) (hf : f ∉ ns) :
    ∃ dx fv, H a = some (.ins (He.ga K cl) dx fv) ∧ fv.length ≤ ns.length ∧ Rel K c ((.g (.ins cl (f :: ns)) (o :: os), some (.ref a)) :: cs) (upd H a (.ins (He.ga K cl) dx (putF f y fv))) := by
  obtain ⟨F, r⟩ := r
  obtain ⟨F1, F2, ⟨b, xs, F3, e1, ⟨dx, fv, q1, q2, q3, q0⟩, e3, e4⟩, s2, e6⟩ := id r.rc
  cases e1
  refine ⟨dx, fv, q1, q2, r.absorb (xs' := y :: xs) ⟨dx, putF f y fv, upd_same, Nat.le_trans (length_putF f y fv) (Nat.succ_le_succ q2), ?_, fun g hg => by rw [lookup_putF, if_neg (fun z => hg (by rw [z]; exact List.mem_cons_self))]; exact q0 g fun z => hg (List.mem_cons_of_mem _ z)⟩ fun h H' xs2 F3 F4 g1 g2 g3 => ⟨F4 ++ F3, ⟨y, xs, F4, F3, rfl, g3, ?_, rfl⟩, List.perm_append_comm⟩⟩
  · rw [List.map_cons, List.map_cons, lookup_putF, if_pos rfl, ← q3]
    congr 1
    refine List.map_congr_left fun g hg => ?_
    have hne : ¬ g = f := fun z => hf (by rw [← z]; exact hg)
    rw [lookup_putF, if_neg hne]
  · rw [objG.inj (K := K) (k := .ins cl ns) ⟨dx, fv, q1, q2, q3, q0⟩ g1]
    exact g2
theorem rfs_fld {n : Nat} {lk : List Nat} {i : Nat} {cl f : Str} {t : TE} {m : ME} (h : Rf K t m) (hc : Cls K (He.ga K cl)) (hn : NoAttr K (He.ga K cl) f) : Rfs K n lk (sFld K (tVar i) t f) (s_fld i cl f m) := by
  intro c τ ρ σ H D out hl hs r e k
  unfold s_fld at e
  obtain ⟨⟨o, ρ1⟩, e1, e⟩ := Option.bind_eq_some_iff.mp e
  simp only at e
  split at e
  · rename_i c' ns os h1
    split at e
    · rename_i hf
      cases e
      obtain ⟨ec, hf⟩ := hf
      subst ec
      refine h c τ ρ σ H _ o ρ1 hl r e1 fun y H1 hl1 r1 => ?_
      obtain ⟨x, s1⟩ := slot_of hl1 h1
      have r3 : Rel K c ((((o, some y) :: τ)) ++ ρ1.zip σ) H1 := r1
      have r4 := r3.take h1 s1
      have r4' : Rel K c ((.g (.ins c' ns) os, x) :: (o, some y) :: (τ ++ (ρ1.set i .n).zip σ)) H1 := r4
      obtain ⟨_, r0⟩ := id r4'
      obtain ⟨_, _, ⟨a, _, _, ex, _⟩, _⟩ := r0.rc
      subst ex
      obtain ⟨dx, fv, g1, g2, g3⟩ := r4'.fld hf.1
      refine ⟨.ref a, s1, a, _, dx, fv, rfl, g1, hc, hn, by omega, ?_⟩
      have g4 := g3.put (i := i) (by rw [List.length_set]; exact hl1) s1
      rw [List.set_set] at g4
      exact k σ _ (by rw [List.length_set]; exact hl1) rfl .refl g4
    · cases e
  · cases e
/-- {} -/
def m_dnew : ME := fun ρ => some (.dd [] [], ρ)
theorem rf_dnew : Rf K tDNewK m_dnew := by
  intro c τ ρ σ H Q o ρ' hl r e k
  cases e
  intro p hp
  obtain ⟨F, rr⟩ := r
  exact k _ _ hl (rr.newDD hp)
end
section
variable {C : Cd} {N : List Str} {sc : Sk} {lk : List Nat} {pos p p' : Pos}
theorem re_dnew : RE C N sc (.Dict [] [] pos) m_dnew := ⟨_, fun X g => pe_dnewK, rf_dnew⟩
theorem rs_fld (i : Nat) {x f : Str} (cl : Str) {e : Expr} {m : ME} (hc : Cls C.K (He.ga C.K cl)) (hn : NoAttr C.K (He.ga C.K cl) f) (h : RE C N sc e m) (hv : visB N sc i x = true := by decide +kernel)
    (hs : ∀ env : Env, swapsWith e (some (.Attribute (.Name x p) f p')) pos.line env = pure false := by intro _; rfl) : RS C N sc lk (.Assign [.Attribute (.Name x p) f p'] e pos) (s_fld i cl f m) :=
  let ⟨t, a1, a2⟩ := h
  ⟨sFld C.K (tVar i) t f, fun X g _ => by
    have q := ps_fld (pe_var (pos := p) (g.vis hv).1 (g.vis hv).2 (okName_d (visB_ok hv).2.2).1 (okName_d (visB_ok hv).2.2).2.1) (a1 X g) (f := f) (pos := pos) (pos' := p') (hs _)
    rw [g.K] at q
    exact q, rfs_fld a2 hc hn⟩
end
end Mr

end
section
set_option Elab.async false
set_option linter.all false
set_option maxRecDepth 100000
set_option maxHeartbeats 4000000
/-! MrS: dicts: d[k] = v, x.f[k] = v; attributes read; instances made. -/
noncomputable section
namespace Mr
open PySem PySem.Spec PyProof.Rows L2
/-- a key -/
def keyD : D → Option Key
  | .int i => some (.inl i)
  | .str s => some (.inr s)
  | _ => none
def hasK (ks : List Key) (k : Key) : Bool := ks.any fun q => decide (q = k)
def putA {α : Type} (ks : List Key) (xs : List α) (k : Key) (v : α) : List Key × List α :=
  if hasK ks k = true then (ks, List.zipWith (fun k' x => if k' = k then v else x) ks xs) else (ks ++ [k], xs ++ [v])
def getA? {α : Type} : List Key → List α → Key → Option α
  | k :: ks, x :: xs, q => if k = q then some x else getA? ks xs q
  | _, _, _ => none
theorem putA_zip {ks : List Key} {xs : List V} {k : Key} {v : V} (h : ks.length = xs.length) : putK (ks.zip xs) k v = (putA ks xs k v).1.zip (putA ks xs k v).2 ∧ (putA ks xs k v).1.length = (putA ks xs k v).2.length := by
  have any : ((ks.zip xs).any fun kv => decide (kv.1 = k)) = hasK ks k := by
    clear v
    induction ks generalizing xs with
    | nil => rfl
    | cons q ks ih =>
      cases xs with
      | nil => simp at h
      | cons x xs =>
        rw [List.zip_cons_cons, List.any_cons, ih (by simpa using h)]
        rfl
  unfold putK putA
  rw [any]
  by_cases hk : hasK ks k = true
  · rw [if_pos hk, if_pos hk]
    refine ⟨?_, by simp [h]⟩
    clear any hk
    induction ks generalizing xs with
    | nil => simp
    | cons q ks ih =>
      cases xs with
      | nil => simp at h
      | cons x xs =>
        simp only [List.zip_cons_cons, List.map_cons, List.zipWith_cons_cons]
        rw [ih (by simpa using h)]
        by_cases e : q = k
        · simp [e]
        · simp [e]
  · rw [if_neg hk, if_neg hk]
    refine ⟨?_, by simp [h]⟩
    simp only
    rw [List.zip_append h]
    rfl
theorem putA_fst {α β : Type} {ks : List Key} {xs : List α} {ys : List β} {k : Key} {v : α} {w : β} : (putA ks xs k v).1 = (putA ks ys k w).1 := by
  unfold putA
  split <;> rfl
section
variable {K : PySem.W.Frag} {h H : Hp}
theorem Reps.putA {ks : List Key} {k : Key} {d : D} {y : V} (q : Rep K h d y) : ∀ {ds : List D} {xs : List V}, Reps K h ds xs → Reps K h (Mr.putA ks ds k d).2 (Mr.putA ks xs k y).2 := by
  intro ds xs r
  unfold Mr.putA
  split
  · rename_i hk
    clear hk
    induction ks generalizing ds xs with
    | nil => exact rfl
    | cons q ks ih =>
      cases ds with
      | nil => cases r; exact rfl
      | cons e ds =>
        obtain ⟨x, r', e1, e2, e3⟩ := r
        subst e1
        simp only [List.zipWith_cons_cons]
        refine ⟨_, _, rfl, ?_, ih e3⟩
        split
        · assumption
        · exact e2
  · exact r.append (.one q)
theorem Reps.getA {k : Key} : ∀ {ks : List Key} {ds : List D} {xs : List V}, Reps K h ds xs → (∀ d, getA? ks ds k = some d → ∃ y, getA? ks xs k = some y ∧ Rep K h d y) ∧ (getA? ks ds k = none → getA? ks xs k = none)
  | [], _, _, _ => ⟨fun d e => by simp [getA?] at e, fun _ => by simp [getA?]⟩
  | _ :: _, [], _, r => by cases r; exact ⟨fun d e => by simp [getA?] at e, fun _ => by simp [getA?]⟩
  | q :: ks, d0 :: ds, _, ⟨x, r', e1, e2, e3⟩ => by
    subst e1
    obtain ⟨i1, i2⟩ := Reps.getA (k := k) (ks := ks) e3
    simp only [getA?]
    by_cases hq : q = k
    · rw [if_pos hq, if_pos hq]
      exact ⟨fun d e => by cases e; exact ⟨x, rfl, e2⟩, fun e => by cases e⟩
    · rw [if_neg hq, if_neg hq]
      exact ⟨i1, i2⟩
theorem getA_val {k : Key} : ∀ {ks : List Key} {xs : List V}, valV (ks.zip xs) k = getA? ks xs k
  | [], _ => by simp [getA?, valV]
  | _ :: _, [] => by simp [getA?, valV]
  | q :: ks, x :: xs => by
    rw [List.zip_cons_cons]
    simp only [getA?]
    by_cases hq : q = k
    · rw [if_pos hq, valV_pos hq]
    · rw [if_neg hq, valV_neg hq, getA_val]
theorem keyV {d : D} {k : Key} {x : V} (e : keyD d = some k) (v : Vw K h H d x) : x = kV k := by
  cases d with
  | int i => cases e; exact vw_int v
  | str s => cases e; exact vw_str v
  | _ => cases e
/-- an owned dict is changed -/
theorem RelAt.mutD {c : Cc} {F : List Addr} {cs : Cells} {ks ks' : List Key} {ds ds' : List D} {a : Addr} {xs' : List V} (r : RelAt K c F ((.dd ks ds, some (.ref a)) :: cs) H) (hl : ks'.length = xs'.length) (q : Reps K (hid (F ++ c.B) H) ds' xs') :
    Rel K c ((.dd ks' ds', some (.ref a)) :: cs) (upd H a (.dK (ks'.zip xs'))) := by
  obtain ⟨F1, F2, ⟨a', xs, e1, e2, e0, e3, e4⟩, s2, rfl⟩ := r.rc
  cases e1
  subst e4
  have nd := r.nd
  rw [List.singleton_append, List.nodup_cons] at nd
  have e : hid ([a] ++ F2 ++ c.B) (upd H a (.dK (ks'.zip xs'))) = hid ([a] ++ F2 ++ c.B) H := by
    funext b
    by_cases hb : b ∈ [a] ++ F2 ++ c.B
    · rw [hid_in hb, hid_in hb]
    · rw [hid_out hb, hid_out hb, upd_ne fun z => hb (by rw [z]; simp)]
  refine ⟨[a] ++ F2, ⟨[a], F2, ⟨a, xs', rfl, upd_same, hl, by rw [e]; exact q, rfl⟩, by rw [e]; exact s2.mono (fun _ _ z => z) fun b hb => upd_ne fun z => nd.1 (by rw [← z]; exact hb), rfl⟩, r.nd, r.dj, r.bt, fun b o e1 e5 => ?_, r.ow⟩
  have na : b ≠ a := fun z => by
    subst z
    rcases r.ow b (by simp) with w | w
    · exact e5 w
    · rw [e1] at w; cases w
  rw [upd_ne na]
  exact r.fr b o e1 e5
end
/-! ### x[k] = v -/
def s_dput (i : Nat) (me : ME) (mi : MP) : MS := fun ρ => (me ρ).bind fun a => (toD a.1).bind fun d => match a.2[i]? with
  | some (.dd _ _) => (mi a.2).bind fun b => (vw b.2 b.1).bind fun q => (keyD q).bind fun k => match b.2[i]? with
    | some (.dd ks ds) => if ks.length < 1000000 then some (.nx (b.2.set i (.dd (putA ks ds k d).1 (putA ks ds k d).2))) else none
    | _ => none
  | _ => none
section
variable {K : PySem.W.Frag} {n : Nat} {lk : List Nat}
theorem rfs_dput {i : Nat} {te ti : TE} {me : ME} {mi : MP} (h1 : Rf K te me) (h2 : Rfp K ti mi) : Rfs K n lk (sDPut (tVar i) ti te) (s_dput i me mi) := by
  intro c τ ρ σ H D out hl hn r e k
  unfold s_dput at e
  obtain ⟨⟨oa, ρ1⟩, e1, e⟩ := Option.bind_eq_some_iff.mp e
  obtain ⟨d, e2, e⟩ := Option.bind_eq_some_iff.mp e
  simp only at e
  split at e
  · rename_i ks0 ds0 h0
    obtain ⟨⟨p, ρ2⟩, e3, e⟩ := Option.bind_eq_some_iff.mp e
    obtain ⟨q, e4, e⟩ := Option.bind_eq_some_iff.mp e
    obtain ⟨kk, e5, e⟩ := Option.bind_eq_some_iff.mp e
    simp only at e
    split at e
    · rename_i ks ds h3
      split at e
      · rename_i hz
        cases e
        refine h1 c τ ρ σ H _ oa ρ1 hl r e1 fun x H1 hl1 r1 => ?_
        have r2 := r1.toD e2
        have r3 : Rel K c (((.v d, some x) :: τ) ++ ρ1.zip σ) H1 := r2
        obtain ⟨xi, s1⟩ := slot_of hl1 h0
        obtain ⟨_, rr0⟩ := id r3
        obtain ⟨_, ⟨a, _, exi, _⟩, _⟩ := rr0.rc.mem (List.mem_append_right _ (mem_zip h0 s1))
        subst exi
        refine ⟨.ref a, s1, h2 c _ ρ1 σ H1 _ p ρ2 hl1 r3 e3 fun y H2 hl2 pv2 r4 => ?_⟩
        have r4' : Rel K c ((kap p y ++ ((.v d, some x) :: τ)) ++ ρ2.zip σ) H2 := by rw [List.append_assoc]; exact r4
        obtain ⟨g, hs, q⟩ := r4'.vwp (p := p) (fun q hq => List.mem_append_left _ hq) e4 pv2
        have ey := keyV e5 q
        subst ey
        have r5 := (r4.drops).take h3 s1
        obtain ⟨F, rr⟩ := id r5
        obtain ⟨F1, F2, ⟨a2, xs, p1, p2, p0, p3, p4⟩, ⟨G1, G2, ⟨_, z, ez, qz⟩, _, _⟩, _⟩ := rr.rc
        cases p1
        cases ez
        have hlen : (ks.zip xs).length < sizeLine := by
          rw [List.length_zip, ← p0, Nat.min_self]
          exact Nat.lt_of_lt_of_le hz (by decide)
        obtain ⟨z1, z2⟩ := putA_zip (k := kk) (v := x) p0
        refine ⟨a, _, rfl, DPut.k p2 hlen, ?_⟩
        rw [z1]
        have m1 := rr.mutD (ks' := (putA ks xs kk x).1) (ds' := (putA ks ds kk d).2) z2 (p3.putA qz)
        have m2 := m1.put (i := i) (τ := (.v d, some x) :: τ) (by rw [List.length_set]; exact hl2) s1
        rw [List.set_set] at m2
        refine k σ _ (by rw [List.length_set]; exact hl2) rfl .refl ?_
        rw [putA_fst (xs := ds) (ys := xs) (w := x)]
        exact m2.drop
      · cases e
    · cases e
  · cases e
end
section
variable {C : Cd} {N : List Str} {sc : Sk} {lk : List Nat} {pos p p' : Pos}
theorem Gd.unit1 {X : Cx} (g : Gd C N sc X) : X.A.units + 1 < cLine := by have := hu_of g.room; omega
theorem rs_dput (i : Nat) {x : Str} {e ix : Expr} {me : ME} {mi : MP} (h1 : RE C N sc e me) (h2 : RP C N sc ix mi) (hv : visB N sc i x = true := by decide +kernel)
    (hs : ∀ env : Env, swapsWith e (some (.Subscript (.Name x p) ix p')) pos.line env = pure false := by intro _; rfl) : RS C N sc lk (.Assign [.Subscript (.Name x p) ix p'] e pos) (s_dput i me mi) := by
  obtain ⟨t, a1, a2⟩ := h1
  obtain ⟨u, b1, b2⟩ := h2
  exact ⟨_, fun X g _ => ps_dput g.unit1 (pe_var (g.vis hv).1 (g.vis hv).2 (okName_d (visB_ok hv).2.2).1 (okName_d (visB_ok hv).2.2).2.1) (b1 X g) (a1 X g) (hs _), rfs_dput a2 b2⟩
end
end Mr

end
section
set_option Elab.async false
set_option linter.all false
set_option maxRecDepth 100000
set_option maxHeartbeats 4000000
/-! MrT: x.f[k] = v; attributes read. -/
noncomputable section
namespace Mr
open PySem PySem.Spec PyProof.Rows L2
/-- a key's expression that leaves everything as it is -/
def Rpu (K : PySem.W.Frag) (t : TE) (pk : List O → Option D) : Prop := ∀ (c : Cc) (τ : Cells) (ρ : List O) (σ : L2.St) (H : Hp) (Q : VK) (d : D) (F : List Addr), ρ.length = σ.length → RelAt K c F (τ ++ ρ.zip σ) H → pk ρ = some d →
  (∀ x, Rep K (hid (F ++ c.B) H) d x → Q x H) → t σ H Q
def k_nm (i : Nat) : List O → Option D := fun ρ => match ρ[i]? with
  | some (.v d) => some d
  | _ => none
def k_ix (i : Nat) (m : Int) : List O → Option D := fun ρ => match ρ[i]? with
  | some (.v (.tup ds)) => L2.atI ds m
  | _ => none
def RK (C : Cd) (N : List Str) (sc : Sk) (e : Expr) (pk : List O → Option D) : Prop := ∃ t, (∀ X, Gd C N sc X → PE X e t) ∧ Rpu C.K t pk
section
variable {K : PySem.W.Frag}
theorem rpu_nm {i : Nat} : Rpu K (tVar i) (k_nm i) := by
  intro c τ ρ σ H Q d F hl r e k
  unfold k_nm at e
  split at e
  · rename_i d' h1
    cases e
    obtain ⟨x, h2⟩ := slot_of hl h1
    obtain ⟨F1, ⟨_, y, e1, q⟩, _⟩ := r.rc.mem (List.mem_append_right _ (mem_zip h1 h2))
    cases e1
    exact ⟨y, h2, k y q⟩
  · cases e
theorem rpu_ix {i : Nat} {m : Int} : Rpu K (tOp (rIx K) (tVar i) (tC (.int m))) (k_ix i m) := by
  intro c τ ρ σ H Q d F hl r e k
  unfold k_ix at e
  split at e
  · rename_i ds h1
    obtain ⟨x, h2⟩ := slot_of hl h1
    obtain ⟨F1, ⟨_, y, e1, a, xs, rfl, q1, q2⟩, _⟩ := r.rc.mem (List.mem_append_right _ (mem_zip h1 h2))
    cases e1
    obtain ⟨v, g1, g2⟩ := q2.atI e
    exact ⟨.ref a, h2, .inr (.inl ⟨a, xs, m, v, rfl, rfl, sqT_same hid_same q1, g1, k v g2⟩)⟩
  · cases e
def ixOf (f : Str) : List Str → Option Nat
  | [] => none
  | n :: ns => if n = f then some 0 else (ixOf f ns).map (· + 1)
theorem ixOf_ok {f : Str} : ∀ {ns : List Str} {j : Nat}, ixOf f ns = some j → ns[j]? = some f
  | [], _, e => by cases e
  | n :: ns, j, e => by
    unfold ixOf at e
    split at e
    · rename_i h; cases e; simp [h]
    · obtain ⟨j', e1, rfl⟩ := Option.map_eq_some_iff.mp e
      simpa using ixOf_ok e1
theorem objG_look {H : Hp} {a : Addr} {c : Str} {ns : List Str} {xs : List V} {f : Str} {j : Nat} {y : V} (h : objG K H a (.ins c ns) xs) (e : ixOf f ns = some j) (e2 : xs[j]? = some y) : ∃ dx fv, H a = some (.ins (He.ga K c) dx fv) ∧ fv.lookup f = some y := by
  obtain ⟨dx, fv, q1, q2, q3, _⟩ := h
  refine ⟨dx, fv, q1, ?_⟩
  have h1 : (ns.map fun f => fv.lookup f)[j]? = (xs.map some)[j]? := by rw [q3]
  rw [List.getElem?_map, List.getElem?_map, ixOf_ok e, e2] at h1
  simpa using h1
end
/-- x.f[k] = v, x an owned instance, x.f an owned dict -/
def s_fdput (i : Nat) (cl f : Str) (me : ME) (pk : List O → Option D) : MS := fun ρ => (me ρ).bind fun a => (toD a.1).bind fun d => (pk a.2).bind fun q => (keyD q).bind fun k => match a.2[i]? with
  | some (.g (.ins c ns) os) => if c = cl then (ixOf f ns).bind fun j => match os[j]? with
    | some (.dd ks ds) => if ks.length < 1000000 then some (.nx (a.2.set i (.g (.ins c ns) (os.set j (.dd (putA ks ds k d).1 (putA ks ds k d).2))))) else none
    | _ => none
    else none
  | _ => none
section
variable {K : PySem.W.Frag} {n : Nat} {lk : List Nat}
theorem rfs_fdput {i : Nat} {cl f : Str} {te tk : TE} {me : ME} {pk : List O → Option D} (h1 : Rf K te me) (h2 : Rpu K tk pk) (hc : Cls K (He.ga K cl)) (hn : NoAttr K (He.ga K cl) f) : Rfs K n lk (sDPut (tFld K (tVar i) f) tk te) (s_fdput i cl f me pk) := by
  intro c τ ρ σ H D out hl hs r e k
  unfold s_fdput at e
  obtain ⟨⟨oa, ρ1⟩, e1, e⟩ := Option.bind_eq_some_iff.mp e
  obtain ⟨d, e2, e⟩ := Option.bind_eq_some_iff.mp e
  obtain ⟨q, e3, e⟩ := Option.bind_eq_some_iff.mp e
  obtain ⟨kk, e4, e⟩ := Option.bind_eq_some_iff.mp e
  simp only at e
  split at e
  · rename_i c' ns os h0
    split at e
    · rename_i hcl
      have e9 := e
      subst hcl
      obtain ⟨j, e5, e10⟩ := Option.bind_eq_some_iff.mp e9
      split at e10
      · rename_i ks ds h3
        split at e10
        · rename_i hz
          cases e10
          refine h1 c τ ρ σ H _ oa ρ1 hl r e1 fun x H1 hl1 r1 => ?_
          have r2 := r1.toD e2
          have r3 : Rel K c (((.v d, some x) :: τ) ++ ρ1.zip σ) H1 := r2
          obtain ⟨xi, s1⟩ := slot_of hl1 h0
          have r4 := r3.take h0 s1
          obtain ⟨F, rr⟩ := id r4
          obtain ⟨a, xs, y, ex, ho, hx, hlen, G, g⟩ := rr.out h3
          subst ex
          obtain ⟨dx, fv, o1, o2⟩ := objG_look ho e5 hx
          refine ⟨.ref a, s1, a, _, dx, fv, y, rfl, o1, hc, hn, o2, ?_⟩
          obtain ⟨F0, rr0⟩ := id r3
          refine h2 c _ ρ1 σ H1 _ q F0 hl1 rr0 e3 fun z hz2 => ?_
          have ez := keyV (H := H1) e4 (.inl hz2)
          subst ez
          obtain ⟨G1, G2, ⟨b, ys, ey, hb, hlk, hr, eG⟩, ⟨G3, G4, ⟨L', xs', G5, eL, hL, _, eG3⟩, ⟨_, _, ⟨_, x', ex', qx⟩, _⟩, eG2⟩, eGG⟩ := id g.rc
          cases ey
          cases eL
          cases ex'
          have nb : a ≠ b := fun z => by
            have nd := g.nd
            rw [eGG, eG, eG2, eG3] at nd
            simp only [List.singleton_append, List.cons_append, List.nodup_cons] at nd
            exact nd.1 (by rw [z]; exact List.mem_cons_self)
          obtain ⟨z1, z2⟩ := putA_zip (k := kk) (v := x) hlk
          have hzl : (ks.zip ys).length < sizeLine := by
            rw [List.length_zip, ← hlk, Nat.min_self]
            exact Nat.lt_of_lt_of_le hz (by decide)
          refine ⟨b, _, rfl, DPut.k hb hzl, ?_⟩
          rw [z1]
          obtain ⟨G', g3⟩ := g.mutD (ks' := (putA ks ys kk x).1) (ds' := (putA ks ds kk d).2) z2 (hr.putA qx)
          have hj : j < os.length := (List.getElem?_eq_some_iff.mp h3).1
          have g4 := g3.into (ho.to (upd_ne nb)) hx (List.getElem?_set_self hj)
          rw [List.set_set] at g4
          have g5 := g4.put (i := i) (τ := (.v d, some x) :: τ) (by rw [List.length_set]; exact hl1) s1
          rw [List.set_set] at g5
          refine k σ _ (by rw [List.length_set]; exact hl1) rfl .refl ?_
          rw [putA_fst (xs := ds) (ys := ys) (w := x)]
          exact g5.drop
        · cases e10
      · cases e10
    · cases e
  · cases e
end
/-- x.f, a plain attribute of the owned instance in slot i -/
def m_fob (i : Nat) (cl f : Str) : ME := fun ρ => match ρ[i]? with
  | some (.g (.ins c ns) os) => if c = cl then (ixOf f ns).bind fun j => match os[j]? with
    | some (.v d) => some (.v d, ρ)
    | _ => none
    else none
  | _ => none
section
variable {K : PySem.W.Frag}
theorem ROs.getv {h H : Hp} : ∀ {os : List O} {xs : List V} {F : List Addr} {j : Nat} {d : D}, ROs K h H os xs F → os[j]? = some (.v d) → ∃ y, xs[j]? = some y ∧ Rep K h d y := fun {os xs F j d} r e => by
  obtain ⟨y, F1, F2, q1, ⟨_, z, ez, q2⟩, _⟩ := r.at e
  cases ez
  exact ⟨y, q1, q2⟩
theorem rf_fob {i : Nat} {cl f : Str} (hc : Cls K (He.ga K cl)) (hn : NoAttr K (He.ga K cl) f) : Rf K (tFld K (tVar i) f) (m_fob i cl f) := by
  intro c τ ρ σ H Q o ρ' hl r e k
  unfold m_fob at e
  split at e
  · rename_i c' ns os h0
    split at e
    · rename_i hcl
      have e9 := e
      subst hcl
      obtain ⟨j, e5, e10⟩ := Option.bind_eq_some_iff.mp e9
      split at e10
      · rename_i d h3
        cases e10
        obtain ⟨xi, s1⟩ := slot_of hl h0
        obtain ⟨F, rr⟩ := id r
        obtain ⟨F1, ⟨a, xs, F2, ex, ho, q3, _⟩, _⟩ := rr.rc.mem (List.mem_append_right _ (mem_zip h0 s1))
        subst ex
        obtain ⟨y, q1, q2⟩ := q3.getv h3
        obtain ⟨dx, fv, o1, o2⟩ := objG_look ho e5 q1
        exact ⟨.ref a, s1, a, _, dx, fv, y, rfl, o1, hc, hn, o2, k y H hl (rr.add q2)⟩
      · cases e10
    · cases e
  · cases e
/-- e.f, e plain -/
theorem rf_fldV {c0 f : Str} {t : TE} {m : MP} (h : Rfp K t m) (hc : Cls K (He.ga K c0)) (hn : NoAttr K (He.ga K c0) f) : Rf K (tFld K t f) (m_op1 (propD c0 f) m) := by
  intro cc τ ρ σ H Q o ρ' hl r e k
  unfold m_op1 at e
  obtain ⟨⟨p, ρ1⟩, e1, e⟩ := Option.bind_eq_some_iff.mp e
  obtain ⟨d, e2, e⟩ := Option.bind_eq_some_iff.mp e
  obtain ⟨res, e3, e⟩ := Option.map_eq_some_iff.mp e
  cases e
  refine h cc τ ρ σ H _ p _ hl r e1 fun x H1 hl1 pv1 r1 => ?_
  obtain ⟨F, rr⟩ := id r1
  obtain ⟨o1, x1, x2⟩ := vw_mem e2 pv1
  have hm : (o1, some x) ∈ kap p x ++ (τ ++ ρ1.zip σ) := by
    rcases x2 with z | z
    · exact List.mem_append_left _ z
    · exact List.mem_append_right _ (List.mem_append_right _ z)
  have v := rr.vw hm x1
  cases d with
  | ins c' ns ds =>
    unfold propD at e3
    simp only at e3
    split at e3
    · rename_i hcc
      subst hcc
      obtain ⟨d', e4, rfl⟩ := Option.map_eq_some_iff.mp e3
      rcases v with ⟨a, dx, fs, xs, rfl, q1, q2, _, q3⟩ | ⟨_, _, _, q, _⟩ | ⟨_, _, _, _, q, _⟩
      · obtain ⟨y, l, ry⟩ := insAt_ok q2 q3 e4
        have q1' := hid_same _ _ q1
        exact ⟨a, _, dx, fs, y, rfl, q1', hc, hn, l, k y H1 hl1 (rr.add ry).mid1⟩
      · cases q
      · cases q
    · cases e3
  | _ => cases e3
end
section
variable {C : Cd} {N : List Str} {sc : Sk} {lk : List Nat} {pos p p' p2 p3 : Pos}
theorem rk_nm (i : Nat) {x : Str} (hv : visB N sc i x = true := by decide +kernel) : RK C N sc (.Name x p) (k_nm i) :=
  ⟨_, fun X g => pe_var (g.vis hv).1 (g.vis hv).2 (okName_d (visB_ok hv).2.2).1 (okName_d (visB_ok hv).2.2).2.1, rpu_nm⟩
theorem rk_ix (i : Nat) {x : Str} {m : Int} {j} (hv : visB N sc i x = true := by decide +kernel) : RK C N sc (.Subscript (.Name x p) (.Constant (.int m) j p2) pos) (k_ix i m) :=
  ⟨tOp (rIx C.K) (tVar i) (tC (.int m)), fun X g => by
    have q := pe_ix (X := X) ix_seq (pe_var (pos := p) (g.vis hv).1 (g.vis hv).2 (okName_d (visB_ok hv).2.2).1 (okName_d (visB_ok hv).2.2).2.1) (pe_int (X := X) (i := m) (j := j) (pos := p2)) (fun _ _ => rfl) (pos := pos)
    rw [g.K] at q
    exact q, rpu_ix⟩
theorem rs_fdput (i : Nat) {x f : Str} (cl : Str) {e ix : Expr} {me : ME} {pk : List O → Option D} (hc : Cls C.K (He.ga C.K cl)) (hn : NoAttr C.K (He.ga C.K cl) f) (h1 : RE C N sc e me) (h2 : RK C N sc ix pk) (hv : visB N sc i x = true := by decide +kernel)
    (hb : ∀ env : Env, attributeBase (.Name x p) f env (eval (.Name x p) env) = eval (.Name x p) env := by intro _; rfl)
    (hs : ∀ env : Env, swapsWith e (some (.Subscript (.Attribute (.Name x p) f p2) ix p')) pos.line env = pure false := by intro _; rfl) : RS C N sc lk (.Assign [.Subscript (.Attribute (.Name x p) f p2) ix p'] e pos) (s_fdput i cl f me pk) := by
  obtain ⟨t, a1, a2⟩ := h1
  obtain ⟨u, b1, b2⟩ := h2
  refine ⟨sDPut (tFld C.K (tVar i) f) u t, fun X g _ => ?_, rfs_fdput a2 b2 hc hn⟩
  have q := ps_dput g.unit1 (pe_fld (pe_var (pos := p) (g.vis hv).1 (g.vis hv).2 (okName_d (visB_ok hv).2.2).1 (okName_d (visB_ok hv).2.2).2.1) (hb _) (pos := p2)) (b1 X g) (a1 X g) (pos := pos) (pos' := p') (hs _)
  rw [g.K] at q
  exact q
theorem re_fob (i : Nat) {x f : Str} (cl : Str) (hc : Cls C.K (He.ga C.K cl)) (hn : NoAttr C.K (He.ga C.K cl) f) (hv : visB N sc i x = true := by decide +kernel)
    (hb : ∀ env : Env, attributeBase (.Name x p) f env (eval (.Name x p) env) = eval (.Name x p) env := by intro _; rfl) : RE C N sc (.Attribute (.Name x p) f pos) (m_fob i cl f) :=
  ⟨tFld C.K (tVar i) f, fun X g => by
    have q := pe_fld (pe_var (pos := p) (g.vis hv).1 (g.vis hv).2 (okName_d (visB_ok hv).2.2).1 (okName_d (visB_ok hv).2.2).2.1) (hb _) (pos := pos)
    rw [g.K] at q
    exact q, rf_fob hc hn⟩
theorem re_fldV {e : Expr} {f : Str} (cl : Str) {m : MP} (hc : Cls C.K (He.ga C.K cl)) (hn : NoAttr C.K (He.ga C.K cl) f) (h : RP C N sc e m)
    (hb : ∀ env : Env, attributeBase e f env (eval e env) = eval e env := by intro _; rfl) : RE C N sc (.Attribute e f pos) (m_op1 (propD cl f) m) := by
  obtain ⟨t, a1, a2⟩ := h
  refine ⟨tFld C.K t f, fun X g => ?_, rf_fldV a2 hc hn⟩
  have q := pe_fld (a1 X g) (hb _) (pos := pos)
  rw [g.K] at q
  exact q
end
end Mr

end
section
set_option Elab.async false
set_option linter.all false
set_option maxRecDepth 100000
set_option maxHeartbeats 4000000
/-! MrU: instances made, methods called; enumerate over a list or a tuple. -/
noncomputable section
namespace Mr
open PySem PySem.Spec PyProof.Rows L2
/-! ### enumerate -/
def i_enumA (m : ME) : MI := fun ρ => (m ρ).bind fun a => (toD a.1).bind fun d => match d with
  | .lst es => some (enumD es, a.2)
  | .tup es => some (enumD es, a.2)
  | _ => none
section
variable {K : PySem.W.Frag}
theorem rfi_enumA {t : TE} {m : ME} (h : Rf K t m) : Rfi K (fun σ H R => iEnum K (tCons t tNil) σ H R ∨ iEnumT K (tCons t tNil) σ H R) (i_enumA m) := by
  intro c τ ρ σ H R ds ρ' hl r e k
  unfold i_enumA at e
  obtain ⟨⟨o, ρ1⟩, e1, e⟩ := Option.bind_eq_some_iff.mp e
  obtain ⟨d, e2, e⟩ := Option.bind_eq_some_iff.mp e
  cases d with
  | lst es =>
    cases e
    exact .inl (rfi_enum h c τ ρ σ H R (enumD es) ρ1 hl r (by unfold i_enum; rw [e1]; simp only [Option.bind_some]; rw [e2]; rfl) k)
  | tup es =>
    cases e
    refine .inr (h c τ ρ σ H _ o _ hl r e1 fun x H' hl' r' => ?_)
    have r'' := r'.toD e2
    obtain ⟨a, F, xs, rfl, rr, q1, q2⟩ := r''.tupv
    refine ⟨a, xs, rfl, q1, k _ H' [(.v (.tup es), some (.ref a))] hl' r'' fun i cs H2 r2 => ?_⟩
    obtain ⟨a2, F2, xs2, ea, rr2, p1, p2⟩ := Rel.tupv (show Rel K c ((.v (.tup es), some (.ref a)) :: cs) H2 from r2)
    cases ea
    have hlen : xs2.length = xs.length := by rw [← p2.length, q2.length]
    refine ⟨fun d' hd => ?_, fun hi => ?_⟩
    · obtain ⟨e', he, rfl⟩ := enumD_get hd
      obtain ⟨v, hv, rv⟩ := p2.get he
      refine ⟨⟨xs2, v, p1, hlen, hv⟩, fun x H3 y => ?_⟩
      obtain ⟨T, w, rfl, hT, rfl, y⟩ := y
      have ev : v = w := Option.some.inj (hv.symm.trans (y xs2 p1))
      subst ev
      exact rr2.res (res := .nt [.int (i : Int), e']) ⟨T, _, rfl, hT, rfl, ⟨_, _, rfl, rfl, _, _, rfl, rv, rfl⟩⟩
    · refine ⟨xs2, p1, hlen, ?_⟩
      rw [hi, enumD_length, q2.length]
      exact Nat.le_refl _
  | _ => cases e
end
section
variable {C : Cd} {N : List Str} {sc : Sk} {pos : Pos} {p apos : Pos}
theorem ri_enumA {e : Expr} {elts : List Expr} {kk : Nat} {tpos : Pos} {m : ME} (hm : C.mg "enumerate" = none) (h : RE C N sc e m) (hg : gloB sc "enumerate" = true := by decide +kernel) (hs : ∀ env : Env, starEach [e] env = [(false, eval e env)] := by intro _; rfl) : RI C N sc (.Tuple elts kk tpos) (.Call (.Name "enumerate" p) [e] [] pos) (i_enumA m) :=
  let ⟨t, a1, a2⟩ := h
  ⟨_, fun X g => by
    have q := pi_enum (g.gl hg) (by rw [g.mg]; exact hm) (pa_cons (a1 X g) pa_nil (hs _)) (hs _) (p := p) (pos := pos) (tpos := tpos) (elts := elts) (kk := kk)
    have q2 := pi_enumT (g.gl hg) (by rw [g.mg]; exact hm) (pa_cons (a1 X g) pa_nil (hs _)) (hs _) (p := p) (pos := pos) (tpos := tpos) (elts := elts) (kk := kk)
    rw [g.K] at q q2
    exact PI.or q q2, rfi_enumA a2⟩
end
/-! ### C(..) -/
/-- a new instance, frozen behind its __init__ -/
def m_make (cl : Str) (g : List O → Option (O × List O)) (ma : MA) : ME := fun ρ => (ma ρ).bind fun a => (tk a.1 a.2).bind fun b => (g (.g (.ins cl []) [] :: b.1)).bind fun r => match r.1, r.2 with
  | .v .non, s :: outs => (toD s).map fun d => (.v d, bk a.1 outs b.2)
  | _, _ => none
structure Mkc (P : Program) (w : World) (K : PySem.W.Frag) (mg : Str → Option Value) (base : Heap) (k : Nat) (cl : Str) (n : Nat) (g : List O → Option (O × List O)) : Prop where
  ex : ∃ (f : Addr) (fd : FuncData) (ps : List Str), ps.length = n + 1 ∧ FnOk P w K mg base CX0 k f fd ps (spM K (n + 1) g) ∧ Mk K (He.ga K cl) f ∧ mg cl = some (.ref (He.ga K cl)) ∧ Binds K fd ps []
theorem pvals_len {σ : L2.St} : ∀ {ps : List Pr} {xs : List V}, pvals ps σ xs → ps.length = xs.length := by
  intro ps
  induction ps with
  | nil => intro xs h; cases h; rfl
  | cons p ps ih => intro xs ⟨x, r, ex, _, h⟩; rw [ex, List.length_cons, List.length_cons, ih h]
theorem rf_make {K : PySem.W.Frag} {n : Nat} {cl : Str} {g : List O → Option (O × List O)} {ta : TA} {ma : MA} {E : XK} (ha : Rfa K ta ma) (hn : ∀ ρ ps ρ', ma ρ = some (ps, ρ') → ps.length = n) : Rf K (tMake (He.ga K cl) (spM K (n + 1) g) [] E ta) (m_make cl g ma) := by
  intro c τ ρ σ H Q o ρ' hl rl e k
  unfold m_make at e
  obtain ⟨⟨ps, ρ1⟩, e1, e⟩ := Option.bind_eq_some_iff.mp e
  obtain ⟨⟨os, ρ2⟩, e2, e⟩ := Option.bind_eq_some_iff.mp e
  obtain ⟨⟨r, outs0⟩, e3, e⟩ := Option.bind_eq_some_iff.mp e
  simp only at e
  split at e
  · rename_i s outs
    obtain ⟨d, e4, e⟩ := Option.map_eq_some_iff.mp e
    cases e
    refine ha c τ ρ σ H _ ps ρ1 hl rl e1 fun xs H1 hl1 pv1 r1 x dx hx hdx hne => ?_
    obtain ⟨a, b, l⟩ := tk_ok hl1 pv1 r1 e2
    obtain ⟨F, rr⟩ := a
    obtain ⟨rr2, _, _⟩ := rr.newH (o := .own x) hdx
    have hx2 : upd H1 dx (.own x) x = none := by rw [upd_ne (Ne.symm hne)]; exact hx
    obtain ⟨F', rr3⟩ := rr2.newG (k := .ins cl []) (u := .ins (He.ga K cl) dx []) hx2 ⟨dx, [], upd_same, Nat.le_refl _, rfl, fun _ _ => rfl⟩
    have rr4 : RelAt K c F' ((((.g (.ins cl []) [], some (.ref x)) : O × Option V) :: os.zip (xs.map some)) ++ (τ ++ ρ2.zip σ)) _ := rr3
    obtain ⟨F1, F2, s1, s2, rfl⟩ := rr4.rc.split
    have ln : os.length = n := by
      have h1 := hn _ _ _ e1
      rw [l, ← pvals_len pv1]; exact h1
    have en := Rel.enter rr4 s1
    have hxl : xs.length = n := by rw [← l]; exact ln
    refine ⟨by rw [List.append_nil, List.length_cons, hxl], _, F1, .g (.ins cl []) [] :: os, .v .non, s :: outs, by rw [List.length_cons, ln], by rw [List.append_nil]; exact en, e3, fun v H' q => ?_⟩
    rw [List.append_nil] at q
    have lv := Rel.leave rr4 s2 q
    have lv' : Rel K c ((.v .non, some v) :: (s, some (.ref x)) :: (outs.zip (xs.map some) ++ (τ ++ ρ2.zip σ))) H' := lv
    obtain ⟨_, y, _, ey, qy⟩ := lv'.val List.mem_cons_self
    cases ey
    have hv : v = .non := qy
    refine ⟨hv, ?_⟩
    have lv2 : Rel K c (outs.zip (xs.map some) ++ (((.v d, some (.ref x)) :: τ) ++ ρ2.zip σ)) H' := (lv'.drop.toD e4).perm List.perm_middle.symm
    obtain ⟨q1, q2⟩ := bk_ok b pv1 lv2
    exact k (.ref x) H' q2 q1
  · cases e
/-! ### o.m(..), o frozen -/
/-- a method of the class cl: the instance goes first -/
def m_meth (cl m : Str) (g : List O → Option (O × List O)) (mo : MP) (ma : MA) : ME := fun ρ => (mo ρ).bind fun p => match vw p.2 p.1 with
  | some (.ins c ns ds) => if c = cl ∧ m ∉ ns then (ma p.2).bind fun a => (tk a.1 a.2).bind fun b => (g (.v (.ins c ns ds) :: b.1)).bind fun r => match r.2 with
    | _ :: outs => some (r.1, bk a.1 outs b.2)
    | _ => none
    else none
  | _ => none
structure Mth (P : Program) (w : World) (K : PySem.W.Frag) (mg : Str → Option Value) (base : Heap) (k : Nat) (cl m : Str) (n : Nat) (g : List O → Option (O × List O)) : Prop where
  ex : ∃ (f : Addr) (fd : FuncData) (ps : List Str), ps.length = n + 1 ∧ FnOk P w K mg base CX0 k f fd ps (spM K (n + 1) g) ∧ Meth K (He.ga K cl) m f ∧ Binds K fd ps []
  cls : Cls K (He.ga K cl)
theorem rf_meth {K : PySem.W.Frag} {n : Nat} {cl m : Str} {g : List O → Option (O × List O)} {to : TE} {ta : TA} {mo : MP} {ma : MA} {E : XK} (ho : Rfp K to mo) (ha : Rfa K ta ma) (hn : ∀ ρ ps ρ', ma ρ = some (ps, ρ') → ps.length = n) : Rf K (tMeth (He.ga K cl) m (spM K (n + 1) g) [] E to ta) (m_meth cl m g mo ma) := by
  intro c τ ρ σ H Q o ρ' hl rl e k
  unfold m_meth at e
  obtain ⟨⟨p, ρ0⟩, e0, e⟩ := Option.bind_eq_some_iff.mp e
  simp only at e
  split at e
  · rename_i c' ns ds hv
    split at e
    · rename_i hc
      obtain ⟨⟨ps, ρ1⟩, e1, e⟩ := Option.bind_eq_some_iff.mp e
      obtain ⟨⟨os, ρ2⟩, e2, e⟩ := Option.bind_eq_some_iff.mp e
      obtain ⟨⟨r, outs0⟩, e3, e⟩ := Option.bind_eq_some_iff.mp e
      simp only at e
      split at e
      · rename_i s outs
        cases e
        obtain ⟨hc1, hc2⟩ := hc
        refine ho c τ ρ σ H _ p ρ0 hl rl e0 fun x H1 hl1 pv r1 => ?_
        obtain ⟨o1, x1, x2⟩ := vw_mem hv pv
        have hm : (o1, some x) ∈ kap p x ++ (τ ++ ρ0.zip σ) := by
          rcases x2 with z | z
          · exact List.mem_append_left _ z
          · exact List.mem_append_right _ (List.mem_append_right _ z)
        obtain ⟨F, rr⟩ := id r1
        have vv := rr.vw hm x1
        rcases vv with vv | ⟨_, _, _, q, _⟩ | ⟨_, _, _, _, q, _⟩
        · obtain ⟨a, dx, fs, xs, rfl, q1, q2, q3, q4⟩ := id vv
          refine ⟨a, dx, fs, rfl, by rw [← hc1]; exact hid_same _ _ q1, q3 m hc2, ?_⟩
          have r2 : Rel K c (((.v (.ins c' ns ds), some (.ref a)) :: τ) ++ ρ0.zip σ) H1 := (rr.add vv).mid1
          refine ha c _ ρ0 σ H1 _ ps ρ1 hl1 r2 e1 fun xs2 H2 hl2 pv2 r3 => ?_
          obtain ⟨aa, b, l⟩ := tk_ok hl2 pv2 r3 e2
          have aa2 : Rel K c (((.v (.ins c' ns ds), some (.ref a)) :: os.zip (xs2.map some)) ++ (τ ++ ρ2.zip σ)) H2 := by
            refine aa.perm ?_
            rw [List.cons_append, List.cons_append]
            exact List.perm_middle
          obtain ⟨F', rr4⟩ := aa2
          obtain ⟨F1, F2, s1, s2, rfl⟩ := rr4.rc.split
          have ln : os.length = n := by
            have h1 := hn _ _ _ e1
            rw [l, ← pvals_len pv2]; exact h1
          have en := Rel.enter rr4 s1
          have hxl : xs2.length = n := by rw [← l]; exact ln
          refine ⟨by rw [List.append_nil, List.length_cons, hxl], _, F1, .v (.ins c' ns ds) :: os, o, s :: outs, by rw [List.length_cons, ln], by rw [List.append_nil]; exact en, e3, fun v H' q => ?_⟩
          rw [List.append_nil] at q
          have lv := Rel.leave rr4 s2 q
          have lv' : Rel K c ((o, some v) :: (s, some (.ref a)) :: (outs.zip (xs2.map some) ++ (τ ++ ρ2.zip σ))) H' := lv
          have lv2 : Rel K c (outs.zip (xs2.map some) ++ (((o, some v) :: τ) ++ ρ2.zip σ)) H' := (lv'.perm (.swap _ _ _)).drop.perm List.perm_middle.symm
          obtain ⟨q1, q2⟩ := bk_ok b pv2 lv2
          exact k v H' q2 q1
        · cases q
        · cases q
      · cases e
    · cases e
  · cases e
section
variable {C : Cd} {N : List Str} {sc : Sk} {pos p apos : Pos}
theorem re_make {j n : Nat} {x : Str} {g : List O → Option (O × List O)} {e : Expr} {es : List Expr} {ma : MA} (hf : Mkc C.P C.w C.K C.mg C.base j x n g) (hj : j + 1 ≤ C.k) (ha : RA C N sc (e :: es) ma) (hn : ALen ma n) (hg : gloB sc x = true := by decide +kernel)
    (he : ∀ env : Env, starEach (e :: es) env = (false, eval e env) :: starEach es env := by intro _; rfl) (hpl : ∀ env : Env, (backTo pos (starEach es env)).any (·.1) = false := by intro _; rfl) :
    RE C N sc (.Call (.Name x p) (e :: es) [] pos) (m_make x g ma) := by
  obtain ⟨f, fd, ps, hps, F, M, hm, hb⟩ := hf.ex
  obtain ⟨t, a1, a2⟩ := ha
  refine ⟨tMake (He.ga C.K x) (spM C.K (n + 1) g) [] E0 t, fun X gd => ?_, rf_make a2 hn.ok⟩
  have q := pe_make (X := X) (E := E0) (by rw [gd.K]; exact M) (by rw [gd.prog, gd.w, gd.K, gd.mg, gd.base]; exact F) (gd.room.mono hj) (gd.gl hg) (by rw [gd.mg]; exact hm) (by rw [gd.K]; exact hb) .nil pass0 (a1 X gd) (okName_d (gloB_ok hg).2).1 (he _) (hpl _) (p := p) (pos := pos)
  exact q
theorem re_meth {j n : Nat} {cl m : Str} {g : List O → Option (O × List O)} {o e : Expr} {es : List Expr} {mo : MP} {ma : MA} {pl : Sem Bool} (hf : Mth C.P C.w C.K C.mg C.base j cl m n g) (hj : j ≤ C.k) (ho : RP C N sc o mo) (ha : RA C N sc (e :: es) ma) (hn : ALen ma n)
    (hst : ∀ env : Env, starEach (e :: es) env = (false, eval e env) :: starEach es env := by intro _; rfl) (hpl : ∀ env : Env, (backTo pos (starEach es env)).any (·.1) = false := by intro _; rfl)
    (ht : ∀ env : Env, eval (.Call (.Attribute o m apos) (e :: es) [] pos) env = (do
      let ov ← eval o env
      standAt apos.atName
      let (f, first) ← holding [ov] (getMethod ov m pl)
      callWith pos f first (backTo pos (starEach (e :: es) env)) (backToKw pos (keywordEach [] env))) := by intro _; rfl) :
    RE C N sc (.Call (.Attribute o m apos) (e :: es) [] pos) (m_meth cl m g mo ma) := by
  obtain ⟨⟨f, fd, ps, hps, F, M, hb⟩, hc⟩ := hf
  obtain ⟨t, a1, a2⟩ := ha
  obtain ⟨u, b1, b2⟩ := ho
  refine ⟨tMeth (He.ga C.K cl) m (spM C.K (n + 1) g) [] E0 u t, fun X gd => ?_, rf_meth b2 a2 hn.ok⟩
  exact pe_meth (X := X) (E := E0) (b1 X gd) (by rw [gd.K]; exact hc) (by rw [gd.K]; exact M) (by rw [gd.prog, gd.w, gd.K, gd.mg, gd.base]; exact F) (gd.room.mono hj) (by rw [gd.K]; exact hb) .nil pass0 (a1 X gd) (hst _) (hpl _) (ht _)
theorem re_meth0 {j : Nat} {cl m : Str} {g : List O → Option (O × List O)} {o : Expr} {mo : MP} {pl : Sem Bool} (hf : Mth C.P C.w C.K C.mg C.base j cl m 0 g) (hj : j ≤ C.k) (ho : RP C N sc o mo)
    (ht : ∀ env : Env, eval (.Call (.Attribute o m apos) [] [] pos) env = (do
      let ov ← eval o env
      standAt apos.atName
      let (f, first) ← holding [ov] (getMethod ov m pl)
      callWith pos f first (backTo pos (starEach [] env)) (backToKw pos (keywordEach [] env))) := by intro _; rfl) :
    RE C N sc (.Call (.Attribute o m apos) [] [] pos) (m_meth cl m g mo a_nil) := by
  obtain ⟨⟨f, fd, ps, hps, F, M, hb⟩, hc⟩ := hf
  obtain ⟨u, b1, b2⟩ := ho
  refine ⟨tMeth (He.ga C.K cl) m (spM C.K 1 g) [] E0 u tNil, fun X gd => ?_, rf_meth b2 rfa_nil ALen.nil.ok⟩
  exact pe_meth0 (X := X) (E := E0) (b1 X gd) (by rw [gd.K]; exact hc) (by rw [gd.K]; exact M) (by rw [gd.prog, gd.w, gd.K, gd.mg, gd.base]; exact F) (gd.room.mono hj) (by rw [gd.K]; exact hb) .nil pass0 (ht _)
end
end Mr

end
section
set_option Elab.async false
set_option linter.all false
set_option maxRecDepth 100000
set_option maxHeartbeats 4000000
/-! MrV: properties by their getters' mirrors; the head's facts for classes. -/
noncomputable section
namespace Mr
open PySem PySem.Spec PyProof.Rows L2
/-- e.f, a property of the class cl, its getter's mirror g -/
def m_prop (cl : Str) (g : List O → Option (O × List O)) (mo : MP) : ME := fun ρ => (mo ρ).bind fun p => match vw p.2 p.1 with
  | some (.ins c ns ds) => if c = cl then (g [.v (.ins c ns ds)]).map fun r => (r.1, p.2) else none
  | _ => none
structure Prq (P : Program) (w : World) (K : PySem.W.Frag) (mg : Str → Option Value) (base : Heap) (k : Nat) (cl f : Str) (g : List O → Option (O × List O)) : Prop where
  ex : ∃ (p a : Addr) (fd : FuncData) (ps : List Str), ps.length = 1 ∧ PropOf K (He.ga K cl) f p a ∧ FnOk P w K mg base CX0 k a fd ps (spM K 1 g) ∧ Binds K fd ps []
  cls : Cls K (He.ga K cl)
theorem rf_propM {K : PySem.W.Frag} {cl : Str} {g : List O → Option (O × List O)} {to : TE} {mo : MP} {E : XK} (ho : Rfp K to mo) : Rf K (tProp (He.ga K cl) (spM K 1 g) [] E to) (m_prop cl g mo) := by
  intro c τ ρ σ H Q o ρ' hl rl e k
  unfold m_prop at e
  obtain ⟨⟨p, ρ0⟩, e0, e⟩ := Option.bind_eq_some_iff.mp e
  simp only at e
  split at e
  · rename_i c' ns ds hv
    split at e
    · rename_i hc
      obtain ⟨⟨r, outs⟩, e3, e⟩ := Option.map_eq_some_iff.mp e
      cases e
      refine ho c τ ρ σ H _ p _ hl rl e0 fun x H1 hl1 pv r1 => ?_
      obtain ⟨o1, x1, x2⟩ := vw_mem hv pv
      have hm : (o1, some x) ∈ kap p x ++ (τ ++ ρ'.zip σ) := by
        rcases x2 with z | z
        · exact List.mem_append_left _ z
        · exact List.mem_append_right _ (List.mem_append_right _ z)
      obtain ⟨F, rr⟩ := id r1
      have vv := rr.vw hm x1
      rcases vv with vv | ⟨_, _, _, q, _⟩ | ⟨_, _, _, _, q, _⟩
      · obtain ⟨a, dx, fs, xs, rfl, q1, q2, q3, q4⟩ := id vv
        refine ⟨a, dx, fs, rfl, by rw [← hc]; exact hid_same _ _ q1, ?_⟩
        obtain ⟨F', rr4⟩ : Rel K c (([(.v (.ins c' ns ds), some (.ref a))] : Cells) ++ (τ ++ ρ'.zip σ)) H1 := (rr.add vv).mid1
        obtain ⟨F1, F2, s1, s2, rfl⟩ := rr4.rc.split
        have en := Rel.enter rr4 s1
        refine ⟨rfl, _, F1, [.v (.ins c' ns ds)], r, outs, rfl, en, e3, fun v H' q => ?_⟩
        have lv := Rel.leave rr4 s2 q
        have lv' : Rel K c ((r, some v) :: (outs.zip [some (.ref a)] ++ (τ ++ ρ'.zip σ))) H' := lv
        exact k v H' hl1 lv'.mid1
      · cases q
      · cases q
    · cases e
  · cases e
section
variable {C : Cd} {N : List Str} {sc : Sk} {pos : Pos}
theorem re_propM {j : Nat} {e : Expr} {cl f : Str} {g : List O → Option (O × List O)} {m : MP} (hp : Prq C.P C.w C.K C.mg C.base j cl f g) (hj : j + 1 ≤ C.k) (h : RP C N sc e m) (hab : ∀ env : Env, attributeBase e f env (eval e env) = eval e env := by intro _; rfl) :
    RE C N sc (.Attribute e f pos) (m_prop cl g m) := by
  obtain ⟨t, a1, a2⟩ := h
  obtain ⟨⟨p, a, fd, ps, hps, q1, q2, q3⟩, q4⟩ := hp
  refine ⟨_, fun X gd => ?_, rf_propM (E := E0) a2⟩
  exact pe_prop (a1 X gd) (by rw [gd.K]; exact q4) (by rw [gd.K]; exact q1) (by rw [gd.prog, gd.w, gd.K, gd.mg, gd.base]; exact q2) (gd.room.mono hj) (by rw [gd.K]; exact q3) .nil pass0 (hab _)
end
section
variable {P : Program} {w : World} {K : PySem.W.Frag} {mg : Str → Option Value} {base : Heap}
theorem Mkc.mk' {cl : Str} {k n : Nat} {g : List O → Option (O × List O)} {f : Addr} {fd : FuncData} {ps : List Str} (hn : ps.length = n + 1) (F : FnOk P w K mg base CX0 k f fd ps (spM K (n + 1) g)) (M : Mk K (He.ga K cl) f) (hm : mg cl = some (.ref (He.ga K cl))) (hb : Binds K fd ps []) : Mkc P w K mg base k cl n g := ⟨⟨f, fd, ps, hn, F, M, hm, hb⟩⟩
theorem Mth.mk' {cl m : Str} {k n : Nat} {g : List O → Option (O × List O)} {f : Addr} {fd : FuncData} {ps : List Str} (hn : ps.length = n + 1) (F : FnOk P w K mg base CX0 k f fd ps (spM K (n + 1) g)) (M : Meth K (He.ga K cl) m f) (hb : Binds K fd ps []) (hc : Cls K (He.ga K cl)) : Mth P w K mg base k cl m n g := ⟨⟨f, fd, ps, hn, F, M, hb⟩, hc⟩
theorem Prq.mk' {cl f : Str} {k : Nat} {g : List O → Option (O × List O)} {p a : Addr} {fd : FuncData} {ps : List Str} (hn : ps.length = 1) (F : FnOk P w K mg base CX0 k a fd ps (spM K 1 g)) (M : PropOf K (He.ga K cl) f p a) (hb : Binds K fd ps []) (hc : Cls K (He.ga K cl)) : Prq P w K mg base k cl f g := ⟨⟨p, a, fd, ps, hn, M, F, hb⟩, hc⟩
end
end Mr

end
section
set_option Elab.async false
set_option linter.all false
set_option maxRecDepth 100000
set_option maxHeartbeats 4000000
/-! MrTa: trees, in plain Lean. -/
namespace Mr
open PySem PySem.Spec L2
inductive Mk where
  | a (w : Str) | h (i : Int) | k (w : Str) | b | o (n : Nat) | c (f : Str)
  deriving DecidableEq
inductive T where
  | mk (m : Mk) (ts : List T)
def Mk.s : Mk → Str
  | .a _ => Str.ofString "a" | .h _ => Str.ofString "h" | .k _ => Str.ofString "k" | .b => Str.ofString "b" | .o _ => Str.ofString "o" | .c _ => Str.ofString "c"
/-- the items behind the mark -/
def Mk.d (ds : List D) : Mk → List D
  | .a w => [.str w] | .h i => [.int i] | .k w => [.str w] | .b => ds | .o n => [.int n, .tup ds] | .c f => [.str f, .tup ds]
namespace T
def m : T → Mk | .mk m _ => m
def ts : T → List T | .mk _ ts => ts
mutual
def enc : T → D
  | .mk m ts => .tup (.str m.s :: m.d (encs ts))
def encs : List T → List D
  | [] => []
  | t :: ts => enc t :: encs ts
end
theorem encs_map : ∀ ts : List T, encs ts = ts.map enc
  | [] => rfl
  | t :: ts => by rw [encs, encs_map ts, List.map_cons]
/-- how many parts a node of this sort has; ar: those of an operator -/
def okM (ar : Nat → Option Nat) (m : Mk) (l : Nat) : Prop := match m with
  | .a _ => l = 0 | .h _ => l = 0 | .k _ => l = 0 | .b => l = 1 | .o n => ar n = some l | .c _ => True
mutual
def Ok (ar : Nat → Option Nat) : T → Prop
  | .mk m ts => okM ar m ts.length ∧ Oks ar ts
def Oks (ar : Nat → Option Nat) : List T → Prop
  | [] => True
  | t :: ts => Ok ar t ∧ Oks ar ts
end
theorem Oks_iff {ar : Nat → Option Nat} : ∀ {ts : List T}, Oks ar ts ↔ ∀ t ∈ ts, Ok ar t
  | [] => by simp [Oks]
  | t :: ts => by rw [Oks, Oks_iff]; simp
mutual
def sz : T → Nat
  | .mk _ ts => 1 + szs ts
def szs : List T → Nat
  | [] => 0
  | t :: ts => sz t + szs ts
end
theorem szs_app : ∀ (a b : List T), szs (a ++ b) = szs a + szs b
  | [], b => by simp [szs]
  | t :: a, b => by rw [List.cons_append, szs, szs, szs_app a b]; omega
theorem sz_pos (t : T) : 1 ≤ sz t := by cases t; simp [sz]
theorem sz_mem {t : T} : ∀ {ts : List T}, t ∈ ts → sz t ≤ szs ts
  | u :: ts, h => by
    rw [szs]
    rcases List.mem_cons.mp h with h | h
    · rw [h]; omega
    · have := sz_mem h; omega
theorem len_szs : ∀ ts : List T, ts.length ≤ szs ts
  | [] => by simp
  | t :: ts => by have := len_szs ts; have := sz_pos t; simp [szs]; omega
mutual
/-- the nodes in preorder -/
def pre : T → List T
  | .mk m ts => .mk m ts :: pres ts
def pres : List T → List T
  | [] => []
  | t :: ts => pre t ++ pres ts
end
theorem pre_eq (t : T) : pre t = t :: pres t.ts := by cases t; rfl
theorem pres_app : ∀ (a b : List T), pres (a ++ b) = pres a ++ pres b
  | [], b => by simp [pres]
  | t :: a, b => by rw [List.cons_append, pres, pres, pres_app a b, List.append_assoc]
mutual
theorem pre_len : ∀ t : T, (pre t).length = sz t
  | .mk m ts => by rw [pre, List.length_cons, pres_len ts, sz]; omega
theorem pres_len : ∀ ts : List T, (pres ts).length = szs ts
  | [] => rfl
  | t :: ts => by rw [pres, List.length_append, pre_len t, pres_len ts, szs]
end
mutual
theorem pre_ok {ar : Nat → Option Nat} : ∀ {t : T}, Ok ar t → ∀ u ∈ pre t, Ok ar u
  | .mk m ts, h, u, hu => by
    rw [pre] at hu
    rcases List.mem_cons.mp hu with e | hu
    · rw [e]; exact h
    · rw [Ok] at h; exact pres_ok h.2 u hu
theorem pres_ok {ar : Nat → Option Nat} : ∀ {ts : List T}, Oks ar ts → ∀ u ∈ pres ts, Ok ar u
  | [], _, u, hu => by simp [pres] at hu
  | t :: ts, h, u, hu => by
    rw [pres] at hu
    rw [Oks] at h
    rcases List.mem_append.mp hu with hu | hu
    · exact pre_ok h.1 u hu
    · exact pres_ok h.2 u hu
end
theorem Ok.ts {ar : Nat → Option Nat} {t : T} (h : Ok ar t) : ∀ u ∈ t.ts, Ok ar u := by cases t; rw [Ok] at h; exact Oks_iff.mp h.2
/-- behind a node in preorder stand its own nodes -/
def PreL (N : List T) : Prop := ∀ (k : Nat) (u : T), N[k]? = some u → ∃ r, N.drop k = pre u ++ r
mutual
theorem pre_L : ∀ t : T, PreL (pre t)
  | .mk m ts, 0, u, h => by
    have e : T.mk m ts = u := by simpa [pre] using h
    exact ⟨[], by rw [← e]; simp⟩
  | .mk m ts, k + 1, u, h => by
    rw [pre] at h ⊢
    obtain ⟨r, e⟩ := pres_L ts k u (by simpa using h)
    exact ⟨r, by simpa using e⟩
theorem pres_L : ∀ ts : List T, PreL (pres ts)
  | [], k, u, h => by simp [pres] at h
  | t :: ts, k, u, h => by
    rw [pres] at h ⊢
    by_cases hk : k < (pre t).length
    · rw [List.getElem?_append_left hk] at h
      obtain ⟨r, e⟩ := pre_L t k u h
      exact ⟨r ++ pres ts, by rw [List.drop_append_of_le_length (by omega), e, List.append_assoc]⟩
    · rw [List.getElem?_append_right (by omega)] at h
      obtain ⟨r, e⟩ := pres_L ts _ u h
      exact ⟨r, by rw [List.drop_append, List.drop_eq_nil_of_le (by omega), List.nil_append, e]⟩
end
/-- the places of the parts, the first at p -/
def offs : Nat → List T → List Nat
  | _, [] => []
  | p, t :: ts => p :: offs (p + sz t) ts
theorem offs_len : ∀ (p : Nat) (ts : List T), (offs p ts).length = ts.length
  | _, [] => rfl
  | p, t :: ts => by rw [offs, List.length_cons, offs_len, List.length_cons]
theorem offs_app : ∀ (p : Nat) (a b : List T), offs p (a ++ b) = offs p a ++ offs (p + szs a) b
  | p, [], b => by simp [offs, szs]
  | p, t :: a, b => by rw [List.cons_append, offs, offs_app, offs, szs, Nat.add_assoc, List.cons_append]
theorem offs_ge : ∀ {p q : Nat} {ts : List T}, q ∈ offs p ts → p ≤ q ∧ q < p + szs ts
  | p, q, [], h => by simp [offs] at h
  | p, q, t :: ts, h => by
    rw [offs] at h
    rw [szs]
    have := sz_pos t
    rcases List.mem_cons.mp h with e | h
    · omega
    · have := offs_ge h; omega
/-- the parts of a node stand at these places -/
theorem offs_at {N : List T} {p : Nat} : ∀ {ts : List T} {r : List T}, N.drop p = pres ts ++ r → ∀ (j q : Nat) (u : T), (offs p ts)[j]? = some q → ts[j]? = some u → N[q]? = some u := by
  intro ts
  induction ts generalizing p with
  | nil => intro r _ j q u h; simp [offs] at h
  | cons t ts ih =>
    intro r h j q u hq hu
    rw [pres] at h
    cases j with
    | zero =>
      simp only [offs, List.getElem?_cons_zero, Option.some.injEq] at hq hu
      subst hq hu
      have e : (N.drop p)[0]? = some t := by
        rw [h, pre_eq]; simp
      rw [List.getElem?_drop] at e
      simpa using e
    | succ j =>
      simp only [offs, List.getElem?_cons_succ] at hq hu
      refine ih (p := p + sz t) (r := r) ?_ j q u hq hu
      rw [← List.drop_drop, h, List.append_assoc, ← pre_len t, List.drop_left]
/-- the list of the places of the parts, for each node -/
def kids (N : List T) : List (List Nat) := N.mapIdx fun k u => offs (k + 1) u.ts
theorem kids_len (N : List T) : (kids N).length = N.length := by unfold kids; rw [List.length_mapIdx]
theorem kids_get {N : List T} {k : Nat} {u : T} (h : N[k]? = some u) : (kids N)[k]? = some (offs (k + 1) u.ts) := by
  unfold kids; rw [List.getElem?_mapIdx, h]; rfl
theorem drop_succ {N : List T} (hN : PreL N) {k : Nat} {u : T} (h : N[k]? = some u) : ∃ r, N.drop (k + 1) = pres u.ts ++ r := by
  obtain ⟨r, e⟩ := hN k u h
  refine ⟨r, ?_⟩
  rw [← List.drop_drop, e, pre_eq]
  rfl
theorem kid_at {N : List T} (hN : PreL N) {k j q : Nat} {u v : T} (h : N[k]? = some u) (hq : (offs (k + 1) u.ts)[j]? = some q) (hv : u.ts[j]? = some v) : N[q]? = some v := by
  obtain ⟨r, e⟩ := drop_succ hN h
  exact offs_at e j q v hq hv
theorem kid_bound {N : List T} (hN : PreL N) {k q : Nat} {u : T} (h : N[k]? = some u) (hq : q ∈ offs (k + 1) u.ts) : k < q ∧ q < N.length := by
  obtain ⟨r, e⟩ := drop_succ hN h
  have h1 := offs_ge hq
  have h2 := congrArg List.length e
  rw [List.length_drop, List.length_append, pres_len] at h2
  omega

/-! ### one node replaced -/
mutual
def repl : T → Nat → T → T
  | .mk _ _, 0, u => u
  | .mk m ts, n + 1, u => .mk m (repls ts n u)
def repls : List T → Nat → T → List T
  | [], _, _ => []
  | t :: ts, n, u => if n < sz t then repl t n u :: ts else t :: repls ts (n - sz t) u
end
theorem repls_len : ∀ (ts : List T) (n : Nat) (u : T), (repls ts n u).length = ts.length
  | [], _, _ => by simp [repls]
  | t :: ts, n, u => by
    rw [repls]
    split
    · rfl
    · rw [List.length_cons, repls_len ts, List.length_cons]
mutual
theorem repl_ok {ar : Nat → Option Nat} {u : T} (hu : Ok ar u) : ∀ {t : T} {n : Nat}, Ok ar t → Ok ar (repl t n u)
  | .mk m ts, 0, _ => by rw [repl]; exact hu
  | .mk m ts, n + 1, h => by
    rw [repl]
    rw [Ok] at h ⊢
    rw [repls_len]
    exact ⟨h.1, repls_ok hu h.2⟩
theorem repls_ok {ar : Nat → Option Nat} {u : T} (hu : Ok ar u) : ∀ {ts : List T} {n : Nat}, Oks ar ts → Oks ar (repls ts n u)
  | [], _, _ => by rw [repls]; trivial
  | t :: ts, n, h => by
    rw [repls]
    rw [Oks] at h
    split
    · rw [Oks]; exact ⟨repl_ok hu h.1, h.2⟩
    · rw [Oks]; exact ⟨h.1, repls_ok hu h.2⟩
end
mutual
theorem repl_sz {u : T} : ∀ {t : T} {n : Nat}, sz (repl t n u) ≤ sz t + sz u
  | .mk m ts, 0 => by rw [repl]; omega
  | .mk m ts, n + 1 => by rw [repl, sz, sz]; have := repls_sz (u := u) (ts := ts) (n := n); omega
theorem repls_sz {u : T} : ∀ {ts : List T} {n : Nat}, szs (repls ts n u) ≤ szs ts + sz u
  | [], _ => by simp [repls, szs]
  | t :: ts, n => by
    rw [repls]
    split
    · have := repl_sz (u := u) (t := t) (n := n); simp [szs]; omega
    · have := repls_sz (u := u) (ts := ts) (n := n - sz t); simp [szs]; omega
end
mutual
theorem repl_sz_eq {u v : T} (e : sz u = sz v) : ∀ {t : T} {n : Nat}, (pre t)[n]? = some v → sz (repl t n u) = sz t
  | .mk m ts, 0, h => by
    have : T.mk m ts = v := by simpa [pre] using h
    rw [repl, e, ← this]
  | .mk m ts, n + 1, h => by rw [repl, sz, sz, repls_sz_eq e (by simpa [pre] using h)]
theorem repls_sz_eq {u v : T} (e : sz u = sz v) : ∀ {ts : List T} {n : Nat}, (pres ts)[n]? = some v → szs (repls ts n u) = szs ts
  | [], _, h => by simp [pres] at h
  | t :: ts, n, h => by
    rw [pres] at h
    rw [repls]
    split
    · rename_i hn
      rw [List.getElem?_append_left (by rw [pre_len]; exact hn)] at h
      rw [szs, szs, repl_sz_eq e h]
    · rename_i hn
      rw [List.getElem?_append_right (by rw [pre_len]; omega), pre_len] at h
      rw [szs, szs, repls_sz_eq e h]
end
end T
end Mr

end
section
set_option Elab.async false
set_option linter.all false
set_option maxRecDepth 100000
set_option maxHeartbeats 4000000
/-! MrTb: flat trees, in plain Lean. -/
namespace Mr
open PySem PySem.Spec L2
namespace T
/-- a part of this sort goes into a node of that sort; as: the associative operators -/
def joins (as : Nat → Bool) (m m' : Mk) : Bool := match m with
  | .o n => as n && decide (m' = .o n)
  | _ => false
mutual
def fl (as : Nat → Bool) : T → T
  | .mk m ts => .mk m (flp as m ts)
def flp (as : Nat → Bool) (m : Mk) : List T → List T
  | [] => []
  | t :: ts => (if joins as m t.m = true then (fl as t).ts else [fl as t]) ++ flp as m ts
end
theorem fl_m (as : Nat → Bool) (t : T) : (fl as t).m = t.m := by cases t; rfl
theorem fl_eq (as : Nat → Bool) (t : T) : fl as t = .mk t.m (flp as t.m t.ts) := by cases t; rfl
theorem fl_ts (as : Nat → Bool) (t : T) : (fl as t).ts = flp as t.m t.ts := by cases t; rfl
mutual
/-- the members of a group of the operator n -/
def mem (n : Nat) : T → List T
  | .mk m ts => if m = .o n then mems n ts else [.mk m ts]
def mems (n : Nat) : List T → List T
  | [] => []
  | t :: ts => mem n t ++ mems n ts
end
theorem mem_eq (n : Nat) (t : T) : mem n t = if t.m = .o n then mems n t.ts else [t] := by cases t; rfl
theorem mems_app (n : Nat) : ∀ a b : List T, mems n (a ++ b) = mems n a ++ mems n b
  | [], b => by simp [mems]
  | t :: a, b => by rw [List.cons_append, mems, mems, mems_app n a b, List.append_assoc]
mutual
theorem fl_mem {as : Nat → Bool} {n : Nat} (h : as n = true) : ∀ t : T, (if joins as (.o n) t.m = true then (fl as t).ts else [fl as t]) = (mem n t).map (fl as)
  | .mk m ts => by
    rw [mem]
    by_cases e : m = .o n
    · have j : joins as (.o n) (T.mk m ts).m = true := by simp [joins, h, T.m, e]
      rw [if_pos j, if_pos e, fl]
      show flp as m ts = _
      rw [e]
      exact flp_mems h ts
    · have j : ¬ joins as (.o n) (T.mk m ts).m = true := by simp [joins, T.m, e]
      rw [if_neg j, if_neg e]
      rfl
theorem flp_mems {as : Nat → Bool} {n : Nat} (h : as n = true) : ∀ ts : List T, flp as (.o n) ts = (mems n ts).map (fl as)
  | [] => by simp [flp, mems]
  | t :: ts => by rw [flp, mems, List.map_append, fl_mem h t, flp_mems h ts]
end
/-- the parts of a node in the flat tree, not flat themselves -/
def grp (as : Nat → Bool) (t : T) : List T := match t.m with
  | .o n => if as n = true then mems n t.ts else t.ts
  | _ => t.ts
theorem flp_plain {as : Nat → Bool} {m : Mk} (h : ∀ m', joins as m m' = false) : ∀ ts : List T, flp as m ts = ts.map (fl as)
  | [] => by simp [flp]
  | t :: ts => by rw [flp, h]; simp [flp_plain h ts]
theorem fl_grp (as : Nat → Bool) (t : T) : (fl as t).ts = (grp as t).map (fl as) := by
  rw [fl_ts]
  unfold grp
  split
  · rename_i n e
    rw [e]
    split
    · rename_i h; exact flp_mems h _
    · rename_i h; exact flp_plain (fun m' => by simp [joins, h]) _
  · rename_i hn
    refine flp_plain (fun m' => ?_) _
    unfold joins
    split
    · rename_i n e; exact absurd e (hn n)
    · rfl
theorem fl_rec (as : Nat → Bool) (t : T) : fl as t = .mk t.m ((grp as t).map (fl as)) := by
  rw [← fl_grp, ← fl_m as t]
  cases fl as t
  rfl
mutual
theorem mem_sz (n : Nat) : ∀ t : T, szs (mem n t) ≤ sz t
  | .mk m ts => by
    rw [mem]
    split
    · have := mems_sz n ts; rw [sz]; omega
    · simp [szs]
theorem mems_sz (n : Nat) : ∀ ts : List T, szs (mems n ts) ≤ szs ts
  | [] => by simp [mems, szs]
  | t :: ts => by rw [mems, szs_app, szs]; have := mem_sz n t; have := mems_sz n ts; omega
end
theorem grp_sz (as : Nat → Bool) (t : T) : szs (grp as t) < sz t := by
  have h : sz t = 1 + szs t.ts := by cases t; rfl
  unfold grp
  split
  · rename_i n _
    split
    · have := mems_sz n t.ts; omega
    · omega
  · omega
mutual
theorem mem_in {n : Nat} : ∀ {t u : T}, u ∈ mem n t → u ∈ pre t
  | .mk m ts, u, h => by
    rw [mem] at h
    rw [pre]
    split at h
    · exact List.mem_cons_of_mem _ (mems_in h)
    · rw [List.mem_singleton.mp h]; exact List.mem_cons_self
theorem mems_in {n : Nat} : ∀ {ts : List T} {u : T}, u ∈ mems n ts → u ∈ pres ts
  | [], _, h => by simp [mems] at h
  | t :: ts, u, h => by
    rw [mems] at h
    rw [pres]
    rcases List.mem_append.mp h with h | h
    · exact List.mem_append_left _ (mem_in h)
    · exact List.mem_append_right _ (mems_in h)
end
theorem pres_mem : ∀ {ts : List T} {u : T}, u ∈ ts → u ∈ pres ts
  | t :: ts, u, h => by
    rw [pres]
    rcases List.mem_cons.mp h with h | h
    · rw [h, pre_eq]; simp
    · exact List.mem_append_right _ (pres_mem h)
theorem grp_in {as : Nat → Bool} {t u : T} (h : u ∈ grp as t) : u ∈ pre t := by
  rw [pre_eq]
  refine List.mem_cons_of_mem _ ?_
  unfold grp at h
  split at h
  · split at h
    · exact mems_in h
    · exact pres_mem h
  · exact pres_mem h
theorem grp_ok {as : Nat → Bool} {ar : Nat → Option Nat} {t : T} (h : Ok ar t) : ∀ u ∈ grp as t, Ok ar u := fun u hu => pre_ok h u (grp_in hu)
/-- what a walk over the flat nodes finds -/
inductive Walk (as : Nat → Bool) : List T → List T → Prop
  | nil : Walk as [] []
  | cons {t : T} {S r : List T} (h : Walk as (grp as t ++ S) r) : Walk as (t :: S) (t :: r)
theorem walk_ex (as : Nat → Bool) : ∀ (n : Nat) (S : List T), szs S ≤ n → ∃ r, Walk as S r ∧ r.length ≤ szs S ∧ (∀ ar, (∀ u ∈ S, Ok ar u) → ∀ u ∈ r, Ok ar u)
  | _, [], _ => ⟨[], .nil, Nat.zero_le _, fun _ _ u hu => by cases hu⟩
  | 0, t :: S, h => by have := sz_pos t; rw [szs] at h; omega
  | n + 1, t :: S, h => by
    have h1 := grp_sz as t
    rw [szs] at h
    obtain ⟨r, w, l, k⟩ := walk_ex as n (grp as t ++ S) (by rw [szs_app]; omega)
    refine ⟨t :: r, .cons w, ?_, fun ar ha u hu => ?_⟩
    · rw [szs_app] at l; rw [List.length_cons, szs]; omega
    · rcases List.mem_cons.mp hu with e | hu
      · rw [e]; exact ha t List.mem_cons_self
      · refine k ar (fun v hv => ?_) u hu
        rcases List.mem_append.mp hv with hv | hv
        · exact grp_ok (ha t List.mem_cons_self) v hv
        · exact ha v (List.mem_cons_of_mem _ hv)
/-- the heads of the nodes in preorder -/
def hd (t : T) : Mk × Nat := (t.m, t.ts.length)
theorem walk_heads {as : Nat → Bool} {S r : List T} (w : Walk as S r) : r.map (fun t => (t.m, (grp as t).length)) = (pres (S.map (fl as))).map hd := by
  induction w with
  | nil => rfl
  | cons h ih =>
    rename_i t S r
    rw [List.map_cons, ih, List.map_append, pres_app, List.map_cons, pres, pre_eq, fl_grp]
    simp only [List.map_cons, List.map_append, List.cons_append, hd, fl_m, fl_grp, List.length_map]
mutual
theorem heads_inj : ∀ (t u : T) (r s : List T), (pre t ++ r).map hd = (pre u ++ s).map hd → t = u ∧ r.map hd = s.map hd
  | .mk m ts, .mk m' us, r, s, h => by
    simp only [pre, List.cons_append, List.map_cons, List.cons.injEq, hd, T.m, T.ts, Prod.mk.injEq] at h
    obtain ⟨e1, e2⟩ := headss_inj ts us r s h.1.2 h.2
    rw [h.1.1, e1]
    exact ⟨rfl, e2⟩
theorem headss_inj : ∀ (ts us : List T) (r s : List T), ts.length = us.length → (pres ts ++ r).map hd = (pres us ++ s).map hd → ts = us ∧ r.map hd = s.map hd
  | [], [], r, s, _, h => ⟨rfl, by simpa [pres] using h⟩
  | [], _ :: _, _, _, l, _ => by simp at l
  | _ :: _, [], _, _, l, _ => by simp at l
  | t :: ts, u :: us, r, s, l, h => by
    rw [pres, pres, List.append_assoc, List.append_assoc] at h
    obtain ⟨e1, e2⟩ := heads_inj t u _ _ h
    obtain ⟨e3, e4⟩ := headss_inj ts us r s (by simpa using l) e2
    rw [e1, e3]
    exact ⟨rfl, e4⟩
end
theorem heads_eq {t u : T} (h : (pre t).map hd = (pre u).map hd) : t = u := (heads_inj t u [] [] (by simpa using h)).1
mutual
theorem fl_repl {as : Nat → Bool} {u v : T} (e : fl as u = fl as v) : ∀ {t : T} {n : Nat}, (pre t)[n]? = some v → fl as (repl t n u) = fl as t
  | .mk m ts, 0, h => by
    have : T.mk m ts = v := by simpa [pre] using h
    rw [repl, e, this]
  | .mk m ts, n + 1, h => by rw [repl, fl, fl, fl_repls e (by simpa [pre] using h)]
theorem fl_repls {as : Nat → Bool} {u v : T} (e : fl as u = fl as v) : ∀ {ts : List T} {n : Nat} {m : Mk}, (pres ts)[n]? = some v → flp as m (repls ts n u) = flp as m ts
  | [], _, _, h => by simp [pres] at h
  | t :: ts, n, m, h => by
    rw [pres] at h
    rw [repls]
    split
    · rename_i hn
      rw [List.getElem?_append_left (by rw [pre_len]; exact hn)] at h
      have e2 := fl_repl e h
      have em : (repl t n u).m = t.m := by rw [← fl_m as, e2, fl_m]
      rw [flp, flp, em, e2]
    · rename_i hn
      rw [List.getElem?_append_right (by rw [pre_len]; omega), pre_len] at h
      rw [flp, flp, fl_repls e h]
end
/-- turns of an associative operator -/
theorem fl_turn {as : Nat → Bool} {n : Nat} (h : as n = true) (x y z : T) : fl as (.mk (.o n) [x, .mk (.o n) [y, z]]) = fl as (.mk (.o n) [.mk (.o n) [x, y], z]) := by
  rw [fl, fl, flp_mems h, flp_mems h]
  simp [mems, mem]
mutual
theorem fl_sz (as : Nat → Bool) : ∀ t : T, sz (fl as t) ≤ sz t
  | .mk m ts => by rw [fl, sz, sz]; have := flp_sz as m ts; omega
theorem flp_sz (as : Nat → Bool) (m : Mk) : ∀ ts : List T, szs (flp as m ts) ≤ szs ts
  | [] => by simp [flp, szs]
  | t :: ts => by
    rw [flp, szs_app, szs]
    have h1 := flp_sz as m ts
    have h2 := fl_sz as t
    split
    · have h3 : sz (fl as t) = 1 + szs (fl as t).ts := by cases fl as t; rfl
      omega
    · simp [szs]; omega
end
end T
end Mr

end
section
set_option Elab.async false
set_option linter.all false
set_option maxRecDepth 100000
set_option maxHeartbeats 4000000
/-! MrTc: == of plain data without truth values; trees as such data. -/
namespace Mr
open PySem PySem.Spec PyProof.Rows L2
mutual
def plB : D → Bool
  | .non => true
  | .int _ => true
  | .str s => PyData.strOk s
  | .tup ds => plBs ds
  | .lst ds => plBs ds
  | _ => false
def plBs : List D → Bool
  | [] => true
  | d :: ds => plB d && plBs ds
end
mutual
def dpD : D → Nat
  | .tup ds => dpDs ds + 1
  | .lst ds => dpDs ds + 1
  | _ => 0
def dpDs : List D → Nat
  | [] => 0
  | d :: ds => max (dpD d) (dpDs ds)
end
theorem plBs_iff : ∀ {ds : List D}, plBs ds = true ↔ ∀ d ∈ ds, plB d = true
  | [] => by simp [plBs]
  | d :: ds => by rw [plBs, Bool.and_eq_true, plBs_iff]; simp
theorem dpDs_le {n : Nat} : ∀ {ds : List D}, (∀ d ∈ ds, dpD d ≤ n) → dpDs ds ≤ n
  | [], _ => by simp [dpDs]
  | d :: ds, h => by
    rw [dpDs]
    exact Nat.max_le.mpr ⟨h d List.mem_cons_self, dpDs_le fun e he => h e (List.mem_cons_of_mem _ he)⟩
mutual
theorem toPy_pl : ∀ {d : D}, plB d = true → ∃ p, toPy d = some p ∧ p.canLay0 = true ∧ p.depth = dpD d
  | .non, _ => ⟨.none, by simp [toPy], by simp [PyData.canLay0], by simp [PyData.depth, dpD]⟩
  | .int i, _ => ⟨.int i, by simp [toPy], by simp [PyData.canLay0], by simp [PyData.depth, dpD]⟩
  | .str s, h => ⟨.str s, by simp [toPy], by simpa [PyData.canLay0, plB] using h, by simp [PyData.depth, dpD]⟩
  | .tup ds, h => by
    obtain ⟨ps, e1, e2, e3⟩ := toPys_pl (ds := ds) (by simpa [plB] using h)
    exact ⟨.tuple ps, by simp [toPy, e1], by simpa [PyData.canLay0] using e2, by simp [PyData.depth, dpD, e3]⟩
  | .lst ds, h => by
    obtain ⟨ps, e1, e2, e3⟩ := toPys_pl (ds := ds) (by simpa [plB] using h)
    exact ⟨.list ps, by simp [toPy, e1], by simpa [PyData.canLay0] using e2, by simp [PyData.depth, dpD, e3]⟩
  | .bl _, h => by simp [plB] at h
  | .rl _, h => by simp [plB] at h
  | .ty _, h => by simp [plB] at h
  | .ins _ _ _, h => by simp [plB] at h
  | .dc _ _, h => by simp [plB] at h
theorem toPys_pl : ∀ {ds : List D}, plBs ds = true → ∃ ps, toPys ds = some ps ∧ PyData.canLayAll0 ps = true ∧ PyData.depthAll ps = dpDs ds
  | [], _ => ⟨[], by simp [toPys], by simp [PyData.canLayAll0], by simp [PyData.depthAll, dpDs]⟩
  | d :: ds, h => by
    rw [plBs, Bool.and_eq_true] at h
    obtain ⟨p, e1, e2, e3⟩ := toPy_pl h.1
    obtain ⟨ps, f1, f2, f3⟩ := toPys_pl h.2
    exact ⟨p :: ps, by simp [toPys, e1, f1], by simp [PyData.canLayAll0, e2, f2], by simp [PyData.depthAll, dpDs, e3, f3]⟩
end
mutual
theorem eqv_pl : ∀ {a b : D} {p q : PyData}, plB a = true → plB b = true → toPy a = some p → toPy b = some q → (PyData.eqv p q = true ↔ a = b)
  | .non, b, p, q, _, hb, e1, e2 => by
    simp only [toPy, Option.some.injEq] at e1
    subst e1
    cases b <;> simp [toPy, plB] at e2 hb <;> first | (subst e2; simp [PyData.eqv]) | (obtain ⟨_, _, rfl⟩ := e2; simp [PyData.eqv])
  | .int i, b, p, q, _, hb, e1, e2 => by
    simp only [toPy, Option.some.injEq] at e1
    subst e1
    cases b <;> simp [toPy, plB] at e2 hb <;> first | (subst e2; simp [PyData.eqv]) | (obtain ⟨_, _, rfl⟩ := e2; simp [PyData.eqv])
  | .str i, b, p, q, _, hb, e1, e2 => by
    simp only [toPy, Option.some.injEq] at e1
    subst e1
    cases b <;> simp [toPy, plB] at e2 hb <;> first | (subst e2; simp [PyData.eqv]) | (obtain ⟨_, _, rfl⟩ := e2; simp [PyData.eqv])
  | .tup ds, b, p, q, ha, hb, e1, e2 => by
    simp only [toPy] at e1
    obtain ⟨ps, f1, rfl⟩ := Option.map_eq_some_iff.mp e1
    cases b with
    | tup es =>
      simp only [toPy] at e2
      obtain ⟨qs, f2, rfl⟩ := Option.map_eq_some_iff.mp e2
      simp only [PyData.eqv, D.tup.injEq]
      exact eqvs_pl (by simpa [plB] using ha) (by simpa [plB] using hb) f1 f2
    | lst es =>
      simp only [toPy] at e2
      obtain ⟨qs, f2, rfl⟩ := Option.map_eq_some_iff.mp e2
      simp [PyData.eqv]
    | non => simp [toPy] at e2; subst e2; simp [PyData.eqv]
    | int i => simp [toPy] at e2; subst e2; simp [PyData.eqv]
    | str i => simp [toPy] at e2; subst e2; simp [PyData.eqv]
    | _ => simp [plB] at hb
  | .lst ds, b, p, q, ha, hb, e1, e2 => by
    simp only [toPy] at e1
    obtain ⟨ps, f1, rfl⟩ := Option.map_eq_some_iff.mp e1
    cases b with
    | lst es =>
      simp only [toPy] at e2
      obtain ⟨qs, f2, rfl⟩ := Option.map_eq_some_iff.mp e2
      simp only [PyData.eqv, D.lst.injEq]
      exact eqvs_pl (by simpa [plB] using ha) (by simpa [plB] using hb) f1 f2
    | tup es =>
      simp only [toPy] at e2
      obtain ⟨qs, f2, rfl⟩ := Option.map_eq_some_iff.mp e2
      simp [PyData.eqv]
    | non => simp [toPy] at e2; subst e2; simp [PyData.eqv]
    | int i => simp [toPy] at e2; subst e2; simp [PyData.eqv]
    | str i => simp [toPy] at e2; subst e2; simp [PyData.eqv]
    | _ => simp [plB] at hb
  | .bl _, _, _, _, h, _, _, _ => by simp [plB] at h
  | .rl _, _, _, _, h, _, _, _ => by simp [plB] at h
  | .ty _, _, _, _, h, _, _, _ => by simp [plB] at h
  | .ins _ _ _, _, _, _, h, _, _, _ => by simp [plB] at h
  | .dc _ _, _, _, _, h, _, _, _ => by simp [plB] at h
theorem eqvs_pl : ∀ {a b : List D} {p q : List PyData}, plBs a = true → plBs b = true → toPys a = some p → toPys b = some q → (PyData.eqvAll p q = true ↔ a = b)
  | [], [], p, q, _, _, e1, e2 => by
    simp only [toPys, Option.some.injEq] at e1 e2
    subst e1 e2
    simp [PyData.eqvAll]
  | [], b :: bs, p, q, _, _, e1, e2 => by
    simp only [toPys, Option.some.injEq] at e1 e2
    obtain ⟨y, _, e2⟩ := Option.bind_eq_some_iff.mp e2
    obtain ⟨ys, _, rfl⟩ := Option.map_eq_some_iff.mp e2
    subst e1
    simp [PyData.eqvAll]
  | a :: as, [], p, q, _, _, e1, e2 => by
    simp only [toPys, Option.some.injEq] at e1 e2
    obtain ⟨y, _, e1⟩ := Option.bind_eq_some_iff.mp e1
    obtain ⟨ys, _, rfl⟩ := Option.map_eq_some_iff.mp e1
    subst e2
    simp [PyData.eqvAll]
  | a :: as, b :: bs, p, q, ha, hb, e1, e2 => by
    rw [plBs, Bool.and_eq_true] at ha hb
    simp only [toPys] at e1 e2
    obtain ⟨x, x1, e1⟩ := Option.bind_eq_some_iff.mp e1
    obtain ⟨xs, x2, rfl⟩ := Option.map_eq_some_iff.mp e1
    obtain ⟨y, y1, e2⟩ := Option.bind_eq_some_iff.mp e2
    obtain ⟨ys, y2, rfl⟩ := Option.map_eq_some_iff.mp e2
    simp only [PyData.eqvAll, Bool.and_eq_true, List.cons.injEq]
    rw [eqv_pl ha.1 hb.1 x1 y1, eqvs_pl ha.2 hb.2 x2 y2]
end
/-- == of plain data without truth values is equality -/
theorem eqP_pl {a b : D} (ha : plB a = true) (hb : plB b = true) (hd : min (dpD a) (dpD b) ≤ 1500) : ∃ k, eqP a b = some k ∧ (k = true ↔ a = b) := by
  obtain ⟨p, e1, c1, d1⟩ := toPy_pl ha
  obtain ⟨q, e2, c2, d2⟩ := toPy_pl hb
  unfold eqP
  cases e : eqB a b with
  | none =>
    refine ⟨PyData.eqv p q, ?_, eqv_pl ha hb e1 e2⟩
    simp only
    unfold eqQ
    rw [e1, e2]
    simp only [Option.bind_some]
    rw [if_pos ⟨by rw [c1, c2]; rfl, by rw [d1, d2]; exact hd⟩]
  | some k =>
    refine ⟨k, rfl, ?_⟩
    cases a <;> cases b <;> simp [eqB, plB] at e ha hb <;> subst e <;> simp
theorem wr_eqT {a b : D} {P : O → Prop} (ha : plB a = true) (hb : plB b = true) (hd : min (dpD a) (dpD b) ≤ 1500) (h : ∀ k, (k = true ↔ a = b) → P (.v (.bl k))) : WR (eqPD a b) P := by
  obtain ⟨k, e1, e2⟩ := eqP_pl ha hb hd
  exact ⟨.s (.bl k), by unfold eqPD; rw [e1]; rfl, h k e2⟩
theorem wr_neT {a b : D} {P : O → Prop} (ha : plB a = true) (hb : plB b = true) (hd : min (dpD a) (dpD b) ≤ 1500) (h : ∀ k, (k = true ↔ ¬ a = b) → P (.v (.bl k))) : WR (nePD a b) P := by
  obtain ⟨k, e1, e2⟩ := eqP_pl ha hb hd
  exact ⟨.s (.bl (!k)), by unfold nePD; rw [e1]; rfl, h _ (by rw [← e2]; simp)⟩
/-! ### trees -/
/-- the words in a node are short texts -/
def Mk.wOk : Mk → Prop
  | .a w => PyData.strOk w = true ∧ w.length ≤ 10000
  | .k w => PyData.strOk w = true ∧ w.length ≤ 10000
  | .c w => PyData.strOk w = true ∧ w.length ≤ 10000
  | _ => True
namespace T
mutual
def W : T → Prop
  | .mk m ts => m.wOk ∧ Ws ts
def Ws : List T → Prop
  | [] => True
  | t :: ts => W t ∧ Ws ts
end
theorem Ws_iff : ∀ {ts : List T}, Ws ts ↔ ∀ t ∈ ts, W t
  | [] => by simp [Ws]
  | t :: ts => by rw [Ws, Ws_iff]; simp
theorem s_mem (m : Mk) : m.s ∈ [Str.ofString "a", Str.ofString "h", Str.ofString "k", Str.ofString "b", Str.ofString "o", Str.ofString "c"] := by cases m <;> simp [Mk.s]
theorem s_all : ∀ z ∈ [Str.ofString "a", Str.ofString "h", Str.ofString "k", Str.ofString "b", Str.ofString "o", Str.ofString "c"], PyData.strOk z = true ∧ z.length ≤ 10000 := by decide +kernel
theorem s_ok (m : Mk) : PyData.strOk m.s = true := (s_all _ (s_mem m)).1
theorem s_len (m : Mk) : m.s.length ≤ 10000 := (s_all _ (s_mem m)).2
mutual
theorem enc_pl : ∀ {t : T}, W t → plB (enc t) = true
  | .mk m ts, h => by
    rw [W] at h
    have h2 := encs_pl h.2
    rw [enc, plB, plBs, plB, s_ok]
    cases m with
    | a w => simpa [Mk.d, plBs, plB] using h.1.1
    | k w => simpa [Mk.d, plBs, plB] using h.1.1
    | c w => simpa [Mk.d, plBs, plB, h2] using h.1.1
    | h i => simp [Mk.d, plBs, plB]
    | o n => simp [Mk.d, plBs, plB, h2]
    | b => simpa [Mk.d] using h2
theorem encs_pl : ∀ {ts : List T}, Ws ts → plBs (encs ts) = true
  | [], _ => by simp [encs, plBs]
  | t :: ts, h => by
    rw [Ws] at h
    rw [encs, plBs, enc_pl h.1, encs_pl h.2]; rfl
end
mutual
theorem enc_dp : ∀ t : T, dpD (enc t) ≤ 2 * sz t
  | .mk m ts => by
    have h2 := encs_dp ts
    rw [enc, dpD, dpDs, show dpD (.str m.s) = 0 from rfl, sz]
    cases m with
    | a w => simp [Mk.d, dpDs, dpD]; omega
    | k w => simp [Mk.d, dpDs, dpD]; omega
    | c w => simp [Mk.d, dpDs, dpD]; omega
    | h i => simp [Mk.d, dpDs, dpD]; omega
    | o n => simp [Mk.d, dpDs, dpD]; omega
    | b => simp [Mk.d]; omega
theorem encs_dp : ∀ ts : List T, dpDs (encs ts) ≤ 2 * szs ts
  | [] => by simp [encs, dpDs]
  | t :: ts => by
    have h1 := enc_dp t
    have h2 := encs_dp ts
    rw [encs, dpDs, szs]; omega
end
mutual
theorem enc_sz : ∀ t : T, Mr.sz (enc t) ≤ 4 * sz t
  | .mk m ts => by
    have h2 := encs_sz ts
    rw [enc, Mr.sz, Mr.szs, show Mr.sz (.str m.s) = 1 from rfl, sz]
    cases m with
    | a w => simp [Mk.d, Mr.szs, Mr.sz]; omega
    | k w => simp [Mk.d, Mr.szs, Mr.sz]; omega
    | c w => simp [Mk.d, Mr.szs, Mr.sz]; omega
    | h i => simp [Mk.d, Mr.szs, Mr.sz]; omega
    | o n => simp [Mk.d, Mr.szs, Mr.sz]; omega
    | b => simp [Mk.d]; omega
theorem encs_sz : ∀ ts : List T, Mr.szs (encs ts) ≤ 4 * szs ts
  | [] => by simp [encs, Mr.szs]
  | t :: ts => by
    have h1 := enc_sz t
    have h2 := encs_sz ts
    rw [encs, Mr.szs, szs]; omega
end
mutual
theorem enc_va : ∀ {t : T}, W t → Va (enc t)
  | .mk m ts, h => by
    rw [W] at h
    have h2 := encs_va h.2
    rw [enc]
    refine .tup fun d hd => ?_
    rcases List.mem_cons.mp hd with e | hd
    · rw [e]; exact .str (s_len m)
    · cases m with
      | a w => rw [List.mem_singleton.mp hd]; exact .str h.1.2
      | k w => rw [List.mem_singleton.mp hd]; exact .str h.1.2
      | h i => rw [List.mem_singleton.mp hd]; exact .int
      | c w =>
        simp only [Mk.d, List.mem_cons, List.not_mem_nil, or_false] at hd
        rcases hd with e | e
        · rw [e]; exact .str h.1.2
        · rw [e]; exact .tup h2
      | o n =>
        simp only [Mk.d, List.mem_cons, List.not_mem_nil, or_false] at hd
        rcases hd with e | e
        · rw [e]; exact .int
        · rw [e]; exact .tup h2
      | b => exact h2 d hd
theorem encs_va : ∀ {ts : List T}, Ws ts → ∀ d ∈ encs ts, Va d
  | [], _, d, hd => by simp [encs] at hd
  | t :: ts, h, d, hd => by
    rw [Ws] at h
    rw [encs] at hd
    rcases List.mem_cons.mp hd with e | hd
    · rw [e]; exact enc_va h.1
    · exact encs_va h.2 d hd
end
mutual
theorem enc_inj {ar : Nat → Option Nat} : ∀ {t u : T}, Ok ar t → Ok ar u → enc t = enc u → t = u
  | .mk m ts, .mk m' us, h1, h2, e => by
    rw [Ok] at h1 h2
    rw [enc, enc] at e
    simp only [D.tup.injEq, List.cons.injEq, D.str.injEq] at e
    obtain ⟨es, ed⟩ := e
    have nil : ∀ {l : List T}, l.length = 0 → l = [] := fun h => List.length_eq_zero_iff.mp h
    cases m <;> cases m' <;> first
      | (exact absurd (show Str.ofString _ = Str.ofString _ from es) (by decide +kernel))
      | (simp only [Mk.d, List.cons.injEq, D.str.injEq, D.int.injEq, D.tup.injEq, and_true] at ed
         simp only [okM] at h1 h2
         first
         | (rw [ed, nil h1.1, nil h2.1])
         | (rw [ed.1, encs_inj h1.2 h2.2 ed.2])
         | (rw [Int.ofNat.inj ed.1, encs_inj h1.2 h2.2 ed.2])
         | (rw [encs_inj h1.2 h2.2 ed]))
theorem encs_inj {ar : Nat → Option Nat} : ∀ {ts us : List T}, Oks ar ts → Oks ar us → encs ts = encs us → ts = us
  | [], [], _, _, _ => rfl
  | [], _ :: _, _, _, e => by simp [encs] at e
  | _ :: _, [], _, _, e => by simp [encs] at e
  | t :: ts, u :: us, h1, h2, e => by
    rw [Oks] at h1 h2
    simp only [encs, List.cons.injEq] at e
    rw [enc_inj h1.1 h2.1 e.1, encs_inj h1.2 h2.2 e.2]
end
mutual
theorem repl_W {u : T} (hu : W u) : ∀ {t : T} {n : Nat}, W t → W (repl t n u)
  | .mk m ts, 0, _ => by rw [repl]; exact hu
  | .mk m ts, n + 1, h => by
    rw [repl]
    rw [W] at h ⊢
    exact ⟨h.1, repls_W hu h.2⟩
theorem repls_W {u : T} (hu : W u) : ∀ {ts : List T} {n : Nat}, Ws ts → Ws (repls ts n u)
  | [], _, _ => by rw [repls]; trivial
  | t :: ts, n, h => by
    rw [repls]
    rw [Ws] at h
    split
    · rw [Ws]; exact ⟨repl_W hu h.1, h.2⟩
    · rw [Ws]; exact ⟨h.1, repls_W hu h.2⟩
end
mutual
theorem pre_W : ∀ {t : T}, W t → ∀ u ∈ pre t, W u
  | .mk m ts, h, u, hu => by
    rw [pre] at hu
    rcases List.mem_cons.mp hu with e | hu
    · rw [e]; exact h
    · rw [W] at h; exact pres_W h.2 u hu
theorem pres_W : ∀ {ts : List T}, Ws ts → ∀ u ∈ pres ts, W u
  | [], _, u, hu => by simp [pres] at hu
  | t :: ts, h, u, hu => by
    rw [pres] at hu
    rw [Ws] at h
    rcases List.mem_append.mp hu with hu | hu
    · exact pre_W h.1 u hu
    · exact pres_W h.2 u hu
end
mutual
theorem fl_W {as : Nat → Bool} : ∀ {t : T}, W t → W (fl as t)
  | .mk m ts, h => by
    rw [W] at h
    rw [fl, W]
    exact ⟨h.1, flp_W h.2⟩
theorem flp_W {as : Nat → Bool} {m : Mk} : ∀ {ts : List T}, Ws ts → Ws (flp as m ts)
  | [], _ => by rw [flp]; trivial
  | t :: ts, h => by
    rw [Ws] at h
    have h1 : W (fl as t) := fl_W h.1
    have h2 : Ws (flp as m ts) := flp_W h.2
    rw [flp, Ws_iff]
    intro u hu
    rcases List.mem_append.mp hu with hu | hu
    · split at hu
      · have : Ws (fl as t).ts := by
          have e : fl as t = .mk (fl as t).m (fl as t).ts := by cases fl as t; rfl
          rw [e, W] at h1
          exact h1.2
        exact Ws_iff.mp this u hu
      · rw [List.mem_singleton.mp hu]; exact h1
    · exact Ws_iff.mp h2 u hu
end
end T
end Mr

end
section
set_option Elab.async false
set_option linter.all false
set_option maxRecDepth 100000
set_option maxHeartbeats 4000000
/-! MrWa: stepping rules for what MrG .. MrV brought. -/
namespace Mr
open PySem PySem.Spec PyProof.Rows L2
section
variable {ρ : List O} {P : O → List O → Prop}
theorem we_dnew (h : P (.dd [] []) ρ) : WE (m_dnew ρ) P := ⟨_, _, rfl, h⟩
theorem we_make {cl : Str} {g : List O → Option (O × List O)} {ma : MA} (h : WA (ma ρ) fun ps ρ1 => WK (tk ps ρ1) fun os ρ2 => WG (g (.g (.ins cl []) [] :: os)) fun r outs => r = .v .non ∧ ∃ s outs', outs = s :: outs' ∧ ∃ d, toD s = some d ∧ P (.v d) (bk ps outs' ρ2)) : WE (m_make cl g ma ρ) P := by
  obtain ⟨ps, ρ1, e1, os, ρ2, e2, r, outs, e3, rfl, s, outs', rfl, d, e4, q⟩ := h
  exact ⟨_, _, by unfold m_make; rw [e1]; simp only [Option.bind_some]; rw [e2]; simp only [Option.bind_some]; rw [e3]; simp only [Option.bind_some]; rw [e4]; rfl, q⟩
theorem we_meth {cl m : Str} {g : List O → Option (O × List O)} {mo : MP} {ma : MA} (h : WP (mo ρ) fun p ρ0 => ∃ ns ds, vw ρ0 p = some (.ins cl ns ds) ∧ m ∉ ns ∧ WA (ma ρ0) fun ps ρ1 => WK (tk ps ρ1) fun os ρ2 => WG (g (.v (.ins cl ns ds) :: os)) fun r outs => ∃ s outs', outs = s :: outs' ∧ P r (bk ps outs' ρ2)) : WE (m_meth cl m g mo ma ρ) P := by
  obtain ⟨p, ρ0, e0, ns, ds, ev, hm, ps, ρ1, e1, os, ρ2, e2, r, outs, e3, s, outs', rfl, q⟩ := h
  exact ⟨_, _, by unfold m_meth; rw [e0]; simp only [Option.bind_some]; rw [ev]; simp only; rw [if_pos ⟨trivial, hm⟩, e1]; simp only [Option.bind_some]; rw [e2]; simp only [Option.bind_some]; rw [e3]; rfl, q⟩
theorem we_prop {cl : Str} {g : List O → Option (O × List O)} {mo : MP} (h : WP (mo ρ) fun p ρ0 => ∃ ns ds, vw ρ0 p = some (.ins cl ns ds) ∧ WG (g [.v (.ins cl ns ds)]) fun r _ => P r ρ0) : WE (m_prop cl g mo ρ) P := by
  obtain ⟨p, ρ0, e0, ns, ds, ev, r, outs, e3, q⟩ := h
  exact ⟨_, _, by unfold m_prop; rw [e0]; simp only [Option.bind_some]; rw [ev]; simp only; rw [if_pos trivial, e3]; rfl, q⟩
theorem wr_propD {c f : Str} {ns : List Str} {ds : List D} {d : D} {P : O → Prop} (e : insAt f ns ds = some d) (h : P (.v d)) : WR (propD c f (.ins c ns ds)) P := ⟨.s d, by unfold propD; simp only; rw [if_pos trivial, e]; rfl, h⟩
theorem we_fob {i : Nat} {cl f : Str} {ns : List Str} {os : List O} {j : Nat} {d : D} (e0 : ρ[i]? = some (.g (.ins cl ns) os)) (e1 : ixOf f ns = some j) (e2 : os[j]? = some (.v d)) (h : P (.v d) ρ) : WE (m_fob i cl f ρ) P :=
  ⟨_, _, by unfold m_fob; rw [e0]; simp only; rw [if_pos trivial, e1]; simp only [Option.bind_some]; rw [e2], h⟩
theorem we_lcL {vs : List Nat} {mi : MI} {g : MG} {mt : MT} {me : ME}
    (h : WI (mi ρ) fun ds ρ1 => ds.length ≤ 1000000 ∧ ∃ Inv : Nat → List O → List O → Prop, Inv 0 [] (wipeO vs ρ1) ∧
      (∀ i d acc ρ, ds[i]? = some d → Inv i acc ρ → ∃ ρ1, g d ρ = some ρ1 ∧ WT (mt ρ1) fun b ρ2 => if b = true then (WE (me ρ2) fun o ρ3 => Inv (i + 1) (acc ++ [o]) (wipeO vs ρ3)) else Inv (i + 1) acc (wipeO vs ρ2)) ∧
      ∀ acc ρ, Inv ds.length acc ρ → P (.g .lst acc) ρ) : WE (m_lcL vs mi g mt me ρ) P := by
  obtain ⟨ds, ρ1, e, hz, Inv, h0, hs, hd⟩ := h
  have gen : ∀ (k i : Nat) (acc : List O) (ρ : List O), i + k = ds.length → Inv i acc (wipeO vs ρ) → ∃ acc' ρ', lclL vs g mt me (ds.drop i) acc ρ = some (acc', ρ') ∧ P (.g .lst acc') ρ' := by
    intro k
    induction k with
    | zero =>
      intro i acc ρ e q
      have ei : i = ds.length := by omega
      subst ei
      rw [List.drop_length]
      exact ⟨_, _, rfl, hd _ _ q⟩
    | succ k ih =>
      intro i acc ρ e q
      have hlt : i < ds.length := by omega
      rw [List.drop_eq_getElem_cons hlt]
      obtain ⟨ρ2, e1, b, ρ3, e2, q2⟩ := hs i ds[i] acc _ (List.getElem?_eq_getElem hlt) q
      unfold lclL
      rw [e1]
      simp only [Option.bind_some]
      rw [e2]
      simp only [Option.bind_some]
      cases b with
      | true =>
        obtain ⟨o, ρ4, e3, q2⟩ := q2
        rw [if_pos rfl, e3]
        simp only [Option.bind_some]
        exact ih (i + 1) _ ρ4 (by omega) q2
      | false =>
        rw [if_neg Bool.false_ne_true]
        exact ih (i + 1) acc ρ3 (by omega) q2
  obtain ⟨acc', ρ', e3, q⟩ := gen ds.length 0 [] ρ1 (by omega) h0
  rw [List.drop_zero] at e3
  exact ⟨_, _, by unfold m_lcL; rw [e]; simp only [Option.bind_some]; rw [if_pos hz, e3]; rfl, q⟩
end
section
variable {ρ : List O} {P : Out → Prop}
theorem ws_fld {i : Nat} {cl f : Str} {m : ME} (h : WE (m ρ) fun o ρ1 => ∃ ns os, ρ1[i]? = some (.g (.ins cl ns) os) ∧ (f ∉ ns ∧ ns.length < 900) ∧ P (.nx (ρ1.set i (.g (.ins cl (f :: ns)) (o :: os))))) : WS (s_fld i cl f m ρ) P := by
  obtain ⟨o, ρ1, e1, ns, os, e2, c, q⟩ := h
  exact ⟨_, by unfold s_fld; rw [e1]; simp only [Option.bind_some]; rw [e2]; simp only; rw [if_pos ⟨trivial, c⟩], q⟩
theorem ws_fdput {i : Nat} {cl f : Str} {me : ME} {pk : List O → Option D} (h : WE (me ρ) fun o ρ1 => ∃ d, toD o = some d ∧ ∃ q, pk ρ1 = some q ∧ ∃ k, keyD q = some k ∧ ∃ ns os, ρ1[i]? = some (.g (.ins cl ns) os) ∧ ∃ j, ixOf f ns = some j ∧ ∃ ks ds, os[j]? = some (.dd ks ds) ∧ ks.length < 1000000 ∧
    P (.nx (ρ1.set i (.g (.ins cl ns) (os.set j (.dd (putA ks ds k d).1 (putA ks ds k d).2)))))) : WS (s_fdput i cl f me pk ρ) P := by
  obtain ⟨o, ρ1, e1, d, e2, q, e3, k, e4, ns, os, e5, j, e6, ks, ds, e7, c, z⟩ := h
  exact ⟨_, by unfold s_fdput; rw [e1]; simp only [Option.bind_some]; rw [e2]; simp only [Option.bind_some]; rw [e3]; simp only [Option.bind_some]; rw [e4]; simp only [Option.bind_some]; rw [e5]; simp only; rw [if_pos trivial, e6]; simp only [Option.bind_some]; rw [e7]; simp only; rw [if_pos c], z⟩
theorem ws_dput {i : Nat} {me : ME} {mi : MP} (h : WE (me ρ) fun o ρ1 => ∃ d, toD o = some d ∧ ∃ ks0 ds0, ρ1[i]? = some (.dd ks0 ds0) ∧ WP (mi ρ1) fun p ρ2 => ∃ q, vw ρ2 p = some q ∧ ∃ k, keyD q = some k ∧ ∃ ks ds, ρ2[i]? = some (.dd ks ds) ∧ ks.length < 1000000 ∧
    P (.nx (ρ2.set i (.dd (putA ks ds k d).1 (putA ks ds k d).2)))) : WS (s_dput i me mi ρ) P := by
  obtain ⟨o, ρ1, e1, d, e2, ks0, ds0, e3, p, ρ2, e4, q, e5, k, e6, ks, ds, e7, c, z⟩ := h
  exact ⟨_, by unfold s_dput; rw [e1]; simp only [Option.bind_some]; rw [e2]; simp only [Option.bind_some]; rw [e3]; simp only; rw [e4]; simp only [Option.bind_some]; rw [e5]; simp only [Option.bind_some]; rw [e6]; simp only [Option.bind_some]; rw [e7]; simp only; rw [if_pos c], z⟩
end
theorem wi_enumA {m : ME} {ρ : List O} {P : List D → List O → Prop} (h : WE (m ρ) fun o ρ1 => ∃ ds, (toD o = some (.lst ds) ∨ toD o = some (.tup ds)) ∧ P (enumD ds) ρ1) : WI (i_enumA m ρ) P := by
  obtain ⟨o, ρ1, e, ds, e2, q⟩ := h
  rcases e2 with e2 | e2
  · exact ⟨_, _, by unfold i_enumA; rw [e]; simp only [Option.bind_some]; rw [e2]; rfl, q⟩
  · exact ⟨_, _, by unfold i_enumA; rw [e]; simp only [Option.bind_some]; rw [e2]; rfl, q⟩
theorem wr_eqPb {i j : Bool} {P : O → Prop} (h : P (.v (.bl (decide (i = j))))) : WR (eqPD (.bl i) (.bl j)) P := ⟨_, rfl, h⟩
theorem wr_nePb {i j : Bool} {P : O → Prop} (h : P (.v (.bl (!decide (i = j))))) : WR (nePD (.bl i) (.bl j)) P := ⟨_, rfl, h⟩
theorem wr_eqPn {i : D} {P : O → Prop} {k : Bool} (e : eqB i .non = some k) (h : P (.v (.bl k))) : WR (eqPD i .non) P := ⟨.s (.bl k), by unfold eqPD eqP; rw [e]; rfl, h⟩
theorem wr_nsn0 {P : O → Prop} (h : P (.v (.bl false))) : WR (nsnD .non .non) P := ⟨_, rfl, h⟩
theorem wr_nsn1 {b : Bool} {P : O → Prop} (h : P (.v (.bl true))) : WR (nsnD (.bl b) .non) P := ⟨_, rfl, h⟩
theorem wr_nsn2 {b : Int} {P : O → Prop} (h : P (.v (.bl true))) : WR (nsnD (.int b) .non) P := ⟨_, rfl, h⟩
theorem wr_nsn3 {b : Str} {P : O → Prop} (h : P (.v (.bl true))) : WR (nsnD (.str b) .non) P := ⟨_, rfl, h⟩
theorem wr_listT {ds : List D} {P : O → Prop} (h : P (.l ds)) : WR (listD [.tup ds]) P := ⟨_, rfl, h⟩
theorem wr_slT {ds : List D} {lo hi : Option Int} {P : O → Prop} {r : Res} (e : slD (.tup ds) lo hi = some r) (h : P r.o) : WR (slD (.tup ds) lo hi) P := ⟨_, e, h⟩
theorem wr_intB {i : Bool} {P : O → Prop} (h : P (.v (.int (if i then 1 else 0)))) : WR (intD [.bl i]) P := by cases i <;> exact ⟨_, rfl, h⟩
theorem wif' {c : Prop} [Decidable c] {A B : Prop} (h1 : c → A) (h2 : ¬ c → B) : if (!decide c) = true then B else A := by
  by_cases h : c
  · rw [if_neg (by simp [h])]; exact h1 h
  · rw [if_pos (by simp [h])]; exact h2 h
theorem wifB' {b : Bool} {A B : Prop} (h1 : b = true → A) (h2 : b = false → B) : if (!b) = true then B else A := by
  cases b
  · rw [if_pos (by decide)]; exact h2 rfl
  · rw [if_neg (by decide)]; exact h1 rfl
/-- a place of a list of trees -/
theorem atI_nat2 {α : Type} {xs : List α} {i : Int} {j : Nat} {d : α} (hi : i = (j : Int)) (e : xs[j]? = some d) : atI xs i = some d := atI_of (by omega) (by rw [hi]; simpa using e)
theorem wr_ixLn {ds : List D} {i : Int} {j : Nat} {d : D} {P : O → Prop} (hi : i = (j : Int)) (e : ds[j]? = some d) (h : P (.v d)) : WR (ixD (.lst ds) (.int i)) P := wr_ixL (atI_nat2 hi e) h
theorem wr_ixTn {ds : List D} {i : Int} {j : Nat} {d : D} {P : O → Prop} (hi : i = (j : Int)) (e : ds[j]? = some d) (h : P (.v d)) : WR (ixD (.tup ds) (.int i)) P := wr_ixT (atI_nat2 hi e) h
theorem wr_ixLm {ds : List D} {d : D} {P : O → Prop} (e : ds[ds.length - 1]? = some d) (h : P (.v d)) : WR (ixD (.lst ds) (.int (-1))) P := wr_ixL (atI_m1 e) h
theorem wx_nat {n : Nat} {i : Int} {j : Nat} {P : Nat → Prop} (hi : i = (j : Int)) (hj : j < n) (h : P j) : WX (ixN n i) P := by subst hi; exact wx_i (ixN_nat hj) h
theorem wx_m1 {n : Nat} {P : Nat → Prop} (hj : 0 < n) (h : P (n - 1)) : WX (ixN n (-1)) P := by
  refine wx_i (ixN_neg (by omega) (by omega)) ?_
  rw [show ((-1 : Int) + n).toNat = n - 1 by omega]; exact h
end Mr

end
section
set_option Elab.async false
set_option linter.all false
set_option maxRecDepth 100000
set_option maxHeartbeats 4000000
/-! MrTd: operators as data. -/
namespace Mr
open PySem PySem.Spec L2
inductive Role where
  | inf | pre | post
  deriving DecidableEq
def Role.s : Role → Str
  | .inf => Str.ofString "infix" | .pre => Str.ofString "prefix" | .post => Str.ofString "postfix"
theorem Role.s_inj : ∀ {a b : Role}, a.s = b.s → a = b := by
  intro a b h
  cases a <;> cases b <;> first | rfl | exact absurd (show Str.ofString _ = Str.ofString _ from h) (by decide +kernel)
structure Op where
  name : Str
  role : Role
  left : Int
  right : Int
  loose : Bool
  assoc : Bool
def Op.l (o : Op) : D := match o.role with
  | .pre => .non
  | _ => .int o.left
def Op.r (o : Op) : D := match o.role with
  | .post => .non
  | _ => .int o.right
def Op.d (o : Op) : D := .tup [.str o.name, .str o.role.s, o.l, o.r, .bl o.loose, .bl o.assoc]
def Op.ar (o : Op) : Nat := match o.role with
  | .inf => 2
  | _ => 1
def arO (ops : List Op) : Nat → Option Nat := fun n => (ops[n]?).map Op.ar
def asO (ops : List Op) : Nat → Bool := fun n => match ops[n]? with
  | some o => o.assoc
  | none => false
/-- the numbers of the operators of a role -/
def rolesOf (ops : List Op) (r : Role) : List Nat := (List.range ops.length).filter fun k => decide ((ops[k]?).map Op.role = some r)
theorem rolesOf_mem {ops : List Op} {r : Role} {k : Nat} (h : k ∈ rolesOf ops r) : ∃ o, ops[k]? = some o ∧ o.role = r := by
  have := of_decide_eq_true (List.mem_filter.mp h).2
  obtain ⟨o, e1, e2⟩ := Option.map_eq_some_iff.mp this
  exact ⟨o, e1, e2⟩
theorem rolesOf_len (ops : List Op) (r : Role) : (rolesOf ops r).length ≤ ops.length := by
  have := List.length_filter_le (fun k => decide ((ops[k]?).map Op.role = some r)) (List.range ops.length)
  rw [List.length_range] at this
  exact this
def nat (k : Nat) : D := .int (k : Int)
/-- a cell that shows this list -/
inductive LS (ds : List D) : O → Prop where
  | v : LS ds (.v (.lst ds))
  | l : LS ds (.l ds)
theorem seqIx {r : Int} {n : Nat} (h0 : 0 ≤ r) (h1 : r < n) : PySem.seqIndex? r n = some r.toNat := by
  have e : ¬ r < 0 := by omega
  have e2 : (decide (0 ≤ r) && decide (r < n)) = true := by simp [h0, h1]
  unfold PySem.seqIndex?
  simp only [if_neg e]
  rw [if_pos e2]
theorem wifST {a b : String} {A B : Prop} (e : decide (Str.ofString a = Str.ofString b) = true) (h : A) : if decide (Str.ofString a = Str.ofString b) = true then A else B := by rw [if_pos e]; exact h
theorem wifSF {a b : String} {A B : Prop} (e : decide (Str.ofString a = Str.ofString b) = false) (h : B) : if decide (Str.ofString a = Str.ofString b) = true then A else B := by rw [if_neg (by rw [e]; decide)]; exact h
theorem wifNST {a b : String} {A B : Prop} (e : decide (Str.ofString a = Str.ofString b) = false) (h : A) : if (!decide (Str.ofString a = Str.ofString b)) = true then A else B := by rw [if_pos (by rw [e]; rfl)]; exact h
theorem wifNSF {a b : String} {A B : Prop} (e : decide (Str.ofString a = Str.ofString b) = true) (h : B) : if (!decide (Str.ofString a = Str.ofString b)) = true then A else B := by rw [if_neg (by rw [e]; decide)]; exact h
/-- a text compared with a mark -/
theorem strNe {a b : Str} (h : decide (a = b) = false) : ¬ a = b := of_decide_eq_false h
end Mr

end
section
set_option Elab.async false
set_option linter.all false
set_option maxRecDepth 100000
set_option maxHeartbeats 4000000
/-! MrTe: a node replaced, by places. -/
namespace Mr
open PySem PySem.Spec L2
namespace T
theorem offs_shift : ∀ (p d : Nat) (ts : List T), offs (p + d) ts = (offs p ts).map (· + d)
  | _, _, [] => rfl
  | p, d, t :: ts => by
    rw [offs, offs, List.map_cons, ← offs_shift, show p + d + sz t = p + sz t + d by omega]
mutual
theorem pre_par : ∀ (t : T) (c : Nat), 0 < c → c < sz t → ∃ k u, (pre t)[k]? = some u ∧ c ∈ offs (k + 1) u.ts
  | .mk m ts, 0, h, _ => absurd h (by omega)
  | .mk m ts, c + 1, _, h => by
    rw [sz] at h
    rw [pre]
    rcases pres_par ts 1 c (by omega) with q | ⟨k, u, q1, q2⟩
    · exact ⟨0, .mk m ts, rfl, by rw [show c + 1 = 1 + c by omega]; exact q⟩
    · refine ⟨k + 1, u, by simpa using q1, ?_⟩
      rw [offs_shift]
      exact List.mem_map.mpr ⟨c, q2, rfl⟩
theorem pres_par : ∀ (ts : List T) (p c : Nat), c < szs ts → (p + c) ∈ offs p ts ∨ ∃ k u, (pres ts)[k]? = some u ∧ c ∈ offs (k + 1) u.ts
  | [], p, c, h => by simp [szs] at h
  | t :: ts, p, c, h => by
    rw [szs] at h
    rw [pres, offs]
    by_cases hc : c < sz t
    · by_cases h0 : c = 0
      · left; rw [h0]; exact List.mem_cons_self
      · obtain ⟨k, u, q1, q2⟩ := pre_par t c (by omega) hc
        have hk := (List.getElem?_eq_some_iff.mp q1).1
        exact .inr ⟨k, u, by rw [List.getElem?_append_left hk]; exact q1, q2⟩
    · rcases pres_par ts (p + sz t) (c - sz t) (by omega) with q | ⟨k, u, q1, q2⟩
      · left
        rw [show p + sz t + (c - sz t) = p + c by omega] at q
        exact List.mem_cons_of_mem _ q
      · right
        refine ⟨sz t + k, u, ?_, ?_⟩
        · rw [List.getElem?_append_right (by rw [pre_len]; omega), pre_len, show sz t + k - sz t = k by omega]
          exact q1
        · rw [show sz t + k + 1 = k + 1 + sz t by omega, offs_shift]
          exact List.mem_map.mpr ⟨c - sz t, q2, by omega⟩
end
/-- the parts, one of them with a node replaced -/
theorem swap_parts {B : Nat → D} {n c : Nat} {part v : T} : ∀ {ts : List T} {p q : Nat}, (offs p ts)[q]? = some c → ts[q]? = some v → c ≤ n → n < c + sz v → B c = enc (repl v (n - c) part) →
    (∀ (r x : Nat) (u : T), (offs p ts)[r]? = some x → ts[r]? = some u → x ≠ c → B x = enc u) → (offs p ts).map B = encs (repls ts (n - p) part)
  | [], p, q, h, _, _, _, _, _ => by simp [offs] at h
  | t :: ts, p, 0, h, hv, h1, h2, h3, h4 => by
    simp only [offs, List.getElem?_cons_zero, Option.some.injEq] at h hv
    subst h hv
    rw [offs, List.map_cons, repls, if_pos (by omega), encs, h3]
    congr 1
    rw [encs_map]
    refine List.ext_getElem? fun r => ?_
    rw [List.getElem?_map, List.getElem?_map]
    cases e : ts[r]? with
    | none => rw [List.getElem?_eq_none (by rw [offs_len]; exact List.getElem?_eq_none_iff.mp e)]; rfl
    | some u =>
      have hr := (List.getElem?_eq_some_iff.mp e).1
      have hrl : r < (offs (p + sz t) ts).length := by rw [offs_len]; exact hr
      have hx : (offs (p + sz t) ts)[r]? = some ((offs (p + sz t) ts)[r]'hrl) := List.getElem?_eq_getElem hrl
      rw [hx]
      have hge := offs_ge (List.mem_of_getElem? hx)
      have := sz_pos t
      rw [Option.map_some, Option.map_some, h4 (r + 1) _ u (by simpa [offs] using hx) (by simpa using e) (by omega)]
  | t :: ts, p, q + 1, h, hv, h1, h2, h3, h4 => by
    have h' : (offs (p + sz t) ts)[q]? = some c := by simpa [offs] using h
    have hge := offs_ge (List.mem_of_getElem? h')
    rw [offs, List.map_cons, repls, if_neg (by omega), encs, h4 0 p t (by simp [offs]) rfl (by have := sz_pos t; omega)]
    congr 1
    rw [swap_parts (q := q) h' (by simpa using hv) h1 h2 h3 fun r x u a b => h4 (r + 1) x u (by simpa [offs] using a) (by simpa using b)]
    congr 2
    omega
/-- a place of a part, and how far its nodes reach -/
theorem offs_reach : ∀ {p q c : Nat} {v : T} {ts : List T}, (offs p ts)[q]? = some c → ts[q]? = some v → p ≤ c ∧ c + sz v ≤ p + szs ts
  | p, q, c, v, [], h, _ => by simp [offs] at h
  | p, 0, c, v, t :: ts, h, hv => by
    simp only [offs, List.getElem?_cons_zero, Option.some.injEq] at h hv
    subst h hv
    rw [szs]; omega
  | p, q + 1, c, v, t :: ts, h, hv => by
    have := offs_reach (p := p + sz t) (q := q) (by simpa [offs] using h) (by simpa using hv)
    rw [szs]; omega
/-- two parts' places lie apart -/
theorem offs_apart : ∀ {p q r c x : Nat} {v : T} {ts : List T}, (offs p ts)[q]? = some c → ts[q]? = some v → (offs p ts)[r]? = some x → x ≠ c → x < c ∨ c + sz v ≤ x
  | p, q, r, c, x, v, [], h, _, _, _ => by simp [offs] at h
  | p, 0, r, c, x, v, t :: ts, h, hv, hx, hn => by
    simp only [offs, List.getElem?_cons_zero, Option.some.injEq] at h hv
    subst h hv
    cases r with
    | zero => simp only [offs, List.getElem?_cons_zero, Option.some.injEq] at hx; omega
    | succ r =>
      have := offs_ge (List.mem_of_getElem? (show (offs (p + sz t) ts)[r]? = some x by simpa [offs] using hx))
      omega
  | p, q + 1, r, c, x, v, t :: ts, h, hv, hx, hn => by
    have h' : (offs (p + sz t) ts)[q]? = some c := by simpa [offs] using h
    have hge := offs_ge (List.mem_of_getElem? h')
    cases r with
    | zero =>
      simp only [offs, List.getElem?_cons_zero, Option.some.injEq] at hx
      have := sz_pos t
      omega
    | succ r => exact offs_apart (q := q) h' (by simpa using hv) (by simpa [offs] using hx) hn
end T
theorem any_nat {c : Nat} : ∀ {r : List Nat}, ((r.map nat).any fun e => eqF e (.int (c : Int))) = true ↔ c ∈ r
  | [] => by simp
  | x :: r => by
    rw [List.map_cons, List.any_cons, Bool.or_eq_true, any_nat, List.mem_cons]
    have : eqF (nat x) (.int (c : Int)) = true ↔ c = x := by
      have e : eqF (nat x) (.int (c : Int)) = ((x : Int) == (c : Int)) := rfl
      rw [e, beq_iff_eq]
      omega
    rw [this]
theorem flat_nat (r : List Nat) : (r.map nat).all flatD = true := by
  rw [List.all_eq_true]
  intro d hd
  obtain ⟨x, _, rfl⟩ := List.mem_map.mp hd
  rfl
end Mr

end
section
set_option Elab.async false
set_option linter.all false
set_option maxRecDepth 100000
set_option maxHeartbeats 4000000
/-! MrTf: tables; heads of flat nodes as data. -/
namespace Mr
open PySem PySem.Spec L2
/-- the data shows a table of these operators -/
def IsTab (ops : List Op) (ns : List Str) (ds : List D) : Prop := insAt "kept_ops" ns ds = some (.tup (ops.map Op.d))
def AssocInf (ops : List Op) : Prop := ∀ o ∈ ops, o.assoc = true → o.role = .inf
theorem arO_some {ops : List Op} {n l : Nat} (h : arO ops n = some l) : ∃ o, ops[n]? = some o ∧ o.ar = l := Option.map_eq_some_iff.mp h
theorem arO_assoc {ops : List Op} {n l : Nat} (ha : AssocInf ops) (h : arO ops n = some l) (h2 : asO ops n = true) : l = 2 := by
  obtain ⟨o, e1, e2⟩ := arO_some h
  unfold asO at h2
  rw [e1] at h2
  have := ha o (List.mem_of_getElem? e1) h2
  rw [← e2]
  unfold Op.ar
  rw [this]
def ownD : Mk → D
  | .a w => .str w | .h i => .int i | .k w => .str w | .b => .str (Str.ofString "") | .o n => .int n | .c f => .str f
def hdD (p : Mk × Nat) : D := .tup [.str p.1.s, ownD p.1, .int p.2]
theorem hdD_inj {p q : Mk × Nat} (h : hdD p = hdD q) : p = q := by
  obtain ⟨m, l⟩ := p
  obtain ⟨m', l'⟩ := q
  unfold hdD at h
  simp only [D.tup.injEq, List.cons.injEq, D.str.injEq, D.int.injEq, and_true] at h
  obtain ⟨h1, h2, h3⟩ := h
  have hl : l = l' := by omega
  subst hl
  cases m <;> cases m' <;> first
    | (exact absurd (show Str.ofString _ = Str.ofString _ from h1) (by decide +kernel))
    | rfl
    | (simp only [ownD, D.str.injEq] at h2; rw [h2])
    | (simp only [ownD, D.int.injEq] at h2; first | rw [h2] | (have : _ = _ := Int.ofNat.inj h2; rw [this]))
theorem hdDs_inj : ∀ {a b : List (Mk × Nat)}, a.map hdD = b.map hdD → a = b
  | [], [], _ => rfl
  | [], _ :: _, h => by simp at h
  | _ :: _, [], h => by simp at h
  | p :: a, q :: b, h => by
    simp only [List.map_cons, List.cons.injEq] at h
    rw [hdD_inj h.1, hdDs_inj h.2]
theorem hdD_pl {m : Mk} {l : Nat} (h : m.wOk) : plB (hdD (m, l)) = true := by
  unfold hdD
  simp only [plB, plBs, T.s_ok, Bool.true_and, Bool.and_true]
  cases m <;> simp only [ownD, plB] <;> first | rfl | exact h.1 | decide +kernel
theorem hdD_dp (p : Mk × Nat) : dpD (hdD p) ≤ 1 := by
  obtain ⟨m, l⟩ := p
  unfold hdD
  cases m <;> simp [dpD, dpDs, ownD]
namespace T
theorem mems_cons2 (n : Nat) (a b : T) : mems n [a, b] = mem n a ++ mem n b := by simp [mems]
/-- the stack's members -/
theorem W.m {t : T} (h : W t) : t.m.wOk := by cases t; rw [W] at h; exact h.1
theorem walk_W {as : Nat → Bool} {S r : List T} (w : Walk as S r) : (∀ u ∈ S, W u) → ∀ u ∈ r, W u := by
  induction w with
  | nil => intro _ u hu; cases hu
  | cons h ih =>
    rename_i t S r
    intro hS u hu
    rcases List.mem_cons.mp hu with e | hu
    · rw [e]; exact hS t List.mem_cons_self
    · refine ih (fun v hv => ?_) u hu
      rcases List.mem_append.mp hv with hv | hv
      · exact pre_W (hS t List.mem_cons_self) v (grp_in hv)
      · exact hS v (List.mem_cons_of_mem _ hv)
end T
/-- the stacks of a walk -/
theorem T.walk_st {as : Nat → Bool} {S r : List T} (w : T.Walk as S r) : ∃ st : Nat → List T, st 0 = S ∧ st r.length = [] ∧ (∀ k u, r[k]? = some u → ∃ S', st k = u :: S' ∧ st (k + 1) = T.grp as u ++ S') ∧ ∀ k, k ≤ r.length → T.szs (st k) ≤ T.szs S := by
  induction w with
  | nil => exact ⟨fun _ => [], rfl, rfl, fun k u h => by simp at h, fun _ _ => Nat.le_refl _⟩
  | cons h ih =>
    rename_i t S r
    obtain ⟨st, h0, h1, h2, h3⟩ := ih
    refine ⟨fun k => match k with | 0 => t :: S | k + 1 => st k, rfl, h1, fun k u hu => ?_, fun k hk => ?_⟩
    · cases k with
      | zero =>
        cases (Option.some.inj hu : t = u)
        exact ⟨S, rfl, h0⟩
      | succ k => exact h2 k u (by simpa using hu)
    · cases k with
      | zero => exact Nat.le_refl _
      | succ k =>
        have := h3 k (by simpa using hk)
        have hg := T.grp_sz as t
        rw [T.szs_app] at this
        show T.szs (st k) ≤ _
        rw [T.szs]; omega
/-! ### items of a node -/
section
variable {P : O → Prop}
theorem ixE_of {t : T} {i : Int} {r : D} (e : ixD (T.enc t) (.int i) = some (.s r)) (h : P (.v r)) : WR (ixD (T.enc t) (.int i)) P := ⟨_, e, h⟩
theorem ixD_enc0 (t : T) : ixD (T.enc t) (.int 0) = some (.s (.str t.m.s)) := by
  obtain ⟨m, ts⟩ := t
  rw [T.enc]
  show (L2.atI _ (0 : Int)).map Res.s = _
  rw [show (0 : Int) = ((0 : Nat) : Int) from rfl, atI_nat (j := 0) (v := .str m.s) rfl]
  rfl
theorem ixD_enc1 {m : Mk} {ts : List T} {d : D} (h : (m.d (T.encs ts))[0]? = some d) : ixD (T.enc (.mk m ts)) (.int 1) = some (.s d) := by
  rw [T.enc]
  show (L2.atI _ (1 : Int)).map Res.s = _
  rw [show (1 : Int) = ((1 : Nat) : Int) from rfl, atI_nat (j := 1) (v := d) h]
  rfl
theorem ixD_enc2 {m : Mk} {ts : List T} {d : D} (h : (m.d (T.encs ts))[1]? = some d) : ixD (T.enc (.mk m ts)) (.int 2) = some (.s d) := by
  rw [T.enc]
  show (L2.atI _ (2 : Int)).map Res.s = _
  rw [show (2 : Int) = ((2 : Nat) : Int) from rfl, atI_nat (j := 2) (v := d) h]
  rfl
theorem wr_ixEa {w : Str} {ts : List T} (h : P (.v (.str (Str.ofString "a")))) : WR (ixD (T.enc (.mk (.a w) ts)) (.int 0)) P := ixE_of (ixD_enc0 _) h
theorem wr_ixEh {w : Int} {ts : List T} (h : P (.v (.str (Str.ofString "h")))) : WR (ixD (T.enc (.mk (.h w) ts)) (.int 0)) P := ixE_of (ixD_enc0 _) h
theorem wr_ixEk {w : Str} {ts : List T} (h : P (.v (.str (Str.ofString "k")))) : WR (ixD (T.enc (.mk (.k w) ts)) (.int 0)) P := ixE_of (ixD_enc0 _) h
theorem wr_ixEb {ts : List T} (h : P (.v (.str (Str.ofString "b")))) : WR (ixD (T.enc (.mk .b ts)) (.int 0)) P := ixE_of (ixD_enc0 _) h
theorem wr_ixEo {n : Nat} {ts : List T} (h : P (.v (.str (Str.ofString "o")))) : WR (ixD (T.enc (.mk (.o n) ts)) (.int 0)) P := ixE_of (ixD_enc0 _) h
theorem wr_ixEc {w : Str} {ts : List T} (h : P (.v (.str (Str.ofString "c")))) : WR (ixD (T.enc (.mk (.c w) ts)) (.int 0)) P := ixE_of (ixD_enc0 _) h
theorem wr_ixE {t : T} (h : P (.v (.str t.m.s))) : WR (ixD (T.enc t) (.int 0)) P := ixE_of (ixD_enc0 t) h
theorem wr_ixEa1 {w : Str} {ts : List T} (h : P (.v (.str w))) : WR (ixD (T.enc (.mk (.a w) ts)) (.int 1)) P := ixE_of (ixD_enc1 rfl) h
theorem wr_ixEh1 {w : Int} {ts : List T} (h : P (.v (.int w))) : WR (ixD (T.enc (.mk (.h w) ts)) (.int 1)) P := ixE_of (ixD_enc1 rfl) h
theorem wr_ixEk1 {w : Str} {ts : List T} (h : P (.v (.str w))) : WR (ixD (T.enc (.mk (.k w) ts)) (.int 1)) P := ixE_of (ixD_enc1 rfl) h
theorem wr_ixEb1 {u : T} (h : P (.v (T.enc u))) : WR (ixD (T.enc (.mk .b [u])) (.int 1)) P := ixE_of (ixD_enc1 rfl) h
theorem wr_ixEo1 {n : Nat} {ts : List T} (h : P (.v (.int (n : Int)))) : WR (ixD (T.enc (.mk (.o n) ts)) (.int 1)) P := ixE_of (ixD_enc1 rfl) h
theorem wr_ixEc1 {w : Str} {ts : List T} (h : P (.v (.str w))) : WR (ixD (T.enc (.mk (.c w) ts)) (.int 1)) P := ixE_of (ixD_enc1 rfl) h
theorem wr_ixEo2 {n : Nat} {ts : List T} (h : P (.v (.tup (T.encs ts)))) : WR (ixD (T.enc (.mk (.o n) ts)) (.int 2)) P := ixE_of (ixD_enc2 rfl) h
theorem wr_ixEc2 {w : Str} {ts : List T} (h : P (.v (.tup (T.encs ts)))) : WR (ixD (T.enc (.mk (.c w) ts)) (.int 2)) P := ixE_of (ixD_enc2 rfl) h
end
/-- the mark says the sort -/
theorem ms_o {m : Mk} : m.s = Str.ofString "o" ↔ ∃ n, m = .o n := by
  cases m <;> first
    | (exact ⟨fun h => absurd (show Str.ofString _ = Str.ofString _ from h) (by decide +kernel), fun ⟨n, h⟩ => by cases h⟩)
    | exact ⟨fun _ => ⟨_, rfl⟩, fun _ => rfl⟩
theorem ms_b {m : Mk} : m.s = Str.ofString "b" ↔ m = .b := by
  cases m <;> first
    | (exact ⟨fun h => absurd (show Str.ofString _ = Str.ofString _ from h) (by decide +kernel), fun h => by cases h⟩)
    | exact ⟨fun _ => rfl, fun _ => rfl⟩
end Mr

end
section
set_option Elab.async false
set_option linter.all false
set_option maxRecDepth 100000
set_option maxHeartbeats 4000000
namespace K8
open PySem PySem.Spec PyProof.Rows L2 Mr
noncomputable section
def top (i : Nat) : Stmt := PySem.Challenge.pw_textortree_k08_flat_trees.main.body.getD i (.Pass ⟨0, 0, 0, 0⟩)
def clsB : Stmt → List Stmt
  | .ClassDef _ _ _ b _ _ _ _ _ _ _ => b
  | _ => []
def sub (i j : Nat) : Stmt := (clsB (top i)).getD j (.Pass ⟨0, 0, 0, 0⟩)
/-- what the top has left of the built-ins and constants -/
structure Fac (K : PySem.W.Frag) (mg : Str → Option Value) : Prop where
  b_all : mg "all" = none
  b_bool : mg "bool" = none
  b_dict : mg "dict" = none
  b_enumerate : mg "enumerate" = none
  b_int : mg "int" = none
  b_isinstance : mg "isinstance" = none
  b_len : mg "len" = none
  b_list : mg "list" = none
  b_max : mg "max" = none
  b_min : mg "min" = none
  b_range : mg "range" = none
  b_reversed : mg "reversed" = none
  b_str : mg "str" = none
  b_tuple : mg "tuple" = none
  s_MARKS : ∃ t, mg "MARKS" = some (.str (Str.ofString "+-*/<>=!?&|^~:.@$") t)
  s_SMALL_LETTERS : ∃ t, mg "SMALL_LETTERS" = some (.str (Str.ofString "abcdefghijklmnopqrstuvwxyz") t)
  s_WORD_SIGNS : ∃ t, mg "WORD_SIGNS" = some (.str (Str.ofString "abcdefghijklmnopqrstuvwxyz0123456789") t)
  t_ROLES : ∃ a, mg "ROLES" = some (.ref a) ∧ ∀ H : Hp, SqT K H a ([Str.ofString "infix", Str.ofString "prefix", Str.ofString "postfix"].map V.str)
  i_MOST_OPERATORS : ∃ t, mg "MOST_OPERATORS" = some (.int 10 t)
  i_MOST_STRENGTH : ∃ t, mg "MOST_STRENGTH" = some (.int 1000000 t)
  c_Table : Cls K (He.ga K "Table")
  n_Table_fore_numbers : NoAttr K (He.ga K "Table") "fore_numbers"
  n_Table_kept_ops : NoAttr K (He.ga K "Table") "kept_ops"
  n_Table_rear_numbers : NoAttr K (He.ga K "Table") "rear_numbers"
/-! parts_of -/
abbrev N_parts_of : List Str := ["tree", "mark"]
abbrev P_parts_of : List Str := ["tree"]
theorem sc_parts_of : FnScope N_parts_of P_parts_of (defScope (top 9)) := ⟨rfl, rfl, rfl, by decide +kernel, rfl, by decide +kernel, by decide +kernel⟩
def mb_parts_of : MS := s_seq (s_set 1 (m_op2 ixD (p_nm 0) (p_ex (m_c (.int 0))))) (s_seq (s_if (m_tst (m_op2 eqPD (p_nm 1) (p_ex (m_c (.str (Str.ofString "b")))))) (s_ret (m_tup (a_cons (m_it (m_op2 ixD (p_nm 0) (p_ex (m_c (.int 1))))) (a_nil)))) (s_nop)) (s_seq (s_if (m_or (m_tst (m_op2 eqPD (p_nm 1) (p_ex (m_c (.str (Str.ofString "o")))))) (m_tst (m_op2 eqPD (p_nm 1) (p_ex (m_c (.str (Str.ofString "c"))))))) (s_ret (m_op2 ixD (p_nm 0) (p_ex (m_c (.int 2))))) (s_nop)) (s_ret (m_tup (a_nil)))))
def g_parts_of : List O → Option (O × List O) := fnM 2 1 [0] mb_parts_of
theorem ok_parts_of {P : Program} {w : World} {K : PySem.W.Frag} {mg : Str → Option Value} {base : Heap} (fac : Fac K mg) {f : Addr} {fd : FuncData} (F : FunD K "parts_of" "parts_of" (defArgs (top 9)) (defBody (top 9)) (defScope (top 9)) [] [] f fd)  :
    FnOk P w K mg base CX0 101 f fd P_parts_of (spM K 1 g_parts_of) :=
  fn_ok (k := 100) (N := N_parts_of) (ps := P_parts_of) (m := mb_parts_of) [0] F sc_parts_of (rss_cons (rs_set 1 (re_ix rIx (fun X => ix_seq) ixD_ok (rp_nm 0) (rp_ex (re_int)))) (rss_cons (rs_if (rt_cmpP rEqP (fun X h => op_eqP X h) eqPD_ok.1 (Nat.le_of_ble_eq_true rfl) (rp_nm 1) (rp_ex (re_str)) (nomark _)) (rss_one (rs_ret (re_tup (ra_cons (rp_it (re_ix rIx (fun X => ix_seq) ixD_ok (rp_nm 0) (rp_ex (re_int)))) (ra_nil))))) (rss_nil)) (rss_cons (rs_if (rt_bool (rw_or (rt_cmpP rEqP (fun X h => op_eqP X h) eqPD_ok.1 (Nat.le_of_ble_eq_true rfl) (rp_nm 1) (rp_ex (re_str)) (nomark _)) (rw_or1 (rt_cmpP rEqP (fun X h => op_eqP X h) eqPD_ok.1 (Nat.le_of_ble_eq_true rfl) (rp_nm 1) (rp_ex (re_str)) (nomark _))))) (rss_one (rs_ret (re_ix rIx (fun X => ix_seq) ixD_ok (rp_nm 0) (rp_ex (re_int))))) (rss_nil)) (rss_one (rs_ret (re_tup (ra_nil)))))))
/-! made_of -/
abbrev N_made_of : List Str := ["text", "signs", "most", "sign"]
abbrev P_made_of : List Str := ["text", "signs", "most"]
theorem sc_made_of : FnScope N_made_of P_made_of (defScope (top 17)) := ⟨rfl, rfl, rfl, by decide +kernel, rfl, by decide +kernel, by decide +kernel⟩
def mb_made_of : MS := s_seq (s_if (m_not (m_tst (m_chain leD leD (p_ex (m_c (.int 1))) (p_ex (m_bi lenD (a_cons (p_nm 0) (a_nil)))) (p_nm 2)))) (s_ret (m_c (.bl false))) (s_nop)) (s_ret (m_bi allD (a_cons (p_ex (m_lc [3] (i_seq (m_var 0)) (g_name 3) (m_yes) (m_op2 inD (p_nm 3) (p_nm 1)))) (a_nil))))
def g_made_of : List O → Option (O × List O) := fnM 4 3 [0, 1, 2] mb_made_of
theorem ok_made_of {P : Program} {w : World} {K : PySem.W.Frag} {mg : Str → Option Value} {base : Heap} (fac : Fac K mg) {f : Addr} {fd : FuncData} (F : FunD K "made_of" "made_of" (defArgs (top 17)) (defBody (top 17)) (defScope (top 17)) [] [] f fd)  :
    FnOk P w K mg base CX0 101 f fd P_made_of (spM K 3 g_made_of) :=
  fn_ok (k := 100) (N := N_made_of) (ps := P_made_of) (m := mb_made_of) [0, 1, 2] F sc_made_of (rss_cons (rs_if (rt_not (rt_chain (fun _ => rI0 fun i j => .bl (decide (i ≤ j))) (fun _ => rI0 fun i j => .bl (decide (i ≤ j))) (fun X h => op_leA X h) (fun X h => op_leA X h) leD_ok leD_ok (rp_ex (re_int)) (rp_ex (re_bi rLenA (fun X h => cb_len X h) lenD_ok fac.b_len (by decide +kernel) (ra_cons (rp_nm 0) (ra_nil)))) (rp_nm 2))) (rss_one (rs_ret (re_bl))) (rss_nil)) (rss_one (rs_ret (re_bi rAll (fun X h => cb_all X h) allD_ok fac.b_all (by decide +kernel) (ra_cons (rp_ex (re_lc (own := [(("sign" : Str), 3)]) (ri_seq (re_var 0)) (rg_name 3) (rts_nil) (re_cmp rInA (fun X h => op_inA X h) inD_ok (rp_nm 3) (rp_nm 1) rfl))) (ra_nil))))))
/-! fits_strength -/
abbrev N_fits_strength : List Str := ["asked", "value"]
abbrev P_fits_strength : List Str := ["asked", "value"]
theorem sc_fits_strength : FnScope N_fits_strength P_fits_strength (defScope (top 21)) := ⟨rfl, rfl, rfl, by decide +kernel, rfl, by decide +kernel, by decide +kernel⟩
def mb_fits_strength : MS := s_seq (s_if (m_not (m_tru (p_nm 0))) (s_ret (m_op2 isnD (p_nm 1) (p_ex (m_c .non)))) (s_nop)) (s_seq (s_if (m_or (m_tru (p_ex (m_bi isiD (a_cons (p_nm 1) (a_cons (p_ex (m_c (.ty "bool"))) (a_nil)))))) (m_not (m_tru (p_ex (m_bi isiD (a_cons (p_nm 1) (a_cons (p_ex (m_c (.ty "int"))) (a_nil)))))))) (s_ret (m_c (.bl false))) (s_nop)) (s_ret (m_chain leD leD (p_ex (m_c (.int 0))) (p_nm 1) (p_ex (m_c (.int 1000000))))))
def g_fits_strength : List O → Option (O × List O) := fnM 2 2 [0, 1] mb_fits_strength
theorem ok_fits_strength {P : Program} {w : World} {K : PySem.W.Frag} {mg : Str → Option Value} {base : Heap} (fac : Fac K mg) {f : Addr} {fd : FuncData} (F : FunD K "fits_strength" "fits_strength" (defArgs (top 21)) (defBody (top 21)) (defScope (top 21)) [] [] f fd)  :
    FnOk P w K mg base CX0 101 f fd P_fits_strength (spM K 2 g_fits_strength) :=
  fn_ok (k := 100) (N := N_fits_strength) (ps := P_fits_strength) (m := mb_fits_strength) [0, 1] F sc_fits_strength (rss_cons (rs_if (rt_not (rt_tru (rp_nm 0))) (rss_one (rs_ret (re_cmp (fun _ => fun x y H Q => y = .non ∧ Q (.bl (decide (x = .non))) H) (fun X h => op_isA X h) isnD_ok (rp_nm 1) (rp_ex (re_non)) (nomark _)))) (rss_nil)) (rss_cons (rs_if (rt_bool (rw_or (rt_tru (rp_ex (re_bi rIsi (fun X h => cb_isi X h) isiD_ok fac.b_isinstance (by decide +kernel) (ra_cons (rp_nm 1) (ra_cons (rp_ex (re_tyc fac.b_bool (by decide +kernel))) (ra_nil)))))) (rw_or1 (rt_not (rt_tru (rp_ex (re_bi rIsi (fun X h => cb_isi X h) isiD_ok fac.b_isinstance (by decide +kernel) (ra_cons (rp_nm 1) (ra_cons (rp_ex (re_tyc fac.b_int (by decide +kernel))) (ra_nil)))))))))) (rss_one (rs_ret (re_bl))) (rss_nil)) (rss_one (rs_ret (re_chain (fun _ => rI0 fun i j => .bl (decide (i ≤ j))) (fun _ => rI0 fun i j => .bl (decide (i ≤ j))) (fun X h => op_leA X h) (fun X h => op_leA X h) leD_ok leD_ok (rp_ex (re_int)) (rp_nm 1) (rp_ex (re_gintE fac.i_MOST_STRENGTH)))))))
/-! has_clash -/
abbrev N_has_clash : List Str := ["ops", "k", "other", "same_place"]
abbrev P_has_clash : List Str := ["ops", "k"]
theorem sc_has_clash : FnScope N_has_clash P_has_clash (defScope (top 23)) := ⟨rfl, rfl, rfl, by decide +kernel, rfl, by decide +kernel, by decide +kernel⟩
def mb_has_clash : MS := s_seq (s_for (i_seq (m_sl slD (p_nm 0) (o_none) (o_some (p_nm 1)))) (g_name 2) (s_seq (s_set 3 (m_op2 eqPD (p_ex (m_op2 eqPD (p_ex (m_op2 ixD (p_nm 2) (p_ex (m_c (.int 1))))) (p_ex (m_c (.str (Str.ofString "prefix")))))) (p_ex (m_op2 eqPD (p_ex (m_op2 ixD (p_ex (m_op2 ixD (p_nm 0) (p_nm 1))) (p_ex (m_c (.int 1))))) (p_ex (m_c (.str (Str.ofString "prefix")))))))) (s_if (m_and (m_tst (m_op2 eqPD (p_ex (m_op2 ixD (p_nm 2) (p_ex (m_c (.int 0))))) (p_ex (m_op2 ixD (p_ex (m_op2 ixD (p_nm 0) (p_nm 1))) (p_ex (m_c (.int 0))))))) (m_tru (p_nm 3))) (s_ret (m_c (.bl true))) (s_nop)))) (s_ret (m_c (.bl false)))
def g_has_clash : List O → Option (O × List O) := fnM 4 2 [0, 1] mb_has_clash
theorem ok_has_clash {P : Program} {w : World} {K : PySem.W.Frag} {mg : Str → Option Value} {base : Heap} (fac : Fac K mg) {f : Addr} {fd : FuncData} (F : FunD K "has_clash" "has_clash" (defArgs (top 23)) (defBody (top 23)) (defScope (top 23)) [] [] f fd)  :
    FnOk P w K mg base CX0 101 f fd P_has_clash (spM K 2 g_has_clash) :=
  fn_ok (k := 100) (N := N_has_clash) (ps := P_has_clash) (m := mb_has_clash) [0, 1] F sc_has_clash (rss_cons (rs_for (vs := [2]) (ri_seq (re_sl rSlA (fun X => sl_any X) slD_ok (rp_nm 0) (ro_none) (ro_some (rp_nm 1)))) (rg_name 2) (rss_cons (rs_set 3 (re_cmpP rEqP (fun X h => op_eqP X h) eqPD_ok.1 (Nat.le_of_ble_eq_true rfl) (rp_ex (re_cmpP rEqP (fun X h => op_eqP X h) eqPD_ok.1 (Nat.le_of_ble_eq_true rfl) (rp_ex (re_ix rIx (fun X => ix_seq) ixD_ok (rp_nm 2) (rp_ex (re_int)))) (rp_ex (re_str)) (nomark _))) (rp_ex (re_cmpP rEqP (fun X h => op_eqP X h) eqPD_ok.1 (Nat.le_of_ble_eq_true rfl) (rp_ex (re_ix rIx (fun X => ix_seq) ixD_ok (rp_ex (re_ix rIx (fun X => ix_seq) ixD_ok (rp_nm 0) (rp_nm 1))) (rp_ex (re_int)))) (rp_ex (re_str)) (nomark _))) (nomark _))) (rss_one (rs_if (rt_bool (rw_and (rt_cmpP rEqP (fun X h => op_eqP X h) eqPD_ok.1 (Nat.le_of_ble_eq_true rfl) (rp_ex (re_ix rIx (fun X => ix_seq) ixD_ok (rp_nm 2) (rp_ex (re_int)))) (rp_ex (re_ix rIx (fun X => ix_seq) ixD_ok (rp_ex (re_ix rIx (fun X => ix_seq) ixD_ok (rp_nm 0) (rp_nm 1))) (rp_ex (re_int)))) (nomark _)) (rw_and1 (rt_tru (rp_nm 3))))) (rss_one (rs_ret (re_bl))) (rss_nil))))) (rss_one (rs_ret (re_bl))))
/-! refuse_equal_strengths -/
abbrev N_refuse_equal_strengths : List Str := ["ops", "lefts", "rights", "k", "op"]
abbrev P_refuse_equal_strengths : List Str := ["ops"]
theorem sc_refuse_equal_strengths : FnScope N_refuse_equal_strengths P_refuse_equal_strengths (defScope (top 24)) := ⟨rfl, rfl, rfl, by decide +kernel, rfl, by decide +kernel, by decide +kernel⟩
def mb_refuse_equal_strengths : MS := s_seq (s_set 1 (m_lc [4] (i_seq (m_var 0)) (g_name 4) (m_tst (m_op2 nsnD (p_ex (m_op2 ixD (p_nm 4) (p_ex (m_c (.int 2))))) (p_ex (m_c .non)))) (m_op2 ixD (p_nm 4) (p_ex (m_c (.int 2)))))) (s_seq (s_set 2 (m_lc [4] (i_seq (m_var 0)) (g_name 4) (m_tst (m_op2 nsnD (p_ex (m_op2 ixD (p_nm 4) (p_ex (m_c (.int 3))))) (p_ex (m_c .non)))) (m_op2 ixD (p_nm 4) (p_ex (m_c (.int 3)))))) (s_for (i_enumA (m_var 0)) (g_tup 2 (gs_cons (g_name 3) (gs_cons (g_name 4) (gs_nil)))) (s_if (m_or (m_tst (m_op2 inD (p_ex (m_op2 ixD (p_nm 4) (p_ex (m_c (.int 2))))) (p_nm 2))) (m_tst (m_op2 inD (p_ex (m_op2 ixD (p_nm 4) (p_ex (m_c (.int 3))))) (p_nm 1)))) (s_no) (s_nop))))
def g_refuse_equal_strengths : List O → Option (O × List O) := fnM 5 1 [0] mb_refuse_equal_strengths
theorem ok_refuse_equal_strengths {P : Program} {w : World} {K : PySem.W.Frag} {mg : Str → Option Value} {base : Heap} (fac : Fac K mg) {f : Addr} {fd : FuncData} (F : FunD K "refuse_equal_strengths" "refuse_equal_strengths" (defArgs (top 24)) (defBody (top 24)) (defScope (top 24)) [] [] f fd)  :
    FnOk P w K mg base CX0 101 f fd P_refuse_equal_strengths (spM K 1 g_refuse_equal_strengths) :=
  fn_ok (k := 100) (N := N_refuse_equal_strengths) (ps := P_refuse_equal_strengths) (m := mb_refuse_equal_strengths) [0] F sc_refuse_equal_strengths (rss_cons (rs_setLc 1 (own := [(("op" : Str), 4)]) (ri_seq (re_var 0)) (rg_name 4) (rts_one (rt_cmp (fun _ => fun x y H Q => y = .non ∧ Q (.bl (!decide (x = .non))) H) (fun X h => op_nsA X h) nsnD_ok (rp_ex (re_ix rIx (fun X => ix_seq) ixD_ok (rp_nm 4) (rp_ex (re_int)))) (rp_ex (re_non)) (nomark _))) (re_ix rIx (fun X => ix_seq) ixD_ok (rp_nm 4) (rp_ex (re_int)))) (rss_cons (rs_setLc 2 (own := [(("op" : Str), 4)]) (ri_seq (re_var 0)) (rg_name 4) (rts_one (rt_cmp (fun _ => fun x y H Q => y = .non ∧ Q (.bl (!decide (x = .non))) H) (fun X h => op_nsA X h) nsnD_ok (rp_ex (re_ix rIx (fun X => ix_seq) ixD_ok (rp_nm 4) (rp_ex (re_int)))) (rp_ex (re_non)) (nomark _))) (re_ix rIx (fun X => ix_seq) ixD_ok (rp_nm 4) (rp_ex (re_int)))) (rss_one (rs_for (vs := [3, 4]) (ri_enumA fac.b_enumerate (re_var 0)) (rg_tup (rgs_cons (rg_name 3) (rgs_cons (rg_name 4) (rgs_nil)))) (rss_one (rs_if (rt_bool (rw_or (rt_cmp rInA (fun X h => op_inA X h) inD_ok (rp_ex (re_ix rIx (fun X => ix_seq) ixD_ok (rp_nm 4) (rp_ex (re_int)))) (rp_nm 2) rfl) (rw_or1 (rt_cmp rInA (fun X h => op_inA X h) inD_ok (rp_ex (re_ix rIx (fun X => ix_seq) ixD_ok (rp_nm 4) (rp_ex (re_int)))) (rp_nm 1) rfl)))) (rss_one (rs_no)) (rss_nil)))))))
/-! Table.ops -/
abbrev N_Table_ops : List Str := ["self"]
abbrev P_Table_ops : List Str := ["self"]
theorem sc_Table_ops : FnScope N_Table_ops P_Table_ops (defScope (sub 26 1)) := ⟨rfl, rfl, rfl, by decide +kernel, rfl, by decide +kernel, by decide +kernel⟩
def mb_Table_ops : MS := s_ret (m_op1 (propD "Table" "kept_ops") (p_nm 0))
def g_Table_ops : List O → Option (O × List O) := fnM 1 1 [0] mb_Table_ops
theorem ok_Table_ops {P : Program} {w : World} {K : PySem.W.Frag} {mg : Str → Option Value} {base : Heap} (fac : Fac K mg) {f : Addr} {fd : FuncData} (F : FunD K "ops" "Table.ops" (defArgs (sub 26 1)) (defBody (sub 26 1)) (defScope (sub 26 1)) [] [] f fd)  :
    FnOk P w K mg base CX0 101 f fd P_Table_ops (spM K 1 g_Table_ops) :=
  fn_ok (k := 100) (N := N_Table_ops) (ps := P_Table_ops) (m := mb_Table_ops) [0] F sc_Table_ops (rss_one (rs_ret (re_fldV "Table" fac.c_Table fac.n_Table_kept_ops (rp_nm 0))))
/-! is_node_of -/
abbrev N_is_node_of : List Str := ["tree", "number"]
abbrev P_is_node_of : List Str := ["tree", "number"]
theorem sc_is_node_of : FnScope N_is_node_of P_is_node_of (defScope (top 28)) := ⟨rfl, rfl, rfl, by decide +kernel, rfl, by decide +kernel, by decide +kernel⟩
def mb_is_node_of : MS := s_ret (m_andV (m_op2 eqPD (p_ex (m_op2 ixD (p_nm 0) (p_ex (m_c (.int 0))))) (p_ex (m_c (.str (Str.ofString "o"))))) (m_op2 eqPD (p_ex (m_op2 ixD (p_nm 0) (p_ex (m_c (.int 1))))) (p_nm 1)))
def g_is_node_of : List O → Option (O × List O) := fnM 2 2 [0, 1] mb_is_node_of
theorem ok_is_node_of {P : Program} {w : World} {K : PySem.W.Frag} {mg : Str → Option Value} {base : Heap} (fac : Fac K mg) {f : Addr} {fd : FuncData} (F : FunD K "is_node_of" "is_node_of" (defArgs (top 28)) (defBody (top 28)) (defScope (top 28)) [] [] f fd)  :
    FnOk P w K mg base CX0 101 f fd P_is_node_of (spM K 2 g_is_node_of) :=
  fn_ok (k := 100) (N := N_is_node_of) (ps := P_is_node_of) (m := mb_is_node_of) [0, 1] F sc_is_node_of (rss_one (rs_ret (re_and (re_cmpP rEqP (fun X h => op_eqP X h) eqPD_ok.1 (Nat.le_of_ble_eq_true rfl) (rp_ex (re_ix rIx (fun X => ix_seq) ixD_ok (rp_nm 0) (rp_ex (re_int)))) (rp_ex (re_str)) (nomark _)) (re_one (re_cmpP rEqP (fun X h => op_eqP X h) eqPD_ok.1 (Nat.le_of_ble_eq_true rfl) (rp_ex (re_ix rIx (fun X => ix_seq) ixD_ok (rp_nm 0) (rp_ex (re_int)))) (rp_nm 1) (nomark _))))))
/-! flat_node -/
abbrev N_flat_node : List Str := ["node", "members"]
abbrev P_flat_node : List Str := ["node", "members"]
theorem sc_flat_node : FnScope N_flat_node P_flat_node (defScope (top 31)) := ⟨rfl, rfl, rfl, by decide +kernel, rfl, by decide +kernel, by decide +kernel⟩
def mb_flat_node : MS := s_seq (s_if (m_tst (m_op2 eqPD (p_ex (m_op2 ixD (p_nm 0) (p_ex (m_c (.int 0))))) (p_ex (m_c (.str (Str.ofString "b")))))) (s_ret (m_tup (a_cons (m_it (m_c (.str (Str.ofString "b")))) (a_cons (m_it (m_op2 ixD (p_nm 1) (p_ex (m_c (.int 0))))) (a_nil))))) (s_nop)) (s_seq (s_if (m_or (m_tst (m_op2 eqPD (p_ex (m_op2 ixD (p_nm 0) (p_ex (m_c (.int 0))))) (p_ex (m_c (.str (Str.ofString "o")))))) (m_tst (m_op2 eqPD (p_ex (m_op2 ixD (p_nm 0) (p_ex (m_c (.int 0))))) (p_ex (m_c (.str (Str.ofString "c"))))))) (s_ret (m_tup (a_cons (m_it (m_op2 ixD (p_nm 0) (p_ex (m_c (.int 0))))) (a_cons (m_it (m_op2 ixD (p_nm 0) (p_ex (m_c (.int 1))))) (a_cons (m_it (m_bi tupleD (a_cons (p_nm 1) (a_nil)))) (a_nil)))))) (s_nop)) (s_ret (m_mv 0)))
def g_flat_node : List O → Option (O × List O) := fnM 2 2 [0, 1] mb_flat_node
theorem ok_flat_node {P : Program} {w : World} {K : PySem.W.Frag} {mg : Str → Option Value} {base : Heap} (fac : Fac K mg) {f : Addr} {fd : FuncData} (F : FunD K "flat_node" "flat_node" (defArgs (top 31)) (defBody (top 31)) (defScope (top 31)) [] [] f fd)  :
    FnOk P w K mg base CX0 101 f fd P_flat_node (spM K 2 g_flat_node) :=
  fn_ok (k := 100) (N := N_flat_node) (ps := P_flat_node) (m := mb_flat_node) [0, 1] F sc_flat_node (rss_cons (rs_if (rt_cmpP rEqP (fun X h => op_eqP X h) eqPD_ok.1 (Nat.le_of_ble_eq_true rfl) (rp_ex (re_ix rIx (fun X => ix_seq) ixD_ok (rp_nm 0) (rp_ex (re_int)))) (rp_ex (re_str)) (nomark _)) (rss_one (rs_ret (re_tup (ra_cons (rp_it (re_str)) (ra_cons (rp_it (re_ix rIx (fun X => ix_seq) ixD_ok (rp_nm 1) (rp_ex (re_int)))) (ra_nil)))))) (rss_nil)) (rss_cons (rs_if (rt_bool (rw_or (rt_cmpP rEqP (fun X h => op_eqP X h) eqPD_ok.1 (Nat.le_of_ble_eq_true rfl) (rp_ex (re_ix rIx (fun X => ix_seq) ixD_ok (rp_nm 0) (rp_ex (re_int)))) (rp_ex (re_str)) (nomark _)) (rw_or1 (rt_cmpP rEqP (fun X h => op_eqP X h) eqPD_ok.1 (Nat.le_of_ble_eq_true rfl) (rp_ex (re_ix rIx (fun X => ix_seq) ixD_ok (rp_nm 0) (rp_ex (re_int)))) (rp_ex (re_str)) (nomark _))))) (rss_one (rs_ret (re_tup (ra_cons (rp_it (re_ix rIx (fun X => ix_seq) ixD_ok (rp_nm 0) (rp_ex (re_int)))) (ra_cons (rp_it (re_ix rIx (fun X => ix_seq) ixD_ok (rp_nm 0) (rp_ex (re_int)))) (ra_cons (rp_it (re_ty rTupleA (fun X h => cb_tuple X h) tupleD_ok fac.b_tuple (by decide +kernel) (ra_cons (rp_nm 1) (ra_nil)))) (ra_nil))))))) (rss_nil)) (rss_one (rs_ret (re_mv 0)))))
/-! _law_mixed -/
abbrev N_law_mixed : List Str := ["number", "turn", "one", "two", "three"]
abbrev P_law_mixed : List Str := ["number", "turn"]
theorem sc_law_mixed : FnScope N_law_mixed P_law_mixed (defScope (top 36)) := ⟨rfl, rfl, rfl, by decide +kernel, rfl, by decide +kernel, by decide +kernel⟩
def mb_law_mixed : MS := s_seq (s_set 2 (m_bi intD (a_cons (p_ex (m_op2 addD (p_ex (m_op2 addD (p_ex (m_op2 mulD (p_ex (m_op2 modD (p_ex (m_bi intD (a_cons (p_nm 0) (a_nil)))) (p_ex (m_c (.int 2305843009213693951))))) (p_ex (m_c (.int 6364136223846793))))) (p_ex (m_op2 mulD (p_nm 1) (p_ex (m_c (.int 1442695040888963407))))))) (p_ex (m_c (.int 77171))))) (a_nil)))) (s_seq (s_set 2 (m_op2 modD (p_ex (m_bi intD (a_cons (p_nm 2) (a_nil)))) (p_ex (m_c (.int 2305843009213693951))))) (s_seq (s_set 3 (m_op2 modD (p_ex (m_bi intD (a_cons (p_ex (m_op2 addD (p_ex (m_op2 addD (p_ex (m_op2 mulD (p_nm 2) (p_nm 2))) (p_ex (m_op2 mulD (p_nm 2) (p_ex (m_c (.int 40503))))))) (p_ex (m_c (.int 2862933555777941757))))) (a_nil)))) (p_ex (m_c (.int 9223372036854775783))))) (s_seq (s_set 4 (m_op2 addD (p_ex (m_op2 fdivD (p_nm 3) (p_ex (m_c (.int 2147483648))))) (p_ex (m_op2 mulD (p_ex (m_op2 modD (p_ex (m_bi intD (a_cons (p_nm 3) (a_nil)))) (p_ex (m_c (.int 2147483648))))) (p_ex (m_c (.int 4294967311))))))) (s_ret (m_op2 fdivD (p_ex (m_op2 modD (p_ex (m_bi intD (a_cons (p_ex (m_op2 addD (p_ex (m_op2 mulD (p_nm 4) (p_nm 4))) (p_ex (m_c (.int 2691343689449507681))))) (a_nil)))) (p_ex (m_c (.int 2305843009213693951))))) (p_ex (m_c (.int 1024))))))))
def g_law_mixed : List O → Option (O × List O) := fnM 5 2 [0, 1] mb_law_mixed
theorem ok_law_mixed {P : Program} {w : World} {K : PySem.W.Frag} {mg : Str → Option Value} {base : Heap} (fac : Fac K mg) {f : Addr} {fd : FuncData} (F : FunD K "_law_mixed" "_law_mixed" (defArgs (top 36)) (defBody (top 36)) (defScope (top 36)) [] [] f fd)  :
    FnOk P w K mg base CX0 101 f fd P_law_mixed (spM K 2 g_law_mixed) :=
  fn_ok (k := 100) (N := N_law_mixed) (ps := P_law_mixed) (m := mb_law_mixed) [0, 1] F sc_law_mixed (rss_cons (rs_set 2 (re_ty (fun _ => rIntA) (fun X h => cb_int X h) intD_ok fac.b_int (by decide +kernel) (ra_cons (rp_ex (re_op rAddA (fun X => op_addA X) addD_ok (rp_ex (re_op rAddA (fun X => op_addA X) addD_ok (rp_ex (re_op (fun _ => rMulA) (fun X => op_mulA X) mulD_ok (rp_ex (re_op (fun _ => rI (fun _ j => 0 < j) fun i j => .int (i % j)) (fun X => op_modA X) modD_ok (rp_ex (re_ty (fun _ => rIntA) (fun X h => cb_int X h) intD_ok fac.b_int (by decide +kernel) (ra_cons (rp_nm 0) (ra_nil)))) (rp_ex (re_int)))) (rp_ex (re_int)))) (rp_ex (re_op (fun _ => rMulA) (fun X => op_mulA X) mulD_ok (rp_nm 1) (rp_ex (re_int)))))) (rp_ex (re_int)))) (ra_nil)))) (rss_cons (rs_set 2 (re_op (fun _ => rI (fun _ j => 0 < j) fun i j => .int (i % j)) (fun X => op_modA X) modD_ok (rp_ex (re_ty (fun _ => rIntA) (fun X h => cb_int X h) intD_ok fac.b_int (by decide +kernel) (ra_cons (rp_nm 2) (ra_nil)))) (rp_ex (re_int)))) (rss_cons (rs_set 3 (re_op (fun _ => rI (fun _ j => 0 < j) fun i j => .int (i % j)) (fun X => op_modA X) modD_ok (rp_ex (re_ty (fun _ => rIntA) (fun X h => cb_int X h) intD_ok fac.b_int (by decide +kernel) (ra_cons (rp_ex (re_op rAddA (fun X => op_addA X) addD_ok (rp_ex (re_op rAddA (fun X => op_addA X) addD_ok (rp_ex (re_op (fun _ => rMulA) (fun X => op_mulA X) mulD_ok (rp_nm 2) (rp_nm 2))) (rp_ex (re_op (fun _ => rMulA) (fun X => op_mulA X) mulD_ok (rp_nm 2) (rp_ex (re_int)))))) (rp_ex (re_int)))) (ra_nil)))) (rp_ex (re_int)))) (rss_cons (rs_set 4 (re_op rAddA (fun X => op_addA X) addD_ok (rp_ex (re_op (fun _ => rI CDivW fun i j => .int (i / j)) (fun X => op_fdivA X) fdivD_ok (rp_nm 3) (rp_ex (re_int)))) (rp_ex (re_op (fun _ => rMulA) (fun X => op_mulA X) mulD_ok (rp_ex (re_op (fun _ => rI (fun _ j => 0 < j) fun i j => .int (i % j)) (fun X => op_modA X) modD_ok (rp_ex (re_ty (fun _ => rIntA) (fun X h => cb_int X h) intD_ok fac.b_int (by decide +kernel) (ra_cons (rp_nm 3) (ra_nil)))) (rp_ex (re_int)))) (rp_ex (re_int)))))) (rss_one (rs_ret (re_op (fun _ => rI CDivW fun i j => .int (i / j)) (fun X => op_fdivA X) fdivD_ok (rp_ex (re_op (fun _ => rI (fun _ j => 0 < j) fun i j => .int (i % j)) (fun X => op_modA X) modD_ok (rp_ex (re_ty (fun _ => rIntA) (fun X h => cb_int X h) intD_ok fac.b_int (by decide +kernel) (ra_cons (rp_ex (re_op rAddA (fun X => op_addA X) addD_ok (rp_ex (re_op (fun _ => rMulA) (fun X => op_mulA X) mulD_ok (rp_nm 4) (rp_nm 4))) (rp_ex (re_int)))) (ra_nil)))) (rp_ex (re_int)))) (rp_ex (re_int)))))))))
/-! _law_store -/
abbrev N_law_store : List Str := ["script"]
abbrev P_law_store : List Str := ["script"]
theorem sc_law_store : FnScope N_law_store P_law_store (defScope (top 37)) := ⟨rfl, rfl, rfl, by decide +kernel, rfl, by decide +kernel, by decide +kernel⟩
def mb_law_store : MS := s_ret (m_op2 addD (p_ex (m_lst (a_cons (m_it (m_c (.int 0))) (a_cons (m_it (m_c (.int 5))) (a_cons (m_it (m_c (.int 0))) (a_cons (m_it (m_c (.int 0))) (a_cons (m_it (m_op2 addD (p_ex (m_c (.int 1))) (p_ex (m_bi lenD (a_cons (p_nm 0) (a_nil)))))) (a_nil)))))))) (p_ex (m_bi listD (a_cons (p_nm 0) (a_nil)))))
def g_law_store : List O → Option (O × List O) := fnM 1 1 [0] mb_law_store
theorem ok_law_store {P : Program} {w : World} {K : PySem.W.Frag} {mg : Str → Option Value} {base : Heap} (fac : Fac K mg) {f : Addr} {fd : FuncData} (F : FunD K "_law_store" "_law_store" (defArgs (top 37)) (defBody (top 37)) (defScope (top 37)) [] [] f fd)  :
    FnOk P w K mg base CX0 101 f fd P_law_store (spM K 1 g_law_store) :=
  fn_ok (k := 100) (N := N_law_store) (ps := P_law_store) (m := mb_law_store) [0] F sc_law_store (rss_one (rs_ret (re_op rAddA (fun X => op_addA X) addD_ok (rp_ex (re_lst (ra_cons (rp_it (re_int)) (ra_cons (rp_it (re_int)) (ra_cons (rp_it (re_int)) (ra_cons (rp_it (re_int)) (ra_cons (rp_it (re_op rAddA (fun X => op_addA X) addD_ok (rp_ex (re_int)) (rp_ex (re_bi rLenA (fun X h => cb_len X h) lenD_ok fac.b_len (by decide +kernel) (ra_cons (rp_nm 0) (ra_nil)))))) (ra_nil)))))))) (rp_ex (re_ty rListA (fun X h => cb_list X h) listD_ok fac.b_list (by decide +kernel) (ra_cons (rp_nm 0) (ra_nil)))))))
/-! _law_sort -/
abbrev N_law_sort : List Str := ["value"]
abbrev P_law_sort : List Str := ["value"]
theorem sc_law_sort : FnScope N_law_sort P_law_sort (defScope (top 42)) := ⟨rfl, rfl, rfl, by decide +kernel, rfl, by decide +kernel, by decide +kernel⟩
def mb_law_sort : MS := s_seq (s_if (m_tst (m_op2 isnD (p_nm 0) (p_ex (m_c .non)))) (s_ret (m_c (.int 0))) (s_nop)) (s_seq (s_if (m_tru (p_ex (m_bi isiD (a_cons (p_nm 0) (a_cons (p_ex (m_c (.ty "bool"))) (a_nil)))))) (s_ret (m_c (.int 1))) (s_nop)) (s_seq (s_if (m_tru (p_ex (m_bi isiD (a_cons (p_nm 0) (a_cons (p_ex (m_c (.ty "int"))) (a_nil)))))) (s_ret (m_c (.int 2))) (s_nop)) (s_seq (s_if (m_tru (p_ex (m_bi isiD (a_cons (p_nm 0) (a_cons (p_ex (m_c (.ty "str"))) (a_nil)))))) (s_ret (m_c (.int 3))) (s_nop)) (s_seq (s_if (m_tru (p_ex (m_bi isiD (a_cons (p_nm 0) (a_cons (p_ex (m_c (.ty "tuple"))) (a_nil)))))) (s_ret (m_c (.int 4))) (s_nop)) (s_seq (s_if (m_tru (p_ex (m_bi isiD (a_cons (p_nm 0) (a_cons (p_ex (m_c (.ty "list"))) (a_nil)))))) (s_ret (m_c (.int 5))) (s_nop)) (s_seq (s_if (m_tru (p_ex (m_bi isiD (a_cons (p_nm 0) (a_cons (p_ex (m_c (.ty "dict"))) (a_nil)))))) (s_ret (m_c (.int 6))) (s_nop)) (s_ret (m_c (.int 7)))))))))
def g_law_sort : List O → Option (O × List O) := fnM 1 1 [0] mb_law_sort
theorem ok_law_sort {P : Program} {w : World} {K : PySem.W.Frag} {mg : Str → Option Value} {base : Heap} (fac : Fac K mg) {f : Addr} {fd : FuncData} (F : FunD K "_law_sort" "_law_sort" (defArgs (top 42)) (defBody (top 42)) (defScope (top 42)) [] [] f fd)  :
    FnOk P w K mg base CX0 101 f fd P_law_sort (spM K 1 g_law_sort) :=
  fn_ok (k := 100) (N := N_law_sort) (ps := P_law_sort) (m := mb_law_sort) [0] F sc_law_sort (rss_cons (rs_if (rt_cmp (fun _ => fun x y H Q => y = .non ∧ Q (.bl (decide (x = .non))) H) (fun X h => op_isA X h) isnD_ok (rp_nm 0) (rp_ex (re_non)) (nomark _)) (rss_one (rs_ret (re_int))) (rss_nil)) (rss_cons (rs_if (rt_tru (rp_ex (re_bi rIsi (fun X h => cb_isi X h) isiD_ok fac.b_isinstance (by decide +kernel) (ra_cons (rp_nm 0) (ra_cons (rp_ex (re_tyc fac.b_bool (by decide +kernel))) (ra_nil)))))) (rss_one (rs_ret (re_int))) (rss_nil)) (rss_cons (rs_if (rt_tru (rp_ex (re_bi rIsi (fun X h => cb_isi X h) isiD_ok fac.b_isinstance (by decide +kernel) (ra_cons (rp_nm 0) (ra_cons (rp_ex (re_tyc fac.b_int (by decide +kernel))) (ra_nil)))))) (rss_one (rs_ret (re_int))) (rss_nil)) (rss_cons (rs_if (rt_tru (rp_ex (re_bi rIsi (fun X h => cb_isi X h) isiD_ok fac.b_isinstance (by decide +kernel) (ra_cons (rp_nm 0) (ra_cons (rp_ex (re_tyc fac.b_str (by decide +kernel))) (ra_nil)))))) (rss_one (rs_ret (re_int))) (rss_nil)) (rss_cons (rs_if (rt_tru (rp_ex (re_bi rIsi (fun X h => cb_isi X h) isiD_ok fac.b_isinstance (by decide +kernel) (ra_cons (rp_nm 0) (ra_cons (rp_ex (re_tyc fac.b_tuple (by decide +kernel))) (ra_nil)))))) (rss_one (rs_ret (re_int))) (rss_nil)) (rss_cons (rs_if (rt_tru (rp_ex (re_bi rIsi (fun X h => cb_isi X h) isiD_ok fac.b_isinstance (by decide +kernel) (ra_cons (rp_nm 0) (ra_cons (rp_ex (re_tyc fac.b_list (by decide +kernel))) (ra_nil)))))) (rss_one (rs_ret (re_int))) (rss_nil)) (rss_cons (rs_if (rt_tru (rp_ex (re_bi rIsi (fun X h => cb_isi X h) isiD_ok fac.b_isinstance (by decide +kernel) (ra_cons (rp_nm 0) (ra_cons (rp_ex (re_tyc fac.b_dict (by decide +kernel))) (ra_nil)))))) (rss_one (rs_ret (re_int))) (rss_nil)) (rss_one (rs_ret (re_int))))))))))
/-! _law_find -/
abbrev N_law_find : List Str := ["ops", "name", "role", "k"]
abbrev P_law_find : List Str := ["ops", "name", "role"]
theorem sc_law_find : FnScope N_law_find P_law_find (defScope (top 44)) := ⟨rfl, rfl, rfl, by decide +kernel, rfl, by decide +kernel, by decide +kernel⟩
def mb_law_find : MS := s_seq (s_for (i_rng1 (p_ex (m_bi lenD (a_cons (p_nm 0) (a_nil))))) (g_name 3) (s_if (m_and (m_tst (m_op2 eqPD (p_ex (m_op2 ixD (p_ex (m_op2 ixD (p_nm 0) (p_nm 3))) (p_ex (m_c (.int 0))))) (p_nm 1))) (m_tst (m_op2 eqPD (p_ex (m_op2 eqPD (p_ex (m_op2 ixD (p_ex (m_op2 ixD (p_nm 0) (p_nm 3))) (p_ex (m_c (.int 1))))) (p_ex (m_c (.str (Str.ofString "prefix")))))) (p_ex (m_op2 eqPD (p_nm 2) (p_ex (m_c (.str (Str.ofString "prefix"))))))))) (s_ret (m_mv 3)) (s_nop))) (s_ret (m_op1 negD (p_ex (m_c (.int 1)))))
def g_law_find : List O → Option (O × List O) := fnM 4 3 [0, 1, 2] mb_law_find
theorem ok_law_find {P : Program} {w : World} {K : PySem.W.Frag} {mg : Str → Option Value} {base : Heap} (fac : Fac K mg) {f : Addr} {fd : FuncData} (F : FunD K "_law_find" "_law_find" (defArgs (top 44)) (defBody (top 44)) (defScope (top 44)) [] [] f fd)  :
    FnOk P w K mg base CX0 101 f fd P_law_find (spM K 3 g_law_find) :=
  fn_ok (k := 100) (N := N_law_find) (ps := P_law_find) (m := mb_law_find) [0, 1, 2] F sc_law_find (rss_cons (rs_for (vs := [3]) (ri_rng1 fac.b_range (rp_ex (re_bi rLenA (fun X h => cb_len X h) lenD_ok fac.b_len (by decide +kernel) (ra_cons (rp_nm 0) (ra_nil))))) (rg_name 3) (rss_one (rs_if (rt_bool (rw_and (rt_cmpP rEqP (fun X h => op_eqP X h) eqPD_ok.1 (Nat.le_of_ble_eq_true rfl) (rp_ex (re_ix rIx (fun X => ix_seq) ixD_ok (rp_ex (re_ix rIx (fun X => ix_seq) ixD_ok (rp_nm 0) (rp_nm 3))) (rp_ex (re_int)))) (rp_nm 1) (nomark _)) (rw_and1 (rt_cmpP rEqP (fun X h => op_eqP X h) eqPD_ok.1 (Nat.le_of_ble_eq_true rfl) (rp_ex (re_cmpP rEqP (fun X h => op_eqP X h) eqPD_ok.1 (Nat.le_of_ble_eq_true rfl) (rp_ex (re_ix rIx (fun X => ix_seq) ixD_ok (rp_ex (re_ix rIx (fun X => ix_seq) ixD_ok (rp_nm 0) (rp_nm 3))) (rp_ex (re_int)))) (rp_ex (re_str)) (nomark _))) (rp_ex (re_cmpP rEqP (fun X h => op_eqP X h) eqPD_ok.1 (Nat.le_of_ble_eq_true rfl) (rp_nm 2) (rp_ex (re_str)) (nomark _))) (nomark _))))) (rss_one (rs_ret (re_mv 3))) (rss_nil)))) (rss_one (rs_ret (re_un (fun _ => rU fun i => .int (-i)) (fun X => un_neg) negD_ok (rp_ex (re_int))))))
/-! _law_roles -/
abbrev N_law_roles : List Str := ["ops", "role", "k"]
abbrev P_law_roles : List Str := ["ops", "role"]
theorem sc_law_roles : FnScope N_law_roles P_law_roles (defScope (top 45)) := ⟨rfl, rfl, rfl, by decide +kernel, rfl, by decide +kernel, by decide +kernel⟩
def mb_law_roles : MS := s_ret (m_lc [2] (i_rng1 (p_ex (m_bi lenD (a_cons (p_nm 0) (a_nil))))) (g_name 2) (m_tst (m_op2 eqPD (p_ex (m_op2 ixD (p_ex (m_op2 ixD (p_nm 0) (p_nm 2))) (p_ex (m_c (.int 1))))) (p_nm 1))) (m_var 2))
def g_law_roles : List O → Option (O × List O) := fnM 3 2 [0, 1] mb_law_roles
theorem ok_law_roles {P : Program} {w : World} {K : PySem.W.Frag} {mg : Str → Option Value} {base : Heap} (fac : Fac K mg) {f : Addr} {fd : FuncData} (F : FunD K "_law_roles" "_law_roles" (defArgs (top 45)) (defBody (top 45)) (defScope (top 45)) [] [] f fd)  :
    FnOk P w K mg base CX0 101 f fd P_law_roles (spM K 2 g_law_roles) :=
  fn_ok (k := 100) (N := N_law_roles) (ps := P_law_roles) (m := mb_law_roles) [0, 1] F sc_law_roles (rss_one (rs_ret (re_lc (own := [(("k" : Str), 2)]) (ri_rng1 fac.b_range (rp_ex (re_bi rLenA (fun X h => cb_len X h) lenD_ok fac.b_len (by decide +kernel) (ra_cons (rp_nm 0) (ra_nil))))) (rg_name 2) (rts_one (rt_cmpP rEqP (fun X h => op_eqP X h) eqPD_ok.1 (Nat.le_of_ble_eq_true rfl) (rp_ex (re_ix rIx (fun X => ix_seq) ixD_ok (rp_ex (re_ix rIx (fun X => ix_seq) ixD_ok (rp_nm 0) (rp_nm 2))) (rp_ex (re_int)))) (rp_nm 1) (nomark _))) (re_var 2))))
/-! _law_parts -/
abbrev N_law_parts : List Str := ["tree"]
abbrev P_law_parts : List Str := ["tree"]
theorem sc_law_parts : FnScope N_law_parts P_law_parts (defScope (top 46)) := ⟨rfl, rfl, rfl, by decide +kernel, rfl, by decide +kernel, by decide +kernel⟩
def mb_law_parts : MS := s_seq (s_if (m_tst (m_op2 eqPD (p_ex (m_op2 ixD (p_nm 0) (p_ex (m_c (.int 0))))) (p_ex (m_c (.str (Str.ofString "b")))))) (s_ret (m_tup (a_cons (m_it (m_op2 ixD (p_nm 0) (p_ex (m_c (.int 1))))) (a_nil)))) (s_nop)) (s_seq (s_if (m_or (m_tst (m_op2 eqPD (p_ex (m_op2 ixD (p_nm 0) (p_ex (m_c (.int 0))))) (p_ex (m_c (.str (Str.ofString "o")))))) (m_tst (m_op2 eqPD (p_ex (m_op2 ixD (p_nm 0) (p_ex (m_c (.int 0))))) (p_ex (m_c (.str (Str.ofString "c"))))))) (s_ret (m_op2 ixD (p_nm 0) (p_ex (m_c (.int 2))))) (s_nop)) (s_ret (m_tup (a_nil))))
def g_law_parts : List O → Option (O × List O) := fnM 1 1 [0] mb_law_parts
theorem ok_law_parts {P : Program} {w : World} {K : PySem.W.Frag} {mg : Str → Option Value} {base : Heap} (fac : Fac K mg) {f : Addr} {fd : FuncData} (F : FunD K "_law_parts" "_law_parts" (defArgs (top 46)) (defBody (top 46)) (defScope (top 46)) [] [] f fd)  :
    FnOk P w K mg base CX0 101 f fd P_law_parts (spM K 1 g_law_parts) :=
  fn_ok (k := 100) (N := N_law_parts) (ps := P_law_parts) (m := mb_law_parts) [0] F sc_law_parts (rss_cons (rs_if (rt_cmpP rEqP (fun X h => op_eqP X h) eqPD_ok.1 (Nat.le_of_ble_eq_true rfl) (rp_ex (re_ix rIx (fun X => ix_seq) ixD_ok (rp_nm 0) (rp_ex (re_int)))) (rp_ex (re_str)) (nomark _)) (rss_one (rs_ret (re_tup (ra_cons (rp_it (re_ix rIx (fun X => ix_seq) ixD_ok (rp_nm 0) (rp_ex (re_int)))) (ra_nil))))) (rss_nil)) (rss_cons (rs_if (rt_bool (rw_or (rt_cmpP rEqP (fun X h => op_eqP X h) eqPD_ok.1 (Nat.le_of_ble_eq_true rfl) (rp_ex (re_ix rIx (fun X => ix_seq) ixD_ok (rp_nm 0) (rp_ex (re_int)))) (rp_ex (re_str)) (nomark _)) (rw_or1 (rt_cmpP rEqP (fun X h => op_eqP X h) eqPD_ok.1 (Nat.le_of_ble_eq_true rfl) (rp_ex (re_ix rIx (fun X => ix_seq) ixD_ok (rp_nm 0) (rp_ex (re_int)))) (rp_ex (re_str)) (nomark _))))) (rss_one (rs_ret (re_ix rIx (fun X => ix_seq) ixD_ok (rp_nm 0) (rp_ex (re_int))))) (rss_nil)) (rss_one (rs_ret (re_tup (ra_nil))))))
/-! _law_with -/
abbrev N_law_with : List Str := ["tree", "parts"]
abbrev P_law_with : List Str := ["tree", "parts"]
theorem sc_law_with : FnScope N_law_with P_law_with (defScope (top 47)) := ⟨rfl, rfl, rfl, by decide +kernel, rfl, by decide +kernel, by decide +kernel⟩
def mb_law_with : MS := s_seq (s_if (m_tst (m_op2 eqPD (p_ex (m_op2 ixD (p_nm 0) (p_ex (m_c (.int 0))))) (p_ex (m_c (.str (Str.ofString "b")))))) (s_ret (m_tup (a_cons (m_it (m_c (.str (Str.ofString "b")))) (a_cons (m_it (m_op2 ixD (p_nm 1) (p_ex (m_c (.int 0))))) (a_nil))))) (s_nop)) (s_seq (s_if (m_or (m_tst (m_op2 eqPD (p_ex (m_op2 ixD (p_nm 0) (p_ex (m_c (.int 0))))) (p_ex (m_c (.str (Str.ofString "o")))))) (m_tst (m_op2 eqPD (p_ex (m_op2 ixD (p_nm 0) (p_ex (m_c (.int 0))))) (p_ex (m_c (.str (Str.ofString "c"))))))) (s_ret (m_tup (a_cons (m_it (m_op2 ixD (p_nm 0) (p_ex (m_c (.int 0))))) (a_cons (m_it (m_op2 ixD (p_nm 0) (p_ex (m_c (.int 1))))) (a_cons (m_it (m_bi tupleD (a_cons (p_nm 1) (a_nil)))) (a_nil)))))) (s_nop)) (s_ret (m_mv 0)))
def g_law_with : List O → Option (O × List O) := fnM 2 2 [0, 1] mb_law_with
theorem ok_law_with {P : Program} {w : World} {K : PySem.W.Frag} {mg : Str → Option Value} {base : Heap} (fac : Fac K mg) {f : Addr} {fd : FuncData} (F : FunD K "_law_with" "_law_with" (defArgs (top 47)) (defBody (top 47)) (defScope (top 47)) [] [] f fd)  :
    FnOk P w K mg base CX0 101 f fd P_law_with (spM K 2 g_law_with) :=
  fn_ok (k := 100) (N := N_law_with) (ps := P_law_with) (m := mb_law_with) [0, 1] F sc_law_with (rss_cons (rs_if (rt_cmpP rEqP (fun X h => op_eqP X h) eqPD_ok.1 (Nat.le_of_ble_eq_true rfl) (rp_ex (re_ix rIx (fun X => ix_seq) ixD_ok (rp_nm 0) (rp_ex (re_int)))) (rp_ex (re_str)) (nomark _)) (rss_one (rs_ret (re_tup (ra_cons (rp_it (re_str)) (ra_cons (rp_it (re_ix rIx (fun X => ix_seq) ixD_ok (rp_nm 1) (rp_ex (re_int)))) (ra_nil)))))) (rss_nil)) (rss_cons (rs_if (rt_bool (rw_or (rt_cmpP rEqP (fun X h => op_eqP X h) eqPD_ok.1 (Nat.le_of_ble_eq_true rfl) (rp_ex (re_ix rIx (fun X => ix_seq) ixD_ok (rp_nm 0) (rp_ex (re_int)))) (rp_ex (re_str)) (nomark _)) (rw_or1 (rt_cmpP rEqP (fun X h => op_eqP X h) eqPD_ok.1 (Nat.le_of_ble_eq_true rfl) (rp_ex (re_ix rIx (fun X => ix_seq) ixD_ok (rp_nm 0) (rp_ex (re_int)))) (rp_ex (re_str)) (nomark _))))) (rss_one (rs_ret (re_tup (ra_cons (rp_it (re_ix rIx (fun X => ix_seq) ixD_ok (rp_nm 0) (rp_ex (re_int)))) (ra_cons (rp_it (re_ix rIx (fun X => ix_seq) ixD_ok (rp_nm 0) (rp_ex (re_int)))) (ra_cons (rp_it (re_ty rTupleA (fun X h => cb_tuple X h) tupleD_ok fac.b_tuple (by decide +kernel) (ra_cons (rp_nm 1) (ra_nil)))) (ra_nil))))))) (rss_nil)) (rss_one (rs_ret (re_mv 0)))))
/-! _law_wrap -/
abbrev N_law_wrap : List Str := ["part", "room"]
abbrev P_law_wrap : List Str := ["part", "room"]
theorem sc_law_wrap : FnScope N_law_wrap P_law_wrap (defScope (top 52)) := ⟨rfl, rfl, rfl, by decide +kernel, rfl, by decide +kernel, by decide +kernel⟩
def mb_law_wrap : MS := s_seq (s_if (m_or (m_tst (m_op2 eqPD (p_ex (m_op2 ixD (p_nm 1) (p_ex (m_c (.int 2))))) (p_ex (m_c (.int 0))))) (m_or (m_tst (m_op2 eqPD (p_ex (m_op2 ixD (p_nm 0) (p_ex (m_c (.int 0))))) (p_ex (m_c (.str (Str.ofString "a")))))) (m_tst (m_op2 eqPD (p_ex (m_op2 ixD (p_nm 0) (p_ex (m_c (.int 0))))) (p_ex (m_c (.str (Str.ofString "b")))))))) (s_ret (m_mv 0)) (s_nop)) (s_ret (m_tup (a_cons (m_it (m_c (.str (Str.ofString "b")))) (a_cons (m_it (m_var 0)) (a_nil)))))
def g_law_wrap : List O → Option (O × List O) := fnM 2 2 [0, 1] mb_law_wrap
theorem ok_law_wrap {P : Program} {w : World} {K : PySem.W.Frag} {mg : Str → Option Value} {base : Heap} (fac : Fac K mg) {f : Addr} {fd : FuncData} (F : FunD K "_law_wrap" "_law_wrap" (defArgs (top 52)) (defBody (top 52)) (defScope (top 52)) [] [] f fd)  :
    FnOk P w K mg base CX0 101 f fd P_law_wrap (spM K 2 g_law_wrap) :=
  fn_ok (k := 100) (N := N_law_wrap) (ps := P_law_wrap) (m := mb_law_wrap) [0, 1] F sc_law_wrap (rss_cons (rs_if (rt_bool (rw_or (rt_cmpP rEqP (fun X h => op_eqP X h) eqPD_ok.1 (Nat.le_of_ble_eq_true rfl) (rp_ex (re_ix rIx (fun X => ix_seq) ixD_ok (rp_nm 1) (rp_ex (re_int)))) (rp_ex (re_int)) (nomark _)) (rw_or (rt_cmpP rEqP (fun X h => op_eqP X h) eqPD_ok.1 (Nat.le_of_ble_eq_true rfl) (rp_ex (re_ix rIx (fun X => ix_seq) ixD_ok (rp_nm 0) (rp_ex (re_int)))) (rp_ex (re_str)) (nomark _)) (rw_or1 (rt_cmpP rEqP (fun X h => op_eqP X h) eqPD_ok.1 (Nat.le_of_ble_eq_true rfl) (rp_ex (re_ix rIx (fun X => ix_seq) ixD_ok (rp_nm 0) (rp_ex (re_int)))) (rp_ex (re_str)) (nomark _)))))) (rss_one (rs_ret (re_mv 0))) (rss_nil)) (rss_one (rs_ret (re_tup (ra_cons (rp_it (re_str)) (ra_cons (rp_it (re_var 0)) (ra_nil)))))))
/-! is_atom_word -/
abbrev N_is_atom_word : List Str := ["value"]
abbrev P_is_atom_word : List Str := ["value"]
theorem sc_is_atom_word : FnScope N_is_atom_word P_is_atom_word (defScope (top 18)) := ⟨rfl, rfl, rfl, by decide +kernel, rfl, by decide +kernel, by decide +kernel⟩
def mb_is_atom_word : MS := s_ret (m_andV (m_bi isiD (a_cons (p_nm 0) (a_cons (p_ex (m_c (.ty "str"))) (a_nil)))) (m_call g_made_of (a_cons (p_nm 0) (a_cons (p_ex (m_c (.str (Str.ofString "abcdefghijklmnopqrstuvwxyz0123456789")))) (a_cons (p_ex (m_c (.int 8))) (a_nil))))))
def g_is_atom_word : List O → Option (O × List O) := fnM 1 1 [0] mb_is_atom_word
theorem ok_is_atom_word {P : Program} {w : World} {K : PySem.W.Frag} {mg : Str → Option Value} {base : Heap} (fac : Fac K mg) {f : Addr} {fd : FuncData} (F : FunD K "is_atom_word" "is_atom_word" (defArgs (top 18)) (defBody (top 18)) (defScope (top 18)) [] [] f fd) (c_made_of : Cal P w K mg base 101 "made_of" 3 g_made_of) :
    FnOk P w K mg base CX0 102 f fd P_is_atom_word (spM K 1 g_is_atom_word) :=
  fn_ok (k := 101) (N := N_is_atom_word) (ps := P_is_atom_word) (m := mb_is_atom_word) [0] F sc_is_atom_word (rss_one (rs_ret (re_and (re_bi rIsi (fun X h => cb_isi X h) isiD_ok fac.b_isinstance (by decide +kernel) (ra_cons (rp_nm 0) (ra_cons (rp_ex (re_tyc fac.b_str (by decide +kernel))) (ra_nil)))) (re_one (re_call c_made_of (Nat.le_of_ble_eq_true rfl) (ra_cons (rp_nm 0) (ra_cons (rp_ex (re_gstrE fac.s_WORD_SIGNS)) (ra_cons (rp_ex (re_int)) (ra_nil)))) (.cons (.cons (.cons .nil))))))))
/-! _law_take -/
abbrev N_law_take : List Str := ["store", "many", "cell", "found"]
abbrev P_law_take : List Str := ["store", "many"]
theorem sc_law_take : FnScope N_law_take P_law_take (defScope (top 38)) := ⟨rfl, rfl, rfl, by decide +kernel, rfl, by decide +kernel, by decide +kernel⟩
def mb_law_take : MS := s_seq (s_if (m_tst (m_op2 ltD (p_nm 1) (p_ex (m_c (.int 2))))) (s_ret (m_c (.int 0))) (s_nop)) (s_seq (s_sti 0 (m_op2 addD (p_ex (m_op2 ixD (p_nm 0) (p_ex (m_c (.int 0))))) (p_ex (m_c (.int 1)))) (p_ex (m_c (.int 0)))) (s_seq (s_if (m_and (m_tst (m_op2 eqPD (p_ex (m_op2 ixD (p_nm 0) (p_ex (m_c (.int 2))))) (p_ex (m_c (.int 0))))) (m_and (m_tst (m_op2 eqPD (p_ex (m_op2 ixD (p_nm 0) (p_ex (m_c (.int 3))))) (p_ex (m_c (.int 0))))) (m_tst (m_op2 ltD (p_ex (m_op2 ixD (p_nm 0) (p_ex (m_c (.int 1))))) (p_ex (m_bi lenD (a_cons (p_nm 0) (a_nil)))))))) (s_seq (s_set 2 (m_op2 ixD (p_nm 0) (p_ex (m_op2 ixD (p_nm 0) (p_ex (m_c (.int 1))))))) (s_seq (s_sti 0 (m_op2 addD (p_ex (m_op2 ixD (p_nm 0) (p_ex (m_c (.int 1))))) (p_ex (m_c (.int 1)))) (p_ex (m_c (.int 1)))) (s_seq (s_sti 0 (m_call g_law_mixed (a_cons (p_ex (m_op2 addD (p_ex (m_op2 ixD (p_nm 0) (p_ex (m_c (.int 4))))) (p_ex (m_op2 modD (p_ex (m_bi intD (a_cons (p_nm 2) (a_nil)))) (p_ex (m_c (.int 2305843009213693951))))))) (a_cons (p_ex (m_op2 ixD (p_nm 0) (p_ex (m_c (.int 0))))) (a_nil)))) (p_ex (m_c (.int 4)))) (s_if (m_tst (m_op2 geD (p_nm 2) (p_ex (m_op2 powD (p_ex (m_c (.int 10))) (p_ex (m_c (.int 18))))))) (s_sti 0 (m_op2 modD (p_ex (m_bi intD (a_cons (p_nm 2) (a_nil)))) (p_ex (m_op2 powD (p_ex (m_op2 powD (p_ex (m_c (.int 10))) (p_ex (m_c (.int 64))))) (p_ex (m_c (.int 8)))))) (p_ex (m_c (.int 2)))) (s_sti 0 (m_c (.int 4)) (p_ex (m_c (.int 3)))))))) (s_nop)) (s_seq (s_if (m_tst (m_op2 gtD (p_ex (m_op2 ixD (p_nm 0) (p_ex (m_c (.int 2))))) (p_ex (m_c (.int 0))))) (s_seq (s_set 3 (m_op2 modD (p_ex (m_bi intD (a_cons (p_ex (m_op2 ixD (p_nm 0) (p_ex (m_c (.int 2))))) (a_nil)))) (p_nm 1))) (s_seq (s_sti 0 (m_op2 fdivD (p_ex (m_op2 ixD (p_nm 0) (p_ex (m_c (.int 2))))) (p_nm 1)) (p_ex (m_c (.int 2)))) (s_ret (m_mv 3)))) (s_nop)) (s_seq (s_sti 0 (m_bi max2D (a_cons (p_ex (m_c (.int 0))) (a_cons (p_ex (m_op2 subD (p_ex (m_op2 ixD (p_nm 0) (p_ex (m_c (.int 3))))) (p_ex (m_c (.int 1))))) (a_nil)))) (p_ex (m_c (.int 3)))) (s_ret (m_op2 modD (p_ex (m_bi intD (a_cons (p_ex (m_call g_law_mixed (a_cons (p_ex (m_op2 ixD (p_nm 0) (p_ex (m_c (.int 4))))) (a_cons (p_ex (m_op2 ixD (p_nm 0) (p_ex (m_c (.int 0))))) (a_nil))))) (a_nil)))) (p_nm 1)))))))
def g_law_take : List O → Option (O × List O) := fnM 4 2 [0, 1] mb_law_take
theorem ok_law_take {P : Program} {w : World} {K : PySem.W.Frag} {mg : Str → Option Value} {base : Heap} (fac : Fac K mg) {f : Addr} {fd : FuncData} (F : FunD K "_law_take" "_law_take" (defArgs (top 38)) (defBody (top 38)) (defScope (top 38)) [] [] f fd) (c_law_mixed : Cal P w K mg base 101 "_law_mixed" 2 g_law_mixed) :
    FnOk P w K mg base CX0 102 f fd P_law_take (spM K 2 g_law_take) :=
  fn_ok (k := 101) (N := N_law_take) (ps := P_law_take) (m := mb_law_take) [0, 1] F sc_law_take (rss_cons (rs_if (rt_cmp (fun _ => rLtA) (fun X h => op_ltA X h) ltD_ok.1 (rp_nm 1) (rp_ex (re_int)) (nomark _)) (rss_one (rs_ret (re_int))) (rss_nil)) (rss_cons (rs_sti 0 (re_op rAddA (fun X => op_addA X) addD_ok (rp_ex (re_ix rIx (fun X => ix_seq) ixD_ok (rp_nm 0) (rp_ex (re_int)))) (rp_ex (re_int))) (rp_ex (re_int))) (rss_cons (rs_if (rt_bool (rw_and (rt_cmpP rEqP (fun X h => op_eqP X h) eqPD_ok.1 (Nat.le_of_ble_eq_true rfl) (rp_ex (re_ix rIx (fun X => ix_seq) ixD_ok (rp_nm 0) (rp_ex (re_int)))) (rp_ex (re_int)) (nomark _)) (rw_and (rt_cmpP rEqP (fun X h => op_eqP X h) eqPD_ok.1 (Nat.le_of_ble_eq_true rfl) (rp_ex (re_ix rIx (fun X => ix_seq) ixD_ok (rp_nm 0) (rp_ex (re_int)))) (rp_ex (re_int)) (nomark _)) (rw_and1 (rt_cmp (fun _ => rLtA) (fun X h => op_ltA X h) ltD_ok.1 (rp_ex (re_ix rIx (fun X => ix_seq) ixD_ok (rp_nm 0) (rp_ex (re_int)))) (rp_ex (re_bi rLenA (fun X h => cb_len X h) lenD_ok fac.b_len (by decide +kernel) (ra_cons (rp_nm 0) (ra_nil)))) (nomark _)))))) (rss_cons (rs_set 2 (re_ix rIx (fun X => ix_seq) ixD_ok (rp_nm 0) (rp_ex (re_ix rIx (fun X => ix_seq) ixD_ok (rp_nm 0) (rp_ex (re_int)))))) (rss_cons (rs_sti 0 (re_op rAddA (fun X => op_addA X) addD_ok (rp_ex (re_ix rIx (fun X => ix_seq) ixD_ok (rp_nm 0) (rp_ex (re_int)))) (rp_ex (re_int))) (rp_ex (re_int))) (rss_cons (rs_sti 0 (re_call c_law_mixed (Nat.le_of_ble_eq_true rfl) (ra_cons (rp_ex (re_op rAddA (fun X => op_addA X) addD_ok (rp_ex (re_ix rIx (fun X => ix_seq) ixD_ok (rp_nm 0) (rp_ex (re_int)))) (rp_ex (re_op (fun _ => rI (fun _ j => 0 < j) fun i j => .int (i % j)) (fun X => op_modA X) modD_ok (rp_ex (re_ty (fun _ => rIntA) (fun X h => cb_int X h) intD_ok fac.b_int (by decide +kernel) (ra_cons (rp_nm 2) (ra_nil)))) (rp_ex (re_int)))))) (ra_cons (rp_ex (re_ix rIx (fun X => ix_seq) ixD_ok (rp_nm 0) (rp_ex (re_int)))) (ra_nil))) (.cons (.cons .nil))) (rp_ex (re_int))) (rss_one (rs_if (rt_cmp (fun _ => rI0 fun i j => .bl (decide (j ≤ i))) (fun X h => op_geA X h) geD_ok.1 (rp_nm 2) (rp_ex (re_op (fun _ => rI CPowW fun i j => .int (i ^ j.toNat)) (fun X => op_powA X) powD_ok (rp_ex (re_int)) (rp_ex (re_int)))) (nomark _)) (rss_one (rs_sti 0 (re_op (fun _ => rI (fun _ j => 0 < j) fun i j => .int (i % j)) (fun X => op_modA X) modD_ok (rp_ex (re_ty (fun _ => rIntA) (fun X h => cb_int X h) intD_ok fac.b_int (by decide +kernel) (ra_cons (rp_nm 2) (ra_nil)))) (rp_ex (re_op (fun _ => rI CPowW fun i j => .int (i ^ j.toNat)) (fun X => op_powA X) powD_ok (rp_ex (re_op (fun _ => rI CPowW fun i j => .int (i ^ j.toNat)) (fun X => op_powA X) powD_ok (rp_ex (re_int)) (rp_ex (re_int)))) (rp_ex (re_int))))) (rp_ex (re_int)))) (rss_one (rs_sti 0 (re_int) (rp_ex (re_int))))))))) (rss_nil)) (rss_cons (rs_if (rt_cmp (fun _ => rI0 fun i j => .bl (decide (j < i))) (fun X h => op_gtA X h) gtD_ok.1 (rp_ex (re_ix rIx (fun X => ix_seq) ixD_ok (rp_nm 0) (rp_ex (re_int)))) (rp_ex (re_int)) (nomark _)) (rss_cons (rs_set 3 (re_op (fun _ => rI (fun _ j => 0 < j) fun i j => .int (i % j)) (fun X => op_modA X) modD_ok (rp_ex (re_ty (fun _ => rIntA) (fun X h => cb_int X h) intD_ok fac.b_int (by decide +kernel) (ra_cons (rp_ex (re_ix rIx (fun X => ix_seq) ixD_ok (rp_nm 0) (rp_ex (re_int)))) (ra_nil)))) (rp_nm 1))) (rss_cons (rs_sti 0 (re_op (fun _ => rI CDivW fun i j => .int (i / j)) (fun X => op_fdivA X) fdivD_ok (rp_ex (re_ix rIx (fun X => ix_seq) ixD_ok (rp_nm 0) (rp_ex (re_int)))) (rp_nm 1)) (rp_ex (re_int))) (rss_one (rs_ret (re_mv 3))))) (rss_nil)) (rss_cons (rs_sti 0 (re_bi (fun _ => rMax2A) (fun X h => cb_max2 X h) max2D_ok fac.b_max (by decide +kernel) (ra_cons (rp_ex (re_int)) (ra_cons (rp_ex (re_op (fun _ => rI0 fun i j => .int (i - j)) (fun X => op_subA X) subD_ok (rp_ex (re_ix rIx (fun X => ix_seq) ixD_ok (rp_nm 0) (rp_ex (re_int)))) (rp_ex (re_int)))) (ra_nil)))) (rp_ex (re_int))) (rss_one (rs_ret (re_op (fun _ => rI (fun _ j => 0 < j) fun i j => .int (i % j)) (fun X => op_modA X) modD_ok (rp_ex (re_ty (fun _ => rIntA) (fun X h => cb_int X h) intD_ok fac.b_int (by decide +kernel) (ra_cons (rp_ex (re_call c_law_mixed (Nat.le_of_ble_eq_true rfl) (ra_cons (rp_ex (re_ix rIx (fun X => ix_seq) ixD_ok (rp_nm 0) (rp_ex (re_int)))) (ra_cons (rp_ex (re_ix rIx (fun X => ix_seq) ixD_ok (rp_nm 0) (rp_ex (re_int)))) (ra_nil))) (.cons (.cons .nil)))) (ra_nil)))) (rp_nm 1)))))))))
/-! _law_same -/
abbrev N_law_same : List Str := ["first", "second", "pile", "turn", "pair", "one", "two", "sort", "key", "k"]
abbrev P_law_same : List Str := ["first", "second"]
theorem sc_law_same : FnScope N_law_same P_law_same (defScope (top 43)) := ⟨rfl, rfl, rfl, by decide +kernel, rfl, by decide +kernel, by decide +kernel⟩
def mb_law_same : MS := s_seq (s_set 2 (m_lst (a_cons (m_it (m_tup (a_cons (m_it (m_var 0)) (a_cons (m_it (m_var 1)) (a_nil))))) (a_nil)))) (s_seq (s_for (i_rng1 (p_ex (m_c (.int 400000)))) (g_name 3) (s_seq (s_if (m_tst (m_op2 eqPD (p_ex (m_bi lenD (a_cons (p_nm 2) (a_nil)))) (p_ex (m_c (.int 0))))) (s_ret (m_c (.bl true))) (s_nop)) (s_seq (s_set 4 (m_pop 2)) (s_seq (s_set 5 (m_op2 ixD (p_nm 4) (p_ex (m_c (.int 0))))) (s_seq (s_set 6 (m_op2 ixD (p_nm 4) (p_ex (m_c (.int 1))))) (s_seq (s_set 7 (m_call g_law_sort (a_cons (p_nm 5) (a_nil)))) (s_seq (s_if (m_or (m_tst (m_op2 eqPD (p_nm 7) (p_ex (m_c (.int 7))))) (m_tst (m_op2 nePD (p_nm 7) (p_ex (m_call g_law_sort (a_cons (p_nm 6) (a_nil))))))) (s_ret (m_c (.bl false))) (s_nop)) (s_if (m_tst (m_op2 ltD (p_nm 7) (p_ex (m_c (.int 4))))) (s_if (m_tst (m_op2 nePD (p_nm 5) (p_nm 6))) (s_ret (m_c (.bl false))) (s_nop)) (s_if (m_tst (m_op2 nePD (p_ex (m_bi lenD (a_cons (p_nm 5) (a_nil)))) (p_ex (m_bi lenD (a_cons (p_nm 6) (a_nil)))))) (s_ret (m_c (.bl false))) (s_if (m_tst (m_op2 eqPD (p_nm 7) (p_ex (m_c (.int 6))))) (s_for (i_seq (m_bi listD (a_cons (p_nm 5) (a_nil)))) (g_name 8) (s_seq (s_if (m_or (m_not (m_tru (p_ex (m_bi isiD (a_cons (p_nm 8) (a_cons (p_ex (m_c (.ty "str"))) (a_nil))))))) (m_tst (m_op2 ninD (p_nm 8) (p_nm 6)))) (s_ret (m_c (.bl false))) (s_nop)) (s_drop (m_app 2 (m_tup (a_cons (m_it (m_op2 ixD (p_nm 5) (p_nm 8))) (a_cons (m_it (m_op2 ixD (p_nm 6) (p_nm 8))) (a_nil)))))))) (s_for (i_rng1 (p_ex (m_bi lenD (a_cons (p_nm 5) (a_nil))))) (g_name 9) (s_drop (m_app 2 (m_tup (a_cons (m_it (m_op2 ixD (p_nm 5) (p_nm 9))) (a_cons (m_it (m_op2 ixD (p_nm 6) (p_nm 9))) (a_nil))))))))))))))))) (s_ret (m_c (.bl false))))
def g_law_same : List O → Option (O × List O) := fnM 10 2 [0, 1] mb_law_same
theorem ok_law_same {P : Program} {w : World} {K : PySem.W.Frag} {mg : Str → Option Value} {base : Heap} (fac : Fac K mg) {f : Addr} {fd : FuncData} (F : FunD K "_law_same" "_law_same" (defArgs (top 43)) (defBody (top 43)) (defScope (top 43)) [] [] f fd) (c_law_sort : Cal P w K mg base 101 "_law_sort" 1 g_law_sort) :
    FnOk P w K mg base CX0 102 f fd P_law_same (spM K 2 g_law_same) :=
  fn_ok (k := 101) (N := N_law_same) (ps := P_law_same) (m := mb_law_same) [0, 1] F sc_law_same (rss_cons (rs_set 2 (re_lst (ra_cons (rp_it (re_tup (ra_cons (rp_it (re_var 0)) (ra_cons (rp_it (re_var 1)) (ra_nil))))) (ra_nil)))) (rss_cons (rs_for (vs := [3]) (ri_rng1 fac.b_range (rp_ex (re_int))) (rg_name 3) (rss_cons (rs_if (rt_cmpP rEqP (fun X h => op_eqP X h) eqPD_ok.1 (Nat.le_of_ble_eq_true rfl) (rp_ex (re_bi rLenA (fun X h => cb_len X h) lenD_ok fac.b_len (by decide +kernel) (ra_cons (rp_nm 2) (ra_nil)))) (rp_ex (re_int)) (nomark _)) (rss_one (rs_ret (re_bl))) (rss_nil)) (rss_cons (rs_set 4 (re_pop 2)) (rss_cons (rs_set 5 (re_ix rIx (fun X => ix_seq) ixD_ok (rp_nm 4) (rp_ex (re_int)))) (rss_cons (rs_set 6 (re_ix rIx (fun X => ix_seq) ixD_ok (rp_nm 4) (rp_ex (re_int)))) (rss_cons (rs_set 7 (re_call c_law_sort (Nat.le_of_ble_eq_true rfl) (ra_cons (rp_nm 5) (ra_nil)) (.cons .nil))) (rss_cons (rs_if (rt_bool (rw_or (rt_cmpP rEqP (fun X h => op_eqP X h) eqPD_ok.1 (Nat.le_of_ble_eq_true rfl) (rp_nm 7) (rp_ex (re_int)) (nomark _)) (rw_or1 (rt_cmpP rNeP (fun X h => op_neP X h) nePD_ok.1 (Nat.le_of_ble_eq_true rfl) (rp_nm 7) (rp_ex (re_call c_law_sort (Nat.le_of_ble_eq_true rfl) (ra_cons (rp_nm 6) (ra_nil)) (.cons .nil))) (nomark _))))) (rss_one (rs_ret (re_bl))) (rss_nil)) (rss_one (rs_if (rt_cmp (fun _ => rLtA) (fun X h => op_ltA X h) ltD_ok.1 (rp_nm 7) (rp_ex (re_int)) (nomark _)) (rss_one (rs_if (rt_cmpP rNeP (fun X h => op_neP X h) nePD_ok.1 (Nat.le_of_ble_eq_true rfl) (rp_nm 5) (rp_nm 6) (nomark _)) (rss_one (rs_ret (re_bl))) (rss_nil))) (rss_one (rs_if (rt_cmpP rNeP (fun X h => op_neP X h) nePD_ok.1 (Nat.le_of_ble_eq_true rfl) (rp_ex (re_bi rLenA (fun X h => cb_len X h) lenD_ok fac.b_len (by decide +kernel) (ra_cons (rp_nm 5) (ra_nil)))) (rp_ex (re_bi rLenA (fun X h => cb_len X h) lenD_ok fac.b_len (by decide +kernel) (ra_cons (rp_nm 6) (ra_nil)))) (nomark _)) (rss_one (rs_ret (re_bl))) (rss_one (rs_if (rt_cmpP rEqP (fun X h => op_eqP X h) eqPD_ok.1 (Nat.le_of_ble_eq_true rfl) (rp_nm 7) (rp_ex (re_int)) (nomark _)) (rss_one (rs_for (vs := [8]) (ri_seq (re_ty rListA (fun X h => cb_list X h) listD_ok fac.b_list (by decide +kernel) (ra_cons (rp_nm 5) (ra_nil)))) (rg_name 8) (rss_cons (rs_if (rt_bool (rw_or (rt_not (rt_tru (rp_ex (re_bi rIsi (fun X h => cb_isi X h) isiD_ok fac.b_isinstance (by decide +kernel) (ra_cons (rp_nm 8) (ra_cons (rp_ex (re_tyc fac.b_str (by decide +kernel))) (ra_nil))))))) (rw_or1 (rt_cmp rNinA (fun X h => op_ninA X h) ninD_ok (rp_nm 8) (rp_nm 6) rfl)))) (rss_one (rs_ret (re_bl))) (rss_nil)) (rss_one (rs_expr (re_app 2 (re_tup (ra_cons (rp_it (re_ix rIx (fun X => ix_seq) ixD_ok (rp_nm 5) (rp_nm 8))) (ra_cons (rp_it (re_ix rIx (fun X => ix_seq) ixD_ok (rp_nm 6) (rp_nm 8))) (ra_nil)))))))))) (rss_one (rs_for (vs := [9]) (ri_rng1 fac.b_range (rp_ex (re_bi rLenA (fun X h => cb_len X h) lenD_ok fac.b_len (by decide +kernel) (ra_cons (rp_nm 5) (ra_nil))))) (rg_name 9) (rss_one (rs_expr (re_app 2 (re_tup (ra_cons (rp_it (re_ix rIx (fun X => ix_seq) ixD_ok (rp_nm 5) (rp_nm 9))) (ra_cons (rp_it (re_ix rIx (fun X => ix_seq) ixD_ok (rp_nm 6) (rp_nm 9))) (ra_nil)))))))))))))))))))))) (rss_one (rs_ret (re_bl)))))
/-! _law_nodes -/
abbrev N_law_nodes : List Str := ["tree", "out", "pile", "turn", "node", "parts", "k"]
abbrev P_law_nodes : List Str := ["tree"]
theorem sc_law_nodes : FnScope N_law_nodes P_law_nodes (defScope (top 48)) := ⟨rfl, rfl, rfl, by decide +kernel, rfl, by decide +kernel, by decide +kernel⟩
def mb_law_nodes : MS := s_seq (s_set 1 (m_lst (a_nil))) (s_seq (s_set 2 (m_lst (a_cons (m_it (m_var 0)) (a_nil)))) (s_seq (s_for (i_rng1 (p_ex (m_c (.int 100000)))) (g_name 3) (s_seq (s_if (m_tst (m_op2 eqPD (p_ex (m_bi lenD (a_cons (p_nm 2) (a_nil)))) (p_ex (m_c (.int 0))))) (s_ret (m_mv 1)) (s_nop)) (s_seq (s_set 4 (m_pop 2)) (s_seq (s_drop (m_app 1 (m_var 4))) (s_seq (s_set 5 (m_call g_law_parts (a_cons (p_nm 4) (a_nil)))) (s_for (i_rng1 (p_ex (m_bi lenD (a_cons (p_nm 5) (a_nil))))) (g_name 6) (s_drop (m_app 2 (m_op2 ixD (p_nm 5) (p_ex (m_op2 subD (p_ex (m_op2 subD (p_ex (m_bi lenD (a_cons (p_nm 5) (a_nil)))) (p_ex (m_c (.int 1))))) (p_nm 6)))))))))))) (s_ret (m_mv 1))))
def g_law_nodes : List O → Option (O × List O) := fnM 7 1 [0] mb_law_nodes
theorem ok_law_nodes {P : Program} {w : World} {K : PySem.W.Frag} {mg : Str → Option Value} {base : Heap} (fac : Fac K mg) {f : Addr} {fd : FuncData} (F : FunD K "_law_nodes" "_law_nodes" (defArgs (top 48)) (defBody (top 48)) (defScope (top 48)) [] [] f fd) (c_law_parts : Cal P w K mg base 101 "_law_parts" 1 g_law_parts) :
    FnOk P w K mg base CX0 102 f fd P_law_nodes (spM K 1 g_law_nodes) :=
  fn_ok (k := 101) (N := N_law_nodes) (ps := P_law_nodes) (m := mb_law_nodes) [0] F sc_law_nodes (rss_cons (rs_set 1 (re_lst (ra_nil))) (rss_cons (rs_set 2 (re_lst (ra_cons (rp_it (re_var 0)) (ra_nil)))) (rss_cons (rs_for (vs := [3]) (ri_rng1 fac.b_range (rp_ex (re_int))) (rg_name 3) (rss_cons (rs_if (rt_cmpP rEqP (fun X h => op_eqP X h) eqPD_ok.1 (Nat.le_of_ble_eq_true rfl) (rp_ex (re_bi rLenA (fun X h => cb_len X h) lenD_ok fac.b_len (by decide +kernel) (ra_cons (rp_nm 2) (ra_nil)))) (rp_ex (re_int)) (nomark _)) (rss_one (rs_ret (re_mv 1))) (rss_nil)) (rss_cons (rs_set 4 (re_pop 2)) (rss_cons (rs_expr (re_app 1 (re_var 4))) (rss_cons (rs_set 5 (re_call c_law_parts (Nat.le_of_ble_eq_true rfl) (ra_cons (rp_nm 4) (ra_nil)) (.cons .nil))) (rss_one (rs_for (vs := [6]) (ri_rng1 fac.b_range (rp_ex (re_bi rLenA (fun X h => cb_len X h) lenD_ok fac.b_len (by decide +kernel) (ra_cons (rp_nm 5) (ra_nil))))) (rg_name 6) (rss_one (rs_expr (re_app 2 (re_ix rIx (fun X => ix_seq) ixD_ok (rp_nm 5) (rp_ex (re_op (fun _ => rI0 fun i j => .int (i - j)) (fun X => op_subA X) subD_ok (rp_ex (re_op (fun _ => rI0 fun i j => .int (i - j)) (fun X => op_subA X) subD_ok (rp_ex (re_bi rLenA (fun X h => cb_len X h) lenD_ok fac.b_len (by decide +kernel) (ra_cons (rp_nm 5) (ra_nil)))) (rp_ex (re_int)))) (rp_nm 6)))))))))))))) (rss_one (rs_ret (re_mv 1))))))
/-! _law_kids -/
abbrev N_law_kids : List Str := ["nodes", "kids", "sizes", "k", "at", "part", "node"]
abbrev P_law_kids : List Str := ["nodes"]
theorem sc_law_kids : FnScope N_law_kids P_law_kids (defScope (top 49)) := ⟨rfl, rfl, rfl, by decide +kernel, rfl, by decide +kernel, by decide +kernel⟩
def mb_law_kids : MS := s_seq (s_set 1 (m_lcL [6] (i_seq (m_var 0)) (g_name 6) (m_yes) (m_lst (a_nil)))) (s_seq (s_set 2 (m_lc [6] (i_seq (m_var 0)) (g_name 6) (m_yes) (m_c (.int 1)))) (s_seq (s_for (i_rev1 (m_bi lenD (a_cons (p_nm 0) (a_nil)))) (g_name 3) (s_seq (s_set 4 (m_op2 addD (p_nm 3) (p_ex (m_c (.int 1))))) (s_seq (s_for (i_seq (m_call g_law_parts (a_cons (p_ex (m_op2 ixD (p_nm 0) (p_nm 3))) (a_nil)))) (g_name 5) (s_seq (s_drop (m_apAt 1 3 4)) (s_set 4 (m_op2 addD (p_nm 4) (p_ex (m_op2 ixD (p_nm 2) (p_nm 4))))))) (s_sti 2 (m_op2 subD (p_nm 4) (p_nm 3)) (p_nm 3))))) (s_ret (m_var 1))))
def g_law_kids : List O → Option (O × List O) := fnM 7 1 [0] mb_law_kids
theorem ok_law_kids {P : Program} {w : World} {K : PySem.W.Frag} {mg : Str → Option Value} {base : Heap} (fac : Fac K mg) {f : Addr} {fd : FuncData} (F : FunD K "_law_kids" "_law_kids" (defArgs (top 49)) (defBody (top 49)) (defScope (top 49)) [] [] f fd) (c_law_parts : Cal P w K mg base 101 "_law_parts" 1 g_law_parts) :
    FnOk P w K mg base CX0 102 f fd P_law_kids (spM K 1 g_law_kids) :=
  fn_ok (k := 101) (N := N_law_kids) (ps := P_law_kids) (m := mb_law_kids) [0] F sc_law_kids (rss_cons (rs_setLcL 1 (own := [(("node" : Str), 6)]) (ri_seq (re_var 0)) (rg_name 6) (rts_nil) (re_lst (ra_nil))) (rss_cons (rs_setLc 2 (own := [(("node" : Str), 6)]) (ri_seq (re_var 0)) (rg_name 6) (rts_nil) (re_int)) (rss_cons (rs_for (vs := [3]) (ri_rev1 fac.b_range fac.b_reversed (re_bi rLenA (fun X h => cb_len X h) lenD_ok fac.b_len (by decide +kernel) (ra_cons (rp_nm 0) (ra_nil)))) (rg_name 3) (rss_cons (rs_set 4 (re_op rAddA (fun X => op_addA X) addD_ok (rp_nm 3) (rp_ex (re_int)))) (rss_cons (rs_for (vs := [5]) (ri_seq (re_call c_law_parts (Nat.le_of_ble_eq_true rfl) (ra_cons (rp_ex (re_ix rIx (fun X => ix_seq) ixD_ok (rp_nm 0) (rp_nm 3))) (ra_nil)) (.cons .nil))) (rg_name 5) (rss_cons (rs_expr (re_apAt 1 3 4)) (rss_one (rs_set 4 (re_op rAddA (fun X => op_addA X) addD_ok (rp_nm 4) (rp_ex (re_ix rIx (fun X => ix_seq) ixD_ok (rp_nm 2) (rp_nm 4)))))))) (rss_one (rs_sti 2 (re_op (fun _ => rI0 fun i j => .int (i - j)) (fun X => op_subA X) subD_ok (rp_nm 4) (rp_nm 3)) (rp_nm 3)))))) (rss_one (rs_ret (re_var 1))))))
/-! is_macro_name -/
abbrev N_is_macro_name : List Str := ["value"]
abbrev P_is_macro_name : List Str := ["value"]
theorem sc_is_macro_name : FnScope N_is_macro_name P_is_macro_name (defScope (top 19)) := ⟨rfl, rfl, rfl, by decide +kernel, rfl, by decide +kernel, by decide +kernel⟩
def mb_is_macro_name : MS := s_ret (m_andV (m_call g_is_atom_word (a_cons (p_nm 0) (a_nil))) (m_op2 inD (p_ex (m_op2 ixD (p_nm 0) (p_ex (m_c (.int 0))))) (p_ex (m_c (.str (Str.ofString "abcdefghijklmnopqrstuvwxyz"))))))
def g_is_macro_name : List O → Option (O × List O) := fnM 1 1 [0] mb_is_macro_name
theorem ok_is_macro_name {P : Program} {w : World} {K : PySem.W.Frag} {mg : Str → Option Value} {base : Heap} (fac : Fac K mg) {f : Addr} {fd : FuncData} (F : FunD K "is_macro_name" "is_macro_name" (defArgs (top 19)) (defBody (top 19)) (defScope (top 19)) [] [] f fd) (c_is_atom_word : Cal P w K mg base 102 "is_atom_word" 1 g_is_atom_word) :
    FnOk P w K mg base CX0 103 f fd P_is_macro_name (spM K 1 g_is_macro_name) :=
  fn_ok (k := 102) (N := N_is_macro_name) (ps := P_is_macro_name) (m := mb_is_macro_name) [0] F sc_is_macro_name (rss_one (rs_ret (re_and (re_call c_is_atom_word (Nat.le_of_ble_eq_true rfl) (ra_cons (rp_nm 0) (ra_nil)) (.cons .nil)) (re_one (re_cmp rInA (fun X h => op_inA X h) inD_ok (rp_ex (re_ix rIx (fun X => ix_seq) ixD_ok (rp_nm 0) (rp_ex (re_int)))) (rp_ex (re_gstrE fac.s_SMALL_LETTERS)) rfl)))))
/-! group_members -/
abbrev N_group_members : List Str := ["table", "node", "number", "members", "pile", "part", "left", "right"]
abbrev P_group_members : List Str := ["table", "node"]
theorem sc_group_members : FnScope N_group_members P_group_members (defScope (top 29)) := ⟨rfl, rfl, rfl, by decide +kernel, rfl, by decide +kernel, by decide +kernel⟩
def mb_group_members : MS := s_seq (s_if (m_or (m_tst (m_op2 nePD (p_ex (m_op2 ixD (p_nm 1) (p_ex (m_c (.int 0))))) (p_ex (m_c (.str (Str.ofString "o")))))) (m_not (m_tru (p_ex (m_op2 ixD (p_ex (m_op2 ixD (p_ex (m_prop "Table" g_Table_ops (p_nm 0))) (p_ex (m_op2 ixD (p_nm 1) (p_ex (m_c (.int 1))))))) (p_ex (m_c (.int 5)))))))) (s_ret (m_bi listD (a_cons (p_ex (m_call g_parts_of (a_cons (p_nm 1) (a_nil)))) (a_nil)))) (s_nop)) (s_seq (s_set 2 (m_op2 ixD (p_nm 1) (p_ex (m_c (.int 1))))) (s_seq (s_set 3 (m_lst (a_nil))) (s_seq (s_set 4 (m_lst (a_cons (m_it (m_var 1)) (a_nil)))) (s_seq (s_while (m_tru (p_nm 4)) (s_seq (s_set 5 (m_pop 4)) (s_if (m_tru (p_ex (m_call g_is_node_of (a_cons (p_nm 5) (a_cons (p_nm 2) (a_nil)))))) (s_seq (s_asg (g_tup 2 (gs_cons (g_name 6) (gs_cons (g_name 7) (gs_nil)))) (m_op2 ixD (p_nm 5) (p_ex (m_c (.int 2))))) (s_seq (s_drop (m_app 4 (m_var 7))) (s_drop (m_app 4 (m_var 6))))) (s_drop (m_app 3 (m_var 5)))))) (s_ret (m_mv 3))))))
def g_group_members : List O → Option (O × List O) := fnM 8 2 [0, 1] mb_group_members
theorem ok_group_members {P : Program} {w : World} {K : PySem.W.Frag} {mg : Str → Option Value} {base : Heap} (fac : Fac K mg) {f : Addr} {fd : FuncData} (F : FunD K "group_members" "group_members" (defArgs (top 29)) (defBody (top 29)) (defScope (top 29)) [] [] f fd) (c_is_node_of : Cal P w K mg base 101 "is_node_of" 2 g_is_node_of) (c_parts_of : Cal P w K mg base 101 "parts_of" 1 g_parts_of) (q_Table_ops : Prq P w K mg base 101 "Table" "ops" g_Table_ops) :
    FnOk P w K mg base CX0 103 f fd P_group_members (spM K 2 g_group_members) :=
  fn_ok (k := 102) (N := N_group_members) (ps := P_group_members) (m := mb_group_members) [0, 1] F sc_group_members (rss_cons (rs_if (rt_bool (rw_or (rt_cmpP rNeP (fun X h => op_neP X h) nePD_ok.1 (Nat.le_of_ble_eq_true rfl) (rp_ex (re_ix rIx (fun X => ix_seq) ixD_ok (rp_nm 1) (rp_ex (re_int)))) (rp_ex (re_str)) (nomark _)) (rw_or1 (rt_not (rt_tru (rp_ex (re_ix rIx (fun X => ix_seq) ixD_ok (rp_ex (re_ix rIx (fun X => ix_seq) ixD_ok (rp_ex (re_propM q_Table_ops (Nat.le_of_ble_eq_true rfl) (rp_nm 0))) (rp_ex (re_ix rIx (fun X => ix_seq) ixD_ok (rp_nm 1) (rp_ex (re_int)))))) (rp_ex (re_int))))))))) (rss_one (rs_ret (re_ty rListA (fun X h => cb_list X h) listD_ok fac.b_list (by decide +kernel) (ra_cons (rp_ex (re_call c_parts_of (Nat.le_of_ble_eq_true rfl) (ra_cons (rp_nm 1) (ra_nil)) (.cons .nil))) (ra_nil))))) (rss_nil)) (rss_cons (rs_set 2 (re_ix rIx (fun X => ix_seq) ixD_ok (rp_nm 1) (rp_ex (re_int)))) (rss_cons (rs_set 3 (re_lst (ra_nil))) (rss_cons (rs_set 4 (re_lst (ra_cons (rp_it (re_var 1)) (ra_nil)))) (rss_cons (rs_while (rt_tru (rp_nm 4)) (rss_cons (rs_set 5 (re_pop 4)) (rss_one (rs_if (rt_tru (rp_ex (re_call c_is_node_of (Nat.le_of_ble_eq_true rfl) (ra_cons (rp_nm 5) (ra_cons (rp_nm 2) (ra_nil))) (.cons (.cons .nil))))) (rss_cons (rs_asg (vs := [6, 7]) (re_ix rIx (fun X => ix_seq) ixD_ok (rp_nm 5) (rp_ex (re_int))) (rg_tup (rgs_cons (rg_name 6) (rgs_cons (rg_name 7) (rgs_nil))))) (rss_cons (rs_expr (re_app 4 (re_var 7))) (rss_one (rs_expr (re_app 4 (re_var 6)))))) (rss_one (rs_expr (re_app 3 (re_var 5)))))))) (rss_one (rs_ret (re_mv 3))))))))
/-! _law_edge -/
abbrev N_law_edge : List Str := ["store", "low", "high", "sort"]
abbrev P_law_edge : List Str := ["store", "low", "high"]
theorem sc_law_edge : FnScope N_law_edge P_law_edge (defScope (top 39)) := ⟨rfl, rfl, rfl, by decide +kernel, rfl, by decide +kernel, by decide +kernel⟩
def mb_law_edge : MS := s_seq (s_if (m_tst (m_op2 leD (p_nm 2) (p_nm 1))) (s_ret (m_mv 1)) (s_nop)) (s_seq (s_set 3 (m_call g_law_take (a_cons (p_nm 0) (a_cons (p_ex (m_c (.int 12))) (a_nil))))) (s_seq (s_if (m_tst (m_op2 ltD (p_nm 3) (p_ex (m_c (.int 4))))) (s_ret (m_op2 ixD (p_ex (m_tup (a_cons (m_it (m_var 1)) (a_cons (m_it (m_op2 addD (p_nm 1) (p_ex (m_c (.int 1))))) (a_cons (m_it (m_op2 subD (p_nm 2) (p_ex (m_c (.int 1))))) (a_cons (m_it (m_var 2)) (a_nil))))))) (p_nm 3))) (s_nop)) (s_ret (m_op2 addD (p_nm 1) (p_ex (m_call g_law_take (a_cons (p_nm 0) (a_cons (p_ex (m_op2 addD (p_ex (m_op2 subD (p_nm 2) (p_nm 1))) (p_ex (m_c (.int 1))))) (a_nil)))))))))
def g_law_edge : List O → Option (O × List O) := fnM 4 3 [0, 1, 2] mb_law_edge
theorem ok_law_edge {P : Program} {w : World} {K : PySem.W.Frag} {mg : Str → Option Value} {base : Heap} (fac : Fac K mg) {f : Addr} {fd : FuncData} (F : FunD K "_law_edge" "_law_edge" (defArgs (top 39)) (defBody (top 39)) (defScope (top 39)) [] [] f fd) (c_law_take : Cal P w K mg base 102 "_law_take" 2 g_law_take) :
    FnOk P w K mg base CX0 103 f fd P_law_edge (spM K 3 g_law_edge) :=
  fn_ok (k := 102) (N := N_law_edge) (ps := P_law_edge) (m := mb_law_edge) [0, 1, 2] F sc_law_edge (rss_cons (rs_if (rt_cmp (fun _ => rI0 fun i j => .bl (decide (i ≤ j))) (fun X h => op_leA X h) leD_ok.1 (rp_nm 2) (rp_nm 1) (nomark _)) (rss_one (rs_ret (re_mv 1))) (rss_nil)) (rss_cons (rs_set 3 (re_call c_law_take (Nat.le_of_ble_eq_true rfl) (ra_cons (rp_nm 0) (ra_cons (rp_ex (re_int)) (ra_nil))) (.cons (.cons .nil)))) (rss_cons (rs_if (rt_cmp (fun _ => rLtA) (fun X h => op_ltA X h) ltD_ok.1 (rp_nm 3) (rp_ex (re_int)) (nomark _)) (rss_one (rs_ret (re_ix rIx (fun X => ix_seq) ixD_ok (rp_ex (re_tup (ra_cons (rp_it (re_var 1)) (ra_cons (rp_it (re_op rAddA (fun X => op_addA X) addD_ok (rp_nm 1) (rp_ex (re_int)))) (ra_cons (rp_it (re_op (fun _ => rI0 fun i j => .int (i - j)) (fun X => op_subA X) subD_ok (rp_nm 2) (rp_ex (re_int)))) (ra_cons (rp_it (re_var 2)) (ra_nil))))))) (rp_nm 3)))) (rss_nil)) (rss_one (rs_ret (re_op rAddA (fun X => op_addA X) addD_ok (rp_nm 1) (rp_ex (re_call c_law_take (Nat.le_of_ble_eq_true rfl) (ra_cons (rp_nm 0) (ra_cons (rp_ex (re_op rAddA (fun X => op_addA X) addD_ok (rp_ex (re_op (fun _ => rI0 fun i j => .int (i - j)) (fun X => op_subA X) subD_ok (rp_nm 2) (rp_nm 1))) (rp_ex (re_int)))) (ra_nil))) (.cons (.cons .nil))))))))))
/-! _law_pick -/
abbrev N_law_pick : List Str := ["store", "row"]
abbrev P_law_pick : List Str := ["store", "row"]
theorem sc_law_pick : FnScope N_law_pick P_law_pick (defScope (top 40)) := ⟨rfl, rfl, rfl, by decide +kernel, rfl, by decide +kernel, by decide +kernel⟩
def mb_law_pick : MS := s_ret (m_op2 ixD (p_nm 1) (p_ex (m_call g_law_take (a_cons (p_nm 0) (a_cons (p_ex (m_bi lenD (a_cons (p_nm 1) (a_nil)))) (a_nil))))))
def g_law_pick : List O → Option (O × List O) := fnM 2 2 [0, 1] mb_law_pick
theorem ok_law_pick {P : Program} {w : World} {K : PySem.W.Frag} {mg : Str → Option Value} {base : Heap} (fac : Fac K mg) {f : Addr} {fd : FuncData} (F : FunD K "_law_pick" "_law_pick" (defArgs (top 40)) (defBody (top 40)) (defScope (top 40)) [] [] f fd) (c_law_take : Cal P w K mg base 102 "_law_take" 2 g_law_take) :
    FnOk P w K mg base CX0 103 f fd P_law_pick (spM K 2 g_law_pick) :=
  fn_ok (k := 102) (N := N_law_pick) (ps := P_law_pick) (m := mb_law_pick) [0, 1] F sc_law_pick (rss_one (rs_ret (re_ix rIx (fun X => ix_seq) ixD_ok (rp_nm 1) (rp_ex (re_call c_law_take (Nat.le_of_ble_eq_true rfl) (ra_cons (rp_nm 0) (ra_cons (rp_ex (re_bi rLenA (fun X h => cb_len X h) lenD_ok fac.b_len (by decide +kernel) (ra_cons (rp_nm 1) (ra_nil)))) (ra_nil))) (.cons (.cons .nil)))))))
/-! _law_shuffle -/
abbrev N_law_shuffle : List Str := ["store", "row", "left", "out", "turn"]
abbrev P_law_shuffle : List Str := ["store", "row"]
theorem sc_law_shuffle : FnScope N_law_shuffle P_law_shuffle (defScope (top 41)) := ⟨rfl, rfl, rfl, by decide +kernel, rfl, by decide +kernel, by decide +kernel⟩
def mb_law_shuffle : MS := s_seq (s_set 2 (m_bi listD (a_cons (p_nm 1) (a_nil)))) (s_seq (s_set 3 (m_lst (a_nil))) (s_seq (s_for (i_rng1 (p_ex (m_bi lenD (a_cons (p_nm 1) (a_nil))))) (g_name 4) (s_drop (m_app 3 (m_popAt 2 (m_call g_law_take (a_cons (p_nm 0) (a_cons (p_ex (m_bi lenD (a_cons (p_nm 2) (a_nil)))) (a_nil)))))))) (s_ret (m_mv 3))))
def g_law_shuffle : List O → Option (O × List O) := fnM 5 2 [0, 1] mb_law_shuffle
theorem ok_law_shuffle {P : Program} {w : World} {K : PySem.W.Frag} {mg : Str → Option Value} {base : Heap} (fac : Fac K mg) {f : Addr} {fd : FuncData} (F : FunD K "_law_shuffle" "_law_shuffle" (defArgs (top 41)) (defBody (top 41)) (defScope (top 41)) [] [] f fd) (c_law_take : Cal P w K mg base 102 "_law_take" 2 g_law_take) :
    FnOk P w K mg base CX0 103 f fd P_law_shuffle (spM K 2 g_law_shuffle) :=
  fn_ok (k := 102) (N := N_law_shuffle) (ps := P_law_shuffle) (m := mb_law_shuffle) [0, 1] F sc_law_shuffle (rss_cons (rs_set 2 (re_ty rListA (fun X h => cb_list X h) listD_ok fac.b_list (by decide +kernel) (ra_cons (rp_nm 1) (ra_nil)))) (rss_cons (rs_set 3 (re_lst (ra_nil))) (rss_cons (rs_for (vs := [4]) (ri_rng1 fac.b_range (rp_ex (re_bi rLenA (fun X h => cb_len X h) lenD_ok fac.b_len (by decide +kernel) (ra_cons (rp_nm 1) (ra_nil))))) (rg_name 4) (rss_one (rs_expr (re_app 3 (re_popAt 2 (re_call c_law_take (Nat.le_of_ble_eq_true rfl) (ra_cons (rp_nm 0) (ra_cons (rp_ex (re_bi rLenA (fun X h => cb_len X h) lenD_ok fac.b_len (by decide +kernel) (ra_cons (rp_nm 2) (ra_nil)))) (ra_nil))) (.cons (.cons .nil)))))))) (rss_one (rs_ret (re_mv 3))))))
/-! _law_swap -/
abbrev N_law_swap : List Str := ["tree", "number", "part", "nodes", "kids", "built", "child", "k", "j"]
abbrev P_law_swap : List Str := ["tree", "number", "part"]
theorem sc_law_swap : FnScope N_law_swap P_law_swap (defScope (top 50)) := ⟨rfl, rfl, rfl, by decide +kernel, rfl, by decide +kernel, by decide +kernel⟩
def mb_law_swap : MS := s_seq (s_set 3 (m_call g_law_nodes (a_cons (p_nm 0) (a_nil)))) (s_seq (s_set 4 (m_call g_law_kids (a_cons (p_nm 3) (a_nil)))) (s_seq (s_set 5 (m_bi listD (a_cons (p_nm 3) (a_nil)))) (s_seq (s_sti 5 (m_var 2) (p_nm 1)) (s_seq (s_set 6 (m_var 1)) (s_seq (s_for (i_rev1 (m_var 1)) (g_name 7) (s_if (m_tst (m_op2 inD (p_nm 6) (p_ex (m_op2 ixD (p_nm 4) (p_nm 7))))) (s_seq (s_sti 5 (m_call g_law_with (a_cons (p_ex (m_op2 ixD (p_nm 3) (p_nm 7))) (a_cons (p_ex (m_lc [8] (i_seq (m_op2 ixD (p_nm 4) (p_nm 7))) (g_name 8) (m_yes) (m_op2 ixD (p_nm 5) (p_nm 8)))) (a_nil)))) (p_nm 7)) (s_set 6 (m_var 7))) (s_nop))) (s_ret (m_op2 ixD (p_nm 5) (p_ex (m_c (.int 0))))))))))
def g_law_swap : List O → Option (O × List O) := fnM 9 3 [0, 1, 2] mb_law_swap
theorem ok_law_swap {P : Program} {w : World} {K : PySem.W.Frag} {mg : Str → Option Value} {base : Heap} (fac : Fac K mg) {f : Addr} {fd : FuncData} (F : FunD K "_law_swap" "_law_swap" (defArgs (top 50)) (defBody (top 50)) (defScope (top 50)) [] [] f fd) (c_law_with : Cal P w K mg base 101 "_law_with" 2 g_law_with) (c_law_kids : Cal P w K mg base 102 "_law_kids" 1 g_law_kids) (c_law_nodes : Cal P w K mg base 102 "_law_nodes" 1 g_law_nodes) :
    FnOk P w K mg base CX0 103 f fd P_law_swap (spM K 3 g_law_swap) :=
  fn_ok (k := 102) (N := N_law_swap) (ps := P_law_swap) (m := mb_law_swap) [0, 1, 2] F sc_law_swap (rss_cons (rs_set 3 (re_call c_law_nodes (Nat.le_of_ble_eq_true rfl) (ra_cons (rp_nm 0) (ra_nil)) (.cons .nil))) (rss_cons (rs_set 4 (re_call c_law_kids (Nat.le_of_ble_eq_true rfl) (ra_cons (rp_nm 3) (ra_nil)) (.cons .nil))) (rss_cons (rs_set 5 (re_ty rListA (fun X h => cb_list X h) listD_ok fac.b_list (by decide +kernel) (ra_cons (rp_nm 3) (ra_nil)))) (rss_cons (rs_sti 5 (re_var 2) (rp_nm 1)) (rss_cons (rs_set 6 (re_var 1)) (rss_cons (rs_for (vs := [7]) (ri_rev1 fac.b_range fac.b_reversed (re_var 1)) (rg_name 7) (rss_one (rs_if (rt_cmp rInA (fun X h => op_inA X h) inD_ok (rp_nm 6) (rp_ex (re_ix rIx (fun X => ix_seq) ixD_ok (rp_nm 4) (rp_nm 7))) rfl) (rss_cons (rs_sti 5 (re_call c_law_with (Nat.le_of_ble_eq_true rfl) (ra_cons (rp_ex (re_ix rIx (fun X => ix_seq) ixD_ok (rp_nm 3) (rp_nm 7))) (ra_cons (rp_ex (re_lc (own := [(("j" : Str), 8)]) (ri_seq (re_ix rIx (fun X => ix_seq) ixD_ok (rp_nm 4) (rp_nm 7))) (rg_name 8) (rts_nil) (re_ix rIx (fun X => ix_seq) ixD_ok (rp_nm 5) (rp_nm 8)))) (ra_nil))) (.cons (.cons .nil))) (rp_nm 7)) (rss_one (rs_set 6 (re_var 7)))) (rss_nil)))) (rss_one (rs_ret (re_ix rIx (fun X => ix_seq) ixD_ok (rp_nm 5) (rp_ex (re_int)))))))))))
/-! _law_flat -/
abbrev N_law_flat : List Str := ["ops", "tree", "nodes", "kids", "flat", "k", "node", "parts", "j"]
abbrev P_law_flat : List Str := ["ops", "tree"]
theorem sc_law_flat : FnScope N_law_flat P_law_flat (defScope (top 56)) := ⟨rfl, rfl, rfl, by decide +kernel, rfl, by decide +kernel, by decide +kernel⟩
def mb_law_flat : MS := s_seq (s_set 2 (m_call g_law_nodes (a_cons (p_nm 1) (a_nil)))) (s_seq (s_set 3 (m_call g_law_kids (a_cons (p_nm 2) (a_nil)))) (s_seq (s_set 4 (m_bi listD (a_cons (p_nm 2) (a_nil)))) (s_seq (s_for (i_rev1 (m_bi lenD (a_cons (p_nm 2) (a_nil)))) (g_name 5) (s_seq (s_set 6 (m_op2 ixD (p_nm 2) (p_nm 5))) (s_seq (s_set 7 (m_lst (a_nil))) (s_seq (s_for (i_seq (m_op2 ixD (p_nm 3) (p_nm 5))) (g_name 8) (s_if (m_and (m_tst (m_op2 eqPD (p_ex (m_op2 ixD (p_nm 6) (p_ex (m_c (.int 0))))) (p_ex (m_c (.str (Str.ofString "o")))))) (m_and (m_tru (p_ex (m_op2 ixD (p_ex (m_op2 ixD (p_nm 0) (p_ex (m_op2 ixD (p_nm 6) (p_ex (m_c (.int 1))))))) (p_ex (m_c (.int 5)))))) (m_and (m_tst (m_op2 eqPD (p_ex (m_op2 ixD (p_ex (m_op2 ixD (p_nm 2) (p_nm 8))) (p_ex (m_c (.int 0))))) (p_ex (m_c (.str (Str.ofString "o")))))) (m_tst (m_op2 eqPD (p_ex (m_op2 ixD (p_ex (m_op2 ixD (p_nm 2) (p_nm 8))) (p_ex (m_c (.int 1))))) (p_ex (m_op2 ixD (p_nm 6) (p_ex (m_c (.int 1)))))))))) (s_set 7 (m_op2 addD (p_nm 7) (p_ex (m_bi listD (a_cons (p_ex (m_op2 ixD (p_ex (m_op2 ixD (p_nm 4) (p_nm 8))) (p_ex (m_c (.int 2))))) (a_nil)))))) (s_drop (m_app 7 (m_op2 ixD (p_nm 4) (p_nm 8)))))) (s_sti 4 (m_call g_law_with (a_cons (p_nm 6) (a_cons (p_nm 7) (a_nil)))) (p_nm 5)))))) (s_ret (m_op2 ixD (p_nm 4) (p_ex (m_c (.int 0))))))))
def g_law_flat : List O → Option (O × List O) := fnM 9 2 [0, 1] mb_law_flat
theorem ok_law_flat {P : Program} {w : World} {K : PySem.W.Frag} {mg : Str → Option Value} {base : Heap} (fac : Fac K mg) {f : Addr} {fd : FuncData} (F : FunD K "_law_flat" "_law_flat" (defArgs (top 56)) (defBody (top 56)) (defScope (top 56)) [] [] f fd) (c_law_with : Cal P w K mg base 101 "_law_with" 2 g_law_with) (c_law_kids : Cal P w K mg base 102 "_law_kids" 1 g_law_kids) (c_law_nodes : Cal P w K mg base 102 "_law_nodes" 1 g_law_nodes) :
    FnOk P w K mg base CX0 103 f fd P_law_flat (spM K 2 g_law_flat) :=
  fn_ok (k := 102) (N := N_law_flat) (ps := P_law_flat) (m := mb_law_flat) [0, 1] F sc_law_flat (rss_cons (rs_set 2 (re_call c_law_nodes (Nat.le_of_ble_eq_true rfl) (ra_cons (rp_nm 1) (ra_nil)) (.cons .nil))) (rss_cons (rs_set 3 (re_call c_law_kids (Nat.le_of_ble_eq_true rfl) (ra_cons (rp_nm 2) (ra_nil)) (.cons .nil))) (rss_cons (rs_set 4 (re_ty rListA (fun X h => cb_list X h) listD_ok fac.b_list (by decide +kernel) (ra_cons (rp_nm 2) (ra_nil)))) (rss_cons (rs_for (vs := [5]) (ri_rev1 fac.b_range fac.b_reversed (re_bi rLenA (fun X h => cb_len X h) lenD_ok fac.b_len (by decide +kernel) (ra_cons (rp_nm 2) (ra_nil)))) (rg_name 5) (rss_cons (rs_set 6 (re_ix rIx (fun X => ix_seq) ixD_ok (rp_nm 2) (rp_nm 5))) (rss_cons (rs_set 7 (re_lst (ra_nil))) (rss_cons (rs_for (vs := [8]) (ri_seq (re_ix rIx (fun X => ix_seq) ixD_ok (rp_nm 3) (rp_nm 5))) (rg_name 8) (rss_one (rs_if (rt_bool (rw_and (rt_cmpP rEqP (fun X h => op_eqP X h) eqPD_ok.1 (Nat.le_of_ble_eq_true rfl) (rp_ex (re_ix rIx (fun X => ix_seq) ixD_ok (rp_nm 6) (rp_ex (re_int)))) (rp_ex (re_str)) (nomark _)) (rw_and (rt_tru (rp_ex (re_ix rIx (fun X => ix_seq) ixD_ok (rp_ex (re_ix rIx (fun X => ix_seq) ixD_ok (rp_nm 0) (rp_ex (re_ix rIx (fun X => ix_seq) ixD_ok (rp_nm 6) (rp_ex (re_int)))))) (rp_ex (re_int))))) (rw_and (rt_cmpP rEqP (fun X h => op_eqP X h) eqPD_ok.1 (Nat.le_of_ble_eq_true rfl) (rp_ex (re_ix rIx (fun X => ix_seq) ixD_ok (rp_ex (re_ix rIx (fun X => ix_seq) ixD_ok (rp_nm 2) (rp_nm 8))) (rp_ex (re_int)))) (rp_ex (re_str)) (nomark _)) (rw_and1 (rt_cmpP rEqP (fun X h => op_eqP X h) eqPD_ok.1 (Nat.le_of_ble_eq_true rfl) (rp_ex (re_ix rIx (fun X => ix_seq) ixD_ok (rp_ex (re_ix rIx (fun X => ix_seq) ixD_ok (rp_nm 2) (rp_nm 8))) (rp_ex (re_int)))) (rp_ex (re_ix rIx (fun X => ix_seq) ixD_ok (rp_nm 6) (rp_ex (re_int)))) (nomark _))))))) (rss_one (rs_set 7 (re_op rAddA (fun X => op_addA X) addD_ok (rp_nm 7) (rp_ex (re_ty rListA (fun X h => cb_list X h) listD_ok fac.b_list (by decide +kernel) (ra_cons (rp_ex (re_ix rIx (fun X => ix_seq) ixD_ok (rp_ex (re_ix rIx (fun X => ix_seq) ixD_ok (rp_nm 4) (rp_nm 8))) (rp_ex (re_int)))) (ra_nil))))))) (rss_one (rs_expr (re_app 7 (re_ix rIx (fun X => ix_seq) ixD_ok (rp_nm 4) (rp_nm 8)))))))) (rss_one (rs_sti 4 (re_call c_law_with (Nat.le_of_ble_eq_true rfl) (ra_cons (rp_nm 6) (ra_cons (rp_nm 7) (ra_nil))) (.cons (.cons .nil))) (rp_nm 5))))))) (rss_one (rs_ret (re_ix rIx (fun X => ix_seq) ixD_ok (rp_nm 4) (rp_ex (re_int)))))))))
/-! is_operator_name -/
abbrev N_is_operator_name : List Str := ["value"]
abbrev P_is_operator_name : List Str := ["value"]
theorem sc_is_operator_name : FnScope N_is_operator_name P_is_operator_name (defScope (top 20)) := ⟨rfl, rfl, rfl, by decide +kernel, rfl, by decide +kernel, by decide +kernel⟩
def mb_is_operator_name : MS := s_seq (s_if (m_tru (p_ex (m_call g_is_macro_name (a_cons (p_nm 0) (a_nil))))) (s_ret (m_c (.bl true))) (s_nop)) (s_ret (m_andV (m_bi isiD (a_cons (p_nm 0) (a_cons (p_ex (m_c (.ty "str"))) (a_nil)))) (m_call g_made_of (a_cons (p_nm 0) (a_cons (p_ex (m_c (.str (Str.ofString "+-*/<>=!?&|^~:.@$")))) (a_cons (p_ex (m_c (.int 2))) (a_nil)))))))
def g_is_operator_name : List O → Option (O × List O) := fnM 1 1 [0] mb_is_operator_name
theorem ok_is_operator_name {P : Program} {w : World} {K : PySem.W.Frag} {mg : Str → Option Value} {base : Heap} (fac : Fac K mg) {f : Addr} {fd : FuncData} (F : FunD K "is_operator_name" "is_operator_name" (defArgs (top 20)) (defBody (top 20)) (defScope (top 20)) [] [] f fd) (c_made_of : Cal P w K mg base 101 "made_of" 3 g_made_of) (c_is_macro_name : Cal P w K mg base 103 "is_macro_name" 1 g_is_macro_name) :
    FnOk P w K mg base CX0 104 f fd P_is_operator_name (spM K 1 g_is_operator_name) :=
  fn_ok (k := 103) (N := N_is_operator_name) (ps := P_is_operator_name) (m := mb_is_operator_name) [0] F sc_is_operator_name (rss_cons (rs_if (rt_tru (rp_ex (re_call c_is_macro_name (Nat.le_of_ble_eq_true rfl) (ra_cons (rp_nm 0) (ra_nil)) (.cons .nil)))) (rss_one (rs_ret (re_bl))) (rss_nil)) (rss_one (rs_ret (re_and (re_bi rIsi (fun X h => cb_isi X h) isiD_ok fac.b_isinstance (by decide +kernel) (ra_cons (rp_nm 0) (ra_cons (rp_ex (re_tyc fac.b_str (by decide +kernel))) (ra_nil)))) (re_one (re_call c_made_of (Nat.le_of_ble_eq_true rfl) (ra_cons (rp_nm 0) (ra_cons (rp_ex (re_gstrE fac.s_MARKS)) (ra_cons (rp_ex (re_int)) (ra_nil)))) (.cons (.cons (.cons .nil)))))))))
/-! flat_nodes -/
abbrev N_flat_nodes : List Str := ["table", "tree", "pairs", "pile", "node", "members"]
abbrev P_flat_nodes : List Str := ["table", "tree"]
theorem sc_flat_nodes : FnScope N_flat_nodes P_flat_nodes (defScope (top 30)) := ⟨rfl, rfl, rfl, by decide +kernel, rfl, by decide +kernel, by decide +kernel⟩
def mb_flat_nodes : MS := s_seq (s_set 2 (m_lst (a_nil))) (s_seq (s_set 3 (m_lst (a_cons (m_it (m_var 1)) (a_nil)))) (s_seq (s_while (m_tru (p_nm 3)) (s_seq (s_set 4 (m_pop 3)) (s_seq (s_set 5 (m_call g_group_members (a_cons (p_nm 0) (a_cons (p_nm 4) (a_nil))))) (s_seq (s_drop (m_app 2 (m_tup (a_cons (m_it (m_var 4)) (a_cons (m_it (m_var 5)) (a_nil)))))) (s_drop (m_ext 3 (m_revS (p_nm 5)))))))) (s_ret (m_mv 2))))
def g_flat_nodes : List O → Option (O × List O) := fnM 6 2 [0, 1] mb_flat_nodes
theorem ok_flat_nodes {P : Program} {w : World} {K : PySem.W.Frag} {mg : Str → Option Value} {base : Heap} (fac : Fac K mg) {f : Addr} {fd : FuncData} (F : FunD K "flat_nodes" "flat_nodes" (defArgs (top 30)) (defBody (top 30)) (defScope (top 30)) [] [] f fd) (c_group_members : Cal P w K mg base 103 "group_members" 2 g_group_members) :
    FnOk P w K mg base CX0 104 f fd P_flat_nodes (spM K 2 g_flat_nodes) :=
  fn_ok (k := 103) (N := N_flat_nodes) (ps := P_flat_nodes) (m := mb_flat_nodes) [0, 1] F sc_flat_nodes (rss_cons (rs_set 2 (re_lst (ra_nil))) (rss_cons (rs_set 3 (re_lst (ra_cons (rp_it (re_var 1)) (ra_nil)))) (rss_cons (rs_while (rt_tru (rp_nm 3)) (rss_cons (rs_set 4 (re_pop 3)) (rss_cons (rs_set 5 (re_call c_group_members (Nat.le_of_ble_eq_true rfl) (ra_cons (rp_nm 0) (ra_cons (rp_nm 4) (ra_nil))) (.cons (.cons .nil)))) (rss_cons (rs_expr (re_app 2 (re_tup (ra_cons (rp_it (re_var 4)) (ra_cons (rp_it (re_var 5)) (ra_nil)))))) (rss_one (rs_expr (re_ext 3 (re_revS (rp_nm 5))))))))) (rss_one (rs_ret (re_mv 2))))))
/-! _law_leaf -/
abbrev N_law_leaf : List Str := ["store", "words", "leaves", "room"]
abbrev P_law_leaf : List Str := ["store", "words", "leaves", "room"]
theorem sc_law_leaf : FnScope N_law_leaf P_law_leaf (defScope (top 51)) := ⟨rfl, rfl, rfl, by decide +kernel, rfl, by decide +kernel, by decide +kernel⟩
def mb_law_leaf : MS := s_seq (s_if (m_and (m_tst (m_op2 gtD (p_ex (m_bi lenD (a_cons (p_nm 2) (a_nil)))) (p_ex (m_c (.int 0))))) (m_and (m_tst (m_op2 gtD (p_ex (m_op2 ixD (p_nm 3) (p_ex (m_c (.int 1))))) (p_ex (m_c (.int 0))))) (m_tst (m_op2 gtD (p_ex (m_call g_law_take (a_cons (p_nm 0) (a_cons (p_ex (m_c (.int 3))) (a_nil))))) (p_ex (m_c (.int 0))))))) (s_seq (s_sti 3 (m_op2 subD (p_ex (m_op2 ixD (p_nm 3) (p_ex (m_c (.int 1))))) (p_ex (m_c (.int 1)))) (p_ex (m_c (.int 1)))) (s_ret (m_call g_law_pick (a_cons (p_nm 0) (a_cons (p_nm 2) (a_nil)))))) (s_nop)) (s_ret (m_tup (a_cons (m_it (m_c (.str (Str.ofString "a")))) (a_cons (m_it (m_call g_law_pick (a_cons (p_nm 0) (a_cons (p_nm 1) (a_nil))))) (a_nil)))))
def g_law_leaf : List O → Option (O × List O) := fnM 4 4 [0, 1, 2, 3] mb_law_leaf
theorem ok_law_leaf {P : Program} {w : World} {K : PySem.W.Frag} {mg : Str → Option Value} {base : Heap} (fac : Fac K mg) {f : Addr} {fd : FuncData} (F : FunD K "_law_leaf" "_law_leaf" (defArgs (top 51)) (defBody (top 51)) (defScope (top 51)) [] [] f fd) (c_law_pick : Cal P w K mg base 103 "_law_pick" 2 g_law_pick) (c_law_take : Cal P w K mg base 102 "_law_take" 2 g_law_take) :
    FnOk P w K mg base CX0 104 f fd P_law_leaf (spM K 4 g_law_leaf) :=
  fn_ok (k := 103) (N := N_law_leaf) (ps := P_law_leaf) (m := mb_law_leaf) [0, 1, 2, 3] F sc_law_leaf (rss_cons (rs_if (rt_bool (rw_and (rt_cmp (fun _ => rI0 fun i j => .bl (decide (j < i))) (fun X h => op_gtA X h) gtD_ok.1 (rp_ex (re_bi rLenA (fun X h => cb_len X h) lenD_ok fac.b_len (by decide +kernel) (ra_cons (rp_nm 2) (ra_nil)))) (rp_ex (re_int)) (nomark _)) (rw_and (rt_cmp (fun _ => rI0 fun i j => .bl (decide (j < i))) (fun X h => op_gtA X h) gtD_ok.1 (rp_ex (re_ix rIx (fun X => ix_seq) ixD_ok (rp_nm 3) (rp_ex (re_int)))) (rp_ex (re_int)) (nomark _)) (rw_and1 (rt_cmp (fun _ => rI0 fun i j => .bl (decide (j < i))) (fun X h => op_gtA X h) gtD_ok.1 (rp_ex (re_call c_law_take (Nat.le_of_ble_eq_true rfl) (ra_cons (rp_nm 0) (ra_cons (rp_ex (re_int)) (ra_nil))) (.cons (.cons .nil)))) (rp_ex (re_int)) (nomark _)))))) (rss_cons (rs_sti 3 (re_op (fun _ => rI0 fun i j => .int (i - j)) (fun X => op_subA X) subD_ok (rp_ex (re_ix rIx (fun X => ix_seq) ixD_ok (rp_nm 3) (rp_ex (re_int)))) (rp_ex (re_int))) (rp_ex (re_int))) (rss_one (rs_ret (re_call c_law_pick (Nat.le_of_ble_eq_true rfl) (ra_cons (rp_nm 0) (ra_cons (rp_nm 2) (ra_nil))) (.cons (.cons .nil)))))) (rss_nil)) (rss_one (rs_ret (re_tup (ra_cons (rp_it (re_str)) (ra_cons (rp_it (re_call c_law_pick (Nat.le_of_ble_eq_true rfl) (ra_cons (rp_nm 0) (ra_cons (rp_nm 1) (ra_nil))) (.cons (.cons .nil)))) (ra_nil)))))))
/-! _law_long -/
abbrev N_law_long : List Str := ["store", "ops", "words", "tokens", "infixes", "singles", "moves", "tree", "left", "turn", "move", "atom", "k", "pair"]
abbrev P_law_long : List Str := ["store", "ops", "words", "tokens"]
theorem sc_law_long : FnScope N_law_long P_law_long (defScope (top 55)) := ⟨rfl, rfl, rfl, by decide +kernel, rfl, by decide +kernel, by decide +kernel⟩
def mb_law_long : MS := s_seq (s_set 4 (m_call g_law_roles (a_cons (p_nm 1) (a_cons (p_ex (m_c (.str (Str.ofString "infix")))) (a_nil))))) (s_seq (s_set 5 (m_op2 addD (p_ex (m_call g_law_roles (a_cons (p_nm 1) (a_cons (p_ex (m_c (.str (Str.ofString "prefix")))) (a_nil))))) (p_ex (m_call g_law_roles (a_cons (p_nm 1) (a_cons (p_ex (m_c (.str (Str.ofString "postfix")))) (a_nil))))))) (s_seq (s_set 6 (m_lc [12] (i_rng1 (p_ex (m_c (.int 6)))) (g_name 12) (m_yes) (m_lst (a_cons (m_it (m_call g_law_take (a_cons (p_nm 0) (a_cons (p_ex (m_c (.int 9))) (a_nil))))) (a_cons (m_it (m_call g_law_take (a_cons (p_nm 0) (a_cons (p_ex (m_c (.int 60))) (a_nil))))) (a_cons (m_it (m_call g_law_take (a_cons (p_nm 0) (a_cons (p_ex (m_c (.int 60))) (a_nil))))) (a_nil))))))) (s_seq (s_set 7 (m_tup (a_cons (m_it (m_c (.str (Str.ofString "a")))) (a_cons (m_it (m_call g_law_pick (a_cons (p_nm 0) (a_cons (p_nm 2) (a_nil))))) (a_nil))))) (s_seq (s_set 8 (m_op2 subD (p_nm 3) (p_ex (m_c (.int 1))))) (s_seq (s_for (i_rng1 (p_ex (m_c (.int 120)))) (g_name 9) (s_seq (s_set 10 (m_op2 ixD (p_nm 6) (p_ex (m_op2 modD (p_ex (m_bi intD (a_cons (p_nm 9) (a_nil)))) (p_ex (m_c (.int 6))))))) (s_seq (s_set 11 (m_tup (a_cons (m_it (m_c (.str (Str.ofString "a")))) (a_cons (m_it (m_op2 ixD (p_nm 2) (p_ex (m_op2 modD (p_ex (m_bi intD (a_cons (p_ex (m_op2 ixD (p_nm 10) (p_ex (m_c (.int 2))))) (a_nil)))) (p_ex (m_bi lenD (a_cons (p_nm 2) (a_nil)))))))) (a_nil))))) (s_seq (s_if (m_or (m_tst (m_op2 eqPD (p_nm 8) (p_ex (m_c (.int 0))))) (m_and (m_tst (m_op2 eqPD (p_nm 8) (p_ex (m_c (.int 1))))) (m_tst (m_op2 eqPD (p_ex (m_bi lenD (a_cons (p_nm 5) (a_nil)))) (p_ex (m_c (.int 0))))))) (s_bk) (s_nop)) (s_if (m_and (m_tst (m_op2 gtD (p_ex (m_bi lenD (a_cons (p_nm 5) (a_nil)))) (p_ex (m_c (.int 0))))) (m_or (m_tst (m_op2 eqPD (p_nm 8) (p_ex (m_c (.int 1))))) (m_tst (m_op2 ltD (p_ex (m_op2 ixD (p_nm 10) (p_ex (m_c (.int 0))))) (p_ex (m_c (.int 2))))))) (s_seq (s_set 7 (m_tup (a_cons (m_it (m_c (.str (Str.ofString "o")))) (a_cons (m_it (m_op2 ixD (p_nm 5) (p_ex (m_op2 modD (p_ex (m_bi intD (a_cons (p_ex (m_op2 ixD (p_nm 10) (p_ex (m_c (.int 1))))) (a_nil)))) (p_ex (m_bi lenD (a_cons (p_nm 5) (a_nil)))))))) (a_cons (m_it (m_tup (a_cons (m_it (m_var 7)) (a_nil)))) (a_nil)))))) (s_set 8 (m_op2 subD (p_nm 8) (p_ex (m_c (.int 1)))))) (s_if (m_and (m_tst (m_op2 gtD (p_ex (m_bi lenD (a_cons (p_nm 4) (a_nil)))) (p_ex (m_c (.int 0))))) (m_tst (m_op2 ltD (p_ex (m_op2 ixD (p_nm 10) (p_ex (m_c (.int 0))))) (p_ex (m_c (.int 8)))))) (s_seq (s_set 13 (m_if (m_tst (m_op2 ltD (p_ex (m_op2 ixD (p_nm 10) (p_ex (m_c (.int 0))))) (p_ex (m_c (.int 5))))) (m_tup (a_cons (m_it (m_var 7)) (a_cons (m_it (m_var 11)) (a_nil)))) (m_tup (a_cons (m_it (m_var 11)) (a_cons (m_it (m_var 7)) (a_nil)))))) (s_seq (s_set 7 (m_tup (a_cons (m_it (m_c (.str (Str.ofString "o")))) (a_cons (m_it (m_op2 ixD (p_nm 4) (p_ex (m_op2 modD (p_ex (m_bi intD (a_cons (p_ex (m_op2 ixD (p_nm 10) (p_ex (m_c (.int 1))))) (a_nil)))) (p_ex (m_bi lenD (a_cons (p_nm 4) (a_nil)))))))) (a_cons (m_it (m_var 13)) (a_nil)))))) (s_set 8 (m_op2 subD (p_nm 8) (p_ex (m_c (.int 2))))))) (s_seq (s_set 7 (m_tup (a_cons (m_it (m_c (.str (Str.ofString "b")))) (a_cons (m_it (m_var 7)) (a_nil))))) (s_set 8 (m_op2 subD (p_nm 8) (p_ex (m_c (.int 2)))))))))))) (s_ret (m_mv 7)))))))
def g_law_long : List O → Option (O × List O) := fnM 14 4 [0, 1, 2, 3] mb_law_long
theorem ok_law_long {P : Program} {w : World} {K : PySem.W.Frag} {mg : Str → Option Value} {base : Heap} (fac : Fac K mg) {f : Addr} {fd : FuncData} (F : FunD K "_law_long" "_law_long" (defArgs (top 55)) (defBody (top 55)) (defScope (top 55)) [] [] f fd) (c_law_pick : Cal P w K mg base 103 "_law_pick" 2 g_law_pick) (c_law_take : Cal P w K mg base 102 "_law_take" 2 g_law_take) (c_law_roles : Cal P w K mg base 101 "_law_roles" 2 g_law_roles) :
    FnOk P w K mg base CX0 104 f fd P_law_long (spM K 4 g_law_long) :=
  fn_ok (k := 103) (N := N_law_long) (ps := P_law_long) (m := mb_law_long) [0, 1, 2, 3] F sc_law_long (rss_cons (rs_set 4 (re_call c_law_roles (Nat.le_of_ble_eq_true rfl) (ra_cons (rp_nm 1) (ra_cons (rp_ex (re_str)) (ra_nil))) (.cons (.cons .nil)))) (rss_cons (rs_set 5 (re_op rAddA (fun X => op_addA X) addD_ok (rp_ex (re_call c_law_roles (Nat.le_of_ble_eq_true rfl) (ra_cons (rp_nm 1) (ra_cons (rp_ex (re_str)) (ra_nil))) (.cons (.cons .nil)))) (rp_ex (re_call c_law_roles (Nat.le_of_ble_eq_true rfl) (ra_cons (rp_nm 1) (ra_cons (rp_ex (re_str)) (ra_nil))) (.cons (.cons .nil)))))) (rss_cons (rs_setLc 6 (own := [(("k" : Str), 12)]) (ri_rng1 fac.b_range (rp_ex (re_int))) (rg_name 12) (rts_nil) (re_lst (ra_cons (rp_it (re_call c_law_take (Nat.le_of_ble_eq_true rfl) (ra_cons (rp_nm 0) (ra_cons (rp_ex (re_int)) (ra_nil))) (.cons (.cons .nil)))) (ra_cons (rp_it (re_call c_law_take (Nat.le_of_ble_eq_true rfl) (ra_cons (rp_nm 0) (ra_cons (rp_ex (re_int)) (ra_nil))) (.cons (.cons .nil)))) (ra_cons (rp_it (re_call c_law_take (Nat.le_of_ble_eq_true rfl) (ra_cons (rp_nm 0) (ra_cons (rp_ex (re_int)) (ra_nil))) (.cons (.cons .nil)))) (ra_nil)))))) (rss_cons (rs_set 7 (re_tup (ra_cons (rp_it (re_str)) (ra_cons (rp_it (re_call c_law_pick (Nat.le_of_ble_eq_true rfl) (ra_cons (rp_nm 0) (ra_cons (rp_nm 2) (ra_nil))) (.cons (.cons .nil)))) (ra_nil))))) (rss_cons (rs_set 8 (re_op (fun _ => rI0 fun i j => .int (i - j)) (fun X => op_subA X) subD_ok (rp_nm 3) (rp_ex (re_int)))) (rss_cons (rs_for (vs := [9]) (ri_rng1 fac.b_range (rp_ex (re_int))) (rg_name 9) (rss_cons (rs_set 10 (re_ix rIx (fun X => ix_seq) ixD_ok (rp_nm 6) (rp_ex (re_op (fun _ => rI (fun _ j => 0 < j) fun i j => .int (i % j)) (fun X => op_modA X) modD_ok (rp_ex (re_ty (fun _ => rIntA) (fun X h => cb_int X h) intD_ok fac.b_int (by decide +kernel) (ra_cons (rp_nm 9) (ra_nil)))) (rp_ex (re_int)))))) (rss_cons (rs_set 11 (re_tup (ra_cons (rp_it (re_str)) (ra_cons (rp_it (re_ix rIx (fun X => ix_seq) ixD_ok (rp_nm 2) (rp_ex (re_op (fun _ => rI (fun _ j => 0 < j) fun i j => .int (i % j)) (fun X => op_modA X) modD_ok (rp_ex (re_ty (fun _ => rIntA) (fun X h => cb_int X h) intD_ok fac.b_int (by decide +kernel) (ra_cons (rp_ex (re_ix rIx (fun X => ix_seq) ixD_ok (rp_nm 10) (rp_ex (re_int)))) (ra_nil)))) (rp_ex (re_bi rLenA (fun X h => cb_len X h) lenD_ok fac.b_len (by decide +kernel) (ra_cons (rp_nm 2) (ra_nil)))))))) (ra_nil))))) (rss_cons (rs_if (rt_bool (rw_or (rt_cmpP rEqP (fun X h => op_eqP X h) eqPD_ok.1 (Nat.le_of_ble_eq_true rfl) (rp_nm 8) (rp_ex (re_int)) (nomark _)) (rw_or1 (rt_bool (rw_and (rt_cmpP rEqP (fun X h => op_eqP X h) eqPD_ok.1 (Nat.le_of_ble_eq_true rfl) (rp_nm 8) (rp_ex (re_int)) (nomark _)) (rw_and1 (rt_cmpP rEqP (fun X h => op_eqP X h) eqPD_ok.1 (Nat.le_of_ble_eq_true rfl) (rp_ex (re_bi rLenA (fun X h => cb_len X h) lenD_ok fac.b_len (by decide +kernel) (ra_cons (rp_nm 5) (ra_nil)))) (rp_ex (re_int)) (nomark _)))))))) (rss_one (rs_bk)) (rss_nil)) (rss_one (rs_if (rt_bool (rw_and (rt_cmp (fun _ => rI0 fun i j => .bl (decide (j < i))) (fun X h => op_gtA X h) gtD_ok.1 (rp_ex (re_bi rLenA (fun X h => cb_len X h) lenD_ok fac.b_len (by decide +kernel) (ra_cons (rp_nm 5) (ra_nil)))) (rp_ex (re_int)) (nomark _)) (rw_and1 (rt_bool (rw_or (rt_cmpP rEqP (fun X h => op_eqP X h) eqPD_ok.1 (Nat.le_of_ble_eq_true rfl) (rp_nm 8) (rp_ex (re_int)) (nomark _)) (rw_or1 (rt_cmp (fun _ => rLtA) (fun X h => op_ltA X h) ltD_ok.1 (rp_ex (re_ix rIx (fun X => ix_seq) ixD_ok (rp_nm 10) (rp_ex (re_int)))) (rp_ex (re_int)) (nomark _)))))))) (rss_cons (rs_set 7 (re_tup (ra_cons (rp_it (re_str)) (ra_cons (rp_it (re_ix rIx (fun X => ix_seq) ixD_ok (rp_nm 5) (rp_ex (re_op (fun _ => rI (fun _ j => 0 < j) fun i j => .int (i % j)) (fun X => op_modA X) modD_ok (rp_ex (re_ty (fun _ => rIntA) (fun X h => cb_int X h) intD_ok fac.b_int (by decide +kernel) (ra_cons (rp_ex (re_ix rIx (fun X => ix_seq) ixD_ok (rp_nm 10) (rp_ex (re_int)))) (ra_nil)))) (rp_ex (re_bi rLenA (fun X h => cb_len X h) lenD_ok fac.b_len (by decide +kernel) (ra_cons (rp_nm 5) (ra_nil)))))))) (ra_cons (rp_it (re_tup (ra_cons (rp_it (re_var 7)) (ra_nil)))) (ra_nil)))))) (rss_one (rs_set 8 (re_op (fun _ => rI0 fun i j => .int (i - j)) (fun X => op_subA X) subD_ok (rp_nm 8) (rp_ex (re_int)))))) (rss_one (rs_if (rt_bool (rw_and (rt_cmp (fun _ => rI0 fun i j => .bl (decide (j < i))) (fun X h => op_gtA X h) gtD_ok.1 (rp_ex (re_bi rLenA (fun X h => cb_len X h) lenD_ok fac.b_len (by decide +kernel) (ra_cons (rp_nm 4) (ra_nil)))) (rp_ex (re_int)) (nomark _)) (rw_and1 (rt_cmp (fun _ => rLtA) (fun X h => op_ltA X h) ltD_ok.1 (rp_ex (re_ix rIx (fun X => ix_seq) ixD_ok (rp_nm 10) (rp_ex (re_int)))) (rp_ex (re_int)) (nomark _))))) (rss_cons (rs_set 13 (re_if (rt_cmp (fun _ => rLtA) (fun X h => op_ltA X h) ltD_ok.1 (rp_ex (re_ix rIx (fun X => ix_seq) ixD_ok (rp_nm 10) (rp_ex (re_int)))) (rp_ex (re_int)) (nomark _)) (re_tup (ra_cons (rp_it (re_var 7)) (ra_cons (rp_it (re_var 11)) (ra_nil)))) (re_tup (ra_cons (rp_it (re_var 11)) (ra_cons (rp_it (re_var 7)) (ra_nil)))))) (rss_cons (rs_set 7 (re_tup (ra_cons (rp_it (re_str)) (ra_cons (rp_it (re_ix rIx (fun X => ix_seq) ixD_ok (rp_nm 4) (rp_ex (re_op (fun _ => rI (fun _ j => 0 < j) fun i j => .int (i % j)) (fun X => op_modA X) modD_ok (rp_ex (re_ty (fun _ => rIntA) (fun X h => cb_int X h) intD_ok fac.b_int (by decide +kernel) (ra_cons (rp_ex (re_ix rIx (fun X => ix_seq) ixD_ok (rp_nm 10) (rp_ex (re_int)))) (ra_nil)))) (rp_ex (re_bi rLenA (fun X h => cb_len X h) lenD_ok fac.b_len (by decide +kernel) (ra_cons (rp_nm 4) (ra_nil)))))))) (ra_cons (rp_it (re_var 13)) (ra_nil)))))) (rss_one (rs_set 8 (re_op (fun _ => rI0 fun i j => .int (i - j)) (fun X => op_subA X) subD_ok (rp_nm 8) (rp_ex (re_int))))))) (rss_cons (rs_set 7 (re_tup (ra_cons (rp_it (re_str)) (ra_cons (rp_it (re_var 7)) (ra_nil))))) (rss_one (rs_set 8 (re_op (fun _ => rI0 fun i j => .int (i - j)) (fun X => op_subA X) subD_ok (rp_nm 8) (rp_ex (re_int)))))))))))))) (rss_one (rs_ret (re_mv 7)))))))))
/-! _law_lightops -/
abbrev N_law_lightops : List Str := ["store", "many", "menu", "ladder", "odd", "ops", "k", "role", "name", "left", "right", "airy", "joins"]
abbrev P_law_lightops : List Str := ["store", "many"]
theorem sc_law_lightops : FnScope N_law_lightops P_law_lightops (defScope (top 57)) := ⟨rfl, rfl, rfl, by decide +kernel, rfl, by decide +kernel, by decide +kernel⟩
def mb_law_lightops : MS := s_seq (s_set 2 (m_call g_law_shuffle (a_cons (p_nm 0) (a_cons (p_ex (m_lst (a_cons (m_it (m_c (.str (Str.ofString "+")))) (a_cons (m_it (m_c (.str (Str.ofString "-")))) (a_cons (m_it (m_c (.str (Str.ofString "*")))) (a_cons (m_it (m_c (.str (Str.ofString "^")))) (a_cons (m_it (m_c (.str (Str.ofString "!")))) (a_cons (m_it (m_c (.str (Str.ofString "<")))) (a_cons (m_it (m_c (.str (Str.ofString "=")))) (a_cons (m_it (m_c (.str (Str.ofString "--")))) (a_cons (m_it (m_c (.str (Str.ofString "<=")))) (a_cons (m_it (m_c (.str (Str.ofString "-<")))) (a_cons (m_it (m_c (.str (Str.ofString "or")))) (a_cons (m_it (m_c (.str (Str.ofString "e")))) (a_cons (m_it (m_c (.str (Str.ofString "not")))) (a_cons (m_it (m_c (.str (Str.ofString "+=")))) (a_nil))))))))))))))))) (a_nil))))) (s_seq (s_set 3 (m_call g_law_take (a_cons (p_nm 0) (a_cons (p_ex (m_c (.int 2))) (a_nil))))) (s_seq (s_set 4 (m_call g_law_take (a_cons (p_nm 0) (a_cons (p_ex (m_c (.int 2))) (a_nil))))) (s_seq (s_set 5 (m_lst (a_nil))) (s_seq (s_for (i_rng1 (p_nm 1)) (g_name 6) (s_seq (s_set 7 (m_op2 ixD (p_ex (m_tup (a_cons (m_it (m_c (.str (Str.ofString "infix")))) (a_cons (m_it (m_c (.str (Str.ofString "infix")))) (a_cons (m_it (m_c (.str (Str.ofString "infix")))) (a_cons (m_it (m_c (.str (Str.ofString "prefix")))) (a_cons (m_it (m_c (.str (Str.ofString "infix")))) (a_cons (m_it (m_c (.str (Str.ofString "postfix")))) (a_nil))))))))) (p_ex (m_call g_law_take (a_cons (p_nm 0) (a_cons (p_ex (m_c (.int 6))) (a_nil))))))) (s_seq (s_set 8 (m_op2 ixD (p_nm 2) (p_nm 6))) (s_seq (s_if (m_and (m_tst (m_op2 gtD (p_nm 6) (p_ex (m_c (.int 0))))) (m_and (m_tst (m_op2 eqPD (p_ex (m_call g_law_take (a_cons (p_nm 0) (a_cons (p_ex (m_c (.int 3))) (a_nil))))) (p_ex (m_c (.int 0))))) (m_tst (m_op2 nePD (p_ex (m_op2 eqPD (p_ex (m_op2 ixD (p_ex (m_op2 ixD (p_nm 5) (p_ex (m_op1 negD (p_ex (m_c (.int 1))))))) (p_ex (m_c (.int 1))))) (p_ex (m_c (.str (Str.ofString "prefix")))))) (p_ex (m_op2 eqPD (p_nm 7) (p_ex (m_c (.str (Str.ofString "prefix")))))))))) (s_if (m_tst (m_op2 ltD (p_ex (m_call g_law_find (a_cons (p_nm 5) (a_cons (p_ex (m_op2 ixD (p_ex (m_op2 ixD (p_nm 5) (p_ex (m_op1 negD (p_ex (m_c (.int 1))))))) (p_ex (m_c (.int 0))))) (a_cons (p_nm 7) (a_nil)))))) (p_ex (m_c (.int 0))))) (s_set 8 (m_op2 ixD (p_ex (m_op2 ixD (p_nm 5) (p_ex (m_op1 negD (p_ex (m_c (.int 1))))))) (p_ex (m_c (.int 0))))) (s_nop)) (s_nop)) (s_seq (s_set 9 (m_op2 addD (p_ex (m_op2 mulD (p_ex (m_c (.int 2))) (p_ex (m_call g_law_take (a_cons (p_nm 0) (a_cons (p_ex (m_c (.int 8))) (a_nil))))))) (p_nm 4))) (s_seq (s_set 10 (m_op2 subD (p_ex (m_op2 addD (p_ex (m_op2 mulD (p_ex (m_c (.int 2))) (p_ex (m_call g_law_take (a_cons (p_nm 0) (a_cons (p_ex (m_c (.int 8))) (a_nil))))))) (p_ex (m_c (.int 1))))) (p_nm 4))) (s_seq (s_if (m_tst (m_op2 eqPD (p_nm 3) (p_ex (m_c (.int 1))))) (s_seq (s_set 9 (m_op2 addD (p_ex (m_c (.int 2))) (p_ex (m_op2 mulD (p_ex (m_c (.int 2))) (p_ex (m_call g_law_take (a_cons (p_nm 0) (a_cons (p_ex (m_c (.int 5))) (a_nil))))))))) (s_set 10 (m_op2 subD (p_ex (m_op2 addD (p_nm 9) (p_ex (m_c (.int 1))))) (p_ex (m_op2 mulD (p_ex (m_c (.int 2))) (p_ex (m_bi intD (a_cons (p_ex (m_op2 eqPD (p_ex (m_call g_law_take (a_cons (p_nm 0) (a_cons (p_ex (m_c (.int 3))) (a_nil))))) (p_ex (m_c (.int 0))))) (a_nil))))))))) (s_nop)) (s_seq (s_set 11 (m_op2 eqPD (p_ex (m_call g_law_take (a_cons (p_nm 0) (a_cons (p_ex (m_c (.int 3))) (a_nil))))) (p_ex (m_c (.int 0))))) (s_seq (s_set 12 (m_andV (m_op2 eqPD (p_nm 7) (p_ex (m_c (.str (Str.ofString "infix"))))) (m_op2 eqPD (p_ex (m_call g_law_take (a_cons (p_nm 0) (a_cons (p_ex (m_c (.int 3))) (a_nil))))) (p_ex (m_c (.int 0)))))) (s_drop (m_app 5 (m_tup (a_cons (m_it (m_var 8)) (a_cons (m_it (m_var 7)) (a_cons (m_it (m_if (m_tst (m_op2 nePD (p_nm 7) (p_ex (m_c (.str (Str.ofString "prefix")))))) (m_var 9) (m_c .non))) (a_cons (m_it (m_if (m_tst (m_op2 nePD (p_nm 7) (p_ex (m_c (.str (Str.ofString "postfix")))))) (m_var 10) (m_c .non))) (a_cons (m_it (m_var 11)) (a_cons (m_it (m_var 12)) (a_nil))))))))))))))))))) (s_ret (m_mv 5))))))
def g_law_lightops : List O → Option (O × List O) := fnM 13 2 [0, 1] mb_law_lightops
theorem ok_law_lightops {P : Program} {w : World} {K : PySem.W.Frag} {mg : Str → Option Value} {base : Heap} (fac : Fac K mg) {f : Addr} {fd : FuncData} (F : FunD K "_law_lightops" "_law_lightops" (defArgs (top 57)) (defBody (top 57)) (defScope (top 57)) [] [] f fd) (c_law_take : Cal P w K mg base 102 "_law_take" 2 g_law_take) (c_law_find : Cal P w K mg base 101 "_law_find" 3 g_law_find) (c_law_shuffle : Cal P w K mg base 103 "_law_shuffle" 2 g_law_shuffle) :
    FnOk P w K mg base CX0 104 f fd P_law_lightops (spM K 2 g_law_lightops) :=
  fn_ok (k := 103) (N := N_law_lightops) (ps := P_law_lightops) (m := mb_law_lightops) [0, 1] F sc_law_lightops (rss_cons (rs_set 2 (re_call c_law_shuffle (Nat.le_of_ble_eq_true rfl) (ra_cons (rp_nm 0) (ra_cons (rp_ex (re_lst (ra_cons (rp_it (re_str)) (ra_cons (rp_it (re_str)) (ra_cons (rp_it (re_str)) (ra_cons (rp_it (re_str)) (ra_cons (rp_it (re_str)) (ra_cons (rp_it (re_str)) (ra_cons (rp_it (re_str)) (ra_cons (rp_it (re_str)) (ra_cons (rp_it (re_str)) (ra_cons (rp_it (re_str)) (ra_cons (rp_it (re_str)) (ra_cons (rp_it (re_str)) (ra_cons (rp_it (re_str)) (ra_cons (rp_it (re_str)) (ra_nil))))))))))))))))) (ra_nil))) (.cons (.cons .nil)))) (rss_cons (rs_set 3 (re_call c_law_take (Nat.le_of_ble_eq_true rfl) (ra_cons (rp_nm 0) (ra_cons (rp_ex (re_int)) (ra_nil))) (.cons (.cons .nil)))) (rss_cons (rs_set 4 (re_call c_law_take (Nat.le_of_ble_eq_true rfl) (ra_cons (rp_nm 0) (ra_cons (rp_ex (re_int)) (ra_nil))) (.cons (.cons .nil)))) (rss_cons (rs_set 5 (re_lst (ra_nil))) (rss_cons (rs_for (vs := [6]) (ri_rng1 fac.b_range (rp_nm 1)) (rg_name 6) (rss_cons (rs_set 7 (re_ix rIx (fun X => ix_seq) ixD_ok (rp_ex (re_tup (ra_cons (rp_it (re_str)) (ra_cons (rp_it (re_str)) (ra_cons (rp_it (re_str)) (ra_cons (rp_it (re_str)) (ra_cons (rp_it (re_str)) (ra_cons (rp_it (re_str)) (ra_nil))))))))) (rp_ex (re_call c_law_take (Nat.le_of_ble_eq_true rfl) (ra_cons (rp_nm 0) (ra_cons (rp_ex (re_int)) (ra_nil))) (.cons (.cons .nil)))))) (rss_cons (rs_set 8 (re_ix rIx (fun X => ix_seq) ixD_ok (rp_nm 2) (rp_nm 6))) (rss_cons (rs_if (rt_bool (rw_and (rt_cmp (fun _ => rI0 fun i j => .bl (decide (j < i))) (fun X h => op_gtA X h) gtD_ok.1 (rp_nm 6) (rp_ex (re_int)) (nomark _)) (rw_and (rt_cmpP rEqP (fun X h => op_eqP X h) eqPD_ok.1 (Nat.le_of_ble_eq_true rfl) (rp_ex (re_call c_law_take (Nat.le_of_ble_eq_true rfl) (ra_cons (rp_nm 0) (ra_cons (rp_ex (re_int)) (ra_nil))) (.cons (.cons .nil)))) (rp_ex (re_int)) (nomark _)) (rw_and1 (rt_cmpP rNeP (fun X h => op_neP X h) nePD_ok.1 (Nat.le_of_ble_eq_true rfl) (rp_ex (re_cmpP rEqP (fun X h => op_eqP X h) eqPD_ok.1 (Nat.le_of_ble_eq_true rfl) (rp_ex (re_ix rIx (fun X => ix_seq) ixD_ok (rp_ex (re_ix rIx (fun X => ix_seq) ixD_ok (rp_nm 5) (rp_ex (re_un (fun _ => rU fun i => .int (-i)) (fun X => un_neg) negD_ok (rp_ex (re_int)))))) (rp_ex (re_int)))) (rp_ex (re_str)) (nomark _))) (rp_ex (re_cmpP rEqP (fun X h => op_eqP X h) eqPD_ok.1 (Nat.le_of_ble_eq_true rfl) (rp_nm 7) (rp_ex (re_str)) (nomark _))) (nomark _)))))) (rss_one (rs_if (rt_cmp (fun _ => rLtA) (fun X h => op_ltA X h) ltD_ok.1 (rp_ex (re_call c_law_find (Nat.le_of_ble_eq_true rfl) (ra_cons (rp_nm 5) (ra_cons (rp_ex (re_ix rIx (fun X => ix_seq) ixD_ok (rp_ex (re_ix rIx (fun X => ix_seq) ixD_ok (rp_nm 5) (rp_ex (re_un (fun _ => rU fun i => .int (-i)) (fun X => un_neg) negD_ok (rp_ex (re_int)))))) (rp_ex (re_int)))) (ra_cons (rp_nm 7) (ra_nil)))) (.cons (.cons (.cons .nil))))) (rp_ex (re_int)) (nomark _)) (rss_one (rs_set 8 (re_ix rIx (fun X => ix_seq) ixD_ok (rp_ex (re_ix rIx (fun X => ix_seq) ixD_ok (rp_nm 5) (rp_ex (re_un (fun _ => rU fun i => .int (-i)) (fun X => un_neg) negD_ok (rp_ex (re_int)))))) (rp_ex (re_int))))) (rss_nil))) (rss_nil)) (rss_cons (rs_set 9 (re_op rAddA (fun X => op_addA X) addD_ok (rp_ex (re_op (fun _ => rMulA) (fun X => op_mulA X) mulD_ok (rp_ex (re_int)) (rp_ex (re_call c_law_take (Nat.le_of_ble_eq_true rfl) (ra_cons (rp_nm 0) (ra_cons (rp_ex (re_int)) (ra_nil))) (.cons (.cons .nil)))))) (rp_nm 4))) (rss_cons (rs_set 10 (re_op (fun _ => rI0 fun i j => .int (i - j)) (fun X => op_subA X) subD_ok (rp_ex (re_op rAddA (fun X => op_addA X) addD_ok (rp_ex (re_op (fun _ => rMulA) (fun X => op_mulA X) mulD_ok (rp_ex (re_int)) (rp_ex (re_call c_law_take (Nat.le_of_ble_eq_true rfl) (ra_cons (rp_nm 0) (ra_cons (rp_ex (re_int)) (ra_nil))) (.cons (.cons .nil)))))) (rp_ex (re_int)))) (rp_nm 4))) (rss_cons (rs_if (rt_cmpP rEqP (fun X h => op_eqP X h) eqPD_ok.1 (Nat.le_of_ble_eq_true rfl) (rp_nm 3) (rp_ex (re_int)) (nomark _)) (rss_cons (rs_set 9 (re_op rAddA (fun X => op_addA X) addD_ok (rp_ex (re_int)) (rp_ex (re_op (fun _ => rMulA) (fun X => op_mulA X) mulD_ok (rp_ex (re_int)) (rp_ex (re_call c_law_take (Nat.le_of_ble_eq_true rfl) (ra_cons (rp_nm 0) (ra_cons (rp_ex (re_int)) (ra_nil))) (.cons (.cons .nil)))))))) (rss_one (rs_set 10 (re_op (fun _ => rI0 fun i j => .int (i - j)) (fun X => op_subA X) subD_ok (rp_ex (re_op rAddA (fun X => op_addA X) addD_ok (rp_nm 9) (rp_ex (re_int)))) (rp_ex (re_op (fun _ => rMulA) (fun X => op_mulA X) mulD_ok (rp_ex (re_int)) (rp_ex (re_ty (fun _ => rIntA) (fun X h => cb_int X h) intD_ok fac.b_int (by decide +kernel) (ra_cons (rp_ex (re_cmpP rEqP (fun X h => op_eqP X h) eqPD_ok.1 (Nat.le_of_ble_eq_true rfl) (rp_ex (re_call c_law_take (Nat.le_of_ble_eq_true rfl) (ra_cons (rp_nm 0) (ra_cons (rp_ex (re_int)) (ra_nil))) (.cons (.cons .nil)))) (rp_ex (re_int)) (nomark _))) (ra_nil)))))))))) (rss_nil)) (rss_cons (rs_set 11 (re_cmpP rEqP (fun X h => op_eqP X h) eqPD_ok.1 (Nat.le_of_ble_eq_true rfl) (rp_ex (re_call c_law_take (Nat.le_of_ble_eq_true rfl) (ra_cons (rp_nm 0) (ra_cons (rp_ex (re_int)) (ra_nil))) (.cons (.cons .nil)))) (rp_ex (re_int)) (nomark _))) (rss_cons (rs_set 12 (re_and (re_cmpP rEqP (fun X h => op_eqP X h) eqPD_ok.1 (Nat.le_of_ble_eq_true rfl) (rp_nm 7) (rp_ex (re_str)) (nomark _)) (re_one (re_cmpP rEqP (fun X h => op_eqP X h) eqPD_ok.1 (Nat.le_of_ble_eq_true rfl) (rp_ex (re_call c_law_take (Nat.le_of_ble_eq_true rfl) (ra_cons (rp_nm 0) (ra_cons (rp_ex (re_int)) (ra_nil))) (.cons (.cons .nil)))) (rp_ex (re_int)) (nomark _))))) (rss_one (rs_expr (re_app 5 (re_tup (ra_cons (rp_it (re_var 8)) (ra_cons (rp_it (re_var 7)) (ra_cons (rp_it (re_if (rt_cmpP rNeP (fun X h => op_neP X h) nePD_ok.1 (Nat.le_of_ble_eq_true rfl) (rp_nm 7) (rp_ex (re_str)) (nomark _)) (re_var 9) (re_non))) (ra_cons (rp_it (re_if (rt_cmpP rNeP (fun X h => op_neP X h) nePD_ok.1 (Nat.le_of_ble_eq_true rfl) (rp_nm 7) (rp_ex (re_str)) (nomark _)) (re_var 10) (re_non))) (ra_cons (rp_it (re_var 11)) (ra_cons (rp_it (re_var 12)) (ra_nil)))))))))))))))))))) (rss_one (rs_ret (re_mv 5))))))))
/-! _law_turned -/
abbrev N_law_turned : List Str := ["ops", "tree", "number", "side", "node", "inner", "k", "made"]
abbrev P_law_turned : List Str := ["ops", "tree", "number", "side"]
theorem sc_law_turned : FnScope N_law_turned P_law_turned (defScope (top 58)) := ⟨rfl, rfl, rfl, by decide +kernel, rfl, by decide +kernel, by decide +kernel⟩
def mb_law_turned : MS := s_seq (s_set 4 (m_op2 ixD (p_ex (m_call g_law_nodes (a_cons (p_nm 1) (a_nil)))) (p_nm 2))) (s_seq (s_if (m_or (m_tst (m_op2 nePD (p_ex (m_op2 ixD (p_nm 4) (p_ex (m_c (.int 0))))) (p_ex (m_c (.str (Str.ofString "o")))))) (m_not (m_tru (p_ex (m_op2 ixD (p_ex (m_op2 ixD (p_nm 0) (p_ex (m_op2 ixD (p_nm 4) (p_ex (m_c (.int 1))))))) (p_ex (m_c (.int 5)))))))) (s_ret (m_mv 1)) (s_nop)) (s_seq (s_set 5 (m_op2 ixD (p_ex (m_op2 ixD (p_nm 4) (p_ex (m_c (.int 2))))) (p_nm 3))) (s_seq (s_if (m_or (m_tst (m_op2 nePD (p_ex (m_op2 ixD (p_nm 5) (p_ex (m_c (.int 0))))) (p_ex (m_c (.str (Str.ofString "o")))))) (m_tst (m_op2 nePD (p_ex (m_op2 ixD (p_nm 5) (p_ex (m_c (.int 1))))) (p_ex (m_op2 ixD (p_nm 4) (p_ex (m_c (.int 1)))))))) (s_ret (m_mv 1)) (s_nop)) (s_seq (s_set 6 (m_op2 ixD (p_nm 4) (p_ex (m_c (.int 1))))) (s_seq (s_if (m_tst (m_op2 eqPD (p_nm 3) (p_ex (m_c (.int 1))))) (s_set 7 (m_tup (a_cons (m_it (m_c (.str (Str.ofString "o")))) (a_cons (m_it (m_var 6)) (a_cons (m_it (m_tup (a_cons (m_it (m_tup (a_cons (m_it (m_c (.str (Str.ofString "o")))) (a_cons (m_it (m_var 6)) (a_cons (m_it (m_tup (a_cons (m_it (m_op2 ixD (p_ex (m_op2 ixD (p_nm 4) (p_ex (m_c (.int 2))))) (p_ex (m_c (.int 0))))) (a_cons (m_it (m_op2 ixD (p_ex (m_op2 ixD (p_nm 5) (p_ex (m_c (.int 2))))) (p_ex (m_c (.int 0))))) (a_nil))))) (a_nil)))))) (a_cons (m_it (m_op2 ixD (p_ex (m_op2 ixD (p_nm 5) (p_ex (m_c (.int 2))))) (p_ex (m_c (.int 1))))) (a_nil))))) (a_nil)))))) (s_set 7 (m_tup (a_cons (m_it (m_c (.str (Str.ofString "o")))) (a_cons (m_it (m_var 6)) (a_cons (m_it (m_tup (a_cons (m_it (m_op2 ixD (p_ex (m_op2 ixD (p_nm 5) (p_ex (m_c (.int 2))))) (p_ex (m_c (.int 0))))) (a_cons (m_it (m_tup (a_cons (m_it (m_c (.str (Str.ofString "o")))) (a_cons (m_it (m_var 6)) (a_cons (m_it (m_tup (a_cons (m_it (m_op2 ixD (p_ex (m_op2 ixD (p_nm 5) (p_ex (m_c (.int 2))))) (p_ex (m_c (.int 1))))) (a_cons (m_it (m_op2 ixD (p_ex (m_op2 ixD (p_nm 4) (p_ex (m_c (.int 2))))) (p_ex (m_c (.int 1))))) (a_nil))))) (a_nil)))))) (a_nil))))) (a_nil))))))) (s_ret (m_call g_law_swap (a_cons (p_nm 1) (a_cons (p_nm 2) (a_cons (p_nm 7) (a_nil)))))))))))
def g_law_turned : List O → Option (O × List O) := fnM 8 4 [0, 1, 2, 3] mb_law_turned
theorem ok_law_turned {P : Program} {w : World} {K : PySem.W.Frag} {mg : Str → Option Value} {base : Heap} (fac : Fac K mg) {f : Addr} {fd : FuncData} (F : FunD K "_law_turned" "_law_turned" (defArgs (top 58)) (defBody (top 58)) (defScope (top 58)) [] [] f fd) (c_law_swap : Cal P w K mg base 103 "_law_swap" 3 g_law_swap) (c_law_nodes : Cal P w K mg base 102 "_law_nodes" 1 g_law_nodes) :
    FnOk P w K mg base CX0 104 f fd P_law_turned (spM K 4 g_law_turned) :=
  fn_ok (k := 103) (N := N_law_turned) (ps := P_law_turned) (m := mb_law_turned) [0, 1, 2, 3] F sc_law_turned (rss_cons (rs_set 4 (re_ix rIx (fun X => ix_seq) ixD_ok (rp_ex (re_call c_law_nodes (Nat.le_of_ble_eq_true rfl) (ra_cons (rp_nm 1) (ra_nil)) (.cons .nil))) (rp_nm 2))) (rss_cons (rs_if (rt_bool (rw_or (rt_cmpP rNeP (fun X h => op_neP X h) nePD_ok.1 (Nat.le_of_ble_eq_true rfl) (rp_ex (re_ix rIx (fun X => ix_seq) ixD_ok (rp_nm 4) (rp_ex (re_int)))) (rp_ex (re_str)) (nomark _)) (rw_or1 (rt_not (rt_tru (rp_ex (re_ix rIx (fun X => ix_seq) ixD_ok (rp_ex (re_ix rIx (fun X => ix_seq) ixD_ok (rp_nm 0) (rp_ex (re_ix rIx (fun X => ix_seq) ixD_ok (rp_nm 4) (rp_ex (re_int)))))) (rp_ex (re_int))))))))) (rss_one (rs_ret (re_mv 1))) (rss_nil)) (rss_cons (rs_set 5 (re_ix rIx (fun X => ix_seq) ixD_ok (rp_ex (re_ix rIx (fun X => ix_seq) ixD_ok (rp_nm 4) (rp_ex (re_int)))) (rp_nm 3))) (rss_cons (rs_if (rt_bool (rw_or (rt_cmpP rNeP (fun X h => op_neP X h) nePD_ok.1 (Nat.le_of_ble_eq_true rfl) (rp_ex (re_ix rIx (fun X => ix_seq) ixD_ok (rp_nm 5) (rp_ex (re_int)))) (rp_ex (re_str)) (nomark _)) (rw_or1 (rt_cmpP rNeP (fun X h => op_neP X h) nePD_ok.1 (Nat.le_of_ble_eq_true rfl) (rp_ex (re_ix rIx (fun X => ix_seq) ixD_ok (rp_nm 5) (rp_ex (re_int)))) (rp_ex (re_ix rIx (fun X => ix_seq) ixD_ok (rp_nm 4) (rp_ex (re_int)))) (nomark _))))) (rss_one (rs_ret (re_mv 1))) (rss_nil)) (rss_cons (rs_set 6 (re_ix rIx (fun X => ix_seq) ixD_ok (rp_nm 4) (rp_ex (re_int)))) (rss_cons (rs_if (rt_cmpP rEqP (fun X h => op_eqP X h) eqPD_ok.1 (Nat.le_of_ble_eq_true rfl) (rp_nm 3) (rp_ex (re_int)) (nomark _)) (rss_one (rs_set 7 (re_tup (ra_cons (rp_it (re_str)) (ra_cons (rp_it (re_var 6)) (ra_cons (rp_it (re_tup (ra_cons (rp_it (re_tup (ra_cons (rp_it (re_str)) (ra_cons (rp_it (re_var 6)) (ra_cons (rp_it (re_tup (ra_cons (rp_it (re_ix rIx (fun X => ix_seq) ixD_ok (rp_ex (re_ix rIx (fun X => ix_seq) ixD_ok (rp_nm 4) (rp_ex (re_int)))) (rp_ex (re_int)))) (ra_cons (rp_it (re_ix rIx (fun X => ix_seq) ixD_ok (rp_ex (re_ix rIx (fun X => ix_seq) ixD_ok (rp_nm 5) (rp_ex (re_int)))) (rp_ex (re_int)))) (ra_nil))))) (ra_nil)))))) (ra_cons (rp_it (re_ix rIx (fun X => ix_seq) ixD_ok (rp_ex (re_ix rIx (fun X => ix_seq) ixD_ok (rp_nm 5) (rp_ex (re_int)))) (rp_ex (re_int)))) (ra_nil))))) (ra_nil))))))) (rss_one (rs_set 7 (re_tup (ra_cons (rp_it (re_str)) (ra_cons (rp_it (re_var 6)) (ra_cons (rp_it (re_tup (ra_cons (rp_it (re_ix rIx (fun X => ix_seq) ixD_ok (rp_ex (re_ix rIx (fun X => ix_seq) ixD_ok (rp_nm 5) (rp_ex (re_int)))) (rp_ex (re_int)))) (ra_cons (rp_it (re_tup (ra_cons (rp_it (re_str)) (ra_cons (rp_it (re_var 6)) (ra_cons (rp_it (re_tup (ra_cons (rp_it (re_ix rIx (fun X => ix_seq) ixD_ok (rp_ex (re_ix rIx (fun X => ix_seq) ixD_ok (rp_nm 5) (rp_ex (re_int)))) (rp_ex (re_int)))) (ra_cons (rp_it (re_ix rIx (fun X => ix_seq) ixD_ok (rp_ex (re_ix rIx (fun X => ix_seq) ixD_ok (rp_nm 4) (rp_ex (re_int)))) (rp_ex (re_int)))) (ra_nil))))) (ra_nil)))))) (ra_nil))))) (ra_nil)))))))) (rss_one (rs_ret (re_call c_law_swap (Nat.le_of_ble_eq_true rfl) (ra_cons (rp_nm 1) (ra_cons (rp_nm 2) (ra_cons (rp_nm 7) (ra_nil)))) (.cons (.cons (.cons .nil))))))))))))
/-! is_operator -/
abbrev N_is_operator : List Str := ["entry", "name", "role", "left", "right", "loose", "assoc"]
abbrev P_is_operator : List Str := ["entry"]
theorem sc_is_operator : FnScope N_is_operator P_is_operator (defScope (top 22)) := ⟨rfl, rfl, rfl, by decide +kernel, rfl, by decide +kernel, by decide +kernel⟩
def mb_is_operator : MS := s_seq (s_if (m_or (m_not (m_tru (p_ex (m_bi isiD (a_cons (p_nm 0) (a_cons (p_ex (m_c (.ty "tuple"))) (a_nil))))))) (m_tst (m_op2 nePD (p_ex (m_bi lenD (a_cons (p_nm 0) (a_nil)))) (p_ex (m_c (.int 6)))))) (s_ret (m_c (.bl false))) (s_nop)) (s_seq (s_asg (g_tup 6 (gs_cons (g_name 1) (gs_cons (g_name 2) (gs_cons (g_name 3) (gs_cons (g_name 4) (gs_cons (g_name 5) (gs_cons (g_name 6) (gs_nil)))))))) (m_var 0)) (s_seq (s_if (m_or (m_not (m_tru (p_ex (m_call g_is_operator_name (a_cons (p_nm 1) (a_nil)))))) (m_tst (m_op2 ninD (p_nm 2) (p_ex (m_c (.tup [.str (Str.ofString "infix"), .str (Str.ofString "prefix"), .str (Str.ofString "postfix")])))))) (s_ret (m_c (.bl false))) (s_nop)) (s_seq (s_if (m_not (m_tru (p_ex (m_call g_fits_strength (a_cons (p_ex (m_op2 nePD (p_nm 2) (p_ex (m_c (.str (Str.ofString "prefix")))))) (a_cons (p_nm 3) (a_nil))))))) (s_ret (m_c (.bl false))) (s_nop)) (s_seq (s_if (m_not (m_tru (p_ex (m_call g_fits_strength (a_cons (p_ex (m_op2 nePD (p_nm 2) (p_ex (m_c (.str (Str.ofString "postfix")))))) (a_cons (p_nm 4) (a_nil))))))) (s_ret (m_c (.bl false))) (s_nop)) (s_seq (s_if (m_or (m_not (m_tru (p_ex (m_bi isiD (a_cons (p_nm 5) (a_cons (p_ex (m_c (.ty "bool"))) (a_nil))))))) (m_not (m_tru (p_ex (m_bi isiD (a_cons (p_nm 6) (a_cons (p_ex (m_c (.ty "bool"))) (a_nil)))))))) (s_ret (m_c (.bl false))) (s_nop)) (s_ret (m_orV (m_op2 eqPD (p_nm 2) (p_ex (m_c (.str (Str.ofString "infix"))))) (m_notV (m_var 6)))))))))
def g_is_operator : List O → Option (O × List O) := fnM 7 1 [0] mb_is_operator
theorem ok_is_operator {P : Program} {w : World} {K : PySem.W.Frag} {mg : Str → Option Value} {base : Heap} (fac : Fac K mg) {f : Addr} {fd : FuncData} (F : FunD K "is_operator" "is_operator" (defArgs (top 22)) (defBody (top 22)) (defScope (top 22)) [] [] f fd) (c_fits_strength : Cal P w K mg base 101 "fits_strength" 2 g_fits_strength) (c_is_operator_name : Cal P w K mg base 104 "is_operator_name" 1 g_is_operator_name) :
    FnOk P w K mg base CX0 105 f fd P_is_operator (spM K 1 g_is_operator) :=
  fn_ok (k := 104) (N := N_is_operator) (ps := P_is_operator) (m := mb_is_operator) [0] F sc_is_operator (rss_cons (rs_if (rt_bool (rw_or (rt_not (rt_tru (rp_ex (re_bi rIsi (fun X h => cb_isi X h) isiD_ok fac.b_isinstance (by decide +kernel) (ra_cons (rp_nm 0) (ra_cons (rp_ex (re_tyc fac.b_tuple (by decide +kernel))) (ra_nil))))))) (rw_or1 (rt_cmpP rNeP (fun X h => op_neP X h) nePD_ok.1 (Nat.le_of_ble_eq_true rfl) (rp_ex (re_bi rLenA (fun X h => cb_len X h) lenD_ok fac.b_len (by decide +kernel) (ra_cons (rp_nm 0) (ra_nil)))) (rp_ex (re_int)) (nomark _))))) (rss_one (rs_ret (re_bl))) (rss_nil)) (rss_cons (rs_asg (vs := [1, 2, 3, 4, 5, 6]) (re_var 0) (rg_tup (rgs_cons (rg_name 1) (rgs_cons (rg_name 2) (rgs_cons (rg_name 3) (rgs_cons (rg_name 4) (rgs_cons (rg_name 5) (rgs_cons (rg_name 6) (rgs_nil))))))))) (rss_cons (rs_if (rt_bool (rw_or (rt_not (rt_tru (rp_ex (re_call c_is_operator_name (Nat.le_of_ble_eq_true rfl) (ra_cons (rp_nm 1) (ra_nil)) (.cons .nil))))) (rw_or1 (rt_cmp rNinA (fun X h => op_ninA X h) ninD_ok (rp_nm 2) (rp_ex (re_gtupE [Str.ofString "infix", Str.ofString "prefix", Str.ofString "postfix"] fac.t_ROLES)) rfl)))) (rss_one (rs_ret (re_bl))) (rss_nil)) (rss_cons (rs_if (rt_not (rt_tru (rp_ex (re_call c_fits_strength (Nat.le_of_ble_eq_true rfl) (ra_cons (rp_ex (re_cmpP rNeP (fun X h => op_neP X h) nePD_ok.1 (Nat.le_of_ble_eq_true rfl) (rp_nm 2) (rp_ex (re_str)) (nomark _))) (ra_cons (rp_nm 3) (ra_nil))) (.cons (.cons .nil)))))) (rss_one (rs_ret (re_bl))) (rss_nil)) (rss_cons (rs_if (rt_not (rt_tru (rp_ex (re_call c_fits_strength (Nat.le_of_ble_eq_true rfl) (ra_cons (rp_ex (re_cmpP rNeP (fun X h => op_neP X h) nePD_ok.1 (Nat.le_of_ble_eq_true rfl) (rp_nm 2) (rp_ex (re_str)) (nomark _))) (ra_cons (rp_nm 4) (ra_nil))) (.cons (.cons .nil)))))) (rss_one (rs_ret (re_bl))) (rss_nil)) (rss_cons (rs_if (rt_bool (rw_or (rt_not (rt_tru (rp_ex (re_bi rIsi (fun X h => cb_isi X h) isiD_ok fac.b_isinstance (by decide +kernel) (ra_cons (rp_nm 5) (ra_cons (rp_ex (re_tyc fac.b_bool (by decide +kernel))) (ra_nil))))))) (rw_or1 (rt_not (rt_tru (rp_ex (re_bi rIsi (fun X h => cb_isi X h) isiD_ok fac.b_isinstance (by decide +kernel) (ra_cons (rp_nm 6) (ra_cons (rp_ex (re_tyc fac.b_bool (by decide +kernel))) (ra_nil)))))))))) (rss_one (rs_ret (re_bl))) (rss_nil)) (rss_one (rs_ret (re_or (re_cmpP rEqP (fun X h => op_eqP X h) eqPD_ok.1 (Nat.le_of_ble_eq_true rfl) (rp_nm 2) (rp_ex (re_str)) (nomark _)) (re_one (re_not (re_var 6))))))))))))
/-! flat_heads -/
abbrev N_flat_heads : List Str := ["table", "tree", "heads", "node", "members", "own"]
abbrev P_flat_heads : List Str := ["table", "tree"]
theorem sc_flat_heads : FnScope N_flat_heads P_flat_heads (defScope (top 32)) := ⟨rfl, rfl, rfl, by decide +kernel, rfl, by decide +kernel, by decide +kernel⟩
def mb_flat_heads : MS := s_seq (s_set 2 (m_lst (a_nil))) (s_seq (s_for (i_seq (m_call g_flat_nodes (a_cons (p_nm 0) (a_cons (p_nm 1) (a_nil))))) (g_tup 2 (gs_cons (g_name 3) (gs_cons (g_name 4) (gs_nil)))) (s_seq (s_set 5 (m_if (m_tst (m_op2 eqPD (p_ex (m_op2 ixD (p_nm 3) (p_ex (m_c (.int 0))))) (p_ex (m_c (.str (Str.ofString "b")))))) (m_c (.str (Str.ofString ""))) (m_op2 ixD (p_nm 3) (p_ex (m_c (.int 1)))))) (s_drop (m_app 2 (m_tup (a_cons (m_it (m_op2 ixD (p_nm 3) (p_ex (m_c (.int 0))))) (a_cons (m_it (m_var 5)) (a_cons (m_it (m_bi lenD (a_cons (p_nm 4) (a_nil)))) (a_nil))))))))) (s_ret (m_mv 2)))
def g_flat_heads : List O → Option (O × List O) := fnM 6 2 [0, 1] mb_flat_heads
theorem ok_flat_heads {P : Program} {w : World} {K : PySem.W.Frag} {mg : Str → Option Value} {base : Heap} (fac : Fac K mg) {f : Addr} {fd : FuncData} (F : FunD K "flat_heads" "flat_heads" (defArgs (top 32)) (defBody (top 32)) (defScope (top 32)) [] [] f fd) (c_flat_nodes : Cal P w K mg base 104 "flat_nodes" 2 g_flat_nodes) :
    FnOk P w K mg base CX0 105 f fd P_flat_heads (spM K 2 g_flat_heads) :=
  fn_ok (k := 104) (N := N_flat_heads) (ps := P_flat_heads) (m := mb_flat_heads) [0, 1] F sc_flat_heads (rss_cons (rs_set 2 (re_lst (ra_nil))) (rss_cons (rs_for (vs := [3, 4]) (ri_seq (re_call c_flat_nodes (Nat.le_of_ble_eq_true rfl) (ra_cons (rp_nm 0) (ra_cons (rp_nm 1) (ra_nil))) (.cons (.cons .nil)))) (rg_tup (rgs_cons (rg_name 3) (rgs_cons (rg_name 4) (rgs_nil)))) (rss_cons (rs_set 5 (re_if (rt_cmpP rEqP (fun X h => op_eqP X h) eqPD_ok.1 (Nat.le_of_ble_eq_true rfl) (rp_ex (re_ix rIx (fun X => ix_seq) ixD_ok (rp_nm 3) (rp_ex (re_int)))) (rp_ex (re_str)) (nomark _)) (re_str) (re_ix rIx (fun X => ix_seq) ixD_ok (rp_nm 3) (rp_ex (re_int))))) (rss_one (rs_expr (re_app 2 (re_tup (ra_cons (rp_it (re_ix rIx (fun X => ix_seq) ixD_ok (rp_nm 3) (rp_ex (re_int)))) (ra_cons (rp_it (re_var 5)) (ra_cons (rp_it (re_bi rLenA (fun X h => cb_len X h) lenD_ok fac.b_len (by decide +kernel) (ra_cons (rp_nm 4) (ra_nil)))) (ra_nil)))))))))) (rss_one (rs_ret (re_mv 2)))))
/-! flat_tree -/
abbrev N_flat_tree : List Str := ["table", "tree", "pairs", "built", "node", "members", "parts", "spare"]
abbrev P_flat_tree : List Str := ["table", "tree"]
theorem sc_flat_tree : FnScope N_flat_tree P_flat_tree (defScope (top 33)) := ⟨rfl, rfl, rfl, by decide +kernel, rfl, by decide +kernel, by decide +kernel⟩
def mb_flat_tree : MS := s_seq (s_set 2 (m_call g_flat_nodes (a_cons (p_nm 0) (a_cons (p_nm 1) (a_nil))))) (s_seq (s_set 3 (m_lst (a_nil))) (s_seq (s_for (i_revL (m_var 2)) (g_tup 2 (gs_cons (g_name 4) (gs_cons (g_name 5) (gs_nil)))) (s_seq (s_set 6 (m_lc [7] (i_seq (m_var 5)) (g_name 7) (m_yes) (m_pop 3))) (s_drop (m_app 3 (m_call g_flat_node (a_cons (p_nm 4) (a_cons (p_nm 6) (a_nil)))))))) (s_ret (m_op2 ixD (p_nm 3) (p_ex (m_c (.int 0)))))))
def g_flat_tree : List O → Option (O × List O) := fnM 8 2 [0, 1] mb_flat_tree
theorem ok_flat_tree {P : Program} {w : World} {K : PySem.W.Frag} {mg : Str → Option Value} {base : Heap} (fac : Fac K mg) {f : Addr} {fd : FuncData} (F : FunD K "flat_tree" "flat_tree" (defArgs (top 33)) (defBody (top 33)) (defScope (top 33)) [] [] f fd) (c_flat_node : Cal P w K mg base 101 "flat_node" 2 g_flat_node) (c_flat_nodes : Cal P w K mg base 104 "flat_nodes" 2 g_flat_nodes) :
    FnOk P w K mg base CX0 105 f fd P_flat_tree (spM K 2 g_flat_tree) :=
  fn_ok (k := 104) (N := N_flat_tree) (ps := P_flat_tree) (m := mb_flat_tree) [0, 1] F sc_flat_tree (rss_cons (rs_set 2 (re_call c_flat_nodes (Nat.le_of_ble_eq_true rfl) (ra_cons (rp_nm 0) (ra_cons (rp_nm 1) (ra_nil))) (.cons (.cons .nil)))) (rss_cons (rs_set 3 (re_lst (ra_nil))) (rss_cons (rs_for (vs := [4, 5]) (ri_revL fac.b_reversed (re_var 2)) (rg_tup (rgs_cons (rg_name 4) (rgs_cons (rg_name 5) (rgs_nil)))) (rss_cons (rs_setLc 6 (own := [(("spare" : Str), 7)]) (ri_seq (re_var 5)) (rg_name 7) (rts_nil) (re_pop 3)) (rss_one (rs_expr (re_app 3 (re_call c_flat_node (Nat.le_of_ble_eq_true rfl) (ra_cons (rp_nm 4) (ra_cons (rp_nm 6) (ra_nil))) (.cons (.cons .nil)))))))) (rss_one (rs_ret (re_ix rIx (fun X => ix_seq) ixD_ok (rp_nm 3) (rp_ex (re_int))))))))
/-! _law_step -/
abbrev N_law_step : List Str := ["store", "ops", "words", "calls", "leaves", "room", "pile", "infixes", "singles", "sort", "spare", "used", "pair", "last", "call", "args", "k"]
abbrev P_law_step : List Str := ["store", "ops", "words", "calls", "leaves", "room", "pile"]
theorem sc_law_step : FnScope N_law_step P_law_step (defScope (top 53)) := ⟨rfl, rfl, rfl, by decide +kernel, rfl, by decide +kernel, by decide +kernel⟩
def mb_law_step : MS := s_seq (s_set 7 (m_call g_law_roles (a_cons (p_nm 1) (a_cons (p_ex (m_c (.str (Str.ofString "infix")))) (a_nil))))) (s_seq (s_set 8 (m_op2 addD (p_ex (m_call g_law_roles (a_cons (p_nm 1) (a_cons (p_ex (m_c (.str (Str.ofString "prefix")))) (a_nil))))) (p_ex (m_call g_law_roles (a_cons (p_nm 1) (a_cons (p_ex (m_c (.str (Str.ofString "postfix")))) (a_nil))))))) (s_seq (s_set 9 (m_call g_law_take (a_cons (p_nm 0) (a_cons (p_ex (m_c (.int 10))) (a_nil))))) (s_seq (s_set 10 (m_op2 subD (p_ex (m_op2 ixD (p_nm 5) (p_ex (m_c (.int 0))))) (p_ex (m_bi lenD (a_cons (p_nm 6) (a_nil)))))) (s_seq (s_set 11 (m_c (.int 0))) (s_seq (s_if (m_and (m_tst (m_op2 ltD (p_nm 9) (p_ex (m_c (.int 3))))) (m_and (m_tst (m_op2 gtD (p_ex (m_bi lenD (a_cons (p_nm 7) (a_nil)))) (p_ex (m_c (.int 0))))) (m_tst (m_op2 gtD (p_nm 10) (p_ex (m_c (.int 0))))))) (s_seq (s_set 12 (m_lst (a_cons (m_it (m_call g_law_wrap (a_cons (p_ex (m_pop 6)) (a_cons (p_nm 5) (a_nil))))) (a_cons (m_it (m_call g_law_wrap (a_cons (p_ex (m_call g_law_leaf (a_cons (p_nm 0) (a_cons (p_nm 2) (a_cons (p_nm 4) (a_cons (p_nm 5) (a_nil))))))) (a_cons (p_nm 5) (a_nil))))) (a_nil))))) (s_seq (s_if (m_tst (m_op2 eqPD (p_ex (m_call g_law_take (a_cons (p_nm 0) (a_cons (p_ex (m_c (.int 2))) (a_nil))))) (p_ex (m_c (.int 1))))) (s_set 12 (m_lst (a_cons (m_it (m_op2 ixD (p_nm 12) (p_ex (m_c (.int 1))))) (a_cons (m_it (m_op2 ixD (p_nm 12) (p_ex (m_c (.int 0))))) (a_nil))))) (s_nop)) (s_seq (s_drop (m_app 6 (m_tup (a_cons (m_it (m_c (.str (Str.ofString "o")))) (a_cons (m_it (m_call g_law_pick (a_cons (p_nm 0) (a_cons (p_nm 7) (a_nil))))) (a_cons (m_it (m_tup (a_cons (m_it (m_op2 ixD (p_nm 12) (p_ex (m_c (.int 0))))) (a_cons (m_it (m_op2 ixD (p_nm 12) (p_ex (m_c (.int 1))))) (a_nil))))) (a_nil))))))) (s_set 11 (m_c (.int 2)))))) (s_if (m_and (m_tst (m_op2 eqPD (p_nm 9) (p_ex (m_c (.int 3))))) (m_tst (m_op2 gtD (p_ex (m_bi lenD (a_cons (p_nm 6) (a_nil)))) (p_ex (m_c (.int 1)))))) (s_seq (s_set 13 (m_call g_law_wrap (a_cons (p_ex (m_pop 6)) (a_cons (p_nm 5) (a_nil))))) (s_seq (s_drop (m_app 6 (m_tup (a_cons (m_it (m_c (.str (Str.ofString "o")))) (a_cons (m_it (m_call g_law_pick (a_cons (p_nm 0) (a_cons (p_nm 7) (a_nil))))) (a_cons (m_it (m_tup (a_cons (m_it (m_call g_law_wrap (a_cons (p_ex (m_pop 6)) (a_cons (p_nm 5) (a_nil))))) (a_cons (m_it (m_var 13)) (a_nil))))) (a_nil))))))) (s_set 11 (m_c (.int 1))))) (s_if (m_and (m_tst (m_op2 eqPD (p_nm 9) (p_ex (m_c (.int 4))))) (m_and (m_tst (m_op2 gtD (p_ex (m_bi lenD (a_cons (p_nm 7) (a_nil)))) (p_ex (m_c (.int 0))))) (m_tst (m_op2 gtD (p_nm 10) (p_ex (m_c (.int 0))))))) (s_seq (s_drop (m_app 6 (m_call g_law_leaf (a_cons (p_nm 0) (a_cons (p_nm 2) (a_cons (p_nm 4) (a_cons (p_nm 5) (a_nil)))))))) (s_set 11 (m_c (.int 1)))) (s_if (m_and (m_tst (m_op2 inD (p_nm 9) (p_ex (m_tup (a_cons (m_it (m_c (.int 5))) (a_cons (m_it (m_c (.int 6))) (a_nil))))))) (m_and (m_tst (m_op2 gtD (p_ex (m_bi lenD (a_cons (p_nm 8) (a_nil)))) (p_ex (m_c (.int 0))))) (m_tst (m_op2 geD (p_nm 10) (p_ex (m_c (.int 0))))))) (s_seq (s_drop (m_app 6 (m_tup (a_cons (m_it (m_c (.str (Str.ofString "o")))) (a_cons (m_it (m_call g_law_pick (a_cons (p_nm 0) (a_cons (p_nm 8) (a_nil))))) (a_cons (m_it (m_tup (a_cons (m_it (m_call g_law_wrap (a_cons (p_ex (m_pop 6)) (a_cons (p_nm 5) (a_nil))))) (a_nil)))) (a_nil))))))) (s_set 11 (m_c (.int 1)))) (s_if (m_and (m_tst (m_op2 eqPD (p_nm 9) (p_ex (m_c (.int 7))))) (m_tst (m_op2 geD (p_nm 10) (p_ex (m_c (.int 0)))))) (s_seq (s_drop (m_app 6 (m_tup (a_cons (m_it (m_c (.str (Str.ofString "b")))) (a_cons (m_it (m_pop 6)) (a_nil)))))) (s_set 11 (m_c (.int 1)))) (s_if (m_and (m_tst (m_op2 gtD (p_nm 9) (p_ex (m_c (.int 7))))) (m_tst (m_op2 gtD (p_ex (m_bi lenD (a_cons (p_nm 3) (a_nil)))) (p_ex (m_c (.int 0)))))) (s_seq (s_set 14 (m_call g_law_pick (a_cons (p_nm 0) (a_cons (p_nm 3) (a_nil))))) (s_if (m_tst (m_op2 geD (p_nm 10) (p_ex (m_op2 subD (p_ex (m_op2 ixD (p_nm 14) (p_ex (m_c (.int 1))))) (p_ex (m_c (.int 1))))))) (s_seq (s_set 15 (m_lc [16] (i_rng1 (p_ex (m_op2 ixD (p_nm 14) (p_ex (m_c (.int 1)))))) (g_name 16) (m_yes) (m_call g_law_leaf (a_cons (p_nm 0) (a_cons (p_nm 2) (a_cons (p_nm 4) (a_cons (p_nm 5) (a_nil)))))))) (s_seq (s_sti 15 (m_pop 6) (p_ex (m_call g_law_take (a_cons (p_nm 0) (a_cons (p_ex (m_op2 ixD (p_nm 14) (p_ex (m_c (.int 1))))) (a_nil)))))) (s_seq (s_drop (m_app 6 (m_tup (a_cons (m_it (m_c (.str (Str.ofString "c")))) (a_cons (m_it (m_op2 ixD (p_nm 14) (p_ex (m_c (.int 0))))) (a_cons (m_it (m_bi tupleD (a_cons (p_nm 15) (a_nil)))) (a_nil))))))) (s_set 11 (m_op2 ixD (p_nm 14) (p_ex (m_c (.int 1)))))))) (s_nop))) (s_nop))))))) (s_sti 5 (m_op2 subD (p_ex (m_op2 ixD (p_nm 5) (p_ex (m_c (.int 0))))) (p_nm 11)) (p_ex (m_c (.int 0)))))))))
def g_law_step : List O → Option (O × List O) := fnM 17 7 [0, 1, 2, 3, 4, 5, 6] mb_law_step
theorem ok_law_step {P : Program} {w : World} {K : PySem.W.Frag} {mg : Str → Option Value} {base : Heap} (fac : Fac K mg) {f : Addr} {fd : FuncData} (F : FunD K "_law_step" "_law_step" (defArgs (top 53)) (defBody (top 53)) (defScope (top 53)) [] [] f fd) (c_law_pick : Cal P w K mg base 103 "_law_pick" 2 g_law_pick) (c_law_take : Cal P w K mg base 102 "_law_take" 2 g_law_take) (c_law_wrap : Cal P w K mg base 101 "_law_wrap" 2 g_law_wrap) (c_law_leaf : Cal P w K mg base 104 "_law_leaf" 4 g_law_leaf) (c_law_roles : Cal P w K mg base 101 "_law_roles" 2 g_law_roles) :
    FnOk P w K mg base CX0 105 f fd P_law_step (spM K 7 g_law_step) :=
  fn_ok (k := 104) (N := N_law_step) (ps := P_law_step) (m := mb_law_step) [0, 1, 2, 3, 4, 5, 6] F sc_law_step (rss_cons (rs_set 7 (re_call c_law_roles (Nat.le_of_ble_eq_true rfl) (ra_cons (rp_nm 1) (ra_cons (rp_ex (re_str)) (ra_nil))) (.cons (.cons .nil)))) (rss_cons (rs_set 8 (re_op rAddA (fun X => op_addA X) addD_ok (rp_ex (re_call c_law_roles (Nat.le_of_ble_eq_true rfl) (ra_cons (rp_nm 1) (ra_cons (rp_ex (re_str)) (ra_nil))) (.cons (.cons .nil)))) (rp_ex (re_call c_law_roles (Nat.le_of_ble_eq_true rfl) (ra_cons (rp_nm 1) (ra_cons (rp_ex (re_str)) (ra_nil))) (.cons (.cons .nil)))))) (rss_cons (rs_set 9 (re_call c_law_take (Nat.le_of_ble_eq_true rfl) (ra_cons (rp_nm 0) (ra_cons (rp_ex (re_int)) (ra_nil))) (.cons (.cons .nil)))) (rss_cons (rs_set 10 (re_op (fun _ => rI0 fun i j => .int (i - j)) (fun X => op_subA X) subD_ok (rp_ex (re_ix rIx (fun X => ix_seq) ixD_ok (rp_nm 5) (rp_ex (re_int)))) (rp_ex (re_bi rLenA (fun X h => cb_len X h) lenD_ok fac.b_len (by decide +kernel) (ra_cons (rp_nm 6) (ra_nil)))))) (rss_cons (rs_set 11 (re_int)) (rss_cons (rs_if (rt_bool (rw_and (rt_cmp (fun _ => rLtA) (fun X h => op_ltA X h) ltD_ok.1 (rp_nm 9) (rp_ex (re_int)) (nomark _)) (rw_and (rt_cmp (fun _ => rI0 fun i j => .bl (decide (j < i))) (fun X h => op_gtA X h) gtD_ok.1 (rp_ex (re_bi rLenA (fun X h => cb_len X h) lenD_ok fac.b_len (by decide +kernel) (ra_cons (rp_nm 7) (ra_nil)))) (rp_ex (re_int)) (nomark _)) (rw_and1 (rt_cmp (fun _ => rI0 fun i j => .bl (decide (j < i))) (fun X h => op_gtA X h) gtD_ok.1 (rp_nm 10) (rp_ex (re_int)) (nomark _)))))) (rss_cons (rs_set 12 (re_lst (ra_cons (rp_it (re_call c_law_wrap (Nat.le_of_ble_eq_true rfl) (ra_cons (rp_ex (re_pop 6)) (ra_cons (rp_nm 5) (ra_nil))) (.cons (.cons .nil)))) (ra_cons (rp_it (re_call c_law_wrap (Nat.le_of_ble_eq_true rfl) (ra_cons (rp_ex (re_call c_law_leaf (Nat.le_of_ble_eq_true rfl) (ra_cons (rp_nm 0) (ra_cons (rp_nm 2) (ra_cons (rp_nm 4) (ra_cons (rp_nm 5) (ra_nil))))) (.cons (.cons (.cons (.cons .nil)))))) (ra_cons (rp_nm 5) (ra_nil))) (.cons (.cons .nil)))) (ra_nil))))) (rss_cons (rs_if (rt_cmpP rEqP (fun X h => op_eqP X h) eqPD_ok.1 (Nat.le_of_ble_eq_true rfl) (rp_ex (re_call c_law_take (Nat.le_of_ble_eq_true rfl) (ra_cons (rp_nm 0) (ra_cons (rp_ex (re_int)) (ra_nil))) (.cons (.cons .nil)))) (rp_ex (re_int)) (nomark _)) (rss_one (rs_set 12 (re_lst (ra_cons (rp_it (re_ix rIx (fun X => ix_seq) ixD_ok (rp_nm 12) (rp_ex (re_int)))) (ra_cons (rp_it (re_ix rIx (fun X => ix_seq) ixD_ok (rp_nm 12) (rp_ex (re_int)))) (ra_nil)))))) (rss_nil)) (rss_cons (rs_expr (re_app 6 (re_tup (ra_cons (rp_it (re_str)) (ra_cons (rp_it (re_call c_law_pick (Nat.le_of_ble_eq_true rfl) (ra_cons (rp_nm 0) (ra_cons (rp_nm 7) (ra_nil))) (.cons (.cons .nil)))) (ra_cons (rp_it (re_tup (ra_cons (rp_it (re_ix rIx (fun X => ix_seq) ixD_ok (rp_nm 12) (rp_ex (re_int)))) (ra_cons (rp_it (re_ix rIx (fun X => ix_seq) ixD_ok (rp_nm 12) (rp_ex (re_int)))) (ra_nil))))) (ra_nil))))))) (rss_one (rs_set 11 (re_int)))))) (rss_one (rs_if (rt_bool (rw_and (rt_cmpP rEqP (fun X h => op_eqP X h) eqPD_ok.1 (Nat.le_of_ble_eq_true rfl) (rp_nm 9) (rp_ex (re_int)) (nomark _)) (rw_and1 (rt_cmp (fun _ => rI0 fun i j => .bl (decide (j < i))) (fun X h => op_gtA X h) gtD_ok.1 (rp_ex (re_bi rLenA (fun X h => cb_len X h) lenD_ok fac.b_len (by decide +kernel) (ra_cons (rp_nm 6) (ra_nil)))) (rp_ex (re_int)) (nomark _))))) (rss_cons (rs_set 13 (re_call c_law_wrap (Nat.le_of_ble_eq_true rfl) (ra_cons (rp_ex (re_pop 6)) (ra_cons (rp_nm 5) (ra_nil))) (.cons (.cons .nil)))) (rss_cons (rs_expr (re_app 6 (re_tup (ra_cons (rp_it (re_str)) (ra_cons (rp_it (re_call c_law_pick (Nat.le_of_ble_eq_true rfl) (ra_cons (rp_nm 0) (ra_cons (rp_nm 7) (ra_nil))) (.cons (.cons .nil)))) (ra_cons (rp_it (re_tup (ra_cons (rp_it (re_call c_law_wrap (Nat.le_of_ble_eq_true rfl) (ra_cons (rp_ex (re_pop 6)) (ra_cons (rp_nm 5) (ra_nil))) (.cons (.cons .nil)))) (ra_cons (rp_it (re_var 13)) (ra_nil))))) (ra_nil))))))) (rss_one (rs_set 11 (re_int))))) (rss_one (rs_if (rt_bool (rw_and (rt_cmpP rEqP (fun X h => op_eqP X h) eqPD_ok.1 (Nat.le_of_ble_eq_true rfl) (rp_nm 9) (rp_ex (re_int)) (nomark _)) (rw_and (rt_cmp (fun _ => rI0 fun i j => .bl (decide (j < i))) (fun X h => op_gtA X h) gtD_ok.1 (rp_ex (re_bi rLenA (fun X h => cb_len X h) lenD_ok fac.b_len (by decide +kernel) (ra_cons (rp_nm 7) (ra_nil)))) (rp_ex (re_int)) (nomark _)) (rw_and1 (rt_cmp (fun _ => rI0 fun i j => .bl (decide (j < i))) (fun X h => op_gtA X h) gtD_ok.1 (rp_nm 10) (rp_ex (re_int)) (nomark _)))))) (rss_cons (rs_expr (re_app 6 (re_call c_law_leaf (Nat.le_of_ble_eq_true rfl) (ra_cons (rp_nm 0) (ra_cons (rp_nm 2) (ra_cons (rp_nm 4) (ra_cons (rp_nm 5) (ra_nil))))) (.cons (.cons (.cons (.cons .nil))))))) (rss_one (rs_set 11 (re_int)))) (rss_one (rs_if (rt_bool (rw_and (rt_cmp rInA (fun X h => op_inA X h) inD_ok (rp_nm 9) (rp_ex (re_tup (ra_cons (rp_it (re_int)) (ra_cons (rp_it (re_int)) (ra_nil))))) rfl) (rw_and (rt_cmp (fun _ => rI0 fun i j => .bl (decide (j < i))) (fun X h => op_gtA X h) gtD_ok.1 (rp_ex (re_bi rLenA (fun X h => cb_len X h) lenD_ok fac.b_len (by decide +kernel) (ra_cons (rp_nm 8) (ra_nil)))) (rp_ex (re_int)) (nomark _)) (rw_and1 (rt_cmp (fun _ => rI0 fun i j => .bl (decide (j ≤ i))) (fun X h => op_geA X h) geD_ok.1 (rp_nm 10) (rp_ex (re_int)) (nomark _)))))) (rss_cons (rs_expr (re_app 6 (re_tup (ra_cons (rp_it (re_str)) (ra_cons (rp_it (re_call c_law_pick (Nat.le_of_ble_eq_true rfl) (ra_cons (rp_nm 0) (ra_cons (rp_nm 8) (ra_nil))) (.cons (.cons .nil)))) (ra_cons (rp_it (re_tup (ra_cons (rp_it (re_call c_law_wrap (Nat.le_of_ble_eq_true rfl) (ra_cons (rp_ex (re_pop 6)) (ra_cons (rp_nm 5) (ra_nil))) (.cons (.cons .nil)))) (ra_nil)))) (ra_nil))))))) (rss_one (rs_set 11 (re_int)))) (rss_one (rs_if (rt_bool (rw_and (rt_cmpP rEqP (fun X h => op_eqP X h) eqPD_ok.1 (Nat.le_of_ble_eq_true rfl) (rp_nm 9) (rp_ex (re_int)) (nomark _)) (rw_and1 (rt_cmp (fun _ => rI0 fun i j => .bl (decide (j ≤ i))) (fun X h => op_geA X h) geD_ok.1 (rp_nm 10) (rp_ex (re_int)) (nomark _))))) (rss_cons (rs_expr (re_app 6 (re_tup (ra_cons (rp_it (re_str)) (ra_cons (rp_it (re_pop 6)) (ra_nil)))))) (rss_one (rs_set 11 (re_int)))) (rss_one (rs_if (rt_bool (rw_and (rt_cmp (fun _ => rI0 fun i j => .bl (decide (j < i))) (fun X h => op_gtA X h) gtD_ok.1 (rp_nm 9) (rp_ex (re_int)) (nomark _)) (rw_and1 (rt_cmp (fun _ => rI0 fun i j => .bl (decide (j < i))) (fun X h => op_gtA X h) gtD_ok.1 (rp_ex (re_bi rLenA (fun X h => cb_len X h) lenD_ok fac.b_len (by decide +kernel) (ra_cons (rp_nm 3) (ra_nil)))) (rp_ex (re_int)) (nomark _))))) (rss_cons (rs_set 14 (re_call c_law_pick (Nat.le_of_ble_eq_true rfl) (ra_cons (rp_nm 0) (ra_cons (rp_nm 3) (ra_nil))) (.cons (.cons .nil)))) (rss_one (rs_if (rt_cmp (fun _ => rI0 fun i j => .bl (decide (j ≤ i))) (fun X h => op_geA X h) geD_ok.1 (rp_nm 10) (rp_ex (re_op (fun _ => rI0 fun i j => .int (i - j)) (fun X => op_subA X) subD_ok (rp_ex (re_ix rIx (fun X => ix_seq) ixD_ok (rp_nm 14) (rp_ex (re_int)))) (rp_ex (re_int)))) (nomark _)) (rss_cons (rs_setLc 15 (own := [(("k" : Str), 16)]) (ri_rng1 fac.b_range (rp_ex (re_ix rIx (fun X => ix_seq) ixD_ok (rp_nm 14) (rp_ex (re_int))))) (rg_name 16) (rts_nil) (re_call c_law_leaf (Nat.le_of_ble_eq_true rfl) (ra_cons (rp_nm 0) (ra_cons (rp_nm 2) (ra_cons (rp_nm 4) (ra_cons (rp_nm 5) (ra_nil))))) (.cons (.cons (.cons (.cons .nil)))))) (rss_cons (rs_sti 15 (re_pop 6) (rp_ex (re_call c_law_take (Nat.le_of_ble_eq_true rfl) (ra_cons (rp_nm 0) (ra_cons (rp_ex (re_ix rIx (fun X => ix_seq) ixD_ok (rp_nm 14) (rp_ex (re_int)))) (ra_nil))) (.cons (.cons .nil))))) (rss_cons (rs_expr (re_app 6 (re_tup (ra_cons (rp_it (re_str)) (ra_cons (rp_it (re_ix rIx (fun X => ix_seq) ixD_ok (rp_nm 14) (rp_ex (re_int)))) (ra_cons (rp_it (re_ty rTupleA (fun X h => cb_tuple X h) tupleD_ok fac.b_tuple (by decide +kernel) (ra_cons (rp_nm 15) (ra_nil)))) (ra_nil))))))) (rss_one (rs_set 11 (re_ix rIx (fun X => ix_seq) ixD_ok (rp_nm 14) (rp_ex (re_int)))))))) (rss_nil)))) (rss_nil)))))))))))) (rss_one (rs_sti 5 (re_op (fun _ => rI0 fun i j => .int (i - j)) (fun X => op_subA X) subD_ok (rp_ex (re_ix rIx (fun X => ix_seq) ixD_ok (rp_nm 5) (rp_ex (re_int)))) (rp_nm 11)) (rp_ex (re_int))))))))))
/-! refuse_bad_entries -/
abbrev N_refuse_bad_entries : List Str := ["ops", "k", "entry"]
abbrev P_refuse_bad_entries : List Str := ["ops"]
theorem sc_refuse_bad_entries : FnScope N_refuse_bad_entries P_refuse_bad_entries (defScope (top 25)) := ⟨rfl, rfl, rfl, by decide +kernel, rfl, by decide +kernel, by decide +kernel⟩
def mb_refuse_bad_entries : MS := s_seq (s_if (m_tst (m_op2 gtD (p_ex (m_bi lenD (a_cons (p_nm 0) (a_nil)))) (p_ex (m_c (.int 10))))) (s_no) (s_nop)) (s_seq (s_for (i_enumA (m_var 0)) (g_tup 2 (gs_cons (g_name 1) (gs_cons (g_name 2) (gs_nil)))) (s_seq (s_if (m_not (m_tru (p_ex (m_call g_is_operator (a_cons (p_nm 2) (a_nil)))))) (s_no) (s_nop)) (s_if (m_tru (p_ex (m_call g_has_clash (a_cons (p_nm 0) (a_cons (p_nm 1) (a_nil)))))) (s_no) (s_nop)))) (s_drop (m_call g_refuse_equal_strengths (a_cons (p_nm 0) (a_nil)))))
def g_refuse_bad_entries : List O → Option (O × List O) := fnM 3 1 [0] mb_refuse_bad_entries
theorem ok_refuse_bad_entries {P : Program} {w : World} {K : PySem.W.Frag} {mg : Str → Option Value} {base : Heap} (fac : Fac K mg) {f : Addr} {fd : FuncData} (F : FunD K "refuse_bad_entries" "refuse_bad_entries" (defArgs (top 25)) (defBody (top 25)) (defScope (top 25)) [] [] f fd) (c_refuse_equal_strengths : Cal P w K mg base 101 "refuse_equal_strengths" 1 g_refuse_equal_strengths) (c_has_clash : Cal P w K mg base 101 "has_clash" 2 g_has_clash) (c_is_operator : Cal P w K mg base 105 "is_operator" 1 g_is_operator) :
    FnOk P w K mg base CX0 106 f fd P_refuse_bad_entries (spM K 1 g_refuse_bad_entries) :=
  fn_ok (k := 105) (N := N_refuse_bad_entries) (ps := P_refuse_bad_entries) (m := mb_refuse_bad_entries) [0] F sc_refuse_bad_entries (rss_cons (rs_if (rt_cmp (fun _ => rI0 fun i j => .bl (decide (j < i))) (fun X h => op_gtA X h) gtD_ok.1 (rp_ex (re_bi rLenA (fun X h => cb_len X h) lenD_ok fac.b_len (by decide +kernel) (ra_cons (rp_nm 0) (ra_nil)))) (rp_ex (re_gintE fac.i_MOST_OPERATORS)) (nomark _)) (rss_one (rs_no)) (rss_nil)) (rss_cons (rs_for (vs := [1, 2]) (ri_enumA fac.b_enumerate (re_var 0)) (rg_tup (rgs_cons (rg_name 1) (rgs_cons (rg_name 2) (rgs_nil)))) (rss_cons (rs_if (rt_not (rt_tru (rp_ex (re_call c_is_operator (Nat.le_of_ble_eq_true rfl) (ra_cons (rp_nm 2) (ra_nil)) (.cons .nil))))) (rss_one (rs_no)) (rss_nil)) (rss_one (rs_if (rt_tru (rp_ex (re_call c_has_clash (Nat.le_of_ble_eq_true rfl) (ra_cons (rp_nm 0) (ra_cons (rp_nm 1) (ra_nil))) (.cons (.cons .nil))))) (rss_one (rs_no)) (rss_nil))))) (rss_one (rs_expr (re_call c_refuse_equal_strengths (Nat.le_of_ble_eq_true rfl) (ra_cons (rp_nm 0) (ra_nil)) (.cons .nil))))))
/-! are_alike -/
abbrev N_are_alike : List Str := ["table", "first", "second"]
abbrev P_are_alike : List Str := ["table", "first", "second"]
theorem sc_are_alike : FnScope N_are_alike P_are_alike (defScope (top 34)) := ⟨rfl, rfl, rfl, by decide +kernel, rfl, by decide +kernel, by decide +kernel⟩
def mb_are_alike : MS := s_ret (m_op2 eqPD (p_ex (m_call g_flat_heads (a_cons (p_nm 0) (a_cons (p_nm 1) (a_nil))))) (p_ex (m_call g_flat_heads (a_cons (p_nm 0) (a_cons (p_nm 2) (a_nil))))))
def g_are_alike : List O → Option (O × List O) := fnM 3 3 [0, 1, 2] mb_are_alike
theorem ok_are_alike {P : Program} {w : World} {K : PySem.W.Frag} {mg : Str → Option Value} {base : Heap} (fac : Fac K mg) {f : Addr} {fd : FuncData} (F : FunD K "are_alike" "are_alike" (defArgs (top 34)) (defBody (top 34)) (defScope (top 34)) [] [] f fd) (c_flat_heads : Cal P w K mg base 105 "flat_heads" 2 g_flat_heads) :
    FnOk P w K mg base CX0 106 f fd P_are_alike (spM K 3 g_are_alike) :=
  fn_ok (k := 105) (N := N_are_alike) (ps := P_are_alike) (m := mb_are_alike) [0, 1, 2] F sc_are_alike (rss_one (rs_ret (re_cmpP rEqP (fun X h => op_eqP X h) eqPD_ok.1 (Nat.le_of_ble_eq_true rfl) (rp_ex (re_call c_flat_heads (Nat.le_of_ble_eq_true rfl) (ra_cons (rp_nm 0) (ra_cons (rp_nm 1) (ra_nil))) (.cons (.cons .nil)))) (rp_ex (re_call c_flat_heads (Nat.le_of_ble_eq_true rfl) (ra_cons (rp_nm 0) (ra_cons (rp_nm 2) (ra_nil))) (.cons (.cons .nil)))) (nomark _))))
/-! _law_tree -/
abbrev N_law_tree : List Str := ["store", "ops", "words", "calls", "leaves", "room", "pile", "infixes", "many", "turn", "last", "pair"]
abbrev P_law_tree : List Str := ["store", "ops", "words", "calls", "leaves", "room"]
theorem sc_law_tree : FnScope N_law_tree P_law_tree (defScope (top 54)) := ⟨rfl, rfl, rfl, by decide +kernel, rfl, by decide +kernel, by decide +kernel⟩
def mb_law_tree : MS := s_seq (s_sti 5 (m_op2 subD (p_ex (m_op2 ixD (p_nm 5) (p_ex (m_c (.int 0))))) (p_ex (m_c (.int 1)))) (p_ex (m_c (.int 0)))) (s_seq (s_set 6 (m_lst (a_cons (m_it (m_call g_law_leaf (a_cons (p_nm 0) (a_cons (p_nm 2) (a_cons (p_nm 4) (a_cons (p_nm 5) (a_nil))))))) (a_nil)))) (s_seq (s_set 7 (m_call g_law_roles (a_cons (p_nm 1) (a_cons (p_ex (m_c (.str (Str.ofString "infix")))) (a_nil))))) (s_seq (s_set 8 (m_lc [11] (i_seq (m_var 3)) (g_name 11) (m_tst (m_op2 gtD (p_ex (m_op2 ixD (p_nm 11) (p_ex (m_c (.int 1))))) (p_ex (m_c (.int 0))))) (m_var 11))) (s_seq (s_for (i_rng1 (p_ex (m_call g_law_edge (a_cons (p_nm 0) (a_cons (p_ex (m_c (.int 0))) (a_cons (p_ex (m_bi min2D (a_cons (p_ex (m_c (.int 60))) (a_cons (p_ex (m_op2 ixD (p_nm 5) (p_ex (m_c (.int 0))))) (a_nil))))) (a_nil))))))) (g_name 9) (s_drop (m_call g_law_step (a_cons (p_nm 0) (a_cons (p_nm 1) (a_cons (p_nm 2) (a_cons (p_nm 8) (a_cons (p_nm 4) (a_cons (p_nm 5) (a_cons (p_nm 6) (a_nil))))))))))) (s_seq (s_for (i_rng1 (p_ex (m_op2 subD (p_ex (m_bi lenD (a_cons (p_nm 6) (a_nil)))) (p_ex (m_c (.int 1)))))) (g_name 9) (s_seq (s_set 10 (m_call g_law_wrap (a_cons (p_ex (m_pop 6)) (a_cons (p_nm 5) (a_nil))))) (s_drop (m_app 6 (m_tup (a_cons (m_it (m_c (.str (Str.ofString "o")))) (a_cons (m_it (m_call g_law_pick (a_cons (p_nm 0) (a_cons (p_nm 7) (a_nil))))) (a_cons (m_it (m_tup (a_cons (m_it (m_call g_law_wrap (a_cons (p_ex (m_pop 6)) (a_cons (p_nm 5) (a_nil))))) (a_cons (m_it (m_var 10)) (a_nil))))) (a_nil))))))))) (s_ret (m_op2 ixD (p_nm 6) (p_ex (m_c (.int 0))))))))))
def g_law_tree : List O → Option (O × List O) := fnM 12 6 [0, 1, 2, 3, 4, 5] mb_law_tree
theorem ok_law_tree {P : Program} {w : World} {K : PySem.W.Frag} {mg : Str → Option Value} {base : Heap} (fac : Fac K mg) {f : Addr} {fd : FuncData} (F : FunD K "_law_tree" "_law_tree" (defArgs (top 54)) (defBody (top 54)) (defScope (top 54)) [] [] f fd) (c_law_wrap : Cal P w K mg base 101 "_law_wrap" 2 g_law_wrap) (c_law_pick : Cal P w K mg base 103 "_law_pick" 2 g_law_pick) (c_law_edge : Cal P w K mg base 103 "_law_edge" 3 g_law_edge) (c_law_step : Cal P w K mg base 105 "_law_step" 7 g_law_step) (c_law_roles : Cal P w K mg base 101 "_law_roles" 2 g_law_roles) (c_law_leaf : Cal P w K mg base 104 "_law_leaf" 4 g_law_leaf) :
    FnOk P w K mg base CX0 106 f fd P_law_tree (spM K 6 g_law_tree) :=
  fn_ok (k := 105) (N := N_law_tree) (ps := P_law_tree) (m := mb_law_tree) [0, 1, 2, 3, 4, 5] F sc_law_tree (rss_cons (rs_sti 5 (re_op (fun _ => rI0 fun i j => .int (i - j)) (fun X => op_subA X) subD_ok (rp_ex (re_ix rIx (fun X => ix_seq) ixD_ok (rp_nm 5) (rp_ex (re_int)))) (rp_ex (re_int))) (rp_ex (re_int))) (rss_cons (rs_set 6 (re_lst (ra_cons (rp_it (re_call c_law_leaf (Nat.le_of_ble_eq_true rfl) (ra_cons (rp_nm 0) (ra_cons (rp_nm 2) (ra_cons (rp_nm 4) (ra_cons (rp_nm 5) (ra_nil))))) (.cons (.cons (.cons (.cons .nil)))))) (ra_nil)))) (rss_cons (rs_set 7 (re_call c_law_roles (Nat.le_of_ble_eq_true rfl) (ra_cons (rp_nm 1) (ra_cons (rp_ex (re_str)) (ra_nil))) (.cons (.cons .nil)))) (rss_cons (rs_setLc 8 (own := [(("pair" : Str), 11)]) (ri_seq (re_var 3)) (rg_name 11) (rts_one (rt_cmp (fun _ => rI0 fun i j => .bl (decide (j < i))) (fun X h => op_gtA X h) gtD_ok.1 (rp_ex (re_ix rIx (fun X => ix_seq) ixD_ok (rp_nm 11) (rp_ex (re_int)))) (rp_ex (re_int)) (nomark _))) (re_var 11)) (rss_cons (rs_for (vs := [9]) (ri_rng1 fac.b_range (rp_ex (re_call c_law_edge (Nat.le_of_ble_eq_true rfl) (ra_cons (rp_nm 0) (ra_cons (rp_ex (re_int)) (ra_cons (rp_ex (re_bi (fun _ => rMin2A) (fun X h => cb_min2 X h) min2D_ok fac.b_min (by decide +kernel) (ra_cons (rp_ex (re_int)) (ra_cons (rp_ex (re_ix rIx (fun X => ix_seq) ixD_ok (rp_nm 5) (rp_ex (re_int)))) (ra_nil))))) (ra_nil)))) (.cons (.cons (.cons .nil)))))) (rg_name 9) (rss_one (rs_expr (re_call c_law_step (Nat.le_of_ble_eq_true rfl) (ra_cons (rp_nm 0) (ra_cons (rp_nm 1) (ra_cons (rp_nm 2) (ra_cons (rp_nm 8) (ra_cons (rp_nm 4) (ra_cons (rp_nm 5) (ra_cons (rp_nm 6) (ra_nil)))))))) (.cons (.cons (.cons (.cons (.cons (.cons (.cons .nil))))))))))) (rss_cons (rs_for (vs := [9]) (ri_rng1 fac.b_range (rp_ex (re_op (fun _ => rI0 fun i j => .int (i - j)) (fun X => op_subA X) subD_ok (rp_ex (re_bi rLenA (fun X h => cb_len X h) lenD_ok fac.b_len (by decide +kernel) (ra_cons (rp_nm 6) (ra_nil)))) (rp_ex (re_int))))) (rg_name 9) (rss_cons (rs_set 10 (re_call c_law_wrap (Nat.le_of_ble_eq_true rfl) (ra_cons (rp_ex (re_pop 6)) (ra_cons (rp_nm 5) (ra_nil))) (.cons (.cons .nil)))) (rss_one (rs_expr (re_app 6 (re_tup (ra_cons (rp_it (re_str)) (ra_cons (rp_it (re_call c_law_pick (Nat.le_of_ble_eq_true rfl) (ra_cons (rp_nm 0) (ra_cons (rp_nm 7) (ra_nil))) (.cons (.cons .nil)))) (ra_cons (rp_it (re_tup (ra_cons (rp_it (re_call c_law_wrap (Nat.le_of_ble_eq_true rfl) (ra_cons (rp_ex (re_pop 6)) (ra_cons (rp_nm 5) (ra_nil))) (.cons (.cons .nil)))) (ra_cons (rp_it (re_var 10)) (ra_nil))))) (ra_nil)))))))))) (rss_one (rs_ret (re_ix rIx (fun X => ix_seq) ixD_ok (rp_nm 6) (rp_ex (re_int)))))))))))
/-! Table.__init__ -/
abbrev N_Table___init__ : List Str := ["self", "ops", "k", "op"]
abbrev P_Table___init__ : List Str := ["self", "ops"]
theorem sc_Table___init__ : FnScope N_Table___init__ P_Table___init__ (defScope (sub 26 0)) := ⟨rfl, rfl, rfl, by decide +kernel, rfl, by decide +kernel, by decide +kernel⟩
def mb_Table___init__ : MS := s_seq (s_drop (m_call g_refuse_bad_entries (a_cons (p_nm 1) (a_nil)))) (s_seq (s_fld 0 "Table" "kept_ops" (m_bi tupleD (a_cons (p_nm 1) (a_nil)))) (s_seq (s_fld 0 "Table" "fore_numbers" (m_dnew)) (s_seq (s_fld 0 "Table" "rear_numbers" (m_dnew)) (s_for (i_enumA (m_fob 0 "Table" "kept_ops")) (g_tup 2 (gs_cons (g_name 2) (gs_cons (g_name 3) (gs_nil)))) (s_if (m_tst (m_op2 eqPD (p_ex (m_op2 ixD (p_nm 3) (p_ex (m_c (.int 1))))) (p_ex (m_c (.str (Str.ofString "prefix")))))) (s_fdput 0 "Table" "fore_numbers" (m_var 2) (k_ix 3 0)) (s_fdput 0 "Table" "rear_numbers" (m_var 2) (k_ix 3 0)))))))
def g_Table___init__ : List O → Option (O × List O) := fnM 4 2 [0, 1] mb_Table___init__
theorem ok_Table___init__ {P : Program} {w : World} {K : PySem.W.Frag} {mg : Str → Option Value} {base : Heap} (fac : Fac K mg) {f : Addr} {fd : FuncData} (F : FunD K "__init__" "Table.__init__" (defArgs (sub 26 0)) (defBody (sub 26 0)) (defScope (sub 26 0)) [] [] f fd) (c_refuse_bad_entries : Cal P w K mg base 106 "refuse_bad_entries" 1 g_refuse_bad_entries) :
    FnOk P w K mg base CX0 107 f fd P_Table___init__ (spM K 2 g_Table___init__) :=
  fn_ok (k := 106) (N := N_Table___init__) (ps := P_Table___init__) (m := mb_Table___init__) [0, 1] F sc_Table___init__ (rss_cons (rs_expr (re_call c_refuse_bad_entries (Nat.le_of_ble_eq_true rfl) (ra_cons (rp_nm 1) (ra_nil)) (.cons .nil))) (rss_cons (rs_fld 0 "Table" fac.c_Table fac.n_Table_kept_ops (re_ty rTupleA (fun X h => cb_tuple X h) tupleD_ok fac.b_tuple (by decide +kernel) (ra_cons (rp_nm 1) (ra_nil)))) (rss_cons (rs_fld 0 "Table" fac.c_Table fac.n_Table_fore_numbers (re_dnew)) (rss_cons (rs_fld 0 "Table" fac.c_Table fac.n_Table_rear_numbers (re_dnew)) (rss_one (rs_for (vs := [2, 3]) (ri_enumA fac.b_enumerate (re_fob 0 "Table" fac.c_Table fac.n_Table_kept_ops)) (rg_tup (rgs_cons (rg_name 2) (rgs_cons (rg_name 3) (rgs_nil)))) (rss_one (rs_if (rt_cmpP rEqP (fun X h => op_eqP X h) eqPD_ok.1 (Nat.le_of_ble_eq_true rfl) (rp_ex (re_ix rIx (fun X => ix_seq) ixD_ok (rp_nm 3) (rp_ex (re_int)))) (rp_ex (re_str)) (nomark _)) (rss_one (rs_fdput 0 "Table" fac.c_Table fac.n_Table_fore_numbers (re_var 2) (rk_ix 3))) (rss_one (rs_fdput 0 "Table" fac.c_Table fac.n_Table_rear_numbers (re_var 2) (rk_ix 3)))))))))))
/-! _law_case -/
abbrev N_law_case : List Str := ["store", "ops", "words", "calls", "leaves", "sort", "other", "size", "near", "turn", "part", "bent", "number", "node", "braced", "tree", "room", "k", "op"]
abbrev P_law_case : List Str := ["store"]
theorem sc_law_case : FnScope N_law_case P_law_case (defScope (top 59)) := ⟨rfl, rfl, rfl, by decide +kernel, rfl, by decide +kernel, by decide +kernel⟩
def mb_law_case : MS := s_seq (s_set 1 (m_call g_law_lightops (a_cons (p_nm 0) (a_cons (p_ex (m_call g_law_edge (a_cons (p_nm 0) (a_cons (p_ex (m_c (.int 0))) (a_cons (p_ex (m_c (.int 10))) (a_nil)))))) (a_nil))))) (s_seq (s_if (m_tst (m_op2 eqPD (p_ex (m_call g_law_take (a_cons (p_nm 0) (a_cons (p_ex (m_c (.int 2))) (a_nil))))) (p_ex (m_c (.int 0))))) (s_set 1 (m_lc [18] (i_seq (m_var 1)) (g_name 18) (m_yes) (m_op2 addD (p_ex (m_sl slD (p_nm 18) (o_none) (o_some (p_ex (m_c (.int 5)))))) (p_ex (m_tup (a_cons (m_it (m_andV (m_op2 eqPD (p_ex (m_op2 ixD (p_nm 18) (p_ex (m_c (.int 1))))) (p_ex (m_c (.str (Str.ofString "infix"))))) (m_op2 gtD (p_ex (m_call g_law_take (a_cons (p_nm 0) (a_cons (p_ex (m_c (.int 4))) (a_nil))))) (p_ex (m_c (.int 0)))))) (a_nil))))))) (s_nop)) (s_seq (s_set 2 (m_sl slD (p_ex (m_lst (a_cons (m_it (m_c (.str (Str.ofString "x")))) (a_cons (m_it (m_c (.str (Str.ofString "0")))) (a_cons (m_it (m_c (.str (Str.ofString "yy12")))) (a_cons (m_it (m_c (.str (Str.ofString "abcdefgh")))) (a_nil))))))) (o_none) (o_some (p_ex (m_call g_law_edge (a_cons (p_nm 0) (a_cons (p_ex (m_c (.int 1))) (a_cons (p_ex (m_c (.int 4))) (a_nil))))))))) (s_seq (s_set 3 (m_sl slD (p_ex (m_lst (a_cons (m_it (m_tup (a_cons (m_it (m_c (.str (Str.ofString "f")))) (a_cons (m_it (m_op2 addD (p_ex (m_c (.int 1))) (p_ex (m_call g_law_take (a_cons (p_nm 0) (a_cons (p_ex (m_c (.int 3))) (a_nil))))))) (a_nil))))) (a_cons (m_it (m_tup (a_cons (m_it (m_c (.str (Str.ofString "g2")))) (a_cons (m_it (m_c (.int 2))) (a_nil))))) (a_nil))))) (o_none) (o_some (p_ex (m_call g_law_take (a_cons (p_nm 0) (a_cons (p_ex (m_c (.int 3))) (a_nil)))))))) (s_seq (s_set 4 (m_lst (a_cons (m_it (m_tup (a_cons (m_it (m_c (.str (Str.ofString "h")))) (a_cons (m_it (m_call g_law_take (a_cons (p_nm 0) (a_cons (p_ex (m_c (.int 9))) (a_nil))))) (a_nil))))) (a_cons (m_it (m_tup (a_cons (m_it (m_c (.str (Str.ofString "k")))) (a_cons (m_it (m_c (.str (Str.ofString "AB")))) (a_nil))))) (a_cons (m_it (m_tup (a_cons (m_it (m_c (.str (Str.ofString "c")))) (a_cons (m_it (m_c (.str (Str.ofString "h")))) (a_cons (m_it (m_tup (a_nil))) (a_nil)))))) (a_nil)))))) (s_seq (s_set 5 (m_call g_law_take (a_cons (p_nm 0) (a_cons (p_ex (m_c (.int 10))) (a_nil))))) (s_seq (s_if (m_tst (m_op2 eqPD (p_nm 5) (p_ex (m_c (.int 0))))) (s_set 15 (m_call g_law_long (a_cons (p_nm 0) (a_cons (p_nm 1) (a_cons (p_nm 2) (a_cons (p_ex (m_op2 addD (p_ex (m_c (.int 119))) (p_ex (m_call g_law_take (a_cons (p_nm 0) (a_cons (p_ex (m_c (.int 2))) (a_nil))))))) (a_nil))))))) (s_seq (s_set 16 (m_lst (a_cons (m_it (m_if (m_tst (m_op2 eqPD (p_nm 5) (p_ex (m_c (.int 1))))) (m_c (.int 52)) (m_call g_law_edge (a_cons (p_nm 0) (a_cons (p_ex (m_c (.int 1))) (a_cons (p_ex (m_c (.int 24))) (a_nil))))))) (a_cons (m_it (m_c (.int 99))) (a_cons (m_it (m_c (.int 0))) (a_nil)))))) (s_set 15 (m_call g_law_tree (a_cons (p_nm 0) (a_cons (p_nm 1) (a_cons (p_nm 2) (a_cons (p_nm 3) (a_cons (p_nm 4) (a_cons (p_nm 16) (a_nil))))))))))) (s_seq (s_set 6 (m_call g_law_tree (a_cons (p_nm 0) (a_cons (p_nm 1) (a_cons (p_nm 2) (a_cons (p_nm 3) (a_cons (p_nm 4) (a_cons (p_ex (m_lst (a_cons (m_it (m_c (.int 8))) (a_cons (m_it (m_c (.int 99))) (a_cons (m_it (m_c (.int 0))) (a_nil)))))) (a_nil))))))))) (s_seq (s_set 7 (m_bi lenD (a_cons (p_ex (m_call g_law_nodes (a_cons (p_nm 15) (a_nil)))) (a_nil)))) (s_seq (s_set 8 (m_var 15)) (s_seq (s_for (i_rng1 (p_ex (m_call g_law_edge (a_cons (p_nm 0) (a_cons (p_ex (m_c (.int 1))) (a_cons (p_ex (m_c (.int 4))) (a_nil))))))) (g_name 9) (s_seq (s_set 12 (m_call g_law_take (a_cons (p_nm 0) (a_cons (p_nm 7) (a_nil))))) (s_for (i_rng1 (p_ex (m_bi min2D (a_cons (p_ex (m_c (.int 8))) (a_cons (p_nm 7) (a_nil)))))) (g_name 17) (s_set 8 (m_call g_law_turned (a_cons (p_nm 1) (a_cons (p_nm 8) (a_cons (p_ex (m_op2 modD (p_ex (m_bi intD (a_cons (p_ex (m_op2 addD (p_nm 12) (p_nm 17))) (a_nil)))) (p_nm 7))) (a_cons (p_ex (m_call g_law_take (a_cons (p_nm 0) (a_cons (p_ex (m_c (.int 2))) (a_nil))))) (a_nil)))))))))) (s_seq (s_set 10 (m_op2 ixD (p_ex (m_tup (a_cons (m_it (m_tup (a_cons (m_it (m_c (.str (Str.ofString "a")))) (a_cons (m_it (m_c (.str (Str.ofString "x")))) (a_nil))))) (a_cons (m_it (m_tup (a_cons (m_it (m_c (.str (Str.ofString "b")))) (a_cons (m_it (m_tup (a_cons (m_it (m_c (.str (Str.ofString "a")))) (a_cons (m_it (m_c (.str (Str.ofString "0")))) (a_nil))))) (a_nil))))) (a_cons (m_it (m_var 6)) (a_nil)))))) (p_ex (m_if (m_tst (m_op2 eqPD (p_nm 5) (p_ex (m_c (.int 0))))) (m_c (.int 0)) (m_call g_law_take (a_cons (p_nm 0) (a_cons (p_ex (m_c (.int 3))) (a_nil)))))))) (s_seq (s_set 11 (m_call g_law_swap (a_cons (p_nm 15) (a_cons (p_ex (m_call g_law_take (a_cons (p_nm 0) (a_cons (p_nm 7) (a_nil))))) (a_cons (p_nm 10) (a_nil)))))) (s_seq (s_set 12 (m_call g_law_take (a_cons (p_nm 0) (a_cons (p_nm 7) (a_nil))))) (s_seq (s_set 13 (m_op2 ixD (p_ex (m_call g_law_nodes (a_cons (p_nm 15) (a_nil)))) (p_nm 12))) (s_seq (s_set 14 (m_var 15)) (s_seq (s_if (m_or (m_tst (m_op2 eqPD (p_ex (m_op2 ixD (p_nm 13) (p_ex (m_c (.int 0))))) (p_ex (m_c (.str (Str.ofString "b")))))) (m_tst (m_op2 gtD (p_nm 5) (p_ex (m_c (.int 0)))))) (s_set 14 (m_call g_law_swap (a_cons (p_nm 15) (a_cons (p_nm 12) (a_cons (p_ex (m_if (m_tst (m_op2 eqPD (p_ex (m_op2 ixD (p_nm 13) (p_ex (m_c (.int 0))))) (p_ex (m_c (.str (Str.ofString "b")))))) (m_op2 ixD (p_nm 13) (p_ex (m_c (.int 1)))) (m_tup (a_cons (m_it (m_c (.str (Str.ofString "b")))) (a_cons (m_it (m_var 13)) (a_nil)))))) (a_nil)))))) (s_nop)) (s_ret (m_lst (a_cons (m_it (m_var 1)) (a_cons (m_it (m_var 15)) (a_cons (m_it (m_var 8)) (a_cons (m_it (m_var 11)) (a_cons (m_it (m_var 14)) (a_cons (m_it (m_var 6)) (a_nil)))))))))))))))))))))))))
def g_law_case : List O → Option (O × List O) := fnM 19 1 [0] mb_law_case
theorem ok_law_case {P : Program} {w : World} {K : PySem.W.Frag} {mg : Str → Option Value} {base : Heap} (fac : Fac K mg) {f : Addr} {fd : FuncData} (F : FunD K "_law_case" "_law_case" (defArgs (top 59)) (defBody (top 59)) (defScope (top 59)) [] [] f fd) (c_law_swap : Cal P w K mg base 103 "_law_swap" 3 g_law_swap) (c_law_nodes : Cal P w K mg base 102 "_law_nodes" 1 g_law_nodes) (c_law_take : Cal P w K mg base 102 "_law_take" 2 g_law_take) (c_law_edge : Cal P w K mg base 103 "_law_edge" 3 g_law_edge) (c_law_turned : Cal P w K mg base 104 "_law_turned" 4 g_law_turned) (c_law_tree : Cal P w K mg base 106 "_law_tree" 6 g_law_tree) (c_law_long : Cal P w K mg base 104 "_law_long" 4 g_law_long) (c_law_lightops : Cal P w K mg base 104 "_law_lightops" 2 g_law_lightops) :
    FnOk P w K mg base CX0 107 f fd P_law_case (spM K 1 g_law_case) :=
  fn_ok (k := 106) (N := N_law_case) (ps := P_law_case) (m := mb_law_case) [0] F sc_law_case (rss_cons (rs_set 1 (re_call c_law_lightops (Nat.le_of_ble_eq_true rfl) (ra_cons (rp_nm 0) (ra_cons (rp_ex (re_call c_law_edge (Nat.le_of_ble_eq_true rfl) (ra_cons (rp_nm 0) (ra_cons (rp_ex (re_int)) (ra_cons (rp_ex (re_int)) (ra_nil)))) (.cons (.cons (.cons .nil))))) (ra_nil))) (.cons (.cons .nil)))) (rss_cons (rs_if (rt_cmpP rEqP (fun X h => op_eqP X h) eqPD_ok.1 (Nat.le_of_ble_eq_true rfl) (rp_ex (re_call c_law_take (Nat.le_of_ble_eq_true rfl) (ra_cons (rp_nm 0) (ra_cons (rp_ex (re_int)) (ra_nil))) (.cons (.cons .nil)))) (rp_ex (re_int)) (nomark _)) (rss_one (rs_setLc 1 (own := [(("op" : Str), 18)]) (ri_seq (re_var 1)) (rg_name 18) (rts_nil) (re_op rAddA (fun X => op_addA X) addD_ok (rp_ex (re_sl rSlA (fun X => sl_any X) slD_ok (rp_nm 18) (ro_none) (ro_some (rp_ex (re_int))))) (rp_ex (re_tup (ra_cons (rp_it (re_and (re_cmpP rEqP (fun X h => op_eqP X h) eqPD_ok.1 (Nat.le_of_ble_eq_true rfl) (rp_ex (re_ix rIx (fun X => ix_seq) ixD_ok (rp_nm 18) (rp_ex (re_int)))) (rp_ex (re_str)) (nomark _)) (re_one (re_cmp (fun _ => rI0 fun i j => .bl (decide (j < i))) (fun X h => op_gtA X h) gtD_ok.1 (rp_ex (re_call c_law_take (Nat.le_of_ble_eq_true rfl) (ra_cons (rp_nm 0) (ra_cons (rp_ex (re_int)) (ra_nil))) (.cons (.cons .nil)))) (rp_ex (re_int)) (nomark _))))) (ra_nil))))))) (rss_nil)) (rss_cons (rs_set 2 (re_sl rSlA (fun X => sl_any X) slD_ok (rp_ex (re_lst (ra_cons (rp_it (re_str)) (ra_cons (rp_it (re_str)) (ra_cons (rp_it (re_str)) (ra_cons (rp_it (re_str)) (ra_nil))))))) (ro_none) (ro_some (rp_ex (re_call c_law_edge (Nat.le_of_ble_eq_true rfl) (ra_cons (rp_nm 0) (ra_cons (rp_ex (re_int)) (ra_cons (rp_ex (re_int)) (ra_nil)))) (.cons (.cons (.cons .nil)))))))) (rss_cons (rs_set 3 (re_sl rSlA (fun X => sl_any X) slD_ok (rp_ex (re_lst (ra_cons (rp_it (re_tup (ra_cons (rp_it (re_str)) (ra_cons (rp_it (re_op rAddA (fun X => op_addA X) addD_ok (rp_ex (re_int)) (rp_ex (re_call c_law_take (Nat.le_of_ble_eq_true rfl) (ra_cons (rp_nm 0) (ra_cons (rp_ex (re_int)) (ra_nil))) (.cons (.cons .nil)))))) (ra_nil))))) (ra_cons (rp_it (re_tup (ra_cons (rp_it (re_str)) (ra_cons (rp_it (re_int)) (ra_nil))))) (ra_nil))))) (ro_none) (ro_some (rp_ex (re_call c_law_take (Nat.le_of_ble_eq_true rfl) (ra_cons (rp_nm 0) (ra_cons (rp_ex (re_int)) (ra_nil))) (.cons (.cons .nil))))))) (rss_cons (rs_set 4 (re_lst (ra_cons (rp_it (re_tup (ra_cons (rp_it (re_str)) (ra_cons (rp_it (re_call c_law_take (Nat.le_of_ble_eq_true rfl) (ra_cons (rp_nm 0) (ra_cons (rp_ex (re_int)) (ra_nil))) (.cons (.cons .nil)))) (ra_nil))))) (ra_cons (rp_it (re_tup (ra_cons (rp_it (re_str)) (ra_cons (rp_it (re_str)) (ra_nil))))) (ra_cons (rp_it (re_tup (ra_cons (rp_it (re_str)) (ra_cons (rp_it (re_str)) (ra_cons (rp_it (re_tup (ra_nil))) (ra_nil)))))) (ra_nil)))))) (rss_cons (rs_set 5 (re_call c_law_take (Nat.le_of_ble_eq_true rfl) (ra_cons (rp_nm 0) (ra_cons (rp_ex (re_int)) (ra_nil))) (.cons (.cons .nil)))) (rss_cons (rs_if (rt_cmpP rEqP (fun X h => op_eqP X h) eqPD_ok.1 (Nat.le_of_ble_eq_true rfl) (rp_nm 5) (rp_ex (re_int)) (nomark _)) (rss_one (rs_set 15 (re_call c_law_long (Nat.le_of_ble_eq_true rfl) (ra_cons (rp_nm 0) (ra_cons (rp_nm 1) (ra_cons (rp_nm 2) (ra_cons (rp_ex (re_op rAddA (fun X => op_addA X) addD_ok (rp_ex (re_int)) (rp_ex (re_call c_law_take (Nat.le_of_ble_eq_true rfl) (ra_cons (rp_nm 0) (ra_cons (rp_ex (re_int)) (ra_nil))) (.cons (.cons .nil)))))) (ra_nil))))) (.cons (.cons (.cons (.cons .nil))))))) (rss_cons (rs_set 16 (re_lst (ra_cons (rp_it (re_if (rt_cmpP rEqP (fun X h => op_eqP X h) eqPD_ok.1 (Nat.le_of_ble_eq_true rfl) (rp_nm 5) (rp_ex (re_int)) (nomark _)) (re_int) (re_call c_law_edge (Nat.le_of_ble_eq_true rfl) (ra_cons (rp_nm 0) (ra_cons (rp_ex (re_int)) (ra_cons (rp_ex (re_int)) (ra_nil)))) (.cons (.cons (.cons .nil)))))) (ra_cons (rp_it (re_int)) (ra_cons (rp_it (re_int)) (ra_nil)))))) (rss_one (rs_set 15 (re_call c_law_tree (Nat.le_of_ble_eq_true rfl) (ra_cons (rp_nm 0) (ra_cons (rp_nm 1) (ra_cons (rp_nm 2) (ra_cons (rp_nm 3) (ra_cons (rp_nm 4) (ra_cons (rp_nm 16) (ra_nil))))))) (.cons (.cons (.cons (.cons (.cons (.cons .nil))))))))))) (rss_cons (rs_set 6 (re_call c_law_tree (Nat.le_of_ble_eq_true rfl) (ra_cons (rp_nm 0) (ra_cons (rp_nm 1) (ra_cons (rp_nm 2) (ra_cons (rp_nm 3) (ra_cons (rp_nm 4) (ra_cons (rp_ex (re_lst (ra_cons (rp_it (re_int)) (ra_cons (rp_it (re_int)) (ra_cons (rp_it (re_int)) (ra_nil)))))) (ra_nil))))))) (.cons (.cons (.cons (.cons (.cons (.cons .nil)))))))) (rss_cons (rs_set 7 (re_bi rLenA (fun X h => cb_len X h) lenD_ok fac.b_len (by decide +kernel) (ra_cons (rp_ex (re_call c_law_nodes (Nat.le_of_ble_eq_true rfl) (ra_cons (rp_nm 15) (ra_nil)) (.cons .nil))) (ra_nil)))) (rss_cons (rs_set 8 (re_var 15)) (rss_cons (rs_for (vs := [9]) (ri_rng1 fac.b_range (rp_ex (re_call c_law_edge (Nat.le_of_ble_eq_true rfl) (ra_cons (rp_nm 0) (ra_cons (rp_ex (re_int)) (ra_cons (rp_ex (re_int)) (ra_nil)))) (.cons (.cons (.cons .nil)))))) (rg_name 9) (rss_cons (rs_set 12 (re_call c_law_take (Nat.le_of_ble_eq_true rfl) (ra_cons (rp_nm 0) (ra_cons (rp_nm 7) (ra_nil))) (.cons (.cons .nil)))) (rss_one (rs_for (vs := [17]) (ri_rng1 fac.b_range (rp_ex (re_bi (fun _ => rMin2A) (fun X h => cb_min2 X h) min2D_ok fac.b_min (by decide +kernel) (ra_cons (rp_ex (re_int)) (ra_cons (rp_nm 7) (ra_nil)))))) (rg_name 17) (rss_one (rs_set 8 (re_call c_law_turned (Nat.le_of_ble_eq_true rfl) (ra_cons (rp_nm 1) (ra_cons (rp_nm 8) (ra_cons (rp_ex (re_op (fun _ => rI (fun _ j => 0 < j) fun i j => .int (i % j)) (fun X => op_modA X) modD_ok (rp_ex (re_ty (fun _ => rIntA) (fun X h => cb_int X h) intD_ok fac.b_int (by decide +kernel) (ra_cons (rp_ex (re_op rAddA (fun X => op_addA X) addD_ok (rp_nm 12) (rp_nm 17))) (ra_nil)))) (rp_nm 7))) (ra_cons (rp_ex (re_call c_law_take (Nat.le_of_ble_eq_true rfl) (ra_cons (rp_nm 0) (ra_cons (rp_ex (re_int)) (ra_nil))) (.cons (.cons .nil)))) (ra_nil))))) (.cons (.cons (.cons (.cons .nil))))))))))) (rss_cons (rs_set 10 (re_ix rIx (fun X => ix_seq) ixD_ok (rp_ex (re_tup (ra_cons (rp_it (re_tup (ra_cons (rp_it (re_str)) (ra_cons (rp_it (re_str)) (ra_nil))))) (ra_cons (rp_it (re_tup (ra_cons (rp_it (re_str)) (ra_cons (rp_it (re_tup (ra_cons (rp_it (re_str)) (ra_cons (rp_it (re_str)) (ra_nil))))) (ra_nil))))) (ra_cons (rp_it (re_var 6)) (ra_nil)))))) (rp_ex (re_if (rt_cmpP rEqP (fun X h => op_eqP X h) eqPD_ok.1 (Nat.le_of_ble_eq_true rfl) (rp_nm 5) (rp_ex (re_int)) (nomark _)) (re_int) (re_call c_law_take (Nat.le_of_ble_eq_true rfl) (ra_cons (rp_nm 0) (ra_cons (rp_ex (re_int)) (ra_nil))) (.cons (.cons .nil))))))) (rss_cons (rs_set 11 (re_call c_law_swap (Nat.le_of_ble_eq_true rfl) (ra_cons (rp_nm 15) (ra_cons (rp_ex (re_call c_law_take (Nat.le_of_ble_eq_true rfl) (ra_cons (rp_nm 0) (ra_cons (rp_nm 7) (ra_nil))) (.cons (.cons .nil)))) (ra_cons (rp_nm 10) (ra_nil)))) (.cons (.cons (.cons .nil))))) (rss_cons (rs_set 12 (re_call c_law_take (Nat.le_of_ble_eq_true rfl) (ra_cons (rp_nm 0) (ra_cons (rp_nm 7) (ra_nil))) (.cons (.cons .nil)))) (rss_cons (rs_set 13 (re_ix rIx (fun X => ix_seq) ixD_ok (rp_ex (re_call c_law_nodes (Nat.le_of_ble_eq_true rfl) (ra_cons (rp_nm 15) (ra_nil)) (.cons .nil))) (rp_nm 12))) (rss_cons (rs_set 14 (re_var 15)) (rss_cons (rs_if (rt_bool (rw_or (rt_cmpP rEqP (fun X h => op_eqP X h) eqPD_ok.1 (Nat.le_of_ble_eq_true rfl) (rp_ex (re_ix rIx (fun X => ix_seq) ixD_ok (rp_nm 13) (rp_ex (re_int)))) (rp_ex (re_str)) (nomark _)) (rw_or1 (rt_cmp (fun _ => rI0 fun i j => .bl (decide (j < i))) (fun X h => op_gtA X h) gtD_ok.1 (rp_nm 5) (rp_ex (re_int)) (nomark _))))) (rss_one (rs_set 14 (re_call c_law_swap (Nat.le_of_ble_eq_true rfl) (ra_cons (rp_nm 15) (ra_cons (rp_nm 12) (ra_cons (rp_ex (re_if (rt_cmpP rEqP (fun X h => op_eqP X h) eqPD_ok.1 (Nat.le_of_ble_eq_true rfl) (rp_ex (re_ix rIx (fun X => ix_seq) ixD_ok (rp_nm 13) (rp_ex (re_int)))) (rp_ex (re_str)) (nomark _)) (re_ix rIx (fun X => ix_seq) ixD_ok (rp_nm 13) (rp_ex (re_int))) (re_tup (ra_cons (rp_it (re_str)) (ra_cons (rp_it (re_var 13)) (ra_nil)))))) (ra_nil)))) (.cons (.cons (.cons .nil)))))) (rss_nil)) (rss_one (rs_ret (re_lst (ra_cons (rp_it (re_var 1)) (ra_cons (rp_it (re_var 15)) (ra_cons (rp_it (re_var 8)) (ra_cons (rp_it (re_var 11)) (ra_cons (rp_it (re_var 14)) (ra_cons (rp_it (re_var 6)) (ra_nil)))))))))))))))))))))))))))
/-! _law_told -/
abbrev N_law_told : List Str := ["table", "ops", "trees", "flat", "j", "k", "tree"]
abbrev P_law_told : List Str := ["table", "ops", "trees"]
theorem sc_law_told : FnScope N_law_told P_law_told (defScope (top 60)) := ⟨rfl, rfl, rfl, by decide +kernel, rfl, by decide +kernel, by decide +kernel⟩
def mb_law_told : MS := s_seq (s_set 3 (m_lc [6] (i_seq (m_var 2)) (g_name 6) (m_yes) (m_call g_law_flat (a_cons (p_nm 1) (a_cons (p_nm 6) (a_nil)))))) (s_seq (s_if (m_not (m_tru (p_ex (m_call g_law_same (a_cons (p_ex (m_lc [6] (i_seq (m_var 2)) (g_name 6) (m_yes) (m_call g_flat_tree (a_cons (p_nm 0) (a_cons (p_nm 6) (a_nil)))))) (a_cons (p_nm 3) (a_nil))))))) (s_ret (m_c (.bl false))) (s_nop)) (s_seq (s_for (i_rng1 (p_ex (m_bi lenD (a_cons (p_nm 2) (a_nil))))) (g_name 4) (s_for (i_rng1 (p_ex (m_bi lenD (a_cons (p_nm 2) (a_nil))))) (g_name 5) (s_if (m_not (m_tru (p_ex (m_call g_law_same (a_cons (p_ex (m_call g_are_alike (a_cons (p_nm 0) (a_cons (p_ex (m_op2 ixD (p_nm 2) (p_nm 4))) (a_cons (p_ex (m_op2 ixD (p_nm 2) (p_nm 5))) (a_nil)))))) (a_cons (p_ex (m_op2 eqPD (p_ex (m_op2 ixD (p_nm 3) (p_nm 4))) (p_ex (m_op2 ixD (p_nm 3) (p_nm 5))))) (a_nil))))))) (s_ret (m_c (.bl false))) (s_nop)))) (s_ret (m_c (.bl true)))))
def g_law_told : List O → Option (O × List O) := fnM 7 3 [0, 1, 2] mb_law_told
theorem ok_law_told {P : Program} {w : World} {K : PySem.W.Frag} {mg : Str → Option Value} {base : Heap} (fac : Fac K mg) {f : Addr} {fd : FuncData} (F : FunD K "_law_told" "_law_told" (defArgs (top 60)) (defBody (top 60)) (defScope (top 60)) [] [] f fd) (c_law_same : Cal P w K mg base 102 "_law_same" 2 g_law_same) (c_are_alike : Cal P w K mg base 106 "are_alike" 3 g_are_alike) (c_flat_tree : Cal P w K mg base 105 "flat_tree" 2 g_flat_tree) (c_law_flat : Cal P w K mg base 103 "_law_flat" 2 g_law_flat) :
    FnOk P w K mg base CX0 107 f fd P_law_told (spM K 3 g_law_told) :=
  fn_ok (k := 106) (N := N_law_told) (ps := P_law_told) (m := mb_law_told) [0, 1, 2] F sc_law_told (rss_cons (rs_setLc 3 (own := [(("tree" : Str), 6)]) (ri_seq (re_var 2)) (rg_name 6) (rts_nil) (re_call c_law_flat (Nat.le_of_ble_eq_true rfl) (ra_cons (rp_nm 1) (ra_cons (rp_nm 6) (ra_nil))) (.cons (.cons .nil)))) (rss_cons (rs_if (rt_not (rt_tru (rp_ex (re_call c_law_same (Nat.le_of_ble_eq_true rfl) (ra_cons (rp_ex (re_lc (own := [(("tree" : Str), 6)]) (ri_seq (re_var 2)) (rg_name 6) (rts_nil) (re_call c_flat_tree (Nat.le_of_ble_eq_true rfl) (ra_cons (rp_nm 0) (ra_cons (rp_nm 6) (ra_nil))) (.cons (.cons .nil))))) (ra_cons (rp_nm 3) (ra_nil))) (.cons (.cons .nil)))))) (rss_one (rs_ret (re_bl))) (rss_nil)) (rss_cons (rs_for (vs := [4]) (ri_rng1 fac.b_range (rp_ex (re_bi rLenA (fun X h => cb_len X h) lenD_ok fac.b_len (by decide +kernel) (ra_cons (rp_nm 2) (ra_nil))))) (rg_name 4) (rss_one (rs_for (vs := [5]) (ri_rng1 fac.b_range (rp_ex (re_bi rLenA (fun X h => cb_len X h) lenD_ok fac.b_len (by decide +kernel) (ra_cons (rp_nm 2) (ra_nil))))) (rg_name 5) (rss_one (rs_if (rt_not (rt_tru (rp_ex (re_call c_law_same (Nat.le_of_ble_eq_true rfl) (ra_cons (rp_ex (re_call c_are_alike (Nat.le_of_ble_eq_true rfl) (ra_cons (rp_nm 0) (ra_cons (rp_ex (re_ix rIx (fun X => ix_seq) ixD_ok (rp_nm 2) (rp_nm 4))) (ra_cons (rp_ex (re_ix rIx (fun X => ix_seq) ixD_ok (rp_nm 2) (rp_nm 5))) (ra_nil)))) (.cons (.cons (.cons .nil))))) (ra_cons (rp_ex (re_cmpP rEqP (fun X h => op_eqP X h) eqPD_ok.1 (Nat.le_of_ble_eq_true rfl) (rp_ex (re_ix rIx (fun X => ix_seq) ixD_ok (rp_nm 3) (rp_nm 4))) (rp_ex (re_ix rIx (fun X => ix_seq) ixD_ok (rp_nm 3) (rp_nm 5))) (nomark _))) (ra_nil))) (.cons (.cons .nil)))))) (rss_one (rs_ret (re_bl))) (rss_nil)))))) (rss_one (rs_ret (re_bl))))))
/-! law -/
abbrev N_law : List Str := ["script", "store", "twins", "case", "ops", "trees", "other", "table", "op"]
abbrev P_law : List Str := ["script"]
theorem sc_law : FnScope N_law P_law (defScope (top 61)) := ⟨rfl, rfl, rfl, by decide +kernel, rfl, by decide +kernel, by decide +kernel⟩
def mb_law : MS := s_seq (s_set 1 (m_call g_law_store (a_cons (p_nm 0) (a_nil)))) (s_seq (s_set 2 (m_sl slD (p_ex (m_call g_law_case (a_cons (p_ex (m_bi listD (a_cons (p_nm 1) (a_nil)))) (a_nil)))) (o_some (p_ex (m_c (.int 1)))) (o_none))) (s_seq (s_set 3 (m_call g_law_case (a_cons (p_nm 1) (a_nil)))) (s_seq (s_set 4 (m_op2 ixD (p_nm 3) (p_ex (m_c (.int 0))))) (s_seq (s_set 5 (m_sl slD (p_nm 3) (o_some (p_ex (m_c (.int 1)))) (o_none))) (s_seq (s_set 6 (m_lc [8] (i_seq (m_var 4)) (g_name 8) (m_yes) (m_op2 addD (p_ex (m_sl slD (p_nm 8) (o_none) (o_some (p_ex (m_c (.int 5)))))) (p_ex (m_tup (a_cons (m_it (m_andV (m_op2 eqPD (p_ex (m_op2 ixD (p_nm 8) (p_ex (m_c (.int 1))))) (p_ex (m_c (.str (Str.ofString "infix"))))) (m_notV (m_op2 ixD (p_nm 8) (p_ex (m_c (.int 5))))))) (a_nil))))))) (s_seq (s_set 7 (m_make "Table" g_Table___init__ (a_cons (p_nm 4) (a_nil)))) (s_seq (s_if (m_or (m_not (m_tru (p_ex (m_call g_law_told (a_cons (p_nm 7) (a_cons (p_nm 4) (a_cons (p_nm 5) (a_nil)))))))) (m_not (m_tru (p_ex (m_call g_law_told (a_cons (p_ex (m_make "Table" g_Table___init__ (a_cons (p_nm 6) (a_nil)))) (a_cons (p_nm 6) (a_cons (p_ex (m_sl slD (p_nm 5) (o_none) (o_some (p_ex (m_c (.int 3)))))) (a_nil))))))))) (s_ret (m_c (.bl false))) (s_nop)) (s_seq (s_if (m_not (m_tru (p_ex (m_call g_law_same (a_cons (p_ex (m_lst (a_cons (m_it (m_call g_are_alike (a_cons (p_nm 7) (a_cons (p_ex (m_op2 ixD (p_nm 5) (p_ex (m_c (.int 0))))) (a_cons (p_ex (m_op2 ixD (p_nm 5) (p_ex (m_c (.int 1))))) (a_nil)))))) (a_cons (m_it (m_call g_are_alike (a_cons (p_nm 7) (a_cons (p_ex (m_op2 ixD (p_nm 5) (p_ex (m_c (.int 1))))) (a_cons (p_ex (m_op2 ixD (p_nm 5) (p_ex (m_c (.int 0))))) (a_nil)))))) (a_nil))))) (a_cons (p_ex (m_lst (a_cons (m_it (m_c (.bl true))) (a_cons (m_it (m_c (.bl true))) (a_nil))))) (a_nil))))))) (s_ret (m_c (.bl false))) (s_nop)) (s_ret (m_andV (m_call g_law_told (a_cons (p_nm 7) (a_cons (p_nm 4) (a_cons (p_nm 5) (a_nil))))) (m_call g_law_same (a_cons (p_nm 5) (a_cons (p_nm 2) (a_nil))))))))))))))
def g_law : List O → Option (O × List O) := fnM 9 1 [0] mb_law
theorem ok_law {P : Program} {w : World} {K : PySem.W.Frag} {mg : Str → Option Value} {base : Heap} (fac : Fac K mg) {f : Addr} {fd : FuncData} (F : FunD K "law" "law" (defArgs (top 61)) (defBody (top 61)) (defScope (top 61)) [] [] f fd) (c_law_told : Cal P w K mg base 107 "_law_told" 3 g_law_told) (c_law_same : Cal P w K mg base 102 "_law_same" 2 g_law_same) (c_are_alike : Cal P w K mg base 106 "are_alike" 3 g_are_alike) (c_law_case : Cal P w K mg base 107 "_law_case" 1 g_law_case) (c_law_store : Cal P w K mg base 101 "_law_store" 1 g_law_store) (k_Table___init__ : Mkc P w K mg base 107 "Table" 1 g_Table___init__) :
    FnOk P w K mg base CX0 109 f fd P_law (spM K 1 g_law) :=
  fn_ok (k := 108) (N := N_law) (ps := P_law) (m := mb_law) [0] F sc_law (rss_cons (rs_set 1 (re_call c_law_store (Nat.le_of_ble_eq_true rfl) (ra_cons (rp_nm 0) (ra_nil)) (.cons .nil))) (rss_cons (rs_set 2 (re_sl rSlA (fun X => sl_any X) slD_ok (rp_ex (re_call c_law_case (Nat.le_of_ble_eq_true rfl) (ra_cons (rp_ex (re_ty rListA (fun X h => cb_list X h) listD_ok fac.b_list (by decide +kernel) (ra_cons (rp_nm 1) (ra_nil)))) (ra_nil)) (.cons .nil))) (ro_some (rp_ex (re_int))) (ro_none))) (rss_cons (rs_set 3 (re_call c_law_case (Nat.le_of_ble_eq_true rfl) (ra_cons (rp_nm 1) (ra_nil)) (.cons .nil))) (rss_cons (rs_set 4 (re_ix rIx (fun X => ix_seq) ixD_ok (rp_nm 3) (rp_ex (re_int)))) (rss_cons (rs_set 5 (re_sl rSlA (fun X => sl_any X) slD_ok (rp_nm 3) (ro_some (rp_ex (re_int))) (ro_none))) (rss_cons (rs_setLc 6 (own := [(("op" : Str), 8)]) (ri_seq (re_var 4)) (rg_name 8) (rts_nil) (re_op rAddA (fun X => op_addA X) addD_ok (rp_ex (re_sl rSlA (fun X => sl_any X) slD_ok (rp_nm 8) (ro_none) (ro_some (rp_ex (re_int))))) (rp_ex (re_tup (ra_cons (rp_it (re_and (re_cmpP rEqP (fun X h => op_eqP X h) eqPD_ok.1 (Nat.le_of_ble_eq_true rfl) (rp_ex (re_ix rIx (fun X => ix_seq) ixD_ok (rp_nm 8) (rp_ex (re_int)))) (rp_ex (re_str)) (nomark _)) (re_one (re_not (re_ix rIx (fun X => ix_seq) ixD_ok (rp_nm 8) (rp_ex (re_int))))))) (ra_nil)))))) (rss_cons (rs_set 7 (re_make k_Table___init__ (Nat.le_of_ble_eq_true rfl) (ra_cons (rp_nm 4) (ra_nil)) (.cons .nil))) (rss_cons (rs_if (rt_bool (rw_or (rt_not (rt_tru (rp_ex (re_call c_law_told (Nat.le_of_ble_eq_true rfl) (ra_cons (rp_nm 7) (ra_cons (rp_nm 4) (ra_cons (rp_nm 5) (ra_nil)))) (.cons (.cons (.cons .nil))))))) (rw_or1 (rt_not (rt_tru (rp_ex (re_call c_law_told (Nat.le_of_ble_eq_true rfl) (ra_cons (rp_ex (re_make k_Table___init__ (Nat.le_of_ble_eq_true rfl) (ra_cons (rp_nm 6) (ra_nil)) (.cons .nil))) (ra_cons (rp_nm 6) (ra_cons (rp_ex (re_sl rSlA (fun X => sl_any X) slD_ok (rp_nm 5) (ro_none) (ro_some (rp_ex (re_int))))) (ra_nil)))) (.cons (.cons (.cons .nil)))))))))) (rss_one (rs_ret (re_bl))) (rss_nil)) (rss_cons (rs_if (rt_not (rt_tru (rp_ex (re_call c_law_same (Nat.le_of_ble_eq_true rfl) (ra_cons (rp_ex (re_lst (ra_cons (rp_it (re_call c_are_alike (Nat.le_of_ble_eq_true rfl) (ra_cons (rp_nm 7) (ra_cons (rp_ex (re_ix rIx (fun X => ix_seq) ixD_ok (rp_nm 5) (rp_ex (re_int)))) (ra_cons (rp_ex (re_ix rIx (fun X => ix_seq) ixD_ok (rp_nm 5) (rp_ex (re_int)))) (ra_nil)))) (.cons (.cons (.cons .nil))))) (ra_cons (rp_it (re_call c_are_alike (Nat.le_of_ble_eq_true rfl) (ra_cons (rp_nm 7) (ra_cons (rp_ex (re_ix rIx (fun X => ix_seq) ixD_ok (rp_nm 5) (rp_ex (re_int)))) (ra_cons (rp_ex (re_ix rIx (fun X => ix_seq) ixD_ok (rp_nm 5) (rp_ex (re_int)))) (ra_nil)))) (.cons (.cons (.cons .nil))))) (ra_nil))))) (ra_cons (rp_ex (re_lst (ra_cons (rp_it (re_bl)) (ra_cons (rp_it (re_bl)) (ra_nil))))) (ra_nil))) (.cons (.cons .nil)))))) (rss_one (rs_ret (re_bl))) (rss_nil)) (rss_one (rs_ret (re_and (re_call c_law_told (Nat.le_of_ble_eq_true rfl) (ra_cons (rp_nm 7) (ra_cons (rp_nm 4) (ra_cons (rp_nm 5) (ra_nil)))) (.cons (.cons (.cons .nil)))) (re_one (re_call c_law_same (Nat.le_of_ble_eq_true rfl) (ra_cons (rp_nm 5) (ra_cons (rp_nm 2) (ra_nil))) (.cons (.cons .nil))))))))))))))))
end
end K8

end
section
set_option Elab.async false
set_option linter.all false
set_option maxRecDepth 100000
set_option maxHeartbeats 4000000
namespace K8
open PySem PySem.Spec PyProof.Rows L2 Mr
noncomputable section
/-! the head -/
def nms0 : List Str := [Str.ofString "_wall", Str.ofString "CEILING", Str.ofString "TextorError", Str.ofString "BadOperator", Str.ofString "Clash", Str.ofString "EqualStrengths", Str.ofString "TooMany", Str.ofString "parts_of", Str.ofString "MARKS", Str.ofString "SMALL_LETTERS", Str.ofString "WORD_SIGNS", Str.ofString "ROLES", Str.ofString "MOST_OPERATORS", Str.ofString "MOST_STRENGTH", Str.ofString "made_of", Str.ofString "is_atom_word", Str.ofString "is_macro_name", Str.ofString "is_operator_name", Str.ofString "fits_strength", Str.ofString "is_operator"]
def nms1 : List Str := [Str.ofString "has_clash", Str.ofString "refuse_equal_strengths", Str.ofString "refuse_bad_entries", Str.ofString "Table", Str.ofString "is_node_of", Str.ofString "group_members", Str.ofString "flat_nodes", Str.ofString "flat_node", Str.ofString "flat_heads", Str.ofString "flat_tree", Str.ofString "are_alike", Str.ofString "_law_mixed", Str.ofString "_law_store", Str.ofString "_law_take", Str.ofString "_law_edge", Str.ofString "_law_pick", Str.ofString "_law_shuffle", Str.ofString "_law_sort", Str.ofString "_law_same", Str.ofString "_law_find"]
def nms2 : List Str := [Str.ofString "_law_roles", Str.ofString "_law_parts", Str.ofString "_law_with", Str.ofString "_law_nodes", Str.ofString "_law_kids", Str.ofString "_law_swap", Str.ofString "_law_leaf", Str.ofString "_law_wrap", Str.ofString "_law_step", Str.ofString "_law_tree", Str.ofString "_law_long", Str.ofString "_law_flat", Str.ofString "_law_lightops", Str.ofString "_law_turned", Str.ofString "_law_case", Str.ofString "_law_told"]
def names : List Str := nms0 ++ nms1 ++ nms2
def fns : List He5.DefA := [⟨gloA (Str.ofString "parts_of"), Str.ofString "parts_of", Str.ofString "parts_of", defArgs (top 9), defBody (top 9), defScope (top 9), [], []⟩,
  ⟨gloA (Str.ofString "made_of"), Str.ofString "made_of", Str.ofString "made_of", defArgs (top 17), defBody (top 17), defScope (top 17), [], []⟩,
  ⟨gloA (Str.ofString "fits_strength"), Str.ofString "fits_strength", Str.ofString "fits_strength", defArgs (top 21), defBody (top 21), defScope (top 21), [], []⟩,
  ⟨gloA (Str.ofString "has_clash"), Str.ofString "has_clash", Str.ofString "has_clash", defArgs (top 23), defBody (top 23), defScope (top 23), [], []⟩,
  ⟨gloA (Str.ofString "refuse_equal_strengths"), Str.ofString "refuse_equal_strengths", Str.ofString "refuse_equal_strengths", defArgs (top 24), defBody (top 24), defScope (top 24), [], []⟩,
  ⟨getA (Str.ofString "Table") (Str.ofString "ops"), Str.ofString "ops", Str.ofString "Table.ops", defArgs (sub 26 1), defBody (sub 26 1), defScope (sub 26 1), [], []⟩,
  ⟨gloA (Str.ofString "is_node_of"), Str.ofString "is_node_of", Str.ofString "is_node_of", defArgs (top 28), defBody (top 28), defScope (top 28), [], []⟩,
  ⟨gloA (Str.ofString "flat_node"), Str.ofString "flat_node", Str.ofString "flat_node", defArgs (top 31), defBody (top 31), defScope (top 31), [], []⟩,
  ⟨gloA (Str.ofString "_law_mixed"), Str.ofString "_law_mixed", Str.ofString "_law_mixed", defArgs (top 36), defBody (top 36), defScope (top 36), [], []⟩,
  ⟨gloA (Str.ofString "_law_store"), Str.ofString "_law_store", Str.ofString "_law_store", defArgs (top 37), defBody (top 37), defScope (top 37), [], []⟩,
  ⟨gloA (Str.ofString "_law_sort"), Str.ofString "_law_sort", Str.ofString "_law_sort", defArgs (top 42), defBody (top 42), defScope (top 42), [], []⟩,
  ⟨gloA (Str.ofString "_law_find"), Str.ofString "_law_find", Str.ofString "_law_find", defArgs (top 44), defBody (top 44), defScope (top 44), [], []⟩,
  ⟨gloA (Str.ofString "_law_roles"), Str.ofString "_law_roles", Str.ofString "_law_roles", defArgs (top 45), defBody (top 45), defScope (top 45), [], []⟩,
  ⟨gloA (Str.ofString "_law_parts"), Str.ofString "_law_parts", Str.ofString "_law_parts", defArgs (top 46), defBody (top 46), defScope (top 46), [], []⟩,
  ⟨gloA (Str.ofString "_law_with"), Str.ofString "_law_with", Str.ofString "_law_with", defArgs (top 47), defBody (top 47), defScope (top 47), [], []⟩,
  ⟨gloA (Str.ofString "_law_wrap"), Str.ofString "_law_wrap", Str.ofString "_law_wrap", defArgs (top 52), defBody (top 52), defScope (top 52), [], []⟩,
  ⟨gloA (Str.ofString "is_atom_word"), Str.ofString "is_atom_word", Str.ofString "is_atom_word", defArgs (top 18), defBody (top 18), defScope (top 18), [], []⟩,
  ⟨gloA (Str.ofString "_law_take"), Str.ofString "_law_take", Str.ofString "_law_take", defArgs (top 38), defBody (top 38), defScope (top 38), [], []⟩,
  ⟨gloA (Str.ofString "_law_same"), Str.ofString "_law_same", Str.ofString "_law_same", defArgs (top 43), defBody (top 43), defScope (top 43), [], []⟩,
  ⟨gloA (Str.ofString "_law_nodes"), Str.ofString "_law_nodes", Str.ofString "_law_nodes", defArgs (top 48), defBody (top 48), defScope (top 48), [], []⟩,
  ⟨gloA (Str.ofString "_law_kids"), Str.ofString "_law_kids", Str.ofString "_law_kids", defArgs (top 49), defBody (top 49), defScope (top 49), [], []⟩,
  ⟨gloA (Str.ofString "is_macro_name"), Str.ofString "is_macro_name", Str.ofString "is_macro_name", defArgs (top 19), defBody (top 19), defScope (top 19), [], []⟩,
  ⟨gloA (Str.ofString "group_members"), Str.ofString "group_members", Str.ofString "group_members", defArgs (top 29), defBody (top 29), defScope (top 29), [], []⟩,
  ⟨gloA (Str.ofString "_law_edge"), Str.ofString "_law_edge", Str.ofString "_law_edge", defArgs (top 39), defBody (top 39), defScope (top 39), [], []⟩,
  ⟨gloA (Str.ofString "_law_pick"), Str.ofString "_law_pick", Str.ofString "_law_pick", defArgs (top 40), defBody (top 40), defScope (top 40), [], []⟩,
  ⟨gloA (Str.ofString "_law_shuffle"), Str.ofString "_law_shuffle", Str.ofString "_law_shuffle", defArgs (top 41), defBody (top 41), defScope (top 41), [], []⟩,
  ⟨gloA (Str.ofString "_law_swap"), Str.ofString "_law_swap", Str.ofString "_law_swap", defArgs (top 50), defBody (top 50), defScope (top 50), [], []⟩,
  ⟨gloA (Str.ofString "_law_flat"), Str.ofString "_law_flat", Str.ofString "_law_flat", defArgs (top 56), defBody (top 56), defScope (top 56), [], []⟩,
  ⟨gloA (Str.ofString "is_operator_name"), Str.ofString "is_operator_name", Str.ofString "is_operator_name", defArgs (top 20), defBody (top 20), defScope (top 20), [], []⟩,
  ⟨gloA (Str.ofString "flat_nodes"), Str.ofString "flat_nodes", Str.ofString "flat_nodes", defArgs (top 30), defBody (top 30), defScope (top 30), [], []⟩,
  ⟨gloA (Str.ofString "_law_leaf"), Str.ofString "_law_leaf", Str.ofString "_law_leaf", defArgs (top 51), defBody (top 51), defScope (top 51), [], []⟩,
  ⟨gloA (Str.ofString "_law_long"), Str.ofString "_law_long", Str.ofString "_law_long", defArgs (top 55), defBody (top 55), defScope (top 55), [], []⟩,
  ⟨gloA (Str.ofString "_law_lightops"), Str.ofString "_law_lightops", Str.ofString "_law_lightops", defArgs (top 57), defBody (top 57), defScope (top 57), [], []⟩,
  ⟨gloA (Str.ofString "_law_turned"), Str.ofString "_law_turned", Str.ofString "_law_turned", defArgs (top 58), defBody (top 58), defScope (top 58), [], []⟩,
  ⟨gloA (Str.ofString "is_operator"), Str.ofString "is_operator", Str.ofString "is_operator", defArgs (top 22), defBody (top 22), defScope (top 22), [], []⟩,
  ⟨gloA (Str.ofString "flat_heads"), Str.ofString "flat_heads", Str.ofString "flat_heads", defArgs (top 32), defBody (top 32), defScope (top 32), [], []⟩,
  ⟨gloA (Str.ofString "flat_tree"), Str.ofString "flat_tree", Str.ofString "flat_tree", defArgs (top 33), defBody (top 33), defScope (top 33), [], []⟩,
  ⟨gloA (Str.ofString "_law_step"), Str.ofString "_law_step", Str.ofString "_law_step", defArgs (top 53), defBody (top 53), defScope (top 53), [], []⟩,
  ⟨gloA (Str.ofString "refuse_bad_entries"), Str.ofString "refuse_bad_entries", Str.ofString "refuse_bad_entries", defArgs (top 25), defBody (top 25), defScope (top 25), [], []⟩,
  ⟨gloA (Str.ofString "are_alike"), Str.ofString "are_alike", Str.ofString "are_alike", defArgs (top 34), defBody (top 34), defScope (top 34), [], []⟩,
  ⟨gloA (Str.ofString "_law_tree"), Str.ofString "_law_tree", Str.ofString "_law_tree", defArgs (top 54), defBody (top 54), defScope (top 54), [], []⟩,
  ⟨methA (Str.ofString "Table") (Str.ofString "__init__"), Str.ofString "__init__", Str.ofString "Table.__init__", defArgs (sub 26 0), defBody (sub 26 0), defScope (sub 26 0), [], []⟩,
  ⟨gloA (Str.ofString "_law_case"), Str.ofString "_law_case", Str.ofString "_law_case", defArgs (top 59), defBody (top 59), defScope (top 59), [], []⟩,
  ⟨gloA (Str.ofString "_law_told"), Str.ofString "_law_told", Str.ofString "_law_told", defArgs (top 60), defBody (top 60), defScope (top 60), [], []⟩,
  ⟨gloA (Str.ofString "law"), Str.ofString "law", Str.ofString "law", defArgs (top 61), defBody (top 61), defScope (top 61), [], []⟩]
def fas : List He.Fa := [.glo (Str.ofString "parts_of"), .glo (Str.ofString "made_of"), .glo (Str.ofString "fits_strength"), .glo (Str.ofString "has_clash"), .glo (Str.ofString "refuse_equal_strengths"), .glo (Str.ofString "is_node_of"), .glo (Str.ofString "flat_node"), .glo (Str.ofString "_law_mixed"), .glo (Str.ofString "_law_store"), .glo (Str.ofString "_law_sort"), .glo (Str.ofString "_law_find"), .glo (Str.ofString "_law_roles"), .glo (Str.ofString "_law_parts"), .glo (Str.ofString "_law_with"), .glo (Str.ofString "_law_wrap"), .glo (Str.ofString "is_atom_word"), .glo (Str.ofString "_law_take"), .glo (Str.ofString "_law_same"), .glo (Str.ofString "_law_nodes"), .glo (Str.ofString "_law_kids"), .glo (Str.ofString "is_macro_name"), .glo (Str.ofString "group_members"), .glo (Str.ofString "_law_edge"), .glo (Str.ofString "_law_pick"), .glo (Str.ofString "_law_shuffle"), .glo (Str.ofString "_law_swap"), .glo (Str.ofString "_law_flat"), .glo (Str.ofString "is_operator_name"), .glo (Str.ofString "flat_nodes"), .glo (Str.ofString "_law_leaf"), .glo (Str.ofString "_law_long"), .glo (Str.ofString "_law_lightops"), .glo (Str.ofString "_law_turned"), .glo (Str.ofString "is_operator"), .glo (Str.ofString "flat_heads"), .glo (Str.ofString "flat_tree"), .glo (Str.ofString "_law_step"), .glo (Str.ofString "refuse_bad_entries"), .glo (Str.ofString "are_alike"), .glo (Str.ofString "_law_tree"), .glo (Str.ofString "_law_case"), .glo (Str.ofString "_law_told"), .glo (Str.ofString "law"), .free (Str.ofString "all"), .free (Str.ofString "bool"), .free (Str.ofString "dict"), .free (Str.ofString "enumerate"), .free (Str.ofString "int"), .free (Str.ofString "isinstance"), .free (Str.ofString "len"), .free (Str.ofString "list"), .free (Str.ofString "max"), .free (Str.ofString "min"), .free (Str.ofString "range"), .free (Str.ofString "reversed"), .free (Str.ofString "str"), .free (Str.ofString "tuple"), .str (Str.ofString "MARKS") (Str.ofString "+-*/<>=!?&|^~:.@$"), .str (Str.ofString "SMALL_LETTERS") (Str.ofString "abcdefghijklmnopqrstuvwxyz"), .str (Str.ofString "WORD_SIGNS") (Str.ofString "abcdefghijklmnopqrstuvwxyz0123456789"), .int (Str.ofString "MOST_OPERATORS") 10, .int (Str.ofString "MOST_STRENGTH") 1000000, .cls (Str.ofString "Table"), .noat (Str.ofString "Table") (Str.ofString "fore_numbers"), .noat (Str.ofString "Table") (Str.ofString "kept_ops"), .noat (Str.ofString "Table") (Str.ofString "rear_numbers"), .mkr (Str.ofString "Table"), .glo (Str.ofString "Table")]
def fxs : List Fx := [.tup (Str.ofString "ROLES") [.str (Str.ofString "infix"), .str (Str.ofString "prefix"), .str (Str.ofString "postfix")], .prop (Str.ofString "Table") (Str.ofString "ops")]
abbrev RR : PySem.W.OpenRow := PySem.W.OpenLaw.row PySem.Challenge.rw_textortree_k08_flat_trees
abbrev hk : PySem.W.Hook := hookM 6 fas fxs fns
def ob (s : PySem.W.SharedT) : He.AlD := obsMG 6 fas fxs fns (HandSHeadRun.getT s)
theorem ob_eq (s : PySem.W.SharedT) : ob s = hk.obs s.abs := obsMG_eq (HandSHeadRun.getT_eq s)
theorem run (w : World) : HandSHeadRun.RunEq RR (PySem.W.view RR.prog [61]) hk ob 6000 names w := by
  intro os
  kernel_rfl
theorem fac_ok {K : PySem.W.Frag} {h : Heap} {mg : Str → Option Value} (X : K.In h) (G : h.Ns mainGlobals mg) (c : SaysM fas fxs fns K) : Fac K mg where
  b_all := He.free_ok X G (c.fact 43)
  b_bool := He.free_ok X G (c.fact 44)
  b_dict := He.free_ok X G (c.fact 45)
  b_enumerate := He.free_ok X G (c.fact 46)
  b_int := He.free_ok X G (c.fact 47)
  b_isinstance := He.free_ok X G (c.fact 48)
  b_len := He.free_ok X G (c.fact 49)
  b_list := He.free_ok X G (c.fact 50)
  b_max := He.free_ok X G (c.fact 51)
  b_min := He.free_ok X G (c.fact 52)
  b_range := He.free_ok X G (c.fact 53)
  b_reversed := He.free_ok X G (c.fact 54)
  b_str := He.free_ok X G (c.fact 55)
  b_tuple := He.free_ok X G (c.fact 56)
  s_MARKS := He.str_ok X G (c.fact 57)
  s_SMALL_LETTERS := He.str_ok X G (c.fact 58)
  s_WORD_SIGNS := He.str_ok X G (c.fact 59)
  t_ROLES := ⟨_, tup_ok X G (c.more 0)⟩
  i_MOST_OPERATORS := He.int_ok X G (c.fact 60)
  i_MOST_STRENGTH := He.int_ok X G (c.fact 61)
  c_Table := He.cls_ok (c.fact 62)
  n_Table_fore_numbers := He.noat_ok (c.fact 63)
  n_Table_kept_ops := He.noat_ok (c.fact 64)
  n_Table_rear_numbers := He.noat_ok (c.fact 65)
theorem facts {P : Program} {w : World} {K : PySem.W.Frag} {h : Heap} {mg : Str → Option Value} {f : Addr} (X : K.In h) (G : h.Ns mainGlobals mg) (hfa : mg (Str.ofString "law") = some (.ref f)) (c : SaysM fas fxs fns K) :
    ∃ fd : FuncData, (∀ (s : Shared) (v : Value), BindsTo s fd ⟨[v], []⟩ [("script", v)]) ∧ ∀ base : Heap, K.In base → base.Ns mainGlobals mg → FnOk P w K mg base CX0 109 f fd P_law (spM K 1 g_law) := by
  have fac : Fac K mg := fac_ok X G c
  obtain ⟨fd0, F0⟩ := c.def_ 0
  obtain ⟨fd1, F1⟩ := c.def_ 1
  obtain ⟨fd2, F2⟩ := c.def_ 2
  obtain ⟨fd3, F3⟩ := c.def_ 3
  obtain ⟨fd4, F4⟩ := c.def_ 4
  obtain ⟨fd5, F5⟩ := c.def_ 5
  obtain ⟨fd6, F6⟩ := c.def_ 6
  obtain ⟨fd7, F7⟩ := c.def_ 7
  obtain ⟨fd8, F8⟩ := c.def_ 8
  obtain ⟨fd9, F9⟩ := c.def_ 9
  obtain ⟨fd10, F10⟩ := c.def_ 10
  obtain ⟨fd11, F11⟩ := c.def_ 11
  obtain ⟨fd12, F12⟩ := c.def_ 12
  obtain ⟨fd13, F13⟩ := c.def_ 13
  obtain ⟨fd14, F14⟩ := c.def_ 14
  obtain ⟨fd15, F15⟩ := c.def_ 15
  obtain ⟨fd16, F16⟩ := c.def_ 16
  obtain ⟨fd17, F17⟩ := c.def_ 17
  obtain ⟨fd18, F18⟩ := c.def_ 18
  obtain ⟨fd19, F19⟩ := c.def_ 19
  obtain ⟨fd20, F20⟩ := c.def_ 20
  obtain ⟨fd21, F21⟩ := c.def_ 21
  obtain ⟨fd22, F22⟩ := c.def_ 22
  obtain ⟨fd23, F23⟩ := c.def_ 23
  obtain ⟨fd24, F24⟩ := c.def_ 24
  obtain ⟨fd25, F25⟩ := c.def_ 25
  obtain ⟨fd26, F26⟩ := c.def_ 26
  obtain ⟨fd27, F27⟩ := c.def_ 27
  obtain ⟨fd28, F28⟩ := c.def_ 28
  obtain ⟨fd29, F29⟩ := c.def_ 29
  obtain ⟨fd30, F30⟩ := c.def_ 30
  obtain ⟨fd31, F31⟩ := c.def_ 31
  obtain ⟨fd32, F32⟩ := c.def_ 32
  obtain ⟨fd33, F33⟩ := c.def_ 33
  obtain ⟨fd34, F34⟩ := c.def_ 34
  obtain ⟨fd35, F35⟩ := c.def_ 35
  obtain ⟨fd36, F36⟩ := c.def_ 36
  obtain ⟨fd37, F37⟩ := c.def_ 37
  obtain ⟨fd38, F38⟩ := c.def_ 38
  obtain ⟨fd39, F39⟩ := c.def_ 39
  obtain ⟨fd40, F40⟩ := c.def_ 40
  obtain ⟨fd41, F41⟩ := c.def_ 41
  obtain ⟨fd42, F42⟩ := c.def_ 42
  obtain ⟨fd43, F43⟩ := c.def_ 43
  obtain ⟨fd44, F44⟩ := c.def_ 44
  have e := hfa.symm.trans (He.glo_ok X G (c.fact 42))
  cases e
  have b := FunD.bindsA (ps := P_law) F44 fun _ _ _ _ _ _ us hl => match us, hl with | [_], _ => rfl
  refine ⟨fd44, fun s v => b s [v] rfl, fun base _ _ => ?_⟩
  have c_parts_of : Cal P w K mg base 101 "parts_of" 1 g_parts_of := Cal.mk' (ps := P_parts_of) rfl (ok_parts_of fac F0 ) (He.glo_ok X G (c.fact 0)) F0.kp (FunD.bindsN (ps := P_parts_of) F0 fun _ _ _ _ _ _ us hl => match us, hl with | [_], _ => rfl)
  have c_made_of : Cal P w K mg base 101 "made_of" 3 g_made_of := Cal.mk' (ps := P_made_of) rfl (ok_made_of fac F1 ) (He.glo_ok X G (c.fact 1)) F1.kp (FunD.bindsN (ps := P_made_of) F1 fun _ _ _ _ _ _ us hl => match us, hl with | [_, _, _], _ => rfl)
  have c_fits_strength : Cal P w K mg base 101 "fits_strength" 2 g_fits_strength := Cal.mk' (ps := P_fits_strength) rfl (ok_fits_strength fac F2 ) (He.glo_ok X G (c.fact 2)) F2.kp (FunD.bindsN (ps := P_fits_strength) F2 fun _ _ _ _ _ _ us hl => match us, hl with | [_, _], _ => rfl)
  have c_has_clash : Cal P w K mg base 101 "has_clash" 2 g_has_clash := Cal.mk' (ps := P_has_clash) rfl (ok_has_clash fac F3 ) (He.glo_ok X G (c.fact 3)) F3.kp (FunD.bindsN (ps := P_has_clash) F3 fun _ _ _ _ _ _ us hl => match us, hl with | [_, _], _ => rfl)
  have c_refuse_equal_strengths : Cal P w K mg base 101 "refuse_equal_strengths" 1 g_refuse_equal_strengths := Cal.mk' (ps := P_refuse_equal_strengths) rfl (ok_refuse_equal_strengths fac F4 ) (He.glo_ok X G (c.fact 4)) F4.kp (FunD.bindsN (ps := P_refuse_equal_strengths) F4 fun _ _ _ _ _ _ us hl => match us, hl with | [_], _ => rfl)
  have q_Table_ops : Prq P w K mg base 101 "Table" "ops" g_Table_ops := Prq.mk' (ps := P_Table_ops) rfl (ok_Table_ops fac F5 ) (prop_ok (c.more 1)) (FunD.bindsN (ps := P_Table_ops) F5 fun _ _ _ _ _ _ us hl => match us, hl with | [_], _ => rfl) fac.c_Table
  have c_is_node_of : Cal P w K mg base 101 "is_node_of" 2 g_is_node_of := Cal.mk' (ps := P_is_node_of) rfl (ok_is_node_of fac F6 ) (He.glo_ok X G (c.fact 5)) F6.kp (FunD.bindsN (ps := P_is_node_of) F6 fun _ _ _ _ _ _ us hl => match us, hl with | [_, _], _ => rfl)
  have c_flat_node : Cal P w K mg base 101 "flat_node" 2 g_flat_node := Cal.mk' (ps := P_flat_node) rfl (ok_flat_node fac F7 ) (He.glo_ok X G (c.fact 6)) F7.kp (FunD.bindsN (ps := P_flat_node) F7 fun _ _ _ _ _ _ us hl => match us, hl with | [_, _], _ => rfl)
  have c_law_mixed : Cal P w K mg base 101 "_law_mixed" 2 g_law_mixed := Cal.mk' (ps := P_law_mixed) rfl (ok_law_mixed fac F8 ) (He.glo_ok X G (c.fact 7)) F8.kp (FunD.bindsN (ps := P_law_mixed) F8 fun _ _ _ _ _ _ us hl => match us, hl with | [_, _], _ => rfl)
  have c_law_store : Cal P w K mg base 101 "_law_store" 1 g_law_store := Cal.mk' (ps := P_law_store) rfl (ok_law_store fac F9 ) (He.glo_ok X G (c.fact 8)) F9.kp (FunD.bindsN (ps := P_law_store) F9 fun _ _ _ _ _ _ us hl => match us, hl with | [_], _ => rfl)
  have c_law_sort : Cal P w K mg base 101 "_law_sort" 1 g_law_sort := Cal.mk' (ps := P_law_sort) rfl (ok_law_sort fac F10 ) (He.glo_ok X G (c.fact 9)) F10.kp (FunD.bindsN (ps := P_law_sort) F10 fun _ _ _ _ _ _ us hl => match us, hl with | [_], _ => rfl)
  have c_law_find : Cal P w K mg base 101 "_law_find" 3 g_law_find := Cal.mk' (ps := P_law_find) rfl (ok_law_find fac F11 ) (He.glo_ok X G (c.fact 10)) F11.kp (FunD.bindsN (ps := P_law_find) F11 fun _ _ _ _ _ _ us hl => match us, hl with | [_, _, _], _ => rfl)
  have c_law_roles : Cal P w K mg base 101 "_law_roles" 2 g_law_roles := Cal.mk' (ps := P_law_roles) rfl (ok_law_roles fac F12 ) (He.glo_ok X G (c.fact 11)) F12.kp (FunD.bindsN (ps := P_law_roles) F12 fun _ _ _ _ _ _ us hl => match us, hl with | [_, _], _ => rfl)
  have c_law_parts : Cal P w K mg base 101 "_law_parts" 1 g_law_parts := Cal.mk' (ps := P_law_parts) rfl (ok_law_parts fac F13 ) (He.glo_ok X G (c.fact 12)) F13.kp (FunD.bindsN (ps := P_law_parts) F13 fun _ _ _ _ _ _ us hl => match us, hl with | [_], _ => rfl)
  have c_law_with : Cal P w K mg base 101 "_law_with" 2 g_law_with := Cal.mk' (ps := P_law_with) rfl (ok_law_with fac F14 ) (He.glo_ok X G (c.fact 13)) F14.kp (FunD.bindsN (ps := P_law_with) F14 fun _ _ _ _ _ _ us hl => match us, hl with | [_, _], _ => rfl)
  have c_law_wrap : Cal P w K mg base 101 "_law_wrap" 2 g_law_wrap := Cal.mk' (ps := P_law_wrap) rfl (ok_law_wrap fac F15 ) (He.glo_ok X G (c.fact 14)) F15.kp (FunD.bindsN (ps := P_law_wrap) F15 fun _ _ _ _ _ _ us hl => match us, hl with | [_, _], _ => rfl)
  have c_is_atom_word : Cal P w K mg base 102 "is_atom_word" 1 g_is_atom_word := Cal.mk' (ps := P_is_atom_word) rfl (ok_is_atom_word fac F16 c_made_of) (He.glo_ok X G (c.fact 15)) F16.kp (FunD.bindsN (ps := P_is_atom_word) F16 fun _ _ _ _ _ _ us hl => match us, hl with | [_], _ => rfl)
  have c_law_take : Cal P w K mg base 102 "_law_take" 2 g_law_take := Cal.mk' (ps := P_law_take) rfl (ok_law_take fac F17 c_law_mixed) (He.glo_ok X G (c.fact 16)) F17.kp (FunD.bindsN (ps := P_law_take) F17 fun _ _ _ _ _ _ us hl => match us, hl with | [_, _], _ => rfl)
  have c_law_same : Cal P w K mg base 102 "_law_same" 2 g_law_same := Cal.mk' (ps := P_law_same) rfl (ok_law_same fac F18 c_law_sort) (He.glo_ok X G (c.fact 17)) F18.kp (FunD.bindsN (ps := P_law_same) F18 fun _ _ _ _ _ _ us hl => match us, hl with | [_, _], _ => rfl)
  have c_law_nodes : Cal P w K mg base 102 "_law_nodes" 1 g_law_nodes := Cal.mk' (ps := P_law_nodes) rfl (ok_law_nodes fac F19 c_law_parts) (He.glo_ok X G (c.fact 18)) F19.kp (FunD.bindsN (ps := P_law_nodes) F19 fun _ _ _ _ _ _ us hl => match us, hl with | [_], _ => rfl)
  have c_law_kids : Cal P w K mg base 102 "_law_kids" 1 g_law_kids := Cal.mk' (ps := P_law_kids) rfl (ok_law_kids fac F20 c_law_parts) (He.glo_ok X G (c.fact 19)) F20.kp (FunD.bindsN (ps := P_law_kids) F20 fun _ _ _ _ _ _ us hl => match us, hl with | [_], _ => rfl)
  have c_is_macro_name : Cal P w K mg base 103 "is_macro_name" 1 g_is_macro_name := Cal.mk' (ps := P_is_macro_name) rfl (ok_is_macro_name fac F21 c_is_atom_word) (He.glo_ok X G (c.fact 20)) F21.kp (FunD.bindsN (ps := P_is_macro_name) F21 fun _ _ _ _ _ _ us hl => match us, hl with | [_], _ => rfl)
  have c_group_members : Cal P w K mg base 103 "group_members" 2 g_group_members := Cal.mk' (ps := P_group_members) rfl (ok_group_members fac F22 c_is_node_of c_parts_of q_Table_ops) (He.glo_ok X G (c.fact 21)) F22.kp (FunD.bindsN (ps := P_group_members) F22 fun _ _ _ _ _ _ us hl => match us, hl with | [_, _], _ => rfl)
  have c_law_edge : Cal P w K mg base 103 "_law_edge" 3 g_law_edge := Cal.mk' (ps := P_law_edge) rfl (ok_law_edge fac F23 c_law_take) (He.glo_ok X G (c.fact 22)) F23.kp (FunD.bindsN (ps := P_law_edge) F23 fun _ _ _ _ _ _ us hl => match us, hl with | [_, _, _], _ => rfl)
  have c_law_pick : Cal P w K mg base 103 "_law_pick" 2 g_law_pick := Cal.mk' (ps := P_law_pick) rfl (ok_law_pick fac F24 c_law_take) (He.glo_ok X G (c.fact 23)) F24.kp (FunD.bindsN (ps := P_law_pick) F24 fun _ _ _ _ _ _ us hl => match us, hl with | [_, _], _ => rfl)
  have c_law_shuffle : Cal P w K mg base 103 "_law_shuffle" 2 g_law_shuffle := Cal.mk' (ps := P_law_shuffle) rfl (ok_law_shuffle fac F25 c_law_take) (He.glo_ok X G (c.fact 24)) F25.kp (FunD.bindsN (ps := P_law_shuffle) F25 fun _ _ _ _ _ _ us hl => match us, hl with | [_, _], _ => rfl)
  have c_law_swap : Cal P w K mg base 103 "_law_swap" 3 g_law_swap := Cal.mk' (ps := P_law_swap) rfl (ok_law_swap fac F26 c_law_with c_law_kids c_law_nodes) (He.glo_ok X G (c.fact 25)) F26.kp (FunD.bindsN (ps := P_law_swap) F26 fun _ _ _ _ _ _ us hl => match us, hl with | [_, _, _], _ => rfl)
  have c_law_flat : Cal P w K mg base 103 "_law_flat" 2 g_law_flat := Cal.mk' (ps := P_law_flat) rfl (ok_law_flat fac F27 c_law_with c_law_kids c_law_nodes) (He.glo_ok X G (c.fact 26)) F27.kp (FunD.bindsN (ps := P_law_flat) F27 fun _ _ _ _ _ _ us hl => match us, hl with | [_, _], _ => rfl)
  have c_is_operator_name : Cal P w K mg base 104 "is_operator_name" 1 g_is_operator_name := Cal.mk' (ps := P_is_operator_name) rfl (ok_is_operator_name fac F28 c_made_of c_is_macro_name) (He.glo_ok X G (c.fact 27)) F28.kp (FunD.bindsN (ps := P_is_operator_name) F28 fun _ _ _ _ _ _ us hl => match us, hl with | [_], _ => rfl)
  have c_flat_nodes : Cal P w K mg base 104 "flat_nodes" 2 g_flat_nodes := Cal.mk' (ps := P_flat_nodes) rfl (ok_flat_nodes fac F29 c_group_members) (He.glo_ok X G (c.fact 28)) F29.kp (FunD.bindsN (ps := P_flat_nodes) F29 fun _ _ _ _ _ _ us hl => match us, hl with | [_, _], _ => rfl)
  have c_law_leaf : Cal P w K mg base 104 "_law_leaf" 4 g_law_leaf := Cal.mk' (ps := P_law_leaf) rfl (ok_law_leaf fac F30 c_law_pick c_law_take) (He.glo_ok X G (c.fact 29)) F30.kp (FunD.bindsN (ps := P_law_leaf) F30 fun _ _ _ _ _ _ us hl => match us, hl with | [_, _, _, _], _ => rfl)
  have c_law_long : Cal P w K mg base 104 "_law_long" 4 g_law_long := Cal.mk' (ps := P_law_long) rfl (ok_law_long fac F31 c_law_pick c_law_take c_law_roles) (He.glo_ok X G (c.fact 30)) F31.kp (FunD.bindsN (ps := P_law_long) F31 fun _ _ _ _ _ _ us hl => match us, hl with | [_, _, _, _], _ => rfl)
  have c_law_lightops : Cal P w K mg base 104 "_law_lightops" 2 g_law_lightops := Cal.mk' (ps := P_law_lightops) rfl (ok_law_lightops fac F32 c_law_take c_law_find c_law_shuffle) (He.glo_ok X G (c.fact 31)) F32.kp (FunD.bindsN (ps := P_law_lightops) F32 fun _ _ _ _ _ _ us hl => match us, hl with | [_, _], _ => rfl)
  have c_law_turned : Cal P w K mg base 104 "_law_turned" 4 g_law_turned := Cal.mk' (ps := P_law_turned) rfl (ok_law_turned fac F33 c_law_swap c_law_nodes) (He.glo_ok X G (c.fact 32)) F33.kp (FunD.bindsN (ps := P_law_turned) F33 fun _ _ _ _ _ _ us hl => match us, hl with | [_, _, _, _], _ => rfl)
  have c_is_operator : Cal P w K mg base 105 "is_operator" 1 g_is_operator := Cal.mk' (ps := P_is_operator) rfl (ok_is_operator fac F34 c_fits_strength c_is_operator_name) (He.glo_ok X G (c.fact 33)) F34.kp (FunD.bindsN (ps := P_is_operator) F34 fun _ _ _ _ _ _ us hl => match us, hl with | [_], _ => rfl)
  have c_flat_heads : Cal P w K mg base 105 "flat_heads" 2 g_flat_heads := Cal.mk' (ps := P_flat_heads) rfl (ok_flat_heads fac F35 c_flat_nodes) (He.glo_ok X G (c.fact 34)) F35.kp (FunD.bindsN (ps := P_flat_heads) F35 fun _ _ _ _ _ _ us hl => match us, hl with | [_, _], _ => rfl)
  have c_flat_tree : Cal P w K mg base 105 "flat_tree" 2 g_flat_tree := Cal.mk' (ps := P_flat_tree) rfl (ok_flat_tree fac F36 c_flat_node c_flat_nodes) (He.glo_ok X G (c.fact 35)) F36.kp (FunD.bindsN (ps := P_flat_tree) F36 fun _ _ _ _ _ _ us hl => match us, hl with | [_, _], _ => rfl)
  have c_law_step : Cal P w K mg base 105 "_law_step" 7 g_law_step := Cal.mk' (ps := P_law_step) rfl (ok_law_step fac F37 c_law_pick c_law_take c_law_wrap c_law_leaf c_law_roles) (He.glo_ok X G (c.fact 36)) F37.kp (FunD.bindsN (ps := P_law_step) F37 fun _ _ _ _ _ _ us hl => match us, hl with | [_, _, _, _, _, _, _], _ => rfl)
  have c_refuse_bad_entries : Cal P w K mg base 106 "refuse_bad_entries" 1 g_refuse_bad_entries := Cal.mk' (ps := P_refuse_bad_entries) rfl (ok_refuse_bad_entries fac F38 c_refuse_equal_strengths c_has_clash c_is_operator) (He.glo_ok X G (c.fact 37)) F38.kp (FunD.bindsN (ps := P_refuse_bad_entries) F38 fun _ _ _ _ _ _ us hl => match us, hl with | [_], _ => rfl)
  have c_are_alike : Cal P w K mg base 106 "are_alike" 3 g_are_alike := Cal.mk' (ps := P_are_alike) rfl (ok_are_alike fac F39 c_flat_heads) (He.glo_ok X G (c.fact 38)) F39.kp (FunD.bindsN (ps := P_are_alike) F39 fun _ _ _ _ _ _ us hl => match us, hl with | [_, _, _], _ => rfl)
  have c_law_tree : Cal P w K mg base 106 "_law_tree" 6 g_law_tree := Cal.mk' (ps := P_law_tree) rfl (ok_law_tree fac F40 c_law_wrap c_law_pick c_law_edge c_law_step c_law_roles c_law_leaf) (He.glo_ok X G (c.fact 39)) F40.kp (FunD.bindsN (ps := P_law_tree) F40 fun _ _ _ _ _ _ us hl => match us, hl with | [_, _, _, _, _, _], _ => rfl)
  have k_Table___init__ : Mkc P w K mg base 107 "Table" 1 g_Table___init__ := Mkc.mk' (ps := P_Table___init__) rfl (ok_Table___init__ fac F41 c_refuse_bad_entries) (He.mkr_ok (c.fact 66)) (He.glo_ok X G (c.fact 67)) (FunD.bindsN (ps := P_Table___init__) F41 fun _ _ _ _ _ _ us hl => match us, hl with | [_, _], _ => rfl)
  have c_law_case : Cal P w K mg base 107 "_law_case" 1 g_law_case := Cal.mk' (ps := P_law_case) rfl (ok_law_case fac F42 c_law_swap c_law_nodes c_law_take c_law_edge c_law_turned c_law_tree c_law_long c_law_lightops) (He.glo_ok X G (c.fact 40)) F42.kp (FunD.bindsN (ps := P_law_case) F42 fun _ _ _ _ _ _ us hl => match us, hl with | [_], _ => rfl)
  have c_law_told : Cal P w K mg base 107 "_law_told" 3 g_law_told := Cal.mk' (ps := P_law_told) rfl (ok_law_told fac F43 c_law_same c_are_alike c_flat_tree c_law_flat) (He.glo_ok X G (c.fact 41)) F43.kp (FunD.bindsN (ps := P_law_told) F43 fun _ _ _ _ _ _ us hl => match us, hl with | [_, _, _], _ => rfl)
  exact ok_law fac F44 c_law_told c_law_same c_are_alike c_law_case c_law_store k_Table___init__
end
end K8
open PySem PySem.W PySem.Calls PyProof.Rows
/-- the row from the law's mirror -/
theorem K8.holds_of (hm : ∀ ns : List Int, ns.length ≤ 63 → ∃ outs, K8.g_law [.v (.rl (ns.map Mr.D.int))] = some (.v (.bl true), outs)) : PySem.Challenge.rw_textortree_k08_flat_trees.Holds := by
  w_on; o_law
  refine HandSHeadRun.head_any (r := OpenLaw.row PySem.Challenge.rw_textortree_k08_flat_trees) (q := view (OpenLaw.row PySem.Challenge.rw_textortree_k08_flat_trees).prog [61]) (H := K8.hk) (ob := K8.ob) (M := 6000) (loose := K8.names) (d := HandSHeadRun.topDef (OpenLaw.row PySem.Challenge.rw_textortree_k08_flat_trees).prog 61) (kwd := []) K8.ob_eq
    (by kernel_rfl) (fun s => by kernel_rfl) K8.run (by kernel_rfl) (by kernel_rfl) (by kernel_rfl) (by rfl) (by first | assumption | decide +kernel) (by decide +kernel) ⟨rfl, rfl, rfl, rfl, rfl, by decide +kernel⟩ ?hw ?hc
  case hw => w_witness2
  case hc =>
    refine L2.walk_ofE (l := PySem.Challenge.rw_textortree_k08_flat_trees) (n := 63) (k := 109) (x := "script") (CX := L2.CX0) rfl (by decide) (by kernel_rfl) ⟨rfl, by decide, by decide⟩ ?F (fun _ _ _ _ z => z)
    intro w mg fa h Y G hmg0
    obtain ⟨K, KX, c⟩ := Y
    have hmg : mg (PySem.Str.ofString "law") = some (.ref fa) := by
      have e : (HandSHeadRun.topDef (OpenLaw.row PySem.Challenge.rw_textortree_k08_flat_trees).prog 61).name = (PySem.Str.ofString "law") := by kernel_rfl
      rw [← e]
      exact hmg0
    obtain ⟨fd, hb, hF⟩ := K8.facts (P := (PySem.Challenge.rw_textortree_k08_flat_trees).prog) (w := w) KX G hmg c
    refine ⟨K, fd, Mr.spM K 1 K8.g_law, KX, hb, fun H a ns hl _ hS => ?_, hF⟩
    obtain ⟨outs, e⟩ := hm ns hl
    exact Mr.spM_law hS e

end
set_option linter.all false
set_option maxRecDepth 100000
set_option maxHeartbeats 4000000
open PySem PySem.Spec L2 Mr
local macro_rules | `(tactic| walk_at "mw1") => `(tactic| (first | ((with_reducible show WS _ _); (first | with_reducible refine wq_set ?_ | with_reducible refine wq_drop ?_ | with_reducible refine wq_asg ?_ | with_reducible refine wq_sti ?_ | with_reducible refine wq_aug ?_ | with_reducible refine wq_nop ?_ | with_reducible refine ws_set ?_ | with_reducible refine ws_if ?_ | with_reducible refine ws_ret ?_ | with_reducible refine ws_drop ?_ | with_reducible refine ws_nop ?_ | with_reducible refine ws_asg ?_ | with_reducible refine ws_for ?_ | with_reducible refine ws_sti ?_ | with_reducible refine ws_bk ?_ | with_reducible refine ws_ct ?_ | with_reducible refine ws_retN ?_ | with_reducible refine ws_fld ?_ | with_reducible refine ws_fdput ?_ | with_reducible refine ws_dput ?_)) | ((with_reducible show WE _ _); (first | with_reducible refine we_op2 ?_ | with_reducible refine we_c ?_ | with_reducible refine we_bi ?_ | with_reducible refine we_call ?_ | ((with_reducible refine we_var (d := ?_) ?_ ?_); rotate_left; focus rfl) | ((with_reducible refine we_varL (ds := ?_) ?_ ?_); rotate_left; focus rfl) | ((with_reducible refine we_mv (d := ?_) ?_ ?_); rotate_left; focus rfl) | ((with_reducible refine we_mvL (ds := ?_) ?_ ?_); rotate_left; focus rfl) | with_reducible refine we_lst ?_ | with_reducible refine we_tup ?_ | with_reducible refine we_if ?_ | with_reducible refine we_andV ?_ | with_reducible refine we_orV ?_ | with_reducible refine we_notV ?_ | with_reducible refine we_chain ?_ | with_reducible refine we_sl ?_ | with_reducible refine we_op1 ?_ | with_reducible refine we_m0 ?_ | with_reducible refine we_m1 ?_ | with_reducible refine we_revS ?_ | with_reducible refine we_make ?_ | with_reducible refine we_prop ?_ | with_reducible refine we_dnew ?_ | with_reducible refine we_lcL ?_ | with_reducible refine we_lc ?_ | with_reducible refine we_meth ?_ | ((with_reducible refine we_app (ds0 := ?_) ?_ ?_); rotate_left; focus rfl) | ((with_reducible refine we_ext (ds0 := ?_) ?_ ?_); rotate_left; focus rfl) | ((with_reducible refine we_fob (ns := ?_) (os := ?_) (j := ?_) (d := ?_) ?_ ?_ ?_ ?_); rotate_left 4; focus rfl; rotate_right; focus rfl; focus rfl))) | ((with_reducible show WP _ _); (first | ((with_reducible refine wp_nm (d := ?_) ?_ ?_); rotate_left; focus rfl) | with_reducible refine wp_ex ?_ | with_reducible refine wp_it ?_ | ((with_reducible refine wp_nmL (d := ?_) ?_ ?_); rotate_left; focus rfl))) | ((with_reducible show WA _ _); (first | with_reducible refine wa_cons ?_ | with_reducible refine wa_nil ?_)) | ((with_reducible show WT _ _); (first | with_reducible refine wt_tst ?_ | with_reducible refine wt_tru ?_ | with_reducible refine wt_and ?_ | with_reducible refine wt_or ?_ | with_reducible refine wt_not ?_ | with_reducible refine wt_yes ?_)) | ((with_reducible show WO _ _); (first | with_reducible refine wo_none ?_ | with_reducible refine wo_some ?_)) | ((with_reducible show WV _ _); (first | ((with_reducible refine wv_i (d := ?_) ?_ ?_); rotate_left; focus rfl))) | ((with_reducible show WVs _ _); (first | ((with_reducible refine wvs_i (d := ?_) ?_ ?_); rotate_left; focus rfl))) | ((with_reducible show WK _ _); (first | ((with_reducible refine wk_i (a := ?_) (b := ?_) ?_ ?_); rotate_left 2; focus rfl))) | ((with_reducible show WI _ _); (first | with_reducible refine wi_seq ?_ | with_reducible refine wi_rng1 ?_ | with_reducible refine wi_rng2 ?_ | with_reducible refine wi_rev1 ?_ | with_reducible refine wi_revL ?_ | with_reducible refine wi_enumA ?_)) | ((with_reducible show WX _ _); (first | ((with_reducible refine wx_i (j := ?_) ?_ ?_); rotate_left; focus (first | (refine ixN_nat (j := 0) ?_; (simp only [List.length_map, List.length_cons, List.length_set, List.length_nil]; omega)) | (refine ixN_nat (j := 1) ?_; (simp only [List.length_map, List.length_cons, List.length_set, List.length_nil]; omega)) | (refine ixN_nat (j := 2) ?_; (simp only [List.length_map, List.length_cons, List.length_set, List.length_nil]; omega)) | (refine ixN_nat (j := 3) ?_; (simp only [List.length_map, List.length_cons, List.length_set, List.length_nil]; omega)) | (refine ixN_nat (j := 4) ?_; (simp only [List.length_map, List.length_cons, List.length_set, List.length_nil]; omega)))))) | ((with_reducible show WR (isiD _) _); (first | ((with_reducible refine wr_isi (b := ?_) ?_ ?_); rotate_left; focus (with_reducible (first | exact isi_non_bool | exact isi_non_int | exact isi_non_str | exact isi_non_tuple | exact isi_non_list | exact isi_non_dict | exact isi_bl_bool | exact isi_bl_int | exact isi_bl_str | exact isi_bl_tuple | exact isi_bl_list | exact isi_bl_dict | exact isi_int_bool | exact isi_int_int | exact isi_int_str | exact isi_int_tuple | exact isi_int_list | exact isi_int_dict | exact isi_str_bool | exact isi_str_int | exact isi_str_str | exact isi_str_tuple | exact isi_str_list | exact isi_str_dict | exact isi_tup_bool | exact isi_tup_int | exact isi_tup_str | exact isi_tup_tuple | exact isi_tup_list | exact isi_tup_dict | exact isi_lst_bool | exact isi_lst_int | exact isi_lst_str | exact isi_lst_tuple | exact isi_lst_list | exact isi_lst_dict))))) | ((with_reducible show WR (ixD _ _) _); (first | ((with_reducible refine wr_ixL (d := ?_) ?_ ?_); rotate_left; focus (first | (refine atI_nat (j := 0) ?_; rfl) | (refine atI_nat (j := 1) ?_; rfl) | (refine atI_nat (j := 2) ?_; rfl) | (refine atI_nat (j := 3) ?_; rfl) | (refine atI_nat (j := 4) ?_; rfl) | (refine atI_nat (j := 5) ?_; rfl))) | ((with_reducible refine wr_ixT (d := ?_) ?_ ?_); rotate_left; focus (first | (refine atI_nat (j := 0) ?_; rfl) | (refine atI_nat (j := 1) ?_; rfl) | (refine atI_nat (j := 2) ?_; rfl) | (refine atI_nat (j := 3) ?_; rfl) | (refine atI_nat (j := 4) ?_; rfl) | (refine atI_nat (j := 5) ?_; rfl))) | with_reducible refine wr_ixEa ?_ | with_reducible refine wr_ixEh ?_ | with_reducible refine wr_ixEk ?_ | with_reducible refine wr_ixEb ?_ | with_reducible refine wr_ixEo ?_ | with_reducible refine wr_ixEc ?_ | with_reducible refine wr_ixEa1 ?_ | with_reducible refine wr_ixEh1 ?_ | with_reducible refine wr_ixEk1 ?_ | with_reducible refine wr_ixEb1 ?_ | with_reducible refine wr_ixEo1 ?_ | with_reducible refine wr_ixEc1 ?_ | with_reducible refine wr_ixEo2 ?_ | with_reducible refine wr_ixEc2 ?_ | with_reducible refine wr_ixE ?_)) | ((with_reducible show WR (eqPD _ _) _); (first | with_reducible refine wr_eqP ?_ | with_reducible refine wr_eqPs ?_ | with_reducible refine wr_eqPb ?_ | ((with_reducible refine wr_eqPn (k := ?_) ?_ ?_); rotate_left; focus rfl))) | ((with_reducible show WR (nePD _ _) _); (first | with_reducible refine wr_neP ?_ | with_reducible refine wr_nePs ?_ | with_reducible refine wr_nePb ?_)) | ((with_reducible show WR (addD _ _) _); (first | with_reducible refine wr_add ?_ | ((with_reducible refine wr_addS ?_ ?_); focus (first | omega | decide +kernel | (simp only [len_app, len_one]; omega))) | with_reducible refine wr_addL (Nat.le_of_ble_eq_true rfl) ?_)) | ((with_reducible show WR (lenD _) _); (first | with_reducible refine wr_lenL ?_ | with_reducible refine wr_lenT ?_ | with_reducible refine wr_lenR ?_ | ((with_reducible refine wr_lenS ?_ ?_); focus (first | assumption | omega | decide +kernel)))) | ((with_reducible show WR _ _); (first | with_reducible refine wr_sub ?_ | ((with_reducible refine wr_mul ?_ ?_); focus omega) | ((with_reducible refine wr_mod ?_ ?_); focus (first | omega | decide +kernel)) | ((with_reducible refine wr_fdiv ?_ ?_); focus omega) | ((with_reducible refine wr_pow ?_ ?_); focus decide +kernel) | with_reducible refine wr_max2 ?_ | with_reducible refine wr_min2 ?_ | with_reducible refine wr_lt ?_ | with_reducible refine wr_le ?_ | with_reducible refine wr_gt ?_ | with_reducible refine wr_ge ?_ | with_reducible refine wr_eq ?_ | with_reducible refine wr_ne ?_ | with_reducible refine wr_neg ?_ | with_reducible refine wr_int ?_ | with_reducible refine wr_intB ?_ | with_reducible refine wr_tupL ?_ | with_reducible refine wr_tupT ?_ | with_reducible refine wr_isn0 ?_ | with_reducible refine wr_isn1 ?_ | with_reducible refine wr_isn2 ?_ | with_reducible refine wr_isn3 ?_ | with_reducible refine wr_isn4 ?_ | with_reducible refine wr_isn5 ?_ | with_reducible refine wr_nsn0 ?_ | with_reducible refine wr_nsn1 ?_ | with_reducible refine wr_nsn2 ?_ | with_reducible refine wr_nsn3 ?_ | with_reducible refine wr_listS ?_ | with_reducible refine wr_listT ?_ | with_reducible refine wr_slL ?_ | ((with_reducible refine wr_propD (d := ?_) ?_ ?_); rotate_left; focus rfl) | ((with_reducible refine wr_slS ?_ ?_); focus (first | assumption | omega)) | ((with_reducible refine wr_low ?_ ?_); focus (first | assumption | omega)) | ((with_reducible refine wr_upp ?_ ?_); focus (first | assumption | omega)) | ((with_reducible refine wr_ninNil' ?_ ?_); focus rfl) | with_reducible refine wr_in1 ?_ | with_reducible refine wr_nin1 ?_ | ((with_reducible refine wr_i (r := ?_) ?_ ?_); rotate_left; focus rfl))) | ((with_reducible refine wifST ?_ ?_); focus (decide +kernel)) | ((with_reducible refine wifSF ?_ ?_); focus (decide +kernel)) | ((with_reducible refine wifNST ?_ ?_); focus (decide +kernel)) | ((with_reducible refine wifNSF ?_ ?_); focus (decide +kernel)) | ((with_reducible refine sq_nxE (ρ' := ?_) ?_ ?_); rotate_left; focus (first | (dsimp only [List.set, bk, List.getElem?_cons_zero, List.getElem?_cons_succ]; exact rfl) | exact rfl)) | with_reducible refine sq_rt ?_ | with_reducible refine sq_bk ?_ | with_reducible refine sq_ct ?_ | with_reducible refine ct_rt ?_ | with_reducible refine ct_bk ?_ | with_reducible refine ct_ct ?_ | with_reducible refine tn_rt ?_ | with_reducible refine tn_bk ?_ | with_reducible refine fin_rt ?_ | with_reducible refine fin_nx ?_ | with_reducible refine wifNT ?_ | with_reducible refine wifNF ?_ | with_reducible refine wifT ?_ | with_reducible refine wifF ?_ | with_reducible refine ⟨Nat.le_of_ble_eq_true rfl, ?_⟩ | ((with_reducible refine Exists.intro ?_ (And.intro ?_ ?_)); rotate_left; focus rfl) | ((with_reducible refine Exists.intro ?_ (Exists.intro ?_ (And.intro ?_ ?_))); rotate_left 2; focus rfl)))
local macro_rules | `(tactic| walk_at "mwp") => `(tactic| (walk_at "mw1"; repeat (first | ((with_reducible show WS _ _); (first | with_reducible refine wq_set ?_ | with_reducible refine wq_drop ?_ | with_reducible refine wq_asg ?_ | with_reducible refine wq_sti ?_ | with_reducible refine wq_aug ?_ | with_reducible refine wq_nop ?_ | with_reducible refine ws_set ?_ | with_reducible refine ws_if ?_ | with_reducible refine ws_ret ?_ | with_reducible refine ws_drop ?_ | with_reducible refine ws_nop ?_ | with_reducible refine ws_asg ?_ | with_reducible refine ws_for ?_ | with_reducible refine ws_sti ?_ | with_reducible refine ws_bk ?_ | with_reducible refine ws_ct ?_ | with_reducible refine ws_retN ?_ | with_reducible refine ws_fld ?_ | with_reducible refine ws_fdput ?_ | with_reducible refine ws_dput ?_)) | ((with_reducible show WE _ _); (first | with_reducible refine we_op2 ?_ | with_reducible refine we_c ?_ | with_reducible refine we_bi ?_ | with_reducible refine we_call ?_ | ((with_reducible refine we_var (d := ?_) ?_ ?_); rotate_left; focus rfl) | ((with_reducible refine we_varL (ds := ?_) ?_ ?_); rotate_left; focus rfl) | ((with_reducible refine we_mv (d := ?_) ?_ ?_); rotate_left; focus rfl) | ((with_reducible refine we_mvL (ds := ?_) ?_ ?_); rotate_left; focus rfl) | with_reducible refine we_lst ?_ | with_reducible refine we_tup ?_ | with_reducible refine we_if ?_ | with_reducible refine we_andV ?_ | with_reducible refine we_orV ?_ | with_reducible refine we_notV ?_ | with_reducible refine we_chain ?_ | with_reducible refine we_sl ?_ | with_reducible refine we_op1 ?_ | with_reducible refine we_m0 ?_ | with_reducible refine we_m1 ?_ | with_reducible refine we_revS ?_ | with_reducible refine we_make ?_ | with_reducible refine we_prop ?_ | with_reducible refine we_dnew ?_ | with_reducible refine we_lcL ?_ | with_reducible refine we_lc ?_ | with_reducible refine we_meth ?_ | ((with_reducible refine we_app (ds0 := ?_) ?_ ?_); rotate_left; focus rfl) | ((with_reducible refine we_ext (ds0 := ?_) ?_ ?_); rotate_left; focus rfl) | ((with_reducible refine we_fob (ns := ?_) (os := ?_) (j := ?_) (d := ?_) ?_ ?_ ?_ ?_); rotate_left 4; focus rfl; rotate_right; focus rfl; focus rfl))) | ((with_reducible show WP _ _); (first | ((with_reducible refine wp_nm (d := ?_) ?_ ?_); rotate_left; focus rfl) | with_reducible refine wp_ex ?_ | with_reducible refine wp_it ?_ | ((with_reducible refine wp_nmL (d := ?_) ?_ ?_); rotate_left; focus rfl))) | ((with_reducible show WA _ _); (first | with_reducible refine wa_cons ?_ | with_reducible refine wa_nil ?_)) | ((with_reducible show WT _ _); (first | with_reducible refine wt_tst ?_ | with_reducible refine wt_tru ?_ | with_reducible refine wt_and ?_ | with_reducible refine wt_or ?_ | with_reducible refine wt_not ?_ | with_reducible refine wt_yes ?_)) | ((with_reducible show WO _ _); (first | with_reducible refine wo_none ?_ | with_reducible refine wo_some ?_)) | ((with_reducible show WV _ _); (first | ((with_reducible refine wv_i (d := ?_) ?_ ?_); rotate_left; focus rfl))) | ((with_reducible show WVs _ _); (first | ((with_reducible refine wvs_i (d := ?_) ?_ ?_); rotate_left; focus rfl))) | ((with_reducible show WK _ _); (first | ((with_reducible refine wk_i (a := ?_) (b := ?_) ?_ ?_); rotate_left 2; focus rfl))) | ((with_reducible show WI _ _); (first | with_reducible refine wi_seq ?_ | with_reducible refine wi_rng1 ?_ | with_reducible refine wi_rng2 ?_ | with_reducible refine wi_rev1 ?_ | with_reducible refine wi_revL ?_ | with_reducible refine wi_enumA ?_)) | ((with_reducible show WX _ _); (first | ((with_reducible refine wx_i (j := ?_) ?_ ?_); rotate_left; focus (first | (refine ixN_nat (j := 0) ?_; (simp only [List.length_map, List.length_cons, List.length_set, List.length_nil]; omega)) | (refine ixN_nat (j := 1) ?_; (simp only [List.length_map, List.length_cons, List.length_set, List.length_nil]; omega)) | (refine ixN_nat (j := 2) ?_; (simp only [List.length_map, List.length_cons, List.length_set, List.length_nil]; omega)) | (refine ixN_nat (j := 3) ?_; (simp only [List.length_map, List.length_cons, List.length_set, List.length_nil]; omega)) | (refine ixN_nat (j := 4) ?_; (simp only [List.length_map, List.length_cons, List.length_set, List.length_nil]; omega)))))) | ((with_reducible show WR (isiD _) _); (first | ((with_reducible refine wr_isi (b := ?_) ?_ ?_); rotate_left; focus (with_reducible (first | exact isi_non_bool | exact isi_non_int | exact isi_non_str | exact isi_non_tuple | exact isi_non_list | exact isi_non_dict | exact isi_bl_bool | exact isi_bl_int | exact isi_bl_str | exact isi_bl_tuple | exact isi_bl_list | exact isi_bl_dict | exact isi_int_bool | exact isi_int_int | exact isi_int_str | exact isi_int_tuple | exact isi_int_list | exact isi_int_dict | exact isi_str_bool | exact isi_str_int | exact isi_str_str | exact isi_str_tuple | exact isi_str_list | exact isi_str_dict | exact isi_tup_bool | exact isi_tup_int | exact isi_tup_str | exact isi_tup_tuple | exact isi_tup_list | exact isi_tup_dict | exact isi_lst_bool | exact isi_lst_int | exact isi_lst_str | exact isi_lst_tuple | exact isi_lst_list | exact isi_lst_dict))))) | ((with_reducible show WR (ixD _ _) _); (first | ((with_reducible refine wr_ixL (d := ?_) ?_ ?_); rotate_left; focus (first | (refine atI_nat (j := 0) ?_; rfl) | (refine atI_nat (j := 1) ?_; rfl) | (refine atI_nat (j := 2) ?_; rfl) | (refine atI_nat (j := 3) ?_; rfl) | (refine atI_nat (j := 4) ?_; rfl) | (refine atI_nat (j := 5) ?_; rfl))) | ((with_reducible refine wr_ixT (d := ?_) ?_ ?_); rotate_left; focus (first | (refine atI_nat (j := 0) ?_; rfl) | (refine atI_nat (j := 1) ?_; rfl) | (refine atI_nat (j := 2) ?_; rfl) | (refine atI_nat (j := 3) ?_; rfl) | (refine atI_nat (j := 4) ?_; rfl) | (refine atI_nat (j := 5) ?_; rfl))) | with_reducible refine wr_ixEa ?_ | with_reducible refine wr_ixEh ?_ | with_reducible refine wr_ixEk ?_ | with_reducible refine wr_ixEb ?_ | with_reducible refine wr_ixEo ?_ | with_reducible refine wr_ixEc ?_ | with_reducible refine wr_ixEa1 ?_ | with_reducible refine wr_ixEh1 ?_ | with_reducible refine wr_ixEk1 ?_ | with_reducible refine wr_ixEb1 ?_ | with_reducible refine wr_ixEo1 ?_ | with_reducible refine wr_ixEc1 ?_ | with_reducible refine wr_ixEo2 ?_ | with_reducible refine wr_ixEc2 ?_ | with_reducible refine wr_ixE ?_)) | ((with_reducible show WR (eqPD _ _) _); (first | with_reducible refine wr_eqP ?_ | with_reducible refine wr_eqPs ?_ | with_reducible refine wr_eqPb ?_ | ((with_reducible refine wr_eqPn (k := ?_) ?_ ?_); rotate_left; focus rfl))) | ((with_reducible show WR (nePD _ _) _); (first | with_reducible refine wr_neP ?_ | with_reducible refine wr_nePs ?_ | with_reducible refine wr_nePb ?_)) | ((with_reducible show WR (addD _ _) _); (first | with_reducible refine wr_add ?_ | ((with_reducible refine wr_addS ?_ ?_); focus (first | omega | decide +kernel | (simp only [len_app, len_one]; omega))) | with_reducible refine wr_addL (Nat.le_of_ble_eq_true rfl) ?_)) | ((with_reducible show WR (lenD _) _); (first | with_reducible refine wr_lenL ?_ | with_reducible refine wr_lenT ?_ | with_reducible refine wr_lenR ?_ | ((with_reducible refine wr_lenS ?_ ?_); focus (first | assumption | omega | decide +kernel)))) | ((with_reducible show WR _ _); (first | with_reducible refine wr_sub ?_ | ((with_reducible refine wr_mul ?_ ?_); focus omega) | ((with_reducible refine wr_mod ?_ ?_); focus (first | omega | decide +kernel)) | ((with_reducible refine wr_fdiv ?_ ?_); focus omega) | ((with_reducible refine wr_pow ?_ ?_); focus decide +kernel) | with_reducible refine wr_max2 ?_ | with_reducible refine wr_min2 ?_ | with_reducible refine wr_lt ?_ | with_reducible refine wr_le ?_ | with_reducible refine wr_gt ?_ | with_reducible refine wr_ge ?_ | with_reducible refine wr_eq ?_ | with_reducible refine wr_ne ?_ | with_reducible refine wr_neg ?_ | with_reducible refine wr_int ?_ | with_reducible refine wr_intB ?_ | with_reducible refine wr_tupL ?_ | with_reducible refine wr_tupT ?_ | with_reducible refine wr_isn0 ?_ | with_reducible refine wr_isn1 ?_ | with_reducible refine wr_isn2 ?_ | with_reducible refine wr_isn3 ?_ | with_reducible refine wr_isn4 ?_ | with_reducible refine wr_isn5 ?_ | with_reducible refine wr_nsn0 ?_ | with_reducible refine wr_nsn1 ?_ | with_reducible refine wr_nsn2 ?_ | with_reducible refine wr_nsn3 ?_ | with_reducible refine wr_listS ?_ | with_reducible refine wr_listT ?_ | with_reducible refine wr_slL ?_ | ((with_reducible refine wr_propD (d := ?_) ?_ ?_); rotate_left; focus rfl) | ((with_reducible refine wr_slS ?_ ?_); focus (first | assumption | omega)) | ((with_reducible refine wr_low ?_ ?_); focus (first | assumption | omega)) | ((with_reducible refine wr_upp ?_ ?_); focus (first | assumption | omega)) | ((with_reducible refine wr_ninNil' ?_ ?_); focus rfl) | with_reducible refine wr_in1 ?_ | with_reducible refine wr_nin1 ?_ | ((with_reducible refine wr_i (r := ?_) ?_ ?_); rotate_left; focus rfl))) | ((with_reducible refine wifST ?_ ?_); focus (decide +kernel)) | ((with_reducible refine wifSF ?_ ?_); focus (decide +kernel)) | ((with_reducible refine wifNST ?_ ?_); focus (decide +kernel)) | ((with_reducible refine wifNSF ?_ ?_); focus (decide +kernel)) | ((with_reducible refine sq_nxE (ρ' := ?_) ?_ ?_); rotate_left; focus (first | (dsimp only [List.set, bk, List.getElem?_cons_zero, List.getElem?_cons_succ]; exact rfl) | exact rfl)) | with_reducible refine sq_rt ?_ | with_reducible refine sq_bk ?_ | with_reducible refine sq_ct ?_ | with_reducible refine ct_rt ?_ | with_reducible refine ct_bk ?_ | with_reducible refine ct_ct ?_ | with_reducible refine tn_rt ?_ | with_reducible refine tn_bk ?_ | with_reducible refine fin_rt ?_ | with_reducible refine fin_nx ?_ | with_reducible refine wifNT ?_ | with_reducible refine wifNF ?_ | with_reducible refine wifT ?_ | with_reducible refine wifF ?_ | with_reducible refine ⟨Nat.le_of_ble_eq_true rfl, ?_⟩ | ((with_reducible refine Exists.intro ?_ (And.intro ?_ ?_)); rotate_left; focus rfl) | ((with_reducible refine Exists.intro ?_ (Exists.intro ?_ (And.intro ?_ ?_))); rotate_left 2; focus rfl))))
local macro_rules | `(tactic| walk_at "mw") => `(tactic| (repeat (first | ((with_reducible show WS _ _); (first | with_reducible refine wq_set ?_ | with_reducible refine wq_drop ?_ | with_reducible refine wq_asg ?_ | with_reducible refine wq_sti ?_ | with_reducible refine wq_aug ?_ | with_reducible refine wq_nop ?_ | with_reducible refine ws_set ?_ | with_reducible refine ws_if ?_ | with_reducible refine ws_ret ?_ | with_reducible refine ws_drop ?_ | with_reducible refine ws_nop ?_ | with_reducible refine ws_asg ?_ | with_reducible refine ws_for ?_ | with_reducible refine ws_sti ?_ | with_reducible refine ws_bk ?_ | with_reducible refine ws_ct ?_ | with_reducible refine ws_retN ?_ | with_reducible refine ws_fld ?_ | with_reducible refine ws_fdput ?_ | with_reducible refine ws_dput ?_)) | ((with_reducible show WE _ _); (first | with_reducible refine we_op2 ?_ | with_reducible refine we_c ?_ | with_reducible refine we_bi ?_ | with_reducible refine we_call ?_ | ((with_reducible refine we_var (d := ?_) ?_ ?_); rotate_left; focus rfl) | ((with_reducible refine we_varL (ds := ?_) ?_ ?_); rotate_left; focus rfl) | ((with_reducible refine we_mv (d := ?_) ?_ ?_); rotate_left; focus rfl) | ((with_reducible refine we_mvL (ds := ?_) ?_ ?_); rotate_left; focus rfl) | with_reducible refine we_lst ?_ | with_reducible refine we_tup ?_ | with_reducible refine we_if ?_ | with_reducible refine we_andV ?_ | with_reducible refine we_orV ?_ | with_reducible refine we_notV ?_ | with_reducible refine we_chain ?_ | with_reducible refine we_sl ?_ | with_reducible refine we_op1 ?_ | with_reducible refine we_m0 ?_ | with_reducible refine we_m1 ?_ | with_reducible refine we_revS ?_ | with_reducible refine we_make ?_ | with_reducible refine we_prop ?_ | with_reducible refine we_dnew ?_ | with_reducible refine we_lcL ?_ | with_reducible refine we_lc ?_ | with_reducible refine we_meth ?_ | ((with_reducible refine we_app (ds0 := ?_) ?_ ?_); rotate_left; focus rfl) | ((with_reducible refine we_ext (ds0 := ?_) ?_ ?_); rotate_left; focus rfl) | ((with_reducible refine we_fob (ns := ?_) (os := ?_) (j := ?_) (d := ?_) ?_ ?_ ?_ ?_); rotate_left 4; focus rfl; rotate_right; focus rfl; focus rfl))) | ((with_reducible show WP _ _); (first | ((with_reducible refine wp_nm (d := ?_) ?_ ?_); rotate_left; focus rfl) | with_reducible refine wp_ex ?_ | with_reducible refine wp_it ?_ | ((with_reducible refine wp_nmL (d := ?_) ?_ ?_); rotate_left; focus rfl))) | ((with_reducible show WA _ _); (first | with_reducible refine wa_cons ?_ | with_reducible refine wa_nil ?_)) | ((with_reducible show WT _ _); (first | with_reducible refine wt_tst ?_ | with_reducible refine wt_tru ?_ | with_reducible refine wt_and ?_ | with_reducible refine wt_or ?_ | with_reducible refine wt_not ?_ | with_reducible refine wt_yes ?_)) | ((with_reducible show WO _ _); (first | with_reducible refine wo_none ?_ | with_reducible refine wo_some ?_)) | ((with_reducible show WV _ _); (first | ((with_reducible refine wv_i (d := ?_) ?_ ?_); rotate_left; focus rfl))) | ((with_reducible show WVs _ _); (first | ((with_reducible refine wvs_i (d := ?_) ?_ ?_); rotate_left; focus rfl))) | ((with_reducible show WK _ _); (first | ((with_reducible refine wk_i (a := ?_) (b := ?_) ?_ ?_); rotate_left 2; focus rfl))) | ((with_reducible show WI _ _); (first | with_reducible refine wi_seq ?_ | with_reducible refine wi_rng1 ?_ | with_reducible refine wi_rng2 ?_ | with_reducible refine wi_rev1 ?_ | with_reducible refine wi_revL ?_ | with_reducible refine wi_enumA ?_)) | ((with_reducible show WX _ _); (first | ((with_reducible refine wx_i (j := ?_) ?_ ?_); rotate_left; focus (first | (refine ixN_nat (j := 0) ?_; (simp only [List.length_map, List.length_cons, List.length_set, List.length_nil]; omega)) | (refine ixN_nat (j := 1) ?_; (simp only [List.length_map, List.length_cons, List.length_set, List.length_nil]; omega)) | (refine ixN_nat (j := 2) ?_; (simp only [List.length_map, List.length_cons, List.length_set, List.length_nil]; omega)) | (refine ixN_nat (j := 3) ?_; (simp only [List.length_map, List.length_cons, List.length_set, List.length_nil]; omega)) | (refine ixN_nat (j := 4) ?_; (simp only [List.length_map, List.length_cons, List.length_set, List.length_nil]; omega)))))) | ((with_reducible show WR (isiD _) _); (first | ((with_reducible refine wr_isi (b := ?_) ?_ ?_); rotate_left; focus (with_reducible (first | exact isi_non_bool | exact isi_non_int | exact isi_non_str | exact isi_non_tuple | exact isi_non_list | exact isi_non_dict | exact isi_bl_bool | exact isi_bl_int | exact isi_bl_str | exact isi_bl_tuple | exact isi_bl_list | exact isi_bl_dict | exact isi_int_bool | exact isi_int_int | exact isi_int_str | exact isi_int_tuple | exact isi_int_list | exact isi_int_dict | exact isi_str_bool | exact isi_str_int | exact isi_str_str | exact isi_str_tuple | exact isi_str_list | exact isi_str_dict | exact isi_tup_bool | exact isi_tup_int | exact isi_tup_str | exact isi_tup_tuple | exact isi_tup_list | exact isi_tup_dict | exact isi_lst_bool | exact isi_lst_int | exact isi_lst_str | exact isi_lst_tuple | exact isi_lst_list | exact isi_lst_dict))))) | ((with_reducible show WR (ixD _ _) _); (first | ((with_reducible refine wr_ixL (d := ?_) ?_ ?_); rotate_left; focus (first | (refine atI_nat (j := 0) ?_; rfl) | (refine atI_nat (j := 1) ?_; rfl) | (refine atI_nat (j := 2) ?_; rfl) | (refine atI_nat (j := 3) ?_; rfl) | (refine atI_nat (j := 4) ?_; rfl) | (refine atI_nat (j := 5) ?_; rfl))) | ((with_reducible refine wr_ixT (d := ?_) ?_ ?_); rotate_left; focus (first | (refine atI_nat (j := 0) ?_; rfl) | (refine atI_nat (j := 1) ?_; rfl) | (refine atI_nat (j := 2) ?_; rfl) | (refine atI_nat (j := 3) ?_; rfl) | (refine atI_nat (j := 4) ?_; rfl) | (refine atI_nat (j := 5) ?_; rfl))) | with_reducible refine wr_ixEa ?_ | with_reducible refine wr_ixEh ?_ | with_reducible refine wr_ixEk ?_ | with_reducible refine wr_ixEb ?_ | with_reducible refine wr_ixEo ?_ | with_reducible refine wr_ixEc ?_ | with_reducible refine wr_ixEa1 ?_ | with_reducible refine wr_ixEh1 ?_ | with_reducible refine wr_ixEk1 ?_ | with_reducible refine wr_ixEb1 ?_ | with_reducible refine wr_ixEo1 ?_ | with_reducible refine wr_ixEc1 ?_ | with_reducible refine wr_ixEo2 ?_ | with_reducible refine wr_ixEc2 ?_ | with_reducible refine wr_ixE ?_)) | ((with_reducible show WR (eqPD _ _) _); (first | with_reducible refine wr_eqP ?_ | with_reducible refine wr_eqPs ?_ | with_reducible refine wr_eqPb ?_ | ((with_reducible refine wr_eqPn (k := ?_) ?_ ?_); rotate_left; focus rfl))) | ((with_reducible show WR (nePD _ _) _); (first | with_reducible refine wr_neP ?_ | with_reducible refine wr_nePs ?_ | with_reducible refine wr_nePb ?_)) | ((with_reducible show WR (addD _ _) _); (first | with_reducible refine wr_add ?_ | ((with_reducible refine wr_addS ?_ ?_); focus (first | omega | decide +kernel | (simp only [len_app, len_one]; omega))) | with_reducible refine wr_addL (Nat.le_of_ble_eq_true rfl) ?_)) | ((with_reducible show WR (lenD _) _); (first | with_reducible refine wr_lenL ?_ | with_reducible refine wr_lenT ?_ | with_reducible refine wr_lenR ?_ | ((with_reducible refine wr_lenS ?_ ?_); focus (first | assumption | omega | decide +kernel)))) | ((with_reducible show WR _ _); (first | with_reducible refine wr_sub ?_ | ((with_reducible refine wr_mul ?_ ?_); focus omega) | ((with_reducible refine wr_mod ?_ ?_); focus (first | omega | decide +kernel)) | ((with_reducible refine wr_fdiv ?_ ?_); focus omega) | ((with_reducible refine wr_pow ?_ ?_); focus decide +kernel) | with_reducible refine wr_max2 ?_ | with_reducible refine wr_min2 ?_ | with_reducible refine wr_lt ?_ | with_reducible refine wr_le ?_ | with_reducible refine wr_gt ?_ | with_reducible refine wr_ge ?_ | with_reducible refine wr_eq ?_ | with_reducible refine wr_ne ?_ | with_reducible refine wr_neg ?_ | with_reducible refine wr_int ?_ | with_reducible refine wr_intB ?_ | with_reducible refine wr_tupL ?_ | with_reducible refine wr_tupT ?_ | with_reducible refine wr_isn0 ?_ | with_reducible refine wr_isn1 ?_ | with_reducible refine wr_isn2 ?_ | with_reducible refine wr_isn3 ?_ | with_reducible refine wr_isn4 ?_ | with_reducible refine wr_isn5 ?_ | with_reducible refine wr_nsn0 ?_ | with_reducible refine wr_nsn1 ?_ | with_reducible refine wr_nsn2 ?_ | with_reducible refine wr_nsn3 ?_ | with_reducible refine wr_listS ?_ | with_reducible refine wr_listT ?_ | with_reducible refine wr_slL ?_ | ((with_reducible refine wr_propD (d := ?_) ?_ ?_); rotate_left; focus rfl) | ((with_reducible refine wr_slS ?_ ?_); focus (first | assumption | omega)) | ((with_reducible refine wr_low ?_ ?_); focus (first | assumption | omega)) | ((with_reducible refine wr_upp ?_ ?_); focus (first | assumption | omega)) | ((with_reducible refine wr_ninNil' ?_ ?_); focus rfl) | with_reducible refine wr_in1 ?_ | with_reducible refine wr_nin1 ?_ | ((with_reducible refine wr_i (r := ?_) ?_ ?_); rotate_left; focus rfl))) | ((with_reducible refine wifST ?_ ?_); focus (decide +kernel)) | ((with_reducible refine wifSF ?_ ?_); focus (decide +kernel)) | ((with_reducible refine wifNST ?_ ?_); focus (decide +kernel)) | ((with_reducible refine wifNSF ?_ ?_); focus (decide +kernel)) | ((with_reducible refine sq_nxE (ρ' := ?_) ?_ ?_); rotate_left; focus (first | (dsimp only [List.set, bk, List.getElem?_cons_zero, List.getElem?_cons_succ]; exact rfl) | exact rfl)) | with_reducible refine sq_rt ?_ | with_reducible refine sq_bk ?_ | with_reducible refine sq_ct ?_ | with_reducible refine ct_rt ?_ | with_reducible refine ct_bk ?_ | with_reducible refine ct_ct ?_ | with_reducible refine tn_rt ?_ | with_reducible refine tn_bk ?_ | with_reducible refine fin_rt ?_ | with_reducible refine fin_nx ?_ | with_reducible refine wifNT ?_ | with_reducible refine wifNF ?_ | with_reducible refine wifT ?_ | with_reducible refine wifF ?_ | with_reducible refine ⟨Nat.le_of_ble_eq_true rfl, ?_⟩ | ((with_reducible refine Exists.intro ?_ (And.intro ?_ ?_)); rotate_left; focus rfl) | ((with_reducible refine Exists.intro ?_ (Exists.intro ?_ (And.intro ?_ ?_))); rotate_left 2; focus rfl))))
local macro_rules | `(tactic| walk_at "mwfn") => `(tactic| ((with_reducible refine wg_fnE (ρ := ?r) ?e ?_); (case e => ((simp only [List.length_cons, List.length_nil, Nat.reduceAdd, Nat.reduceSub, List.replicate, List.cons_append, List.nil_append]); exact rfl))))
local macro_rules | `(tactic| walk_at "abs") => `(tactic| (exfalso; rename_i habs; exact absurd habs (by decide +kernel)))
local macro_rules | `(tactic| walk_at "mwc") => `(tactic| fail)
local macro_rules | `(tactic| walk_at "if1") => `(tactic| (first | with_reducible refine wif (fun h => ?_) (fun h => ?_) | with_reducible refine wif' (fun h => ?_) (fun h => ?_) | with_reducible refine wifB (fun h => ?_) (fun h => ?_) | with_reducible refine wifB' (fun h => ?_) (fun h => ?_)))
local macro_rules | `(tactic| walk_at "go1") => `(tactic| (first | walk_at "mw1" | walk_at "mwc" | walk_at "if1" | with_reducible refine ws_seq ?_))
local macro_rules | `(tactic| walk_at "go") => `(tactic| (repeat' (first | walk_at "mwp" | walk_at "mwc" | walk_at "if1" | with_reducible refine ws_seq ?_)))
local macro_rules | `(tactic| walk_at "ex1") => `(tactic| (first | rfl | assumption | with_reducible refine Exists.intro _ ?_ | with_reducible refine And.intro ?_ ?_ | with_reducible refine ct_nx ?_ | with_reducible refine tn_nx ?_ | with_reducible refine tn_ct ?_ | omega))
local macro_rules | `(tactic| walk_at "ex") => `(tactic| (repeat' walk_at "ex1"))

namespace K8
section
theorem mixed_w {a t : Int} {P : O → List O → Prop} (h : ∀ r : Int, P (.v (.int r)) [.v (.int a), .v (.int t)]) : WG (g_law_mixed [.v (.int a), .v (.int t)]) P := by
  unfold g_law_mixed
  walk_at "mwfn"
  unfold mb_law_mixed
  walk_at "go"
  exact h _
local macro_rules | `(tactic| walk_at "mwc") => `(tactic| with_reducible refine mixed_w fun x => ?_)
theorem take_w {s : List Int} {m : Int} {P : O → List O → Prop} (hs : WF s) (hm : m < 1000000000000000000000000000000) (h : ∀ (r : Int) s', WF s' → (m < 2 → r = 0) → (2 ≤ m → 0 ≤ r ∧ r < m) → P (.v (.int r)) [Sr s', .v (.int m)]) : WG (g_law_take [Sr s, .v (.int m)]) P := by
  obtain ⟨a, b, c, d, e, r, rfl, hb⟩ := hs
  unfold g_law_take
  walk_at "mwfn"
  unfold mb_law_take
  refine ws_seq ?_
  walk_at "mw"
  refine wif (fun h1 => ?_) (fun h1 => ?_)
  · walk_at "mw"
    exact h 0 _ ⟨a, b, c, d, e, r, rfl, hb⟩ (fun _ => rfl) (by omega)
  · walk_at "mw"
    refine ws_cutC (fun ρ => ∃ a b c d e x, ρ = [Sr (a :: b :: c :: d :: e :: r), .v (.int m), x, .n] ∧ 0 ≤ b) ?_ ?_
    · walk_at "go"
      · rename_i h4
        obtain ⟨v, hv⟩ := atI_map (s := (a + 1) :: b :: c :: d :: e :: r) hb (by simpa using h4)
        refine wr_ixL hv ?_
        walk_at "go"
        all_goals exact ct_nx ⟨_, _, _, _, _, _, rfl, by omega⟩
      all_goals exact ct_nx ⟨_, _, _, _, _, _, rfl, hb⟩
    · rintro ρ1 ⟨a, b, c, d, e, x, rfl, hb⟩
      walk_at "go"
      · exact h _ (a :: b :: (c / m) :: d :: e :: r) ⟨_, _, _, _, _, _, rfl, hb⟩ (by omega) (fun _ => ⟨Int.emod_nonneg _ (by omega), Int.emod_lt_of_pos _ (by omega)⟩)
      · exact h _ (a :: b :: c :: _ :: e :: r) ⟨_, _, _, _, _, _, rfl, hb⟩ (by omega) (fun _ => ⟨Int.emod_nonneg _ (by omega), Int.emod_lt_of_pos _ (by omega)⟩)

end
section
local macro_rules | `(tactic| walk_at "mwc") => `(tactic| with_reducible refine take_w (by assumption) (by omega) fun r s' hs' hr1 hr2 => ?_)

local macro_rules | `(tactic| walk_at "mwc") => `(tactic| with_reducible refine take_w (by assumption) (by omega) fun r s' hs' hr1 hr2 => ?_)
local macro_rules | `(tactic| walk_at "abs") => `(tactic| (exfalso; rename_i habs; exact absurd habs (by decide +kernel)))
theorem seqIx {r : Int} {n : Nat} (h0 : 0 ≤ r) (h1 : r < n) : PySem.seqIndex? r n = some r.toNat := by
  have e : ¬ r < 0 := by omega
  have e2 : (decide (0 ≤ r) && decide (r < n)) = true := by simp [h0, h1]
  unfold PySem.seqIndex?
  simp only [if_neg e]
  rw [if_pos e2]
theorem store_w {ns : List Int} {P : O → List O → Prop} (h : ∀ s, WF s → P (Sr s) [.v (.rl (ns.map D.int))]) (hl : ns.length ≤ 63) : WG (g_law_store [.v (.rl (ns.map D.int))]) P := by
  unfold g_law_store
  walk_at "mwfn"
  unfold mb_law_store
  walk_at "mw"
  refine wr_addL (by simp; omega) ?_
  walk_at "mw"
  exact h (0 :: 5 :: 0 :: 0 :: (1 + ((ns.map D.int).length : Int)) :: ns) ⟨_, _, _, _, _, _, rfl, by decide⟩
theorem edge_w {s : List Int} {low high : Int} {P : O → List O → Prop} (hs : WF s) (hm : high - low < 1000000000000000000) (h : ∀ (r : Int) s', WF s' → low ≤ r → (r ≤ high ∨ r = low) → P (.v (.int r)) [Sr s', .v (.int low), .v (.int high)]) : WG (g_law_edge [Sr s, .v (.int low), .v (.int high)]) P := by
  unfold g_law_edge
  walk_at "mwfn"
  unfold mb_law_edge
  walk_at "go"
  · exact h _ _ hs (by omega) (by omega)
  · rename_i r s' hs' _ hr _
    have hc : r = 0 ∨ r = 1 ∨ r = 2 ∨ r = 3 := by have := hr (by omega); omega
    rcases hc with rfl | rfl | rfl | rfl
    all_goals (walk_at "mw"; exact h _ _ hs' (by omega) (by omega))
  · rename_i r s' hs' _ hr _ r2 s2 hs2 hr1 hr2
    refine h _ _ hs2 ?_ ?_
    · by_cases hq : high - low + 1 < 2
      · have := hr1 hq; omega
      · have := hr2 (by omega); omega
    · by_cases hq : high - low + 1 < 2
      · have := hr1 hq; omega
      · have := hr2 (by omega); omega
theorem pick_ix {n : Nat} {r : Int} (h0 : 0 < n) (hr1 : (n : Int) < 2 → r = 0) (hr2 : 2 ≤ (n : Int) → 0 ≤ r ∧ r < n) : 0 ≤ r ∧ r < n := by
  by_cases hq : (n : Int) < 2
  · have := hr1 hq; omega
  · exact hr2 (by omega)
theorem pickV_w {s : List Int} {ds : List D} {P : O → List O → Prop} (hs : WF s) (h0 : 0 < ds.length) (hz : ds.length ≤ 1000000) (h : ∀ d s', WF s' → d ∈ ds → P (.v d) [Sr s', .v (.lst ds)]) : WG (g_law_pick [Sr s, .v (.lst ds)]) P := by
  unfold g_law_pick
  walk_at "mwfn"
  unfold mb_law_pick
  walk_at "go"
  rename_i r s' hs' hr1 hr2
  have q := pick_ix h0 hr1 hr2
  refine wr_ixL' q.1 q.2 fun k hk => ?_
  walk_at "mw"
  exact h k _ hs' hk
theorem pickL_w {s : List Int} {ds : List D} {P : O → List O → Prop} (hs : WF s) (h0 : 0 < ds.length) (hz : ds.length ≤ 1000000) (h : ∀ d s', WF s' → d ∈ ds → P (.v d) [Sr s', .l ds]) : WG (g_law_pick [Sr s, .l ds]) P := by
  unfold g_law_pick
  walk_at "mwfn"
  unfold mb_law_pick
  walk_at "go"
  rename_i r s' hs' hr1 hr2
  have q := pick_ix h0 hr1 hr2
  refine wr_ixL' q.1 q.2 fun k hk => ?_
  walk_at "mw"
  exact h k _ hs' hk
theorem shuffle_w {s : List Int} {ds : List D} {P : O → List O → Prop} (hs : WF s) (hz : ds.length ≤ 100000) (h : ∀ es s', WF s' → es.Perm ds → P (.l es) [Sr s', .l ds]) : WG (g_law_shuffle [Sr s, .l ds]) P := by
  unfold g_law_shuffle
  walk_at "mwfn"
  unfold mb_law_shuffle
  walk_at "go"
  refine ⟨big_of (by omega) (by omega), ?_⟩
  refine wf_inv (fun i ρ => ∃ s2 left out x, ρ = [Sr s2, .l ds, .l left, .l out, x] ∧ WF s2 ∧ left.length + i = ds.length ∧ (out ++ left).Perm ds) ⟨s, ds, [], _, rfl, hs, rfl, .refl _⟩ (fun i d ρ hd hi => ?_) (fun ρ hi => ?_)
  · obtain ⟨s2, left, out, x, rfl, hs2, hl, hp⟩ := hi
    obtain ⟨hi, rfl⟩ := rngD_get hd
    refine ⟨_, rfl, ?_⟩
    walk_at "mw"
    refine we_popAt rfl ?_
    walk_at "go"
    rename_i r s' hs' hr1 hr2
    have q := pick_ix (n := left.length) (by omega) hr1 hr2
    have hj : r.toNat < left.length := by omega
    refine ⟨big_of (by omega) (by omega), ?_⟩
    refine wx_i (j := r.toNat) ?_ ⟨left[r.toNat], List.getElem?_eq_getElem hj, ?_⟩
    · exact seqIx q.1 q.2
    walk_at "mw"
    have hlo : out.length + left.length = ds.length := by have := hp.length_eq; simpa using this
    refine ⟨by omega, tn_nx ⟨s', left.eraseIdx r.toNat, out ++ [left[r.toNat]], _, rfl, hs', by rw [List.length_eraseIdx_of_lt hj]; omega, ?_⟩⟩
    rw [List.append_assoc]
    refine (List.Perm.append_left out ?_).trans hp
    have e := List.eraseIdx_eq_take_drop_succ left r.toNat
    rw [e]
    have e2 : left = left.take r.toNat ++ (left[r.toNat] :: left.drop (r.toNat + 1)) := by
      rw [← List.drop_eq_getElem_cons hj, List.take_append_drop]
    conv => rhs; rw [e2]
    rw [List.singleton_append]
    exact List.perm_middle.symm
  · obtain ⟨s2, left, out, x, rfl, hs2, hl, hp⟩ := hi
    rw [rngD_length] at hl
    have : left = [] := List.length_eq_zero_iff.mp (by omega)
    subst this
    refine sq_nx ?_
    walk_at "mw"
    exact h out s2 hs2 (by simpa using hp)

end
section
local macro_rules | `(tactic| walk_at "mwc") => `(tactic| with_reducible refine take_w (by assumption) (by omega) fun r s' hs' hr1 hr2 => ?_)

def so : D → Int
  | .non => 0 | .bl _ => 1 | .int _ => 2 | .str _ => 3 | .tup _ => 4 | .lst _ => 5 | _ => 7
theorem sort_w {d : D} {P : O → List O → Prop} (hv : Va d) (h : P (.v (.int (so d))) [.v d]) : WG (g_law_sort [.v d]) P := by
  unfold g_law_sort
  walk_at "mwfn"
  unfold mb_law_sort
  cases hv
  all_goals
    repeat (first | walk_at "mw1" | with_reducible refine ws_seq ?_)
    exact h
/-- pairs of equals -/
def prs (es : List D) : List D := es.map fun d => .tup [d, d]
theorem prs_snoc (es : List D) (d : D) : prs (es ++ [d]) = prs es ++ [.tup [d, d]] := by simp [prs]
theorem prs_len (es : List D) : (prs es).length = es.length := by simp [prs]
def kids : D → List D
  | .tup ds => ds | .lst ds => ds | _ => []
theorem same_w {o1 o2 : O} {d : D} {P : O → List O → Prop} (h1 : toD o1 = some d) (h2 : toD o2 = some d) (hv : Va d) (hz : sz d ≤ 399000) (h : P (.v (.bl true)) [.v d, .v d]) : WG (g_law_same [o1, o2]) P := by
  unfold g_law_same
  walk_at "mwfn"
  unfold mb_law_same
  walk_at "mw"
  refine we_varO rfl h1 ?_
  walk_at "mw"
  refine we_varO rfl h2 ?_
  walk_at "mw"
  refine ws_seq ?_
  walk_at "mw"
  refine ⟨big_of (by decide) (by decide), ?_⟩
  refine wf_inv (fun i ρ => ∃ es x3 x4 x5 x6 x7 x9, (∀ e ∈ es, Va e) ∧ i + szs es ≤ 399000 ∧ ρ = [.v d, .v d, .l (prs es), x3, x4, x5, x6, x7, .n, x9]) ⟨[d], _, _, _, _, _, _, by simpa using hv, by simp only [szs]; omega, rfl⟩ (fun i d0 ρ hd hi => ?_) (fun ρ hi => ?_)
  · obtain ⟨es, x3, x4, x5, x6, x7, x9, hall, hw, rfl⟩ := hi
    obtain ⟨hi, rfl⟩ := rngD_get hd
    refine ⟨_, rfl, ?_⟩
    refine ws_seq ?_
    walk_at "mw"
    refine wif (fun h3 => ?_) (fun h3 => ?_)
    · walk_at "mw"
      exact h
    · rcases List.eq_nil_or_concat es with rfl | ⟨es, e, rfl⟩
      · exact absurd rfl h3
      · simp only [List.concat_eq_append] at *
        rw [szs_app] at hw
        simp only [szs] at hw
        have hp := sz_pos e
        have hle := len_szs es
        have hve : Va e := hall e (by simp)
        replace hall : ∀ x ∈ es, Va x := fun x hx => hall x (by simp [hx])
        rw [prs_snoc]
        walk_at "mw"
        refine we_pop rfl (last_snoc _ _) ?_
        rw [dropLast_snoc]
        walk_at "mw"
        refine sort_w hve ?_
        walk_at "mw"
        refine ws_seq ?_
        walk_at "mw"
        refine wif (fun h4 => ?_) (fun h4 => ?_)
        · exfalso
          cases hve <;> exact absurd h4 (by simp [so])
        · walk_at "mw"
          refine sort_w hve ?_
          walk_at "mw"
          refine wifB (fun h5 => ?_) (fun h5 => ?_)
          · exfalso
            simp at h5
          · walk_at "mw"
            refine wif (fun h6 => ?_) (fun h6 => ?_)
            · cases hve with
              | non =>
                walk_at "mw"
                exact tn_nx ⟨es, _, _, _, _, _, _, hall, by omega, rfl⟩
              | bl =>
                walk_at "mw"
                refine wifB (fun h5 => ?_) (fun h5 => ?_)
                · exfalso
                  simp at h5
                · walk_at "mw"
                  exact tn_nx ⟨es, _, _, _, _, _, _, hall, by omega, rfl⟩
              | int =>
                walk_at "mw"
                refine wifB (fun h5 => ?_) (fun h5 => ?_)
                · exfalso
                  simp at h5
                · walk_at "mw"
                  exact tn_nx ⟨es, _, _, _, _, _, _, hall, by omega, rfl⟩
              | str =>
                walk_at "mw"
                refine wifB (fun h5 => ?_) (fun h5 => ?_)
                · exfalso
                  simp at h5
                · walk_at "mw"
                  exact tn_nx ⟨es, _, _, _, _, _, _, hall, by omega, rfl⟩
              | tup h7 => exact absurd h6 (by simp [so])
              | lst h7 => exact absurd h6 (by simp [so])
            · cases hve with
              | non => exact absurd (show so .non < 4 by decide) h6
              | bl => exact absurd (show (1 : Int) < 4 by decide) h6
              | int => exact absurd (show (2 : Int) < 4 by decide) h6
              | str => exact absurd (show (3 : Int) < 4 by decide) h6
              | tup h7 =>
                rename_i ds
                simp only [sz] at hw
                have hld := len_szs ds
                walk_at "mw"
                refine wifB (fun h5 => ?_) (fun h5 => ?_)
                · exfalso
                  simp at h5
                · walk_at "mw"
                  refine wif (fun h8 => ?_) (fun h8 => ?_)
                  · exact absurd h8 (by simp [so])
                  · walk_at "mw"
                    refine ⟨big_of (by omega) (by omega), ?_⟩
                    refine wf_inv (fun j ρ => ∃ x9, ρ = [.v d, .v d, .l (prs (es ++ ds.take j)), .v (.int (0 + (i : Int))), .v (.tup [.tup ds, .tup ds]), .v (.tup ds), .v (.tup ds), .v (.int (so (.tup ds))), .n, x9]) ⟨x9, by simp⟩ (fun j d1 ρ hd1 hj => ?_) (fun ρ hj => ?_)
                    · obtain ⟨y9, rfl⟩ := hj
                      obtain ⟨hj, rfl⟩ := rngD_get hd1
                      have hj : j < ds.length := by omega
                      have hat : L2.atI ds (0 + (j : Int)) = some ds[j] := atI_of (by omega) (by rw [show (0 + (j : Int)).toNat = j by omega]; exact List.getElem?_eq_getElem hj)
                      refine ⟨_, rfl, ?_⟩
                      walk_at "mw"
                      refine wr_ixT hat ?_
                      walk_at "mw"
                      refine wr_ixT hat ?_
                      walk_at "mw"
                      refine ⟨by rw [prs_len, List.length_append, List.length_take]; omega, ?_⟩
                      refine tn_nx ⟨.v (.int (0 + (j : Int))), ?_⟩
                      rw [List.take_succ_eq_append_getElem hj, ← List.append_assoc, prs_snoc]
                      rfl
                    · obtain ⟨y9, rfl⟩ := hj
                      rw [rngD_length, show ((ds.length : Int)).toNat = ds.length by omega, List.take_length]
                      refine tn_nx ⟨es ++ ds, _, _, _, _, _, _, ?_, by rw [szs_app]; omega, rfl⟩
                      intro x hx
                      rcases List.mem_append.mp hx with hx | hx
                      · exact hall x hx
                      · exact h7 x hx
              | lst h7 =>
                rename_i ds
                simp only [sz] at hw
                have hld := len_szs ds
                walk_at "mw"
                refine wifB (fun h5 => ?_) (fun h5 => ?_)
                · exfalso
                  simp at h5
                · walk_at "mw"
                  refine wif (fun h8 => ?_) (fun h8 => ?_)
                  · exact absurd h8 (by simp [so])
                  · walk_at "mw"
                    refine ⟨big_of (by omega) (by omega), ?_⟩
                    refine wf_inv (fun j ρ => ∃ x9, ρ = [.v d, .v d, .l (prs (es ++ ds.take j)), .v (.int (0 + (i : Int))), .v (.tup [.lst ds, .lst ds]), .v (.lst ds), .v (.lst ds), .v (.int (so (.lst ds))), .n, x9]) ⟨x9, by simp⟩ (fun j d1 ρ hd1 hj => ?_) (fun ρ hj => ?_)
                    · obtain ⟨y9, rfl⟩ := hj
                      obtain ⟨hj, rfl⟩ := rngD_get hd1
                      have hj : j < ds.length := by omega
                      have hat : L2.atI ds (0 + (j : Int)) = some ds[j] := atI_of (by omega) (by rw [show (0 + (j : Int)).toNat = j by omega]; exact List.getElem?_eq_getElem hj)
                      refine ⟨_, rfl, ?_⟩
                      walk_at "mw"
                      refine wr_ixL hat ?_
                      walk_at "mw"
                      refine wr_ixL hat ?_
                      walk_at "mw"
                      refine ⟨by rw [prs_len, List.length_append, List.length_take]; omega, ?_⟩
                      refine tn_nx ⟨.v (.int (0 + (j : Int))), ?_⟩
                      rw [List.take_succ_eq_append_getElem hj, ← List.append_assoc, prs_snoc]
                      rfl
                    · obtain ⟨y9, rfl⟩ := hj
                      rw [rngD_length, show ((ds.length : Int)).toNat = ds.length by omega, List.take_length]
                      refine tn_nx ⟨es ++ ds, _, _, _, _, _, _, ?_, by rw [szs_app]; omega, rfl⟩
                      intro x hx
                      rcases List.mem_append.mp hx with hx | hx
                      · exact hall x hx
                      · exact h7 x hx
  · obtain ⟨es, x3, x4, x5, x6, x7, x9, hall, hw, rfl⟩ := hi
    rw [rngD_length] at hw
    exact absurd hw (by omega)

end
section
local macro_rules | `(tactic| walk_at "mwc") => `(tactic| with_reducible refine take_w (by assumption) (by omega) fun r s' hs' hr1 hr2 => ?_)

open Mr.T in
theorem parts_w {ar : Nat → Option Nat} {t : T} {P : O → List O → Prop} (hok : T.Ok ar t) (h : P (.v (.tup (T.encs t.ts))) [.v (T.enc t)]) : WG (g_law_parts [.v (T.enc t)]) P := by
  obtain ⟨m, ts⟩ := t
  unfold g_law_parts
  walk_at "mwfn"
  unfold mb_law_parts
  rw [T.Ok] at hok
  cases m <;> simp only [T.okM] at hok
  case b =>
    obtain ⟨u, rfl⟩ := List.length_eq_one_iff.mp hok.1
    simp only [T.enc, T.encs, Mk.s, Mk.d, T.ts] at h ⊢
    walk_at "go"
    exact h
  case o n =>
    simp only [T.enc, Mk.s, Mk.d, T.ts] at h ⊢
    walk_at "go"
    exact h
  case c f =>
    simp only [T.enc, Mk.s, Mk.d, T.ts] at h ⊢
    walk_at "go"
    exact h
  all_goals
    obtain rfl := List.length_eq_zero_iff.mp hok.1
    simp only [T.enc, T.encs, Mk.s, Mk.d, T.ts] at h ⊢
    walk_at "go"
    exact h
theorem with_w {ar : Nat → Option Nat} {m : Mk} {ts us : List T} {P : O → List O → Prop} {o : O} (ho : LS (T.encs us) o) (hok : T.Ok ar (.mk m ts)) (hl : us.length = ts.length) (h : ∀ o', P (.v (T.enc (.mk m us))) [.v (T.enc (.mk m ts)), o']) : WG (g_law_with [.v (T.enc (.mk m ts)), o]) P := by
  unfold g_law_with
  walk_at "mwfn"
  unfold mb_law_with
  rw [T.Ok] at hok
  cases m <;> simp only [T.okM] at hok
  case b =>
    obtain ⟨u, rfl⟩ := List.length_eq_one_iff.mp hok.1
    obtain ⟨v, rfl⟩ := List.length_eq_one_iff.mp (show us.length = 1 from hl)
    simp only [T.enc, T.encs, Mk.s, Mk.d] at h ho ⊢
    cases ho
    all_goals
      walk_at "go"
      exact h _
  case o n =>
    simp only [T.enc, Mk.s, Mk.d] at h ⊢
    cases ho
    all_goals
      walk_at "go"
      exact h _
  case c f =>
    simp only [T.enc, Mk.s, Mk.d] at h ⊢
    cases ho
    all_goals
      walk_at "go"
      exact h _
  all_goals
    obtain rfl := List.length_eq_zero_iff.mp hok.1
    obtain rfl := List.length_eq_zero_iff.mp hl
    simp only [T.enc, T.encs, Mk.s, Mk.d] at h ho ⊢
    cases ho
    all_goals
      walk_at "go"
      exact h _
theorem nodes_w {ar : Nat → Option Nat} {t : T} {P : O → List O → Prop} (hok : T.Ok ar t) (hz : T.sz t ≤ 90000) (h : P (.l ((T.pre t).map T.enc)) [.v (T.enc t)]) : WG (g_law_nodes [.v (T.enc t)]) P := by
  unfold g_law_nodes
  walk_at "mwfn"
  unfold mb_law_nodes
  walk_at "go"
  refine ⟨big_of (by decide) (by decide), ?_⟩
  refine wf_inv (fun i ρ => ∃ (A S : List T) (x3 x4 x5 x6 : O), ρ = [.v (T.enc t), .l (A.map T.enc), .l (S.reverse.map T.enc), x3, x4, x5, x6] ∧ A ++ T.pres S = T.pre t ∧ A.length = i ∧ ∀ u ∈ S, T.Ok ar u) ⟨[], [t], _, _, _, _, rfl, by simp [T.pres], rfl, by simpa using hok⟩ (fun i d ρ hd hi => ?_) (fun ρ hi => ?_)
  · obtain ⟨A, S, x3, x4, x5, x6, rfl, he, hl, hS⟩ := hi
    obtain ⟨hi, rfl⟩ := rngD_get hd
    have hlen := congrArg List.length he
    rw [List.length_append, T.pres_len, T.pre_len] at hlen
    refine ⟨_, rfl, ?_⟩
    cases S with
    | nil =>
      walk_at "go"
      · have : A = T.pre t := by simpa [T.pres] using he
        rw [this]
        exact h
      · exfalso; rename_i habs; exact habs rfl
    | cons u S =>
      have hS1 : T.Ok ar u := hS u List.mem_cons_self
      have hus : ((u :: S).reverse.map T.enc) = S.reverse.map T.enc ++ [T.enc u] := by simp
      rw [hus]
      walk_at "go"
      · exfalso; rename_i habs; simp at habs; omega
      refine we_pop rfl (last_snoc _ _) ?_
      rw [dropLast_snoc]
      walk_at "go"
      refine ⟨by rw [List.length_map]; omega, ?_⟩
      walk_at "go"
      refine parts_w hS1 ?_
      walk_at "go"
      have hsz : T.sz u = 1 + T.szs u.ts := by cases u; rfl
      have hln := T.len_szs u.ts
      have hpos := T.len_szs S
      rw [T.szs] at hlen
      have hel : (T.encs u.ts).length = u.ts.length := by rw [T.encs_map, List.length_map]
      refine ⟨big_of (by rw [hel]; omega) (by rw [hel]; omega), ?_⟩
      refine wf_inv (fun j ρ => ∃ x6, ρ = [.v (T.enc t), .l ((A ++ [u]).map T.enc), .l (S.reverse.map T.enc ++ ((u.ts.drop (u.ts.length - j)).reverse).map T.enc), .v (.int (0 + (i : Int))), .v (T.enc u), .v (.tup (T.encs u.ts)), x6]) ⟨x6, by simp⟩ (fun j d ρ hd hi => ?_) (fun ρ hi => ?_)
      · obtain ⟨x6, rfl⟩ := hi
        obtain ⟨hj, rfl⟩ := rngD_get hd
        rw [hel] at hj
        refine ⟨_, rfl, ?_⟩
        walk_at "go"
        have hjl : u.ts.length - 1 - j < u.ts.length := by omega
        refine wr_ixTn (j := u.ts.length - 1 - j) (by rw [hel]; omega) (by rw [T.encs_map, List.getElem?_map, List.getElem?_eq_getElem hjl]; rfl) ?_
        walk_at "go"
        refine ⟨by simp; omega, ?_⟩
        refine tn_nx ⟨.v (.int (0 + (j : Int))), ?_⟩
        have e : u.ts.drop (u.ts.length - (j + 1)) = u.ts[u.ts.length - 1 - j] :: u.ts.drop (u.ts.length - j) := by
          rw [show u.ts.length - (j + 1) = u.ts.length - 1 - j by omega, List.drop_eq_getElem_cons hjl, show u.ts.length - 1 - j + 1 = u.ts.length - j by omega]
        rw [e]
        simp
      · obtain ⟨x6, rfl⟩ := hi
        rw [rngD_length, hel] at *
        refine tn_nx ⟨A ++ [u], u.ts ++ S, .v (.int (0 + (i : Int))), .v (T.enc u), .v (.tup (T.encs u.ts)), x6, ?_, ?_, ?_, ?_⟩
        · simp
        · rw [T.pres_app, ← he, T.pres, T.pre_eq]; simp
        · simp [hl]
        · intro v hv
          rcases List.mem_append.mp hv with hv | hv
          · exact hS1.ts v hv
          · exact hS v (List.mem_cons_of_mem _ hv)
  · obtain ⟨A, S, x3, x4, x5, x6, rfl, he, hl, hS⟩ := hi
    exfalso
    rw [rngD_length] at hl
    have hlen := congrArg List.length he
    rw [List.length_append, T.pres_len, T.pre_len] at hlen
    have : ((100000 : Int).toNat) = 100000 := rfl
    omega

end
section
local macro_rules | `(tactic| walk_at "mwc") => `(tactic| with_reducible refine take_w (by assumption) (by omega) fun r s' hs' hr1 hr2 => ?_)

def kcell (r : List Nat) : O := .l (r.map nat)
def kidsD (N : List T) : D := .lst ((T.kids N).map fun r => .lst (r.map nat))
theorem toDs_map {α : Type} {f : α → O} {g : α → D} (h : ∀ a, toD (f a) = some (g a)) : ∀ l : List α, toDs (l.map f) = some (l.map g)
  | [] => by simp [toDs]
  | a :: l => by rw [List.map_cons, toDs, h, Option.bind_some, toDs_map h l]; rfl
theorem kids_w {ar : Nat → Option Nat} {N : List T} {o : O} {P : O → List O → Prop} (ho : LS (N.map T.enc) o) (hN : T.PreL N) (hok : ∀ u ∈ N, T.Ok ar u) (hz : N.length ≤ 100000) (h : P (.v (kidsD N)) [.v (.lst (N.map T.enc))]) : WG (g_law_kids [o]) P := by
  have hl : (N.map T.enc).length = N.length := List.length_map _
  have body : WG (g_law_kids [.v (.lst (N.map T.enc))]) P ∧ WG (g_law_kids [.l (N.map T.enc)]) P := by
    constructor
    all_goals
      unfold g_law_kids
      walk_at "mwfn"
      unfold mb_law_kids
      walk_at "go"
      refine ⟨by omega, fun i acc ρ => acc = List.replicate i (.l []) ∧ ρ = [.v (.lst (N.map T.enc)), .n, .n, .n, .n, .n, .n], ⟨rfl, rfl⟩, fun i d acc ρ hd hi => ?_, fun acc ρ hi => ?_⟩
      · obtain ⟨rfl, rfl⟩ := hi
        refine ⟨_, rfl, ?_⟩
        walk_at "go"
        exact ⟨by rw [List.replicate_succ'], rfl⟩
      obtain ⟨rfl, rfl⟩ := hi
      walk_at "go"
      refine ⟨by omega, fun i acc ρ => acc = List.replicate i (.int 1) ∧ ρ = [.v (.lst (N.map T.enc)), .g .lst (List.replicate (N.map T.enc).length (.l [])), .n, .n, .n, .n, .n], ⟨rfl, rfl⟩, fun i d acc ρ hd hi => ?_, fun acc ρ hi => ?_⟩
      · obtain ⟨rfl, rfl⟩ := hi
        refine ⟨_, rfl, ?_⟩
        walk_at "go"
        exact ⟨by rw [List.replicate_succ'], rfl⟩
      obtain ⟨rfl, rfl⟩ := hi
      walk_at "go"
      refine ⟨big_of (by omega) (by omega), ?_⟩
      refine wf_inv (fun i ρ => ∃ (K : List O) (S : List D) (x3 x4 x5 : O), ρ = [.v (.lst (N.map T.enc)), .g .lst K, .l S, x3, x4, x5, .n] ∧ K.length = N.length ∧ S.length = N.length ∧ (∀ j u, N[j]? = some u → N.length - i ≤ j → K[j]? = some (kcell (T.offs (j + 1) u.ts)) ∧ S[j]? = some (nat (T.sz u))) ∧ ∀ j, j < N.length - i → K[j]? = some (.l [])) ⟨_, _, _, _, _, rfl, by simp, by simp, fun j u hj hn => ?_, fun j hj => ?_⟩ (fun i d ρ hd hi => ?_) (fun ρ hi => ?_)
      · have := (List.getElem?_eq_some_iff.mp hj).1; omega
      · rw [List.getElem?_replicate, if_pos (by omega)]
      · obtain ⟨K, S, x3, x4, x5, rfl, hK, hS, hd1, hd2⟩ := hi
        obtain ⟨hi, rfl⟩ := revD_get hd
        rw [hl] at hi
        have hk : N.length - 1 - i < N.length := by omega
        refine ⟨_, rfl, ?_⟩
        have ek : (0 + ((((N.map T.enc).length : Int).toNat : Nat) : Int) - 1 - (i : Int)) = ((N.length - 1 - i : Nat) : Int) := by rw [hl]; omega
        rw [ek]
        generalize hke : N.length - 1 - i = k at *
        have hu : N[k]? = some N[k] := List.getElem?_eq_getElem hk
        generalize hue : N[k] = u at *
        have huok : T.Ok ar u := hok u (by rw [← hue]; exact List.getElem_mem hk)
        walk_at "go"
        refine wr_ixLn (j := k) rfl (by rw [List.getElem?_map, hu]; rfl) ?_
        walk_at "go"
        refine parts_w huok ?_
        walk_at "go"
        have hel : (T.encs u.ts).length = u.ts.length := by rw [T.encs_map, List.length_map]
        have hKk : K[k]? = some (.l []) := hd2 k (by omega)
        obtain ⟨rr, hrr⟩ := T.drop_succ hN hu
        refine wf_inv (fun p ρ => ∃ (x5 : O), ρ = [.v (.lst (N.map T.enc)), .g .lst (K.set k (kcell (T.offs (k + 1) (u.ts.take p)))), .l S, .v (.int (k : Int)), .v (.int ((k + 1 + T.szs (u.ts.take p) : Nat) : Int)), x5, .n]) ⟨x5, ?_⟩ (fun p d ρ hd hi => ?_) (fun ρ hi => ?_)
        · have : K.set k (kcell (T.offs (k + 1) (u.ts.take 0))) = K := by
            rw [List.take_zero]
            exact set_same hKk
          rw [this]
          rfl
        · obtain ⟨x5, rfl⟩ := hi
          have hp : p < u.ts.length := by
            have := (List.getElem?_eq_some_iff.mp hd).1; omega
          refine ⟨_, rfl, ?_⟩
          walk_at "go"
          refine we_apAt (ds := (T.offs (k + 1) (u.ts.take p)).map nat) rfl rfl rfl (by omega) ?_ ?_ ?_
          · rw [Int.toNat_natCast, List.getElem?_set_self (by omega)]; rfl
          · rw [List.length_map, T.offs_len, List.length_take]
            have h1 := T.len_szs u.ts
            have h2 := congrArg List.length hrr
            rw [List.length_drop, List.length_append, T.pres_len] at h2
            omega
          walk_at "go"
          have etk : u.ts.take (p + 1) = u.ts.take p ++ [u.ts[p]] := List.take_succ_eq_append_getElem hp
          have hq : (T.offs (k + 1) u.ts)[p]? = some (k + 1 + T.szs (u.ts.take p)) := by
            have e2 : u.ts = u.ts.take p ++ (u.ts[p] :: u.ts.drop (p + 1)) := by rw [← List.drop_eq_getElem_cons hp, List.take_append_drop]
            conv => lhs; rw [e2]
            rw [T.offs_app, List.getElem?_append_right (by rw [T.offs_len, List.length_take]; omega), T.offs_len, List.length_take, show p - min p u.ts.length = 0 by omega]
            rfl
          have hat : N[k + 1 + T.szs (u.ts.take p)]? = some u.ts[p] := T.kid_at hN hu hq (List.getElem?_eq_getElem hp)
          obtain ⟨g1, g2⟩ := hd1 _ _ hat (by omega)
          refine wr_ixLn (j := k + 1 + T.szs (u.ts.take p)) rfl g2 ?_
          walk_at "go"
          refine tn_nx ⟨.v d, ?_⟩
          rw [etk, T.offs_app, T.szs_app, Int.toNat_natCast, List.set_set]
          have e3 : (((k + 1 + T.szs (u.ts.take p) : Nat) : Int) + (T.sz u.ts[p] : Int)) = ((k + 1 + (T.szs (u.ts.take p) + T.szs [u.ts[p]]) : Nat) : Int) := by simp only [T.szs]; omega
          rw [← e3]
          simp only [kcell, T.offs, List.map_append, List.map_cons, List.map_nil, nat]
          rfl
        · obtain ⟨x5, rfl⟩ := hi
          rw [hel, List.take_length]
          refine sq_nx ?_
          walk_at "go"
          refine wx_nat (j := k) rfl (by omega) ?_
          refine tn_nx ⟨_, _, _, _, _, rfl, by simp [hK], by simp [hS], fun j v hj hn => ?_, fun j hj => ?_⟩
          · by_cases hjk : j = k
            · subst hjk
              have : u = v := Option.some.inj (hu.symm.trans hj)
              subst this
              refine ⟨List.getElem?_set_self (by omega), ?_⟩
              rw [List.getElem?_set_self (by omega)]
              congr 1
              have hsz : T.sz u = 1 + T.szs u.ts := by cases u; rfl
              show D.int _ = D.int _
              congr 1
              rw [hsz]
              omega
            · rw [List.getElem?_set_ne (by omega), List.getElem?_set_ne (by omega)]
              exact hd1 j v hj (by omega)
          · rw [List.getElem?_set_ne (by omega)]
            exact hd2 j (by omega)
      · obtain ⟨K, S, x3, x4, x5, rfl, hK, hS, hd1, hd2⟩ := hi
        have hn : (revD 0 (((N.map T.enc).length : Int).toNat)).length = N.length := by
          unfold revD
          rw [List.length_reverse, rngD_length, hl]
          omega
        rw [hn] at hd1
        have hKe : K = (T.kids N).map kcell := by
          refine List.ext_getElem? fun j => ?_
          rw [List.getElem?_map]
          by_cases hj : j < N.length
          · have hu : N[j]? = some N[j] := List.getElem?_eq_getElem hj
            rw [(hd1 j _ hu (by omega)).1, T.kids_get hu]
            rfl
          · rw [List.getElem?_eq_none (by omega), List.getElem?_eq_none (by rw [T.kids_len]; omega)]
            rfl
        refine sq_nx ?_
        walk_at "go"
        refine we_varO rfl (d := kidsD N) ?_ ?_
        · rw [hKe, toD, toDs_map (g := fun r => .lst (r.map nat)) fun r => by simp [kcell, toD]]
          rfl
        walk_at "go"
        exact h
  cases ho
  · exact body.1
  · exact body.2

end
section
local macro_rules | `(tactic| walk_at "mwc") => `(tactic| with_reducible refine take_w (by assumption) (by omega) fun r s' hs' hr1 hr2 => ?_)

theorem swap_w {ar : Nat → Option Nat} {t part : T} {n : Nat} {P : O → List O → Prop} (hok : T.Ok ar t) (hz : T.sz t ≤ 90000) (hn : n < T.sz t) (h : P (.v (T.enc (T.repl t n part))) [.v (T.enc t), .v (nat n), .v (T.enc part)]) : WG (g_law_swap [.v (T.enc t), .v (nat n), .v (T.enc part)]) P := by
  have hlen := T.pre_len t
  have hml : ((T.pre t).map T.enc).length = T.sz t := by rw [List.length_map, hlen]
  have hpo : ∀ u ∈ T.pre t, T.Ok ar u := T.pre_ok hok
  unfold g_law_swap
  walk_at "mwfn"
  unfold mb_law_swap
  unfold nat
  walk_at "go"
  refine nodes_w hok hz ?_
  walk_at "go"
  refine kids_w .l (T.pre_L t) hpo (by omega) ?_
  walk_at "go"
  refine wx_nat (j := n) rfl (by rw [hml]; exact hn) ?_
  walk_at "go"
  refine ⟨big_of (by omega) (by omega), ?_⟩
  refine wf_inv (fun i ρ => ∃ (Bl : List D) (c : Nat) (v : T) (x7 : O), ρ = [.v (T.enc t), .v (.int (n : Int)), .v (T.enc part), .v (.lst ((T.pre t).map T.enc)), .v (kidsD (T.pre t)), .l Bl, .v (.int (c : Int)), x7, .n] ∧ Bl.length = T.sz t ∧ (T.pre t)[c]? = some v ∧ c ≤ n ∧ n < c + T.sz v ∧ Bl[c]? = some (T.enc (T.repl v (n - c) part)) ∧ (∀ j u, j < c ∨ n < j → (T.pre t)[j]? = some u → Bl[j]? = some (T.enc u)) ∧ ∀ k u, n - i ≤ k → k < c → (T.pre t)[k]? = some u → c ∉ T.offs (k + 1) u.ts) ?_ (fun i d ρ hd hi => ?_) (fun ρ hi => ?_)
  · have hv : (T.pre t)[n]? = some (T.pre t)[n] := List.getElem?_eq_getElem (by omega)
    have hvs := T.sz_pos (T.pre t)[n]
    refine ⟨_, n, _, .n, rfl, by rw [List.length_set, hml], hv, Nat.le_refl _, by omega, ?_, fun j u hj hu => ?_, fun k u h1 h2 => by omega⟩
    · rw [List.getElem?_set_self (by rw [hml]; exact hn), Nat.sub_self]
      cases (T.pre t)[n]
      rfl
    · rw [List.getElem?_set_ne (by omega), List.getElem?_map, hu]
      rfl
  · obtain ⟨Bl, c, v, x7, rfl, hB, hc, hcn, hcv, hBc, hBo, hpar⟩ := hi
    obtain ⟨hi, rfl⟩ := revD_get hd
    have hin : i < n := by omega
    have ek : (0 + (((n : Int).toNat : Nat) : Int) - 1 - (i : Int)) = ((n - 1 - i : Nat) : Int) := by omega
    rw [ek]
    generalize hk : n - 1 - i = k at *
    have hkl : k < (T.pre t).length := by omega
    have hu : (T.pre t)[k]? = some (T.pre t)[k] := List.getElem?_eq_getElem hkl
    generalize (T.pre t)[k] = u at hu
    have huo := hpo u (List.mem_of_getElem? hu)
    have hkk : ((T.kids (T.pre t)).map fun r => D.lst (r.map nat))[k]? = some (.lst ((T.offs (k + 1) u.ts).map nat)) := by rw [List.getElem?_map, T.kids_get hu]; rfl
    refine ⟨_, rfl, ?_⟩
    walk_at "go"
    unfold kidsD
    refine wr_ixLn (j := k) rfl hkk ?_
    walk_at "go"
    refine wr_inL rfl (flat_nat _) ?_
    walk_at "go"
    · rename_i hin2
      have hcm : c ∈ T.offs (k + 1) u.ts := any_nat.mp hin2
      obtain ⟨q, hq, hqe⟩ := List.getElem_of_mem hcm
      have hq' : (T.offs (k + 1) u.ts)[q]? = some c := by rw [List.getElem?_eq_getElem hq, hqe]
      have hqt : q < u.ts.length := by rw [← T.offs_len (k + 1) u.ts]; exact hq
      have hqv : u.ts[q]? = some v := by
        have a := T.kid_at (T.pre_L t) hu hq' (List.getElem?_eq_getElem hqt)
        rw [List.getElem?_eq_getElem hqt]
        exact a.symm.trans hc
      have hrch := T.offs_reach hq' hqv
      refine wr_ixLn (j := k) rfl (by rw [List.getElem?_map, hu]; rfl) ?_
      walk_at "go"
      refine wr_ixLn (j := k) rfl hkk ?_
      walk_at "go"
      have hval : ∀ j, j ∈ T.offs (k + 1) u.ts → ∃ d, Bl[j]? = some d := fun j hj => by
        have := (T.kid_bound (T.pre_L t) hu hj).2
        exact ⟨Bl[j]'(by omega), List.getElem?_eq_getElem (by omega)⟩
      have hol := T.offs_len (k + 1) u.ts
      have hul := T.len_szs u.ts
      have hub : T.szs u.ts < T.sz t := by
        obtain ⟨r, e⟩ := T.drop_succ (T.pre_L t) hu
        have h2 := congrArg List.length e
        rw [List.length_drop, List.length_append, T.pres_len] at h2
        omega
      refine ⟨by rw [List.length_map]; omega, fun m acc ρ => acc = ((T.offs (k + 1) u.ts).take m).map (fun j => Bl.getD j .non) ∧ ρ = [.v (T.enc t), .v (.int (n : Int)), .v (T.enc part), .v (.lst ((T.pre t).map T.enc)), .v (.lst ((T.kids (T.pre t)).map fun r => D.lst (r.map nat))), .l Bl, .v (.int (c : Int)), .v (.int (k : Int)), .n], ⟨rfl, rfl⟩, fun m d acc ρ hd hi => ?_, fun acc ρ hi => ?_⟩
      · obtain ⟨rfl, rfl⟩ := hi
        rw [List.getElem?_map] at hd
        obtain ⟨j, hj, rfl⟩ := Option.map_eq_some_iff.mp hd
        obtain ⟨dj, hdj⟩ := hval j (List.mem_of_getElem? hj)
        refine ⟨_, rfl, ?_⟩
        walk_at "go"
        refine wr_ixLn (j := j) rfl hdj ?_
        walk_at "go"
        refine ⟨?_, rfl⟩
        have hjl := (List.getElem?_eq_some_iff.mp hj)
        obtain ⟨hjl, hje⟩ := hjl
        rw [List.take_succ_eq_append_getElem hjl, List.map_append, hje]
        simp [List.getD, hdj]
      · obtain ⟨rfl, rfl⟩ := hi
        have hparts : (T.offs (k + 1) u.ts).map (fun j => Bl.getD j .non) = T.encs (T.repls u.ts (n - (k + 1)) part) := by
          refine T.swap_parts hq' hqv hcn hcv (by simp [List.getD, hBc]) fun r x w hx hw hne => ?_
          have hwv := T.kid_at (T.pre_L t) hu hx hw
          have hap := T.offs_apart hq' hqv hx hne
          simp [List.getD, hBo x w (by omega) hwv]
        rw [List.length_map, List.take_length, hparts]
        walk_at "go"
        obtain ⟨um, uts⟩ := u
        refine with_w .l huo (T.repls_len _ _ _) fun o' => ?_
        walk_at "go"
        refine wx_nat (j := k) rfl (by omega) ?_
        walk_at "go"
        refine tn_nx ⟨Bl.set k (T.enc (.mk um (T.repls uts (n - (k + 1)) part))), k, .mk um uts, .v (.int (k : Int)), rfl, by rw [List.length_set]; exact hB, hu, by omega, ?_, ?_, fun j w hj hw => ?_, fun k' w h1 h2 => by omega⟩
        · rw [T.sz]; have : c + T.sz v ≤ k + 1 + T.szs uts := hrch.2; omega
        · rw [List.getElem?_set_self (by omega), show n - k = n - (k + 1) + 1 by omega, T.repl]
        · rw [List.getElem?_set_ne (by omega)]
          exact hBo j w (by have := hrch.1; omega) hw
    · rename_i hin2
      refine tn_nx ⟨Bl, c, v, _, rfl, hB, hc, hcn, hcv, hBc, hBo, fun k' w h1 h2 hw => ?_⟩
      by_cases hkk' : k' = k
      · subst hkk'
        have : w = u := Option.some.inj (hw.symm.trans hu)
        subst this
        intro hm
        have := any_nat.mpr hm
        rw [this] at hin2
        cases hin2
      · exact hpar k' w (by omega) h2 hw
  · obtain ⟨Bl, c, v, x7, rfl, hB, hc, hcn, hcv, hBc, hBo, hpar⟩ := hi
    have hl2 : (revD 0 ((n : Int).toNat)).length = n := by
      unfold revD
      rw [List.length_reverse, rngD_length]
      omega
    rw [hl2] at hpar
    have hc0 : c = 0 := by
      by_cases h0 : c = 0
      · exact h0
      · exfalso
        obtain ⟨k, u, q1, q2⟩ := T.pre_par t c (by omega) (by have := (List.getElem?_eq_some_iff.mp hc).1; omega)
        exact hpar k u (by omega) (by have := (T.kid_bound (T.pre_L t) q1 q2).1; omega) q1 q2
    subst hc0
    have hvt : v = t := by
      rw [T.pre_eq] at hc
      exact (Option.some.inj hc).symm
    subst hvt
    refine sq_nx ?_
    walk_at "go"
    refine wr_ixLn (j := 0) rfl hBc ?_
    walk_at "go"
    exact h

end
section
local macro_rules | `(tactic| walk_at "mwc") => `(tactic| with_reducible refine take_w (by assumption) (by omega) fun r s' hs' hr1 hr2 => ?_)

theorem parts_of_w {ar : Nat → Option Nat} {t : T} {P : O → List O → Prop} (hok : T.Ok ar t) (h : P (.v (.tup (T.encs t.ts))) [.v (T.enc t)]) : WG (g_parts_of [.v (T.enc t)]) P := by
  obtain ⟨m, ts⟩ := t
  unfold g_parts_of
  walk_at "mwfn"
  unfold mb_parts_of
  rw [T.Ok] at hok
  cases m <;> simp only [T.okM] at hok
  case b =>
    obtain ⟨u, rfl⟩ := List.length_eq_one_iff.mp hok.1
    simp only [T.enc, T.encs, Mk.s, Mk.d, T.ts] at h ⊢
    walk_at "go"
    exact h
  case o n =>
    simp only [T.enc, Mk.s, Mk.d, T.ts] at h ⊢
    walk_at "go"
    exact h
  case c f =>
    simp only [T.enc, Mk.s, Mk.d, T.ts] at h ⊢
    walk_at "go"
    exact h
  all_goals
    obtain rfl := List.length_eq_zero_iff.mp hok.1
    simp only [T.enc, T.encs, Mk.s, Mk.d, T.ts] at h ⊢
    walk_at "go"
    exact h
theorem is_node_of_w {ar : Nat → Option Nat} {t : T} {n : Nat} {P : O → List O → Prop} (h : ∀ k : Bool, (k = true ↔ t.m = .o n) → P (.v (.bl k)) [.v (T.enc t), .v (.int (n : Int))]) : WG (g_is_node_of [.v (T.enc t), .v (.int (n : Int))]) P := by
  obtain ⟨m, ts⟩ := t
  unfold g_is_node_of
  walk_at "mwfn"
  unfold mb_is_node_of
  cases m
  case o n' =>
    simp only [T.enc, Mk.s, Mk.d, T.m] at h ⊢
    walk_at "go"
    exact h _ (by rw [decide_eq_true_eq, Mk.o.injEq]; omega)
  all_goals
    simp only [T.enc, Mk.s, Mk.d, T.m] at h ⊢
    walk_at "go"
    exact h _ (by simp)
theorem ops_w {ops : List Op} {ns : List Str} {ds : List D} {P : O → List O → Prop} (ht : IsTab ops ns ds) (h : ∀ o, P (.v (.tup (ops.map Op.d))) o) : WG (g_Table_ops [.v (.ins "Table" ns ds)]) P := by
  unfold g_Table_ops
  walk_at "mwfn"
  unfold mb_Table_ops
  walk_at "mw"
  refine wr_propD ht ?_
  walk_at "go"
  exact h _
theorem group_members_w {ops : List Op} {ns : List Str} {ds : List D} {t : T} {P : O → List O → Prop} (ht : IsTab ops ns ds) (ha : AssocInf ops) (hok : T.Ok (arO ops) t) (hz : T.sz t ≤ 90000) (h : P (.l (T.encs (T.grp (asO ops) t))) [.v (.ins "Table" ns ds), .v (T.enc t)]) : WG (g_group_members [.v (.ins "Table" ns ds), .v (T.enc t)]) P := by
  have hel : ∀ l : List T, (T.encs l).length = l.length := fun l => by rw [T.encs_map, List.length_map]
  unfold g_group_members
  walk_at "mwfn"
  unfold mb_group_members
  obtain ⟨m, ts⟩ := t
  cases m
  case o n =>
    have hok0 := hok
    rw [T.Ok] at hok0
    obtain ⟨o, e1, e2⟩ := arO_some (show arO ops n = some ts.length from hok0.1)
    have hdo : (ops.map Op.d)[n]? = some o.d := by rw [List.getElem?_map, e1]; rfl
    have eas : asO ops n = o.assoc := by unfold asO; rw [e1]
    walk_at "go"
    refine ops_w ht fun _ => ?_
    walk_at "go"
    refine wr_ixTn (j := n) rfl hdo ?_
    unfold Op.d
    walk_at "go"
    · rename_i hno
      have hno' : asO ops n = false := by rw [eas]; simpa using hno
      refine parts_of_w hok ?_
      walk_at "go"
      have : T.grp (asO ops) (.mk (.o n) ts) = ts := by simp [T.grp, T.m, T.ts, hno']
      rw [this] at h
      exact h
    · rename_i hyes
      have hyes' : asO ops n = true := by rw [eas]; simpa using hyes
      have hg : T.grp (asO ops) (.mk (.o n) ts) = T.mems n ts := by simp [T.grp, T.m, T.ts, hyes']
      rw [hg] at h
      have h2 : ts.length = 2 := arO_assoc ha hok0.1 hyes'
      refine ws_while (fun k ρ => ∃ (M S : List T) (x5 x6 x7 : O), ρ = [.v (.ins "Table" ns ds), .v (T.enc (.mk (.o n) ts)), .v (.int (n : Int)), .l (T.encs M), .l (T.encs S.reverse), x5, x6, x7] ∧ M ++ T.mems n S = T.mems n ts ∧ k = T.szs S ∧ (∀ u ∈ S, T.Ok (arO ops) u) ∧ M.length + T.szs S ≤ 90000) (T.sz (.mk (.o n) ts)) ⟨[], [.mk (.o n) ts], _, _, _, rfl, by simp [T.mems, T.mem], by simp [T.szs], by simpa using hok, by simp [T.szs]; exact hz⟩ (fun k ρ hi => ?_)
      obtain ⟨M, S, x5, x6, x7, rfl, hm, rfl, hS, hb⟩ := hi
      cases S with
      | nil =>
        walk_at "go"
        · rename_i habs; simp [T.encs] at habs
        have : M = T.mems n ts := by simpa [T.mems] using hm
        rw [this]
        exact h
      | cons u S =>
        have hu := hS u List.mem_cons_self
        have hsz : T.sz u = 1 + T.szs u.ts := by cases u; rfl
        rw [T.szs] at hb
        have hSl := T.len_szs S
        have e5 : T.encs (u :: S).reverse = T.encs S.reverse ++ [T.enc u] := by simp [T.encs_map]
        rw [e5]
        walk_at "go"
        rotate_left
        · rename_i habs; simp at habs
        refine we_pop rfl (last_snoc _ _) ?_
        rw [dropLast_snoc]
        walk_at "go"
        refine is_node_of_w (ar := arO ops) fun k hk => ?_
        cases k with
        | true =>
          walk_at "go"
          have hum : u.m = .o n := hk.mp rfl
          obtain ⟨um, uts⟩ := u
          have hum' : um = .o n := hum
          subst hum'
          have hu0 := hu
          rw [T.Ok] at hu0
          have hu2 : uts.length = 2 := arO_assoc ha hu0.1 hyes'
          obtain ⟨l, r, rfl⟩ : ∃ l r, uts = [l, r] := by
            match uts, hu2 with
            | [l, r], _ => exact ⟨l, r, rfl⟩
          walk_at "go"
          refine ⟨by rw [hel, List.length_reverse]; omega, ?_⟩
          walk_at "go"
          refine ⟨by rw [List.length_append, hel, List.length_reverse]; simp; omega, ?_⟩
          walk_at "go"
          have hl1 := hu.ts l (by simp [T.ts])
          have hr1 := hu.ts r (by simp [T.ts])
          refine tn_nx ⟨T.szs (l :: r :: S), ?_, M, l :: r :: S, .v (T.enc (.mk (.o n) [l, r])), .v (T.enc l), .v (T.enc r), ?_, ?_, rfl, ?_, ?_⟩
          · simp only [T.szs, T.sz]; omega
          · simp [T.encs_map]
          · rw [← hm]; simp [T.mems, T.mem]
          · intro v hv
            rcases List.mem_cons.mp hv with e | hv
            · rw [e]; exact hl1
            rcases List.mem_cons.mp hv with e | hv
            · rw [e]; exact hr1
            · exact hS v (List.mem_cons_of_mem _ hv)
          · simp only [T.szs, T.sz] at hb ⊢; omega
        | false =>
          walk_at "go"
          refine ⟨by rw [hel]; omega, ?_⟩
          walk_at "go"
          have hum : ¬ u.m = .o n := fun e => absurd (hk.mpr e) (by decide)
          refine tn_nx ⟨T.szs S, by rw [T.szs]; have := T.sz_pos u; omega, M ++ [u], S, .v (T.enc u), x6, x7, by simp [T.encs_map, bk], ?_, rfl, fun v hv => hS v (List.mem_cons_of_mem _ hv), ?_⟩
          · rw [← hm, T.mems, T.mem_eq, if_neg hum]; simp
          · rw [List.length_append]; have := T.sz_pos u; simp; omega
  all_goals
    walk_at "go"
    refine parts_of_w hok ?_
    walk_at "go"
    exact h

end
section
local macro_rules | `(tactic| walk_at "mwc") => `(tactic| with_reducible refine take_w (by assumption) (by omega) fun r s' hs' hr1 hr2 => ?_)

def prD (as : Nat → Bool) (u : T) : D := .tup [T.enc u, .lst (T.encs (T.grp as u))]
theorem flat_nodes_w {ops : List Op} {ns : List Str} {ds : List D} {t : T} {P : O → List O → Prop} (ht : IsTab ops ns ds) (ha : AssocInf ops) (hok : T.Ok (arO ops) t) (hz : T.sz t ≤ 90000) (h : ∀ r, T.Walk (asO ops) [t] r → r.length ≤ T.sz t → (∀ u ∈ r, T.Ok (arO ops) u) → P (.l (r.map (prD (asO ops)))) [.v (.ins "Table" ns ds), .v (T.enc t)]) : WG (g_flat_nodes [.v (.ins "Table" ns ds), .v (T.enc t)]) P := by
  have hel : ∀ l : List T, (T.encs l).length = l.length := fun l => by rw [T.encs_map, List.length_map]
  obtain ⟨full, hw, hfl, hfo⟩ := T.walk_ex (asO ops) (T.szs [t]) [t] (Nat.le_refl _)
  have hfl' : full.length ≤ T.sz t := by simpa [T.szs] using hfl
  have hfo' := hfo (arO ops) (by simpa using hok)
  unfold g_flat_nodes
  walk_at "mwfn"
  unfold mb_flat_nodes
  walk_at "go"
  refine ws_while (fun k ρ => ∃ (A S r : List T) (x4 x5 : O), ρ = [.v (.ins "Table" ns ds), .v (T.enc t), .l (A.map (prD (asO ops))), .l (T.encs S.reverse), x4, x5] ∧ T.Walk (asO ops) S r ∧ A ++ r = full ∧ k = r.length ∧ (∀ u ∈ S, T.Ok (arO ops) u) ∧ T.szs S ≤ T.sz t) full.length ⟨[], [t], full, _, _, rfl, hw, rfl, rfl, by simpa using hok, by simp [T.szs]⟩ (fun k ρ hi => ?_)
  obtain ⟨A, S, r, x4, x5, rfl, hwr, hA, rfl, hS, hszS⟩ := hi
  cases S with
  | nil =>
    cases hwr
    walk_at "go"
    · rename_i habs; simp [T.encs] at habs
    have : A = full := by simpa using hA
    rw [this]
    exact h full hw hfl' hfo'
  | cons u S =>
    cases hwr with
    | cons hwr =>
      rename_i r
      have hu := hS u List.mem_cons_self
      have e5 : T.encs (u :: S).reverse = T.encs S.reverse ++ [T.enc u] := by simp [T.encs_map]
      have hgs := T.grp_sz (asO ops) u
      have hgl := T.len_szs (T.grp (asO ops) u)
      have hSl := T.len_szs S
      rw [T.szs] at hszS
      have hAl := congrArg List.length hA
      rw [List.length_append, List.length_cons] at hAl
      rw [e5]
      walk_at "go"
      rotate_left
      · rename_i habs; simp at habs
      refine we_pop rfl (last_snoc _ _) ?_
      rw [dropLast_snoc]
      walk_at "go"
      refine group_members_w ht ha hu (by omega) ?_
      walk_at "go"
      refine ⟨by rw [List.length_map]; omega, ?_⟩
      walk_at "go"
      refine ⟨by rw [hel, List.length_reverse, List.length_reverse, hel]; omega, ?_⟩
      walk_at "go"
      refine tn_nx ⟨r.length, by rw [List.length_cons]; omega, A ++ [u], T.grp (asO ops) u ++ S, r, .v (T.enc u), .v (.lst (T.encs (T.grp (asO ops) u))), ?_, hwr, by rw [← hA]; simp, rfl, ?_, ?_⟩
      · simp [T.encs_map, prD]
      · intro v hv
        rcases List.mem_append.mp hv with hv | hv
        · exact T.grp_ok hu v hv
        · exact hS v (List.mem_cons_of_mem _ hv)
      · rw [T.szs_app]; omega
theorem flat_node_w {ar : Nat → Option Nat} {m : Mk} {ts us : List T} {P : O → List O → Prop} (hok : T.Ok ar (.mk m ts)) (hl : (∀ n, m ≠ .o n) → us.length = ts.length) (h : ∀ o', P (.v (T.enc (.mk m us))) [.v (T.enc (.mk m ts)), o']) : WG (g_flat_node [.v (T.enc (.mk m ts)), .l (T.encs us)]) P := by
  unfold g_flat_node
  walk_at "mwfn"
  unfold mb_flat_node
  rw [T.Ok] at hok
  cases m <;> simp only [T.okM] at hok
  case b =>
    obtain ⟨u, rfl⟩ := List.length_eq_one_iff.mp hok.1
    obtain ⟨v, rfl⟩ := List.length_eq_one_iff.mp (show us.length = 1 from hl (fun n => by simp))
    simp only [T.enc, T.encs, Mk.s, Mk.d] at h ⊢
    walk_at "go"
    exact h _
  case o n =>
    simp only [T.enc, Mk.s, Mk.d] at h ⊢
    walk_at "go"
    exact h _
  case c f =>
    simp only [T.enc, Mk.s, Mk.d] at h ⊢
    walk_at "go"
    exact h _
  all_goals
    obtain rfl := List.length_eq_zero_iff.mp hok.1
    obtain rfl := List.length_eq_zero_iff.mp (hl (fun n => by simp))
    simp only [T.enc, T.encs, Mk.s, Mk.d] at h ⊢
    walk_at "go"
    exact h _
theorem flat_heads_w {ops : List Op} {ns : List Str} {ds : List D} {t : T} {P : O → List O → Prop} (ht : IsTab ops ns ds) (ha : AssocInf ops) (hok : T.Ok (arO ops) t) (hz : T.sz t ≤ 90000) (h : ∀ r, T.Walk (asO ops) [t] r → P (.l (r.map fun u => hdD (u.m, (T.grp (asO ops) u).length))) [.v (.ins "Table" ns ds), .v (T.enc t)]) : WG (g_flat_heads [.v (.ins "Table" ns ds), .v (T.enc t)]) P := by
  unfold g_flat_heads
  walk_at "mwfn"
  unfold mb_flat_heads
  walk_at "go"
  refine flat_nodes_w ht ha hok hz fun r hw hrl hro => ?_
  walk_at "go"
  refine wf_inv (fun i ρ => ∃ (x3 x4 x5 : O), ρ = [.v (.ins "Table" ns ds), .v (T.enc t), .l ((r.take i).map fun u => hdD (u.m, (T.grp (asO ops) u).length)), x3, x4, x5]) ⟨_, _, _, rfl⟩ (fun i d ρ hd hi => ?_) (fun ρ hi => ?_)
  · obtain ⟨x3, x4, x5, rfl⟩ := hi
    rw [List.getElem?_map] at hd
    obtain ⟨u, hu, rfl⟩ := Option.map_eq_some_iff.mp hd
    obtain ⟨hil, hue⟩ := List.getElem?_eq_some_iff.mp hu
    have huo := hro u (List.mem_of_getElem? hu)
    have et : r.take (i + 1) = r.take i ++ [u] := by rw [List.take_succ_eq_append_getElem hil, hue]
    refine ⟨_, rfl, ?_⟩
    obtain ⟨m, us⟩ := u
    cases m
    all_goals
      walk_at "go"
      refine ⟨by rw [List.length_map, List.length_take]; omega, ?_⟩
      apply tn_nx
      apply Exists.intro
      apply Exists.intro
      apply Exists.intro
      rw [et, List.map_append, show (T.encs (T.grp (asO ops) (.mk _ us))).length = (T.grp (asO ops) (.mk _ us)).length from by rw [T.encs_map, List.length_map]]
      rfl
  · obtain ⟨x3, x4, x5, rfl⟩ := hi
    rw [List.length_map, List.take_length]
    walk_at "go"
    exact h r hw
theorem flat_tree_w {ops : List Op} {ns : List Str} {ds : List D} {t : T} {P : O → List O → Prop} (ht : IsTab ops ns ds) (ha : AssocInf ops) (hok : T.Ok (arO ops) t) (hz : T.sz t ≤ 90000) (h : P (.v (T.enc (T.fl (asO ops) t))) [.v (.ins "Table" ns ds), .v (T.enc t)]) : WG (g_flat_tree [.v (.ins "Table" ns ds), .v (T.enc t)]) P := by
  have hel : ∀ l : List T, (T.encs l).length = l.length := fun l => by rw [T.encs_map, List.length_map]
  unfold g_flat_tree
  walk_at "mwfn"
  unfold mb_flat_tree
  walk_at "go"
  refine flat_nodes_w ht ha hok hz fun r hw hrl hro => ?_
  walk_at "go"
  obtain ⟨st, h0, h1, h2, h3⟩ := T.walk_st hw
  refine wf_inv (fun i ρ => ∃ (x4 x5 x6 x7 : O), ρ = [.v (.ins "Table" ns ds), .v (T.enc t), .v (.lst (r.map (prD (asO ops)))), .l (T.encs (((st (r.length - i)).map (T.fl (asO ops))).reverse)), x4, x5, x6, x7]) ⟨_, _, _, _, by rw [Nat.sub_zero, h1]; rfl⟩ (fun i d ρ hd hi => ?_) (fun ρ hi => ?_)
  · obtain ⟨x4, x5, x6, x7, rfl⟩ := hi
    obtain ⟨hi, hd⟩ := rev_get hd
    rw [List.length_map] at hi hd
    rw [List.getElem?_map] at hd
    obtain ⟨u, hu, rfl⟩ := Option.map_eq_some_iff.mp hd
    obtain ⟨S', e1, e2⟩ := h2 _ u hu
    have huo := hro u (List.mem_of_getElem? hu)
    have hk1 : r.length - i = r.length - 1 - i + 1 := by omega
    have hk2 : r.length - (i + 1) = r.length - 1 - i := by omega
    have hsz := h3 (r.length - i) (by omega)
    rw [hk1, e2, T.szs_app] at hsz
    have hgl := T.len_szs (T.grp (asO ops) u)
    have hSl := T.len_szs S'
    have hsz' : T.szs (T.grp (asO ops) u) + T.szs S' ≤ T.sz t := by simpa [T.szs] using hsz
    refine ⟨_, rfl, ?_⟩
    rw [hk1, e2]
    walk_at "go"
    refine ⟨by rw [hel]; omega, fun j acc ρ => acc = T.encs (((T.grp (asO ops) u).take j).map (T.fl (asO ops))) ∧ ρ = [.v (.ins "Table" ns ds), .v (T.enc t), .v (.lst (r.map (prD (asO ops)))), .l (T.encs ((((T.grp (asO ops) u).drop j ++ S').map (T.fl (asO ops))).reverse)), .v (T.enc u), .v (.lst (T.encs (T.grp (asO ops) u))), x6, .n], ⟨rfl, rfl⟩, fun j d acc ρ hd hi => ?_, fun acc ρ hi => ?_⟩
    · obtain ⟨rfl, rfl⟩ := hi
      have hj : j < (T.grp (asO ops) u).length := by
        have := (List.getElem?_eq_some_iff.mp hd).1
        rw [hel] at this
        exact this
      have ed : (T.grp (asO ops) u).drop j = (T.grp (asO ops) u)[j] :: (T.grp (asO ops) u).drop (j + 1) := List.drop_eq_getElem_cons hj
      have et : (T.grp (asO ops) u).take (j + 1) = (T.grp (asO ops) u).take j ++ [(T.grp (asO ops) u)[j]] := List.take_succ_eq_append_getElem hj
      have eb : T.encs ((((T.grp (asO ops) u).drop j ++ S').map (T.fl (asO ops))).reverse) = T.encs ((((T.grp (asO ops) u).drop (j + 1) ++ S').map (T.fl (asO ops))).reverse) ++ [T.enc (T.fl (asO ops) (T.grp (asO ops) u)[j])] := by
        rw [ed, List.cons_append, List.map_cons, List.reverse_cons, T.encs_map, T.encs_map, List.map_append (f := T.enc)]
        rfl
      rw [eb]
      refine ⟨_, rfl, ?_⟩
      walk_at "go"
      refine we_pop rfl (last_snoc _ _) ?_
      rw [dropLast_snoc]
      walk_at "go"
      refine ⟨?_, rfl⟩
      rw [et, T.encs_map, T.encs_map, List.map_append (f := T.fl (asO ops)), List.map_append (f := T.enc)]
      rfl
    · obtain ⟨rfl, rfl⟩ := hi
      rw [hel, List.take_length, List.drop_length, List.nil_append]
      walk_at "go"
      have erec := T.fl_rec (asO ops) u
      obtain ⟨m, us⟩ := u
      refine flat_node_w huo (fun hn => ?_) fun o' => ?_
      · rw [List.length_map]
        unfold T.grp
        cases m <;> first | rfl | exact absurd rfl (hn _)
      walk_at "go"
      refine ⟨by rw [hel, List.length_reverse, List.length_map]; omega, ?_⟩
      apply tn_nx
      apply Exists.intro
      apply Exists.intro
      apply Exists.intro
      apply Exists.intro
      rw [hk2, e1, List.map_cons, List.reverse_cons, erec]
      simp only [T.encs_map, List.map_append, List.map_cons, List.map_nil]
      rfl
  · obtain ⟨x4, x5, x6, x7, rfl⟩ := hi
    have hl2 : (r.map (prD (asO ops))).reverse.length = r.length := by rw [List.length_reverse, List.length_map]
    rw [hl2, Nat.sub_self, h0]
    walk_at "go"
    exact h
theorem are_alike_w {ops : List Op} {ns : List Str} {ds : List D} {t u : T} {P : O → List O → Prop} (ht : IsTab ops ns ds) (ha : AssocInf ops) (hok : T.Ok (arO ops) t) (hz : T.sz t ≤ 90000) (hok2 : T.Ok (arO ops) u) (hz2 : T.sz u ≤ 90000) (hW : T.W t) (hW2 : T.W u) (h : ∀ k : Bool, (k = true ↔ T.fl (asO ops) t = T.fl (asO ops) u) → P (.v (.bl k)) [.v (.ins "Table" ns ds), .v (T.enc t), .v (T.enc u)]) : WG (g_are_alike [.v (.ins "Table" ns ds), .v (T.enc t), .v (T.enc u)]) P := by
  unfold g_are_alike
  walk_at "mwfn"
  unfold mb_are_alike
  walk_at "go"
  refine flat_heads_w ht ha hok hz fun r hw => ?_
  walk_at "go"
  refine flat_heads_w ht ha hok2 hz2 fun r2 hw2 => ?_
  walk_at "go"
  have pl : ∀ {r : List T} {S : List T}, T.Walk (asO ops) S r → (∀ u ∈ S, T.W u) → plB (.lst (r.map fun u => hdD (u.m, (T.grp (asO ops) u).length))) = true := fun hw hS => by
    rw [plB, plBs_iff]
    intro d hd
    obtain ⟨v, hv, rfl⟩ := List.mem_map.mp hd
    exact hdD_pl (T.walk_W hw hS v hv).m
  have dp : ∀ r : List T, dpD (.lst (r.map fun u => hdD (u.m, (T.grp (asO ops) u).length))) ≤ 2 := fun r => by
    rw [dpD]
    have := dpDs_le (n := 1) (ds := r.map fun u => hdD (u.m, (T.grp (asO ops) u).length)) fun d hd => by
      obtain ⟨v, hv, rfl⟩ := List.mem_map.mp hd
      exact hdD_dp _
    omega
  refine wr_eqT (pl hw (by simpa using hW)) (pl hw2 (by simpa using hW2)) (by have := dp r; omega) fun k hk => ?_
  walk_at "go"
  refine h k ?_
  rw [hk, D.lst.injEq]
  have key : ∀ {r : List T} {t : T}, T.Walk (asO ops) [t] r → (r.map fun u => hdD (u.m, (T.grp (asO ops) u).length)) = ((T.pre (T.fl (asO ops) t)).map T.hd).map hdD := fun {r t} hw => by
    have := T.walk_heads hw
    simp only [List.map_cons, List.map_nil, T.pres, List.append_nil] at this
    rw [← this, List.map_map]
    rfl
  rw [key hw, key hw2]
  constructor
  · intro e
    exact T.heads_eq (hdDs_inj e)
  · intro e
    rw [e]

end
section
local macro_rules | `(tactic| walk_at "mwc") => `(tactic| with_reducible refine take_w (by assumption) (by omega) fun r s' hs' hr1 hr2 => ?_)

abbrev sW : Str := Str.ofString "abcdefghijklmnopqrstuvwxyz0123456789"
abbrev sS : Str := Str.ofString "abcdefghijklmnopqrstuvwxyz"
abbrev sG : Str := Str.ofString "ABCDEFGHIJKLMNOPQRSTUVWXYZ"
abbrev sM : Str := Str.ofString "+-*/<>=!?&|^~:.@$"
abbrev sD : Str := Str.ofString "0123456789"
def okW (n : Nat) (y z : Str) : Bool := decide (1 ≤ z.length) && (decide (z.length ≤ n) && allc y z)
theorem made_of_w {z y : Str} {n : Nat} {P : O → List O → Prop} (hz : z.length ≤ 1000000) (hn : n ≤ 100) (h : P (.v (.bl (okW n y z))) [.v (.str z), .v (.str y), .v (.int n)]) : WG (g_made_of [.v (.str z), .v (.str y), .v (.int n)]) P := by
  unfold g_made_of
  walk_at "mwfn"
  unfold mb_made_of
  refine ws_seq ?_
  walk_at "mw"
  refine wif (fun h1 => ?_) (fun h1 => ?_)
  · walk_at "mw"
    refine wifB (fun h2 => ?_) (fun h2 => ?_)
    · walk_at "mw"
      have : okW n y z = false := by
        unfold okW
        rw [show decide (z.length ≤ n) = false by simpa using h2, Bool.false_and, Bool.and_false]
      rw [this] at h
      exact h
    · walk_at "mw"
      walk_at "mw"
      have hn2 : z.length ≤ n := by simpa using h2
      refine ⟨by rw [chars_len]; omega, fun i acc ρ => acc = (z.cps.toList.take i).map (fun c => .bl (decide (c ∈ y.cps.toList))) ∧ ρ = [.v (.str z), .v (.str y), .v (.int n), .n], ⟨rfl, rfl⟩, fun i d acc ρ hd hi => ?_, fun acc ρ hi => ?_⟩
      · obtain ⟨rfl, rfl⟩ := hi
        obtain ⟨hi, rfl⟩ := chars_get hd
        refine ⟨_, rfl, ?_⟩
        walk_at "mw"
        refine ⟨?_, rfl⟩
        rw [List.take_succ_eq_append_getElem hi, List.map_append]
        rfl
      · obtain ⟨rfl, rfl⟩ := hi
        walk_at "mw"
        refine wr_all ?_
        walk_at "mw"
        have : okW n y z = allc y z := by
          unfold okW
          rw [show decide (1 ≤ z.length) = true by simp; omega, show decide (z.length ≤ n) = true by simp; omega]
          rfl
        rw [chars_len, show z.length = z.cps.toList.length by rw [Array.length_toList]; rfl, List.take_length]
        rw [this] at h
        exact h
  · walk_at "mw"
    have : okW n y z = false := by
      unfold okW
      rw [show decide (1 ≤ z.length) = false by simp; omega]
      rfl
    rw [this] at h
    exact h
def fW : D → Bool
  | .str z => okW 8 sW z
  | _ => false
def fC : D → Bool
  | .str z => okW 4 sG z
  | _ => false
def hd (z : Str) : Nat := z.cps.toList.headD 0
def fN : D → Bool
  | .str z => okW 8 sW z && decide (hd z ∈ sS.cps.toList)
  | _ => false
def fO : D → Bool
  | .str z => fN (.str z) || okW 2 sM z
  | _ => false
theorem atom_w {d : D} {P : O → List O → Prop} (hv : Va d) (h : P (.v (.bl (fW d))) [.v d]) : WG (g_is_atom_word [.v d]) P := by
  unfold g_is_atom_word
  walk_at "mwfn"
  unfold mb_is_atom_word
  cases hv
  case str h1 =>
    walk_at "mw"
    refine made_of_w (n := 8) (by omega) (by omega) ?_
    walk_at "mw"
    exact h
  all_goals
    walk_at "mw"
    exact h
theorem head_at {z : Str} (h : 1 ≤ z.length) : L2.atI z.cps.toList 0 = some (hd z) ∧ hd z ∈ z.cps.toList := by
  have : 0 < z.cps.toList.length := by rw [Array.length_toList]; exact h
  unfold hd
  cases e : z.cps.toList with
  | nil => rw [e] at this; exact absurd this (by decide)
  | cons c cs => exact ⟨atI_nat (j := 0) rfl, by simp⟩
theorem macro_w {d : D} {P : O → List O → Prop} (hv : Va d) (h : P (.v (.bl (fN d))) [.v d]) : WG (g_is_macro_name [.v d]) P := by
  unfold g_is_macro_name
  walk_at "mwfn"
  unfold mb_is_macro_name
  walk_at "mw"
  refine atom_w hv ?_
  walk_at "mw"
  cases hv
  case str z h1 =>
    refine wifB (fun h2 => ?_) (fun h2 => ?_)
    · have h3 : 1 ≤ z.length := by
        simp only [fW, okW, Bool.and_eq_true, decide_eq_true_eq] at h2
        exact h2.1
      walk_at "mw"
      refine wr_ixS (by omega) (head_at h3).1 ?_
      walk_at "mw"
      simp only [fN] at h
      rw [show okW 8 sW z = true from h2, Bool.true_and] at h
      exact h
    · simp only [fN] at h
      rw [show okW 8 sW z = false from h2, Bool.false_and] at h
      walk_at "mw"
      exact h
  all_goals
    refine wifB (fun h2 => ?_) (fun h2 => ?_)
    · exact absurd h2 (by simp [fW])
    · walk_at "mw"
      exact h
theorem op_w {d : D} {P : O → List O → Prop} (hv : Va d) (h : P (.v (.bl (fO d))) [.v d]) : WG (g_is_operator_name [.v d]) P := by
  unfold g_is_operator_name
  walk_at "mwfn"
  unfold mb_is_operator_name
  refine ws_seq ?_
  walk_at "mw"
  refine macro_w hv ?_
  walk_at "mw"
  cases hv
  case str z h1 =>
    refine wifB (fun h2 => ?_) (fun h2 => ?_)
    · walk_at "mw"
      simp only [fO] at h
      rw [h2, Bool.true_or] at h
      exact h
    · walk_at "mw"
      refine made_of_w (n := 2) (by omega) (by omega) ?_
      walk_at "mw"
      simp only [fO] at h
      rw [h2, Bool.false_or] at h
      exact h
  all_goals
    refine wifB (fun h2 => ?_) (fun h2 => ?_)
    · exact absurd h2 (by simp [fN])
    · walk_at "mw"
      exact h

end
section
local macro_rules | `(tactic| walk_at "mwc") => `(tactic| with_reducible refine take_w (by assumption) (by omega) fun r s' hs' hr1 hr2 => ?_)

structure OpOk (o : Op) : Prop where
  nm : fO (.str o.name) = true
  len : o.name.length ≤ 10000
  l : o.role ≠ .pre → 0 ≤ o.left ∧ o.left ≤ 1000000
  r : o.role ≠ .post → 0 ≤ o.right ∧ o.right ≤ 1000000
  as : o.assoc = true → o.role = .inf
structure OpsOk (ops : List Op) : Prop where
  len : ops.length ≤ 10
  ok : ∀ o ∈ ops, OpOk o
  clash : ∀ (i j : Nat) (a b : Op), i < j → ops[i]? = some a → ops[j]? = some b → ¬ (a.name = b.name ∧ (a.role = .pre ↔ b.role = .pre))
  eq : ∀ a ∈ ops, ∀ b ∈ ops, a.role ≠ .pre → b.role ≠ .post → a.left ≠ b.right
theorem fitsI_w {i : Int} {P : O → List O → Prop} (h0 : 0 ≤ i) (h1 : i ≤ 1000000) (h : P (.v (.bl true)) [.v (.bl true), .v (.int i)]) : WG (g_fits_strength [.v (.bl true), .v (.int i)]) P := by
  unfold g_fits_strength
  walk_at "mwfn"
  unfold mb_fits_strength
  walk_at "go"
  · rw [show decide (i ≤ 1000000) = true from decide_eq_true h1]
    exact h
  · exfalso; omega
theorem fitsN_w {P : O → List O → Prop} (h : P (.v (.bl true)) [.v (.bl false), .v .non]) : WG (g_fits_strength [.v (.bl false), .v .non]) P := by
  unfold g_fits_strength
  walk_at "mwfn"
  unfold mb_fits_strength
  walk_at "go"
  exact h
theorem role_in : ∀ r : Role, ([D.str (Str.ofString "infix"), .str (Str.ofString "prefix"), .str (Str.ofString "postfix")].any fun e => eqF e (.str r.s)) = true := by
  intro r; cases r <;> decide +kernel
theorem wr_ninT {d : D} {ds : List D} {P : O → Prop} (h1 : flatD d = true) (h2 : ds.all flatD = true) (h : P (.v (.bl (!(ds.any fun e => eqF e d))))) : WR (ninD d (.tup ds)) P := by
  refine ⟨.s (.bl _), ?_, h⟩
  unfold ninD inB
  cases d <;> simp_all [flatD] <;> rfl
theorem is_operator_w {o : Op} {P : O → List O → Prop} (ho : OpOk o) (h : P (.v (.bl true)) [.v o.d]) : WG (g_is_operator [.v o.d]) P := by
  obtain ⟨name, role, left, right, loose, assoc⟩ := o
  have hn := ho.nm
  have hl := ho.l
  have hr := ho.r
  have ha := ho.as
  have hlen := ho.len
  simp only at hn hl hr ha hlen
  unfold g_is_operator
  walk_at "mwfn"
  unfold mb_is_operator Op.d Op.l Op.r
  cases role <;> simp only [Role.s]
  case inf =>
    have h1 := hl (by decide)
    have h2 := hr (by decide)
    walk_at "go"
    refine op_w (.str hlen) ?_
    rw [hn]
    walk_at "go"
    · walk_at "abs"
    refine fitsI_w h1.1 h1.2 ?_
    walk_at "go"
    refine fitsI_w h2.1 h2.2 ?_
    walk_at "go"
    · exact h
    exfalso; rename_i habs; exact habs rfl
  case pre =>
    have h2 := hr (by decide)
    have h3 : assoc = false := by
      cases assoc
      · rfl
      · exact absurd (ha rfl) (by decide)
    subst h3
    walk_at "go"
    refine op_w (.str hlen) ?_
    rw [hn]
    walk_at "go"
    · walk_at "abs"
    refine fitsN_w ?_
    walk_at "go"
    refine fitsI_w h2.1 h2.2 ?_
    walk_at "go"
    · exact h
    exfalso; rename_i habs; exact habs rfl
  case post =>
    have h2 := hl (by decide)
    have h3 : assoc = false := by
      cases assoc
      · rfl
      · exact absurd (ha rfl) (by decide)
    subst h3
    walk_at "go"
    refine op_w (.str hlen) ?_
    rw [hn]
    walk_at "go"
    · walk_at "abs"
    refine fitsI_w h2.1 h2.2 ?_
    walk_at "go"
    refine fitsN_w ?_
    walk_at "go"
    · exact h
    exfalso; rename_i habs; exact habs rfl
theorem cutD_take {ds : List D} {k : Nat} (hk : k ≤ ds.length) : cutD ds none (some (k : Int)) = ds.take k := by
  unfold cutD
  have e1 : HT.sIx ds.length 0 none = 0 := rfl
  have e2 : HT.sIx ds.length ds.length (some (k : Int)) = k := by
    rw [HT.sIx_nat]
    omega
  rw [e1, e2]
  simp
theorem pre_dec (r : Role) : decide (r.s = Str.ofString "prefix") = decide (r = .pre) := by
  cases r <;> decide +kernel
theorem has_clash_w {ops : List Op} {k : Nat} {P : O → List O → Prop} (ho : OpsOk ops) (hk : k < ops.length) (h : P (.v (.bl false)) [.v (.lst (ops.map Op.d)), .v (.int (k : Int))]) : WG (g_has_clash [.v (.lst (ops.map Op.d)), .v (.int (k : Int))]) P := by
  have hek : ops[k]? = some ops[k] := List.getElem?_eq_getElem hk
  generalize ops[k] = b at hek
  have hdk : (ops.map Op.d)[k]? = some b.d := by rw [List.getElem?_map, hek]; rfl
  unfold g_has_clash
  walk_at "mwfn"
  unfold mb_has_clash
  walk_at "go"
  rw [cutD_take (by rw [List.length_map]; omega)]
  refine wf_inv (fun i ρ => ∃ (x2 x3 : O), ρ = [.v (.lst (ops.map Op.d)), .v (.int (k : Int)), x2, x3]) ⟨_, _, rfl⟩ (fun i d ρ hd hi => ?_) (fun ρ hi => ?_)
  · obtain ⟨x2, x3, rfl⟩ := hi
    have hik : i < k := by
      have := (List.getElem?_eq_some_iff.mp hd).1
      rw [List.length_take] at this
      omega
    rw [List.getElem?_take_of_lt hik, List.getElem?_map] at hd
    obtain ⟨a, ha, rfl⟩ := Option.map_eq_some_iff.mp hd
    have hcl := ho.clash i k a b hik ha hek
    refine ⟨_, rfl, ?_⟩
    have ea : a.d = .tup [.str a.name, .str a.role.s, a.l, a.r, .bl a.loose, .bl a.assoc] := rfl
    have eb : b.d = .tup [.str b.name, .str b.role.s, b.l, b.r, .bl b.loose, .bl b.assoc] := rfl
    rw [ea]
    walk_at "go"
    refine wr_ixLn (j := k) rfl hdk ?_
    rw [eb]
    walk_at "go"
    refine wr_ixLn (j := k) rfl hdk ?_
    rw [eb]
    walk_at "go"
    · exfalso
      rename_i h1 h2
      rw [pre_dec, pre_dec, decide_eq_decide] at h2
      exact hcl ⟨h1, h2⟩
    · apply tn_nx; apply Exists.intro; apply Exists.intro; rfl
    · apply tn_nx; apply Exists.intro; apply Exists.intro; rfl
  · obtain ⟨x2, x3, rfl⟩ := hi
    walk_at "go"
    exact h
def lefts (ops : List Op) : List D := (ops.filter fun o => decide (o.role ≠ .pre)).map fun o => .int o.left
def rights (ops : List Op) : List D := (ops.filter fun o => decide (o.role ≠ .post)).map fun o => .int o.right
theorem lefts_snoc (l : List Op) (o : Op) : lefts (l ++ [o]) = lefts l ++ if o.role = .pre then [] else [.int o.left] := by
  unfold lefts
  rw [List.filter_append, List.map_append]
  by_cases h : o.role = .pre <;> simp [h]
theorem rights_snoc (l : List Op) (o : Op) : rights (l ++ [o]) = rights l ++ if o.role = .post then [] else [.int o.right] := by
  unfold rights
  rw [List.filter_append, List.map_append]
  by_cases h : o.role = .post <;> simp [h]
theorem refuse_equal_w {ops : List Op} {P : O → List O → Prop} (ho : OpsOk ops) (h : ∀ o, P o [.v (.lst (ops.map Op.d))]) : WG (g_refuse_equal_strengths [.v (.lst (ops.map Op.d))]) P := by
  have hlen := ho.len
  unfold g_refuse_equal_strengths
  walk_at "mwfn"
  unfold mb_refuse_equal_strengths
  walk_at "go"
  refine ⟨by rw [List.length_map]; omega, fun i acc ρ => acc = lefts (ops.take i) ∧ ρ = [.v (.lst (ops.map Op.d)), .n, .n, .n, .n], ⟨rfl, rfl⟩, fun i d acc ρ hd hi => ?_, fun acc ρ hi => ?_⟩
  · obtain ⟨rfl, rfl⟩ := hi
    rw [List.getElem?_map] at hd
    obtain ⟨o, hoi, rfl⟩ := Option.map_eq_some_iff.mp hd
    obtain ⟨hil, hoe⟩ := List.getElem?_eq_some_iff.mp hoi
    have et : ops.take (i + 1) = ops.take i ++ [o] := by rw [List.take_succ_eq_append_getElem hil, hoe]
    refine ⟨_, rfl, ?_⟩
    obtain ⟨name, role, left, right, loose, assoc⟩ := o
    cases role <;> unfold Op.d Op.l Op.r
    all_goals
      walk_at "go"
      refine ⟨?_, rfl⟩
      rw [et, lefts_snoc]
      simp
  obtain ⟨rfl, rfl⟩ := hi
  walk_at "go"
  refine ⟨by rw [List.length_map]; omega, fun i acc ρ => acc = rights (ops.take i) ∧ ρ = [.v (.lst (ops.map Op.d)), .l (lefts (ops.take (ops.map Op.d).length)), .n, .n, .n], ⟨rfl, rfl⟩, fun i d acc ρ hd hi => ?_, fun acc ρ hi => ?_⟩
  · obtain ⟨rfl, rfl⟩ := hi
    rw [List.getElem?_map] at hd
    obtain ⟨o, hoi, rfl⟩ := Option.map_eq_some_iff.mp hd
    obtain ⟨hil, hoe⟩ := List.getElem?_eq_some_iff.mp hoi
    have et : ops.take (i + 1) = ops.take i ++ [o] := by rw [List.take_succ_eq_append_getElem hil, hoe]
    refine ⟨_, rfl, ?_⟩
    obtain ⟨name, role, left, right, loose, assoc⟩ := o
    cases role <;> unfold Op.d Op.l Op.r
    all_goals
      walk_at "go"
      refine ⟨?_, rfl⟩
      rw [et, rights_snoc]
      simp
  obtain ⟨rfl, rfl⟩ := hi
  rw [List.length_map, List.take_length]
  walk_at "go"
  have fl1 : (lefts ops).all flatD = true := by
    rw [List.all_eq_true]
    intro d hd
    unfold lefts at hd
    obtain ⟨o, _, rfl⟩ := List.mem_map.mp hd
    rfl
  have fl2 : (rights ops).all flatD = true := by
    rw [List.all_eq_true]
    intro d hd
    unfold rights at hd
    obtain ⟨o, _, rfl⟩ := List.mem_map.mp hd
    rfl
  have no1 : ∀ o ∈ ops, ((rights ops).any fun e => eqF e o.l) = false := fun o ho1 => by
    rw [List.any_eq_false]
    intro d hd
    unfold rights at hd
    obtain ⟨b, hb, rfl⟩ := List.mem_map.mp hd
    obtain ⟨hb1, hb2⟩ := List.mem_filter.mp hb
    have hb3 : b.role ≠ .post := by simpa using hb2
    unfold Op.l
    split
    · simp [eqF]
    · rename_i hr
      have := ho.eq o ho1 b hb1 (fun z => hr z) hb3
      simp [eqF]
      omega
  have no2 : ∀ o ∈ ops, ((lefts ops).any fun e => eqF e o.r) = false := fun o ho1 => by
    rw [List.any_eq_false]
    intro d hd
    unfold lefts at hd
    obtain ⟨b, hb, rfl⟩ := List.mem_map.mp hd
    obtain ⟨hb1, hb2⟩ := List.mem_filter.mp hb
    have hb3 : b.role ≠ .pre := by simpa using hb2
    unfold Op.r
    split
    · simp [eqF]
    · rename_i hr
      have := ho.eq b hb1 o ho1 hb3 (fun z => hr z)
      simp [eqF]
      omega
  refine ⟨_, .inl rfl, ?_⟩
  refine wf_inv (fun i ρ => ∃ (x2 x3 : O), ρ = [.v (.lst (ops.map Op.d)), .l (lefts ops), .l (rights ops), x2, x3]) ⟨_, _, rfl⟩ (fun i d ρ hd hi => ?_) (fun ρ hi => ?_)
  · obtain ⟨x2, x3, rfl⟩ := hi
    obtain ⟨d', hd', rfl⟩ := enumD_get hd
    rw [List.getElem?_map] at hd'
    obtain ⟨o, hoi, rfl⟩ := Option.map_eq_some_iff.mp hd'
    have hom := List.mem_of_getElem? hoi
    have n1 := no1 o hom
    have n2 := no2 o hom
    have f1 : flatD o.l = true := by unfold Op.l; split <;> rfl
    have f2 : flatD o.r = true := by unfold Op.r; split <;> rfl
    refine ⟨_, rfl, ?_⟩
    have ea : o.d = .tup [.str o.name, .str o.role.s, o.l, o.r, .bl o.loose, .bl o.assoc] := rfl
    rw [ea]
    walk_at "go"
    refine wr_inL f1 fl2 ?_
    rw [n1]
    walk_at "go"
    refine wr_inL f2 fl1 ?_
    rw [n2]
    walk_at "go"
    apply tn_nx; apply Exists.intro; apply Exists.intro; rfl
  · obtain ⟨x2, x3, rfl⟩ := hi
    walk_at "go"
    exact h _

end
section
local macro_rules | `(tactic| walk_at "mwc") => `(tactic| with_reducible refine take_w (by assumption) (by omega) fun r s' hs' hr1 hr2 => ?_)

theorem refuse_bad_w {ops : List Op} {o : O} {P : O → List O → Prop} (hc : LS (ops.map Op.d) o) (ho : OpsOk ops) (h : ∀ r, P r [.v (.lst (ops.map Op.d))]) : WG (g_refuse_bad_entries [o]) P := by
  have hlen := ho.len
  have body : WG (g_refuse_bad_entries [.v (.lst (ops.map Op.d))]) P ∧ WG (g_refuse_bad_entries [.l (ops.map Op.d)]) P := by
    constructor
    all_goals
      unfold g_refuse_bad_entries
      walk_at "mwfn"
      unfold mb_refuse_bad_entries
      walk_at "go"
      · exfalso; rename_i habs; rw [List.length_map] at habs; omega
      refine ⟨_, .inl rfl, ?_⟩
      refine wf_inv (fun i ρ => ∃ (x2 x3 : O), ρ = [.v (.lst (ops.map Op.d)), x2, x3]) ⟨_, _, rfl⟩ (fun i d ρ hd hi => ?_) (fun ρ hi => ?_)
      · obtain ⟨x2, x3, rfl⟩ := hi
        obtain ⟨d', hd', rfl⟩ := enumD_get hd
        rw [List.getElem?_map] at hd'
        obtain ⟨a, hoi, rfl⟩ := Option.map_eq_some_iff.mp hd'
        have hom := List.mem_of_getElem? hoi
        refine ⟨_, rfl, ?_⟩
        walk_at "go"
        refine is_operator_w (ho.ok a hom) ?_
        walk_at "go"
        refine has_clash_w ho (List.getElem?_eq_some_iff.mp hoi).1 ?_
        walk_at "go"
        apply tn_nx; apply Exists.intro; apply Exists.intro; rfl
      · obtain ⟨x2, x3, rfl⟩ := hi
        walk_at "go"
        refine refuse_equal_w ho fun r => ?_
        walk_at "go"
        exact h _
  cases hc
  · exact body.1
  · exact body.2
def nsT : List Str := [Str.ofString "rear_numbers", Str.ofString "fore_numbers", Str.ofString "kept_ops"]
theorem putA_len {α : Type} {ks : List Key} {xs : List α} {k : Key} {v : α} : (putA ks xs k v).1.length ≤ ks.length + 1 := by
  unfold putA
  split
  · simp
  · simp
theorem ix_fore : ixOf (Str.ofString "fore_numbers") nsT = some 1 := by decide +kernel
theorem ix_rear : ixOf (Str.ofString "rear_numbers") nsT = some 0 := by decide +kernel
theorem ix_kept : ixOf (Str.ofString "kept_ops") nsT = some 2 := by decide +kernel
theorem not1 : Str.ofString "fore_numbers" ∉ [Str.ofString "kept_ops"] := by decide +kernel
theorem not2 : Str.ofString "rear_numbers" ∉ [Str.ofString "fore_numbers", Str.ofString "kept_ops"] := by decide +kernel
theorem kept_ins {a b c : D} : insAt (Str.ofString "kept_ops") nsT [a, b, c] = some c := by
  unfold nsT insAt
  rw [if_neg (by decide +kernel)]
  unfold insAt
  rw [if_neg (by decide +kernel)]
  unfold insAt
  rw [if_pos rfl]
theorem init_w {ops : List Op} {o : O} {P : O → List O → Prop} (hc : LS (ops.map Op.d) o) (ho : OpsOk ops) (h : ∀ kr vr kf vf, P (.v .non) [.g (.ins "Table" nsT) [.dd kr vr, .dd kf vf, .v (.tup (ops.map Op.d))], .v (.lst (ops.map Op.d))]) : WG (g_Table___init__ [.g (.ins "Table" []) [], o]) P := by
  have hlen := ho.len
  have body : WG (g_Table___init__ [.g (.ins "Table" []) [], .v (.lst (ops.map Op.d))]) P ∧ WG (g_Table___init__ [.g (.ins "Table" []) [], .l (ops.map Op.d)]) P := by
    constructor
    all_goals
      unfold g_Table___init__
      walk_at "mwfn"
      unfold mb_Table___init__
      walk_at "go"
      first | refine refuse_bad_w .v ho fun r => ?_ | refine refuse_bad_w .l ho fun r => ?_
      walk_at "go"
      refine ⟨⟨List.not_mem_nil, by decide⟩, ?_⟩
      walk_at "go"
      refine ⟨⟨not1, by decide⟩, ?_⟩
      walk_at "go"
      refine ⟨⟨not2, by decide⟩, ?_⟩
      walk_at "go"
      refine we_fob rfl ix_kept rfl ?_
      walk_at "go"
      refine ⟨_, .inr rfl, ?_⟩
      refine wf_inv (fun i ρ => ∃ (kr : List Key) (vr : List D) (kf : List Key) (vf : List D) (x2 x3 : O), ρ = [.g (.ins "Table" nsT) [.dd kr vr, .dd kf vf, .v (.tup (ops.map Op.d))], .v (.lst (ops.map Op.d)), x2, x3] ∧ kr.length ≤ i ∧ kf.length ≤ i) ⟨[], [], [], [], _, _, rfl, Nat.le_refl _, Nat.le_refl _⟩ (fun i d ρ hd hi => ?_) (fun ρ hi => ?_)
      · obtain ⟨kr, vr, kf, vf, x2, x3, rfl, hkr, hkf⟩ := hi
        obtain ⟨d', hd', rfl⟩ := enumD_get hd
        rw [List.getElem?_map] at hd'
        obtain ⟨a, hoi, rfl⟩ := Option.map_eq_some_iff.mp hd'
        have hil := (List.getElem?_eq_some_iff.mp hoi).1
        refine ⟨_, rfl, ?_⟩
        have ea : a.d = .tup [.str a.name, .str a.role.s, a.l, a.r, .bl a.loose, .bl a.assoc] := rfl
        rw [ea]
        walk_at "go"
        · refine ⟨by omega, ?_⟩
          have := putA_len (ks := kf) (xs := vf) (k := .inr a.name) (v := D.int (i : Int))
          exact tn_nx ⟨kr, vr, _, _, _, _, rfl, by omega, by omega⟩
        · refine ⟨by omega, ?_⟩
          have := putA_len (ks := kr) (xs := vr) (k := .inr a.name) (v := D.int (i : Int))
          exact tn_nx ⟨_, _, kf, vf, _, _, rfl, by omega, by omega⟩
      · obtain ⟨kr, vr, kf, vf, x2, x3, rfl, hkr, hkf⟩ := hi
        walk_at "go"
        exact h kr vr kf vf
  cases hc
  · exact body.1
  · exact body.2
/-- Table(ops) -/
theorem we_table {ops : List Op} {i : Nat} {ρ : List O} {o : O} {P : O → List O → Prop} (e : ρ[i]? = some o) (hc : LS (ops.map Op.d) o) (ho : OpsOk ops) (h : ∀ ds, IsTab ops nsT ds → P (.v (.ins "Table" nsT ds)) (ρ.set i (.v (.lst (ops.map Op.d))))) : WE (m_make "Table" g_Table___init__ (a_cons (p_nm i) a_nil) ρ) P := by
  have hi := (List.getElem?_eq_some_iff.mp e).1
  refine we_make ?_
  have key : ∀ o2, LS (ops.map Op.d) o2 → ∀ (ρ2 : List O), bk [.nm i] [.v (.lst (ops.map Op.d))] ρ2 = ρ.set i (.v (.lst (ops.map Op.d))) → WG (g_Table___init__ (.g (.ins "Table" []) [] :: [o2])) fun r outs => r = .v .non ∧ ∃ s outs', outs = s :: outs' ∧ ∃ d, toD s = some d ∧ P (.v d) (bk [.nm i] outs' ρ2) := by
    intro o2 ho2 ρ2 hb
    refine init_w ho2 ho fun kr vr kf vf => ⟨rfl, _, _, rfl, _, rfl, ?_⟩
    rw [hb]
    exact h _ kept_ins
  cases hc with
  | v =>
    refine wa_cons (wp_nm e (wa_nil ⟨[.v (.lst (ops.map Op.d))], ρ, by simp [tk, e], key _ .v ρ ?_⟩))
    unfold bk
    rw [e]
    simp only
    unfold bk
    exact (set_same e).symm
  | l =>
    refine wa_cons (wp_nmL e (wa_nil ⟨[.l (ops.map Op.d)], ρ.set i .n, by simp [tk, e], key _ .l _ ?_⟩))
    unfold bk
    rw [List.getElem?_set_self hi]
    simp only
    unfold bk
    rw [List.set_set]

end
section
local macro_rules | `(tactic| walk_at "mwc") => `(tactic| with_reducible refine take_w (by assumption) (by omega) fun r s' hs' hr1 hr2 => ?_)

theorem pickL2_w {α : Type} {f : α → D} {s : List Int} {xs : List α} {P : O → List O → Prop} (hs : WF s) (h0 : 0 < xs.length) (hz : xs.length ≤ 1000000) (h : ∀ a s', WF s' → a ∈ xs → P (.v (f a)) [Sr s', .l (xs.map f)]) : WG (g_law_pick [Sr s, .l (xs.map f)]) P := by
  refine pickL_w hs (by rw [List.length_map]; exact h0) (by rw [List.length_map]; exact hz) fun d s' hs' hd => ?_
  obtain ⟨a, ha, rfl⟩ := List.mem_map.mp hd
  exact h a s' hs' ha
theorem roles_w {ops : List Op} {r : Role} {P : O → List O → Prop} (hl : ops.length ≤ 100000) (h : P (.l ((rolesOf ops r).map nat)) [.l (ops.map Op.d), .v (.str r.s)]) : WG (g_law_roles [.l (ops.map Op.d), .v (.str r.s)]) P := by
  unfold g_law_roles
  walk_at "mwfn"
  unfold mb_law_roles
  walk_at "go"
  refine ⟨big_of (by rw [List.length_map]; omega) (by rw [List.length_map]; omega), by rw [rngD_length, List.length_map]; omega, fun i acc ρ => acc = ((List.range i).filter fun k => decide ((ops[k]?).map Op.role = some r)).map nat ∧ ρ = [.l (ops.map Op.d), .v (.str r.s), .n], ⟨rfl, rfl⟩, fun i d acc ρ hd hi => ?_, fun acc ρ hi => ?_⟩
  · obtain ⟨rfl, rfl⟩ := hi
    obtain ⟨hi, rfl⟩ := rngD_get hd
    rw [List.length_map] at hi
    have hil : i < ops.length := by omega
    have ho : ops[i]? = some ops[i] := List.getElem?_eq_getElem hil
    generalize ops[i] = a at ho
    have ea : a.d = .tup [.str a.name, .str a.role.s, a.l, a.r, .bl a.loose, .bl a.assoc] := rfl
    refine ⟨_, rfl, ?_⟩
    walk_at "go"
    refine wr_ixLn (j := i) (by omega) (by rw [List.getElem?_map, ho]; rfl) ?_
    rw [ea]
    walk_at "go"
    · rename_i hr
      have hr' : a.role = r := Role.s_inj hr
      refine ⟨?_, rfl⟩
      rw [List.range_succ, List.filter_append, List.map_append]
      simp [ho, hr', nat]
    · rename_i hr
      have hr' : ¬ a.role = r := fun e => hr (by rw [e])
      refine ⟨?_, rfl⟩
      rw [List.range_succ, List.filter_append, List.map_append]
      simp [ho, hr']
  · obtain ⟨rfl, rfl⟩ := hi
    walk_at "go"
    have : (rngD 0 (((ops.map Op.d).length : Int).toNat)).length = ops.length := by rw [rngD_length, List.length_map]; omega
    rw [this]
    exact h
theorem find_w {ops : List Op} {name : Str} {role : Role} {P : O → List O → Prop} (hl : ops.length ≤ 100000) (h : ∀ k : Int, (k < 0 → ∀ a ∈ ops, ¬ (a.name = name ∧ (a.role = .pre ↔ role = .pre))) → P (.v (.int k)) [.l (ops.map Op.d), .v (.str name), .v (.str role.s)]) : WG (g_law_find [.l (ops.map Op.d), .v (.str name), .v (.str role.s)]) P := by
  unfold g_law_find
  walk_at "mwfn"
  unfold mb_law_find
  walk_at "go"
  refine ⟨big_of (by rw [List.length_map]; omega) (by rw [List.length_map]; omega), ?_⟩
  refine wf_inv (fun i ρ => ∃ (x : O), ρ = [.l (ops.map Op.d), .v (.str name), .v (.str role.s), x] ∧ ∀ a ∈ ops.take i, ¬ (a.name = name ∧ (a.role = .pre ↔ role = .pre))) ⟨_, rfl, by simp⟩ (fun i d ρ hd hi => ?_) (fun ρ hi => ?_)
  · obtain ⟨x, rfl, hx⟩ := hi
    obtain ⟨hi, rfl⟩ := rngD_get hd
    rw [List.length_map] at hi
    have hil : i < ops.length := by omega
    have ho : ops[i]? = some ops[i] := List.getElem?_eq_getElem hil
    have et : ops.take (i + 1) = ops.take i ++ [ops[i]] := List.take_succ_eq_append_getElem hil
    rw [et]
    generalize ops[i] = a at ho
    have hda : (ops.map Op.d)[i]? = some a.d := by rw [List.getElem?_map, ho]; rfl
    have ea : a.d = .tup [.str a.name, .str a.role.s, a.l, a.r, .bl a.loose, .bl a.assoc] := rfl
    refine ⟨_, rfl, ?_⟩
    walk_at "go"
    refine wr_ixLn (j := i) (by omega) hda ?_
    rw [ea]
    walk_at "go"
    · refine wr_ixLn (j := i) (by omega) hda ?_
      rw [ea]
      walk_at "go"
      · exact h _ fun hn => by omega
      · rename_i h1 h2
        refine tn_nx ⟨_, rfl, fun b hb => ?_⟩
        rcases List.mem_append.mp hb with hb | hb
        · exact hx b hb
        · rw [List.mem_singleton.mp hb]
          rintro ⟨_, h3⟩
          rw [pre_dec, pre_dec, decide_eq_decide] at h2
          exact h2 h3
    · rename_i h1
      refine tn_nx ⟨_, rfl, fun b hb => ?_⟩
      rcases List.mem_append.mp hb with hb | hb
      · exact hx b hb
      · rw [List.mem_singleton.mp hb]
        exact fun ⟨h3, _⟩ => h1 h3
  · obtain ⟨x, rfl, hx⟩ := hi
    rw [rngD_length, List.length_map, show ((ops.length : Int)).toNat = ops.length by omega, List.take_length] at hx
    walk_at "go"
    exact h _ fun _ => hx
structure GT (ar : Nat → Option Nat) (n : Nat) (u : T) : Prop where
  ok : T.Ok ar u
  w : T.W u
  sz : T.sz u ≤ n
theorem GT.le {ar : Nat → Option Nat} {n m : Nat} {u : T} (h : GT ar n u) (hm : n ≤ m) : GT ar m u := ⟨h.ok, h.w, Nat.le_trans h.sz hm⟩
/-- words, leaves -/
def WsOk (ws : List Str) : Prop := 0 < ws.length ∧ ws.length ≤ 1000 ∧ ∀ w ∈ ws, PyData.strOk w = true ∧ w.length ≤ 10000
def LvOk (ar : Nat → Option Nat) (lv : List T) : Prop := lv.length ≤ 1000 ∧ ∀ u ∈ lv, GT ar 1 u
theorem leaf_w {ar : Nat → Option Nat} {s : List Int} {ws : List Str} {lv : List T} {a b c : Int} {P : O → List O → Prop} (hs : WF s) (hw : WsOk ws) (hv : LvOk ar lv) (h : ∀ u s' b', WF s' → GT ar 1 u → P (.v (T.enc u)) [Sr s', .l (ws.map .str), .l (lv.map T.enc), .l [.int a, .int b', .int c]]) : WG (g_law_leaf [Sr s, .l (ws.map .str), .l (lv.map T.enc), .l [.int a, .int b, .int c]]) P := by
  have leafA : ∀ (w : Str), PyData.strOk w = true ∧ w.length ≤ 10000 → GT ar 1 (.mk (.a w) []) := fun w hw => ⟨by simp [T.Ok, T.Oks, T.okM], by simp [T.W, T.Ws, Mk.wOk, hw], by simp [T.sz, T.szs]⟩
  unfold g_law_leaf
  walk_at "mwfn"
  unfold mb_law_leaf
  walk_at "go"
  · rename_i h1 _ _ s' hs' _ _ _
    rw [List.length_map] at h1
    refine pickL2_w hs' (by omega) (by have := hv.1; omega) fun u s2 hs2 hu => ?_
    walk_at "go"
    exact h u s2 _ hs2 (hv.2 u hu)
  · rename_i s' hs' _ _ _
    refine pickL2_w hs' hw.1 (by have := hw.2.1; omega) fun w s2 hs2 hw2 => ?_
    walk_at "go"
    exact h _ s2 _ hs2 (leafA w (hw.2.2 w hw2))
  · refine pickL2_w hs hw.1 (by have := hw.2.1; omega) fun w s2 hs2 hw2 => ?_
    walk_at "go"
    exact h _ s2 _ hs2 (leafA w (hw.2.2 w hw2))
  · refine pickL2_w hs hw.1 (by have := hw.2.1; omega) fun w s2 hs2 hw2 => ?_
    walk_at "go"
    exact h _ s2 _ hs2 (leafA w (hw.2.2 w hw2))
theorem wrap_w {ar : Nat → Option Nat} {n : Nat} {u : T} {a b c : Int} {P : O → List O → Prop} (hu : GT ar n u) (h : ∀ v, GT ar (n + 1) v → P (.v (T.enc v)) [.v (T.enc u), .l [.int a, .int b, .int c]]) : WG (g_law_wrap [.v (T.enc u), .l [.int a, .int b, .int c]]) P := by
  have hb : GT ar (n + 1) (.mk .b [u]) := ⟨by simp [T.Ok, T.Oks, T.okM]; exact hu.ok, by simp [T.W, T.Ws, Mk.wOk]; exact hu.w, by have := hu.sz; simp [T.sz, T.szs]; omega⟩
  unfold g_law_wrap
  walk_at "mwfn"
  unfold mb_law_wrap
  walk_at "go"
  · exact h u (hu.le (by omega))
  · exact h u (hu.le (by omega))
  · exact h u (hu.le (by omega))
  · exact h _ hb

end
section
local macro_rules | `(tactic| walk_at "mwc") => `(tactic| with_reducible refine take_w (by assumption) (by omega) fun r s' hs' hr1 hr2 => ?_)

/-- a pile of trees -/
structure PileOk (ops : List Op) (B L : Nat) (S : List T) : Prop where
  ne : S ≠ []
  all : ∀ u ∈ S, T.Ok (arO ops) u ∧ T.W u
  sz : T.szs S ≤ B
  len : S.length ≤ L
  inf : 1 < S.length → rolesOf ops .inf ≠ []
def CallsOk (cs : List (Str × Nat)) : Prop := cs.length ≤ 1000 ∧ ∀ c ∈ cs, (PyData.strOk c.1 = true ∧ c.1.length ≤ 10000) ∧ 1 ≤ c.2 ∧ c.2 ≤ 3
def callD (c : Str × Nat) : D := .tup [.str c.1, nat c.2]
theorem enc_sn {A : List T} {u : T} {d : D} (h : d = T.enc u) : A.map T.enc ++ [d] = (A ++ [u]).map T.enc := by rw [h, List.map_append]; rfl
theorem szs_set : ∀ {us : List T} {k : Nat} {u : T}, (∀ v ∈ us, T.sz v ≤ 1) → T.szs (us.set k u) ≤ us.length + T.sz u
  | [], k, u, _ => by simp [T.szs]
  | v :: us, 0, u, h => by
    have h1 := szs_set (us := us) (k := us.length) (u := u) fun w hw => h w (List.mem_cons_of_mem _ hw)
    rw [List.set_eq_of_length_le (Nat.le_refl _)] at h1
    have h2 : ∀ us : List T, (∀ v ∈ us, T.sz v ≤ 1) → T.szs us ≤ us.length := fun us => by
      induction us with
      | nil => intro _; simp [T.szs]
      | cons v us ih => intro h; have := ih fun w hw => h w (List.mem_cons_of_mem _ hw); have := h v (List.mem_cons_self ..); simp only [T.szs, List.length_cons]; omega
    have := h2 us fun w hw => h w (List.mem_cons_of_mem _ hw)
    simp only [List.set, T.szs, List.length_cons]; omega
  | v :: us, k + 1, u, h => by
    have h1 := szs_set (us := us) (k := k) (u := u) fun w hw => h w (List.mem_cons_of_mem _ hw)
    have h2 := h v (List.mem_cons_self ..)
    simp only [List.set, T.szs, List.length_cons]; omega
theorem szs_snoc (S : List T) (u : T) : T.szs (S ++ [u]) = T.szs S + T.sz u := by rw [T.szs_app]; simp [T.szs]
theorem GT.op1 {ops : List Op} {n k : Nat} {u : T} (hu : GT (arO ops) n u) (h : ∃ o, ops[k]? = some o ∧ o.role ≠ .inf) : GT (arO ops) (n + 1) (.mk (.o k) [u]) := by
  obtain ⟨o, e, r⟩ := h
  refine ⟨?_, by simp [T.W, T.Ws, Mk.wOk]; exact hu.w, by have := hu.sz; simp [T.sz, T.szs]; omega⟩
  simp only [T.Ok, T.Oks, T.okM, List.length_cons, List.length_nil, and_true]
  refine ⟨?_, hu.ok⟩
  unfold arO Op.ar
  rw [e]
  simp only [Option.map_some]
  try (cases hr : o.role <;> first | (exact absurd hr r) | rfl)
theorem GT.op2 {ops : List Op} {n m k : Nat} {u v : T} (hu : GT (arO ops) n u) (hv : GT (arO ops) m v) (h : ∃ o, ops[k]? = some o ∧ o.role = .inf) : GT (arO ops) (n + m + 1) (.mk (.o k) [u, v]) := by
  obtain ⟨o, e, r⟩ := h
  refine ⟨?_, by simp [T.W, T.Ws, Mk.wOk]; exact ⟨hu.w, hv.w⟩, by have := hu.sz; have := hv.sz; simp [T.sz, T.szs]; omega⟩
  simp only [T.Ok, T.Oks, T.okM, List.length_cons, List.length_nil, and_true]
  refine ⟨?_, hu.ok, hv.ok⟩
  unfold arO Op.ar
  rw [e]
  simp only [Option.map_some, r]
theorem GT.call {ar : Nat → Option Nat} {n : Nat} {f : Str} {us : List T} (hf : PyData.strOk f = true ∧ f.length ≤ 10000) (hu : ∀ u ∈ us, T.Ok ar u ∧ T.W u) (hn : T.szs us ≤ n) : GT ar (n + 1) (.mk (.c f) us) :=
  ⟨by simp only [T.Ok, T.okM, true_and]; exact T.Oks_iff.mpr fun u h => (hu u h).1, by simp only [T.W]; exact ⟨hf, T.Ws_iff.mpr fun u h => (hu u h).2⟩, by simp only [T.sz]; omega⟩
theorem enc_o2 (k : Nat) (u v : T) : D.tup [.str (Str.ofString "o"), nat k, .tup [T.enc u, T.enc v]] = T.enc (.mk (.o k) [u, v]) := by simp [T.enc, T.encs, Mk.s, Mk.d, nat]
theorem enc_o1 (k : Nat) (u : T) : D.tup [.str (Str.ofString "o"), nat k, .tup [T.enc u]] = T.enc (.mk (.o k) [u]) := by simp [T.enc, T.encs, Mk.s, Mk.d, nat]
theorem enc_b1 (u : T) : D.tup [.str (Str.ofString "b"), T.enc u] = T.enc (.mk .b [u]) := by simp [T.enc, T.encs, Mk.s, Mk.d]
theorem enc_c (f : Str) (us : List T) : D.tup [.str (Str.ofString "c"), .str f, .tup (us.map T.enc)] = T.enc (.mk (.c f) us) := by simp [T.enc, T.encs_map, Mk.s, Mk.d]
theorem PileOk.push {ops : List Op} {B L n B' L' : Nat} {A : List T} {u v : T} (h : PileOk ops B L (A ++ [u])) (hv : GT (arO ops) n v) (hB : B + n ≤ B' + T.sz u) (hL : L ≤ L') : PileOk ops B' L' (A ++ [v]) := by
  have h1 := h.sz
  have h2 := h.len
  rw [szs_snoc] at h1
  rw [List.length_append] at h2
  refine ⟨by simp, fun w hw => ?_, by rw [szs_snoc]; have := hv.sz; omega, by rw [List.length_append]; simp at h2 ⊢; omega, fun hl => h.inf (by rw [List.length_append] at hl ⊢; simpa using hl)⟩
  rcases List.mem_append.mp hw with hw | hw
  · exact h.all w (List.mem_append_left _ hw)
  · rw [List.mem_singleton.mp hw]; exact ⟨hv.ok, hv.w⟩
theorem PileOk.add {ops : List Op} {B L n B' L' : Nat} {S : List T} {v : T} (h : PileOk ops B L S) (hv : GT (arO ops) n v) (hB : B + n ≤ B') (hL : L + 1 ≤ L') (hi : rolesOf ops .inf ≠ []) : PileOk ops B' L' (S ++ [v]) := by
  have h1 := h.sz
  have h2 := h.len
  refine ⟨by simp, fun w hw => ?_, by rw [szs_snoc]; have := hv.sz; omega, by rw [List.length_append]; simp; omega, fun _ => hi⟩
  rcases List.mem_append.mp hw with hw | hw
  · exact h.all w hw
  · rw [List.mem_singleton.mp hw]; exact ⟨hv.ok, hv.w⟩
theorem PileOk.le {ops : List Op} {B L B' L' : Nat} {S : List T} (h : PileOk ops B L S) (hB : B ≤ B') (hL : L ≤ L') : PileOk ops B' L' S := ⟨h.ne, h.all, Nat.le_trans h.sz hB, Nat.le_trans h.len hL, h.inf⟩
theorem PileOk.snoc {ops : List Op} {B L : Nat} {S : List T} (h : PileOk ops B L S) : ∃ A u, S = A ++ [u] ∧ GT (arO ops) (T.sz u) u := by
  rcases List.eq_nil_or_concat S with e | ⟨A, u, e⟩
  · exact absurd e h.ne
  · subst e
    rw [List.concat_eq_append] at h ⊢
    have := h.all u (by simp)
    exact ⟨A, u, rfl, this.1, this.2, Nat.le_refl _⟩
theorem role_inf {ops : List Op} {k : Nat} (h : k ∈ rolesOf ops .inf) : ∃ o, ops[k]? = some o ∧ o.role = .inf := rolesOf_mem h
theorem role_one {ops : List Op} {k : Nat} (h : k ∈ rolesOf ops .pre ++ rolesOf ops .post) : ∃ o, ops[k]? = some o ∧ o.role ≠ .inf := by
  rcases List.mem_append.mp h with h | h
  · obtain ⟨o, e, r⟩ := rolesOf_mem h; exact ⟨o, e, by rw [r]; decide⟩
  · obtain ⟨o, e, r⟩ := rolesOf_mem h; exact ⟨o, e, by rw [r]; decide⟩
theorem we_popS {ρ : List O} {i : Nat} {ds : List D} {d : D} {P : O → List O → Prop} (e0 : ρ[i]? = some (.l (ds ++ [d]))) (h : P (.v d) (ρ.set i (.l ds))) : WE (m_pop i ρ) P := by
  refine we_pop e0 (last_snoc _ _) ?_
  rw [dropLast_snoc]; exact h
local macro_rules | `(tactic| walk_at "mwc") => `(tactic| first
  | (with_reducible refine we_popS (ds := ?_) (d := ?_) ?_ ?_); rotate_left 2; focus rfl
  | with_reducible refine leaf_w (by assumption) (by assumption) (by assumption) fun u s' b' hs' hu => ?_
  | with_reducible refine wrap_w (by assumption) fun v hv => ?_)
theorem step_w {ops : List Op} {s : List Int} {ws : List Str} {cs : List (Str × Nat)} {lv S : List T} {a b c : Int} {B L : Nat} {P : O → List O → Prop} (hs : WF s) (hl : ops.length ≤ 10) (hw : WsOk ws) (hc : CallsOk cs) (hv : LvOk (arO ops) lv) (hS : PileOk ops B L S) (hB : B ≤ 100000) (hL : L ≤ 100000)
    (h : ∀ s' a' b' S', WF s' → PileOk ops (B + 4) (L + 1) S' → P (.v .non) [Sr s', .l (ops.map Op.d), .l (ws.map .str), .l (cs.map callD), .l (lv.map T.enc), .l [.int a', .int b', .int c], .l (S'.map T.enc)]) :
    WG (g_law_step [Sr s, .l (ops.map Op.d), .l (ws.map .str), .l (cs.map callD), .l (lv.map T.enc), .l [.int a, .int b, .int c], .l (S.map T.enc)]) P := by
  have hr1 := rolesOf_len ops .inf
  have hr2 := rolesOf_len ops .pre
  have hr3 := rolesOf_len ops .post
  have hSlen := hS.len
  unfold g_law_step
  walk_at "mwfn"
  unfold mb_law_step
  walk_at "mw"
  refine roles_w (r := .inf) (by omega) ?_
  walk_at "mw"
  refine roles_w (r := .pre) (by omega) ?_
  walk_at "mw"
  refine roles_w (r := .post) (by omega) ?_
  walk_at "mw"
  refine wr_addL (by rw [List.length_map, List.length_map]; omega) ?_
  walk_at "mw"
  refine take_w hs (by omega) fun sort s1 hs1 _ _ => ?_
  walk_at "mw"
  rw [← List.map_append]
  obtain ⟨A, u, rfl, hu⟩ := hS.snoc
  have hAl : A.length ≤ 100000 := by rw [List.length_append] at hSlen; simp at hSlen; omega
  rw [List.map_append, List.map_singleton]
  refine ws_cutC (fun ρ => ∃ (s' : List Int) (b' : Int) (pl : List D) (q : Int) (x7 x8 x9 x10 x12 x13 x14 x15 x16 : O), ρ = [Sr s', .l (ops.map Op.d), .l (ws.map .str), .l (cs.map callD), .l (lv.map T.enc), .l [.int a, .int b', .int c], .l pl, x7, x8, x9, x10, .v (.int q), x12, x13, x14, x15, x16] ∧ WF s' ∧ ∃ S', pl = S'.map T.enc ∧ PileOk ops (B + 4) (L + 1) S') ?_ ?_
  · have tst : ∀ {t : MT} {x y : MS} {ρ : List O} {P : Out → Prop} (C : Prop), WT (t ρ) (fun c ρ1 => ρ1 = ρ ∧ (c = true → C)) → (C → WS (x ρ) P) → WS (y ρ) P → WS (s_if t x y ρ) P := by
      intro t x y ρ P C h1 h2 h3
      refine ws_if ?_
      obtain ⟨c, ρ1, e, rfl, hc⟩ := h1
      refine ⟨c, _, e, ?_⟩
      cases c with
      | true => rw [if_pos rfl]; exact h2 (hc rfl)
      | false => rw [if_neg (by decide)]; exact h3
    refine tst (0 < (((rolesOf ops .inf).map nat).length : Int)) ?_ (fun hC => ?_) ?_
    · walk_at "go"
      all_goals first | exact ⟨rfl, fun _ => by assumption⟩ | exact ⟨rfl, fun h => absurd h (by decide)⟩ | exact ⟨rfl, fun h => of_decide_eq_true h⟩
    · rw [List.length_map] at hC
      walk_at "go"
      all_goals
        refine pickL2_w (by assumption) (by omega) (by omega) fun k s5 hs5 hk => ?_
        walk_at "go"
        refine ⟨by rw [List.length_map]; omega, ?_⟩
        walk_at "go"
        rename_i v1 hv1 _ _ _ _ _ v2 hv2 _ _ _ _ _ _
        have e1 := enc_sn (A := A) (enc_o2 k v1 v2)
        have e2 := enc_sn (A := A) (enc_o2 k v2 v1)
        first
          | exact ct_nx ⟨_, _, _, _, _, _, _, _, _, _, _, _, _, rfl, hs5, _, e1, hS.push (GT.op2 hv1 hv2 (role_inf hk)) (by omega) (by omega)⟩
          | exact ct_nx ⟨_, _, _, _, _, _, _, _, _, _, _, _, _, rfl, hs5, _, e2, hS.push (GT.op2 hv2 hv1 (role_inf hk)) (by omega) (by omega)⟩
    refine tst (1 < ((A.map T.enc ++ [T.enc u]).length : Int)) ?_ (fun hC => ?_) ?_
    · walk_at "go"
      all_goals first | exact ⟨rfl, fun _ => by assumption⟩ | exact ⟨rfl, fun h => absurd h (by decide)⟩ | exact ⟨rfl, fun h => of_decide_eq_true h⟩
    · have hA1 : A ≠ [] := by rintro rfl; simp at hC
      obtain ⟨A2, u2, rfl⟩ : ∃ A2 u2, A = A2 ++ [u2] := by
        rcases List.eq_nil_or_concat A with e | ⟨A2, u2, e⟩
        · exact absurd e hA1
        · exact ⟨A2, u2, by rw [e, List.concat_eq_append]⟩
      have hinf := hS.inf (by simp)
      have hinf2 : 0 < (rolesOf ops .inf).length := List.length_pos_iff.mpr hinf
      have hu2 : GT (arO ops) (T.sz u2) u2 := ⟨(hS.all u2 (by simp)).1, (hS.all u2 (by simp)).2, Nat.le_refl _⟩
      rw [List.map_append, List.map_singleton]
      walk_at "go"
      refine pickL2_w (by assumption) (by omega) (by omega) fun k s5 hs5 hk => ?_
      walk_at "go"
      refine ⟨by rw [List.length_map]; simp at hAl; omega, ?_⟩
      walk_at "go"
      rename_i v1 hv1 v2 hv2
      refine ct_nx ⟨_, _, _, _, _, _, _, _, _, _, _, _, _, rfl, hs5, A2 ++ [.mk (.o k) [v2, v1]], by rw [enc_o2]; simp, ?_⟩
      have hS2 : PileOk ops (B - T.sz u) L (A2 ++ [u2]) := ⟨by simp, fun w hw => hS.all w (List.mem_append_left _ hw), by have := hS.sz; rw [szs_snoc] at this; omega, by have := hS.len; rw [List.length_append] at this; omega, fun _ => hinf⟩
      have hsz := hS.sz
      rw [szs_snoc] at hsz
      exact hS2.push (GT.op2 hv2 hv1 (role_inf hk)) (by omega) (by omega)
    refine tst (0 < (((rolesOf ops .inf).map nat).length : Int)) ?_ (fun hC => ?_) ?_
    · walk_at "go"
      all_goals first | exact ⟨rfl, fun _ => by assumption⟩ | exact ⟨rfl, fun h => absurd h (by decide)⟩ | exact ⟨rfl, fun h => of_decide_eq_true h⟩
    · rw [List.length_map] at hC
      have hinf : rolesOf ops .inf ≠ [] := List.length_pos_iff.mp (by omega)
      walk_at "go"
      refine ⟨by simp; omega, ?_⟩
      walk_at "go"
      rename_i v1 s5 b5 hs5 hv1
      exact ct_nx ⟨_, _, _, _, _, _, _, _, _, _, _, _, _, rfl, hs5, A ++ [u] ++ [v1], by simp, hS.add hv1 (by omega) (by omega) hinf⟩
    refine tst (0 < (((rolesOf ops .pre ++ rolesOf ops .post).map nat).length : Int)) ?_ (fun hC => ?_) ?_
    · walk_at "go"
      all_goals first | exact ⟨rfl, fun _ => by assumption⟩ | exact ⟨rfl, fun h => absurd h (by decide)⟩ | exact ⟨rfl, fun h => of_decide_eq_true h⟩
    · rw [List.length_map] at hC
      walk_at "go"
      refine pickL2_w (by assumption) (by omega) (by rw [List.length_append]; omega) fun k s5 hs5 hk => ?_
      walk_at "go"
      refine ⟨by rw [List.length_map]; omega, ?_⟩
      walk_at "go"
      rename_i v1 hv1
      exact ct_nx ⟨_, _, _, _, _, _, _, _, _, _, _, _, _, rfl, hs5, A ++ [.mk (.o k) [v1]], by rw [enc_o1]; simp, hS.push (GT.op1 hv1 (role_one hk)) (by omega) (by omega)⟩
    refine tst True ?_ (fun hC => ?_) ?_
    · walk_at "go"
      all_goals exact ⟨rfl, fun _ => trivial⟩
    · walk_at "go"
      refine ⟨by rw [List.length_map]; omega, ?_⟩
      walk_at "go"
      have hb : GT (arO ops) (T.sz u + 1) (.mk .b [u]) := ⟨by simp [T.Ok, T.Oks, T.okM]; exact hu.ok, by simp [T.W, T.Ws, Mk.wOk]; exact hu.w, by simp [T.sz, T.szs]; omega⟩
      exact ct_nx ⟨_, _, _, _, _, _, _, _, _, _, _, _, _, rfl, hs1, A ++ [.mk .b [u]], by rw [enc_b1]; simp, hS.push hb (by omega) (by omega)⟩
    refine tst (0 < ((cs.map callD).length : Int)) ?_ (fun hC => ?_) ?_
    · walk_at "go"
      all_goals first | exact ⟨rfl, fun _ => by assumption⟩ | exact ⟨rfl, fun h => absurd h (by decide)⟩ | exact ⟨rfl, fun h => of_decide_eq_true h⟩
    · rw [List.length_map] at hC
      have hcl := hc.1
      walk_at "go"
      refine pickL2_w (by assumption) (by omega) (by omega) fun k s5 hs5 hk => ?_
      obtain ⟨f, n⟩ := k
      obtain ⟨hf, hn1, hn2⟩ := hc.2 _ hk
      simp only at hf hn1 hn2
      rw [show callD (f, n) = .tup [.str f, .int (n : Int)] from rfl]
      walk_at "mw"
      refine wif (fun _ => ?_) (fun _ => ?_)
      · walk_at "go"
        refine ⟨big_of (by omega) (by omega), by rw [rngD_length]; omega, fun i acc ρ => ∃ (s' : List Int) (b' : Int) (us : List T), ρ = [Sr s', .l (ops.map Op.d), .l (ws.map .str), .l (cs.map callD), .l (lv.map T.enc), .l [.int a, .int b', .int c], .l (A.map T.enc ++ [T.enc u]), .l ((rolesOf ops .inf).map nat), .l ((rolesOf ops .pre ++ rolesOf ops .post).map nat), .v (.int sort), .v (.int (a - ↑(A.map T.enc ++ [T.enc u]).length)), .v (.int 0), .n, .n, .v (.tup [.str f, .int (n : Int)]), .n, .n] ∧ acc = us.map T.enc ∧ us.length = i ∧ (∀ v ∈ us, GT (arO ops) 1 v) ∧ WF s', ⟨s5, b, [], rfl, rfl, rfl, by simp, hs5⟩, fun i d acc ρ hd hi => ?_, fun acc ρ hi => ?_⟩
        · obtain ⟨s', b', us, rfl, rfl, rfl, hus, hs'⟩ := hi
          refine ⟨_, rfl, ?_⟩
          walk_at "go"
          rename_i v s6 b6 hs6 hv6
          refine ⟨s6, b6, us ++ [v], rfl, by simp, by simp, fun w hw => ?_, hs6⟩
          rcases List.mem_append.mp hw with hw | hw
          · exact hus w hw
          · rw [List.mem_singleton.mp hw]; exact hv6
        · obtain ⟨s', b', us, rfl, rfl, hus, hu1, hs'⟩ := hi
          rw [rngD_length] at hus
          walk_at "go"
          rename_i r s6 hs6 hr1' hr2'
          refine wx_nat (j := r.toNat) (by omega) (by rw [List.length_map]; omega) ?_
          rw [← List.map_set]
          walk_at "go"
          have e1 := enc_sn (A := A) (enc_c f (us.set r.toNat u))
          have hu2 : ∀ v ∈ us.set r.toNat u, T.Ok (arO ops) v ∧ T.W v := fun v hv => by
            rcases List.mem_or_eq_of_mem_set hv with hv | rfl
            · exact ⟨(hu1 v hv).ok, (hu1 v hv).w⟩
            · exact ⟨hu.ok, hu.w⟩
          have hsz := szs_set (us := us) (k := r.toNat) (u := u) fun v hv => (hu1 v hv).sz
          refine ⟨by rw [List.length_map]; omega, ?_⟩
          walk_at "go"
          exact ct_nx ⟨_, _, _, _, _, _, _, _, _, _, _, _, _, rfl, hs6, _, e1, hS.push (GT.call hf hu2 hsz) (by omega) (by omega)⟩
      · walk_at "go"
        exact ct_nx ⟨_, _, _, _, _, _, _, _, _, _, _, _, _, rfl, hs5, _, (by rw [List.map_append]; rfl), hS.le (by omega) (by omega)⟩
    · walk_at "go"
      exact ct_nx ⟨_, _, _, _, _, _, _, _, _, _, _, _, _, rfl, hs1, _, (by rw [List.map_append]; rfl), hS.le (by omega) (by omega)⟩
  · rintro ρ1 ⟨s', b', pl, q, x7, x8, x9, x10, x12, x13, x14, x15, x16, rfl, hs', S', rfl, hS'⟩
    walk_at "go"
    exact h s' _ b' S' hs' hS'

end
section
local macro_rules | `(tactic| walk_at "mwc") => `(tactic| with_reducible refine take_w (by assumption) (by omega) fun r s' hs' hr1 hr2 => ?_)

local macro_rules | `(tactic| walk_at "mwc") => `(tactic| first
  | (with_reducible refine we_popS (ds := ?_) (d := ?_) ?_ ?_); rotate_left 2; focus rfl
  | with_reducible refine leaf_w (by assumption) (by assumption) (by assumption) fun u s' b' hs' hu => ?_
  | with_reducible refine wrap_w (by assumption) fun v hv => ?_)
theorem tree_w {ops : List Op} {s : List Int} {ws : List Str} {cs : List (Str × Nat)} {lv : List T} {oc : O} {a b c : Int} {N : Nat} {P : O → List O → Prop} (hs : WF s) (hl : ops.length ≤ 10) (hw : WsOk ws) (hc : CallsOk cs) (hoc : LS (cs.map callD) oc) (hv : LvOk (arO ops) lv) (ha1 : 1 ≤ a) (ha2 : a ≤ 100000) (hN : min 60 (a - 1) ≤ (N : Int)) (hN2 : N ≤ 100)
    (h : ∀ s' a' b' u, WF s' → GT (arO ops) (1 + 7 * N) u → P (.v (T.enc u)) [Sr s', .l (ops.map Op.d), .l (ws.map .str), .v (.lst (cs.map callD)), .l (lv.map T.enc), .l [.int a', .int b', .int c]]) :
    WG (g_law_tree [Sr s, .l (ops.map Op.d), .l (ws.map .str), oc, .l (lv.map T.enc), .l [.int a, .int b, .int c]]) P := by
  have hr1 := rolesOf_len ops .inf
  have hcl := hc.1
  unfold g_law_tree
  walk_at "mwfn"
  unfold mb_law_tree
  walk_at "go"
  rename_i u0 s1 b1 hs1 hu0
  refine roles_w (r := .inf) (by omega) ?_
  walk_at "go"
  have hoc2 : toD oc = some (.lst (cs.map callD)) := by cases hoc <;> rfl
  refine we_varO rfl hoc2 ?_
  refine ⟨_, rfl, _, rfl, by rw [List.length_map]; omega, fun i acc ρ => acc = (cs.take i).map callD ∧ ρ = [Sr s1, .l (ops.map Op.d), .l (ws.map .str), .v (.lst (cs.map callD)), .l (lv.map T.enc), .l [.int (a - 1), .int b1, .int c], .l [u0.enc], .l ((rolesOf ops .inf).map nat), .n, .n, .n, .n], ⟨rfl, rfl⟩, fun i d acc ρ hd hi => ?_, fun acc ρ hi => ?_⟩
  · obtain ⟨rfl, rfl⟩ := hi
    rw [List.getElem?_map] at hd
    cases hci : cs[i]? with
    | none => rw [hci] at hd; exact absurd hd (by simp)
    | some k =>
      rw [hci] at hd
      have hd2 : d = callD k := (Option.some.inj hd).symm
      have hil : i < cs.length := (List.getElem?_eq_some_iff.mp hci).1
      have et : cs.take (i + 1) = cs.take i ++ [k] := by rw [List.take_succ_eq_append_getElem hil]; rw [(List.getElem?_eq_some_iff.mp hci).2]
      obtain ⟨f, n⟩ := k
      obtain ⟨hf, hn1, hn2⟩ := hc.2 _ (List.mem_of_getElem? hci)
      simp only at hf hn1 hn2
      rw [show callD (f, n) = .tup [.str f, .int (n : Int)] from rfl] at hd2
      subst hd2
      refine ⟨_, rfl, ?_⟩
      walk_at "go"
      · exact ⟨by rw [et, List.map_append]; rfl, rfl⟩
      · omega
  · obtain ⟨rfl, rfl⟩ := hi
    rw [List.length_map, List.take_length]
    walk_at "go"
    all_goals
      refine edge_w (by assumption) (by omega) fun r s2 hs2 hr1 hr2 => ?_
      walk_at "go"
      have hrN : r ≤ (N : Int) := by revert hr2 hN; split <;> intro hN hr2 <;> omega
      refine ⟨big_of (by omega) (by omega), ?_⟩
      refine wf_inv (fun i ρ => ∃ (s' : List Int) (a' b' : Int) (x : O) (S : List T), ρ = [Sr s', .l (ops.map Op.d), .l (ws.map .str), .v (.lst (cs.map callD)), .l (lv.map T.enc), .l [.int a', .int b', .int c], .l (S.map T.enc), .l ((rolesOf ops .inf).map nat), .l (cs.map callD), x, .n, .n] ∧ WF s' ∧ PileOk ops (1 + 4 * i) (1 + i) S) ⟨_, _, _, _, [u0], rfl, hs2, ⟨by simp, fun w hw => by rw [List.mem_singleton.mp hw]; exact ⟨hu0.ok, hu0.w⟩, by have := hu0.sz; simp [T.szs]; omega, by simp, by simp⟩⟩ (fun i d ρ hd hi => ?_) (fun ρ hi => ?_)
      · obtain ⟨s', a', b', x, S, rfl, hs', hS⟩ := hi
        obtain ⟨hi, rfl⟩ := rngD_get hd
        refine ⟨_, rfl, ?_⟩
        walk_at "go"
        refine step_w hs' hl hw hc hv hS (by omega) (by omega) fun s3 a3 b3 S3 hs3 hS3 => ?_
        walk_at "go"
        simp only [bk, List.set_cons_succ, List.set_cons_zero, List.getElem?_cons_succ, List.getElem?_cons_zero]
        exact tn_nx ⟨s3, a3, b3, _, S3, rfl, hs3, hS3.le (by omega) (by omega)⟩
      · obtain ⟨s', a', b', x, S, rfl, hs', hS⟩ := hi
        rw [rngD_length] at hS
        have hS := hS.le (B' := 1 + 4 * N) (L' := 1 + N) (by omega) (by omega)
        have hSl := hS.len
        have hSn := List.length_pos_iff.mpr hS.ne
        walk_at "go"
        rw [List.length_map]
        refine ⟨big_of (by omega) (by omega), ?_⟩
        refine wf_inv (fun i ρ => ∃ (s' : List Int) (x y : O) (S' : List T), ρ = [Sr s', .l (ops.map Op.d), .l (ws.map .str), .v (.lst (cs.map callD)), .l (lv.map T.enc), .l [.int a', .int b', .int c], .l (S'.map T.enc), .l ((rolesOf ops .inf).map nat), .l (cs.map callD), x, y, .n] ∧ WF s' ∧ PileOk ops (1 + 4 * N + 3 * i) 100000 S' ∧ S'.length + i = S.length) ⟨_, _, _, S, rfl, hs', hS.le (by omega) (by omega), rfl⟩ (fun i d ρ hd hi => ?_) (fun ρ hi => ?_)
        · obtain ⟨s2, x2, y2, S2, rfl, hs2, hS2, hL2⟩ := hi
          obtain ⟨hi, rfl⟩ := rngD_get hd
          refine ⟨_, rfl, ?_⟩
          obtain ⟨A, u, rfl, hu⟩ := hS2.snoc
          have hA1 : A ≠ [] := by rintro rfl; simp at hL2; omega
          obtain ⟨A2, u2, rfl⟩ : ∃ A2 u2, A = A2 ++ [u2] := by
            rcases List.eq_nil_or_concat A with e | ⟨A2, u2, e⟩
            · exact absurd e hA1
            · exact ⟨A2, u2, by rw [e, List.concat_eq_append]⟩
          have hinf := hS2.inf (by simp)
          have hinf2 : 0 < (rolesOf ops .inf).length := List.length_pos_iff.mpr hinf
          have hu2 : GT (arO ops) (T.sz u2) u2 := ⟨(hS2.all u2 (by simp)).1, (hS2.all u2 (by simp)).2, Nat.le_refl _⟩
          rw [List.map_append, List.map_append, List.map_singleton, List.map_singleton]
          walk_at "go"
          refine pickL2_w (by assumption) (by omega) (by omega) fun k s5 hs5 hk => ?_
          walk_at "go"
          have hA2 : A2.length ≤ 100000 := by have := hS2.len; simp at this; omega
          refine ⟨by rw [List.length_map]; omega, ?_⟩
          walk_at "go"
          rename_i v1 hv1 v2 hv2
          simp only [bk, List.set_cons_succ, List.set_cons_zero, List.getElem?_cons_succ, List.getElem?_cons_zero]
          have e1 := enc_sn (A := A2) (enc_o2 k v2 v1)
          have hS3 : PileOk ops (1 + 4 * N + 3 * i - T.sz u) 100000 (A2 ++ [u2]) := ⟨by simp, fun w hw => hS2.all w (List.mem_append_left _ hw), by have := hS2.sz; rw [szs_snoc] at this; omega, by have := hS2.len; rw [List.length_append] at this; omega, fun _ => hinf⟩
          have hsz := hS2.sz
          rw [szs_snoc] at hsz
          refine tn_nx ⟨s5, .v (.int (0 + (i : Int))), .v (T.enc v1), A2 ++ [.mk (.o k) [v2, v1]], ?_, hs5, hS3.push (GT.op2 hv2 hv1 (role_inf hk)) (by omega) (by omega), by simp at hL2 ⊢; omega⟩
          rw [← e1]
        · obtain ⟨s2, x2, y2, S2, rfl, hs2, hS2, hL2⟩ := hi
          rw [rngD_length] at hL2 hS2
          obtain ⟨u, rfl⟩ : ∃ u, S2 = [u] := List.length_eq_one_iff.mp (by omega)
          walk_at "go"
          exact h s2 _ _ u hs2 ⟨(hS2.all u (by simp)).1, (hS2.all u (by simp)).2, by have := hS2.sz; simp [T.szs] at this hL2; omega⟩

end
section
local macro_rules | `(tactic| walk_at "mwc") => `(tactic| with_reducible refine take_w (by assumption) (by omega) fun r s' hs' hr1 hr2 => ?_)

theorem wr_ixM {ds : List D} {i : Int} {P : O → Prop} (h0 : 0 < ds.length) (h : ∀ d ∈ ds, P (.v d)) : WR (ixD (.lst ds) (.int (i % (ds.length : Int)))) P := by
  have h1 := Int.emod_nonneg i (show (ds.length : Int) ≠ 0 by omega)
  have h2 := Int.emod_lt_of_pos i (show (0 : Int) < (ds.length : Int) by omega)
  obtain ⟨j, hj⟩ : ∃ j : Nat, i % (ds.length : Int) = (j : Int) := ⟨(i % (ds.length : Int)).toNat, by omega⟩
  rw [hj]
  exact wr_ixLn rfl (List.getElem?_eq_getElem (show j < ds.length by omega)) (h _ (List.getElem_mem _))
theorem wr_ixM2 {α : Type} {f : α → D} {xs : List α} {i : Int} {P : O → Prop} (h0 : 0 < xs.length) (h : ∀ a ∈ xs, P (.v (f a))) : WR (ixD (.lst (xs.map f)) (.int (i % ((xs.map f).length : Int)))) P := by
  refine wr_ixM (by rw [List.length_map]; exact h0) fun d hd => ?_
  obtain ⟨a, ha, rfl⟩ := List.mem_map.mp hd
  exact h a ha
local macro_rules | `(tactic| walk_at "mwc") => `(tactic| first
  | with_reducible refine take_w (by assumption) (by omega) fun r s' hs' hr1 hr2 => ?_
  | with_reducible refine wr_ixM2 (by omega) fun k hk => ?_)
/-- a move: three small numbers -/
def MoveOk (d : D) : Prop := ∃ x y z : Int, d = .lst [.int x, .int y, .int z] ∧ (0 ≤ x ∧ x < 100) ∧ (0 ≤ y ∧ y < 100) ∧ (0 ≤ z ∧ z < 100)
theorem long_w {ops : List Op} {s : List Int} {ws : List Str} {tk : Int} {P : O → List O → Prop} (hs : WF s) (hl : ops.length ≤ 10) (hw : WsOk ws) (ht : 0 ≤ tk ∧ tk ≤ 1000)
    (h : ∀ s' u, WF s' → GT (arO ops) 241 u → P (.v (T.enc u)) [Sr s', .l (ops.map Op.d), .l (ws.map .str), .v (.int tk)]) :
    WG (g_law_long [Sr s, .l (ops.map Op.d), .l (ws.map .str), .v (.int tk)]) P := by
  have hr1 := rolesOf_len ops .inf
  have hr2 := rolesOf_len ops .pre
  have hr3 := rolesOf_len ops .post
  unfold g_law_long
  walk_at "mwfn"
  unfold mb_law_long
  walk_at "mw"
  refine roles_w (r := .inf) (by omega) ?_
  walk_at "mw"
  refine roles_w (r := .pre) (by omega) ?_
  walk_at "mw"
  refine roles_w (r := .post) (by omega) ?_
  walk_at "mw"
  refine wr_addL (by rw [List.length_map, List.length_map]; omega) ?_
  rw [← List.map_append]
  walk_at "go"
  refine ⟨by decide, by decide, fun i acc ρ => ∃ s', ρ = [Sr s', .l (ops.map Op.d), .l (ws.map .str), .v (.int tk), .l ((rolesOf ops .inf).map nat), .l ((rolesOf ops .pre ++ rolesOf ops .post).map nat), .n, .n, .n, .n, .n, .n, .n, .n] ∧ WF s' ∧ acc.length = i ∧ ∀ d ∈ acc, MoveOk d, ⟨s, rfl, hs, rfl, by simp⟩, fun i d acc ρ hd hi => ?_, fun acc ρ hi => ?_⟩
  · obtain ⟨s', rfl, hs', rfl, hm⟩ := hi
    refine ⟨_, rfl, ?_⟩
    walk_at "go"
    rename_i r1 s1 hs1 a1 b1 r2 s2 hs2 a2 b2 r3 s3 hs3 a3 b3
    refine ⟨hs3, by simp, fun d hd => ?_⟩
    rcases List.mem_append.mp hd with hd | hd
    · exact hm d hd
    · rw [List.mem_singleton.mp hd]
      exact ⟨r1, r2, r3, rfl, by omega, by omega, by omega⟩
  · obtain ⟨s', rfl, hs', hacc, hm⟩ := hi
    rw [rngD_length] at hacc
    walk_at "go"
    refine pickL2_w hs' hw.1 (by have := hw.2.1; omega) fun w s2 hs2 hw2 => ?_
    walk_at "go"
    refine ⟨by decide, ?_⟩
    refine wf_inv (fun i ρ => ∃ (t : T) (l : Int) (x9 x10 x11 x13 : O), ρ = [Sr s2, .l (ops.map Op.d), .l (ws.map .str), .v (.int tk), .l ((rolesOf ops .inf).map nat), .l ((rolesOf ops .pre ++ rolesOf ops .post).map nat), .l acc, .v (T.enc t), .v (.int l), x9, x10, x11, .n, x13] ∧ GT (arO ops) (1 + 2 * i) t ∧ tk - 1 - 2 * i ≤ l ∧ l ≤ tk) ⟨.mk (.a w) [], _, _, _, _, _, rfl, ⟨by simp [T.Ok, T.Oks, T.okM], by simp [T.W, T.Ws, Mk.wOk, hw.2.2 w hw2], by simp [T.sz, T.szs]⟩, by omega, by omega⟩ (fun i d ρ hd hi => ?_) (fun ρ hi => ?_)
    · obtain ⟨t, l, x9, x10, x11, x13, rfl, ht1, hl1, hl2⟩ := hi
      obtain ⟨hi, rfl⟩ := rngD_get hd
      have hi2 : i < 120 := hi
      refine ⟨_, rfl, ?_⟩
      walk_at "go"
      rw [show ((0 : Int) + (i : Int)) % 6 = (0 + (i : Int)) % (acc.length : Int) by rw [hacc]; rfl]
      refine wr_ixM (by rw [hacc]; decide) fun d hd => ?_
      obtain ⟨x, y, z, rfl, hx, hy, hz⟩ := hm d hd
      have hm1 : ((rolesOf ops .inf).map nat).length = (rolesOf ops .inf).length := List.length_map ..
      have hm2 : ((rolesOf ops .pre ++ rolesOf ops .post).map nat).length = (rolesOf ops .pre ++ rolesOf ops .post).length := List.length_map ..
      have hm3 : (ws.map D.str).length = ws.length := List.length_map ..
      have hw1 := hw.1
      have ga : ∀ w ∈ ws, GT (arO ops) 1 (.mk (.a w) []) := fun w1 hw1 => ⟨by simp [T.Ok, T.Oks, T.okM], by simp [T.W, T.Ws, Mk.wOk, hw.2.2 w1 hw1], by simp [T.sz, T.szs]⟩
      walk_at "go"
      all_goals first
        | exact h s2 t hs2 (ht1.le (by omega))
        | (rename_i k hk
           first
             | exact tn_nx ⟨.mk (.o k) [t], _, _, _, _, _, rfl, (GT.op1 ht1 (role_one hk)).le (by omega), by omega, by omega⟩
             | exact tn_nx ⟨.mk (.o k) [t, .mk (.a _) []], _, _, _, _, _, rfl, (GT.op2 ht1 (ga _ (by assumption)) (role_inf hk)).le (by omega), by omega, by omega⟩
             | exact tn_nx ⟨.mk (.o k) [.mk (.a _) [], t], _, _, _, _, _, rfl, (GT.op2 (ga _ (by assumption)) ht1 (role_inf hk)).le (by omega), by omega, by omega⟩)
        | exact tn_nx ⟨.mk .b [t], _, _, _, _, _, rfl, ⟨by simp [T.Ok, T.Oks, T.okM]; exact ht1.ok, by simp [T.W, T.Ws, Mk.wOk]; exact ht1.w, by have := ht1.sz; simp [T.sz, T.szs]; omega⟩, by omega, by omega⟩
        | trace_state
    · obtain ⟨t, l, x9, x10, x11, x13, rfl, ht1, hl1, hl2⟩ := hi
      walk_at "go"
      exact h s2 t hs2 ht1

end
section
local macro_rules | `(tactic| walk_at "mwc") => `(tactic| with_reducible refine take_w (by assumption) (by omega) fun r s' hs' hr1 hr2 => ?_)

def menu : List Str := [Str.ofString "+", Str.ofString "-", Str.ofString "*", Str.ofString "^", Str.ofString "!", Str.ofString "<", Str.ofString "=", Str.ofString "--", Str.ofString "<=", Str.ofString "-<", Str.ofString "or", Str.ofString "e", Str.ofString "not", Str.ofString "+="]
theorem menu_nd : menu.Nodup := by decide +kernel
theorem menu_ok : ∀ z ∈ menu, fO (.str z) = true ∧ z.length ≤ 10000 := by decide +kernel
def unS : D → Str
  | .str z => z
  | _ => Str.ofString ""
theorem perm_str {es : List D} {L : List Str} (h : es.Perm (L.map D.str)) : ∃ names : List Str, names.Perm L ∧ es = names.map D.str := by
  refine ⟨es.map unS, ?_, ?_⟩
  · have := h.map unS
    rw [List.map_map] at this
    have e : L.map (unS ∘ D.str) = L := (List.map_congr_left fun a _ => rfl).trans (List.map_id L)
    rw [e] at this
    exact this
  · rw [List.map_map]
    have : ∀ e ∈ es, (D.str ∘ unS) e = e := fun e he => by
      obtain ⟨z, _, rfl⟩ := List.mem_map.mp (h.mem_iff.mp he)
      rfl
    exact ((List.map_congr_left this).trans (List.map_id es)).symm
structure LInv (names : List Str) (p : Int) (ops : List Op) (i : Nat) : Prop where
  len : ops.length = i
  ok : ∀ o ∈ ops, OpOk o ∧ o.left % 2 = p ∧ o.right % 2 = 1 - p
  nm : ∀ o ∈ ops, o.name ∈ names.take i
  cl : ∀ (i j : Nat) (a b : Op), i < j → ops[i]? = some a → ops[j]? = some b → ¬ (a.name = b.name ∧ (a.role = .pre ↔ b.role = .pre))
theorem LInv.push {names : List Str} {p : Int} {ops : List Op} {i : Nat} {o : Op} (h : LInv names p ops i) (h1 : OpOk o ∧ o.left % 2 = p ∧ o.right % 2 = 1 - p) (h2 : o.name ∈ names.take (i + 1)) (h3 : ∀ a ∈ ops, ¬ (a.name = o.name ∧ (a.role = .pre ↔ o.role = .pre))) : LInv names p (ops ++ [o]) (i + 1) := by
  refine ⟨by rw [List.length_append, h.len]; rfl, fun b hb => ?_, fun b hb => ?_, fun k j a b hkj ha hb => ?_⟩
  · rcases List.mem_append.mp hb with hb | hb
    · exact h.ok b hb
    · rw [List.mem_singleton.mp hb]; exact h1
  · rcases List.mem_append.mp hb with hb | hb
    · exact (List.take_subset_take_left names (Nat.le_succ i)) (h.nm b hb)
    · rw [List.mem_singleton.mp hb]; exact h2
  · have hj := (List.getElem?_eq_some_iff.mp hb).1
    rw [List.length_append] at hj
    simp only [List.length_singleton] at hj
    rw [List.getElem?_append_left (by omega)] at ha
    by_cases e : j < ops.length
    · rw [List.getElem?_append_left e] at hb
      exact h.cl k j a b hkj ha hb
    · have ej : j = ops.length := by omega
      subst ej
      rw [List.getElem?_append_right (Nat.le_refl _), Nat.sub_self] at hb
      have : o = b := Option.some.inj hb
      subst this
      exact h3 a (List.mem_of_getElem? ha)
theorem LInv.done {names : List Str} {p : Int} {ops : List Op} {i : Nat} (h : LInv names p ops i) (hi : i ≤ 10) : OpsOk ops :=
  ⟨by rw [h.len]; exact hi, fun o ho => (h.ok o ho).1, h.cl, fun a ha b hb _ _ e => by have h1 := (h.ok a ha).2.1; have h2 := (h.ok b hb).2.2; rw [e] at h1; omega⟩
theorem wr_ixTm {ds : List D} {i : Int} {P : O → Prop} (h0 : 0 ≤ i) (h1 : i < ds.length) (h : ∀ d ∈ ds, P (.v d)) : WR (ixD (.tup ds) (.int i)) P :=
  wr_ixTn (j := i.toNat) (by omega) (List.getElem?_eq_getElem (show i.toNat < ds.length by omega)) (h _ (List.getElem_mem _))
theorem role6 : ∀ d ∈ [D.str (Str.ofString "infix"), .str (Str.ofString "infix"), .str (Str.ofString "infix"), .str (Str.ofString "prefix"), .str (Str.ofString "infix"), .str (Str.ofString "postfix")], ∃ r : Role, d = .str r.s := by
  intro d hd
  simp only [List.mem_cons, List.not_mem_nil, or_false] at hd
  rcases hd with rfl | rfl | rfl | rfl | rfl | rfl
  · exact ⟨.inf, rfl⟩
  · exact ⟨.inf, rfl⟩
  · exact ⟨.inf, rfl⟩
  · exact ⟨.pre, rfl⟩
  · exact ⟨.inf, rfl⟩
  · exact ⟨.post, rfl⟩
theorem wr_ixLmM {α : Type} {f : α → D} {A : List α} {a : α} {P : O → Prop} (h : P (.v (f a))) : WR (ixD (.lst ((A ++ [a]).map f)) (.int (-1))) P := by
  refine wr_ixLm ?_ h
  simp
theorem wr_op0 {a : Op} {P : O → Prop} (h : P (.v (.str a.name))) : WR (ixD a.d (.int 0)) P := wr_ixT (ds := [.str a.name, .str a.role.s, a.l, a.r, .bl a.loose, .bl a.assoc]) rfl h
theorem wr_op1 {a : Op} {P : O → Prop} (h : P (.v (.str a.role.s))) : WR (ixD a.d (.int 1)) P := wr_ixT (ds := [.str a.name, .str a.role.s, a.l, a.r, .bl a.loose, .bl a.assoc]) rfl h
local macro_rules | `(tactic| walk_at "mwc") => `(tactic| first
  | with_reducible refine take_w (by assumption) (by omega) fun r s' hs' hr1 hr2 => ?_
  | with_reducible refine wr_ixLmM ?_
  | with_reducible refine wr_op0 ?_
  | with_reducible refine wr_op1 ?_)
theorem take_fresh {names : List Str} (h : names.Nodup) {i : Nat} {z : Str} (e : names[i]? = some z) : z ∉ names.take i := by
  intro hz
  obtain ⟨j, hj, ej⟩ := List.getElem_of_mem hz
  rw [List.length_take] at hj
  rw [List.getElem_take] at ej
  obtain ⟨hi, ei⟩ := List.getElem?_eq_some_iff.mp e
  have := (List.getElem_inj h).mp (ej.trans ei.symm)
  omega
theorem lightops_w {s : List Int} {m : Int} {P : O → List O → Prop} (hs : WF s) (hm0 : 0 ≤ m) (hm : m ≤ 10) (h : ∀ s' ops, WF s' → OpsOk ops → P (.l (ops.map Op.d)) [Sr s', .v (.int m)]) : WG (g_law_lightops [Sr s, .v (.int m)]) P := by
  unfold g_law_lightops
  walk_at "mwfn"
  unfold mb_law_lightops
  walk_at "mw"
  refine shuffle_w hs (by decide) fun es s1 hs1 hes => ?_
  obtain ⟨names, hnp, rfl⟩ := perm_str (L := menu) hes
  have hnd : names.Nodup := hnp.nodup_iff.mpr menu_nd
  have hnl : names.length = 14 := hnp.length_eq
  have hnok : ∀ z ∈ names, fO (.str z) = true ∧ z.length ≤ 10000 := fun z hz => menu_ok z (hnp.mem_iff.mp hz)
  clear hes hnp
  walk_at "mw"
  refine take_w hs1 (by omega) fun lad s2 hs2 _ hlad => ?_
  walk_at "mw"
  refine take_w hs2 (by omega) fun odd s3 hs3 _ hodd => ?_
  walk_at "go"
  refine ⟨big_of (by omega) (by omega), ?_⟩
  obtain ⟨p, hp, hp2⟩ : ∃ p : Int, (p = if lad = 1 then 0 else odd) ∧ 0 ≤ p ∧ p < 2 := ⟨_, rfl, by split <;> omega⟩
  refine wf_inv (fun i ρ => ∃ (s' : List Int) (ops : List Op) (x6 x7 x8 x9 x10 x11 x12 : O), ρ = [Sr s', .v (.int m), .l (names.map D.str), .v (.int lad), .v (.int odd), .l (ops.map Op.d), x6, x7, x8, x9, x10, x11, x12] ∧ WF s' ∧ LInv names p ops i) ⟨_, [], _, _, _, _, _, _, _, rfl, hs3, ⟨rfl, by simp, by simp, by simp⟩⟩ (fun i d ρ hd hi => ?_) (fun ρ hi => ?_)
  · obtain ⟨s', ops, x6, x7, x8, x9, x10, x11, x12, rfl, hs', hI⟩ := hi
    obtain ⟨hi, rfl⟩ := rngD_get hd
    have hol := hI.len
    rw [show (0 : Int) + (i : Int) = (i : Int) by omega]
    refine ⟨_, rfl, ?_⟩
    walk_at "mw"
    refine take_w hs' (by omega) fun r6 s4 hs4 _ hr6 => ?_
    walk_at "mw"
    refine wr_ixTm (by omega) (by show r6 < 6; omega) fun d hd => ?_
    obtain ⟨role, rfl⟩ := role6 d hd
    clear hd hr6
    walk_at "mw"
    have hni : names[i]? = some names[i] := List.getElem?_eq_getElem (by omega)
    refine wr_ixLn (j := i) rfl (by rw [List.getElem?_map, hni]; rfl) ?_
    walk_at "mw"
    generalize names[i] = nm0 at hni
    have hnm0 : nm0 ∈ names.take (i + 1) := by
      obtain ⟨h1, h2⟩ := List.getElem?_eq_some_iff.mp hni
      exact List.mem_take_iff_getElem.mpr ⟨i, by omega, h2⟩
    have hfr0 : ∀ a ∈ ops, ¬ (a.name = nm0 ∧ (a.role = .pre ↔ role = .pre)) := fun a ha hc => take_fresh hnd hni (hc.1 ▸ hI.nm a ha)
    refine ws_cutC (fun ρ => ∃ (s' : List Int) (nm : Str), ρ = [Sr s', .v (.int m), .l (names.map D.str), .v (.int lad), .v (.int odd), .l (ops.map Op.d), .v (.int (i : Int)), .v (.str role.s), .v (.str nm), x9, x10, x11, x12] ∧ WF s' ∧ nm ∈ names.take (i + 1) ∧ ∀ a ∈ ops, ¬ (a.name = nm ∧ (a.role = .pre ↔ role = .pre))) ?_ ?_
    · rcases List.eq_nil_or_concat ops with e | ⟨A, a, e⟩
      · subst e
        walk_at "go"
        all_goals first
          | exact ct_nx ⟨_, nm0, rfl, by assumption, hnm0, hfr0⟩
          | (exfalso; simp at hol; omega)
      · rw [List.concat_eq_append] at e
        subst e
        have hao : a.name ∈ names.take (i + 1) := (List.take_subset_take_left names (Nat.le_succ i)) (hI.nm a (by simp))
        walk_at "go"
        all_goals first
          | exact ct_nx ⟨_, nm0, rfl, by assumption, hnm0, hfr0⟩
          | (refine find_w (ops := A ++ [a]) (name := a.name) (role := role) (by omega) fun k hk => ?_
             walk_at "go"
             all_goals first
               | exact ct_nx ⟨_, nm0, rfl, by assumption, hnm0, hfr0⟩
               | exact ct_nx ⟨_, a.name, rfl, by assumption, hao, hk (by assumption)⟩)
    · rintro ρ1 ⟨s5, nm, rfl, hs5, hnm, hfr⟩
      have e5 : ∃ z, z = s5 := ⟨_, rfl⟩
      walk_at "mw"
      refine take_w hs5 (by omega) fun r7 s6 hs6 _ hr7 => ?_
      walk_at "mw"
      refine take_w hs6 (by omega) fun r8 s7 hs7 _ hr8 => ?_
      walk_at "mw"
      refine ws_cutC (fun ρ => ∃ (s' : List Int) (l r : Int), ρ = [Sr s', .v (.int m), .l (names.map D.str), .v (.int lad), .v (.int odd), .l (ops.map Op.d), .v (.int (i : Int)), .v (.str role.s), .v (.str nm), .v (.int l), .v (.int r), x11, x12] ∧ WF s' ∧ (0 ≤ l ∧ l ≤ 1000000) ∧ (0 ≤ r ∧ r ≤ 1000000) ∧ l % 2 = p ∧ r % 2 = 1 - p) ?_ ?_
      · walk_at "go"
        all_goals refine ct_nx ⟨_, _, _, rfl, by assumption, ?_⟩
        · rw [hp, if_pos (show lad = 1 by assumption)]; split <;> omega
        · rw [hp, if_neg (show ¬ lad = 1 by assumption)]; omega
      · rintro ρ1 ⟨s8, l, r, rfl, hs8, hl8, hr8, hl2, hr2⟩
        have e : ∀ (ai jo : Bool), ops.map Op.d ++ [D.tup [.str nm, .str role.s, Op.l (Op.mk nm role l r ai jo), Op.r (Op.mk nm role l r ai jo), .bl ai, .bl jo]] = (ops ++ [(Op.mk nm role l r ai jo)]).map Op.d := fun ai jo => by rw [List.map_append]; rfl
        have hpush : ∀ (ai jo : Bool), (jo = true → role = .inf) → LInv names p (ops ++ [(Op.mk nm role l r ai jo)]) (i + 1) := fun ai jo hj => hI.push ⟨⟨(hnok nm (List.mem_of_mem_take hnm)).1, (hnok nm (List.mem_of_mem_take hnm)).2, fun _ => hl8, fun _ => hr8, hj⟩, hl2, hr2⟩ hnm hfr
        cases role
        · rw [show Role.inf.s = Str.ofString "infix" from rfl]
          rw [show Role.inf.s = Str.ofString "infix" from rfl] at e
          simp only [Op.l, Op.r] at e
          walk_at "go"
          all_goals
            refine ⟨by rw [List.length_map]; omega, ?_⟩
            simp only [bk, List.set_cons_succ, List.set_cons_zero, List.getElem?_cons_succ, List.getElem?_cons_zero]
            rw [e]
            exact tn_nx ⟨_, _, _, _, _, _, _, _, _, rfl, by assumption, hpush _ _ (fun hj => by first | rfl | exact absurd hj (by decide))⟩
        · rw [show Role.pre.s = Str.ofString "prefix" from rfl]
          rw [show Role.pre.s = Str.ofString "prefix" from rfl] at e
          simp only [Op.l, Op.r] at e
          walk_at "go"
          all_goals
            refine ⟨by rw [List.length_map]; omega, ?_⟩
            simp only [bk, List.set_cons_succ, List.set_cons_zero, List.getElem?_cons_succ, List.getElem?_cons_zero]
            rw [e]
            exact tn_nx ⟨_, _, _, _, _, _, _, _, _, rfl, by assumption, hpush _ _ (fun hj => by first | rfl | exact absurd hj (by decide))⟩
        · rw [show Role.post.s = Str.ofString "postfix" from rfl]
          rw [show Role.post.s = Str.ofString "postfix" from rfl] at e
          simp only [Op.l, Op.r] at e
          walk_at "go"
          all_goals
            refine ⟨by rw [List.length_map]; omega, ?_⟩
            simp only [bk, List.set_cons_succ, List.set_cons_zero, List.getElem?_cons_succ, List.getElem?_cons_zero]
            rw [e]
            exact tn_nx ⟨_, _, _, _, _, _, _, _, _, rfl, by assumption, hpush _ _ (fun hj => by first | rfl | exact absurd hj (by decide))⟩
  · obtain ⟨s', ops, x6, x7, x8, x9, x10, x11, x12, rfl, hs', hI⟩ := hi
    rw [rngD_length] at hI
    walk_at "go"
    exact h s' ops hs' (hI.done (by omega))

end
section
local macro_rules | `(tactic| walk_at "mwc") => `(tactic| with_reducible refine take_w (by assumption) (by omega) fun r s' hs' hr1 hr2 => ?_)

theorem withO_w {n : Nat} {ts us : List T} {P : O → List O → Prop} {o : O} (ho : LS (T.encs us) o) (h : ∀ o', P (.v (T.enc (.mk (.o n) us))) [.v (T.enc (.mk (.o n) ts)), o']) : WG (g_law_with [.v (T.enc (.mk (.o n) ts)), o]) P := by
  unfold g_law_with
  walk_at "mwfn"
  unfold mb_law_with
  simp only [T.enc, Mk.s, Mk.d] at h ⊢
  cases ho
  all_goals
    walk_at "go"
    exact h _
theorem with3_w {ar : Nat → Option Nat} {m : Mk} {ts us : List T} {P : O → List O → Prop} {o : O} (ho : LS (T.encs us) o) (hok : T.Ok ar (.mk m ts)) (hl : (∀ n, m ≠ .o n) → us.length = ts.length) (h : ∀ o', P (.v (T.enc (.mk m us))) [.v (T.enc (.mk m ts)), o']) : WG (g_law_with [.v (T.enc (.mk m ts)), o]) P := by
  by_cases e : ∃ n, m = .o n
  · obtain ⟨n, rfl⟩ := e
    exact withO_w ho h
  · exact with_w ho hok (hl fun n hn => e ⟨n, hn⟩) h
theorem flp_snoc (as : Nat → Bool) (m : Mk) (v : T) : ∀ a : List T, T.flp as m (a ++ [v]) = T.flp as m a ++ (if T.joins as m v.m = true then (T.fl as v).ts else [T.fl as v])
  | [] => by simp [T.flp]
  | b :: a => by rw [List.cons_append, T.flp, T.flp, flp_snoc as m v a, List.append_assoc]
theorem wr_op5 {a : Op} {P : O → Prop} (h : P (.v (.bl a.assoc))) : WR (ixD a.d (.int 5)) P := wr_ixT (ds := [.str a.name, .str a.role.s, a.l, a.r, .bl a.loose, .bl a.assoc]) rfl h
local macro_rules | `(tactic| walk_at "mwc") => `(tactic| first
  | with_reducible refine wr_op5 ?_
  | with_reducible refine wr_ixEo ?_
  | with_reducible refine wr_ixEo1 ?_
  | with_reducible refine wr_ixEo2 ?_
  | with_reducible refine wr_ixEa ?_
  | with_reducible refine wr_ixEh ?_
  | with_reducible refine wr_ixEk ?_
  | with_reducible refine wr_ixEb ?_
  | with_reducible refine wr_ixEc ?_
  | with_reducible refine wr_listT ?_
  | ((with_reducible show WR (ixD (.lst _) _) _); refine wr_ixLn rfl (by assumption) ?_))
mutual
theorem sz_pre : ∀ {t u : T}, u ∈ T.pre t → T.sz u ≤ T.sz t
  | .mk m ts, u, h => by
    rw [T.pre] at h
    rcases List.mem_cons.mp h with rfl | h
    · exact Nat.le_refl _
    · have := sz_pres h
      rw [T.sz]; omega
theorem sz_pres : ∀ {ts : List T} {u : T}, u ∈ T.pres ts → T.sz u ≤ T.szs ts
  | [], u, h => by simp [T.pres] at h
  | t :: ts, u, h => by
    rw [T.pres] at h
    rw [T.szs]
    rcases List.mem_append.mp h with h | h
    · have := sz_pre h; omega
    · have := sz_pres h; omega
end
theorem law_flat_w {ops : List Op} {t : T} {P : O → List O → Prop} (hok : T.Ok (arO ops) t) (hz : T.sz t ≤ 90000) (h : P (.v (T.enc (T.fl (asO ops) t))) [.v (.lst (ops.map Op.d)), .v (T.enc t)]) : WG (g_law_flat [.v (.lst (ops.map Op.d)), .v (T.enc t)]) P := by
  have hlen := T.pre_len t
  have hml : ((T.pre t).map T.enc).length = T.sz t := by rw [List.length_map, hlen]
  have hpo : ∀ u ∈ T.pre t, T.Ok (arO ops) u := T.pre_ok hok
  unfold g_law_flat
  walk_at "mwfn"
  unfold mb_law_flat
  walk_at "go"
  refine nodes_w hok hz ?_
  walk_at "go"
  refine kids_w .l (T.pre_L t) hpo (by omega) ?_
  walk_at "go"
  refine ⟨big_of (by omega) (by omega), ?_⟩
  refine wf_inv (fun i ρ => ∃ (Bl : List D) (x5 x6 x7 x8 : O), ρ = [.v (.lst (ops.map Op.d)), .v (T.enc t), .v (.lst ((T.pre t).map T.enc)), .v (kidsD (T.pre t)), .l Bl, x5, x6, x7, x8] ∧ Bl.length = T.sz t ∧ ∀ j u, (T.pre t)[j]? = some u → Bl[j]? = some (if T.sz t - i ≤ j then T.enc (T.fl (asO ops) u) else T.enc u)) ⟨_, _, _, _, _, rfl, hml, fun j u hu => ?_⟩ (fun i d ρ hd hi => ?_) (fun ρ hi => ?_)
  · rw [List.getElem?_map, hu, if_neg]
    · rfl
    · have := (List.getElem?_eq_some_iff.mp hu).1; omega
  · obtain ⟨Bl, x5, x6, x7, x8, rfl, hB, hBo⟩ := hi
    obtain ⟨hi, rfl⟩ := revD_get hd
    rw [hml] at hi
    have hin : i < T.sz t := by omega
    have ek : (0 + ((((((T.pre t).map T.enc).length : Int)).toNat : Nat) : Int) - 1 - (i : Int)) = ((T.sz t - 1 - i : Nat) : Int) := by rw [hml]; omega
    rw [ek]
    generalize hk : T.sz t - 1 - i = k at *
    have hkl : k < (T.pre t).length := by omega
    have hu : (T.pre t)[k]? = some (T.pre t)[k] := List.getElem?_eq_getElem hkl
    generalize (T.pre t)[k] = u at hu
    have huo := hpo u (List.mem_of_getElem? hu)
    have hkk : ((T.kids (T.pre t)).map fun r => D.lst (r.map nat))[k]? = some (.lst ((T.offs (k + 1) u.ts).map nat)) := by rw [List.getElem?_map, T.kids_get hu]; rfl
    refine ⟨_, rfl, ?_⟩
    walk_at "go"
    refine wr_ixLn (j := k) rfl (by rw [List.getElem?_map, hu]; rfl) ?_
    unfold kidsD
    walk_at "go"
    refine wf_inv (fun q ρ => ∃ x8 : O, ρ = [.v (.lst (ops.map Op.d)), .v (T.enc t), .v (.lst ((T.pre t).map T.enc)), .v (kidsD (T.pre t)), .l Bl, .v (.int (k : Int)), .v (T.enc u), .l (T.encs (T.flp (asO ops) u.m (u.ts.take q))), x8]) ⟨_, rfl⟩ (fun q d ρ hd hi2 => ?_) (fun ρ hi2 => ?_)
    · obtain ⟨x8, rfl⟩ := hi2
      rw [List.getElem?_map] at hd
      obtain ⟨j, hj, rfl⟩ := Option.map_eq_some_iff.mp hd
      have hqt : q < u.ts.length := by have := (List.getElem?_eq_some_iff.mp hj).1; rw [T.offs_len] at this; exact this
      have hqv : u.ts[q]? = some u.ts[q] := List.getElem?_eq_getElem hqt
      have et : u.ts.take (q + 1) = u.ts.take q ++ [u.ts[q]] := List.take_succ_eq_append_getElem hqt
      generalize u.ts[q] = v at hqv et
      have hv := T.kid_at (T.pre_L t) hu hj hqv
      have hjk := T.kid_bound (T.pre_L t) hu (List.mem_of_getElem? hj)
      have hBj := hBo j v hv
      rw [if_pos (by omega)] at hBj
      have hNj : ((T.pre t).map T.enc)[j]? = some (T.enc v) := by rw [List.getElem?_map, hv]; rfl
      have hszf : (T.flp (asO ops) u.m (u.ts.take q)).length ≤ 90000 := by
        have h1 := T.len_szs (T.flp (asO ops) u.m (u.ts.take q))
        have h2 := T.flp_sz (asO ops) u.m (u.ts.take q)
        have h3 : T.szs (u.ts.take q) + T.szs (u.ts.drop q) = T.szs u.ts := by rw [← T.szs_app, List.take_append_drop]
        have h4 : T.sz u = 1 + T.szs u.ts := by cases u; simp [T.sz, T.ts]
        have h5 := sz_pre (List.mem_of_getElem? hu)
        omega
      have hszv : (T.fl (asO ops) v).ts.length ≤ 90000 := by
        have h1 := T.len_szs (T.fl (asO ops) v).ts
        have h2 := T.fl_sz (asO ops) v
        have h4 : T.sz (T.fl (asO ops) v) = 1 + T.szs (T.fl (asO ops) v).ts := by cases (T.fl (asO ops) v); simp [T.sz, T.ts]
        have h5 := sz_pre (List.mem_of_getElem? hv)
        omega
      refine ⟨_, rfl, ?_⟩
      rw [et, flp_snoc]
      have happ : ∀ a b : List T, T.encs a ++ T.encs b = T.encs (a ++ b) := fun a b => by rw [T.encs_map, T.encs_map, T.encs_map, List.map_append]
      have he1 : ∀ w : T, [T.enc w] = T.encs [w] := fun w => by rw [T.encs_map]; rfl
      have hle : ∀ a : List T, (T.encs a).length = a.length := fun a => by rw [T.encs_map, List.length_map]
      by_cases hj2 : T.joins (asO ops) u.m v.m = true
      · rw [if_pos hj2]
        obtain ⟨m, ts⟩ := u
        obtain ⟨m', ts'⟩ := v
        have ef : T.fl (asO ops) (.mk m' ts') = .mk m' (T.flp (asO ops) m' ts') := rfl
        rw [ef] at hBj hszv
        rw [ef]
        simp only [T.m, T.ts] at *
        obtain ⟨n, rfl⟩ : ∃ n, m = .o n := by cases m <;> first | exact ⟨_, rfl⟩ | exact absurd hj2 (by simp [T.joins])
        simp only [T.joins, Bool.and_eq_true, decide_eq_true_eq] at hj2
        obtain ⟨ha, rfl⟩ := hj2
        rw [T.Ok] at huo
        obtain ⟨o, ho, hoa⟩ := arO_some (show arO ops n = some ts.length from huo.1)
        have hops : (ops.map Op.d)[n]? = some o.d := by rw [List.getElem?_map, ho]; rfl
        have has : o.assoc = true := by simpa [asO, ho] using ha
        walk_at "go"
        · refine wr_addL (by rw [hle, hle]; omega) ?_
          rw [happ]
          walk_at "go"
          exact tn_nx ⟨_, rfl⟩
        · rename_i hne
          exact absurd rfl hne
        · rename_i hne
          exact absurd (has.symm.trans hne) (by decide)
      · rw [if_neg hj2]
        obtain ⟨m, ts⟩ := u
        obtain ⟨m', ts'⟩ := v
        have ef : T.fl (asO ops) (.mk m' ts') = .mk m' (T.flp (asO ops) m' ts') := rfl
        rw [ef] at hBj hszv
        rw [ef]
        simp only [T.m, T.ts] at *
        have hjo : ∀ n o, m = .o n → ops[n]? = some o → o.assoc = true → m' ≠ .o n := fun n o e1 e2 e3 e4 => hj2 (by subst e1; subst e4; simp [T.joins, asO, e2, e3])
        cases m
        case o n =>
          rw [T.Ok] at huo
          obtain ⟨o, ho, hoa⟩ := arO_some (show arO ops n = some ts.length from huo.1)
          have hops : (ops.map Op.d)[n]? = some o.d := by rw [List.getElem?_map, ho]; rfl
          have hjo := hjo n o rfl ho
          cases m'
          all_goals
            walk_at "go"
            all_goals first
              | (refine ⟨by rw [hle]; omega, ?_⟩
                 rw [he1, happ]
                 exact tn_nx ⟨_, rfl⟩)
              | (rename_i h1 h2
                 exfalso
                 exact hjo (by assumption) (by rw [Int.ofNat.inj h2]))
        all_goals
          walk_at "go"
          refine ⟨by rw [hle]; omega, ?_⟩
          rw [he1, happ]
          exact tn_nx ⟨_, rfl⟩
    · obtain ⟨x8, rfl⟩ := hi2
      rw [List.length_map, T.offs_len, List.take_length]
      obtain ⟨m, ts⟩ := u
      walk_at "go"
      refine with3_w (us := T.flp (asO ops) m ts) .l huo (fun hm => ?_) fun o' => ?_
      · rw [T.flp_plain (fun m' => by cases m <;> first | rfl | exact absurd rfl (hm _))]; simp
      walk_at "go"
      refine wx_nat (j := k) rfl (by omega) ?_
      have es : T.sz t - (i + 1) = k := by omega
      refine tn_nx ⟨Bl.set k (T.enc (T.fl (asO ops) (.mk m ts))), _, _, _, _, rfl, by rw [List.length_set]; exact hB, fun j v hv => ?_⟩
      rw [es]
      by_cases e : j = k
      · subst e
        rw [List.getElem?_set_self (by omega), if_pos (Nat.le_refl _), Option.some.inj (hv.symm.trans hu)]
      · rw [List.getElem?_set_ne (Ne.symm e), hBo j v hv]
        by_cases e2 : k ≤ j
        · rw [if_pos e2, if_pos (by omega)]
        · rw [if_neg e2, if_neg (by omega)]
  · obtain ⟨Bl, x5, x6, x7, x8, rfl, hB, hBo⟩ := hi
    walk_at "go"
    refine wr_ixLn (j := 0) rfl (hBo 0 t (by cases t; rfl)) ?_
    rw [if_pos (by unfold revD; simp [rngD_length]; omega)]
    exact h

end
section
local macro_rules | `(tactic| walk_at "mwc") => `(tactic| with_reducible refine take_w (by assumption) (by omega) fun r s' hs' hr1 hr2 => ?_)

theorem wr_encs0 {x : T} {ts : List T} {P : O → Prop} (h : P (.v (T.enc x))) : WR (ixD (.tup (T.encs (x :: ts))) (.int 0)) P := by
  rw [T.encs]; exact wr_ixTn (j := 0) rfl rfl h
theorem wr_encs1 {x y : T} {ts : List T} {P : O → Prop} (h : P (.v (T.enc y))) : WR (ixD (.tup (T.encs (x :: y :: ts))) (.int 1)) P := by
  rw [T.encs, T.encs]; exact wr_ixTn (j := 1) rfl rfl h
theorem ar_two {ops : List Op} {k : Nat} {ts : List T} (ha : AssocInf ops) (hok : T.Ok (arO ops) (.mk (.o k) ts)) (h : asO ops k = true) : ∃ x y, ts = [x, y] := by
  rw [T.Ok] at hok
  have e := arO_assoc ha (show arO ops k = some ts.length from hok.1) h
  match ts, e with
  | [x, y], _ => exact ⟨x, y, rfl⟩
local macro_rules | `(tactic| walk_at "mwc") => `(tactic| first
  | with_reducible refine wr_op5 ?_
  | with_reducible refine wr_encs0 ?_
  | with_reducible refine wr_encs1 ?_
  | with_reducible refine wr_ixEo ?_
  | with_reducible refine wr_ixEo1 ?_
  | with_reducible refine wr_ixEo2 ?_
  | with_reducible refine wr_ixEa ?_
  | with_reducible refine wr_ixEh ?_
  | with_reducible refine wr_ixEk ?_
  | with_reducible refine wr_ixEb ?_
  | with_reducible refine wr_ixEc ?_
  | ((with_reducible show WR (ixD (.lst _) _) _); refine wr_ixLn rfl (by assumption) ?_))
theorem turned_w {ops : List Op} {t : T} {n : Nat} {side : Int} {P : O → List O → Prop} (ha : AssocInf ops) (hok : T.Ok (arO ops) t) (hW : T.W t) (hz : T.sz t ≤ 90000) (hn : n < T.sz t) (hside : side = 0 ∨ side = 1)
    (h : ∀ u, T.Ok (arO ops) u → T.W u → T.sz u = T.sz t → T.fl (asO ops) u = T.fl (asO ops) t → P (.v (T.enc u)) [.l (ops.map Op.d), .v (T.enc t), .v (.int (n : Int)), .v (.int side)]) :
    WG (g_law_turned [.l (ops.map Op.d), .v (T.enc t), .v (.int (n : Int)), .v (.int side)]) P := by
  have hsame := h t hok hW rfl rfl
  have hlen := T.pre_len t
  unfold g_law_turned
  walk_at "mwfn"
  unfold mb_law_turned
  walk_at "mw"
  refine nodes_w hok hz ?_
  have hv : (T.pre t)[n]? = some (T.pre t)[n] := List.getElem?_eq_getElem (by omega)
  generalize (T.pre t)[n] = v at hv
  have hvo := T.pre_ok hok v (List.mem_of_getElem? hv)
  have hvW := T.pre_W hW v (List.mem_of_getElem? hv)
  have hNv : ((T.pre t).map T.enc)[n]? = some (T.enc v) := by rw [List.getElem?_map, hv]; rfl
  have hres : ∀ u : T, T.Ok (arO ops) u → T.W u → T.sz u = T.sz v → T.fl (asO ops) u = T.fl (asO ops) v → P (.v (T.enc (T.repl t n u))) [.l (ops.map Op.d), .v (T.enc t), .v (.int (n : Int)), .v (.int side)] := fun u h1 h2 h3 h4 =>
    h _ (T.repl_ok h1 hok) (T.repl_W h2 hW) (T.repl_sz_eq h3 hv) (T.fl_repl h4 hv)
  obtain ⟨m, ts⟩ := v
  cases m
  case o k =>
    have hvo' := hvo
    rw [T.Ok] at hvo'
    obtain ⟨o, ho, hoa⟩ := arO_some (show arO ops k = some ts.length from hvo'.1)
    have hops : (ops.map Op.d)[k]? = some o.d := by rw [List.getElem?_map, ho]; rfl
    have has : asO ops k = o.assoc := by simp [asO, ho]
    walk_at "mw"
    refine wr_ixLn rfl hNv ?_
    walk_at "go"
    · exact hsame
    rename_i h5
    have hak : asO ops k = true := by rw [has]; simpa using h5
    obtain ⟨x, y, rfl⟩ := ar_two ha hvo hak
    have hxo : T.Ok (arO ops) x := hvo.ts x (by simp [T.ts])
    have hyo : T.Ok (arO ops) y := hvo.ts y (by simp [T.ts])
    simp only [T.W, T.Ws] at hvW
    have hka : arO ops k = some 2 := hvo'.1
    have mkO : ∀ a b : T, T.Ok (arO ops) a → T.Ok (arO ops) b → T.Ok (arO ops) (.mk (.o k) [a, b]) := fun a b h1 h2 => by simp only [T.Ok, T.Oks, T.okM]; exact ⟨hka, h1, h2, trivial⟩
    have mkW : ∀ a b : T, T.W a → T.W b → T.W (.mk (.o k) [a, b]) := fun a b h1 h2 => by simp only [T.W, T.Ws]; exact ⟨hvW.1, h1, h2, trivial⟩
    rcases hside with rfl | rfl
    · obtain ⟨m1, ts1⟩ := x
      cases m1
      case o k1 =>
        by_cases hk : k1 = k
        · subst hk
          obtain ⟨x1, x2, rfl⟩ := ar_two ha hxo hak
          have hx1 : T.Ok (arO ops) x1 := hxo.ts x1 (by simp [T.ts])
          have hx2 : T.Ok (arO ops) x2 := hxo.ts x2 (by simp [T.ts])
          simp only [T.W, T.Ws] at hvW
          have hr := hres (.mk (.o k1) [x1, .mk (.o k1) [x2, y]]) (mkO _ _ hx1 (mkO _ _ hx2 hyo)) (mkW _ _ hvW.2.1.2.1 (mkW _ _ hvW.2.1.2.2.1 hvW.2.2.1)) (by simp [T.sz, T.szs]; omega) (T.fl_turn hak x1 x2 y)
          walk_at "go"
          all_goals first
            | (rename_i h1; exact absurd h1 (by decide))
            | exact hsame
            | (refine swap_w (part := (.mk (.o k1) [x1, .mk (.o k1) [x2, y]])) hok hz hn ?_
               walk_at "go"
               exact hr)
        · walk_at "go"
          all_goals first
            | exact hsame
            | (exfalso; omega)
      all_goals
        walk_at "go"
        exact hsame
    · obtain ⟨m1, ts1⟩ := y
      cases m1
      case o k1 =>
        by_cases hk : k1 = k
        · subst hk
          obtain ⟨x1, x2, rfl⟩ := ar_two ha hyo hak
          have hx1 : T.Ok (arO ops) x1 := hyo.ts x1 (by simp [T.ts])
          have hx2 : T.Ok (arO ops) x2 := hyo.ts x2 (by simp [T.ts])
          simp only [T.W, T.Ws] at hvW
          have hr := hres (.mk (.o k1) [.mk (.o k1) [x, x1], x2]) (mkO _ _ (mkO _ _ hxo hx1) hx2) (mkW _ _ (mkW _ _ hvW.2.1 hvW.2.2.1.2.1) hvW.2.2.1.2.2.1) (by simp [T.sz, T.szs]; omega) (T.fl_turn hak x x1 x2).symm
          walk_at "go"
          all_goals first
            | (rename_i h1; exact absurd h1 (by decide))
            | exact hsame
            | (refine swap_w (part := (.mk (.o k1) [.mk (.o k1) [x, x1], x2])) hok hz hn ?_
               walk_at "go"
               exact hr)
        · walk_at "go"
          all_goals first
            | exact hsame
            | (exfalso; omega)
      all_goals
        walk_at "go"
        exact hsame
  all_goals
    walk_at "go"
    exact hsame

end
section
local macro_rules | `(tactic| walk_at "mwc") => `(tactic| with_reducible refine take_w (by assumption) (by omega) fun r s' hs' hr1 hr2 => ?_)

def lfM (m : Mk) (l : Nat) : Prop := match m with
  | .a _ => l = 0 | .h _ => l = 0 | .k _ => l = 0 | _ => True
mutual
def Lf : T → Prop
  | .mk m ts => lfM m ts.length ∧ Lfs ts
def Lfs : List T → Prop
  | [] => True
  | t :: ts => Lf t ∧ Lfs ts
end
theorem Lfs_iff : ∀ {ts : List T}, Lfs ts ↔ ∀ t ∈ ts, Lf t
  | [] => by simp [Lfs]
  | t :: ts => by rw [Lfs, Lfs_iff]; simp
mutual
theorem lf_inj : ∀ {t u : T}, Lf t → Lf u → T.enc t = T.enc u → t = u
  | .mk m ts, .mk m' us, h1, h2, e => by
    rw [Lf] at h1 h2
    rw [T.enc, T.enc] at e
    simp only [D.tup.injEq, List.cons.injEq, D.str.injEq] at e
    obtain ⟨es, ed⟩ := e
    have nil : ∀ {l : List T}, l.length = 0 → l = [] := fun h => List.length_eq_zero_iff.mp h
    cases m <;> cases m' <;> first
      | (exact absurd (show Str.ofString _ = Str.ofString _ from es) (by decide +kernel))
      | (simp only [Mk.d, List.cons.injEq, D.str.injEq, D.int.injEq, D.tup.injEq, and_true] at ed
         simp only [lfM] at h1 h2
         first
         | (rw [ed, nil h1.1, nil h2.1])
         | (rw [ed.1, lfs_inj h1.2 h2.2 ed.2])
         | (rw [Int.ofNat.inj ed.1, lfs_inj h1.2 h2.2 ed.2])
         | (rw [lfs_inj h1.2 h2.2 ed]))
theorem lfs_inj : ∀ {ts us : List T}, Lfs ts → Lfs us → T.encs ts = T.encs us → ts = us
  | [], [], _, _, _ => rfl
  | [], _ :: _, _, _, e => by simp [T.encs] at e
  | _ :: _, [], _, _, e => by simp [T.encs] at e
  | t :: ts, u :: us, h1, h2, e => by
    rw [Lfs] at h1 h2
    simp only [T.encs, List.cons.injEq] at e
    rw [lf_inj h1.1 h2.1 e.1, lfs_inj h1.2 h2.2 e.2]
end
mutual
theorem fl_lf {ar : Nat → Option Nat} {as : Nat → Bool} : ∀ {t : T}, T.Ok ar t → Lf (T.fl as t)
  | .mk m ts, h => by
    rw [T.Ok] at h
    rw [T.fl, Lf]
    refine ⟨?_, flp_lf h.2⟩
    cases m <;> simp only [lfM, T.okM] at h ⊢
    all_goals
      obtain rfl := List.length_eq_zero_iff.mp h.1
      simp [T.flp]
theorem flp_lf {ar : Nat → Option Nat} {as : Nat → Bool} {m : Mk} : ∀ {ts : List T}, T.Oks ar ts → Lfs (T.flp as m ts)
  | [], _ => by rw [T.flp]; trivial
  | t :: ts, h => by
    rw [T.Oks] at h
    have h1 : Lf (T.fl as t) := fl_lf h.1
    have h2 : Lfs (T.flp as m ts) := flp_lf h.2
    rw [T.flp, Lfs_iff]
    intro u hu
    rcases List.mem_append.mp hu with hu | hu
    · split at hu
      · have e : T.fl as t = .mk (T.fl as t).m (T.fl as t).ts := by cases T.fl as t; rfl
        rw [e, Lf] at h1
        exact Lfs_iff.mp h1.2 u hu
      · rw [List.mem_singleton.mp hu]; exact h1
    · exact Lfs_iff.mp h2 u hu
end
theorem szs_map_le {α : Type} {f : α → D} {B : Nat} : ∀ {l : List α}, (∀ a ∈ l, Mr.sz (f a) ≤ B) → Mr.szs (l.map f) ≤ B * l.length
  | [], _ => by simp [Mr.szs]
  | a :: l, h => by
    have h1 := h a (List.mem_cons_self ..)
    have h2 := szs_map_le (B := B) (l := l) fun b hb => h b (List.mem_cons_of_mem _ hb)
    rw [List.map_cons, Mr.szs, List.length_cons, Nat.mul_succ]; omega
theorem told_w {ops : List Op} {ns : List Str} {ds : List D} {trees : List T} {ot : O} {P : O → List O → Prop} (ht : IsTab ops ns ds) (ha : AssocInf ops) (hot : LS (trees.map T.enc) ot) (hT : ∀ t ∈ trees, GT (arO ops) 750 t) (hl : trees.length ≤ 10)
    (h : P (.v (.bl true)) [.v (.ins "Table" ns ds), .v (.lst (ops.map Op.d)), .v (.lst (trees.map T.enc))]) :
    WG (g_law_told [.v (.ins "Table" ns ds), .v (.lst (ops.map Op.d)), ot]) P := by
  have hml : (trees.map T.enc).length = trees.length := List.length_map ..
  have hoc2 : toD ot = some (.lst (trees.map T.enc)) := by cases hot <;> rfl
  have hti : ∀ {i : Nat} {d : D}, (trees.map T.enc)[i]? = some d → ∃ t, trees[i]? = some t ∧ d = T.enc t ∧ GT (arO ops) 750 t ∧ trees.take (i + 1) = trees.take i ++ [t] := by
    intro i d hd
    rw [List.getElem?_map] at hd
    obtain ⟨t, e1, rfl⟩ := Option.map_eq_some_iff.mp hd
    obtain ⟨hil, e2⟩ := List.getElem?_eq_some_iff.mp e1
    exact ⟨t, e1, rfl, hT t (List.mem_of_getElem? e1), by rw [List.take_succ_eq_append_getElem hil, e2]⟩
  have fmap : ∀ (a : List T) (t : T), a.map (fun t => T.enc (T.fl (asO ops) t)) ++ [T.enc (T.fl (asO ops) t)] = (a ++ [t]).map (fun t => T.enc (T.fl (asO ops) t)) := fun a t => by rw [List.map_append]; rfl
  unfold g_law_told
  walk_at "mwfn"
  unfold mb_law_told
  walk_at "mw"
  refine we_varO rfl hoc2 ?_
  walk_at "mw"
  refine ⟨by omega, fun i acc ρ => acc = (trees.take i).map (fun t => T.enc (T.fl (asO ops) t)) ∧ ρ = [.v (.ins "Table" ns ds), .v (.lst (ops.map Op.d)), .v (.lst (trees.map T.enc)), .n, .n, .n, .n], ⟨rfl, rfl⟩, fun i d acc ρ hd hi => ?_, fun acc ρ hi => ?_⟩
  · obtain ⟨rfl, rfl⟩ := hi
    obtain ⟨t, et, rfl, hg, etk⟩ := hti hd
    refine ⟨_, rfl, ?_⟩
    walk_at "go"
    refine law_flat_w hg.ok (by have := hg.sz; omega) ?_
    walk_at "go"
    exact ⟨by rw [etk, fmap], rfl⟩
  · obtain ⟨rfl, rfl⟩ := hi
    rw [hml, List.take_length]
    walk_at "go"
    refine ⟨by omega, fun i acc ρ => acc = (trees.take i).map (fun t => T.enc (T.fl (asO ops) t)) ∧ ρ = [.v (.ins "Table" ns ds), .v (.lst (ops.map Op.d)), .v (.lst (trees.map T.enc)), .l (trees.map (fun t => T.enc (T.fl (asO ops) t))), .n, .n, .n], ⟨rfl, rfl⟩, fun i d acc ρ hd hi => ?_, fun acc ρ hi => ?_⟩
    · obtain ⟨rfl, rfl⟩ := hi
      obtain ⟨t, et, rfl, hg, etk⟩ := hti hd
      refine ⟨_, rfl, ?_⟩
      walk_at "go"
      refine flat_tree_w ht ha hg.ok (by have := hg.sz; omega) ?_
      walk_at "go"
      exact ⟨by rw [etk, fmap], rfl⟩
    · obtain ⟨rfl, rfl⟩ := hi
      rw [hml, List.take_length]
      walk_at "go"
      have hva : Va (.lst (trees.map (fun t => T.enc (T.fl (asO ops) t)))) := .lst fun d hd => by
        obtain ⟨t, ht, rfl⟩ := List.mem_map.mp hd
        exact T.enc_va (T.fl_W (hT t ht).w)
      have hsz : Mr.sz (.lst (trees.map (fun t => T.enc (T.fl (asO ops) t)))) ≤ 399000 := by
        have h1 := szs_map_le (f := fun t => T.enc (T.fl (asO ops) t)) (B := 3000) (l := trees) fun t ht => by
          have h1 := T.enc_sz (T.fl (asO ops) t)
          have h2 := T.fl_sz (asO ops) t
          have h3 := (hT t ht).sz
          omega
        rw [Mr.sz]; omega
      refine same_w (d := .lst (trees.map (fun t => T.enc (T.fl (asO ops) t)))) rfl rfl hva hsz ?_
      walk_at "go"
      refine ⟨big_of (by omega) (by omega), ?_⟩
      refine wf_inv (fun i ρ => ∃ x4 x5 : O, ρ = [.v (.ins "Table" ns ds), .v (.lst (ops.map Op.d)), .v (.lst (trees.map T.enc)), .v (.lst (trees.map (fun t => T.enc (T.fl (asO ops) t)))), x4, x5, .n]) ⟨_, _, rfl⟩ (fun i d ρ hd hi => ?_) (fun ρ hi => ?_)
      · obtain ⟨x4, x5, rfl⟩ := hi
        obtain ⟨hi, rfl⟩ := rngD_get hd
        refine ⟨_, rfl, ?_⟩
        walk_at "go"
        refine ⟨big_of (by omega) (by omega), ?_⟩
        refine wf_inv (fun j ρ => ∃ x5 : O, ρ = [.v (.ins "Table" ns ds), .v (.lst (ops.map Op.d)), .v (.lst (trees.map T.enc)), .v (.lst (trees.map (fun t => T.enc (T.fl (asO ops) t)))), .v (.int (0 + (i : Int))), x5, .n]) ⟨_, rfl⟩ (fun j d ρ hd hi2 => ?_) (fun ρ hi2 => ?_)
        · obtain ⟨x5, rfl⟩ := hi2
          obtain ⟨hi2, rfl⟩ := rngD_get hd
          have hil : i < trees.length := by omega
          have hjl : j < trees.length := by omega
          have hti : trees[i]? = some trees[i] := List.getElem?_eq_getElem hil
          have htj : trees[j]? = some trees[j] := List.getElem?_eq_getElem hjl
          have hgi := hT _ (List.mem_of_getElem? hti)
          have hgj := hT _ (List.mem_of_getElem? htj)
          generalize trees[i] = t at hti hgi
          generalize trees[j] = u at htj hgj
          have h1 : (trees.map T.enc)[i]? = some (T.enc t) := by rw [List.getElem?_map, hti]; rfl
          have h2 : (trees.map T.enc)[j]? = some (T.enc u) := by rw [List.getElem?_map, htj]; rfl
          have h3 : (trees.map (fun t => T.enc (T.fl (asO ops) t)))[i]? = some (T.enc (T.fl (asO ops) t)) := by rw [List.getElem?_map, hti]; rfl
          have h4 : (trees.map (fun t => T.enc (T.fl (asO ops) t)))[j]? = some (T.enc (T.fl (asO ops) u)) := by rw [List.getElem?_map, htj]; rfl
          have hs1 := hgi.sz
          have hs2 := hgj.sz
          refine ⟨_, rfl, ?_⟩
          walk_at "go"
          refine wr_ixLn (j := i) (by omega) h1 ?_
          walk_at "go"
          refine wr_ixLn (j := j) (by omega) h2 ?_
          walk_at "go"
          refine are_alike_w ht ha hgi.ok (by omega) hgj.ok (by omega) hgi.w hgj.w fun k1 hk1 => ?_
          walk_at "go"
          refine wr_ixLn (j := i) (by omega) h3 ?_
          walk_at "go"
          refine wr_ixLn (j := j) (by omega) h4 ?_
          walk_at "go"
          refine wr_eqT (T.enc_pl (T.fl_W hgi.w)) (T.enc_pl (T.fl_W hgj.w)) ?_ fun k2 hk2 => ?_
          · have a1 := T.enc_dp (T.fl (asO ops) t)
            have a2 := T.fl_sz (asO ops) t
            omega
          have e12 : k2 = k1 := by
            have : k1 = true ↔ k2 = true := by
              rw [hk1, hk2]
              exact ⟨fun e => by rw [e], fun e => lf_inj (fl_lf hgi.ok) (fl_lf hgj.ok) e⟩
            cases k1 <;> cases k2 <;> simp_all
          subst e12
          walk_at "go"
          refine same_w (d := .bl k2) rfl rfl .bl (by simp [Mr.sz]) ?_
          walk_at "go"
          exact tn_nx ⟨_, rfl⟩
        · obtain ⟨x5, rfl⟩ := hi2
          exact tn_nx ⟨_, _, rfl⟩
      · obtain ⟨x4, x5, rfl⟩ := hi
        walk_at "go"
        exact h

end
section
local macro_rules | `(tactic| walk_at "mwc") => `(tactic| with_reducible refine take_w (by assumption) (by omega) fun r s' hs' hr1 hr2 => ?_)

def wa (o : Op) : Op := { o with assoc := false }
theorem wa_get {ops ops' : List Op} (e : ops'.map wa = ops.map wa) {i : Nat} {a : Op} (h : ops'[i]? = some a) : ∃ b, ops[i]? = some b ∧ wa a = wa b := by
  have h1 : (ops'.map wa)[i]? = some (wa a) := by rw [List.getElem?_map, h]; rfl
  rw [e, List.getElem?_map] at h1
  obtain ⟨b, h2, h3⟩ := Option.map_eq_some_iff.mp h1
  exact ⟨b, h2, h3.symm⟩
theorem wa_mem {ops ops' : List Op} (e : ops'.map wa = ops.map wa) {a : Op} (h : a ∈ ops') : ∃ b ∈ ops, wa a = wa b := by
  obtain ⟨i, hi⟩ := List.getElem?_of_mem h
  obtain ⟨b, h2, h3⟩ := wa_get e hi
  exact ⟨b, List.mem_of_getElem? h2, h3⟩
theorem wa_eq {a b : Op} (h : wa a = wa b) : a.name = b.name ∧ a.role = b.role ∧ a.left = b.left ∧ a.right = b.right ∧ a.loose = b.loose := by
  cases a; cases b; simp only [wa, Op.mk.injEq] at h; exact ⟨h.1, h.2.1, h.2.2.1, h.2.2.2.1, h.2.2.2.2.1⟩
theorem opsOk_re {ops ops' : List Op} (h : OpsOk ops) (e : ops'.map wa = ops.map wa) (ha : ∀ o ∈ ops', o.assoc = true → o.role = .inf) : OpsOk ops' := by
  refine ⟨?_, fun o ho => ?_, fun i j a b hij h1 h2 => ?_, fun a h1 b h2 => ?_⟩
  · have := congrArg List.length e
    rw [List.length_map, List.length_map] at this
    rw [this]; exact h.len
  · obtain ⟨b, hb, e1⟩ := wa_mem e ho
    obtain ⟨e2, e3, e4, e5, e6⟩ := wa_eq e1
    have := h.ok b hb
    exact ⟨by rw [e2]; exact this.nm, by rw [e2]; exact this.len, by rw [e3, e4]; exact this.l, by rw [e3, e5]; exact this.r, ha o ho⟩
  · obtain ⟨a2, h3, e1⟩ := wa_get e h1
    obtain ⟨b2, h4, f1⟩ := wa_get e h2
    obtain ⟨e2, e3, e4, e5, e6⟩ := wa_eq e1
    obtain ⟨f2, f3, f4, f5, f6⟩ := wa_eq f1
    rw [e2, e3, f2, f3]
    exact h.clash i j a2 b2 hij h3 h4
  · obtain ⟨a2, h3, e1⟩ := wa_mem e h1
    obtain ⟨b2, h4, f1⟩ := wa_mem e h2
    obtain ⟨e2, e3, e4, e5, e6⟩ := wa_eq e1
    obtain ⟨f2, f3, f4, f5, f6⟩ := wa_eq f1
    rw [e3, e4, f3, f5]
    exact h.eq a2 h3 b2 h4
/-- drawing anew which operators are associative: i of them done -/
structure ReI (ops : List Op) (acc : List D) (i : Nat) : Prop where
  ex : ∃ ops' : List Op, acc = ops'.map Op.d ∧ ops'.map wa = (ops.take i).map wa ∧ ∀ o ∈ ops', o.assoc = true → o.role = .inf
theorem ReI.zero (ops : List Op) : ReI ops [] 0 := ⟨[], rfl, by simp, by simp⟩
theorem ReI.push {ops : List Op} {acc : List D} {i : Nat} {o : Op} (h : ReI ops acc i) (ho : ops[i]? = some o) {j : Bool} (hj : j = true → o.role = .inf) {d : D} (hd : d = .tup [.str o.name, .str o.role.s, o.l, o.r, .bl o.loose, .bl j]) : ReI ops (acc ++ [d]) (i + 1) := by
  obtain ⟨ops', rfl, e, ha⟩ := h.ex
  obtain ⟨hil, eo⟩ := List.getElem?_eq_some_iff.mp ho
  refine ⟨ops' ++ [{ o with assoc := j }], ?_, ?_, ?_⟩
  · rw [List.map_append, hd]; rfl
  · rw [List.take_succ_eq_append_getElem hil, eo, List.map_append, List.map_append, e]; rfl
  · intro a h1
    rcases List.mem_append.mp h1 with h1 | h1
    · exact ha a h1
    · rw [List.mem_singleton.mp h1]; exact hj
theorem ReI.done {ops : List Op} {acc : List D} {i : Nat} (h : ReI ops acc i) (hi : i = ops.length) (ho : OpsOk ops) : ∃ ops', acc = ops'.map Op.d ∧ OpsOk ops' ∧ ops'.map wa = ops.map wa := by
  obtain ⟨ops', e1, e, ha⟩ := h.ex
  subst hi
  rw [List.take_length] at e
  exact ⟨ops', e1, opsOk_re ho e ha, e⟩
local macro_rules | `(tactic| walk_at "mwc") => `(tactic| first
  | with_reducible refine take_w (by assumption) (by omega) fun r s' hs' hr1 hr2 => ?_
  | with_reducible refine wr_slL ?_
  | with_reducible refine wr_slT rfl ?_)
theorem case_w {s : List Int} {P : O → List O → Prop} (hs : WF s) (h : ∀ s' ops tree near bent braced other, WF s' → OpsOk ops → GT (arO ops) 750 tree → GT (arO ops) 750 near → GT (arO ops) 750 bent → GT (arO ops) 750 braced → GT (arO ops) 750 other → T.fl (asO ops) near = T.fl (asO ops) tree →
    P (.l [.lst (ops.map Op.d), T.enc tree, T.enc near, T.enc bent, T.enc braced, T.enc other]) [Sr s']) : WG (g_law_case [Sr s]) P := by
  unfold g_law_case
  walk_at "mwfn"
  unfold mb_law_case
  walk_at "mw"
  refine edge_w hs (by omega) fun r1 s1 hs1 ha hb => ?_
  walk_at "mw"
  refine lightops_w hs1 (by omega) (by omega) fun s2 ops0 hs2 ho0 => ?_
  walk_at "mw"
  refine ws_cutC (fun ρ => ∃ (s' : List Int) (ops : List Op), ρ = [Sr s', .l (ops.map Op.d), .n, .n, .n, .n, .n, .n, .n, .n, .n, .n, .n, .n, .n, .n, .n, .n, .n] ∧ WF s' ∧ OpsOk ops) ?_ ?_
  · walk_at "go"
    · refine ⟨by rw [List.length_map]; have := ho0.len; omega, fun i acc ρ => ∃ s', ρ = [Sr s', .v (.lst (ops0.map Op.d)), .n, .n, .n, .n, .n, .n, .n, .n, .n, .n, .n, .n, .n, .n, .n, .n, .n] ∧ WF s' ∧ ReI ops0 acc i, ⟨_, rfl, by assumption, ReI.zero _⟩, fun i d acc ρ hd hi => ?_, fun acc ρ hi => ?_⟩
      · obtain ⟨s', rfl, hs', hI⟩ := hi
        rw [List.getElem?_map] at hd
        obtain ⟨o, hoi, rfl⟩ := Option.map_eq_some_iff.mp hd
        have hoo := ho0.ok o (List.mem_of_getElem? hoi)
        rw [show o.d = .tup [.str o.name, .str o.role.s, o.l, o.r, .bl o.loose, .bl o.assoc] from rfl]
        refine ⟨_, rfl, ?_⟩
        walk_at "go"
        · exact ⟨by assumption, hI.push hoi (fun _ => Role.s_inj (b := .inf) (by assumption)) rfl⟩
        · exact ⟨hs', hI.push (j := false) hoi (fun hj => absurd hj (by decide)) rfl⟩
      · obtain ⟨s', rfl, hs', hI⟩ := hi
        obtain ⟨ops', rfl, ho', _⟩ := hI.done (List.length_map ..) ho0
        walk_at "go"
        exact ct_nx ⟨_, ops', rfl, hs', ho'⟩
    · exact ct_nx ⟨_, ops0, rfl, by assumption, ho0⟩
  rintro ρ1 ⟨s3, ops, rfl, hs3, ho⟩
  have hol := ho.len
  walk_at "mw"
  refine edge_w hs3 (by omega) fun r2 s4 hs4 ha2 hb2 => ?_
  walk_at "mw"
  obtain ⟨ws, hws, hwo⟩ : ∃ ws : List Str, cutD [D.str (Str.ofString "x"), .str (Str.ofString "0"), .str (Str.ofString "yy12"), .str (Str.ofString "abcdefgh")] none (some r2) = ws.map D.str ∧ WsOk ws := by
    have hsok : ∀ w ∈ [Str.ofString "x", Str.ofString "0", Str.ofString "yy12", Str.ofString "abcdefgh"], PyData.strOk w = true ∧ w.length ≤ 10000 := by decide +kernel
    have key : ∀ k : Nat, k < 4 → WsOk ([Str.ofString "x", Str.ofString "0", Str.ofString "yy12", Str.ofString "abcdefgh"].take (k + 1)) := fun k hk => ⟨by rw [List.length_take]; simp; omega, by rw [List.length_take]; simp; omega, fun w hw => hsok w (List.mem_of_mem_take hw)⟩
    obtain rfl | rfl | rfl | rfl : r2 = 1 ∨ r2 = 2 ∨ r2 = 3 ∨ r2 = 4 := by omega
    · exact ⟨_, rfl, key 0 (by omega)⟩
    · exact ⟨_, rfl, key 1 (by omega)⟩
    · exact ⟨_, rfl, key 2 (by omega)⟩
    · exact ⟨_, rfl, key 3 (by omega)⟩
  rw [hws]
  walk_at "mw"
  refine take_w (by assumption) (by omega) fun r3 s5 hs5 _ hr3 => ?_
  walk_at "mw"
  refine take_w (by assumption) (by omega) fun r4 s6 hs6 _ hr4 => ?_
  walk_at "mw"
  obtain ⟨cs, hcs, hco⟩ : ∃ cs : List (Str × Nat), cutD [D.tup [.str (Str.ofString "f"), .int (1 + r3)], .tup [.str (Str.ofString "g2"), .int 2]] none (some r4) = cs.map callD ∧ CallsOk cs := by
    obtain ⟨q, hq⟩ : ∃ q : Nat, r3 = (q : Int) := ⟨r3.toNat, by omega⟩
    subst hq
    have e1 : D.tup [.str (Str.ofString "f"), .int (1 + (q : Int))] = callD (Str.ofString "f", 1 + q) := by unfold callD nat; rw [Int.natCast_add]; rfl
    have e2 : D.tup [.str (Str.ofString "g2"), .int 2] = callD (Str.ofString "g2", 2) := rfl
    rw [e1, e2]
    have hsok : ∀ w ∈ [Str.ofString "f", Str.ofString "g2"], PyData.strOk w = true ∧ w.length ≤ 10000 := by decide +kernel
    have key : ∀ k : Nat, CallsOk ([(Str.ofString "f", 1 + q), (Str.ofString "g2", 2)].take k) := fun k => ⟨by rw [List.length_take]; simp; omega, fun c hc => by
      have := List.mem_of_mem_take hc
      simp only [List.mem_cons, List.not_mem_nil, or_false] at this
      rcases this with rfl | rfl
      · exact ⟨hsok _ (by simp), by simp only; omega, by simp only; omega⟩
      · exact ⟨hsok _ (by simp), by simp only; omega, by simp only; omega⟩⟩
    obtain rfl | rfl | rfl : r4 = 0 ∨ r4 = 1 ∨ r4 = 2 := by omega
    · exact ⟨_, rfl, key 0⟩
    · exact ⟨_, rfl, key 1⟩
    · exact ⟨_, rfl, key 2⟩
  rw [hcs]
  walk_at "mw"
  refine take_w (by assumption) (by omega) fun r5 s7 hs7 _ hr5 => ?_
  obtain ⟨lv, hlv, hlo⟩ : ∃ lv : List T, [D.tup [.str (Str.ofString "h"), .int r5], .tup [.str (Str.ofString "k"), .str (Str.ofString "AB")], .tup [.str (Str.ofString "c"), .str (Str.ofString "h"), .tup []]] = lv.map T.enc ∧ LvOk (arO ops) lv := by
    have hsok : ∀ w ∈ [Str.ofString "AB", Str.ofString "h"], PyData.strOk w = true ∧ w.length ≤ 10000 := by decide +kernel
    refine ⟨[.mk (.h r5) [], .mk (.k (Str.ofString "AB")) [], .mk (.c (Str.ofString "h")) []], rfl, by simp, fun u hu => ?_⟩
    simp only [List.mem_cons, List.not_mem_nil, or_false] at hu
    rcases hu with rfl | rfl | rfl
    · exact ⟨by simp [T.Ok, T.Oks, T.okM], by simp [T.W, T.Ws, Mk.wOk], by simp [T.sz, T.szs]⟩
    · exact ⟨by simp [T.Ok, T.Oks, T.okM], by simp only [T.W, T.Ws, Mk.wOk]; exact ⟨hsok _ (by simp), trivial⟩, by simp [T.sz, T.szs]⟩
    · exact ⟨by simp [T.Ok, T.Oks, T.okM], by simp only [T.W, T.Ws, Mk.wOk]; exact ⟨hsok _ (by simp), trivial⟩, by simp [T.sz, T.szs]⟩
  walk_at "mw"
  rw [hlv]
  refine take_w (by assumption) (by omega) fun r6 s8 hs8 _ hr6 => ?_
  walk_at "mw"
  refine ws_cutC (fun ρ => ∃ (s' : List Int) (tree : T) (oc x16 : O), ρ = [Sr s', .l (ops.map Op.d), .l (ws.map .str), oc, .l (lv.map T.enc), .v (.int r6), .n, .n, .n, .n, .n, .n, .n, .n, .n, .v (T.enc tree), x16, .n, .n] ∧ WF s' ∧ GT (arO ops) 358 tree ∧ LS (cs.map callD) oc) ?_ ?_
  · walk_at "go"
    · refine long_w (by assumption) hol hwo (by omega) fun s9 u hs9 hu => ?_
      walk_at "go"
      exact ct_nx ⟨s9, u, _, _, rfl, hs9, hu.le (by omega), .l⟩
    · refine tree_w (a := 52) (b := 99) (c := 0) (N := 51) (by assumption) hol hwo hco .l hlo (by omega) (by omega) (by omega) (by omega) fun s9 a9 b9 u hs9 hu => ?_
      walk_at "go"
      exact ct_nx ⟨s9, u, _, _, rfl, hs9, hu.le (by omega), .v⟩
    · refine edge_w (by assumption) (by omega) fun r7 s9 hs9 ha7 hb7 => ?_
      walk_at "go"
      refine tree_w (a := r7) (b := 99) (c := 0) (N := 51) (by assumption) hol hwo hco .l hlo (by omega) (by omega) (by omega) (by omega) fun s9 a9 b9 u hs9 hu => ?_
      walk_at "go"
      exact ct_nx ⟨s9, u, _, _, rfl, hs9, hu.le (by omega), .v⟩
  rintro ρ1 ⟨s9, tree, oc, x16, rfl, hs9, hgt, hoc⟩
  refine ws_cutC (fun ρ => ∃ (s' : List Int) (other : T), ρ = [Sr s', .l (ops.map Op.d), .l (ws.map .str), .v (.lst (cs.map callD)), .l (lv.map T.enc), .v (.int r6), .v (T.enc other), .n, .n, .n, .n, .n, .n, .n, .n, .v (T.enc tree), x16, .n, .n] ∧ WF s' ∧ GT (arO ops) 50 other) ?_ ?_
  · cases hoc
    all_goals
      walk_at "mw"
      refine tree_w (a := 8) (b := 99) (c := 0) (N := 7) (by assumption) hol hwo hco (by first | exact .v | exact .l) hlo (by omega) (by omega) (by omega) (by omega) fun s10 a10 b10 other hs10 hother => ?_
      walk_at "mw"
      exact ct_nx ⟨s10, other, rfl, hs10, hother⟩
  rintro ρ1 ⟨s10, other, rfl, hs10, hother⟩
  clear hoc
  walk_at "mw"
  refine nodes_w hgt.ok (by have := hgt.sz; omega) ?_
  walk_at "mw"
  refine ws_seq ?_
  have hl1 : ((T.pre tree).map T.enc).length = T.sz tree := by rw [List.length_map, T.pre_len]
  have hpos := T.sz_pos tree
  have hts := hgt.sz
  have hai : AssocInf ops := fun o h1 => (ho.ok o h1).as
  rw [hl1]
  walk_at "mw"
  refine edge_w (by assumption) (by omega) fun r8 s11 hs11 ha8 hb8 => ?_
  walk_at "mw"
  refine ⟨big_of (by omega) (by omega), ?_⟩
  refine wf_inv (fun i ρ => ∃ (s' : List Int) (near : T) (x9 x12 x17 : O), ρ = [Sr s', .l (ops.map Op.d), .l (ws.map .str), .v (.lst (cs.map callD)), .l (lv.map T.enc), .v (.int r6), .v (T.enc other), .v (.int (T.sz tree : Nat)), .v (T.enc near), x9, .n, .n, x12, .n, .n, .v (T.enc tree), x16, x17, .n] ∧ WF s' ∧ (T.Ok (arO ops) near ∧ T.W near ∧ T.sz near = T.sz tree ∧ T.fl (asO ops) near = T.fl (asO ops) tree)) ⟨_, _, _, _, _, rfl, hs11, hgt.ok, hgt.w, rfl, rfl⟩ (fun i d ρ hd hi => ?_) (fun ρ hi => ?_)
  · obtain ⟨s', near, x9, x12, x17, rfl, hs', hn1, hn2, hn3, hn4⟩ := hi
    obtain ⟨hi, rfl⟩ := rngD_get hd
    refine ⟨_, rfl, ?_⟩
    walk_at "mw"
    refine take_w hs' (by omega) fun r9 s12 hs12 hr9a hr9 => ?_
    walk_at "go"
    refine ⟨big_of (by split <;> omega) (by split <;> omega), ?_⟩
    refine wf_inv (fun j ρ => ∃ (s' : List Int) (near : T) (x17 : O), ρ = [Sr s', .l (ops.map Op.d), .l (ws.map .str), .v (.lst (cs.map callD)), .l (lv.map T.enc), .v (.int r6), .v (T.enc other), .v (.int (T.sz tree : Nat)), .v (T.enc near), .v (.int (0 + (i : Int))), .n, .n, .v (.int r9), .n, .n, .v (T.enc tree), x16, x17, .n] ∧ WF s' ∧ (T.Ok (arO ops) near ∧ T.W near ∧ T.sz near = T.sz tree ∧ T.fl (asO ops) near = T.fl (asO ops) tree)) ⟨_, _, _, rfl, hs12, hn1, hn2, hn3, hn4⟩ (fun j d ρ hd hj => ?_) (fun ρ hj => ?_)
    · obtain ⟨s', near, x17, rfl, hs', hn1, hn2, hn3, hn4⟩ := hj
      obtain ⟨hj, rfl⟩ := rngD_get hd
      refine ⟨_, rfl, ?_⟩
      walk_at "go"
      obtain ⟨q, hq⟩ : ∃ q : Nat, (r9 + (0 + (j : Int))) % (T.sz tree : Int) = (q : Int) := ⟨((r9 + (0 + (j : Int))) % (T.sz tree : Int)).toNat, by have := Int.emod_nonneg (r9 + (0 + (j : Int))) (show (T.sz tree : Int) ≠ 0 by omega); omega⟩
      have hq2 : q < T.sz tree := by have := Int.emod_lt_of_pos (r9 + (0 + (j : Int))) (show (0 : Int) < (T.sz tree : Int) by omega); omega
      rw [hq]
      rename_i r10 s13 hs13 _ hr10
      refine turned_w (n := q) hai hn1 hn2 (by omega) (by omega) (by omega) fun u h1 h2 h3 h4 => ?_
      walk_at "go"
      simp only [bk, List.set_cons_succ, List.set_cons_zero, List.getElem?_cons_succ, List.getElem?_cons_zero]
      exact tn_nx ⟨_, u, _, rfl, hs13, h1, h2, h3.trans hn3, h4.trans hn4⟩
    · obtain ⟨s', near, x17, rfl, hs', hn⟩ := hj
      exact tn_nx ⟨_, _, _, _, _, rfl, hs', hn⟩
  · obtain ⟨s', near, x9, x12, x17, rfl, hs', hn1, hn2, hn3, hn4⟩ := hi
    refine ws_cutC (fun ρ => ∃ (s' : List Int) (part : T), ρ = [Sr s', .l (ops.map Op.d), .l (ws.map .str), .v (.lst (cs.map callD)), .l (lv.map T.enc), .v (.int r6), .v (T.enc other), .v (.int (T.sz tree : Nat)), .v (T.enc near), x9, .v (T.enc part), .n, x12, .n, .n, .v (T.enc tree), x16, x17, .n] ∧ WF s' ∧ GT (arO ops) 50 part) ?_ ?_
    · have hsok : ∀ w ∈ [Str.ofString "x", Str.ofString "0"], PyData.strOk w = true ∧ w.length ≤ 10000 := by decide +kernel
      have ga : ∀ w ∈ [Str.ofString "x", Str.ofString "0"], GT (arO ops) 1 (.mk (.a w) []) := fun w hw => ⟨by simp [T.Ok, T.Oks, T.okM], by simp [T.W, T.Ws, Mk.wOk, hsok w hw], by simp [T.sz, T.szs]⟩
      have gx := ga (Str.ofString "x") (by simp)
      have g0 := ga (Str.ofString "0") (by simp)
      have gb : GT (arO ops) 2 (.mk .b [.mk (.a (Str.ofString "0")) []]) := ⟨by simp [T.Ok, T.Oks, T.okM], by have := g0.w; simp [T.W, T.Ws, Mk.wOk] at this ⊢; exact this, by simp [T.sz, T.szs]⟩
      have hin : ∀ d ∈ [D.tup [.str (Str.ofString "a"), .str (Str.ofString "x")], .tup [.str (Str.ofString "b"), .tup [.str (Str.ofString "a"), .str (Str.ofString "0")]], T.enc other], ∃ part, d = T.enc part ∧ GT (arO ops) 50 part := by
        intro d hd
        simp only [List.mem_cons, List.not_mem_nil, or_false] at hd
        rcases hd with rfl | rfl | rfl
        · exact ⟨.mk (.a (Str.ofString "x")) [], rfl, gx.le (by omega)⟩
        · exact ⟨.mk .b [.mk (.a (Str.ofString "0")) []], rfl, gb.le (by omega)⟩
        · exact ⟨other, rfl, hother⟩
      walk_at "go"
      · exact ct_nx ⟨_, .mk (.a (Str.ofString "x")) [], rfl, hs', gx.le (by omega)⟩
      · rename_i r10 s13 hs13 _ hr10
        refine wr_ixTm (by omega) (by show r10 < 3; omega) fun d hd => ?_
        obtain ⟨part, rfl, hpart⟩ := hin d hd
        exact ct_nx ⟨_, part, rfl, hs13, hpart⟩
    rintro ρ1 ⟨s14, part, rfl, hs14, hpart⟩
    walk_at "mw"
    refine take_w hs14 (by omega) fun r11 s15 hs15 ha11 hb11 => ?_
    walk_at "mw"
    obtain ⟨q, rfl⟩ : ∃ q : Nat, r11 = (q : Int) := ⟨r11.toNat, by omega⟩
    refine swap_w (n := q) (part := part) hgt.ok (by omega) (by omega) ?_
    have hbent : GT (arO ops) 750 (T.repl tree q part) := ⟨T.repl_ok hpart.ok hgt.ok, T.repl_W hpart.w hgt.w, by have h1 := T.repl_sz (u := part) (t := tree) (n := q); have := hpart.sz; omega⟩
    generalize T.repl tree q part = bent at hbent
    walk_at "mw"
    refine take_w hs15 (by omega) fun r12 s16 hs16 ha12 hb12 => ?_
    walk_at "mw"
    refine nodes_w hgt.ok (by omega) ?_
    walk_at "mw"
    obtain ⟨q2, rfl⟩ : ∃ q : Nat, r12 = (q : Int) := ⟨r12.toNat, by omega⟩
    have hq2 : q2 < T.sz tree := by omega
    obtain ⟨v, hv⟩ : ∃ v, (T.pre tree)[q2]? = some v := ⟨_, List.getElem?_eq_getElem (by rw [T.pre_len]; exact hq2)⟩
    have hvo := T.pre_ok hgt.ok v (List.mem_of_getElem? hv)
    have hvW := T.pre_W hgt.w v (List.mem_of_getElem? hv)
    have hvs := sz_pre (List.mem_of_getElem? hv)
    refine wr_ixLn (j := q2) rfl (by rw [List.getElem?_map, hv]; rfl) ?_
    walk_at "mw"
    refine ws_cutC (fun ρ => ∃ braced : T, ρ = [Sr s16, .l (ops.map Op.d), .l (ws.map .str), .v (.lst (cs.map callD)), .l (lv.map T.enc), .v (.int r6), .v (T.enc other), .v (.int (T.sz tree : Nat)), .v (T.enc near), x9, .v (T.enc part), .v (T.enc bent), .v (.int (q2 : Int)), .v (T.enc v), .v (T.enc braced), .v (T.enc tree), x16, x17, .n] ∧ GT (arO ops) 750 braced) ?_ ?_
    · have hrep : ∀ u, T.Ok (arO ops) u → T.W u → T.sz u ≤ 359 → GT (arO ops) 750 (T.repl tree q2 u) := fun u h1 h2 h3 => ⟨T.repl_ok h1 hgt.ok, T.repl_W h2 hgt.w, by have h1 := T.repl_sz (u := u) (t := tree) (n := q2); omega⟩
      have hrv := hrep (.mk .b [v]) (by simp only [T.Ok, T.Oks, T.okM]; exact ⟨rfl, hvo, trivial⟩) (by simp only [T.W, T.Ws, Mk.wOk]; exact ⟨trivial, hvW, trivial⟩) (by simp [T.sz, T.szs]; omega)
      obtain ⟨m, ts⟩ := v
      cases m
      case b =>
        have hvo2 := hvo
        rw [T.Ok] at hvo2
        obtain ⟨u, rfl⟩ := List.length_eq_one_iff.mp (show ts.length = 1 from hvo2.1)
        have huo : T.Ok (arO ops) u := hvo.ts u (by simp [T.ts])
        simp only [T.W, T.Ws] at hvW
        have hru := hrep u huo hvW.2.1 (by simp only [T.sz, T.szs] at hvs; omega)
        walk_at "go"
        refine swap_w (n := q2) (part := u) hgt.ok (by omega) hq2 ?_
        walk_at "go"
        simp only [bk, List.set_cons_succ, List.set_cons_zero, List.getElem?_cons_succ, List.getElem?_cons_zero]
        exact ct_nx ⟨_, rfl, hru⟩
      all_goals
        walk_at "go"
        · refine swap_w (n := q2) (part := .mk .b [.mk _ ts]) hgt.ok (by omega) hq2 ?_
          walk_at "go"
          simp only [bk, List.set_cons_succ, List.set_cons_zero, List.getElem?_cons_succ, List.getElem?_cons_zero]
          exact ct_nx ⟨_, rfl, hrv⟩
        · exact ct_nx ⟨tree, rfl, hgt.le (by omega)⟩
    rintro ρ1 ⟨braced, rfl, hbr⟩
    walk_at "go"
    exact h s16 ops tree near bent braced other hs16 ho (hgt.le (by omega)) ⟨hn1, hn2, by omega⟩ hbent hbr (hother.le (by omega)) hn4

end
section
local macro_rules | `(tactic| walk_at "mwc") => `(tactic| with_reducible refine take_w (by assumption) (by omega) fun r s' hs' hr1 hr2 => ?_)

theorem arO_wa {ops ops' : List Op} (e : ops'.map wa = ops.map wa) : arO ops' = arO ops := by
  funext n
  unfold arO
  have h : (ops'.map wa)[n]? = (ops.map wa)[n]? := by rw [e]
  rw [List.getElem?_map, List.getElem?_map] at h
  cases h1 : ops'[n]? with
  | none => rw [h1] at h; cases h2 : ops[n]? with
    | none => rfl
    | some b => rw [h2] at h; exact absurd h (by simp)
  | some a => rw [h1] at h; cases h2 : ops[n]? with
    | none => rw [h2] at h; exact absurd h (by simp)
    | some b =>
      rw [h2] at h
      have := (wa_eq (Option.some.inj h)).2.1
      simp only [Option.map_some, Op.ar, this]
local macro_rules | `(tactic| walk_at "mwc") => `(tactic| first
  | with_reducible refine wr_slL ?_
  | with_reducible refine wr_slT rfl ?_)
theorem law_w (ns : List Int) (hns : ns.length ≤ 63) : WG (g_law [.v (.rl (ns.map D.int))]) fun r _ => r = .v (.bl true) := by
  unfold g_law
  walk_at "mwfn"
  unfold mb_law
  walk_at "mw"
  refine store_w (fun s hs => ?_) hns
  obtain ⟨r0, outs0, e0, s', ops, tree, near, bent, braced, other, rfl, rfl, hs', ho, g1, g2, g3, g4, g5, hfl⟩ := case_w (P := fun r outs => ∃ s' ops tree near bent braced other, r = .l [.lst (ops.map Op.d), T.enc tree, T.enc near, T.enc bent, T.enc braced, T.enc other] ∧ outs = [Sr s'] ∧ WF s' ∧ OpsOk ops ∧ GT (arO ops) 750 tree ∧ GT (arO ops) 750 near ∧ GT (arO ops) 750 bent ∧ GT (arO ops) 750 braced ∧ GT (arO ops) 750 other ∧ T.fl (asO ops) near = T.fl (asO ops) tree) hs
    (fun s' ops tree near bent braced other h1 h2 h3 h4 h5 h6 h7 h8 => ⟨s', ops, tree, near, bent, braced, other, rfl, rfl, h1, h2, h3, h4, h5, h6, h7, h8⟩)
  have hcall : ∀ {P : O → List O → Prop}, P (.l [.lst (ops.map Op.d), T.enc tree, T.enc near, T.enc bent, T.enc braced, T.enc other]) [Sr s'] → WG (g_law_case [Sr s]) P := fun h => ⟨_, _, e0, h⟩
  clear e0
  have hol := ho.len
  have hai : AssocInf ops := fun o h1 => (ho.ok o h1).as
  walk_at "mw"
  refine hcall ?_
  walk_at "mw"
  refine hcall ?_
  walk_at "mw"
  rw [show cutD [D.lst (ops.map Op.d), T.enc tree, T.enc near, T.enc bent, T.enc braced, T.enc other] (some 1) none = [tree, near, bent, braced, other].map T.enc from rfl]
  have hmem : ∀ t ∈ [tree, near, bent, braced, other], GT (arO ops) 750 t := fun t ht => by
    simp only [List.mem_cons, List.not_mem_nil, or_false] at ht
    rcases ht with rfl | rfl | rfl | rfl | rfl <;> assumption
  have hmem3 : ∀ t ∈ [tree, near, bent], GT (arO ops) 750 t := fun t ht => hmem t (by simp only [List.mem_cons, List.not_mem_nil, or_false] at ht ⊢; rcases ht with h | h | h <;> simp [h])
  generalize hC : D.lst (ops.map Op.d) = C at *
  refine ⟨by rw [List.length_map]; omega, fun i acc ρ => ρ = [.v (.rl (ns.map D.int)), Sr s', .l ([tree, near, bent, braced, other].map T.enc), .l [C, T.enc tree, T.enc near, T.enc bent, T.enc braced, T.enc other], .v C, .l ([tree, near, bent, braced, other].map T.enc), .n, .n, .n] ∧ ReI ops acc i, ⟨rfl, ReI.zero _⟩, fun i d acc ρ hd hi => ?_, fun acc ρ hi => ?_⟩
  · obtain ⟨rfl, hI⟩ := hi
    rw [List.getElem?_map] at hd
    obtain ⟨o, hoi, rfl⟩ := Option.map_eq_some_iff.mp hd
    rw [show o.d = .tup [.str o.name, .str o.role.s, o.l, o.r, .bl o.loose, .bl o.assoc] from rfl]
    refine ⟨_, rfl, ?_⟩
    walk_at "go"
    · exact ⟨rfl, hI.push hoi (fun _ => Role.s_inj (b := .inf) (by assumption)) rfl⟩
    · exact ⟨rfl, hI.push (j := false) hoi (fun hj => absurd hj (by decide)) rfl⟩
  · obtain ⟨rfl, hI⟩ := hi
    obtain ⟨other', rfl, ho', hwa⟩ := hI.done (List.length_map ..) ho
    have hai' : AssocInf other' := fun o h1 => (ho'.ok o h1).as
    have har := arO_wa hwa
    have hmem3' : ∀ t ∈ [tree, near, bent], GT (arO other') 750 t := by rw [har]; exact hmem3
    subst hC
    walk_at "mw"
    refine init_w (ops := ops) .v ho fun kr vr kf vf => ⟨rfl, _, _, rfl, _, rfl, ?_⟩
    walk_at "mw"
    refine ws_seq ?_
    walk_at "go"
    refine told_w (ops := ops) (trees := [tree, near, bent, braced, other]) kept_ins hai .l hmem (by simp) ?_
    walk_at "go"
    refine init_w (ops := other') .l ho' fun kr' vr' kf' vf' => ⟨rfl, _, _, rfl, _, rfl, ?_⟩
    walk_at "go"
    refine told_w (ops := other') (trees := [tree, near, bent]) kept_ins hai' .l hmem3' (by simp) ?_
    walk_at "go"
    have hz1 := g1.sz
    have hz2 := g2.sz
    refine are_alike_w (ops := ops) (t := tree) (u := near) kept_ins hai g1.ok (by omega) g2.ok (by omega) g1.w g2.w fun k1 hk1 => ?_
    obtain rfl : k1 = true := hk1.mpr hfl.symm
    walk_at "go"
    refine are_alike_w (ops := ops) (t := near) (u := tree) kept_ins hai g2.ok (by omega) g1.ok (by omega) g2.w g1.w fun k2 hk2 => ?_
    obtain rfl : k2 = true := hk2.mpr hfl
    walk_at "go"
    refine same_w (d := .lst [.bl true, .bl true]) rfl rfl (.lst fun d hd => by
      simp only [List.mem_cons, List.not_mem_nil, or_false] at hd
      rcases hd with rfl | rfl <;> exact .bl) (by simp [Mr.sz, Mr.szs]) ?_
    walk_at "go"
    refine told_w (ops := ops) (trees := [tree, near, bent, braced, other]) kept_ins hai .v hmem (by simp) ?_
    walk_at "go"
    have hva : Va (.lst ([tree, near, bent, braced, other].map T.enc)) := .lst fun d hd => by
      obtain ⟨t, ht, rfl⟩ := List.mem_map.mp hd
      exact T.enc_va (hmem t ht).w
    have hsz : Mr.sz (.lst ([tree, near, bent, braced, other].map T.enc)) ≤ 399000 := by
      have h1 := szs_map_le (f := T.enc) (B := 3000) (l := [tree, near, bent, braced, other]) fun t ht => by
        have h1 := T.enc_sz t
        have h3 := (hmem t ht).sz
        omega
      rw [Mr.sz]
      simp only [List.length_cons, List.length_nil] at h1
      omega
    refine same_w (d := .lst ([tree, near, bent, braced, other].map T.enc)) rfl rfl hva hsz ?_
    walk_at "go"
    rfl
theorem law_holds : ∀ ns : List Int, ns.length ≤ 63 → ∃ outs, g_law [.v (.rl (ns.map D.int))] = some (.v (.bl true), outs) := fun ns h => by
  obtain ⟨r, outs, e, rfl⟩ := law_w ns h
  exact ⟨outs, e⟩

end
end K8
theorem PySem.Challenge.cw_textortree_k08_flat_trees_holds : PySem.Challenge.rw_textortree_k08_flat_trees.Holds := by
  exact K8.holds_of K8.law_holds
