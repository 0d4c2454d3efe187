import PyProof.Rows.All
import Wide.All
import OpenK.AllK
import Wide.FinOn
import KE.KStateDown
import Lean
import HandS.ForMost
import HandS.Defaults
import HandS.IsInst
import HandS.RevRange
import HandS.Wide
import HandS.Flow
import HandS.Head0
import HandS.Head1
import HandS.Head2
import HandS.HeadEnd
import HandS.HeadHook1
import HandS.HeadHook2
import PySem.Challenge.RW_textortree_k00_names_of_four_sorts
set_option Elab.async false
set_option linter.all false
set_option maxRecDepth 100000
set_option maxHeartbeats 4000000
/-! MrA: data D, cells O, the relation Rel between cells and the abstract heap. -/
namespace Mr
open PySem PySem.Spec PyProof.Rows L2

/-- plain data, a list that is only read (rl) among it -/
inductive D where
  | non | bl (b : Bool) | int (i : Int) | str (s : Str) | tup (ds : List D) | lst (ds : List D) | rl (ds : List D) | ty (n : String)

mutual
def Rep (K : PySem.W.Frag) (h : Hp) : D → V → Prop
  | .non, v => v = .non
  | .bl b, v => v = .bl b
  | .int i, v => v = .int i
  | .str s, v => v = .str s
  | .tup ds, v => ∃ a xs, v = .ref a ∧ SqT K h a xs ∧ Reps K h ds xs
  | .lst ds, v => ∃ a xs, v = .ref a ∧ h a = some (.lst xs) ∧ Reps K h ds xs
  | .rl ds, v => ∃ a xs, v = .ref a ∧ SqL K h a xs ∧ Reps K h ds xs
  | .ty n, v => v = .ty n
def Reps (K : PySem.W.Frag) (h : Hp) : List D → List V → Prop
  | [], xs => xs = []
  | d :: ds, xs => ∃ x r, xs = x :: r ∧ Rep K h d x ∧ Reps K h ds r
end

theorem sqT_same {K : PySem.W.Frag} {H H' : Hp} {a : Addr} {xs : List V} (e : Same H H') (h : SqT K H a xs) : SqT K H' a xs := by
  rcases h with (h | ⟨o, h⟩) | h
  · exact .inl (.inl (e _ _ h))
  · exact .inl (.inr ⟨o, e _ _ h⟩)
  · exact .inr h

mutual
theorem Rep.mono {K : PySem.W.Frag} {h h' : Hp} (e : Same h h') : ∀ {d : D} {v : V}, Rep K h d v → Rep K h' d v
  | .non, _, r => r
  | .bl _, _, r => r
  | .int _, _, r => r
  | .str _, _, r => r
  | .tup _, _, ⟨a, xs, e1, e2, e3⟩ => ⟨a, xs, e1, sqT_same e e2, Reps.mono e e3⟩
  | .lst _, _, ⟨a, xs, e1, e2, e3⟩ => ⟨a, xs, e1, e _ _ e2, Reps.mono e e3⟩
  | .rl _, _, ⟨a, xs, e1, e2, e3⟩ => ⟨a, xs, e1, e.seq e2, Reps.mono e e3⟩
  | .ty _, _, r => r
theorem Reps.mono {K : PySem.W.Frag} {h h' : Hp} (e : Same h h') : ∀ {ds : List D} {vs : List V}, Reps K h ds vs → Reps K h' ds vs
  | [], _, r => r
  | _ :: _, _, ⟨x, r, e1, e2, e3⟩ => ⟨x, r, e1, Rep.mono e e2, Reps.mono e e3⟩
end
section
variable {K : PySem.W.Frag} {h : Hp}
theorem Reps.length : ∀ {ds : List D} {vs : List V}, Reps K h ds vs → ds.length = vs.length
  | [], _, r => by cases r; rfl
  | _ :: _, _, ⟨x, r, e1, e2, e3⟩ => by rw [e1, List.length_cons, List.length_cons, Reps.length e3]
theorem Reps.get : ∀ {ds : List D} {vs : List V} {i : Nat} {d : D}, Reps K h ds vs → ds[i]? = some d → ∃ v, vs[i]? = some v ∧ Rep K h d v
  | [], _, _, _, _, e => by simp at e
  | _ :: _, _, 0, _, ⟨x, r, e1, e2, _⟩, e => by
    subst e1
    have e' : _ = _ := Option.some.inj e
    subst e'
    exact ⟨x, rfl, e2⟩
  | _ :: ds, _, i + 1, d, ⟨x, r, e1, _, e3⟩, e => by
    subst e1
    obtain ⟨v, q1, q2⟩ := Reps.get (i := i) e3 (by simpa using e)
    exact ⟨v, by simpa using q1, q2⟩
theorem Reps.at : ∀ {ds : List D} {vs : List V} {i : Nat} {v : V}, Reps K h ds vs → vs[i]? = some v → ∃ d, ds[i]? = some d ∧ Rep K h d v
  | [], _, _, _, r, e => by cases r; simp at e
  | d :: _, _, 0, v, ⟨x, r, e1, e2, _⟩, e => by
    subst e1
    have e' : _ = _ := Option.some.inj e
    subst e'
    exact ⟨d, rfl, e2⟩
  | _ :: ds, _, i + 1, v, ⟨x, r, e1, _, e3⟩, e => by
    subst e1
    obtain ⟨v, q1, q2⟩ := Reps.at (i := i) e3 (by simpa using e)
    exact ⟨v, by simpa using q1, q2⟩
theorem Reps.append : ∀ {ds es : List D} {vs us : List V}, Reps K h ds vs → Reps K h es us → Reps K h (ds ++ es) (vs ++ us)
  | [], _, _, _, r, s => by cases r; exact s
  | _ :: _, _, _, _, ⟨x, r, e1, e2, e3⟩, s => by subst e1; exact ⟨x, _, rfl, e2, Reps.append e3 s⟩
theorem Reps.one {d : D} {v : V} (r : Rep K h d v) : Reps K h [d] [v] := ⟨v, [], rfl, r, rfl⟩
theorem Reps.take : ∀ {ds : List D} {vs : List V} (n : Nat), Reps K h ds vs → Reps K h (ds.take n) (vs.take n)
  | _, _, 0, _ => rfl
  | [], _, _ + 1, r => by cases r; rfl
  | _ :: _, _, n + 1, ⟨x, r, e1, e2, e3⟩ => by subst e1; exact ⟨x, _, rfl, e2, Reps.take n e3⟩
theorem Reps.drop : ∀ {ds : List D} {vs : List V} (n : Nat), Reps K h ds vs → Reps K h (ds.drop n) (vs.drop n)
  | _, _, 0, r => r
  | [], _, _ + 1, r => by cases r; rfl
  | _ :: _, _, n + 1, ⟨x, r, e1, e2, e3⟩ => by subst e1; exact Reps.drop n e3
theorem Reps.set {d : D} {v : V} (rv : Rep K h d v) : ∀ {ds : List D} {vs : List V} (n : Nat), Reps K h ds vs → Reps K h (ds.set n d) (vs.set n v)
  | [], _, _, r => by cases r; rfl
  | _ :: _, _, 0, ⟨x, r, e1, e2, e3⟩ => by subst e1; exact ⟨v, _, rfl, rv, e3⟩
  | _ :: _, _, n + 1, ⟨x, r, e1, e2, e3⟩ => by subst e1; exact ⟨x, _, rfl, e2, Reps.set rv n e3⟩
theorem Reps.eraseIdx : ∀ {ds : List D} {vs : List V} (n : Nat), Reps K h ds vs → Reps K h (ds.eraseIdx n) (vs.eraseIdx n)
  | [], _, _, r => by cases r; rfl
  | _ :: _, _, 0, ⟨x, r, e1, e2, e3⟩ => by subst e1; exact e3
  | _ :: _, _, n + 1, ⟨x, r, e1, e2, e3⟩ => by subst e1; exact ⟨x, _, rfl, e2, Reps.eraseIdx n e3⟩
theorem Reps.dropLast {ds : List D} {vs : List V} (r : Reps K h ds vs) : Reps K h ds.dropLast vs.dropLast := by
  rw [List.dropLast_eq_take, List.dropLast_eq_take, ← r.length]
  exact r.take _
theorem Reps.reverse : ∀ {ds : List D} {vs : List V}, Reps K h ds vs → Reps K h ds.reverse vs.reverse
  | [], _, r => by cases r; exact rfl
  | _ :: _, _, ⟨x, r, e1, e2, e3⟩ => by
    subst e1
    rw [List.reverse_cons, List.reverse_cons]
    exact (Reps.reverse e3).append (.one e2)
theorem Reps.flatten_rep {ds : List D} {vs : List V} (r : Reps K h ds vs) : ∀ n : Nat, Reps K h (List.replicate n ds).flatten (List.replicate n vs).flatten
  | 0 => rfl
  | n + 1 => by
    rw [List.replicate_succ, List.replicate_succ, List.flatten_cons, List.flatten_cons]
    exact r.append (Reps.flatten_rep r n)
theorem Reps.ints : ∀ {ns : List Int} {vs : List V}, Reps K h (ns.map D.int) vs → vs = ns.map V.int
  | [], _, r => r
  | _ :: _, _, ⟨x, r, e1, e2, e3⟩ => by
    have e2' : x = _ := e2
    rw [e1, e2', Reps.ints e3]
    rfl
theorem Reps.of_ints : ∀ (ns : List Int), Reps K h (ns.map D.int) (ns.map V.int)
  | [] => rfl
  | _ :: ns => ⟨_, _, rfl, rfl, Reps.of_ints ns⟩
end

/-! ### cells -/
/-- a cell: nothing is known; plain data; a list that this cell owns -/
inductive O where
  | n | v (d : D) | l (ds : List D)
abbrev Cells := List (O × Option V)
def RO (K : PySem.W.Frag) (h H : Hp) : O → Option V → List Addr → Prop
  | .n, _, F => F = []
  | .v d, x, F => F = [] ∧ ∃ y, x = some y ∧ Rep K h d y
  | .l ds, x, F => ∃ a xs, x = some (.ref a) ∧ H a = some (.lst xs) ∧ Reps K h ds xs ∧ F = [a]
def RC (K : PySem.W.Frag) (h H : Hp) : Cells → List Addr → Prop
  | [], F => F = []
  | (o, x) :: cs, F => ∃ F1 F2, RO K h H o x F1 ∧ RC K h H cs F2 ∧ F = F1 ++ F2
def hid (F : List Addr) (H : Hp) : Hp := fun b => if b ∈ F then none else H b
/-- B: hidden addresses (the callers' own); H0, F0: the heap and the owned addresses at the entry -/
structure Cc where
  B : List Addr
  H0 : Hp
  F0 : List Addr
structure RelAt (K : PySem.W.Frag) (c : Cc) (F : List Addr) (cs : Cells) (H : Hp) : Prop where
  rc : RC K (hid (F ++ c.B) H) H cs F
  nd : F.Nodup
  dj : ∀ a ∈ F, a ∉ c.B
  bt : ∀ b ∈ c.B, (∃ o, c.H0 b = some o) ∧ b ∉ c.F0
  fr : ∀ b o, c.H0 b = some o → b ∉ c.F0 → H b = some o
  ow : ∀ a ∈ F, a ∈ c.F0 ∨ c.H0 a = none
def Rel (K : PySem.W.Frag) (c : Cc) (cs : Cells) (H : Hp) : Prop := ∃ F, RelAt K c F cs H

theorem hid_in {F : List Addr} {H : Hp} {b : Addr} (h : b ∈ F) : hid F H b = none := if_pos h
theorem hid_out {F : List Addr} {H : Hp} {b : Addr} (h : b ∉ F) : hid F H b = H b := if_neg h
theorem hid_some {F : List Addr} {H : Hp} {b : Addr} {o : HO} (h : hid F H b = some o) : b ∉ F ∧ H b = some o := by
  by_cases hb : b ∈ F
  · rw [hid_in hb] at h; cases h
  · exact ⟨hb, by rw [hid_out hb] at h; exact h⟩
theorem hid_of {F : List Addr} {H : Hp} {b : Addr} {o : HO} (h1 : b ∉ F) (h : H b = some o) : hid F H b = some o := by rw [hid_out h1]; exact h
theorem hid_same {F : List Addr} {H : Hp} : Same (hid F H) H := fun b o e => (hid_some e).2
theorem hid_congr {F G : List Addr} {H : Hp} (h : ∀ b, b ∈ F ↔ b ∈ G) : hid F H = hid G H := by
  funext b
  by_cases hb : b ∈ F
  · rw [hid_in hb, hid_in ((h b).mp hb)]
  · rw [hid_out hb, hid_out fun z => hb ((h b).mpr z)]
theorem hid_less {F G : List Addr} {H : Hp} (h : ∀ b, b ∈ G → b ∈ F) : Same (hid F H) (hid G H) := fun b o e => by
  obtain ⟨h1, h2⟩ := hid_some e
  exact hid_of (fun z => h1 (h b z)) h2

section
variable {K : PySem.W.Frag} {h h' H H' : Hp} {c : Cc}
theorem RO.mono (e : Same h h') : ∀ {o : O} {x : Option V} {F : List Addr}, RO K h H o x F → (∀ a ∈ F, H' a = H a) → RO K h' H' o x F
  | .n, _, _, r, _ => r
  | .v _, _, _, ⟨e1, y, e2, e3⟩, _ => ⟨e1, y, e2, e3.mono e⟩
  | .l _, _, _, ⟨a, xs, e1, e2, e3, e4⟩, k => ⟨a, xs, e1, (k a (by rw [e4]; exact List.mem_singleton.mpr rfl)).trans e2, e3.mono e, e4⟩
theorem RC.mono (e : Same h h') : ∀ {cs : Cells} {F : List Addr}, RC K h H cs F → (∀ a ∈ F, H' a = H a) → RC K h' H' cs F
  | [], _, r, _ => r
  | (o, x) :: cs, F, ⟨F1, F2, r1, r2, e1⟩, k => ⟨F1, F2, r1.mono e fun a ha => k a (by rw [e1]; exact List.mem_append_left _ ha), RC.mono e r2 fun a ha => k a (by rw [e1]; exact List.mem_append_right _ ha), e1⟩
theorem RC.append : ∀ {cs ds : Cells} {F G : List Addr}, RC K h H cs F → RC K h H ds G → RC K h H (cs ++ ds) (F ++ G)
  | [], _, _, _, r, s => by cases r; exact s
  | (o, x) :: cs, _, _, _, ⟨F1, F2, r1, r2, e1⟩, s => ⟨F1, _, r1, RC.append r2 s, by rw [e1, List.append_assoc]⟩
theorem RC.split : ∀ {cs ds : Cells} {F : List Addr}, RC K h H (cs ++ ds) F → ∃ F1 F2, RC K h H cs F1 ∧ RC K h H ds F2 ∧ F = F1 ++ F2
  | [], _, F, r => ⟨[], F, rfl, r, rfl⟩
  | (o, x) :: cs, ds, F, ⟨F1, F2, r1, r2, e1⟩ => by
    obtain ⟨G1, G2, s1, s2, e2⟩ := RC.split (cs := cs) r2
    exact ⟨F1 ++ G1, G2, ⟨F1, G1, r1, s1, rfl⟩, s2, by rw [e1, e2, List.append_assoc]⟩
theorem RC.perm {cs cs' : Cells} (p : cs.Perm cs') : ∀ {F : List Addr}, RC K h H cs F → ∃ F', RC K h H cs' F' ∧ F.Perm F' := by
  induction p with
  | nil => exact fun {F} r => ⟨F, r, .refl _⟩
  | cons x _ ih =>
    obtain ⟨o, x⟩ := x
    rintro F ⟨F1, F2, r1, r2, rfl⟩
    obtain ⟨G, s, q⟩ := ih r2
    exact ⟨F1 ++ G, ⟨F1, G, r1, s, rfl⟩, List.Perm.append_left _ q⟩
  | swap x y l =>
    obtain ⟨o, x⟩ := x
    obtain ⟨o', y⟩ := y
    rintro F ⟨F1, _, r1, ⟨F2, F3, r2, r3, rfl⟩, rfl⟩
    refine ⟨F2 ++ (F1 ++ F3), ⟨F2, _, r2, ⟨F1, F3, r1, r3, rfl⟩, rfl⟩, ?_⟩
    rw [← List.append_assoc, ← List.append_assoc]
    exact List.Perm.append_right _ List.perm_append_comm
  | trans _ _ ih1 ih2 =>
    intro F r
    obtain ⟨G, s, q⟩ := ih1 r
    obtain ⟨G', s', q'⟩ := ih2 s
    exact ⟨G', s', q.trans q'⟩
/-- what a cell owns is tracked -/
theorem RO.trk : ∀ {o : O} {x : Option V} {F : List Addr}, RO K h H o x F → ∀ a ∈ F, ∃ u, H a = some u
  | .n, _, _, r, a, ha => by rw [show _ = [] from r] at ha; cases ha
  | .v _, _, _, ⟨e1, _⟩, a, ha => by rw [e1] at ha; cases ha
  | .l _, _, _, ⟨b, xs, _, e2, _, e4⟩, a, ha => by
    rw [e4] at ha
    rw [List.mem_singleton.mp ha]
    exact ⟨_, e2⟩
theorem RC.trk : ∀ {cs : Cells} {F : List Addr}, RC K h H cs F → ∀ a ∈ F, ∃ u, H a = some u
  | [], _, r, a, ha => by rw [show _ = [] from r] at ha; cases ha
  | (o, x) :: cs, F, ⟨F1, F2, r1, r2, e1⟩, a, ha => by
    rw [e1] at ha
    rcases List.mem_append.mp ha with z | z
    · exact r1.trk a z
    · exact RC.trk r2 a z

theorem Rel.perm {cs cs' : Cells} (p : cs.Perm cs') (r : Rel K c cs H) : Rel K c cs' H := by
  obtain ⟨F, r⟩ := r
  obtain ⟨F', s, q⟩ := r.rc.perm p
  have m : ∀ b, b ∈ F ↔ b ∈ F' := fun b => q.mem_iff
  have e : hid (F ++ c.B) H = hid (F' ++ c.B) H := hid_congr fun b => by rw [List.mem_append, List.mem_append, m b]
  exact ⟨F', by rw [← e]; exact s, q.nodup_iff.mp r.nd, fun a ha => r.dj a ((m a).mpr ha), r.bt, r.fr, fun a ha => r.ow a ((m a).mpr ha)⟩
/-- some cells forgotten -/
theorem Rel.drops {cs ds : Cells} (r : Rel K c (cs ++ ds) H) : Rel K c ds H := by
  obtain ⟨F, r⟩ := r
  obtain ⟨F1, F2, s1, s2, rfl⟩ := r.rc.split
  refine ⟨F2, s2.mono (hid_less fun b hb => ?_) fun _ _ => rfl, (List.nodup_append.mp r.nd).2.1, fun a ha => r.dj a (List.mem_append_right _ ha), r.bt, r.fr, fun a ha => r.ow a (List.mem_append_right _ ha)⟩
  rcases List.mem_append.mp hb with z | z
  · exact List.mem_append_left _ (List.mem_append_right _ z)
  · exact List.mem_append_right _ z
theorem Rel.drop {p : O × Option V} {ds : Cells} (r : Rel K c (p :: ds) H) : Rel K c ds H := Rel.drops (cs := [p]) r
/-- cells in the middle forgotten -/
theorem Rel.mid {cs ds es : Cells} (r : Rel K c (cs ++ (ds ++ es)) H) : Rel K c (cs ++ es) H := by
  refine Rel.drops (cs := ds) (r.perm ?_)
  rw [← List.append_assoc, ← List.append_assoc]
  exact List.Perm.append_right _ List.perm_append_comm
theorem Rel.mid1 {p : O × Option V} {ds es : Cells} (r : Rel K c (p :: (ds ++ es)) H) : Rel K c (p :: es) H := Rel.mid (cs := [p]) r
/-- a cell that owned a list lets it go: plain data -/
theorem Rel.rel {ds : List D} {x : Option V} {cs : Cells} (r : Rel K c ((.l ds, x) :: cs) H) : Rel K c ((.v (.lst ds), x) :: cs) H := by
  obtain ⟨F, r⟩ := r
  obtain ⟨F1, F2, ⟨a, xs, e1, e2, e3, e4⟩, s2, rfl⟩ := r.rc
  subst e4
  have nd := r.nd
  rw [List.singleton_append, List.nodup_cons] at nd
  have le : Same (hid ([a] ++ F2 ++ c.B) H) (hid (F2 ++ c.B) H) := hid_less fun b hb => by
    rcases List.mem_append.mp hb with z | z
    · exact List.mem_append_left _ (List.mem_append_right _ z)
    · exact List.mem_append_right _ z
  have ha : a ∉ F2 ++ c.B := fun z => by
    rcases List.mem_append.mp z with z | z
    · exact nd.1 z
    · exact r.dj a (by simp) z
  refine ⟨F2, ⟨[], F2, ⟨rfl, .ref a, e1, a, xs, rfl, hid_of ha e2, e3.mono le⟩, s2.mono le fun _ _ => rfl, rfl⟩, nd.2, fun b hb => r.dj b (List.mem_append_right _ hb), r.bt, r.fr, fun b hb => r.ow b (List.mem_append_right _ hb)⟩
theorem RC.mem : ∀ {cs : Cells} {F : List Addr} {p : O × Option V}, RC K h H cs F → p ∈ cs → ∃ F1, RO K h H p.1 p.2 F1 ∧ ∀ a ∈ F1, a ∈ F
  | [], _, _, _, hp => by cases hp
  | (o, x) :: cs, F, p, ⟨F1, F2, r1, r2, e1⟩, hp => by
    rcases List.mem_cons.mp hp with z | z
    · subst z
      exact ⟨F1, r1, fun a ha => by rw [e1]; exact List.mem_append_left _ ha⟩
    · obtain ⟨G, s, q⟩ := RC.mem r2 z
      exact ⟨G, s, fun a ha => by rw [e1]; exact List.mem_append_right _ (q a ha)⟩
/-- plain data once more -/
theorem Rel.dup {d : D} {x : Option V} {cs : Cells} (r : Rel K c cs H) (hm : (O.v d, x) ∈ cs) : Rel K c ((.v d, x) :: cs) H := by
  obtain ⟨F, r⟩ := r
  obtain ⟨F1, ⟨e1, e2⟩, _⟩ := r.rc.mem hm
  exact ⟨F, ⟨[], F, ⟨rfl, e2⟩, r.rc, rfl⟩, r.nd, r.dj, r.bt, r.fr, r.ow⟩
/-- a cell of which nothing is known -/
theorem Rel.non {x : Option V} {cs : Cells} (r : Rel K c cs H) : Rel K c ((.n, x) :: cs) H := by
  obtain ⟨F, r⟩ := r
  exact ⟨F, ⟨[], F, rfl, r.rc, rfl⟩, r.nd, r.dj, r.bt, r.fr, r.ow⟩
/-- plain data that holds over any heap's visible part -/
theorem RelAt.add {F : List Addr} {d : D} {x : V} {cs : Cells} (r : RelAt K c F cs H) (q : Rep K (hid (F ++ c.B) H) d x) : Rel K c ((.v d, some x) :: cs) H :=
  ⟨F, ⟨[], F, ⟨rfl, x, rfl, q⟩, r.rc, rfl⟩, r.nd, r.dj, r.bt, r.fr, r.ow⟩

/-! ### what an operand shows -/
def Vw (K : PySem.W.Frag) (h H : Hp) (d : D) (x : V) : Prop := Rep K h d x ∨ ∃ ds a xs, d = .lst ds ∧ x = .ref a ∧ H a = some (.lst xs) ∧ Reps K h ds xs
def er : O → Option D
  | .v d => some d
  | .l ds => some (.lst ds)
  | .n => none
theorem RelAt.vw {F : List Addr} {cs : Cells} {o : O} {x : V} {d : D} (r : RelAt K c F cs H) (hm : (o, some x) ∈ cs) (e : er o = some d) : Vw K (hid (F ++ c.B) H) H d x := by
  obtain ⟨F1, q, _⟩ := r.rc.mem hm
  cases o with
  | n => cases e
  | v d' =>
    cases e
    obtain ⟨_, y, e1, e2⟩ := q
    cases e1
    exact .inl e2
  | l ds =>
    cases e
    obtain ⟨a, xs, e1, e2, e3, _⟩ := q
    cases e1
    exact .inr ⟨ds, a, xs, rfl, rfl, e2, e3⟩
/-- a result by values: plain; a new list; a new tuple -/
inductive Res where
  | s (d : D) | nl (ds : List D) | nt (ds : List D)
def Res.o : Res → O
  | .s d => .v d
  | .nl ds => .l ds
  | .nt ds => .v (.tup ds)
def ResAt (K : PySem.W.Frag) (h H : Hp) : Res → V → Hp → Prop
  | .s d, z, H' => H' = H ∧ Rep K h d z
  | .nl ds, z, H' => ∃ p xs, z = .ref p ∧ H p = none ∧ H' = upd H p (.lst xs) ∧ Reps K h ds xs
  | .nt ds, z, H' => ∃ p xs, z = .ref p ∧ H p = none ∧ H' = upd H p (.tup xs) ∧ Reps K h ds xs
theorem same_new {H : Hp} {p : Addr} {o : HO} (h : H p = none) : Same H (upd H p o) := fun b x e => by
  rw [upd_ne (ne_of_none e h)]
  exact e
theorem RelAt.notin {F : List Addr} {cs : Cells} {p : Addr} (r : RelAt K c F cs H) (hp : H p = none) : p ∉ F ++ c.B := fun z => by
  rcases List.mem_append.mp z with z | z
  · obtain ⟨u, e⟩ := r.rc.trk p z
    rw [hp] at e; cases e
  · obtain ⟨⟨o, e⟩, hf⟩ := r.bt p z
    rw [r.fr p o e hf] at hp; cases hp
theorem RelAt.h0 {F : List Addr} {cs : Cells} {p : Addr} (r : RelAt K c F cs H) (hp : H p = none) : p ∈ c.F0 ∨ c.H0 p = none := by
  by_cases hf : p ∈ c.F0
  · exact .inl hf
  · refine .inr ?_
    cases e : c.H0 p with
    | none => rfl
    | some o => rw [r.fr p o e hf] at hp; cases hp
/-- a new list at p, owned -/
theorem RelAt.newL {F : List Addr} {cs : Cells} {p : Addr} {ds : List D} {xs : List V} (r : RelAt K c F cs H) (hp : H p = none) (q : Reps K (hid (F ++ c.B) H) ds xs) : Rel K c ((.l ds, some (.ref p)) :: cs) (upd H p (.lst xs)) := by
  have np := r.notin hp
  have e : hid (p :: F ++ c.B) (upd H p (.lst xs)) = hid (F ++ c.B) H := by
    funext b
    by_cases hb : b = p
    · subst hb
      rw [hid_in (by simp), hid_out np, hp]
    · by_cases hF : b ∈ F ++ c.B
      · rw [hid_in hF, hid_in (by rw [List.cons_append]; exact List.mem_cons_of_mem _ hF)]
      · rw [hid_out hF, hid_out (by rw [List.cons_append]; intro z; rcases List.mem_cons.mp z with z | z; exact hb z; exact hF z), upd_ne hb]
  refine ⟨p :: F, ⟨[p], F, ⟨p, xs, rfl, upd_same, by rw [e]; exact q, rfl⟩, by rw [e]; exact r.rc.mono (fun _ _ z => z) fun a ha => upd_ne fun z => np (by rw [← z]; exact List.mem_append_left _ ha), rfl⟩, List.nodup_cons.mpr ⟨fun z => np (List.mem_append_left _ z), r.nd⟩, fun a ha => ?_, r.bt, fun b o e1 e2 => ?_, fun a ha => ?_⟩
  · rcases List.mem_cons.mp ha with z | z
    · rw [z]; exact fun w => np (List.mem_append_right _ w)
    · exact r.dj a z
  · have q1 := r.fr b o e1 e2
    rw [upd_ne (ne_of_none q1 hp)]
    exact q1
  · rcases List.mem_cons.mp ha with z | z
    · rw [z]; exact r.h0 hp
    · exact r.ow a z
/-- a new object at p that is plain (a tuple) -/
theorem RelAt.newH {F : List Addr} {cs : Cells} {p : Addr} {o : HO} (r : RelAt K c F cs H) (hp : H p = none) : RelAt K c F cs (upd H p o) ∧ Same (hid (F ++ c.B) H) (hid (F ++ c.B) (upd H p o)) ∧ hid (F ++ c.B) (upd H p o) p = some o := by
  have np := r.notin hp
  have e : Same (hid (F ++ c.B) H) (hid (F ++ c.B) (upd H p o)) := fun b u z => by
    obtain ⟨z1, z2⟩ := hid_some z
    exact hid_of z1 (same_new hp b u z2)
  refine ⟨⟨r.rc.mono e fun a ha => upd_ne fun z => np (by rw [← z]; exact List.mem_append_left _ ha), r.nd, r.dj, r.bt, fun b u e1 e2 => same_new hp b u (r.fr b u e1 e2), r.ow⟩, e, ?_⟩
  rw [hid_out np, upd_same]
theorem RelAt.res {F : List Addr} {cs : Cells} {res : Res} {z : V} {H' : Hp} (r : RelAt K c F cs H) (q : ResAt K (hid (F ++ c.B) H) H res z H') : Rel K c ((res.o, some z) :: cs) H' := by
  cases res with
  | s d =>
    obtain ⟨rfl, q⟩ := q
    exact r.add q
  | nl ds =>
    obtain ⟨p, xs, rfl, hp, rfl, q⟩ := q
    exact r.newL hp q
  | nt ds =>
    obtain ⟨p, xs, rfl, hp, rfl, q⟩ := q
    obtain ⟨r', e, e2⟩ := r.newH (o := .tup xs) hp
    exact r'.add ⟨p, xs, rfl, .inl (.inl e2), q.mono e⟩
/-- an owned list is changed -/
theorem RelAt.mut {F : List Addr} {cs : Cells} {ds ds' : List D} {a : Addr} {xs' : List V} (r : RelAt K c F ((.l ds, some (.ref a)) :: cs) H) (q : Reps K (hid (F ++ c.B) H) ds' xs') :
    Rel K c ((.l ds', some (.ref a)) :: cs) (upd H a (.lst xs')) := by
  obtain ⟨F1, F2, ⟨a', xs, e1, e2, e3, e4⟩, s2, rfl⟩ := r.rc
  cases e1
  subst e4
  have nd := r.nd
  rw [List.singleton_append, List.nodup_cons] at nd
  have e : hid ([a] ++ F2 ++ c.B) (upd H a (.lst xs')) = hid ([a] ++ F2 ++ c.B) H := by
    funext b
    by_cases hb : b ∈ [a] ++ F2 ++ c.B
    · rw [hid_in hb, hid_in hb]
    · rw [hid_out hb, hid_out hb, upd_ne fun z => hb (by rw [z]; simp)]
  refine ⟨[a] ++ F2, ⟨[a], F2, ⟨a, xs', rfl, upd_same, by rw [e]; exact q, rfl⟩, by rw [e]; exact s2.mono (fun _ _ z => z) fun b hb => upd_ne fun z => nd.1 (by rw [← z]; exact hb), rfl⟩, r.nd, r.dj, r.bt, fun b o e1 e5 => ?_, r.ow⟩
  have na : b ≠ a := fun z => by
    subst z
    rcases r.ow b (by simp) with w | w
    · exact e5 w
    · rw [e1] at w; cases w
  rw [upd_ne na]
  exact r.fr b o e1 e5
theorem Rel.ref {cs : Cells} {ds : List D} {x : Option V} (r : Rel K c ((.l ds, x) :: cs) H) : ∃ a xs, x = some (.ref a) ∧ H a = some (.lst xs) ∧ ds.length = xs.length := by
  obtain ⟨F, r⟩ := r
  obtain ⟨F1, F2, ⟨a, xs, e1, e2, e3, e4⟩, s2, rfl⟩ := r.rc
  exact ⟨a, xs, e1, e2, e3.length⟩

/-! ### a call -/
theorem Rel.enter {F1 F2 : List Addr} {ps cs : Cells} (r : RelAt K c (F1 ++ F2) (ps ++ cs) H) (s1 : RC K (hid (F1 ++ F2 ++ c.B) H) H ps F1) : RelAt K ⟨F2 ++ c.B, H, F1⟩ F1 ps H where
  rc := by rw [← List.append_assoc]; exact s1
  nd := (List.nodup_append.mp r.nd).1
  dj := fun a ha z => by
    rcases List.mem_append.mp z with z | z
    · exact (List.nodup_append.mp r.nd).2.2 a ha a z rfl
    · exact r.dj a (List.mem_append_left _ ha) z
  bt := fun b hb => by
    have nb : b ∉ F1 := fun z => by
      rcases List.mem_append.mp hb with w | w
      · exact (List.nodup_append.mp r.nd).2.2 b z b w rfl
      · exact r.dj b (List.mem_append_left _ z) w
    refine ⟨?_, nb⟩
    rcases List.mem_append.mp hb with z | z
    · exact r.rc.trk b (List.mem_append_right _ z)
    · obtain ⟨⟨o, e⟩, hf⟩ := r.bt b z
      exact ⟨o, r.fr b o e hf⟩
  fr := fun b o e _ => e
  ow := fun a ha => .inl ha
theorem Rel.leave {F1 F2 : List Addr} {ps cs qs : Cells} {H' : Hp} (r : RelAt K c (F1 ++ F2) (ps ++ cs) H) (s2 : RC K (hid (F1 ++ F2 ++ c.B) H) H cs F2) (r' : Rel K ⟨F2 ++ c.B, H, F1⟩ qs H') : Rel K c (qs ++ cs) H' := by
  obtain ⟨G, r'⟩ := r'
  have hf : ∀ b o, H b = some o → b ∉ F1 → H' b = some o := r'.fr
  have n12 := (List.nodup_append.mp r.nd)
  have gout : ∀ b o, H b = some o → b ∉ F1 → b ∉ G := fun b o e n z => by
    rcases r'.ow b z with w | w
    · exact n w
    · rw [show H b = none from w] at e; cases e
  have e1 : hid (G ++ F2 ++ c.B) H' = hid (G ++ (F2 ++ c.B)) H' := by rw [List.append_assoc]
  have le : Same (hid (F1 ++ F2 ++ c.B) H) (hid (G ++ F2 ++ c.B) H') := fun b o e => by
    obtain ⟨z1, z2⟩ := hid_some e
    have n1 : b ∉ F1 := fun z => z1 (by simp [z])
    refine hid_of (fun z => ?_) (hf b o z2 n1)
    rcases List.mem_append.mp z with z | z
    · rcases List.mem_append.mp z with z | z
      · exact gout b o z2 n1 z
      · exact z1 (by simp [z])
    · exact z1 (by simp [z])
  refine ⟨G ++ F2, RC.append (by rw [e1]; exact r'.rc) (s2.mono le fun a ha => ?_), ?_, fun a ha => ?_, r.bt, fun b o e n => ?_, fun a ha => ?_⟩
  · obtain ⟨u, e⟩ := s2.trk a ha
    rw [e]
    exact hf a u e fun z => n12.2.2 a z a ha rfl
  · refine List.nodup_append.mpr ⟨r'.nd, n12.2.1, fun a ha b hb e => ?_⟩
    subst e
    exact r'.dj a ha (List.mem_append_left _ hb)
  · rcases List.mem_append.mp ha with z | z
    · exact fun w => r'.dj a z (List.mem_append_right _ w)
    · exact r.dj a (List.mem_append_right _ z)
  · refine hf b o (r.fr b o e n) fun z => ?_
    rcases r.ow b (List.mem_append_left _ z) with w | w
    · exact n w
    · rw [e] at w; cases w
  · rcases List.mem_append.mp ha with z | z
    · rcases r'.ow a z with w | w
      · exact r.ow a (List.mem_append_left _ w)
      · exact r.h0 w
    · exact r.ow a (List.mem_append_right _ z)
end
end Mr

set_option Elab.async false
set_option linter.all false
set_option maxRecDepth 100000
set_option maxHeartbeats 4000000
/-! MrB: expressions, operands, argument lists, calls: readings against mirrors. -/
namespace Mr
open PySem PySem.Spec PyProof.Rows L2

/-! ### the slots -/
section
variable {K : PySem.W.Frag} {c : Cc} {H : Hp} {τ : Cells} {ρ : List O} {σ : L2.St}
theorem zip_perm : ∀ {ρ : List O} {σ : List (Option V)} {i : Nat} {o : O} {x : Option V}, ρ[i]? = some o → σ[i]? = some x → (ρ.zip σ).Perm ((o, x) :: (ρ.eraseIdx i).zip (σ.eraseIdx i))
  | [], _, _, _, _, h, _ => by simp at h
  | _ :: _, [], _, _, _, _, h => by simp at h
  | a :: ρ, b :: σ, 0, o, x, h1, h2 => by
    have e1 : a = o := Option.some.inj h1
    have e2 : b = x := Option.some.inj h2
    subst e1; subst e2
    exact .refl _
  | a :: ρ, b :: σ, i + 1, o, x, h1, h2 => by
    have q := zip_perm (i := i) (ρ := ρ) (σ := σ) (by simpa using h1) (by simpa using h2)
    show ((a, b) :: ρ.zip σ).Perm ((o, x) :: (a, b) :: (ρ.eraseIdx i).zip (σ.eraseIdx i))
    exact (List.Perm.cons _ q).trans (.swap _ _ _)
theorem Rel.take {i : Nat} {o : O} {x : Option V} (r : Rel K c (τ ++ ρ.zip σ) H) (h1 : ρ[i]? = some o) (h2 : σ[i]? = some x) : Rel K c ((o, x) :: (τ ++ (ρ.set i .n).zip σ)) H := by
  have hi : i < ρ.length := (List.getElem?_eq_some_iff.mp h1).1
  have a : Rel K c ((o, x) :: (τ ++ (ρ.eraseIdx i).zip (σ.eraseIdx i))) H := r.perm ((List.Perm.append_left τ (zip_perm h1 h2)).trans List.perm_middle)
  have p2 := zip_perm (ρ := ρ.set i .n) (σ := σ) (i := i) (o := .n) (x := x) (List.getElem?_set_self hi) h2
  rw [List.eraseIdx_set_eq] at p2
  refine (a.non (x := x)).perm ?_
  refine (List.Perm.swap _ _ _).trans (.cons _ ?_)
  exact (List.perm_middle.symm).trans (List.Perm.append_left τ p2.symm)
theorem Rel.put {i : Nat} {o : O} {x : Option V} (r : Rel K c ((o, x) :: (τ ++ ρ.zip σ)) H) (hl : ρ.length = σ.length) (h2 : σ[i]? = some x) : Rel K c (τ ++ (ρ.set i o).zip σ) H := by
  have hi : i < ρ.length := by rw [hl]; exact (List.getElem?_eq_some_iff.mp h2).1
  obtain ⟨o1, h1⟩ : ∃ o1, ρ[i]? = some o1 := ⟨ρ[i], List.getElem?_eq_getElem hi⟩
  have p1 := zip_perm h1 h2
  have p2 := zip_perm (ρ := ρ.set i o) (σ := σ) (i := i) (o := o) (x := x) (List.getElem?_set_self hi) h2
  rw [List.eraseIdx_set_eq] at p2
  have a : Rel K c ((o, x) :: (τ ++ (ρ.eraseIdx i).zip (σ.eraseIdx i))) H := by
    have r1 : Rel K c ((o, x) :: (τ ++ (o1, x) :: (ρ.eraseIdx i).zip (σ.eraseIdx i))) H := r.perm (.cons _ (List.Perm.append_left τ p1))
    have r2 : Rel K c ((o1, x) :: (o, x) :: (τ ++ (ρ.eraseIdx i).zip (σ.eraseIdx i))) H := r1.perm ((List.Perm.cons _ List.perm_middle).trans (.swap _ _ _))
    exact r2.drop
  exact a.perm ((List.perm_middle.symm).trans (List.Perm.append_left τ p2.symm))
/-- a value stored in a slot -/
theorem Rel.store {i : Nat} {o : O} {x : Option V} (r : Rel K c ((o, x) :: (τ ++ ρ.zip σ)) H) (hl : ρ.length = σ.length) (hi : i < σ.length) : Rel K c (τ ++ (ρ.set i o).zip (σ.set i x)) H := by
  have hi' : i < ρ.length := by rw [hl]; exact hi
  have p1 := zip_perm (ρ := ρ) (σ := σ) (i := i) (List.getElem?_eq_getElem hi') (List.getElem?_eq_getElem hi)
  have p2 := zip_perm (ρ := ρ.set i o) (σ := σ.set i x) (i := i) (o := o) (x := x) (List.getElem?_set_self hi') (List.getElem?_set_self hi)
  rw [List.eraseIdx_set_eq, List.eraseIdx_set_eq] at p2
  have a : Rel K c ((o, x) :: (τ ++ (ρ.eraseIdx i).zip (σ.eraseIdx i))) H := by
    have r1 := r.perm (List.Perm.cons (o, x) (List.Perm.append_left τ p1))
    exact (r1.perm ((List.Perm.cons _ List.perm_middle).trans (.swap _ _ _))).drop
  exact a.perm ((List.perm_middle.symm).trans (List.Perm.append_left τ p2.symm))
theorem mem_zip {i : Nat} {o : O} {x : Option V} (h1 : ρ[i]? = some o) (h2 : σ[i]? = some x) : (o, x) ∈ ρ.zip σ := (zip_perm h1 h2).mem_iff.mpr List.mem_cons_self
theorem slot_of {i : Nat} {o : O} (hl : ρ.length = σ.length) (h1 : ρ[i]? = some o) : ∃ x, σ[i]? = some x := by
  have hi : i < σ.length := by rw [← hl]; exact (List.getElem?_eq_some_iff.mp h1).1
  exact ⟨σ[i], List.getElem?_eq_getElem hi⟩
/-- the value of a plain cell -/
theorem Rel.val {d : D} {x : Option V} {cs : Cells} (r : Rel K c cs H) (h : (O.v d, x) ∈ cs) : ∃ F y, RelAt K c F cs H ∧ x = some y ∧ Rep K (hid (F ++ c.B) H) d y := by
  obtain ⟨F, r⟩ := r
  obtain ⟨F1, ⟨_, y, e, q⟩, _⟩ := r.rc.mem h
  exact ⟨F, y, r, e, q⟩
theorem Rel.valL {ds : List D} {x : Option V} {cs : Cells} (r : Rel K c cs H) (h : (O.l ds, x) ∈ cs) : ∃ F a xs, RelAt K c F cs H ∧ x = some (.ref a) ∧ H a = some (.lst xs) ∧ Reps K (hid (F ++ c.B) H) ds xs := by
  obtain ⟨F, r⟩ := r
  obtain ⟨F1, ⟨a, xs, e, e2, q, _⟩, _⟩ := r.rc.mem h
  exact ⟨F, a, xs, r, e, e2, q⟩
end

/-! ### contexts -/
structure Cd where
  P : Program
  w : World
  K : PySem.W.Frag
  mg : Str → Option Value
  base : Heap
  k : Nat
/-- a block's names: as they are looked up; as they were written (a comprehension's captured names differ) -/
structure Sk where
  sc : Scope
  as : Scope
/-- a context of a def's body, or of a block in it -/
structure Gd (C : Cd) (N : List Str) (sc : Sk) (X : Cx) : Prop where
  prog : X.prog = C.P
  w : X.w = C.w
  K : X.K = C.K
  mg : X.mg = C.mg
  base : X.base = C.base
  N : X.N = N
  calm : X.calm = true
  room : Room C.k X.A
  scp : X.env.scope = sc.sc
  fn : ∀ x, sc.as.names.lookup x = some .cell → X.fn x = true
def okName (x : Str) : Bool := !decide (x = ("__debug__" : Str)) && !decide (x = ("__classdict__" : Str)) && !decide (x = ("__name__" : Str))
def visB (N : List Str) (sc : Sk) (i : Nat) (x : Str) : Bool := decide (N[i]? = some x) && okName x && match sc.sc.names.lookup x with
  | some .local => true
  | some .cell => true
  | some .free => true
  | _ => false
def locB (N : List Str) (sc : Sk) (i : Nat) (x : Str) : Bool := decide (N[i]? = some x) && okName x && match sc.as.names.lookup x, sc.sc.names.lookup x with
  | some .local, some .local => true
  | some .cell, some .cell => true
  | _, _ => false
def gloB (sc : Sk) (x : Str) : Bool := okName x && match sc.sc.names.lookup x with
  | some .globalImplicit => true
  | _ => false
theorem okName_d {x : Str} (h : okName x = true) : (x == ("__debug__" : Str)) = false ∧ (x == ("__classdict__" : Str)) = false ∧ x ≠ ("__name__" : Str) := by
  unfold okName at h
  simp only [Bool.and_eq_true, Bool.not_eq_true', decide_eq_false_iff_not] at h
  exact ⟨beq_eq_false_iff_ne.mpr h.1.1, beq_eq_false_iff_ne.mpr h.1.2, h.2⟩
theorem visB_ok {N : List Str} {sc : Sk} {i : Nat} {x : Str} (h : visB N sc i x = true) : N[i]? = some x ∧ Vis sc.sc x ∧ okName x = true := by
  unfold visB at h
  simp only [Bool.and_eq_true, decide_eq_true_eq] at h
  obtain ⟨⟨h1, h2⟩, h3⟩ := h
  refine ⟨h1, ?_, h2⟩
  split at h3
  · exact .inl (by assumption)
  · exact .inr (.inl (by assumption))
  · exact .inr (.inr (by assumption))
  · cases h3
theorem locB_ok {N : List Str} {sc : Sk} {i : Nat} {x : Str} (h : locB N sc i x = true) : N[i]? = some x ∧ (sc.sc.names.lookup x = some .local ∨ (sc.sc.names.lookup x = some .cell ∧ sc.as.names.lookup x = some .cell)) ∧ okName x = true := by
  unfold locB at h
  simp only [Bool.and_eq_true, decide_eq_true_eq] at h
  obtain ⟨⟨h1, h2⟩, h3⟩ := h
  refine ⟨h1, ?_, h2⟩
  split at h3
  · exact .inl (by assumption)
  · exact .inr ⟨by assumption, by assumption⟩
  · cases h3
theorem gloB_ok {sc : Sk} {x : Str} (h : gloB sc x = true) : sc.sc.names.lookup x = some .globalImplicit ∧ okName x = true := by
  unfold gloB at h
  simp only [Bool.and_eq_true] at h
  obtain ⟨h2, h3⟩ := h
  refine ⟨?_, h2⟩
  split at h3
  · assumption
  · cases h3
section
variable {C : Cd} {N : List Str} {sc : Sk} {X : Cx}
theorem Gd.vis (g : Gd C N sc X) {i : Nat} {x : Str} (h : visB N sc i x = true) : X.N[i]? = some x ∧ Vis X.env.scope x := by
  obtain ⟨h1, h2, _⟩ := visB_ok h
  rw [g.N, g.scp]
  exact ⟨h1, h2⟩
theorem Gd.loc (g : Gd C N sc X) {i : Nat} {x : Str} (h : locB N sc i x = true) : X.N[i]? = some x ∧ Loc X.env.scope x ∧ (X.fn x = true ∨ X.env.scope.names.lookup x = some .local) := by
  obtain ⟨h1, h2, _⟩ := locB_ok h
  rw [g.N, g.scp]
  rcases h2 with h2 | ⟨h2, h3⟩
  · exact ⟨h1, .inl h2, .inr h2⟩
  · exact ⟨h1, .inr h2, .inl (g.fn x h3)⟩
theorem Gd.gl (g : Gd C N sc X) {x : Str} (h : gloB sc x = true) : Gl X x := by
  show X.env.scope.names.lookup x = _
  rw [g.scp]
  exact (gloB_ok h).1
end

/-! ### expressions -/
abbrev ME := List O → Option (O × List O)
def Rf (K : PySem.W.Frag) (t : TE) (m : ME) : Prop := ∀ (c : Cc) (τ : Cells) (ρ : List O) (σ : L2.St) (H : Hp) (Q : VK) (o : O) (ρ' : List O), ρ.length = σ.length → Rel K c (τ ++ ρ.zip σ) H → m ρ = some (o, ρ') →
  (∀ x H', ρ'.length = σ.length → Rel K c ((o, some x) :: (τ ++ ρ'.zip σ)) H' → Q x H') → t σ H Q
def RE (C : Cd) (N : List Str) (sc : Sk) (e : Expr) (m : ME) : Prop := ∃ t, (∀ X, Gd C N sc X → PE X e t) ∧ Rf C.K t m
/-- an operand: a name (its slot), or a value of its own -/
inductive Pr where
  | nm (i : Nat) | ex (o : O)
abbrev MP := List O → Option (Pr × List O)
def kap : Pr → V → Cells
  | .nm _, _ => []
  | .ex o, x => [(o, some x)]
def pval : Pr → L2.St → V → Prop
  | .nm i, σ, x => σ[i]? = some (some x)
  | .ex _, _, _ => True
def Rfp (K : PySem.W.Frag) (t : TE) (m : MP) : Prop := ∀ (c : Cc) (τ : Cells) (ρ : List O) (σ : L2.St) (H : Hp) (Q : VK) (p : Pr) (ρ' : List O), ρ.length = σ.length → Rel K c (τ ++ ρ.zip σ) H → m ρ = some (p, ρ') →
  (∀ x H', ρ'.length = σ.length → pval p σ x → Rel K c (kap p x ++ (τ ++ ρ'.zip σ)) H' → Q x H') → t σ H Q
def RP (C : Cd) (N : List Str) (sc : Sk) (e : Expr) (m : MP) : Prop := ∃ t, (∀ X, Gd C N sc X → PE X e t) ∧ Rfp C.K t m
def vw (ρ : List O) : Pr → Option D
  | .nm i => (ρ[i]?).bind er
  | .ex o => er o

/-- a name's value: an owned list is let go -/
def m_var (i : Nat) : ME := fun ρ => match ρ[i]? with
  | some (.v d) => some (.v d, ρ)
  | some (.l ds) => some (.v (.lst ds), ρ.set i (.v (.lst ds)))
  | _ => none
/-- .. moved out -/
def m_mv (i : Nat) : ME := fun ρ => match ρ[i]? with
  | some (.v d) => some (.v d, ρ)
  | some (.l ds) => some (.l ds, ρ.set i .n)
  | _ => none
def m_c (d : D) : ME := fun ρ => some (.v d, ρ)
def p_nm (i : Nat) : MP := fun ρ => match ρ[i]? with
  | some (.v _) => some (.nm i, ρ)
  | some (.l _) => some (.nm i, ρ)
  | _ => none
def p_ex (m : ME) : MP := fun ρ => (m ρ).map fun a => (.ex a.1, a.2)
section
variable {K : PySem.W.Frag}
theorem rf_var {i : Nat} : Rf K (tVar i) (m_var i) := by
  intro c τ ρ σ H Q o ρ' hl r e k
  unfold m_var at e
  cases h1 : ρ[i]? with
  | none => rw [h1] at e; cases e
  | some oi =>
    rw [h1] at e
    obtain ⟨x, h2⟩ := slot_of hl h1
    cases oi with
    | n => cases e
    | v d =>
      cases e
      have hm : (O.v d, x) ∈ τ ++ ρ.zip σ := List.mem_append_right _ (mem_zip h1 h2)
      obtain ⟨F, y, _, e1, _⟩ := r.val hm
      subst e1
      exact ⟨y, h2, k y H hl (r.dup hm)⟩
    | l ds =>
      cases e
      have r1 := (r.take h1 h2).rel
      have hm : (O.v (.lst ds), x) ∈ (O.v (.lst ds), x) :: (τ ++ (ρ.set i .n).zip σ) := List.mem_cons_self
      obtain ⟨F, y, _, e1, _⟩ := r1.val hm
      subst e1
      have r2 : Rel K c ((O.v (.lst ds), some y) :: (((O.v (.lst ds), some y) :: τ) ++ (ρ.set i .n).zip σ)) H := r1.dup hm
      have r3 := r2.put (i := i) (by rw [List.length_set]; exact hl) h2
      rw [List.set_set] at r3
      exact ⟨y, h2, k y H (by rw [List.length_set]; exact hl) r3⟩
theorem rf_mv {i : Nat} : Rf K (tVar i) (m_mv i) := by
  intro c τ ρ σ H Q o ρ' hl r e k
  unfold m_mv at e
  cases h1 : ρ[i]? with
  | none => rw [h1] at e; cases e
  | some oi =>
    rw [h1] at e
    obtain ⟨x, h2⟩ := slot_of hl h1
    cases oi with
    | n => cases e
    | v d =>
      cases e
      have hm : (O.v d, x) ∈ τ ++ ρ.zip σ := List.mem_append_right _ (mem_zip h1 h2)
      obtain ⟨F, y, _, e1, _⟩ := r.val hm
      subst e1
      exact ⟨y, h2, k y H hl (r.dup hm)⟩
    | l ds =>
      cases e
      have r1 := r.take h1 h2
      obtain ⟨a, xs, e1, _⟩ := r1.ref
      subst e1
      exact ⟨.ref a, h2, k _ H (by rw [List.length_set]; exact hl) r1⟩
theorem rf_c {v : V} {d : D} (h : ∀ h, Rep K h d v) : Rf K (tC v) (m_c d) := by
  intro c τ ρ σ H Q o ρ' hl r e k
  cases e
  obtain ⟨F, r⟩ := r
  exact k v H hl (r.add (h _))
theorem rfp_nm {i : Nat} : Rfp K (tVar i) (p_nm i) := by
  intro c τ ρ σ H Q p ρ' hl r e k
  unfold p_nm at e
  cases h1 : ρ[i]? with
  | none => rw [h1] at e; cases e
  | some oi =>
    rw [h1] at e
    obtain ⟨x, h2⟩ := slot_of hl h1
    cases oi with
    | n => cases e
    | v d =>
      cases e
      have hm : (O.v d, x) ∈ τ ++ ρ.zip σ := List.mem_append_right _ (mem_zip h1 h2)
      obtain ⟨F, y, _, e1, _⟩ := r.val hm
      subst e1
      exact ⟨y, h2, k y H hl h2 r⟩
    | l ds =>
      cases e
      have hm : (O.l ds, x) ∈ τ ++ ρ.zip σ := List.mem_append_right _ (mem_zip h1 h2)
      obtain ⟨F, a, xs, _, e1, _⟩ := r.valL hm
      subst e1
      exact ⟨.ref a, h2, k _ H hl h2 r⟩
theorem rfp_ex {t : TE} {m : ME} (h : Rf K t m) : Rfp K t (p_ex m) := by
  intro c τ ρ σ H Q p ρ' hl r e k
  unfold p_ex at e
  obtain ⟨⟨o, ρ1⟩, e1, e2⟩ := Option.map_eq_some_iff.mp e
  cases e2
  exact h c τ ρ σ H Q o _ hl r e1 fun x H' hl' r' => k x H' hl' True.intro r'
theorem vw_mem {ρ : List O} {σ : L2.St} {p : Pr} {d : D} {x : V} (e : vw ρ p = some d) (q : pval p σ x) : ∃ o, er o = some d ∧ ((o, some x) ∈ kap p x ∨ (o, some x) ∈ ρ.zip σ) := by
  cases p with
  | nm i =>
    obtain ⟨o, h1, h2⟩ := Option.bind_eq_some_iff.mp e
    exact ⟨o, h2, .inr (mem_zip h1 q)⟩
  | ex o => exact ⟨o, e, .inl (List.mem_singleton.mpr rfl)⟩
end
section
variable {C : Cd} {N : List Str} {sc : Sk} {pos : Pos}
theorem re_var (i : Nat) {x : Str} (h : visB N sc i x = true := by decide +kernel) : RE C N sc (.Name x pos) (m_var i) :=
  ⟨tVar i, fun X g => pe_var (g.vis h).1 (g.vis h).2 (okName_d (visB_ok h).2.2).1 (okName_d (visB_ok h).2.2).2.1, rf_var⟩
theorem re_mv (i : Nat) {x : Str} (h : visB N sc i x = true := by decide +kernel) : RE C N sc (.Name x pos) (m_mv i) :=
  ⟨tVar i, fun X g => pe_var (g.vis h).1 (g.vis h).2 (okName_d (visB_ok h).2.2).1 (okName_d (visB_ok h).2.2).2.1, rf_mv⟩
theorem rp_nm (i : Nat) {x : Str} (h : visB N sc i x = true := by decide +kernel) : RP C N sc (.Name x pos) (p_nm i) :=
  ⟨tVar i, fun X g => pe_var (g.vis h).1 (g.vis h).2 (okName_d (visB_ok h).2.2).1 (okName_d (visB_ok h).2.2).2.1, rfp_nm⟩
theorem rp_ex {e : Expr} {m : ME} (h : RE C N sc e m) : RP C N sc e (p_ex m) := let ⟨t, h1, h2⟩ := h; ⟨t, h1, rfp_ex h2⟩
theorem re_int {i : Int} {j} : RE C N sc (.Constant (.int i) j pos) (m_c (.int i)) := ⟨_, fun X g => pe_int, rf_c fun _ => rfl⟩
theorem re_bl {b : Bool} {j} : RE C N sc (.Constant (.bool b) j pos) (m_c (.bl b)) := ⟨_, fun X g => pe_bl, rf_c fun _ => rfl⟩
theorem re_non {j} : RE C N sc (.Constant .none j pos) (m_c .non) := ⟨_, fun X g => pe_non, rf_c fun _ => rfl⟩
theorem re_str {x : Str} {j} : RE C N sc (.Constant (.str x) j pos) (m_c (.str x)) := ⟨_, fun X g => pe_str, rf_c fun _ => rfl⟩
/-- a module's constant -/
theorem re_glob {x : Str} {v : V} {u : Value} {d : D} (hm : C.mg x = some u) (r : RelV v u) (hd : ∀ h, Rep C.K h d v) (h : gloB sc x = true := by decide +kernel) : RE C N sc (.Name x pos) (m_c d) :=
  ⟨tC v, fun X g => pe_glob (g.gl h) (by rw [g.mg]; exact hm) r (okName_d (gloB_ok h).2).1, rf_c hd⟩
theorem re_gstr {x s : Str} {t : Tok} (hm : C.mg x = some (.str s t)) (h : gloB sc x = true := by decide +kernel) : RE C N sc (.Name x pos) (m_c (.str s)) := re_glob (v := .str s) hm ⟨t, rfl⟩ (fun _ => rfl) h
theorem re_gint {x : Str} {i : Int} {t : Tok} (hm : C.mg x = some (.int i t)) (h : gloB sc x = true := by decide +kernel) : RE C N sc (.Name x pos) (m_c (.int i)) := re_glob (v := .int i) hm ⟨t, rfl⟩ (fun _ => rfl) h
end

/-! ### operators by values -/
def R2ok (K : PySem.W.Frag) (r : R2) (f : D → D → Option Res) : Prop := ∀ (h H : Hp) (x y : V) (dx dy : D) (res : Res) (Q : VK), Same h H → Vw K h H dx x → Vw K h H dy y → f dx dy = some res → (∀ z H', ResAt K h H res z H' → Q z H') → r x y H Q
def R1ok (K : PySem.W.Frag) (r : V → Hp → VK → Prop) (f : D → Option Res) : Prop := ∀ (h H : Hp) (x : V) (dx : D) (res : Res) (Q : VK), Same h H → Vw K h H dx x → f dx = some res → (∀ z H', ResAt K h H res z H' → Q z H') → r x H Q
def m_op2 (f : D → D → Option Res) (ma mb : MP) : ME := fun ρ => (ma ρ).bind fun a => (mb a.2).bind fun b => (vw b.2 a.1).bind fun d1 => (vw b.2 b.1).bind fun d2 => (f d1 d2).map fun r => (r.o, b.2)
def m_op1 (f : D → Option Res) (ma : MP) : ME := fun ρ => (ma ρ).bind fun a => (vw a.2 a.1).bind fun d1 => (f d1).map fun r => (r.o, a.2)
section
variable {K : PySem.W.Frag}
theorem rf_op2 {r : R2} {f : D → D → Option Res} {ta tb : TE} {ma mb : MP} (hr : R2ok K r f) (ha : Rfp K ta ma) (hb : Rfp K tb mb) : Rf K (tOp r ta tb) (m_op2 f ma mb) := by
  intro c τ ρ σ H Q o ρ' hl rl e k
  unfold m_op2 at e
  obtain ⟨⟨p1, ρ1⟩, e1, e⟩ := Option.bind_eq_some_iff.mp e
  obtain ⟨⟨p2, ρ2⟩, e2, e⟩ := Option.bind_eq_some_iff.mp e
  obtain ⟨d1, e3, e⟩ := Option.bind_eq_some_iff.mp e
  obtain ⟨d2, e4, e⟩ := Option.bind_eq_some_iff.mp e
  obtain ⟨res, e5, e⟩ := Option.map_eq_some_iff.mp e
  cases e
  refine ha c τ ρ σ H _ p1 ρ1 hl rl e1 fun x H1 hl1 pv1 r1 => ?_
  refine hb c (kap p1 x ++ τ) ρ1 σ H1 _ p2 ρ2 hl1 (by rw [List.append_assoc]; exact r1) e2 fun y H2 hl2 pv2 r2 => ?_
  obtain ⟨F, rr⟩ := id r2
  obtain ⟨o1, x1, x2⟩ := vw_mem e3 pv1
  obtain ⟨o2, y1, y2⟩ := vw_mem e4 pv2
  refine hr _ H2 x y d1 d2 res Q hid_same (rr.vw (o := o1) ?_ x1) (rr.vw (o := o2) ?_ y1) e5 fun z H' q => k z H' hl2 ?_
  · rcases x2 with x2 | x2
    · simp [x2]
    · simp [x2]
  · rcases y2 with y2 | y2
    · simp [y2]
    · simp [y2]
  · have q1 := (rr.res q).mid1
    rw [List.append_assoc] at q1
    exact q1.mid1
theorem rf_op1 {r : V → Hp → VK → Prop} {f : D → Option Res} {ta : TE} {ma : MP} (hr : R1ok K r f) (ha : Rfp K ta ma) : Rf K (tUn r ta) (m_op1 f ma) := by
  intro c τ ρ σ H Q o ρ' hl rl e k
  unfold m_op1 at e
  obtain ⟨⟨p1, ρ1⟩, e1, e⟩ := Option.bind_eq_some_iff.mp e
  obtain ⟨d1, e3, e⟩ := Option.bind_eq_some_iff.mp e
  obtain ⟨res, e5, e⟩ := Option.map_eq_some_iff.mp e
  cases e
  refine ha c τ ρ σ H _ p1 ρ1 hl rl e1 fun x H1 hl1 pv1 r1 => ?_
  obtain ⟨F, rr⟩ := id r1
  obtain ⟨o1, x1, x2⟩ := vw_mem e3 pv1
  refine hr _ H1 x d1 res Q hid_same (rr.vw (o := o1) ?_ x1) e5 fun z H' q => k z H' hl1 (rr.res q).mid1
  rcases x2 with x2 | x2
  · simp [x2]
  · simp [x2]
end

/-! ### argument lists -/
abbrev MA := List O → Option (List Pr × List O)
def kaps : List Pr → List V → Cells
  | p :: ps, x :: xs => kaps ps xs ++ kap p x
  | _, _ => []
def pvals : List Pr → L2.St → List V → Prop
  | [], _, xs => xs = []
  | p :: ps, σ, xs => ∃ x r, xs = x :: r ∧ pval p σ x ∧ pvals ps σ r
def Rfa (K : PySem.W.Frag) (t : TA) (m : MA) : Prop := ∀ (c : Cc) (τ : Cells) (ρ : List O) (σ : L2.St) (H : Hp) (Q : List V → Hp → Prop) (ps : List Pr) (ρ' : List O), ρ.length = σ.length → Rel K c (τ ++ ρ.zip σ) H → m ρ = some (ps, ρ') →
  (∀ xs H', ρ'.length = σ.length → pvals ps σ xs → Rel K c (kaps ps xs ++ (τ ++ ρ'.zip σ)) H' → Q xs H') → t σ H Q
def RA (C : Cd) (N : List Str) (sc : Sk) (es : List Expr) (m : MA) : Prop := ∃ t, (∀ X, Gd C N sc X → PA X es t) ∧ Rfa C.K t m
def a_nil : MA := fun ρ => some ([], ρ)
def a_cons (m : MP) (ms : MA) : MA := fun ρ => (m ρ).bind fun a => (ms a.2).map fun b => (a.1 :: b.1, b.2)
section
variable {K : PySem.W.Frag}
theorem rfa_nil : Rfa K tNil a_nil := by
  intro c τ ρ σ H Q ps ρ' hl r e k
  cases e
  exact k [] H hl rfl r
theorem rfa_cons {te : TE} {tr : TA} {m : MP} {ms : MA} (h1 : Rfp K te m) (h2 : Rfa K tr ms) : Rfa K (tCons te tr) (a_cons m ms) := by
  intro c τ ρ σ H Q ps ρ' hl r e k
  unfold a_cons at e
  obtain ⟨⟨p, ρ1⟩, e1, e⟩ := Option.bind_eq_some_iff.mp e
  obtain ⟨⟨qs, ρ2⟩, e2, e⟩ := Option.map_eq_some_iff.mp e
  cases e
  refine h1 c τ ρ σ H _ p ρ1 hl r e1 fun x H1 hl1 pv1 r1 => ?_
  refine h2 c (kap p x ++ τ) ρ1 σ H1 _ qs ρ2 hl1 (by rw [List.append_assoc]; exact r1) e2 fun xs H2 hl2 pv2 r2 => ?_
  refine k (x :: xs) H2 hl2 ⟨x, xs, rfl, pv1, pv2⟩ ?_
  show Rel K c ((kaps qs xs ++ kap p x) ++ _) H2
  rw [List.append_assoc, ← List.append_assoc (kap p x)]
  exact r2
/-- the arguments as cells: an owned list of a name is moved -/
def tk : List Pr → List O → Option (List O × List O)
  | [], ρ => some ([], ρ)
  | .ex o :: ps, ρ => (tk ps ρ).map fun a => (o :: a.1, a.2)
  | .nm i :: ps, ρ => match ρ[i]? with
    | some (.v d) => (tk ps ρ).map fun a => (.v d :: a.1, a.2)
    | some (.l ds) => (tk ps (ρ.set i .n)).map fun a => (.l ds :: a.1, a.2)
    | _ => none
/-- .. and back -/
def bk : List Pr → List O → List O → List O
  | .nm i :: ps, o :: os, ρ => bk ps os (match ρ[i]? with
    | some .n => ρ.set i o
    | _ => ρ)
  | .ex _ :: ps, _ :: os, ρ => bk ps os ρ
  | _, _, ρ => ρ
theorem tk_ok {c : Cc} {σ : L2.St} {H : Hp} : ∀ {ps : List Pr} {xs : List V} {τ : Cells} {ρ os ρ1 : List O}, ρ.length = σ.length → pvals ps σ xs → Rel K c (kaps ps xs ++ (τ ++ ρ.zip σ)) H → tk ps ρ = some (os, ρ1) →
    Rel K c (os.zip (xs.map some) ++ (τ ++ ρ1.zip σ)) H ∧ ρ1.length = σ.length ∧ os.length = xs.length
  | [], xs, τ, ρ, os, ρ1, hl, pv, r, e => by
    cases pv
    cases e
    exact ⟨r, hl, rfl⟩
  | .ex o :: ps, xs, τ, ρ, os, ρ1, hl, ⟨x, xr, ex, p1, p2⟩, r, e => by
    subst ex
    obtain ⟨⟨os1, ρ2⟩, e1, e⟩ := Option.map_eq_some_iff.mp e
    cases e
    have r' : Rel K c ((kaps ps xr ++ [(o, some x)]) ++ (τ ++ ρ.zip σ)) H := r
    rw [List.append_assoc] at r'
    obtain ⟨a, b, l⟩ := tk_ok (τ := (o, some x) :: τ) hl p2 r' e1
    refine ⟨a.perm ?_, b, by rw [List.length_cons, List.length_cons, l]⟩
    exact List.perm_middle
  | .nm i :: ps, xs, τ, ρ, os, ρ1, hl, ⟨x, xr, ex, p1, p2⟩, r, e => by
    subst ex
    have r' : Rel K c ((kaps ps xr ++ []) ++ (τ ++ ρ.zip σ)) H := r
    rw [List.append_nil] at r'
    unfold tk at e
    cases h1 : ρ[i]? with
    | none => rw [h1] at e; cases e
    | some oi =>
      rw [h1] at e
      cases oi with
      | n => cases e
      | v d =>
        obtain ⟨⟨os1, ρ2⟩, e1, e⟩ := Option.map_eq_some_iff.mp e
        cases e
        have hm : (O.v d, some x) ∈ kaps ps xr ++ (τ ++ ρ.zip σ) := List.mem_append_right _ (List.mem_append_right _ (mem_zip h1 p1))
        have r2 : Rel K c (kaps ps xr ++ (((O.v d, some x) :: τ) ++ ρ.zip σ)) H := (r'.dup hm).perm List.perm_middle.symm
        obtain ⟨a, b, l⟩ := tk_ok hl p2 r2 e1
        exact ⟨a.perm List.perm_middle, b, by rw [List.length_cons, List.length_cons, l]⟩
      | l ds =>
        obtain ⟨⟨os1, ρ2⟩, e1, e⟩ := Option.map_eq_some_iff.mp e
        cases e
        rw [← List.append_assoc] at r'
        have r1 := r'.take h1 p1
        rw [List.append_assoc] at r1
        have r2 : Rel K c (kaps ps xr ++ (((O.l ds, some x) :: τ) ++ (ρ.set i .n).zip σ)) H := r1.perm List.perm_middle.symm
        obtain ⟨a, b, l⟩ := tk_ok (by rw [List.length_set]; exact hl) p2 r2 e1
        exact ⟨a.perm List.perm_middle, b, by rw [List.length_cons, List.length_cons, l]⟩
theorem bk_ok {c : Cc} {σ : L2.St} {H : Hp} : ∀ {ps : List Pr} {xs : List V} {τ : Cells} {ρ os : List O}, ρ.length = σ.length → pvals ps σ xs → Rel K c (os.zip (xs.map some) ++ (τ ++ ρ.zip σ)) H →
    Rel K c (τ ++ (bk ps os ρ).zip σ) H ∧ (bk ps os ρ).length = σ.length
  | [], xs, τ, ρ, os, hl, pv, r => by
    cases pv
    rw [List.map_nil, List.zip_nil_right] at r
    exact ⟨r, hl⟩
  | .ex o :: ps, xs, τ, ρ, [], hl, ⟨x, xr, ex, p1, p2⟩, r => ⟨r, hl⟩
  | .nm i :: ps, xs, τ, ρ, [], hl, ⟨x, xr, ex, p1, p2⟩, r => ⟨r, hl⟩
  | .ex _ :: ps, xs, τ, ρ, o :: os, hl, ⟨x, xr, ex, p1, p2⟩, r => by
    subst ex
    have r' : Rel K c ((o, some x) :: (os.zip (xr.map some) ++ (τ ++ ρ.zip σ))) H := r
    exact bk_ok (os := os) hl p2 r'.drop
  | .nm i :: ps, xs, τ, ρ, o :: os, hl, ⟨x, xr, ex, p1, p2⟩, r => by
    subst ex
    have r' : Rel K c ((o, some x) :: (os.zip (xr.map some) ++ (τ ++ ρ.zip σ))) H := r
    unfold bk
    cases h1 : ρ[i]? with
    | none => exact bk_ok hl p2 r'.drop
    | some oi =>
      cases oi with
      | v d => exact bk_ok hl p2 r'.drop
      | l ds => exact bk_ok hl p2 r'.drop
      | n =>
        rw [← List.append_assoc] at r'
        have r2 := r'.put hl p1
        rw [List.append_assoc] at r2
        exact bk_ok (by rw [List.length_set]; exact hl) p2 r2
def Vws (K : PySem.W.Frag) (h H : Hp) : List D → List V → Prop
  | [], xs => xs = []
  | d :: ds, xs => ∃ x r, xs = x :: r ∧ Vw K h H d x ∧ Vws K h H ds r
def vws (ρ : List O) : List Pr → Option (List D)
  | [] => some []
  | p :: ps => (vw ρ p).bind fun d => (vws ρ ps).map fun ds => d :: ds
theorem vws_ok {c : Cc} {F : List Addr} {cs : Cells} {H : Hp} {ρ : List O} {σ : L2.St} (r : RelAt K c F cs H) (hz : ∀ p ∈ ρ.zip σ, p ∈ cs) : ∀ {ps : List Pr} {xs : List V} {ds : List D}, (∀ p ∈ kaps ps xs, p ∈ cs) → pvals ps σ xs → vws ρ ps = some ds → Vws K (hid (F ++ c.B) H) H ds xs
  | [], xs, ds, hk, pv, e => by
    cases pv
    cases e
    rfl
  | p :: ps, xs, ds, hk, ⟨x, xr, ex, p1, p2⟩, e => by
    subst ex
    obtain ⟨d, e1, e⟩ := Option.bind_eq_some_iff.mp e
    obtain ⟨ds1, e2, e⟩ := Option.map_eq_some_iff.mp e
    cases e
    obtain ⟨o, h1, h2⟩ := vw_mem e1 p1
    refine ⟨x, xr, rfl, r.vw (o := o) ?_ h1, vws_ok r hz (fun q hq => hk q (List.mem_append_left _ hq)) p2 e2⟩
    rcases h2 with h2 | h2
    · exact hk _ (List.mem_append_right _ h2)
    · exact hz _ h2
end
section
variable {C : Cd} {N : List Str} {sc : Sk} {pos : Pos}
theorem ra_nil : RA C N sc [] a_nil := ⟨_, fun X g => pa_nil, rfa_nil⟩
theorem ra_cons {e : Expr} {es : List Expr} {m : MP} {ms : MA} (h1 : RP C N sc e m) (h2 : RA C N sc es ms) (hs : ∀ env : Env, starEach (e :: es) env = (false, eval e env) :: starEach es env := by intro _; rfl) : RA C N sc (e :: es) (a_cons m ms) :=
  let ⟨t, a1, a2⟩ := h1; let ⟨u, b1, b2⟩ := h2; ⟨_, fun X g => pa_cons (a1 X g) (b1 X g) (hs _), rfa_cons a2 b2⟩
end

/-! ### built-in calls, displays -/
def RLok (K : PySem.W.Frag) (r : List V → Hp → VK → Prop) (f : List D → Option Res) : Prop := ∀ (h H : Hp) (xs : List V) (ds : List D) (res : Res) (Q : VK), Same h H → Vws K h H ds xs → f ds = some res → (∀ z H', ResAt K h H res z H' → Q z H') → r xs H Q
def m_bi (f : List D → Option Res) (ma : MA) : ME := fun ρ => (ma ρ).bind fun a => (vws a.2 a.1).bind fun ds => (f ds).map fun r => (r.o, a.2)
/-- items that become parts of a new object: each plain -/
def m_it (m : ME) : MP := fun ρ => (m ρ).map fun a => match a.1 with
  | .l ds => (.ex (.v (.lst ds)), a.2)
  | o => (.ex o, a.2)
section
variable {K : PySem.W.Frag}
theorem rf_bi {r : List V → Hp → VK → Prop} {f : List D → Option Res} {ta : TA} {ma : MA} (hr : RLok K r f) (ha : Rfa K ta ma) : Rf K (tCB r ta) (m_bi f ma) := by
  intro c τ ρ σ H Q o ρ' hl rl e k
  unfold m_bi at e
  obtain ⟨⟨ps, ρ1⟩, e1, e⟩ := Option.bind_eq_some_iff.mp e
  obtain ⟨ds, e3, e⟩ := Option.bind_eq_some_iff.mp e
  obtain ⟨res, e5, e⟩ := Option.map_eq_some_iff.mp e
  cases e
  refine ha c τ ρ σ H _ ps ρ1 hl rl e1 fun xs H1 hl1 pv1 r1 => ?_
  obtain ⟨F, rr⟩ := id r1
  exact hr _ H1 xs ds res Q hid_same (vws_ok rr (fun p hp => by simp [hp]) (fun p hp => by simp [hp]) pv1 e3) e5 fun z H' q => k z H' hl1 (rr.res q).mid1
theorem rfp_it {t : TE} {m : ME} (h : Rf K t m) : Rfp K t (m_it m) := by
  intro c τ ρ σ H Q p ρ' hl r e k
  unfold m_it at e
  obtain ⟨⟨o, ρ1⟩, e1, e2⟩ := Option.map_eq_some_iff.mp e
  refine h c τ ρ σ H Q o _ hl r e1 fun x H' hl' r' => ?_
  cases o with
  | n => cases e2; exact k x H' hl' True.intro r'
  | v d => cases e2; exact k x H' hl' True.intro r'
  | l ds => cases e2; exact k x H' hl' True.intro r'.rel
end
/-- all operands plain -/
def plains (ρ : List O) : List Pr → Option (List D)
  | [] => some []
  | .ex (.v d) :: ps => (plains ρ ps).map fun ds => d :: ds
  | .nm i :: ps => match ρ[i]? with
    | some (.v d) => (plains ρ ps).map fun ds => d :: ds
    | _ => none
  | _ :: _ => none
def m_lst (ma : MA) : ME := fun ρ => (ma ρ).bind fun a => (plains a.2 a.1).bind fun ds => if ds.length ≤ 100000 then some (.l ds, a.2) else none
def m_tup (ma : MA) : ME := fun ρ => (ma ρ).bind fun a => (plains a.2 a.1).bind fun ds => if ds.length ≤ 100000 then some (.v (.tup ds), a.2) else none
section
variable {K : PySem.W.Frag}
theorem plains_ok {c : Cc} {F : List Addr} {cs : Cells} {H : Hp} {ρ : List O} {σ : L2.St} (r : RelAt K c F cs H) (hz : ∀ p ∈ ρ.zip σ, p ∈ cs) : ∀ {ps : List Pr} {xs : List V} {ds : List D}, (∀ p ∈ kaps ps xs, p ∈ cs) → pvals ps σ xs → plains ρ ps = some ds → Reps K (hid (F ++ c.B) H) ds xs
  | [], xs, ds, hk, pv, e => by
    cases pv
    cases e
    rfl
  | .ex o :: ps, xs, ds, hk, ⟨x, xr, ex, p1, p2⟩, e => by
    subst ex
    cases o with
    | n => cases e
    | l ds => cases e
    | v d =>
      obtain ⟨ds1, e2, e⟩ := Option.map_eq_some_iff.mp e
      cases e
      refine ⟨x, xr, rfl, ?_, plains_ok r hz (fun q hq => hk q (List.mem_append_left _ hq)) p2 e2⟩
      obtain ⟨F1, ⟨_, y, e1, q⟩, _⟩ := r.rc.mem (hk (.v d, some x) (List.mem_append_right _ (List.mem_singleton.mpr rfl)))
      cases e1
      exact q
  | .nm i :: ps, xs, ds, hk, ⟨x, xr, ex, p1, p2⟩, e => by
    subst ex
    unfold plains at e
    cases h1 : ρ[i]? with
    | none => rw [h1] at e; cases e
    | some oi =>
      rw [h1] at e
      cases oi with
      | n => cases e
      | l ds => cases e
      | v d =>
        obtain ⟨ds1, e2, e⟩ := Option.map_eq_some_iff.mp e
        cases e
        refine ⟨x, xr, rfl, ?_, plains_ok r hz (fun q hq => hk q (List.mem_append_left _ hq)) p2 e2⟩
        obtain ⟨F1, ⟨_, y, e1, q⟩, _⟩ := r.rc.mem (hz _ (mem_zip h1 p1))
        cases e1
        exact q
theorem line_ok {n : Nat} (h : n ≤ 100000) : n ≤ sizeLine := Nat.le_trans h (by decide)
theorem rf_lst {ta : TA} {ma : MA} (ha : Rfa K ta ma) : Rf K (tLst ta) (m_lst ma) := by
  intro c τ ρ σ H Q o ρ' hl rl e k
  unfold m_lst at e
  obtain ⟨⟨ps, ρ1⟩, e1, e⟩ := Option.bind_eq_some_iff.mp e
  obtain ⟨ds, e3, e⟩ := Option.bind_eq_some_iff.mp e
  split at e
  · rename_i hz
    cases e
    refine ha c τ ρ σ H _ ps ρ1 hl rl e1 fun xs H1 hl1 pv1 r1 => ?_
    obtain ⟨F, rr⟩ := id r1
    have q := plains_ok rr (fun p hp => by simp [hp]) (fun p hp => by simp [hp]) pv1 e3
    exact ⟨by rw [← q.length]; exact line_ok hz, fun p hp => k _ _ hl1 (rr.newL hp q).mid1⟩
  · cases e
theorem rf_tup {ta : TA} {ma : MA} (ha : Rfa K ta ma) : Rf K (tTup ta) (m_tup ma) := by
  intro c τ ρ σ H Q o ρ' hl rl e k
  unfold m_tup at e
  obtain ⟨⟨ps, ρ1⟩, e1, e⟩ := Option.bind_eq_some_iff.mp e
  obtain ⟨ds, e3, e⟩ := Option.bind_eq_some_iff.mp e
  split at e
  · rename_i hz
    cases e
    refine ha c τ ρ σ H _ ps ρ1 hl rl e1 fun xs H1 hl1 pv1 r1 => ?_
    obtain ⟨F, rr⟩ := id r1
    have q := plains_ok rr (fun p hp => by simp [hp]) (fun p hp => by simp [hp]) pv1 e3
    exact ⟨by rw [← q.length]; exact line_ok hz, fun p hp => k _ _ hl1 (rr.res (res := .nt ds) ⟨p, xs, rfl, hp, rfl, q⟩).mid1⟩
  · cases e
end
section
variable {C : Cd} {N : List Str} {sc : Sk} {pos : Pos}
theorem rp_it {e : Expr} {m : ME} (h : RE C N sc e m) : RP C N sc e (m_it m) := let ⟨t, h1, h2⟩ := h; ⟨t, h1, rfp_it h2⟩
theorem re_lst {es : List Expr} {ma : MA} (h : RA C N sc es ma) : RE C N sc (.List es pos) (m_lst ma) := let ⟨t, h1, h2⟩ := h; ⟨_, fun X g => pe_lst (h1 X g), rf_lst h2⟩
theorem re_tup {es : List Expr} {x1} {ma : MA} (h : RA C N sc es ma) : RE C N sc (.Tuple es x1 pos) (m_tup ma) := let ⟨t, h1, h2⟩ := h; ⟨_, fun X g => pe_tup (h1 X g), rf_tup h2⟩
/-- a built-in function, a built-in class called: its rule by values -/
theorem re_bi {id : String} {x : Str} {e : Expr} {es : List Expr} {p : Pos} {ma : MA} {f : List D → Option Res} (r : PySem.W.Frag → List V → Hp → VK → Prop) (hc : ∀ X : Cx, X.calm = true → CallR X (.builtin id) (r X.K)) (hr : RLok C.K (r C.K) f) (hm : C.mg x = none)
    (hv : bootBuiltins x = some (.builtin id)) (ha : RA C N sc (e :: es) ma) (hg : gloB sc x = true := by decide +kernel) (he : ∀ env : Env, starEach (e :: es) env = (false, eval e env) :: starEach es env := by intro _; rfl)
    (hpl : ∀ env : Env, (backTo pos (starEach es env)).any (·.1) = false := by intro _; rfl) : RE C N sc (.Call (.Name x p) (e :: es) [] pos) (m_bi f ma) :=
  let ⟨t, a1, a2⟩ := ha
  ⟨tCB (r C.K) t, fun X g => pe_callB (by rw [← g.K]; exact hc X g.calm) (g.gl hg) (by rw [g.mg]; exact hm) hv (a1 X g) (okName_d (gloB_ok hg).2).2.2 (okName_d (gloB_ok hg).2).1 (he _) (hpl _), rf_bi hr a2⟩
theorem re_ty {T : String} {x : Str} {e : Expr} {es : List Expr} {p : Pos} {ma : MA} {f : List D → Option Res} (r : PySem.W.Frag → List V → Hp → VK → Prop) (hc : ∀ X : Cx, X.calm = true → CallR X (.type T) (r X.K)) (hr : RLok C.K (r C.K) f) (hm : C.mg x = none)
    (hv : bootBuiltins x = some (.type T)) (ha : RA C N sc (e :: es) ma) (hg : gloB sc x = true := by decide +kernel) (he : ∀ env : Env, starEach (e :: es) env = (false, eval e env) :: starEach es env := by intro _; rfl)
    (hpl : ∀ env : Env, (backTo pos (starEach es env)).any (·.1) = false := by intro _; rfl) : RE C N sc (.Call (.Name x p) (e :: es) [] pos) (m_bi f ma) :=
  let ⟨t, a1, a2⟩ := ha
  ⟨tCB (r C.K) t, fun X g => pe_callTy (by rw [← g.K]; exact hc X g.calm) (g.gl hg) (by rw [g.mg]; exact hm) hv (a1 X g) (okName_d (gloB_ok hg).2).2.2 (okName_d (gloB_ok hg).2).1 (he _) (hpl _), rf_bi hr a2⟩
/-- an operator -/
theorem re_op {op : Operator} {a b : Expr} {ma mb : MP} {f : D → D → Option Res} (r : PySem.W.Frag → R2) (ho : ∀ X : Cx, OpR X (binaryOp op) (r X.K)) (hr : R2ok C.K (r C.K) f) (ha : RP C N sc a ma) (hb : RP C N sc b mb) : RE C N sc (.BinOp a op b pos) (m_op2 f ma mb) :=
  let ⟨t, a1, a2⟩ := ha; let ⟨u, b1, b2⟩ := hb
  ⟨tOp (r C.K) t u, fun X g => pe_op (by rw [← g.K]; exact ho X) (a1 X g) (b1 X g), rf_op2 hr a2 b2⟩
theorem re_un {op : UnaryOp} {a : Expr} {ma : MP} {f : D → Option Res} (r : PySem.W.Frag → V → Hp → VK → Prop) (ho : ∀ X : Cx, UnR X (unaryOp op) (r X.K)) (hr : R1ok C.K (r C.K) f) (ha : RP C N sc a ma) : RE C N sc (.UnaryOp op a pos) (m_op1 f ma) :=
  let ⟨t, a1, a2⟩ := ha
  ⟨tUn (r C.K) t, fun X g => pe_un (by rw [← g.K]; exact ho X) (a1 X g), rf_op1 hr a2⟩
theorem re_cmp {op : CmpOp} {a b : Expr} {ma mb : MP} {f : D → D → Option Res} (r : PySem.W.Frag → R2) (ho : ∀ X : Cx, X.A.units + 64 < cLine → OpR X (compareOp op) (r X.K)) (hr : R2ok C.K (r C.K) f) (ha : RP C N sc a ma) (hb : RP C N sc b mb) (hm : behindInMarks op b = false) : RE C N sc (.Compare a [op] [b] pos) (m_op2 f ma mb) :=
  let ⟨t, a1, a2⟩ := ha; let ⟨u, b1, b2⟩ := hb
  ⟨tOp (r C.K) t u, fun X g => pe_cmpR (by rw [← g.K]; exact ho X g.room.units) (a1 X g) (b1 X g) hm, rf_op2 hr a2 b2⟩
/-- x[i] -/
theorem re_ix {a b : Expr} {ma mb : MP} {f : D → D → Option Res} (r : PySem.W.Frag → R2) (ho : ∀ X : Cx, IxR X (r X.K)) (hr : R2ok C.K (r C.K) f) (ha : RP C N sc a ma) (hb : RP C N sc b mb) (hs : PlainIx b := by intro _ _; rfl) : RE C N sc (.Subscript a b pos) (m_op2 f ma mb) :=
  let ⟨t, a1, a2⟩ := ha; let ⟨u, b1, b2⟩ := hb
  ⟨tOp (r C.K) t u, fun X g => pe_ix (by rw [← g.K]; exact ho X) (a1 X g) (b1 X g) hs, rf_op2 hr a2 b2⟩
end
end Mr

set_option Elab.async false
set_option linter.all false
set_option maxRecDepth 100000
set_option maxHeartbeats 4000000
/-! MrC: calls, tests, statements, loops, comprehensions, defs. -/
namespace Mr
open PySem PySem.Spec PyProof.Rows L2

/-! ### cells weakened place by place -/
section
variable {K : PySem.W.Frag} {h H : Hp} {c : Cc}
theorem RC.wk : ∀ {cs' cs : Cells} {F : List Addr}, (∀ (i : Nat) (p : O × Option V), cs'[i]? = some p → p.1 = .n ∨ cs[i]? = some p) → RC K h H cs F → ∃ F', RC K h H cs' F' ∧ F'.Sublist F
  | [], _, _, _, _ => ⟨[], rfl, List.nil_sublist _⟩
  | (o, x) :: cs', [], F, hk, r => by
    have e : o = .n := by
      rcases hk 0 (o, x) rfl with z | z
      · exact z
      · cases z
    subst e
    obtain ⟨F', r', s⟩ := RC.wk (cs' := cs') (cs := []) (fun i p q => by
      rcases hk (i + 1) p (by simpa using q) with z | z
      · exact .inl z
      · simp at z) r
    exact ⟨F', ⟨[], F', rfl, r', rfl⟩, s⟩
  | (o, x) :: cs', (o1, x1) :: cs, F, hk, ⟨F1, F2, r1, r2, e⟩ => by
    subst e
    obtain ⟨F', r', s⟩ := RC.wk (cs' := cs') (cs := cs) (fun i p q => by
      rcases hk (i + 1) p (by simpa using q) with z | z
      · exact .inl z
      · exact .inr (by simpa using z)) r2
    rcases hk 0 (o, x) rfl with z | z
    · have z' : o = .n := z
      subst z'
      exact ⟨F', ⟨[], F', rfl, r', rfl⟩, s.trans (List.sublist_append_right _ _)⟩
    · have z' : (o1, x1) = (o, x) := Option.some.inj z
      cases z'
      exact ⟨F1 ++ F', ⟨F1, F', r1, r', rfl⟩, (List.Sublist.refl F1).append s⟩
theorem Rel.wk {cs cs' : Cells} (r : Rel K c cs H) (hk : ∀ (i : Nat) (p : O × Option V), cs'[i]? = some p → p.1 = .n ∨ cs[i]? = some p) : Rel K c cs' H := by
  obtain ⟨F, r⟩ := r
  obtain ⟨F', r', s⟩ := r.rc.wk hk
  refine ⟨F', r'.mono (hid_less fun b hb => ?_) fun _ _ => rfl, r.nd.sublist s, fun a ha => r.dj a (s.mem ha), r.bt, r.fr, fun a ha => r.ow a (s.mem ha)⟩
  rcases List.mem_append.mp hb with z | z
  · exact List.mem_append_left _ (s.mem z)
  · exact List.mem_append_right _ z
/-- the slots' values exchanged where they agree, or nothing is known -/
theorem Rel.slots {τ : Cells} {ρ ρ' : List O} {σ σ' : L2.St} (r : Rel K c (τ ++ ρ.zip σ) H) (hl : ρ'.length = ρ.length) (hs : σ'.length = σ.length) (hk : ∀ (i : Nat) (o : O), ρ'[i]? = some o → o = .n ∨ (ρ[i]? = some o ∧ σ'[i]? = σ[i]?)) : Rel K c (τ ++ ρ'.zip σ') H := by
  refine r.wk fun i p e => ?_
  by_cases hi : i < τ.length
  · rw [List.getElem?_append_left hi] at e
    exact .inr (by rw [List.getElem?_append_left hi]; exact e)
  · have hi' : τ.length ≤ i := Nat.le_of_not_lt hi
    rw [List.getElem?_append_right hi'] at e ⊢
    rw [List.getElem?_zip_eq_some] at e
    obtain ⟨e1, e2⟩ := e
    rcases hk _ _ e1 with z | ⟨z1, z2⟩
    · exact .inl z
    · refine .inr ?_
      rw [List.getElem?_zip_eq_some]
      exact ⟨z1, by rw [← z2]; exact e2⟩
end

/-! ### calls of the text's defs -/
def spM (K : PySem.W.Frag) (n : Nat) (g : List O → Option (O × List O)) : Sp := fun vs H Q _ => vs.length = n ∧ ∃ (B F : List Addr) (os : List O) (r : O) (outs : List O), os.length = n ∧ RelAt K ⟨B, H, F⟩ F (os.zip (vs.map some)) H ∧ g os = some (r, outs) ∧
  ∀ v H', Rel K ⟨B, H, F⟩ ((r, some v) :: outs.zip (vs.map some)) H' → Q v H'
def m_call (g : List O → Option (O × List O)) (ma : MA) : ME := fun ρ => (ma ρ).bind fun a => (tk a.1 a.2).bind fun b => (g b.1).map fun r => (r.1, bk a.1 r.2 b.2)
structure Cal (P : Program) (w : World) (K : PySem.W.Frag) (mg : Str → Option Value) (base : Heap) (k : Nat) (x : Str) (n : Nat) (g : List O → Option (O × List O)) : Prop where
  ex : ∃ (f : Addr) (fd : FuncData) (ps : List Str), ps.length = n ∧ FnOk P w K mg base CX0 k f fd ps (spM K n g) ∧ mg x = some (.ref f) ∧ PySem.W.keepIn K (.ref f) = true ∧ Binds K fd ps []
theorem rf_call {K : PySem.W.Frag} {n : Nat} {g : List O → Option (O × List O)} {ta : TA} {ma : MA} {E : XK} (ha : Rfa K ta ma) (hn : ∀ ρ ps ρ', ma ρ = some (ps, ρ') → ps.length = n) : Rf K (tCall (spM K n g) [] E ta) (m_call g ma) := by
  intro c τ ρ σ H Q o ρ' hl rl e k
  unfold m_call at e
  obtain ⟨⟨ps, ρ1⟩, e1, e⟩ := Option.bind_eq_some_iff.mp e
  obtain ⟨⟨os, ρ2⟩, e2, e⟩ := Option.bind_eq_some_iff.mp e
  obtain ⟨⟨r, outs⟩, e3, e⟩ := Option.map_eq_some_iff.mp e
  cases e
  refine ha c τ ρ σ H _ ps ρ1 hl rl e1 fun xs H1 hl1 pv1 r1 => ?_
  obtain ⟨a, b, l⟩ := tk_ok hl1 pv1 r1 e2
  obtain ⟨F, rr⟩ := a
  obtain ⟨F1, F2, s1, s2, rfl⟩ := rr.rc.split
  have ln : os.length = n := by
    have h1 := hn _ _ _ e1
    have h2 : ∀ {ps : List Pr} {xs : List V}, pvals ps σ xs → ps.length = xs.length := by
      intro ps
      induction ps with
      | nil => intro xs h; cases h; rfl
      | cons p ps ih => intro xs ⟨x, r, ex, _, h⟩; rw [ex, List.length_cons, List.length_cons, ih h]
    rw [l, ← h2 pv1]; exact h1
  have en := Rel.enter rr s1
  refine ⟨by rw [List.append_nil, ← l]; exact ln, _, F1, os, r, outs, ln, by rw [List.append_nil]; exact en, e3, fun v H' q => ?_⟩
  rw [List.append_nil] at q
  have lv := Rel.leave rr s2 q
  have lv' : Rel K c ((r, some v) :: (outs.zip (xs.map some) ++ (τ ++ ρ2.zip σ))) H' := lv
  have lv2 : Rel K c (outs.zip (xs.map some) ++ (((r, some v) :: τ) ++ ρ2.zip σ)) H' := lv'.perm List.perm_middle.symm
  obtain ⟨q1, q2⟩ := bk_ok b pv1 lv2
  exact k v H' q2 q1
/-- how many arguments -/
inductive ALen : MA → Nat → Prop where
  | nil : ALen a_nil 0
  | cons {m : MP} {ms : MA} {n : Nat} (h : ALen ms n) : ALen (a_cons m ms) (n + 1)
theorem ALen.ok {ma : MA} {n : Nat} (h : ALen ma n) : ∀ ρ ps ρ', ma ρ = some (ps, ρ') → ps.length = n := by
  induction h with
  | nil => intro ρ ps ρ' e; cases e; rfl
  | cons h ih =>
    intro ρ ps ρ' e
    unfold a_cons at e
    obtain ⟨⟨p, ρ1⟩, e1, e⟩ := Option.bind_eq_some_iff.mp e
    obtain ⟨⟨qs, ρ2⟩, e2, e⟩ := Option.map_eq_some_iff.mp e
    cases e
    rw [List.length_cons, ih _ _ _ e2]
section
variable {C : Cd} {N : List Str} {sc : Sk} {pos : Pos}
theorem re_call {j n : Nat} {x : Str} {g : List O → Option (O × List O)} {e : Expr} {es : List Expr} {p : Pos} {ma : MA} (hf : Cal C.P C.w C.K C.mg C.base j x n g) (hj : j ≤ C.k) (ha : RA C N sc (e :: es) ma) (hn : ALen ma n) (hg : gloB sc x = true := by decide +kernel)
    (he : ∀ env : Env, starEach (e :: es) env = (false, eval e env) :: starEach es env := by intro _; rfl) (hpl : ∀ env : Env, (backTo pos (starEach es env)).any (·.1) = false := by intro _; rfl) :
    RE C N sc (.Call (.Name x p) (e :: es) [] pos) (m_call g ma) := by
  obtain ⟨f, fd, ps, hps, F, hm, hk, hb⟩ := hf.ex
  obtain ⟨t, a1, a2⟩ := ha
  refine ⟨tCall (spM C.K n g) [] E0 t, fun X gd => ?_, rf_call a2 hn.ok⟩
  exact pe_call (by rw [gd.prog, gd.w, gd.K, gd.mg, gd.base]; exact F) (gd.room.mono hj) (gd.gl hg) (by rw [gd.mg]; exact hm) (by rw [gd.K]; exact hk) (by rw [gd.K]; exact hb) .nil pass0 (a1 X gd) (okName_d (gloB_ok hg).2).1 (he _) (hpl _)
theorem re_call0 {j : Nat} {x : Str} {g : List O → Option (O × List O)} {p : Pos} (hf : Cal C.P C.w C.K C.mg C.base j x 0 g) (hj : j ≤ C.k) (hg : gloB sc x = true := by decide +kernel) : RE C N sc (.Call (.Name x p) [] [] pos) (m_call g a_nil) := by
  obtain ⟨f, fd, ps, hps, F, hm, hk, hb⟩ := hf.ex
  refine ⟨tCall (spM C.K 0 g) [] E0 tNil, fun X gd => ?_, rf_call rfa_nil ALen.nil.ok⟩
  exact pe_call0 (by rw [gd.prog, gd.w, gd.K, gd.mg, gd.base]; exact F) (gd.room.mono hj) (gd.gl hg) (by rw [gd.mg]; exact hm) (by rw [gd.K]; exact hk) (by rw [gd.K]; exact hb) .nil pass0 (okName_d (gloB_ok hg).2).1
end

/-! ### tests -/
abbrev MT := List O → Option (Bool × List O)
def Rft (K : PySem.W.Frag) (t : TT) (m : MT) : Prop := ∀ (c : Cc) (τ : Cells) (ρ : List O) (σ : L2.St) (H : Hp) (Q : Bool → Hp → Prop) (b : Bool) (ρ' : List O), ρ.length = σ.length → Rel K c (τ ++ ρ.zip σ) H → m ρ = some (b, ρ') →
  (∀ H', ρ'.length = σ.length → Rel K c (τ ++ ρ'.zip σ) H' → Q b H') → t σ H Q
def RT (C : Cd) (N : List Str) (sc : Sk) (e : Expr) (m : MT) : Prop := ∃ t, (∀ X, Gd C N sc X → PT X e t) ∧ Rft C.K t m
def RW (C : Cd) (N : List Str) (sc : Sk) (e : Expr) (m : MT) : Prop := ∃ t, (∀ X, Gd C N sc X → PW X e t) ∧ Rft C.K t m
def asB : O → Option Bool
  | .v (.bl b) => some b
  | _ => none
def m_tst (m : ME) : MT := fun ρ => (m ρ).bind fun a => (asB a.1).map fun b => (b, a.2)
def truD : D → Option Bool
  | .non => some false
  | .bl b => some b
  | .int i => some (i != 0)
  | .str s => if s.length ≤ 1000000 then some ((s.length : Int) != 0) else none
  | .tup ds => some (!ds.isEmpty)
  | .lst ds => some (!ds.isEmpty)
  | .rl ds => some (!ds.isEmpty)
  | .ty _ => none
def m_tru (m : MP) : MT := fun ρ => (m ρ).bind fun a => (vw a.2 a.1).bind fun d => (truD d).map fun b => (b, a.2)
def m_and (a b : MT) : MT := fun ρ => (a ρ).bind fun r => if r.1 = true then b r.2 else some (false, r.2)
def m_or (a b : MT) : MT := fun ρ => (a ρ).bind fun r => if r.1 = true then some (true, r.2) else b r.2
def m_not (a : MT) : MT := fun ρ => (a ρ).map fun r => (!r.1, r.2)
theorem asB_ok {o : O} {b : Bool} (h : asB o = some b) : o = .v (.bl b) := by
  unfold asB at h
  split at h
  · cases h; rfl
  · cases h
theorem line6 {n : Nat} (h : n ≤ 1000000) : n ≤ sizeLine := Nat.le_trans h (by decide)
section
variable {K : PySem.W.Frag}
theorem Rel.bl {c : Cc} {b : Bool} {x : V} {cs : Cells} {H : Hp} (r : Rel K c ((.v (.bl b), some x) :: cs) H) : x = .bl b := by
  obtain ⟨F, y, _, e, q⟩ := r.val List.mem_cons_self
  cases e
  exact q
theorem rft_tst {t : TE} {m : ME} (h : Rf K t m) : Rft K (fun σ H Q => t σ H fun x H' => ∃ k, x = .bl k ∧ Q k H') (m_tst m) := by
  intro c τ ρ σ H Q b ρ' hl r e k
  unfold m_tst at e
  obtain ⟨⟨o, ρ1⟩, e1, e⟩ := Option.bind_eq_some_iff.mp e
  obtain ⟨b1, e2, e⟩ := Option.map_eq_some_iff.mp e
  cases e
  refine h c τ ρ σ H _ o _ hl r e1 fun x H' hl' r' => ?_
  have eo := asB_ok (o := o) e2
  subst eo
  exact ⟨b, r'.bl, k H' hl' r'.drop⟩
theorem truV_of {h H : Hp} {d : D} {x : V} {b : Bool} (hs : Same h H) (q : Vw K h H d x) (e : truD d = some b) : TruV K x H b := by
  rcases q with q | ⟨ds, a, xs, rfl, rfl, q1, q2⟩
  · cases d with
    | non => cases q; cases e; rfl
    | bl b' => cases q; cases e; rfl
    | int i => cases q; cases e; rfl
    | str s =>
      cases q
      unfold truD at e
      simp only at e
      split at e
      · rename_i hz
        cases e
        exact ⟨line6 hz, rfl⟩
      · cases e
    | tup ds =>
      obtain ⟨a, xs, rfl, q1, q2⟩ := q
      cases e
      refine .inr (.inl ⟨xs, sqT_same hs q1, ?_⟩)
      cases ds with
      | nil => cases q2; rfl
      | cons d ds => obtain ⟨x, r, e, _⟩ := q2; rw [e]; rfl
    | lst ds =>
      obtain ⟨a, xs, rfl, q1, q2⟩ := q
      cases e
      refine .inl ⟨xs, .inl (.inl (hs _ _ q1)), ?_⟩
      cases ds with
      | nil => cases q2; rfl
      | cons d ds => obtain ⟨x, r, e, _⟩ := q2; rw [e]; rfl
    | ty n => cases e
    | rl ds =>
      obtain ⟨a, xs, rfl, q1, q2⟩ := q
      cases e
      refine .inl ⟨xs, hs.seq q1, ?_⟩
      cases ds with
      | nil => cases q2; rfl
      | cons d ds => obtain ⟨x, r, e, _⟩ := q2; rw [e]; rfl
  · cases e
    refine .inl ⟨xs, .inl (.inl q1), ?_⟩
    cases ds with
    | nil => cases q2; rfl
    | cons d ds => obtain ⟨x, r, e, _⟩ := q2; rw [e]; rfl
theorem rft_tru {t : TE} {m : MP} (h : Rfp K t m) : Rft K (fun σ H Q => t σ H fun x H' => ∃ k, TruV K x H' k ∧ Q k H') (m_tru m) := by
  intro c τ ρ σ H Q b ρ' hl r e k
  unfold m_tru at e
  obtain ⟨⟨p, ρ1⟩, e1, e⟩ := Option.bind_eq_some_iff.mp e
  obtain ⟨d, e2, e⟩ := Option.bind_eq_some_iff.mp e
  obtain ⟨b1, e3, e⟩ := Option.map_eq_some_iff.mp e
  cases e
  refine h c τ ρ σ H _ p _ hl r e1 fun x H' hl' pv r' => ?_
  obtain ⟨F, rr⟩ := id r'
  obtain ⟨o1, x1, x2⟩ := vw_mem e2 pv
  exact ⟨b, truV_of hid_same (rr.vw (o := o1) (by rcases x2 with z | z <;> simp [z]) x1) e3, k H' hl' r'.drops⟩
theorem rft_and {t u : TT} {a b : MT} (h1 : Rft K t a) (h2 : Rft K u b) : Rft K (tAnd t u) (m_and a b) := by
  intro c τ ρ σ H Q b' ρ' hl r e k
  unfold m_and at e
  obtain ⟨⟨b1, ρ1⟩, e1, e⟩ := Option.bind_eq_some_iff.mp e
  refine h1 c τ ρ σ H _ b1 ρ1 hl r e1 fun H' hl' r' => ?_
  cases b1 with
  | true => rw [if_pos rfl]; exact h2 c τ ρ1 σ H' _ b' ρ' hl' r' (by simpa using e) k
  | false =>
    rw [if_neg Bool.false_ne_true]
    have e' : some (false, ρ1) = some (b', ρ') := by simpa using e
    cases e'
    exact k H' hl' r'
theorem rft_or {t u : TT} {a b : MT} (h1 : Rft K t a) (h2 : Rft K u b) : Rft K (tOr t u) (m_or a b) := by
  intro c τ ρ σ H Q b' ρ' hl r e k
  unfold m_or at e
  obtain ⟨⟨b1, ρ1⟩, e1, e⟩ := Option.bind_eq_some_iff.mp e
  refine h1 c τ ρ σ H _ b1 ρ1 hl r e1 fun H' hl' r' => ?_
  cases b1 with
  | false => rw [if_neg Bool.false_ne_true]; exact h2 c τ ρ1 σ H' _ b' ρ' hl' r' (by simpa using e) k
  | true =>
    rw [if_pos rfl]
    have e' : some (true, ρ1) = some (b', ρ') := by simpa using e
    cases e'
    exact k H' hl' r'
theorem rft_not {t : TT} {a : MT} (h1 : Rft K t a) : Rft K (tNot t) (m_not a) := by
  intro c τ ρ σ H Q b' ρ' hl r e k
  unfold m_not at e
  obtain ⟨⟨b1, ρ1⟩, e1, e⟩ := Option.map_eq_some_iff.mp e
  cases e
  exact h1 c τ ρ σ H _ b1 _ hl r e1 fun H' hl' r' => k H' hl' r'
end
/-- and, or, not as values; a if t else b -/
def m_andV (a b : ME) : ME := fun ρ => (a ρ).bind fun r => (asB r.1).bind fun k => if k = true then b r.2 else some (.v (.bl false), r.2)
def m_orV (a b : ME) : ME := fun ρ => (a ρ).bind fun r => (asB r.1).bind fun k => if k = true then some (.v (.bl true), r.2) else b r.2
def m_notV (a : ME) : ME := fun ρ => (a ρ).bind fun r => (asB r.1).map fun k => (.v (.bl (!k)), r.2)
def m_if (t : MT) (a b : ME) : ME := fun ρ => (t ρ).bind fun r => if r.1 = true then a r.2 else b r.2
section
variable {K : PySem.W.Frag}
theorem Rel.setBl {c : Cc} {b : Bool} {p : O × Option V} {cs : Cells} {H : Hp} (r : Rel K c (p :: cs) H) : Rel K c ((.v (.bl b), some (.bl b)) :: cs) H := by
  obtain ⟨F, r⟩ := r.drop
  exact r.add rfl
theorem rf_andV {t u : TE} {a b : ME} (h1 : Rf K t a) (h2 : Rf K u b) : Rf K (tAndV t u) (m_andV a b) := by
  intro c τ ρ σ H Q o ρ' hl r e k
  unfold m_andV at e
  obtain ⟨⟨o1, ρ1⟩, e1, e⟩ := Option.bind_eq_some_iff.mp e
  obtain ⟨b1, e2, e⟩ := Option.bind_eq_some_iff.mp e
  refine h1 c τ ρ σ H _ o1 ρ1 hl r e1 fun x H' hl' r' => ?_
  have eo := asB_ok (o := o1) e2
  subst eo
  refine ⟨b1, r'.bl, ?_⟩
  cases b1 with
  | true => rw [if_pos rfl]; exact h2 c τ ρ1 σ H' _ o ρ' hl' r'.drop (by simpa using e) k
  | false =>
    rw [if_neg Bool.false_ne_true]
    have e' : some (O.v (.bl false), ρ1) = some (o, ρ') := by simpa using e
    cases e'
    exact k _ H' hl' r'.setBl
theorem rf_orV {t u : TE} {a b : ME} (h1 : Rf K t a) (h2 : Rf K u b) : Rf K (tOrV t u) (m_orV a b) := by
  intro c τ ρ σ H Q o ρ' hl r e k
  unfold m_orV at e
  obtain ⟨⟨o1, ρ1⟩, e1, e⟩ := Option.bind_eq_some_iff.mp e
  obtain ⟨b1, e2, e⟩ := Option.bind_eq_some_iff.mp e
  refine h1 c τ ρ σ H _ o1 ρ1 hl r e1 fun x H' hl' r' => ?_
  have eo := asB_ok (o := o1) e2
  subst eo
  refine ⟨b1, r'.bl, ?_⟩
  cases b1 with
  | false => rw [if_neg Bool.false_ne_true]; exact h2 c τ ρ1 σ H' _ o ρ' hl' r'.drop (by simpa using e) k
  | true =>
    rw [if_pos rfl]
    have e' : some (O.v (.bl true), ρ1) = some (o, ρ') := by simpa using e
    cases e'
    exact k _ H' hl' r'.setBl
theorem rf_notV {t : TE} {a : ME} (h1 : Rf K t a) : Rf K (tNotV t) (m_notV a) := by
  intro c τ ρ σ H Q o ρ' hl r e k
  unfold m_notV at e
  obtain ⟨⟨o1, ρ1⟩, e1, e⟩ := Option.bind_eq_some_iff.mp e
  obtain ⟨b1, e2, e⟩ := Option.map_eq_some_iff.mp e
  cases e
  refine h1 c τ ρ σ H _ o1 _ hl r e1 fun x H' hl' r' => ?_
  have eo := asB_ok (o := o1) e2
  subst eo
  exact ⟨b1, r'.bl, k _ H' hl' r'.setBl⟩
theorem rf_if {t : TT} {u v : TE} {mt : MT} {a b : ME} (ht : Rft K t mt) (h1 : Rf K u a) (h2 : Rf K v b) : Rf K (tIf t u v) (m_if mt a b) := by
  intro c τ ρ σ H Q o ρ' hl r e k
  unfold m_if at e
  obtain ⟨⟨b1, ρ1⟩, e1, e⟩ := Option.bind_eq_some_iff.mp e
  refine ht c τ ρ σ H _ b1 ρ1 hl r e1 fun H' hl' r' => ?_
  cases b1 with
  | true => rw [if_pos rfl]; exact h1 c τ ρ1 σ H' _ o ρ' hl' r' (by simpa using e) k
  | false => rw [if_neg Bool.false_ne_true]; exact h2 c τ ρ1 σ H' _ o ρ' hl' r' (by simpa using e) k
end
section
variable {C : Cd} {N : List Str} {sc : Sk} {pos : Pos}
/-- a test that is a comparison -/
theorem rt_cmp {op : CmpOp} {a b : Expr} {ma mb : MP} {f : D → D → Option Res} (r : PySem.W.Frag → R2) (ho : ∀ X : Cx, X.A.units + 64 < cLine → OpR X (compareOp op) (r X.K)) (hr : R2ok C.K (r C.K) f) (ha : RP C N sc a ma) (hb : RP C N sc b mb) (hm : behindInMarks op b = false) : RT C N sc (.Compare a [op] [b] pos) (m_tst (m_op2 f ma mb)) :=
  let ⟨t, a1, a2⟩ := ha; let ⟨u, b1, b2⟩ := hb
  ⟨tTest (tOp (r C.K) t u), fun X g => pt_cmpR (by rw [← g.K]; exact ho X g.room.units) (a1 X g) (b1 X g) hm, rft_tst (rf_op2 hr a2 b2)⟩
/-- any other expression as a test, by its truth -/
theorem rt_tru {e : Expr} {m : MP} (h : RP C N sc e m) (he : ∀ (env : Env) (whole : Sem Value), isTrue e env whole = (do let v ← whole; standAt e.pos; holding [v] (truthy v)) := by intro _ _; rfl) : RT C N sc e (m_tru m) :=
  let ⟨t, a1, a2⟩ := h
  ⟨_, fun X g => by have q := pt_truth (a1 X g) (he _); rw [g.K] at q; exact q, rft_tru a2⟩
theorem rt_not {e : Expr} {m : MT} (h : RT C N sc e m) : RT C N sc (.UnaryOp .Not e pos) (m_not m) := let ⟨t, a1, a2⟩ := h; ⟨_, fun X g => pt_not (a1 X g), rft_not a2⟩
theorem rw_and1 {e : Expr} {m : MT} (h : RT C N sc e m) : RW C N sc (.BoolOp .And [e] pos) m := let ⟨t, a1, a2⟩ := h; ⟨_, fun X g => pw_and1 (a1 X g), a2⟩
theorem rw_or1 {e : Expr} {m : MT} (h : RT C N sc e m) : RW C N sc (.BoolOp .Or [e] pos) m := let ⟨t, a1, a2⟩ := h; ⟨_, fun X g => pw_or1 (a1 X g), a2⟩
theorem rw_and {e e2 : Expr} {es : List Expr} {m m2 : MT} (h : RT C N sc e m) (h2 : RW C N sc (.BoolOp .And (e2 :: es) pos) m2) : RW C N sc (.BoolOp .And (e :: e2 :: es) pos) (m_and m m2) := let ⟨t, a1, a2⟩ := h; let ⟨u, b1, b2⟩ := h2; ⟨_, fun X g => pw_and (a1 X g) (b1 X g), rft_and a2 b2⟩
theorem rw_or {e e2 : Expr} {es : List Expr} {m m2 : MT} (h : RT C N sc e m) (h2 : RW C N sc (.BoolOp .Or (e2 :: es) pos) m2) : RW C N sc (.BoolOp .Or (e :: e2 :: es) pos) (m_or m m2) := let ⟨t, a1, a2⟩ := h; let ⟨u, b1, b2⟩ := h2; ⟨_, fun X g => pw_or (a1 X g) (b1 X g), rft_or a2 b2⟩
theorem rt_bool {e : Expr} {m : MT} (h : RW C N sc e m) : RT C N sc e m := let ⟨t, a1, a2⟩ := h; ⟨t, fun X g => (a1 X g).pt, a2⟩
theorem re_one {op : BoolOp} {e : Expr} {m : ME} (h : RE C N sc e m) : RE C N sc (.BoolOp op [e] pos) m := let ⟨t, a1, a2⟩ := h; ⟨t, fun X g => pe_one (a1 X g), a2⟩
theorem re_and {e e2 : Expr} {es : List Expr} {m m2 : ME} (h : RE C N sc e m) (h2 : RE C N sc (.BoolOp .And (e2 :: es) pos) m2) : RE C N sc (.BoolOp .And (e :: e2 :: es) pos) (m_andV m m2) := let ⟨t, a1, a2⟩ := h; let ⟨u, b1, b2⟩ := h2; ⟨_, fun X g => pe_and (a1 X g) (b1 X g), rf_andV a2 b2⟩
theorem re_or {e e2 : Expr} {es : List Expr} {m m2 : ME} (h : RE C N sc e m) (h2 : RE C N sc (.BoolOp .Or (e2 :: es) pos) m2) : RE C N sc (.BoolOp .Or (e :: e2 :: es) pos) (m_orV m m2) := let ⟨t, a1, a2⟩ := h; let ⟨u, b1, b2⟩ := h2; ⟨_, fun X g => pe_or (a1 X g) (b1 X g), rf_orV a2 b2⟩
theorem re_not {e : Expr} {m : ME} (h : RE C N sc e m) : RE C N sc (.UnaryOp .Not e pos) (m_notV m) := let ⟨t, a1, a2⟩ := h; ⟨_, fun X g => pe_not (a1 X g), rf_notV a2⟩
theorem re_if {e a b : Expr} {mt : MT} {ma mb : ME} (h : RT C N sc e mt) (h1 : RE C N sc a ma) (h2 : RE C N sc b mb) : RE C N sc (.IfExp e a b pos) (m_if mt ma mb) := let ⟨t, a1, a2⟩ := h; let ⟨u, b1, b2⟩ := h1; let ⟨v, c1, c2⟩ := h2; ⟨_, fun X g => pe_ifExp (a1 X g) (b1 X g) (c1 X g), rf_if a2 b2 c2⟩
end

/-! ### a chain of two comparisons -/
def m_chain (f g : D → D → Option Res) (ma mb mc : MP) : ME := fun ρ => (ma ρ).bind fun a => (mb a.2).bind fun b => (vw b.2 a.1).bind fun d1 => (vw b.2 b.1).bind fun d2 => (f d1 d2).bind fun r => (asB r.o).bind fun k =>
  if k = true then (mc b.2).bind fun c => (vw c.2 b.1).bind fun d2' => (vw c.2 c.1).bind fun d3 => (g d2' d3).map fun r => (r.o, c.2) else some (.v (.bl false), b.2)
/-- the answer of a comparison: it leaves the heap -/
def R2b (K : PySem.W.Frag) (r : R2) (f : D → D → Option Res) : Prop := R2ok K r f ∧ ∀ d1 d2 res, f d1 d2 = some res → ∃ b, res = .s (.bl b)
section
variable {K : PySem.W.Frag}
theorem rf_chain {r r' : R2} {f f' : D → D → Option Res} {ta tb tc : TE} {ma mb mc : MP} (hr : R2b K r f) (hr' : R2b K r' f') (ha : Rfp K ta ma) (hb : Rfp K tb mb) (hc : Rfp K tc mc) : Rf K (tChain r r' ta tb tc) (m_chain f f' ma mb mc) := by
  intro c τ ρ σ H Q o ρ' hl rl e k
  unfold m_chain at e
  obtain ⟨⟨p1, ρ1⟩, e1, e⟩ := Option.bind_eq_some_iff.mp e
  obtain ⟨⟨p2, ρ2⟩, e2, e⟩ := Option.bind_eq_some_iff.mp e
  obtain ⟨d1, e3, e⟩ := Option.bind_eq_some_iff.mp e
  obtain ⟨d2, e4, e⟩ := Option.bind_eq_some_iff.mp e
  obtain ⟨res, e5, e⟩ := Option.bind_eq_some_iff.mp e
  obtain ⟨b, e6, e⟩ := Option.bind_eq_some_iff.mp e
  refine ha c τ ρ σ H _ p1 ρ1 hl rl e1 fun x H1 hl1 pv1 r1 => ?_
  refine hb c (kap p1 x ++ τ) ρ1 σ H1 _ p2 ρ2 hl1 (by rw [List.append_assoc]; exact r1) e2 fun y H2 hl2 pv2 r2 => ?_
  obtain ⟨F, rr⟩ := id r2
  obtain ⟨o1, x1, x2⟩ := vw_mem e3 pv1
  obtain ⟨o2, y1, y2⟩ := vw_mem e4 pv2
  refine hr.1 _ H2 x y d1 d2 res _ hid_same (rr.vw (o := o1) ?_ x1) (rr.vw (o := o2) ?_ y1) e5 fun z H3 q => ?_
  · rcases x2 with x2 | x2
    · simp [x2]
    · simp [x2]
  · rcases y2 with y2 | y2
    · simp [y2]
    · simp [y2]
  · obtain ⟨b', eb⟩ := hr.2 _ _ _ e5
    subst eb
    obtain ⟨rfl, q⟩ := q
    have q' : z = .bl b' := q
    subst q'
    have ebb : b' = b := Option.some.inj e6
    subst ebb
    refine ⟨b', rfl, ?_⟩
    have r2' : Rel K c ((kap p2 y ++ τ) ++ ρ2.zip σ) H3 := by
      rw [List.append_assoc, ← List.append_assoc (kap p1 x)] at *
      have := r2
      rw [List.append_assoc (kap p1 x)] at this
      exact Rel.mid this
    cases b' with
    | false =>
      rw [if_neg Bool.false_ne_true]
      have e' : some (O.v (.bl false), ρ2) = some (o, ρ') := by simpa using e
      cases e'
      refine k _ H3 hl2 ?_
      rw [List.append_assoc] at r2'
      obtain ⟨G, g⟩ := r2'.drops
      exact g.add rfl
    | true =>
      rw [if_pos rfl]
      have e : ((mc ρ2).bind fun c => (vw c.2 p2).bind fun d2' => (vw c.2 c.1).bind fun d3 => (f' d2' d3).map fun r => (r.o, c.2)) = some (o, ρ') := by simpa using e
      obtain ⟨⟨p3, ρ3⟩, e7, e⟩ := Option.bind_eq_some_iff.mp e
      obtain ⟨d2', e8, e⟩ := Option.bind_eq_some_iff.mp e
      obtain ⟨d3, e9, e⟩ := Option.bind_eq_some_iff.mp e
      obtain ⟨res', e10, e⟩ := Option.map_eq_some_iff.mp e
      cases e
      refine hc c (kap p2 y ++ τ) ρ2 σ H3 _ p3 ρ3 hl2 r2' e7 fun w H4 hl4 pv3 r3 => ?_
      obtain ⟨G, gg⟩ := id r3
      obtain ⟨o3, x3, x4⟩ := vw_mem e8 pv2
      obtain ⟨o4, y3, y4⟩ := vw_mem e9 pv3
      refine hr'.1 _ H4 y w d2' d3 res' _ hid_same (gg.vw (o := o3) ?_ x3) (gg.vw (o := o4) ?_ y3) e10 fun z H5 q => k z H5 hl4 ?_
      · rcases x4 with x2 | x2
        · simp [x2]
        · simp [x2]
      · rcases y4 with y2 | y2
        · simp [y2]
        · simp [y2]
      · have q1 := (gg.res q).mid1
        rw [List.append_assoc] at q1
        exact q1.mid1
end
section
variable {C : Cd} {N : List Str} {sc : Sk} {pos : Pos}
theorem re_chain {op op' : CmpOp} {a b e : Expr} {ma mb mc : MP} {f f' : D → D → Option Res} (r r' : PySem.W.Frag → R2) (ho : ∀ X : Cx, X.A.units + 64 < cLine → OpR X (compareOp op) (r X.K)) (ho' : ∀ X : Cx, X.A.units + 64 < cLine → OpR X (compareOp op') (r' X.K)) (hr : R2b C.K (r C.K) f) (hr' : R2b C.K (r' C.K) f')
    (ha : RP C N sc a ma) (hb : RP C N sc b mb) (hc : RP C N sc e mc) (hm : lastMarks [op, op'] [b, e] = false := by with_unfolding_all rfl) : RE C N sc (.Compare a [op, op'] [b, e] pos) (m_chain f f' ma mb mc) :=
  let ⟨t, a1, a2⟩ := ha; let ⟨u, b1, b2⟩ := hb; let ⟨v, c1, c2⟩ := hc
  ⟨tChain (r C.K) (r' C.K) t u v, fun X g => pe_chain (by rw [← g.K]; exact ho X g.room.units) (by rw [← g.K]; exact ho' X g.room.units) (a1 X g) (b1 X g) (c1 X g) hm, rf_chain hr hr' a2 b2 c2⟩
theorem rt_chain {op op' : CmpOp} {a b e : Expr} {ma mb mc : MP} {f f' : D → D → Option Res} (r r' : PySem.W.Frag → R2) (ho : ∀ X : Cx, X.A.units + 64 < cLine → OpR X (compareOp op) (r X.K)) (ho' : ∀ X : Cx, X.A.units + 64 < cLine → OpR X (compareOp op') (r' X.K)) (hr : R2b C.K (r C.K) f) (hr' : R2b C.K (r' C.K) f')
    (ha : RP C N sc a ma) (hb : RP C N sc b mb) (hc : RP C N sc e mc) (hm : lastMarks [op, op'] [b, e] = false := by with_unfolding_all rfl) : RT C N sc (.Compare a [op, op'] [b, e] pos) (m_tst (m_chain f f' ma mb mc)) :=
  let ⟨t, a1, a2⟩ := ha; let ⟨u, b1, b2⟩ := hb; let ⟨v, c1, c2⟩ := hc
  ⟨tTest (tChain (r C.K) (r' C.K) t u v), fun X g => pt_chain (by rw [← g.K]; exact ho X g.room.units) (by rw [← g.K]; exact ho' X g.room.units) (a1 X g) (b1 X g) (c1 X g) hm, rft_tst (rf_chain hr hr' a2 b2 c2)⟩
end
end Mr

set_option Elab.async false
set_option linter.all false
set_option maxRecDepth 100000
set_option maxHeartbeats 4000000
/-! MrD: statements, loops, comprehensions, defs. -/
namespace Mr
open PySem PySem.Spec PyProof.Rows L2

/-! ### statements -/
inductive Out where
  | nx (ρ : List O) | rt (o : O) (ρ : List O) | bk (ρ : List O) | ct (ρ : List O)
abbrev MS := List O → Option Out
/-- the slots that stay -/
def lkp (lk : List Nat) (σ σ' : L2.St) : Prop := ∀ i ∈ lk, σ'[i]? = σ[i]?
theorem lkp.refl {lk : List Nat} {σ : L2.St} : lkp lk σ σ := fun _ _ => rfl
theorem lkp.trans {lk : List Nat} {σ σ' σ'' : L2.St} (a : lkp lk σ σ') (b : lkp lk σ' σ'') : lkp lk σ σ'' := fun i hi => (b i hi).trans (a i hi)
theorem lkp.set {lk : List Nat} {σ : L2.St} {i : Nat} {x : Option V} (h : i ∉ lk) : lkp lk σ (σ.set i x) := fun j hj => List.getElem?_set_ne (fun e => h (by rw [e]; exact hj))
def OutOk (K : PySem.W.Frag) (c : Cc) (τ : Cells) (lk : List Nat) (σ : L2.St) (D : Ends) : Out → Prop
  | .nx ρ' => ∀ σ' H', ρ'.length = σ'.length → σ'.length = σ.length → lkp lk σ σ' → Rel K c (τ ++ ρ'.zip σ') H' → D.nx σ' H'
  | .rt o ρ' => ∀ x σ' H', ρ'.length = σ'.length → σ'.length = σ.length → lkp lk σ σ' → Rel K c ((o, some x) :: (τ ++ ρ'.zip σ')) H' → D.rt x H'
  | .bk ρ' => ∀ σ' H', ρ'.length = σ'.length → σ'.length = σ.length → lkp lk σ σ' → Rel K c (τ ++ ρ'.zip σ') H' → D.bk σ' H'
  | .ct ρ' => ∀ σ' H', ρ'.length = σ'.length → σ'.length = σ.length → lkp lk σ σ' → Rel K c (τ ++ ρ'.zip σ') H' → D.ct σ' H'
def Rfs (K : PySem.W.Frag) (n : Nat) (lk : List Nat) (t : TS) (m : MS) : Prop := ∀ (c : Cc) (τ : Cells) (ρ : List O) (σ : L2.St) (H : Hp) (D : Ends) (out : Out), ρ.length = σ.length → σ.length = n → Rel K c (τ ++ ρ.zip σ) H → m ρ = some out → OutOk K c τ lk σ D out → t D σ H
def RS (C : Cd) (N : List Str) (sc : Sk) (lk : List Nat) (st : Stmt) (m : MS) : Prop := ∃ t, (∀ X, Gd C N sc X → X.xe = (fun _ _ => False) → PS X st t) ∧ Rfs C.K N.length lk t m
def RSs (C : Cd) (N : List Str) (sc : Sk) (lk : List Nat) (st : List Stmt) (m : MS) : Prop := ∃ t, (∀ X, Gd C N sc X → X.xe = (fun _ _ => False) → PSs X st t) ∧ Rfs C.K N.length lk t m
/-- targets -/
abbrev MG := D → List O → Option (List O)
def Rfg (K : PySem.W.Frag) (n : Nat) (lk : List Nat) (g : TG) (m : MG) : Prop := ∀ (c : Cc) (τ : Cells) (ρ : List O) (σ : L2.St) (H : Hp) (d : D) (x : V) (ρ' : List O) (Q : L2.St → Hp → Prop), ρ.length = σ.length → σ.length = n → Rel K c ((.v d, some x) :: (τ ++ ρ.zip σ)) H → m d ρ = some ρ' →
  (∀ σ' H', ρ'.length = σ'.length → σ'.length = σ.length → lkp lk σ σ' → Rel K c (τ ++ ρ'.zip σ') H' → Q σ' H') → g x σ H Q
/-- vs: the slots that the target stores -/
def RG (C : Cd) (N : List Str) (sc : Sk) (vs : List Nat) (tg : Expr) (m : MG) : Prop := ∃ g, (∀ X, Gd C N sc X → PG X tg g) ∧ ∀ lk : List Nat, (∀ i ∈ lk, i ∉ vs) → Rfg C.K N.length lk g m
def s_nop : MS := fun ρ => some (.nx ρ)
def s_seq (a b : MS) : MS := fun ρ => (a ρ).bind fun o => match o with
  | .nx ρ' => b ρ'
  | o => some o
def s_if (t : MT) (a b : MS) : MS := fun ρ => (t ρ).bind fun r => if r.1 = true then a r.2 else b r.2
def s_drop (m : ME) : MS := fun ρ => (m ρ).map fun a => .nx a.2
def s_ret (m : ME) : MS := fun ρ => (m ρ).map fun a => .rt a.1 a.2
def s_retN : MS := fun ρ => some (.rt (.v .non) ρ)
def s_bk : MS := fun ρ => some (.bk ρ)
def s_ct : MS := fun ρ => some (.ct ρ)
def s_no : MS := fun _ => none
def s_set (i : Nat) (m : ME) : MS := fun ρ => (m ρ).map fun a => .nx (a.2.set i a.1)
def g_name (i : Nat) : MG := fun d ρ => some (ρ.set i (.v d))
def toD : O → Option D
  | .v d => some d
  | .l ds => some (.lst ds)
  | .n => none
/-- target = value, a value that becomes plain -/
def s_asg (g : MG) (m : ME) : MS := fun ρ => (m ρ).bind fun a => (toD a.1).bind fun d => (g d a.2).map fun ρ' => .nx ρ'
section
variable {K : PySem.W.Frag} {n : Nat} {lk : List Nat}
theorem rfs_nop : Rfs K n lk tNext s_nop := by
  intro c τ ρ σ H D out hl hn r e k
  cases e
  exact k σ H hl rfl .refl r
theorem rfs_no {t : TS} : Rfs K n lk t s_no := by
  intro c τ ρ σ H D out hl hn r e k
  cases e
theorem rfs_seq {t u : TS} {a b : MS} (h1 : Rfs K n lk t a) (h2 : Rfs K n lk u b) : Rfs K n lk (tSeq t u) (s_seq a b) := by
  intro c τ ρ σ H D out hl hn r e k
  unfold s_seq at e
  obtain ⟨o1, e1, e⟩ := Option.bind_eq_some_iff.mp e
  refine h1 c τ ρ σ H _ o1 hl hn r e1 ?_
  cases o1 with
  | nx ρ1 =>
    intro σ' H' hl' hs' hk' r'
    refine h2 c τ ρ1 σ' H' D out hl' (hs'.trans hn) r' e ?_
    cases out with
    | nx ρ2 => exact fun σ2 H2 a1 a2 a3 a4 => k σ2 H2 a1 (a2.trans hs') (hk'.trans a3) a4
    | rt o ρ2 => exact fun x σ2 H2 a1 a2 a3 a4 => k x σ2 H2 a1 (a2.trans hs') (hk'.trans a3) a4
    | bk ρ2 => exact fun σ2 H2 a1 a2 a3 a4 => k σ2 H2 a1 (a2.trans hs') (hk'.trans a3) a4
    | ct ρ2 => exact fun σ2 H2 a1 a2 a3 a4 => k σ2 H2 a1 (a2.trans hs') (hk'.trans a3) a4
  | rt o ρ1 => cases e; exact k
  | bk ρ1 => cases e; exact k
  | ct ρ1 => cases e; exact k
theorem rfs_if {t : TT} {u v : TS} {mt : MT} {a b : MS} (ht : Rft K t mt) (h1 : Rfs K n lk u a) (h2 : Rfs K n lk v b) : Rfs K n lk (tIfS t u v) (s_if mt a b) := by
  intro c τ ρ σ H D out hl hn r e k
  unfold s_if at e
  obtain ⟨⟨b1, ρ1⟩, e1, e⟩ := Option.bind_eq_some_iff.mp e
  refine ht c τ ρ σ H _ b1 ρ1 hl r e1 fun H' hl' r' => ?_
  cases b1 with
  | true => rw [if_pos rfl]; exact h1 c τ ρ1 σ H' D out hl' hn r' (by simpa using e) k
  | false => rw [if_neg Bool.false_ne_true]; exact h2 c τ ρ1 σ H' D out hl' hn r' (by simpa using e) k
theorem rfs_drop {t : TE} {m : ME} (h : Rf K t m) : Rfs K n lk (tDrop t) (s_drop m) := by
  intro c τ ρ σ H D out hl hn r e k
  unfold s_drop at e
  obtain ⟨⟨o, ρ1⟩, e1, e⟩ := Option.map_eq_some_iff.mp e
  cases e
  exact h c τ ρ σ H _ o ρ1 hl r e1 fun x H' hl' r' => k σ H' hl' rfl .refl r'.drop
theorem rfs_ret {t : TE} {m : ME} (h : Rf K t m) : Rfs K n lk (tRet t) (s_ret m) := by
  intro c τ ρ σ H D out hl hn r e k
  unfold s_ret at e
  obtain ⟨⟨o, ρ1⟩, e1, e⟩ := Option.map_eq_some_iff.mp e
  cases e
  exact h c τ ρ σ H _ o ρ1 hl r e1 fun x H' hl' r' => k x σ H' hl' rfl .refl r'
theorem rfs_retN : Rfs K n lk tRetN s_retN := by
  intro c τ ρ σ H D out hl hn r e k
  cases e
  obtain ⟨F, rr⟩ := id r
  exact k .non σ H hl rfl .refl (rr.add rfl)
theorem rfs_bk : Rfs K n lk tBreak s_bk := by
  intro c τ ρ σ H D out hl hn r e k
  cases e
  exact k σ H hl rfl .refl r
theorem rfs_ct : Rfs K n lk tCont s_ct := by
  intro c τ ρ σ H D out hl hn r e k
  cases e
  exact k σ H hl rfl .refl r
theorem rfs_set {t : TE} {m : ME} {i : Nat} (h : Rf K t m) (hi : i < n) (hk : i ∉ lk) : Rfs K n lk (tAsg t (gName i)) (s_set i m) := by
  intro c τ ρ σ H D out hl hn r e k
  unfold s_set at e
  obtain ⟨⟨o, ρ1⟩, e1, e⟩ := Option.map_eq_some_iff.mp e
  cases e
  refine h c τ ρ σ H _ o ρ1 hl r e1 fun x H' hl' r' => ?_
  exact k _ H' (by rw [List.length_set, List.length_set]; exact hl') (by rw [List.length_set]) (.set hk) (r'.store hl' (by rw [hn]; exact hi))
theorem rfg_name {i : Nat} (hi : i < n) (hk : i ∉ lk) : Rfg K n lk (gName i) (g_name i) := by
  intro c τ ρ σ H d x ρ' Q hl hn r e k
  cases e
  exact k _ H (by rw [List.length_set, List.length_set]; exact hl) (by rw [List.length_set]) (.set hk) (r.store hl (by rw [hn]; exact hi))
theorem Rel.toD {c : Cc} {o : O} {d : D} {x : Option V} {cs : Cells} {H : Hp} (r : Rel K c ((o, x) :: cs) H) (e : toD o = some d) : Rel K c ((.v d, x) :: cs) H := by
  cases o with
  | n => cases e
  | v d' => cases e; exact r
  | l ds => cases e; exact r.rel
theorem rfs_asg {t : TE} {m : ME} {g : TG} {mg : MG} (h : Rf K t m) (hg : Rfg K n lk g mg) : Rfs K n lk (tAsg t g) (s_asg mg m) := by
  intro c τ ρ σ H D out hl hn r e k
  unfold s_asg at e
  obtain ⟨⟨o, ρ1⟩, e1, e⟩ := Option.bind_eq_some_iff.mp e
  obtain ⟨d, e2, e⟩ := Option.bind_eq_some_iff.mp e
  obtain ⟨ρ2, e3, e⟩ := Option.map_eq_some_iff.mp e
  cases e
  refine h c τ ρ σ H _ o ρ1 hl r e1 fun x H' hl' r' => ?_
  exact hg c τ ρ1 σ H' d x ρ2 _ hl' hn (r'.toD e2) e3 k
/-- (a, b, ..) = a tuple -/
abbrev MGs := List D → List O → Option (List O)
def gs_nil : MGs := fun ds ρ => match ds with
  | [] => some ρ
  | _ => none
def gs_cons (g : MG) (gs : MGs) : MGs := fun ds ρ => match ds with
  | d :: ds => (g d ρ).bind (gs ds)
  | _ => none
def g_tup (k : Nat) (gs : MGs) : MG := fun d ρ => match d with
  | .tup ds => if ds.length = k then gs ds ρ else none
  | _ => none
def Rfgs (K : PySem.W.Frag) (n : Nat) (lk : List Nat) (g : TGs) (m : MGs) : Prop := ∀ (c : Cc) (τ : Cells) (ρ : List O) (σ : L2.St) (H : Hp) (ds : List D) (xs : List V) (ρ' : List O) (Q : L2.St → Hp → Prop), ρ.length = σ.length → σ.length = n → Rel K c ((ds.map O.v).zip (xs.map some) ++ (τ ++ ρ.zip σ)) H → ds.length = xs.length → m ds ρ = some ρ' →
  (∀ σ' H', ρ'.length = σ'.length → σ'.length = σ.length → lkp lk σ σ' → Rel K c (τ ++ ρ'.zip σ') H' → Q σ' H') → g xs σ H Q
theorem rfgs_nil : Rfgs K n lk gNil gs_nil := by
  intro c τ ρ σ H ds xs ρ' Q hl hn r hd e k
  cases ds with
  | nil =>
    cases e
    have ex : xs = [] := List.length_eq_zero_iff.mp hd.symm
    subst ex
    exact ⟨rfl, k σ H hl rfl .refl r⟩
  | cons d ds => cases e
theorem rfgs_cons {g : TG} {gs : TGs} {m : MG} {ms : MGs} (h1 : Rfg K n lk g m) (h2 : Rfgs K n lk gs ms) : Rfgs K n lk (gCons g gs) (gs_cons m ms) := by
  intro c τ ρ σ H ds xs ρ' Q hl hn r hd e k
  cases ds with
  | nil => cases e
  | cons d ds =>
    cases xs with
    | nil => cases hd
    | cons x xs =>
      obtain ⟨ρ1, e1, e⟩ := Option.bind_eq_some_iff.mp (show (m d ρ).bind (ms ds) = some ρ' from e)
      have r' : Rel K c ((.v d, some x) :: (((ds.map O.v).zip (xs.map some) ++ τ) ++ ρ.zip σ)) H := by rw [List.append_assoc]; exact r
      refine ⟨x, xs, rfl, h1 c _ ρ σ H d x ρ1 _ hl hn r' e1 fun σ1 H1 hl1 hs1 hk1 r1 => ?_⟩
      exact h2 c τ ρ1 σ1 H1 ds xs ρ' Q hl1 (hs1.trans hn) (by rw [List.append_assoc] at r1; exact r1) (by simpa using hd) e fun σ2 H2 a1 a2 a3 a4 => k σ2 H2 a1 (a2.trans hs1) (hk1.trans a3) a4
theorem RelAt.adds {c : Cc} {F : List Addr} {cs : Cells} {H : Hp} (r : RelAt K c F cs H) : ∀ {ds : List D} {xs : List V}, Reps K (hid (F ++ c.B) H) ds xs → RelAt K c F ((ds.map O.v).zip (xs.map some) ++ cs) H
  | [], _, q => by cases q; exact r
  | d :: ds, _, ⟨x, xr, e, q1, q2⟩ => by
    subst e
    have r' := r.adds q2
    exact ⟨⟨[], F, ⟨rfl, x, rfl, q1⟩, r'.rc, rfl⟩, r'.nd, r'.dj, r'.bt, r'.fr, r'.ow⟩
theorem rfg_tup {gs : TGs} {ms : MGs} {k : Nat} (h : Rfgs K n lk gs ms) : Rfg K n lk (gTup K k gs) (g_tup k ms) := by
  intro c τ ρ σ H d x ρ' Q hl hn r e kk
  cases d with
  | tup ds =>
    unfold g_tup at e
    simp only at e
    split at e
    · rename_i hk
      obtain ⟨F, y, rr, ey, q⟩ := r.val List.mem_cons_self
      cases ey
      obtain ⟨a, xs, rfl, q1, q2⟩ := q
      refine ⟨a, xs, rfl, sqT_same hid_same q1, q2.length ▸ hk, ?_⟩
      have r2 : Rel K c ((ds.map O.v).zip (xs.map some) ++ ((.v (.tup ds), some (.ref a)) :: (τ ++ ρ.zip σ))) H := ⟨F, rr.adds q2⟩
      have r3 : Rel K c ((ds.map O.v).zip (xs.map some) ++ (τ ++ ρ.zip σ)) H := Rel.mid (ds := [(.v (.tup ds), some (.ref a))]) r2
      exact h c τ ρ σ H ds xs ρ' Q hl hn r3 q2.length e kk
    · cases e
  | _ => cases e
end
section
variable {C : Cd} {N : List Str} {sc : Sk} {lk vs : List Nat} {pos : Pos}
theorem rss_nil : RSs C N sc lk [] s_nop := ⟨_, fun X g _ => pss_nil, rfs_nop⟩
theorem rss_cons {st : Stmt} {sts : List Stmt} {a b : MS} (h1 : RS C N sc lk st a) (h2 : RSs C N sc lk sts b) : RSs C N sc lk (st :: sts) (s_seq a b) := let ⟨t, a1, a2⟩ := h1; let ⟨u, b1, b2⟩ := h2; ⟨_, fun X g z => pss_cons (a1 X g z) (b1 X g z), rfs_seq a2 b2⟩
theorem rss_one {st : Stmt} {a : MS} (h1 : RS C N sc lk st a) : RSs C N sc lk [st] a := let ⟨t, a1, a2⟩ := h1; ⟨_, fun X g z => pss_one (a1 X g z), a2⟩
/-- a block that is not come to -/
theorem rss_no {sts : List Stmt} : RSs C N sc lk sts s_no := ⟨_, fun X g _ => pss_never, rfs_no⟩
theorem rs_no {st : Stmt} : RS C N sc lk st s_no := ⟨_, fun X g _ => ps_never, rfs_no⟩
theorem rs_pass : RS C N sc lk (.Pass pos) s_nop := ⟨_, fun X g _ => ps_pass, rfs_nop⟩
theorem rs_bk : RS C N sc lk (.Break pos) s_bk := ⟨_, fun X g _ => ps_break, rfs_bk⟩
theorem rs_ct : RS C N sc lk (.Continue pos) s_ct := ⟨_, fun X g _ => ps_continue, rfs_ct⟩
theorem rs_if {e : Expr} {mt : MT} {x y : List Stmt} {a b : MS} (h : RT C N sc e mt) (h1 : RSs C N sc lk x a) (h2 : RSs C N sc lk y b) : RS C N sc lk (.If e x y pos) (s_if mt a b) := let ⟨t, a1, a2⟩ := h; let ⟨u, b1, b2⟩ := h1; let ⟨v, c1, c2⟩ := h2; ⟨_, fun X g z => ps_if (a1 X g) (b1 X g z) (c1 X g z), rfs_if a2 b2 c2⟩
theorem rs_ret {e : Expr} {m : ME} (h : RE C N sc e m) : RS C N sc lk (.Return (some e) pos) (s_ret m) := let ⟨t, a1, a2⟩ := h; ⟨_, fun X g _ => ps_ret (a1 X g), rfs_ret a2⟩
theorem rs_retN : RS C N sc lk (.Return none pos) s_retN := ⟨_, fun X g _ => ps_retN, rfs_retN⟩
theorem rs_expr {e : Expr} {m : ME} (h : RE C N sc e m) (hs : ∀ env : Env, swapsWith e none pos.line env = pure false := by intro _; rfl) : RS C N sc lk (.Expr e pos) (s_drop m) := let ⟨t, a1, a2⟩ := h; ⟨_, fun X g _ => ps_expr (a1 X g) (hs _), rfs_drop a2⟩
theorem rs_set (i : Nat) {x : Str} {e : Expr} {m : ME} {pos' : Pos} (h : RE C N sc e m) (hx : locB N sc i x = true := by decide +kernel) (nd : N.Nodup := by decide +kernel) (hk : i ∉ lk := by decide) (hs : ∀ env : Env, swapsWith e (some (.Name x pos')) pos.line env = pure false := by intro _; rfl) : RS C N sc lk (.Assign [.Name x pos'] e pos) (s_set i m) :=
  let ⟨t, a1, a2⟩ := h
  ⟨_, fun X g _ => ps_set (by rw [g.N]; exact nd) (g.loc hx).1 (g.loc hx).2.1 (a1 X g) (hs _) (g.loc hx).2.2, rfs_set a2 (by have := (locB_ok hx).1; exact (List.getElem?_eq_some_iff.mp this).1) hk⟩
theorem rg_name (i : Nat) {x : Str} {p : Pos} (hx : locB N sc i x = true := by decide +kernel) (nd : N.Nodup := by decide +kernel) (hk : i ∈ vs := by decide) : RG C N sc vs (.Name x p) (g_name i) :=
  ⟨_, fun X g => pg_name (by rw [g.N]; exact nd) (g.loc hx).1 (g.loc hx).2.1 (g.loc hx).2.2, fun lk h => rfg_name (by have := (locB_ok hx).1; exact (List.getElem?_eq_some_iff.mp this).1) fun z => h i z hk⟩
def RGs (C : Cd) (N : List Str) (sc : Sk) (vs : List Nat) (tg : List Expr) (m : MGs) : Prop := ∃ g, (∀ X, Gd C N sc X → PGs X tg g) ∧ ∀ lk : List Nat, (∀ i ∈ lk, i ∉ vs) → Rfgs C.K N.length lk g m
theorem rgs_nil : RGs C N sc vs [] gs_nil := ⟨_, fun X g => pgs_nil, fun _ _ => rfgs_nil⟩
theorem rgs_cons {e : Expr} {es : List Expr} {m : MG} {ms : MGs} (h1 : RG C N sc vs e m) (h2 : RGs C N sc vs es ms) (hs : ∀ env : Env, (assignEach (e :: es) env).map (·.2) = assign e env :: (assignEach es env).map (·.2) := by intro _; rfl) : RGs C N sc vs (e :: es) (gs_cons m ms) :=
  let ⟨t, a1, a2⟩ := h1; let ⟨u, b1, b2⟩ := h2; ⟨_, fun X g => pgs_cons (a1 X g) (b1 X g) (hs _), fun lk h => rfgs_cons (a2 lk h) (b2 lk h)⟩
theorem rg_tup {es : List Expr} {k n : Nat} {p : Pos} {ms : MGs} (h : RGs C N sc vs es ms) (hn : ∀ env : Env, (assignEach es env).length = n := by intro _; rfl) (hst : ∀ env : Env, (assignEach es env).findIdx? (·.1) = none := by intro _; rfl) : RG C N sc vs (.Tuple es k p) (g_tup n ms) :=
  let ⟨t, a1, a2⟩ := h; ⟨gTup C.K n t, fun X g => by have q := pg_tup g.calm (a1 X g) (hn _) (hst _) (pos := p) (k := k); rw [g.K] at q; exact q, fun lk h => rfg_tup (a2 lk h)⟩
theorem rs_asg {tg e : Expr} {m : ME} {mg : MG} (h : RE C N sc e m) (hg : RG C N sc vs tg mg) (hv : ∀ i ∈ lk, i ∉ vs := by decide) (hs : ∀ env : Env, swapsWithSole [tg] e pos.line env = pure false := by intro _; rfl) (hw : ∀ env : Env, swappedStores [tg] e env = pure none := by intro _; rfl)
    (h1 : ∀ env : Env, (assignEach [tg] env).map (·.2) = [assign tg env] := by intro _; rfl) : RS C N sc lk (.Assign [tg] e pos) (s_asg mg m) :=
  let ⟨t, a1, a2⟩ := h; let ⟨u, b1, b2⟩ := hg; ⟨_, fun X g _ => ps_asg (a1 X g) (b1 X g) (hs _) (hw _) (h1 _), rfs_asg a2 (b2 lk hv)⟩
end

/-! ### what a loop walks -/
abbrev MI := List O → Option (List D × List O)
def Yld (K : PySem.W.Frag) (c : Cc) (κ : Cells) (J : It) (ds : List D) : Prop := ∀ (i : Nat) (cs : Cells) (H : Hp), Rel K c (κ ++ cs) H →
  (∀ d, ds[i]? = some d → J.go i H ∧ ∀ x H', J.yld i H x H' → Rel K c ((.v d, some x) :: (κ ++ cs)) H') ∧ (i = ds.length → J.stop i H)
def Rfi (K : PySem.W.Frag) (t : TI) (m : MI) : Prop := ∀ (c : Cc) (τ : Cells) (ρ : List O) (σ : L2.St) (H : Hp) (R : It → Hp → Prop) (ds : List D) (ρ' : List O), ρ.length = σ.length → Rel K c (τ ++ ρ.zip σ) H → m ρ = some (ds, ρ') →
  (∀ J H' κ, ρ'.length = σ.length → Rel K c (κ ++ (τ ++ ρ'.zip σ)) H' → Yld K c κ J ds → R J H') → t σ H R
def RI (C : Cd) (N : List Str) (sc : Sk) (tg e : Expr) (m : MI) : Prop := ∃ t, (∀ X, Gd C N sc X → PI X tg e t) ∧ Rfi C.K t m
def chars (s : Str) : List D := s.cps.toList.map fun k => .str ⟨#[k]⟩
def items : D → Option (List D)
  | .lst ds => some ds
  | .tup ds => some ds
  | .rl ds => some ds
  | .str s => some (chars s)
  | _ => none
def i_seq (m : ME) : MI := fun ρ => (m ρ).bind fun a => (toD a.1).bind fun d => (items d).map fun ds => (ds, a.2)
theorem PI.or {X : Cx} {tg e : Expr} {t u : TI} (h1 : PI X tg e t) (h2 : PI X tg e u) : PI X tg e (fun σ H R => t σ H R ∨ u σ H R) :=
  ⟨fun pins s σ H R I h => by
    rcases h with h | h
    · exact h1.run pins s σ H R I h
    · exact h2.run pins s σ H R I h⟩
section
variable {K : PySem.W.Frag}
theorem rfi_seq {t : TE} {m : ME} (h : Rf K t m) : Rfi K (fun σ H R => iList K t σ H R ∨ iTup K t σ H R ∨ iStr t σ H R) (i_seq m) := by
  intro c τ ρ σ H R ds ρ' hl r e k
  unfold i_seq at e
  obtain ⟨⟨o, ρ1⟩, e1, e⟩ := Option.bind_eq_some_iff.mp e
  obtain ⟨d, e2, e⟩ := Option.bind_eq_some_iff.mp e
  obtain ⟨ds', e3, e⟩ := Option.map_eq_some_iff.mp e
  cases e
  have list : ∀ (r3 : ∀ (cs : Cells) (a : Addr) (H : Hp), Rel K c ((.v d, some (.ref a)) :: cs) H → ∃ F xs, RelAt K c F ((.v d, some (.ref a)) :: cs) H ∧ SqL K H a xs ∧ Reps K (hid (F ++ c.B) H) ds xs), (∀ x H', Rel K c ((.v d, some x) :: (τ ++ ρ1.zip σ)) H' → ∃ a, x = .ref a) → iList K t σ H R := by
    intro r3 hx
    refine h c τ ρ σ H _ o ρ1 hl r e1 fun x H' hl' r' => ?_
    have r'' := r'.toD e2
    obtain ⟨a, rfl⟩ := hx x H' r''
    obtain ⟨F, xs, rr, q1, q2⟩ := r3 _ a H' r''
    refine ⟨a, rfl, ⟨xs, q1⟩, k _ H' [(.v d, some (.ref a))] hl' r'' fun i cs H2 r2 => ?_⟩
    obtain ⟨F2, xs2, rr2, p1, p2⟩ := r3 _ a H2 r2
    refine ⟨fun d' hd => ?_, fun hi => ⟨xs2, p1, by rw [← p2.length, hi]; exact Nat.le_refl _⟩⟩
    obtain ⟨v, hv, rv⟩ := p2.get hd
    refine ⟨⟨xs2, v, p1, hv⟩, fun x H3 y => ?_⟩
    obtain ⟨rfl, y⟩ := y
    have ev : v = x := Option.some.inj (hv.symm.trans (y xs2 p1))
    subst ev
    exact rr2.add rv
  have tup : ∀ (r3 : ∀ (cs : Cells) (a : Addr) (H : Hp), Rel K c ((.v d, some (.ref a)) :: cs) H → ∃ F xs, RelAt K c F ((.v d, some (.ref a)) :: cs) H ∧ SqT K H a xs ∧ Reps K (hid (F ++ c.B) H) ds xs), (∀ x H', Rel K c ((.v d, some x) :: (τ ++ ρ1.zip σ)) H' → ∃ a, x = .ref a) → iTup K t σ H R := by
    intro r3 hx
    refine h c τ ρ σ H _ o ρ1 hl r e1 fun x H' hl' r' => ?_
    have r'' := r'.toD e2
    obtain ⟨a, rfl⟩ := hx x H' r''
    obtain ⟨F, xs, rr, q1, q2⟩ := r3 _ a H' r''
    refine ⟨a, rfl, ⟨xs, q1⟩, k _ H' [(.v d, some (.ref a))] hl' r'' fun i cs H2 r2 => ?_⟩
    obtain ⟨F2, xs2, rr2, p1, p2⟩ := r3 _ a H2 r2
    refine ⟨fun d' hd => ?_, fun hi => ⟨xs2, p1, by rw [← p2.length, hi]; exact Nat.le_refl _⟩⟩
    obtain ⟨v, hv, rv⟩ := p2.get hd
    refine ⟨⟨xs2, v, p1, hv⟩, fun x H3 y => ?_⟩
    obtain ⟨rfl, y⟩ := y
    have ev : v = x := Option.some.inj (hv.symm.trans (y xs2 p1))
    subst ev
    exact rr2.add rv
  cases d with
  | lst es =>
    cases e3
    refine .inl (list (fun cs a H1 r1 => ?_) fun x H1 r1 => ?_)
    · obtain ⟨F, y, rr, ey, q⟩ := r1.val List.mem_cons_self
      cases ey
      obtain ⟨a', xs, ea, q1, q2⟩ := q
      cases ea
      exact ⟨F, xs, rr, .inl (.inl (hid_same _ _ q1)), q2⟩
    · obtain ⟨F, y, rr, ey, q⟩ := r1.val List.mem_cons_self
      cases ey
      obtain ⟨a', xs, ea, q1, q2⟩ := q
      exact ⟨a', ea⟩
  | rl es =>
    cases e3
    refine .inl (list (fun cs a H1 r1 => ?_) fun x H1 r1 => ?_)
    · obtain ⟨F, y, rr, ey, q⟩ := r1.val List.mem_cons_self
      cases ey
      obtain ⟨a', xs, ea, q1, q2⟩ := q
      cases ea
      exact ⟨F, xs, rr, hid_same.seq q1, q2⟩
    · obtain ⟨F, y, rr, ey, q⟩ := r1.val List.mem_cons_self
      cases ey
      obtain ⟨a', xs, ea, q1, q2⟩ := q
      exact ⟨a', ea⟩
  | tup es =>
    cases e3
    refine .inr (.inl (tup (fun cs a H1 r1 => ?_) fun x H1 r1 => ?_))
    · obtain ⟨F, y, rr, ey, q⟩ := r1.val List.mem_cons_self
      cases ey
      obtain ⟨a', xs, ea, q1, q2⟩ := q
      cases ea
      exact ⟨F, xs, rr, sqT_same hid_same q1, q2⟩
    · obtain ⟨F, y, rr, ey, q⟩ := r1.val List.mem_cons_self
      cases ey
      obtain ⟨a', xs, ea, q1, q2⟩ := q
      exact ⟨a', ea⟩
  | str s =>
    cases e3
    refine .inr (.inr (h c τ ρ σ H _ o ρ1 hl r e1 fun x H' hl' r' => ?_))
    have r'' := r'.toD e2
    obtain ⟨F, y, rr, ey, q⟩ := r''.val List.mem_cons_self
    cases ey
    have q' : x = .str s := q
    subst q'
    refine ⟨s, rfl, k _ H' [] hl' r''.drop fun i cs H2 r2 => ⟨fun d' hd => ?_, fun hi => ?_⟩⟩
    · have hd' : (chars s)[i]? = some d' := hd
      unfold chars at hd'
      rw [List.getElem?_map] at hd'
      obtain ⟨cp, hc, ed⟩ := Option.map_eq_some_iff.mp hd'
      have hi : i < s.cps.toList.length := (List.getElem?_eq_some_iff.mp hc).1
      refine ⟨by show i < s.cps.size; simpa using hi, fun x H3 y => ?_⟩
      obtain ⟨rfl, cp', h1, rfl⟩ := y
      rw [Array.getElem?_toList] at hc
      have ec : cp = cp' := Option.some.inj (hc.symm.trans h1)
      subst ec
      subst ed
      obtain ⟨G, gg⟩ := r2
      exact RelAt.add gg rfl
    · show s.cps.size ≤ i
      rw [hi]
      unfold chars
      simp
  | _ => cases e3
end
/-- the ints of a range -/
def rngD (lo : Int) (n : Nat) : List D := (List.range n).map fun i : Nat => .int (lo + (i : Int))
theorem rngD_length (lo : Int) (n : Nat) : (rngD lo n).length = n := by unfold rngD; rw [List.length_map, List.length_range]
theorem rngD_get {lo : Int} {n i : Nat} {d : D} (h : (rngD lo n)[i]? = some d) : i < n ∧ d = .int (lo + (i : Int)) := by
  unfold rngD at h
  rw [List.getElem?_map] at h
  obtain ⟨j, hj, ed⟩ := Option.map_eq_some_iff.mp h
  obtain ⟨hh, eh⟩ := List.getElem?_eq_some_iff.mp hj
  rw [List.length_range] at hh
  rw [List.getElem_range] at eh
  subst eh
  exact ⟨hh, ed.symm⟩
def big (i : Int) : Bool := decide (-(2 ^ 62) ≤ i) && decide (i < 2 ^ 62)
theorem big_ok {i : Int} (h : big i = true) : -(2 ^ 62) ≤ i ∧ i < 2 ^ 62 := by
  unfold big at h
  rw [Bool.and_eq_true, decide_eq_true_eq, decide_eq_true_eq] at h
  exact h
def i_rng1 (m : MP) : MI := fun ρ => (m ρ).bind fun a => (vw a.2 a.1).bind fun d => match d with
  | .int j => if big j = true then some (rngD 0 j.toNat, a.2) else none
  | _ => none
def i_rng2 (ma mb : MP) : MI := fun ρ => (ma ρ).bind fun a => (mb a.2).bind fun b => (vw b.2 a.1).bind fun d1 => (vw b.2 b.1).bind fun d2 => match d1, d2 with
  | .int i, .int j => if (big i && big j) = true then some (rngD i (j - i).toNat, b.2) else none
  | _, _ => none
section
variable {K : PySem.W.Frag}
theorem vw_int {h H : Hp} {i : Int} {x : V} (q : Vw K h H (.int i) x) : x = .int i := by
  rcases q with q | ⟨ds, a, xs, e, _⟩
  · exact q
  · cases e
theorem Rel.vwp {c : Cc} {τ : Cells} {ρ : List O} {σ : L2.St} {H : Hp} {p : Pr} {x : V} {d : D} (r : Rel K c (τ ++ ρ.zip σ) H) (hk : ∀ q ∈ kap p x, q ∈ τ) (e : vw ρ p = some d) (pv : pval p σ x) : ∃ h, Same h H ∧ Vw K h H d x := by
  obtain ⟨F, rr⟩ := r
  obtain ⟨o1, x1, x2⟩ := vw_mem e pv
  refine ⟨_, hid_same, rr.vw (o := o1) ?_ x1⟩
  rcases x2 with z | z
  · exact List.mem_append_left _ (hk _ z)
  · exact List.mem_append_right _ z
theorem yld_rng {c : Cc} {lo : Int} {n : Nat} : Yld K c [] (Itr lo n) (rngD lo n) := by
  intro i cs H r
  refine ⟨fun d hd => ?_, fun hi => ?_⟩
  · obtain ⟨h1, rfl⟩ := rngD_get hd
    refine ⟨h1, fun x H' y => ?_⟩
    obtain ⟨rfl, rfl⟩ := y
    obtain ⟨F, rr⟩ := r
    exact RelAt.add rr rfl
  · rw [rngD_length] at hi
    show n ≤ i
    omega
theorem rfi_rng1 {t : TE} {m : MP} (h : Rfp K t m) : Rfi K (iRng1 (tCons t tNil)) (i_rng1 m) := by
  intro c τ ρ σ H R ds ρ' hl r e k
  unfold i_rng1 at e
  obtain ⟨⟨p, ρ1⟩, e1, e⟩ := Option.bind_eq_some_iff.mp e
  obtain ⟨d, e2, e⟩ := Option.bind_eq_some_iff.mp e
  cases d with
  | int j =>
    simp only at e
    split at e
    · rename_i hb
      cases e
      refine h c τ ρ σ H _ p ρ' hl r e1 fun x H1 hl1 pv1 r1 => ?_
      obtain ⟨g, hs, q⟩ := (by rw [← List.append_assoc] at r1; exact r1 : Rel K c ((kap p x ++ τ) ++ ρ'.zip σ) H1).vwp (fun q hq => List.mem_append_left _ hq) e2 pv1
      have ex := vw_int q
      subst ex
      exact ⟨j, rfl, (big_ok hb).1, (big_ok hb).2, k _ H1 [] hl1 r1.drops yld_rng⟩
    · cases e
  | _ => cases e
theorem rfi_rng2 {t u : TE} {ma mb : MP} (h1 : Rfp K t ma) (h2 : Rfp K u mb) : Rfi K (iRng2 (tCons t (tCons u tNil))) (i_rng2 ma mb) := by
  intro c τ ρ σ H R ds ρ' hl r e k
  unfold i_rng2 at e
  obtain ⟨⟨p1, ρ1⟩, e1, e⟩ := Option.bind_eq_some_iff.mp e
  obtain ⟨⟨p2, ρ2⟩, e2, e⟩ := Option.bind_eq_some_iff.mp e
  obtain ⟨d1, e3, e⟩ := Option.bind_eq_some_iff.mp e
  obtain ⟨d2, e4, e⟩ := Option.bind_eq_some_iff.mp e
  cases d1 with
  | int i =>
    cases d2 with
    | int j =>
      simp only at e
      split at e
      · rename_i hb
        cases e
        rw [Bool.and_eq_true] at hb
        refine h1 c τ ρ σ H _ p1 ρ1 hl r e1 fun x H1 hl1 pv1 r1 => ?_
        refine h2 c (kap p1 x ++ τ) ρ1 σ H1 _ p2 ρ' hl1 (by rw [List.append_assoc]; exact r1) e2 fun y H2 hl2 pv2 r2 => ?_
        have r2' : Rel K c ((kap p2 y ++ (kap p1 x ++ τ)) ++ ρ'.zip σ) H2 := by rw [List.append_assoc]; exact r2
        obtain ⟨g, hs, q⟩ := r2'.vwp (p := p1) (fun q hq => List.mem_append_right _ (List.mem_append_left _ hq)) e3 pv1
        obtain ⟨g', hs', q'⟩ := r2'.vwp (p := p2) (fun q hq => List.mem_append_left _ hq) e4 pv2
        have ex := vw_int q
        have ey := vw_int q'
        subst ex
        subst ey
        refine ⟨i, j, rfl, ⟨(big_ok hb.1).1, (big_ok hb.1).2, (big_ok hb.2).1, (big_ok hb.2).2⟩, k _ H2 [] hl2 ?_ yld_rng⟩
        have r3 := r2.drops
        rw [List.append_assoc] at r3
        exact r3.drops
      · cases e
    | _ => cases e
  | _ => cases e
/-- reversed(range(n)) -/
def revD (lo : Int) (n : Nat) : List D := (rngD lo n).reverse
def i_rev1 (m : ME) : MI := fun ρ => (m ρ).bind fun a => match a.1 with
  | .v (.int j) => if big j = true then some (revD 0 j.toNat, a.2) else none
  | _ => none
theorem revD_get {lo : Int} {n i : Nat} {d : D} (h : (revD lo n)[i]? = some d) : i < n ∧ d = .int (lo + (n : Int) - 1 - (i : Int)) := by
  unfold revD at h
  have hi : i < n := by
    have := (List.getElem?_eq_some_iff.mp h).1
    rw [List.length_reverse, rngD_length] at this
    exact this
  rw [List.getElem?_reverse (by rw [rngD_length]; exact hi), rngD_length] at h
  obtain ⟨_, rfl⟩ := rngD_get h
  refine ⟨hi, ?_⟩
  congr 1
  omega
theorem rfi_rev1 {t : TE} {m : ME} (h : Rf K t m) : Rfi K (iRevR (tRg1 t)) (i_rev1 m) := by
  intro c τ ρ σ H R ds ρ' hl r e k
  unfold i_rev1 at e
  obtain ⟨⟨o, ρ1⟩, e1, e⟩ := Option.bind_eq_some_iff.mp e
  cases o with
  | v d =>
    cases d with
    | int j =>
      simp only at e
      split at e
      · rename_i hb
        cases e
        refine h c τ ρ σ H _ _ ρ' hl r e1 fun x H1 hl1 r1 => ?_
        obtain ⟨F, y, rr, ey, q⟩ := r1.val List.mem_cons_self
        cases ey
        have q' : x = .int j := q
        subst q'
        refine ⟨j, rfl, by decide, by decide, (big_ok hb).1, (big_ok hb).2, k _ H1 [] hl1 r1.drop fun i cs H2 r2 => ⟨fun d hd => ?_, fun hi => ?_⟩⟩
        · obtain ⟨h1, rfl⟩ := revD_get hd
          refine ⟨by show i < (j - 0).toNat; rw [Int.sub_zero]; exact h1, fun x H' y => ?_⟩
          obtain ⟨rfl, rfl⟩ := y
          obtain ⟨F2, rr2⟩ := r2
          refine RelAt.add rr2 (show V.int _ = V.int _ from ?_)
          rw [Int.sub_zero]
          congr 1
          omega
        · show (j - 0).toNat ≤ i
          rw [Int.sub_zero, hi]
          unfold revD
          rw [List.length_reverse, rngD_length]
          exact Nat.le_refl _
      · cases e
    | _ => cases e
  | n => cases e
  | l ds => cases e
end
section
variable {C : Cd} {N : List Str} {sc : Sk} {pos : Pos} {tg : Expr}
theorem ri_seq {e : Expr} {m : ME} (h : RE C N sc e m) : RI C N sc tg e (i_seq m) := by
  obtain ⟨t, a1, a2⟩ := h
  refine ⟨_, fun X g => ?_, rfi_seq a2⟩
  rw [← g.K]
  exact PI.or (pi_list (a1 X g)) (PI.or (pi_tup (a1 X g)) (pi_str (a1 X g)))
theorem ri_rng1 {a : Expr} {p : Pos} {m : MP} (hm : C.mg "range" = none) (h : RP C N sc a m) (hg : gloB sc "range" = true := by decide +kernel) (hs : ∀ env : Env, starEach [a] env = [(false, eval a env)] := by intro _; rfl) : RI C N sc tg (.Call (.Name "range" p) [a] [] pos) (i_rng1 m) :=
  let ⟨t, a1, a2⟩ := h
  ⟨_, fun X g => pi_range1 (g.gl hg) (by rw [g.mg]; exact hm) (pa_cons (a1 X g) pa_nil (hs _)) (hs _), rfi_rng1 a2⟩
theorem ri_rng2 {a b : Expr} {p : Pos} {ma mb : MP} (hm : C.mg "range" = none) (h : RP C N sc a ma) (h2 : RP C N sc b mb) (hg : gloB sc "range" = true := by decide +kernel) (hs : ∀ env : Env, starEach [a, b] env = [(false, eval a env), (false, eval b env)] := by intro _; rfl)
    (hs2 : ∀ env : Env, starEach [b] env = [(false, eval b env)] := by intro _; rfl) : RI C N sc tg (.Call (.Name "range" p) [a, b] [] pos) (i_rng2 ma mb) :=
  let ⟨t, a1, a2⟩ := h; let ⟨u, b1, b2⟩ := h2
  ⟨_, fun X g => pi_range2 (g.gl hg) (by rw [g.mg]; exact hm) (pa_cons (a1 X g) (pa_cons (b1 X g) pa_nil (hs2 _)) (by rw [hs, hs2])) (hs _) (hs2 _), rfi_rng2 a2 b2⟩
theorem ri_rev1 {a : Expr} {p p2 pos2 : Pos} {m : ME} (hm : C.mg "range" = none) (hm2 : C.mg "reversed" = none) (h : RE C N sc a m) (hg : gloB sc "range" = true := by decide +kernel) (hg2 : gloB sc "reversed" = true := by decide +kernel) (hs : ∀ env : Env, starEach [a] env = (false, eval a env) :: starEach [] env := by intro _; rfl)
    (hs2 : ∀ env : Env, starEach [.Call (.Name "range" p) [a] [] pos] env = (false, eval (.Call (.Name "range" p) [a] [] pos) env) :: starEach [] env := by intro _; rfl) : RI C N sc tg (.Call (.Name "reversed" p2) [.Call (.Name "range" p) [a] [] pos] [] pos2) (i_rev1 m) :=
  let ⟨t, a1, a2⟩ := h
  ⟨_, fun X g => pi_revR (g.gl hg2) (by rw [g.mg]; exact hm2) (prg_1 (g.gl hg) (by rw [g.mg]; exact hm) (a1 X g) (hs _)) (hs2 _), rfi_rev1 a2⟩
end

/-! ### for -/
def floop (g : MG) (mb : MS) : List D → List O → Option Out
  | [], ρ => some (.nx ρ)
  | d :: ds, ρ => (g d ρ).bind fun ρ1 => (mb ρ1).bind fun o => match o with
    | .nx ρ2 => floop g mb ds ρ2
    | .ct ρ2 => floop g mb ds ρ2
    | .bk ρ2 => some (.nx ρ2)
    | .rt r ρ2 => some (.rt r ρ2)
def s_for (mi : MI) (g : MG) (mb : MS) : MS := fun ρ => (mi ρ).bind fun a => floop g mb a.1 a.2
section
variable {K : PySem.W.Frag} {n : Nat} {lk : List Nat}
theorem OutOk.back {c : Cc} {τ : Cells} {σ σ' : L2.St} {D : Ends} {out : Out} (k : OutOk K c τ lk σ D out) (hs : σ'.length = σ.length) (hk : lkp lk σ σ') : OutOk K c τ lk σ' D out := by
  cases out with
  | nx ρ2 => exact fun σ2 H2 a1 a2 a3 a4 => k σ2 H2 a1 (a2.trans hs) (hk.trans a3) a4
  | rt o ρ2 => exact fun x σ2 H2 a1 a2 a3 a4 => k x σ2 H2 a1 (a2.trans hs) (hk.trans a3) a4
  | bk ρ2 => exact fun σ2 H2 a1 a2 a3 a4 => k σ2 H2 a1 (a2.trans hs) (hk.trans a3) a4
  | ct ρ2 => exact fun σ2 H2 a1 a2 a3 a4 => k σ2 H2 a1 (a2.trans hs) (hk.trans a3) a4
theorem rfs_for {wi : TI} {g : TG} {tb : TS} {mi : MI} {mg : MG} {mb : MS} (hi : Rfi K wi mi) (hg : Rfg K n lk g mg) (hb : Rfs K n lk tb mb) : Rfs K n lk (tFor wi g tb) (s_for mi mg mb) := by
  intro c τ ρ σ H D out hl hn r e k
  unfold s_for at e
  obtain ⟨⟨ds, ρ1⟩, e1, e⟩ := Option.bind_eq_some_iff.mp e
  have e : floop mg mb ds ρ1 = some out := e
  refine hi c τ ρ σ H _ ds ρ1 hl r e1 fun J H1 κ hl1 r1 y => ?_
  refine ⟨fun i m σ' H' => m = ds.length - i ∧ i ≤ ds.length ∧ σ'.length = σ.length ∧ lkp lk σ σ' ∧ ∃ ρ', ρ'.length = σ'.length ∧ Rel K c (κ ++ (τ ++ ρ'.zip σ')) H' ∧ floop mg mb (ds.drop i) ρ' = some out, ⟨_, rfl, Nat.zero_le _, rfl, .refl, ρ1, hl1, r1, by simpa using e⟩, ?_⟩
  rintro i m σ' H' ⟨rfl, hi', hs', hk', ρ', hl', r', e'⟩
  obtain ⟨yg, ys⟩ := y i _ H' r'
  by_cases hlt : i < ds.length
  · have hd : ds[i]? = some ds[i] := List.getElem?_eq_getElem hlt
    obtain ⟨go, yy⟩ := yg _ hd
    rw [List.drop_eq_getElem_cons hlt] at e'
    unfold floop at e'
    obtain ⟨ρ2, e2, e'⟩ := Option.bind_eq_some_iff.mp e'
    obtain ⟨o2, e3, e'⟩ := Option.bind_eq_some_iff.mp e'
    refine .inr ⟨go, fun σ2 H2 => σ2.length = σ.length ∧ lkp lk σ σ2 ∧ ∃ ρ3, ρ3.length = σ2.length ∧ Rel K c (κ ++ (τ ++ ρ3.zip σ2)) H2 ∧ floop mg mb (ds.drop (i + 1)) ρ3 = some out, fun σ2 H2 ⟨a1, a2, ρ3, a3, a4, a5⟩ => ⟨ds.length - (i + 1), by omega, rfl, hlt, a1, a2, ρ3, a3, a4, a5⟩, fun x H2 hy => ?_⟩
    have r2 := yy x H2 hy
    refine hg c (κ ++ τ) ρ' σ' H2 _ x ρ2 _ hl' (hs'.trans hn) (by rw [List.append_assoc]; exact r2) e2 fun σ3 H3 hl3 hs3 hk3 r3 => ?_
    refine hb c (κ ++ τ) ρ2 σ3 H3 _ o2 hl3 (hs3.trans (hs'.trans hn)) r3 e3 ?_
    have s3 : σ3.length = σ.length := hs3.trans hs'
    have k3 : lkp lk σ σ3 := hk'.trans hk3
    cases o2 with
    | nx ρ3 => exact fun σ4 H4 a1 a2 a3 a4 => ⟨a2.trans s3, k3.trans a3, ρ3, a1, by rw [List.append_assoc] at a4; exact a4, e'⟩
    | ct ρ3 => exact fun σ4 H4 a1 a2 a3 a4 => ⟨a2.trans s3, k3.trans a3, ρ3, a1, by rw [List.append_assoc] at a4; exact a4, e'⟩
    | bk ρ3 =>
      cases e'
      exact fun σ4 H4 a1 a2 a3 a4 => k σ4 H4 a1 (a2.trans s3) (k3.trans a3) (by rw [List.append_assoc] at a4; exact a4.drops)
    | rt o ρ3 =>
      cases e'
      exact fun x σ4 H4 a1 a2 a3 a4 => k x σ4 H4 a1 (a2.trans s3) (k3.trans a3) (by rw [List.append_assoc] at a4; exact a4.mid1)
  · have ei : i = ds.length := by omega
    subst ei
    rw [List.drop_length] at e'
    cases e'
    exact .inl ⟨ys rfl, k σ' H' hl' hs' hk' r'.drops⟩
end
section
variable {C : Cd} {N : List Str} {sc : Sk} {lk vs : List Nat} {pos : Pos}
theorem rs_for {tg e : Expr} {body : List Stmt} {mi : MI} {mg : MG} {mb : MS} (hi : RI C N sc tg e mi) (hg : RG C N sc vs tg mg) (hb : RSs C N sc lk body mb) (hv : ∀ i ∈ lk, i ∉ vs := by decide) (hs : ∀ (env : Env) (x : Value), foldedSetIterable e env x = pure x := by intro _ _; rfl) : RS C N sc lk (.For tg e body [] pos) (s_for mi mg mb) :=
  let ⟨t, a1, a2⟩ := hi; let ⟨u, b1, b2⟩ := hg; let ⟨v, c1, c2⟩ := hb
  ⟨_, fun X g z => ps_for (by rw [z]; exact PassesOwn.never) g.calm (a1 X g) (b1 X g) (c1 X g z) (hs _), rfs_for a2 (b2 lk hv) c2⟩
end

/-! ### comprehensions -/
def wipeO : List Nat → List O → List O
  | [], ρ => ρ
  | v :: vs, ρ => (wipeO vs ρ).set v .n
theorem wipeO_length : ∀ (vs : List Nat) (ρ : List O), (wipeO vs ρ).length = ρ.length
  | [], _ => rfl
  | v :: vs, ρ => by unfold wipeO; rw [List.length_set, wipeO_length vs ρ]
theorem wipe_pair {σ σ' : L2.St} {ρ : List O} : ∀ {vs : List Nat}, ρ.length = σ.length → (∀ i, i ∉ vs → σ'[i]? = σ[i]?) → ∀ (i : Nat) (o : O), (wipeO vs ρ)[i]? = some o → o = .n ∨ (ρ[i]? = some o ∧ σ'[i]? = σ[i]?)
  | [], hl, hk, i, o, e => .inr ⟨e, hk i (by simp)⟩
  | v :: vs, hl, hk, i, o, e => by
    unfold wipeO at e
    by_cases hi : v = i
    · subst hi
      by_cases hv : v < (wipeO vs ρ).length
      · rw [List.getElem?_set_self hv] at e
        exact .inl (Option.some.inj e).symm
      · rw [List.getElem?_eq_none (by simpa using hv)] at e; cases e
    · rw [List.getElem?_set_ne hi] at e
      by_cases hm : i ∈ vs
      · have q := wipe_pair (vs := vs) (σ' := wipe σ vs) (σ := σ) (ρ := ρ) hl (fun j hj => wipe_out hj) i o e
        rcases q with q | ⟨q1, q2⟩
        · exact .inl q
        · -- in vs: the cell is n
          refine .inl ?_
          have : ∀ {ws : List Nat}, i ∈ ws → ∀ {o : O}, (wipeO ws ρ)[i]? = some o → o = .n := by
            intro ws
            induction ws with
            | nil => intro h; cases h
            | cons w ws ih =>
              intro h o e
              unfold wipeO at e
              by_cases hw : w = i
              · subst hw
                by_cases hv : w < (wipeO ws ρ).length
                · rw [List.getElem?_set_self hv] at e
                  exact (Option.some.inj e).symm
                · rw [List.getElem?_eq_none (by simpa using hv)] at e; cases e
              · rw [List.getElem?_set_ne hw] at e
                rcases List.mem_cons.mp h with z | z
                · exact absurd z.symm hw
                · exact ih z e
          exact this hm e
      · have hn : i ∉ v :: vs := fun z => by
          rcases List.mem_cons.mp z with z | z
          · exact hi z.symm
          · exact hm z
        have : ∀ {ws : List Nat}, i ∉ ws → (wipeO ws ρ)[i]? = ρ[i]? := by
          intro ws
          induction ws with
          | nil => intro _; rfl
          | cons w ws ih =>
            intro h
            unfold wipeO
            rw [List.getElem?_set_ne (fun z => h (by simp [z])), ih (fun z => h (List.mem_cons_of_mem _ z))]
        rw [this hm] at e
        exact .inr ⟨e, hk i hn⟩
/-- one turn's list, from the left -/
def lcl (vs : List Nat) (g : MG) (mt : MT) (me : ME) : List D → List D → List O → Option (List D × List O)
  | [], acc, ρ => some (acc, wipeO vs ρ)
  | d :: ds, acc, ρ => (g d (wipeO vs ρ)).bind fun ρ1 => (mt ρ1).bind fun b => if b.1 = true then (me b.2).bind fun a => (toD a.1).bind fun y => lcl vs g mt me ds (acc ++ [y]) a.2 else lcl vs g mt me ds acc b.2
def m_lc (vs : List Nat) (mi : MI) (g : MG) (mt : MT) (me : ME) : ME := fun ρ => (mi ρ).bind fun a => if a.1.length ≤ 1000000 then (lcl vs g mt me a.1 [] a.2).map fun r => (.l r.1, r.2) else none
def m_yes : MT := fun ρ => some (true, ρ)
section
variable {K : PySem.W.Frag} {n : Nat}
theorem rft_yes : Rft K tYes m_yes := by
  intro c τ ρ σ H Q b ρ' hl r e k
  cases e
  exact k H hl r
theorem wipe_eq_out {σ2 σ : L2.St} {vs : List Nat} (h : wipe σ2 vs = wipe σ vs) : ∀ i, i ∉ vs → σ2[i]? = σ[i]? := fun i hi => by rw [← wipe_out (σ := σ2) hi, h, wipe_out hi]
theorem rf_lc {vs : List Nat} {wi : TI} {g : TG} {tt : TT} {te : TE} {mi : MI} {mg : MG} {mt : MT} {me : ME} (hi : Rfi K wi mi) (hg : ∀ lk : List Nat, (∀ i ∈ lk, i ∉ vs) → Rfg K n lk g mg) (ht : Rft K tt mt) (he : Rf K te me) :
    ∀ (c : Cc) (τ : Cells) (ρ : List O) (σ : L2.St) (H : Hp) (Q : VK) (o : O) (ρ' : List O), σ.length = n → ρ.length = σ.length → Rel K c (τ ++ ρ.zip σ) H → m_lc vs mi mg mt me ρ = some (o, ρ') →
      (∀ x H', ρ'.length = σ.length → Rel K c ((o, some x) :: (τ ++ ρ'.zip σ)) H' → Q x H') → tLc wi g tt te vs σ H Q := by
  intro c τ ρ σ H Q o ρ' hn hl r e k
  unfold m_lc at e
  obtain ⟨⟨ds, ρ1⟩, e1, e⟩ := Option.bind_eq_some_iff.mp e
  simp only at e
  split at e
  · rename_i hz
    obtain ⟨⟨acc', ρ2⟩, e2, e⟩ := Option.map_eq_some_iff.mp e
    cases e
    refine hi c τ ρ σ H _ ds ρ1 hl r e1 fun J H1 κ hl1 r1 y => fun L hD => ?_
    have start : Rel K c ((.l [], some (.ref L)) :: (κ ++ (τ ++ (wipeO vs ρ1).zip (wipe σ vs)))) (upd H1 L (.lst [])) := by
      have r2 : Rel K c ((κ ++ τ) ++ (wipeO vs ρ1).zip (wipe σ vs)) H1 := by
        rw [← List.append_assoc] at r1
        exact r1.slots (wipeO_length _ _) (wipe_length _ _) (wipe_pair hl1 fun i h => wipe_out h)
      rw [List.append_assoc] at r2
      obtain ⟨F, rr⟩ := r2
      exact rr.newL hD rfl
    refine ⟨fun i m H' => m = ds.length - i ∧ i ≤ ds.length ∧ ∃ acc ρ3, acc.length ≤ i ∧ ρ3.length = σ.length ∧ Rel K c ((.l acc, some (.ref L)) :: (κ ++ (τ ++ (wipeO vs ρ3).zip (wipe σ vs)))) H' ∧ lcl vs mg mt me (ds.drop i) acc ρ3 = some (acc', ρ2), ⟨_, rfl, Nat.zero_le _, [], ρ1, Nat.le_refl _, hl1, start, by simpa using e2⟩, ?_⟩
    rintro i m H' ⟨rfl, hi', acc, ρ3, ha, hl3, r3, e3⟩
    have r3' : Rel K c (κ ++ ((.l acc, some (.ref L)) :: (τ ++ (wipeO vs ρ3).zip (wipe σ vs)))) H' := r3.perm List.perm_middle.symm
    obtain ⟨yg, ys⟩ := y i _ H' r3'
    by_cases hlt : i < ds.length
    · have hd : ds[i]? = some ds[i] := List.getElem?_eq_getElem hlt
      obtain ⟨go, yy⟩ := yg _ hd
      rw [List.drop_eq_getElem_cons hlt] at e3
      unfold lcl at e3
      obtain ⟨ρ4, e4, e3⟩ := Option.bind_eq_some_iff.mp e3
      obtain ⟨⟨b, ρ5⟩, e5, e3⟩ := Option.bind_eq_some_iff.mp e3
      simp only at e3
      refine .inr ⟨go, fun H2 => ∃ acc ρ6, acc.length ≤ i + 1 ∧ ρ6.length = σ.length ∧ Rel K c ((.l acc, some (.ref L)) :: (κ ++ (τ ++ (wipeO vs ρ6).zip (wipe σ vs)))) H2 ∧ lcl vs mg mt me (ds.drop (i + 1)) acc ρ6 = some (acc', ρ2), fun H2 ⟨ac, ρ6, a1, a2, a3, a4⟩ => ⟨ds.length - (i + 1), by omega, rfl, hlt, ac, ρ6, a1, a2, a3, a4⟩, fun x H2 hy => ?_⟩
      have r4 := yy x H2 hy
      have lw : (wipe σ vs).length = σ.length := wipe_length _ _
      let lk0 : List Nat := (List.range n).filter fun j => decide (j ∉ vs)
      have hlk : ∀ j ∈ lk0, j ∉ vs := fun j hj => of_decide_eq_true (List.mem_filter.mp hj).2
      refine hg lk0 hlk c (κ ++ ((.l acc, some (.ref L)) :: τ)) (wipeO vs ρ3) (wipe σ vs) H2 _ x ρ4 _ (by rw [wipeO_length, wipe_length]; exact hl3) (lw.trans hn) (by rw [List.append_assoc]; exact r4) e4 fun σ2 H3 hl4 hs4 hk4 r5 => ?_
      have out2 : ∀ j, j ∉ vs → σ2[j]? = σ[j]? := fun j hj => by
        by_cases hjn : j < n
        · rw [hk4 j (List.mem_filter.mpr ⟨List.mem_range.mpr hjn, decide_eq_true hj⟩), wipe_out hj]
        · rw [List.getElem?_eq_none (by rw [hs4, lw, hn]; omega), List.getElem?_eq_none (by rw [hn]; omega)]
      refine ⟨?_, ?_⟩
      · refine List.ext_getElem? fun j => ?_
        have gen : ∀ {ws : List Nat} {a b : L2.St}, a.length = b.length → (∀ j : Nat, j ∉ ws → a[j]? = b[j]?) → ∀ j : Nat, (wipe a ws)[j]? = (wipe b ws)[j]? := by
          intro ws
          induction ws with
          | nil => intro a b _ h j; exact h j (by simp)
          | cons w ws ih =>
            intro a b hab h j
            unfold wipe
            by_cases hj : w = j
            · subst hj
              by_cases hv : w < a.length
              · rw [List.getElem?_set_self (by rw [wipe_length]; exact hv), List.getElem?_set_self (by rw [wipe_length, ← hab]; exact hv)]
              · rw [List.getElem?_eq_none (by rw [List.length_set, wipe_length]; omega), List.getElem?_eq_none (by rw [List.length_set, wipe_length, ← hab]; omega)]
            · rw [List.getElem?_set_ne hj, List.getElem?_set_ne hj]
              by_cases hm : j ∈ ws
              · -- both were set to none within
                have wn : ∀ {us : List Nat} {a : L2.St}, j ∈ us → (wipe a us)[j]? = if j < a.length then some none else none := by
                  intro us
                  induction us with
                  | nil => intro a h; cases h
                  | cons u us ih2 =>
                    intro a h
                    unfold wipe
                    by_cases hu : u = j
                    · subst hu
                      by_cases hv : u < a.length
                      · rw [List.getElem?_set_self (by rw [wipe_length]; exact hv), if_pos hv]
                      · rw [List.getElem?_eq_none (by rw [List.length_set, wipe_length]; omega), if_neg hv]
                    · rw [List.getElem?_set_ne hu]
                      rcases List.mem_cons.mp h with z | z
                      · exact absurd z.symm hu
                      · exact ih2 z
                rw [wn hm, wn hm, hab]
              · rw [wipe_out hm, wipe_out hm]
                exact h j (fun z => by
                  rcases List.mem_cons.mp z with z | z
                  · exact hj z.symm
                  · exact hm z)
        exact gen (hs4.trans lw) out2 j
      · refine ht c _ ρ4 σ2 H3 _ b ρ5 hl4 r5 e5 fun H4 hl5 r6 => ?_
        have back : ∀ (ρ7 : List O) (ac : List D) (H5 : Hp), ρ7.length = σ2.length → Rel K c ((.l ac, some (.ref L)) :: ((κ ++ τ) ++ ρ7.zip σ2)) H5 → Rel K c ((.l ac, some (.ref L)) :: (κ ++ (τ ++ (wipeO vs ρ7).zip (wipe σ vs)))) H5 := fun ρ7 ac H5 h7 r7 => by
          have r8 : Rel K c ((((.l ac, some (.ref L)) :: (κ ++ τ))) ++ ρ7.zip σ2) H5 := r7
          have r9 := r8.slots (ρ' := wipeO vs ρ7) (σ' := wipe σ vs) (wipeO_length _ _) (lw.trans (hs4.trans lw).symm) (wipe_pair h7 fun j hj => by rw [wipe_out hj, out2 j hj])
          have r10 : Rel K c ((.l ac, some (.ref L)) :: ((κ ++ τ) ++ (wipeO vs ρ7).zip (wipe σ vs))) H5 := r9
          rw [List.append_assoc] at r10
          exact r10
        cases b with
        | true =>
          rw [if_pos rfl]
          obtain ⟨⟨oy, ρ6⟩, e6, e3⟩ := Option.bind_eq_some_iff.mp (by simpa using e3 : ((me ρ5).bind fun a => (toD a.1).bind fun y => lcl vs mg mt me (ds.drop (i + 1)) (acc ++ [y]) a.2) = some (acc', ρ2))
          obtain ⟨y', e7, e3⟩ := Option.bind_eq_some_iff.mp e3
          refine he c _ ρ5 σ2 H4 _ oy ρ6 hl5 r6 e6 fun z H5 hl6 r7 => ?_
          have r8 := r7.toD e7
          have r9 : Rel K c ((.l acc, some (.ref L)) :: (.v y', some z) :: ((κ ++ τ) ++ ρ6.zip σ2)) H5 := by
            refine r8.perm ((List.Perm.cons _ ?_).trans (.swap _ _ _))
            rw [List.append_assoc, List.append_assoc]
            exact List.perm_middle
          obtain ⟨a', xs, ea, hD5, hlen⟩ := r9.ref
          have ea' : L = a' := by cases ea; rfl
          subst ea'
          obtain ⟨F, rr⟩ := id r9
          obtain ⟨F1, F2, ⟨a2, xs2, q1, q2, q3, q4⟩, ⟨G1, G2, ⟨_, z', ez, qz⟩, _, _⟩, _⟩ := rr.rc
          cases q1
          cases ez
          rw [hD5] at q2
          cases q2
          refine ⟨xs, hD5, ?_, acc ++ [y'], ρ6, by rw [List.length_append]; simp; exact ha, hl6.trans (hs4.trans lw), back _ _ _ hl6 ?_, e3⟩
          · have : acc.length = xs.length := q3.length
            have h2 : xs.length ≤ 1000000 := by omega
            exact Nat.lt_of_le_of_lt h2 (by decide)
          · have m1 := rr.mut (ds' := acc ++ [y']) (xs' := xs ++ [z]) (q3.append (.one qz))
            exact (m1.perm (.swap _ _ _)).drop
        | false =>
          rw [if_neg Bool.false_ne_true]
          refine ⟨acc, ρ5, by omega, hl5.trans (hs4.trans lw), back _ _ _ hl5 ?_, by simpa using e3⟩
          refine r6.perm ?_
          rw [List.append_assoc]
          exact List.perm_middle.trans (by rw [List.append_assoc]; exact List.Perm.refl _)
    · have ei : i = ds.length := by omega
      subst ei
      rw [List.drop_length] at e3
      cases e3
      refine .inl ⟨ys rfl, k _ H' (by rw [wipeO_length]; exact hl3) ?_⟩
      have r4 : Rel K c (((.l acc', some (.ref L)) :: (κ ++ τ)) ++ (wipeO vs ρ3).zip (wipe σ vs)) H' := by rw [List.cons_append, List.append_assoc]; exact r3
      have r5 := r4.slots (ρ' := wipeO vs ρ3) (σ' := σ) rfl (wipe_length _ _).symm fun j o ho => by
        have q := wipe_pair (vs := vs) (σ := wipe σ vs) (σ' := σ) (ρ := ρ3) (by rw [wipe_length]; exact hl3) (fun j hj => (wipe_out hj).symm) j o ho
        rcases q with q | ⟨q1, q2⟩
        · exact .inl q
        · exact .inr ⟨ho, q2⟩
      have r6 : Rel K c ((.l acc', some (.ref L)) :: ((κ ++ τ) ++ (wipeO vs ρ3).zip σ)) H' := r5
      rw [List.append_assoc] at r6
      exact r6.mid1
  · cases e
end
end Mr

set_option Elab.async false
set_option linter.all false
set_option maxRecDepth 100000
set_option maxHeartbeats 4000000
/-! MrE: comprehensions as rules, methods, slices, item stores, defs. -/
namespace Mr
open PySem PySem.Spec PyProof.Rows L2

/-! ### comprehensions -/
def tLcn (n : Nat) (wi : TI) (g : TG) (tt : TT) (te : TE) (vs : List Nat) : TE := fun σ H Q => σ.length = n → tLc wi g tt te vs σ H Q
def blkS (sc : Sk) (scope : Scope) : Sk := ⟨relS scope sc.sc, scope⟩
theorem Gd.blk {C : Cd} {N : List Str} {sc : Sk} {X : Cx} (g : Gd C N sc X) (s : Shared) (H : Hp) (scope : Scope) (Ca : Addr) (cl : List (Str × Addr)) (fp : List Addr) (hk : sc.sc.kind = .function) : Gd C N (blkS sc scope) (X.blk s H scope (compEnvC scope cl Ca X.env) fp) where
  prog := g.prog
  w := g.w
  K := g.K
  mg := g.mg
  base := g.base
  N := g.N
  calm := g.calm
  room := g.room
  scp := by
    have e := g.scp
    show relabel scope X.env = relS scope sc.sc
    unfold relabel relS
    unfold Env.kindOf
    rw [e]
  fn := fun x h => by
    show (scope.names.lookup x == some NameKind.cell) = true
    rw [show scope.names.lookup x = some .cell from h]
    rfl
def RTs (C : Cd) (N : List Str) (sc : Sk) (ifs : List Expr) (m : MT) : Prop := ∃ t, (∀ X, Gd C N sc X → PTs X ifs t) ∧ Rft C.K t m
section
variable {C : Cd} {N : List Str} {sc : Sk} {lk : List Nat} {pos : Pos}
theorem rts_nil : RTs C N sc [] m_yes := ⟨_, fun X g => pts_nil, rft_yes⟩
theorem rts_one {e : Expr} {m : MT} (h : RT C N sc e m) : RTs C N sc [e] m := let ⟨t, a1, a2⟩ := h; ⟨_, fun X g => pts_one (a1 X g), a2⟩
def kindB (sc : Sk) : Bool := match sc.sc.kind with
  | .function => true
  | _ => false
theorem kindB_ok {sc : Sk} (h : kindB sc = true) : sc.sc.kind = .function := by
  unfold kindB at h
  split at h
  · assumption
  · cases h
theorem re_lc {elt tg iter : Expr} {ifs : List Expr} {scope : Scope} (own : List (Str × Nat)) {mi : MI} {mg : MG} {mt : MT} {me : ME} (hi : RI C N sc tg iter mi) (hg : RG C N (blkS sc scope) (own.map (·.2)) tg mg) (ht : RTs C N (blkS sc scope) ifs mt) (he : RE C N (blkS sc scope) elt me)
    (ok : blkC N sc.sc scope own = true := by decide +kernel) (hk : kindB sc = true := by decide +kernel) (nd : N.Nodup := by decide +kernel) (hs : ∀ (env : Env) (x : Value), foldedSetIterable iter env x = pure x := by intro _ _; rfl) :
    RE C N sc (.ListComp elt [⟨tg, iter, ifs, 0⟩] scope pos) (m_lc (own.map (·.2)) mi mg mt me) := by
  obtain ⟨t, a1, a2⟩ := hi
  obtain ⟨u, b1, b2⟩ := hg
  obtain ⟨v, c1, c2⟩ := ht
  obtain ⟨w, d1, d2⟩ := he
  refine ⟨tLcn N.length t u v w (own.map (·.2)), fun X g => ?_, fun c τ ρ σ H Q o ρ' hl r e k hn => rf_lc a2 b2 c2 d2 c τ ρ σ H Q o ρ' hn hl r e k⟩
  have p : PE X (.ListComp elt [⟨tg, iter, ifs, 0⟩] scope pos) (tLc t u v w (own.map (·.2))) :=
    pe_lc g.calm (by rw [g.N]; exact nd) (a1 X g) (by rw [g.N, g.scp]; exact blkOk_by ok) (fun s H Ca cl fp => b1 _ (g.blk s H scope Ca cl fp (kindB_ok hk))) (fun s H Ca cl fp => c1 _ (g.blk s H scope Ca cl fp (kindB_ok hk))) (fun s H Ca cl fp => d1 _ (g.blk s H scope Ca cl fp (kindB_ok hk))) (hs _)
  exact ⟨fun pins s σ H Q I h => p.run pins s σ H Q I (h (by rw [I.len, g.N]))⟩
theorem rfs_setN {K : PySem.W.Frag} {n : Nat} {t : TE} {m : ME} {i : Nat} (h : ∀ (c : Cc) (τ : Cells) (ρ : List O) (σ : L2.St) (H : Hp) (Q : VK) (o : O) (ρ' : List O), σ.length = n → ρ.length = σ.length → Rel K c (τ ++ ρ.zip σ) H → m ρ = some (o, ρ') →
      (∀ x H', ρ'.length = σ.length → Rel K c ((o, some x) :: (τ ++ ρ'.zip σ)) H' → Q x H') → t σ H Q) (hi : i < n) (hk : i ∉ lk) : Rfs K n lk (tAsg t (gName i)) (s_set i m) := by
  intro c τ ρ σ H D out hl hn r e k
  unfold s_set at e
  obtain ⟨⟨o, ρ1⟩, e1, e⟩ := Option.map_eq_some_iff.mp e
  cases e
  refine h c τ ρ σ H _ o ρ1 hn hl r e1 fun x H' hl' r' => ?_
  exact k _ H' (by rw [List.length_set, List.length_set]; exact hl') (by rw [List.length_set]) (.set hk) (r'.store hl' (by rw [hn]; exact hi))
def locL (sc : Sk) (y : Str) : Bool := match sc.sc.names.lookup y with
  | some .local => true
  | _ => false
def ownB (scope : Scope) (y : Str) : Bool := !(scope.names.any fun (n, k) => n == y && (k == .local || k == .cell))
/-- y = [..] on one line, y a local -/
theorem rs_setLc (i : Nat) {y : Str} {py spos : Pos} {elt tg iter : Expr} {ifs : List Expr} {scope : Scope} (own : List (Str × Nat)) {mi : MI} {mg : MG} {mt : MT} {me : ME} (hi : RI C N sc tg iter mi) (hg : RG C N (blkS sc scope) (own.map (·.2)) tg mg) (ht : RTs C N (blkS sc scope) ifs mt) (he : RE C N (blkS sc scope) elt me)
    (hx : locB N sc i y = true := by decide +kernel) (hy : locL sc y = true := by decide +kernel) (hl : (py.line == spos.line) = true := by rfl) (hl2 : (py.line == pos.line) = true := by rfl) (ho : ownB scope y = true := by decide +kernel)
    (ok : blkC N sc.sc scope own = true := by decide +kernel) (hk : kindB sc = true := by decide +kernel) (nd : N.Nodup := by decide +kernel) (hj : i ∉ lk := by decide) (hs : ∀ (env : Env) (x : Value), foldedSetIterable iter env x = pure x := by intro _ _; rfl) :
    RS C N sc lk (.Assign [.Name y py] (.ListComp elt [⟨tg, iter, ifs, 0⟩] scope pos) spos) (s_set i (m_lc (own.map (·.2)) mi mg mt me)) := by
  obtain ⟨t, a1, a2⟩ := hi
  obtain ⟨u, b1, b2⟩ := hg
  obtain ⟨v, c1, c2⟩ := ht
  obtain ⟨w, d1, d2⟩ := he
  have hloc : sc.sc.names.lookup y = some .local := by
    unfold locL at hy
    split at hy
    · assumption
    · cases hy
  refine ⟨tAsg (tLc t u v w (own.map (·.2))) (gName i), fun X g _ => ?_, rfs_setN (fun c τ ρ σ H Q o ρ' hn hl r e k => rf_lc a2 b2 c2 d2 c τ ρ σ H Q o ρ' hn hl r e k) (by have := (locB_ok hx).1; exact (List.getElem?_eq_some_iff.mp this).1) hj⟩
  exact ps_setLc g.calm (by rw [g.N]; exact nd) (g.loc hx).1 (by rw [g.scp]; exact hloc) (by
      have e1 : spos.line = py.line := (beq_iff_eq.mp hl).symm
      rw [e1]
      refine sw_true (by rw [g.scp]; exact kindB_ok hk) (by rw [g.scp]; exact hloc) hl2 ?_
      unfold ownB at ho
      simpa using ho)
    (a1 X g) (by rw [g.N, g.scp]; exact blkOk_by ok) (fun s H Ca cl fp => b1 _ (g.blk s H scope Ca cl fp (kindB_ok hk))) (fun s H Ca cl fp => c1 _ (g.blk s H scope Ca cl fp (kindB_ok hk))) (fun s H Ca cl fp => d1 _ (g.blk s H scope Ca cl fp (kindB_ok hk))) (hs _)
end

/-! ### methods of an owned list -/
/-- x.append(e), x in slot i -/
def m_app (i : Nat) (m : ME) : ME := fun ρ => match ρ[i]? with
  | some (.l _) => (m ρ).bind fun a => (toD a.1).bind fun d => match a.2[i]? with
    | some (.l ds) => if ds.length < 1000000 then some (.v .non, a.2.set i (.l (ds ++ [d]))) else none
    | _ => none
  | _ => none
def m_pop (i : Nat) : ME := fun ρ => match ρ[i]? with
  | some (.l ds) => (ds[ds.length - 1]?).map fun d => (.v d, ρ.set i (.l ds.dropLast))
  | _ => none
def m_popAt (i : Nat) (m : ME) : ME := fun ρ => match ρ[i]? with
  | some (.l _) => (m ρ).bind fun a => match a.1 with
    | .v (.int j) => match a.2[i]? with
      | some (.l ds) => if big j = true then (seqIndex? j ds.length).bind fun k => (ds[k]?).map fun d => (.v d, a.2.set i (.l (ds.eraseIdx k))) else none
      | _ => none
    | _ => none
  | _ => none
section
variable {K : PySem.W.Frag}
theorem slot_ref {c : Cc} {τ : Cells} {ρ : List O} {σ : L2.St} {H : Hp} {i : Nat} {ds : List D} (hl : ρ.length = σ.length) (r : Rel K c (τ ++ ρ.zip σ) H) (h1 : ρ[i]? = some (.l ds)) : ∃ a xs, σ[i]? = some (some (.ref a)) ∧ H a = some (.lst xs) ∧ ds.length = xs.length := by
  obtain ⟨x, h2⟩ := slot_of hl h1
  obtain ⟨F, a, xs, rr, e, q1, q2⟩ := r.valL (List.mem_append_right _ (mem_zip h1 h2))
  subst e
  exact ⟨a, xs, h2, q1, q2.length⟩
theorem rf_app {i : Nat} {t : TE} {m : ME} (h : Rf K t m) : Rf K (tBM K "list" rAppend (tVar i) (tCons t tNil)) (m_app i m) := by
  intro c τ ρ σ H Q o ρ' hl r e k
  unfold m_app at e
  split at e
  · rename_i ds0 h0
    obtain ⟨⟨oa, ρ1⟩, e1, e⟩ := Option.bind_eq_some_iff.mp e
    obtain ⟨d, e2, e⟩ := Option.bind_eq_some_iff.mp e
    simp only at e
    split at e
    · rename_i ds h1
      split at e
      · rename_i hz
        cases e
        obtain ⟨a, xs0, s1, s2, _⟩ := slot_ref hl r h0
        refine ⟨.ref a, s1, .inl ⟨rfl, xs0, .inl (.inl s2)⟩, h c τ ρ σ H _ oa ρ1 hl r e1 fun x H1 hl1 r1 => ?_⟩
        have r2 := r1.toD e2
        have r3 : Rel K c (((.v d, some x) :: τ) ++ ρ1.zip σ) H1 := r2
        have r4 := r3.take h1 s1
        obtain ⟨a', xs, ea, q1, q2⟩ := r4.ref
        cases ea
        obtain ⟨F, rr⟩ := id r4
        obtain ⟨F1, F2, ⟨a2, xs2, p1, p2, p3, p4⟩, ⟨G1, G2, ⟨_, z, ez, qz⟩, _, _⟩, _⟩ := rr.rc
        cases p1
        cases ez
        rw [q1] at p2
        cases p2
        refine ⟨a, xs, x, rfl, rfl, q1, by rw [← q2]; exact Nat.lt_of_lt_of_le hz (by decide), ?_⟩
        have m1 := rr.mut (ds' := ds ++ [d]) (xs' := xs ++ [x]) (p3.append (.one qz))
        have m2 := m1.put (i := i) (τ := (.v d, some x) :: τ) (by rw [List.length_set]; exact hl1) s1
        rw [List.set_set] at m2
        obtain ⟨G, gg⟩ := m2.drop
        exact k .non _ (by rw [List.length_set]; exact hl1) (gg.add rfl)
      · cases e
    · cases e
  · cases e
theorem rf_pop {i : Nat} : Rf K (tBM0 K "list" rPop (tVar i)) (m_pop i) := by
  intro c τ ρ σ H Q o ρ' hl r e k
  unfold m_pop at e
  split at e
  · rename_i ds h0
    obtain ⟨d, e1, e⟩ := Option.map_eq_some_iff.mp e
    cases e
    obtain ⟨a, xs0, s1, s2, _⟩ := slot_ref hl r h0
    have r4 := r.take h0 s1
    obtain ⟨F, rr⟩ := id r4
    obtain ⟨F1, F2, ⟨a2, xs, p1, p2, p3, p4⟩, _⟩ := rr.rc
    cases p1
    rw [s2] at p2
    cases p2
    obtain ⟨y, hy, ry⟩ := p3.get e1
    rw [p3.length] at hy
    refine ⟨.ref a, s1, .inl ⟨rfl, xs0, .inl (.inl s2)⟩, a, xs0, y, rfl, rfl, s2, hy, ?_⟩
    have r5 : Rel K c ((.v d, some y) :: (.l ds, some (.ref a)) :: (τ ++ (ρ.set i .n).zip σ)) H := rr.add ry
    have r6 : Rel K c ((.l ds, some (.ref a)) :: (((.v d, some y) :: τ) ++ (ρ.set i .n).zip σ)) H := r5.perm (.swap _ _ _)
    obtain ⟨G, gg⟩ := id r6
    obtain ⟨F1, F2, ⟨a2, xs2, p5, p6, p7, p8⟩, _⟩ := gg.rc
    cases p5
    rw [s2] at p6
    cases p6
    have m1 := gg.mut (ds' := ds.dropLast) (xs' := xs0.dropLast) p7.dropLast
    have m2 := m1.put (i := i) (by rw [List.length_set]; exact hl) s1
    rw [List.set_set] at m2
    exact k y _ (by rw [List.length_set]; exact hl) m2
  · cases e
theorem rf_popAt {i : Nat} {t : TE} {m : ME} (h : Rf K t m) : Rf K (tBM K "list" rPopAt (tVar i) (tCons t tNil)) (m_popAt i m) := by
  intro c τ ρ σ H Q o ρ' hl r e k
  unfold m_popAt at e
  split at e
  · rename_i ds0 h0
    obtain ⟨⟨oa, ρ1⟩, e1, e⟩ := Option.bind_eq_some_iff.mp e
    simp only at e
    split at e
    · rename_i j
      split at e
      · rename_i ds h1
        split at e
        · rename_i hz
          obtain ⟨kk, e3, e⟩ := Option.bind_eq_some_iff.mp e
          obtain ⟨d, e4, e⟩ := Option.map_eq_some_iff.mp e
          cases e
          obtain ⟨a, xs0, s1, s2, _⟩ := slot_ref hl r h0
          refine ⟨.ref a, s1, .inl ⟨rfl, xs0, .inl (.inl s2)⟩, h c τ ρ σ H _ _ ρ1 hl r e1 fun x H1 hl1 r1 => ?_⟩
          obtain ⟨_, y0, _, ey, qy⟩ := r1.val List.mem_cons_self
          cases ey
          have qy' : x = .int j := qy
          subst qy'
          have r4 := r1.drop.take h1 s1
          obtain ⟨F, rr⟩ := id r4
          obtain ⟨F1, F2, ⟨a2, xs, p1, p2, p3, p4⟩, _⟩ := rr.rc
          cases p1
          obtain ⟨y, hy, ry⟩ := p3.get e4
          have b := big_ok hz
          refine ⟨a, xs, j, kk, y, rfl, rfl, p2, by omega, by omega, by rw [← p3.length]; exact e3, hy, ?_⟩
          have r5 : Rel K c ((.v d, some y) :: (.l ds, some (.ref a)) :: (τ ++ (ρ1.set i .n).zip σ)) H1 := rr.add ry
          have r6 : Rel K c ((.l ds, some (.ref a)) :: (((.v d, some y) :: τ) ++ (ρ1.set i .n).zip σ)) H1 := r5.perm (.swap _ _ _)
          obtain ⟨G, gg⟩ := id r6
          obtain ⟨F1, F2, ⟨a2, xs2, p5, p6, p7, p8⟩, _⟩ := gg.rc
          cases p5
          rw [p2] at p6
          cases p6
          have m1 := gg.mut (ds' := ds.eraseIdx kk) (xs' := xs.eraseIdx kk) (p7.eraseIdx kk)
          have m2 := m1.put (i := i) (by rw [List.length_set]; exact hl1) s1
          rw [List.set_set] at m2
          exact k y _ (by rw [List.length_set]; exact hl1) m2
        · cases e
      · cases e
    · cases e
  · cases e
end
section
variable {C : Cd} {N : List Str} {sc : Sk} {lk : List Nat} {pos apos p : Pos}
theorem re_app (i : Nat) {x : Str} {e : Expr} {m : ME} (h : RE C N sc e m) (hv : visB N sc i x = true := by decide +kernel) (hb : ∀ env : Env, attributeBase (.Name x p) "append" env (eval (.Name x p) env) = eval (.Name x p) env := by intro _; rfl)
    (hf : ∀ env : Env, ((backTo pos (starEach [e] env)).all (fun x => !x.1) && (backToKw pos (keywordEach [] env)).all (fun x => x.1.isSome) && decide ([e].length + ([] : List Keyword).length + (if ([] : List Keyword).isEmpty then 0 else 1) < 30)) = true := by intro _; rfl)
    (hline : (apos.endLine == pos.line) = true := by rfl) (hs : ∀ env : Env, starEach [e] env = (false, eval e env) :: starEach [] env := by intro _; rfl) : RE C N sc (.Call (.Attribute (.Name x p) "append" apos) [e] [] pos) (m_app i m) := by
  obtain ⟨t, a1, a2⟩ := h
  refine ⟨tBM C.K "list" rAppend (tVar i) (tCons t tNil), fun X g => ?_, rf_app a2⟩
  have q := pe_bm PySem.F.plainAttrs_list PySem.F.slot_list_append PySem.F.type_list_append (mt_append (X := X)) (pe_var (pos := p) (g.vis hv).1 (g.vis hv).2 (okName_d (visB_ok hv).2.2).1 (okName_d (visB_ok hv).2.2).2.1) (pa_cons (a1 X g) pa_nil (hs _)) (apos := apos) (cpos := pos) (hb _) (hf _) hline (hs _) rfl
  rw [g.K] at q
  exact q
theorem re_pop (i : Nat) {x : Str} (hv : visB N sc i x = true := by decide +kernel) (hb : ∀ env : Env, attributeBase (.Name x p) "pop" env (eval (.Name x p) env) = eval (.Name x p) env := by intro _; rfl) (hline : (apos.endLine == pos.line) = true := by rfl) : RE C N sc (.Call (.Attribute (.Name x p) "pop" apos) [] [] pos) (m_pop i) := by
  refine ⟨tBM0 C.K "list" rPop (tVar i), fun X g => ?_, rf_pop⟩
  have q := pe_bm0 PySem.F.plainAttrs_list PySem.F.slot_list_pop PySem.F.type_list_pop (mt_pop (X := X)) (pe_var (pos := p) (g.vis hv).1 (g.vis hv).2 (okName_d (visB_ok hv).2.2).1 (okName_d (visB_ok hv).2.2).2.1) (apos := apos) (cpos := pos) (hb _) hline
  rw [g.K] at q
  exact q
theorem re_popAt (i : Nat) {x : Str} {e : Expr} {m : ME} (h : RE C N sc e m) (hv : visB N sc i x = true := by decide +kernel) (hb : ∀ env : Env, attributeBase (.Name x p) "pop" env (eval (.Name x p) env) = eval (.Name x p) env := by intro _; rfl)
    (hf : ∀ env : Env, ((backTo pos (starEach [e] env)).all (fun x => !x.1) && (backToKw pos (keywordEach [] env)).all (fun x => x.1.isSome) && decide ([e].length + ([] : List Keyword).length + (if ([] : List Keyword).isEmpty then 0 else 1) < 30)) = true := by intro _; rfl)
    (hline : (apos.endLine == pos.line) = true := by rfl) (hs : ∀ env : Env, starEach [e] env = (false, eval e env) :: starEach [] env := by intro _; rfl) : RE C N sc (.Call (.Attribute (.Name x p) "pop" apos) [e] [] pos) (m_popAt i m) := by
  obtain ⟨t, a1, a2⟩ := h
  refine ⟨tBM C.K "list" rPopAt (tVar i) (tCons t tNil), fun X g => ?_, rf_popAt a2⟩
  have q := pe_bm PySem.F.plainAttrs_list PySem.F.slot_list_pop PySem.F.type_list_pop (mt_popAt (X := X)) (pe_var (pos := p) (g.vis hv).1 (g.vis hv).2 (okName_d (visB_ok hv).2.2).1 (okName_d (visB_ok hv).2.2).2.1) (pa_cons (a1 X g) pa_nil (hs _)) (apos := apos) (cpos := pos) (hb _) (hf _) hline (hs _) rfl
  rw [g.K] at q
  exact q
end

/-! ### x[i] = e, x an owned list in slot i; x op= e -/
def s_sti (i : Nat) (me : ME) (mi : MP) : MS := fun ρ => (me ρ).bind fun a => (toD a.1).bind fun d => match a.2[i]? with
  | some (.l _) => (mi a.2).bind fun b => match vw b.2 b.1, b.2[i]? with
    | some (.int k), some (.l ds) => (ixN ds.length k).map fun j => .nx (b.2.set i (.l (ds.set j d)))
    | _, _ => none
  | _ => none
def s_aug (i : Nat) (f : Int → Int → Int) (m : MP) : MS := fun ρ => match ρ[i]? with
  | some (.v (.int a)) => (m ρ).bind fun b => match vw b.2 b.1 with
    | some (.int k) => some (.nx (b.2.set i (.v (.int (f a k)))))
    | _ => none
  | _ => none
section
variable {K : PySem.W.Frag} {n : Nat} {lk : List Nat}
theorem rfs_sti {i : Nat} {te ti : TE} {me : ME} {mi : MP} (h1 : Rf K te me) (h2 : Rfp K ti mi) : Rfs K n lk (tAsg te (gSub (tVar i) ti rSetL)) (s_sti i me mi) := by
  intro c τ ρ σ H D out hl hn r e k
  unfold s_sti at e
  obtain ⟨⟨oa, ρ1⟩, e1, e⟩ := Option.bind_eq_some_iff.mp e
  obtain ⟨d, e2, e⟩ := Option.bind_eq_some_iff.mp e
  simp only at e
  split at e
  · rename_i ds0 h0
    obtain ⟨⟨p, ρ2⟩, e3, e⟩ := Option.bind_eq_some_iff.mp e
    simp only at e
    split at e
    · rename_i kk ds e4 h3
      obtain ⟨j, e5, e⟩ := Option.map_eq_some_iff.mp e
      cases e
      refine h1 c τ ρ σ H _ oa ρ1 hl r e1 fun x H1 hl1 r1 => ?_
      have r2 := r1.toD e2
      have r3 : Rel K c (((.v d, some x) :: τ) ++ ρ1.zip σ) H1 := r2
      obtain ⟨a, xs0, s1, s2, _⟩ := slot_ref hl1 r3 h0
      refine ⟨.ref a, s1, h2 c _ ρ1 σ H1 _ p ρ2 hl1 r3 e3 fun y H2 hl2 pv2 r4 => ?_⟩
      have r4' : Rel K c ((kap p y ++ ((.v d, some x) :: τ)) ++ ρ2.zip σ) H2 := by rw [List.append_assoc]; exact r4
      obtain ⟨g, hs, q⟩ := r4'.vwp (p := p) (fun q hq => List.mem_append_left _ hq) e4 pv2
      have ey := vw_int q
      subst ey
      have r5 := (r4.drops).take h3 s1
      obtain ⟨F, rr⟩ := id r5
      obtain ⟨F1, F2, ⟨a2, xs, p1, p2, p3, p4⟩, ⟨G1, G2, ⟨_, z, ez, qz⟩, _, _⟩, _⟩ := rr.rc
      cases p1
      cases ez
      refine ⟨a, xs, kk, j, rfl, rfl, p2, by rw [← p3.length]; exact e5, ?_⟩
      have m1 := rr.mut (ds' := ds.set j d) (xs' := xs.set j x) (p3.set qz j)
      have m2 := m1.put (i := i) (τ := (.v d, some x) :: τ) (by rw [List.length_set]; exact hl2) s1
      rw [List.set_set] at m2
      exact k σ _ (by rw [List.length_set]; exact hl2) rfl .refl m2.drop
    · cases e
  · cases e
theorem rfs_aug {i : Nat} {f : Int → Int → Int} {t : TE} {m : MP} (h : Rfp K t m) (hi : i < n) (hk : i ∉ lk) : Rfs K n lk (tAug i t (ipI f)) (s_aug i f m) := by
  intro c τ ρ σ H D out hl hn r e k
  unfold s_aug at e
  split at e
  · rename_i a h0
    obtain ⟨⟨p, ρ1⟩, e1, e⟩ := Option.bind_eq_some_iff.mp e
    simp only at e
    split at e
    · rename_i b e2
      cases e
      obtain ⟨x, s1⟩ := slot_of hl h0
      obtain ⟨F, y, rr, ey, qy⟩ := r.val (List.mem_append_right _ (mem_zip h0 s1))
      subst ey
      have qy' : y = .int a := qy
      subst qy'
      refine ⟨_, s1, h c τ ρ σ H _ p ρ1 hl r e1 fun z H1 hl1 pv1 r1 => ?_⟩
      have r1' : Rel K c ((kap p z ++ τ) ++ ρ1.zip σ) H1 := by rw [List.append_assoc]; exact r1
      obtain ⟨g, hs, q⟩ := r1'.vwp (p := p) (fun q hq => List.mem_append_left _ hq) e2 pv1
      have ez := vw_int q
      subst ez
      obtain ⟨G, gg⟩ := r1.drops
      have r2 : Rel K c ((.v (.int (f a b)), some (.int (f a b))) :: (τ ++ ρ1.zip σ)) H1 := gg.add rfl
      exact ⟨a, b, rfl, rfl, k _ H1 (by rw [List.length_set, List.length_set]; exact hl1) (by rw [List.length_set]) (.set hk) (r2.store hl1 (by rw [hn]; exact hi))⟩
    · cases e
  · cases e
end
section
variable {C : Cd} {N : List Str} {sc : Sk} {lk : List Nat} {pos apos p : Pos}
theorem rs_sti (i : Nat) {x : Str} {e ix : Expr} {me : ME} {mi : MP} (h1 : RE C N sc e me) (h2 : RP C N sc ix mi) (hv : visB N sc i x = true := by decide +kernel)
    (ha : ∀ (env : Env) (v : Value), assign (.Subscript (.Name x p) ix apos) env v = (do
      let ov ← holding [v] (eval (.Name x p) env)
      let iv ← holding [v, ov] (eval ix env)
      standAt apos
      holding [v, ov, iv] (setItem ov iv v)
      release [v, ov, iv] []) := by intro _ _; rfl)
    (hs : ∀ env : Env, swapsWithSole [.Subscript (.Name x p) ix apos] e pos.line env = pure false := by intro _; rfl) (hw : ∀ env : Env, swappedStores [.Subscript (.Name x p) ix apos] e env = pure none := by intro _; rfl)
    (h3 : ∀ env : Env, (assignEach [.Subscript (.Name x p) ix apos] env).map (·.2) = [assign (.Subscript (.Name x p) ix apos) env] := by intro _; rfl) : RS C N sc lk (.Assign [.Subscript (.Name x p) ix apos] e pos) (s_sti i me mi) := by
  obtain ⟨t, a1, a2⟩ := h1
  obtain ⟨u, b1, b2⟩ := h2
  exact ⟨tAsg t (gSub (tVar i) u rSetL), fun X g _ => ps_asg (a1 X g) (pg_sub (pe_var (g.vis hv).1 (g.vis hv).2 (okName_d (visB_ok hv).2.2).1 (okName_d (visB_ok hv).2.2).2.1) (b1 X g) set_list (ha _)) (hs _) (hw _) (h3 _), rfs_sti a2 b2⟩
theorem rs_augAdd (i : Nat) {x : Str} {e : Expr} {m : MP} (h : RP C N sc e m) (hx : locB N sc i x = true := by decide +kernel) (nd : N.Nodup := by decide +kernel) (hk : i ∉ lk := by decide) : RS C N sc lk (.AugAssign (.Name x p) .Add e pos) (s_aug i (fun a b => a + b) m) :=
  let ⟨t, a1, a2⟩ := h
  ⟨_, fun X g _ => ps_aug (by rw [g.N]; exact nd) (g.loc hx).1 (g.loc hx).2.1 (a1 X g) ip_add (g.loc hx).2.2, rfs_aug a2 (by have := (locB_ok hx).1; exact (List.getElem?_eq_some_iff.mp this).1) hk⟩
theorem rs_augSub (i : Nat) {x : Str} {e : Expr} {m : MP} (h : RP C N sc e m) (hx : locB N sc i x = true := by decide +kernel) (nd : N.Nodup := by decide +kernel) (hk : i ∉ lk := by decide) : RS C N sc lk (.AugAssign (.Name x p) .Sub e pos) (s_aug i (fun a b => a - b) m) :=
  let ⟨t, a1, a2⟩ := h
  ⟨_, fun X g _ => ps_aug (by rw [g.N]; exact nd) (g.loc hx).1 (g.loc hx).2.1 (a1 X g) ip_sub (g.loc hx).2.2, rfs_aug a2 (by have := (locB_ok hx).1; exact (List.getElem?_eq_some_iff.mp this).1) hk⟩
end

/-! ### slices -/
abbrev MO := List O → Option (Option Int × List O)
def o_none : MO := fun ρ => some (none, ρ)
def o_some (m : MP) : MO := fun ρ => (m ρ).bind fun a => match vw a.2 a.1 with
  | some (.int i) => some (some i, a.2)
  | _ => none
def Rfo (K : PySem.W.Frag) (t : TO) (m : MO) : Prop := ∀ (c : Cc) (τ : Cells) (ρ : List O) (σ : L2.St) (H : Hp) (Q : Option Int → Hp → Prop) (o : Option Int) (ρ' : List O), ρ.length = σ.length → Rel K c (τ ++ ρ.zip σ) H → m ρ = some (o, ρ') →
  (∀ H', ρ'.length = σ.length → Rel K c (τ ++ ρ'.zip σ) H' → Q o H') → t σ H Q
def RO' (C : Cd) (N : List Str) (sc : Sk) (e : Option Expr) (m : MO) : Prop := ∃ t, (∀ X, Gd C N sc X → PO X e t) ∧ Rfo C.K t m
def RSok (K : PySem.W.Frag) (r : V → Option Int → Option Int → Hp → VK → Prop) (f : D → Option Int → Option Int → Option Res) : Prop := ∀ (h H : Hp) (x : V) (dx : D) (lo hi : Option Int) (res : Res) (Q : VK), Same h H → Vw K h H dx x → f dx lo hi = some res → (∀ z H', ResAt K h H res z H' → Q z H') → r x lo hi H Q
def m_sl (f : D → Option Int → Option Int → Option Res) (ma : MP) (ml mh : MO) : ME := fun ρ => (ma ρ).bind fun a => (ml a.2).bind fun l => (mh l.2).bind fun u => (vw u.2 a.1).bind fun d => (f d l.1 u.1).map fun r => (r.o, u.2)
section
variable {K : PySem.W.Frag}
theorem rfo_none : Rfo K tNoPart o_none := by
  intro c τ ρ σ H Q o ρ' hl r e k
  cases e
  exact k H hl r
theorem rfo_some {t : TE} {m : MP} (h : Rfp K t m) : Rfo K (tPart t) (o_some m) := by
  intro c τ ρ σ H Q o ρ' hl r e k
  unfold o_some at e
  obtain ⟨⟨p, ρ1⟩, e1, e⟩ := Option.bind_eq_some_iff.mp e
  simp only at e
  split at e
  · rename_i i e2
    cases e
    refine h c τ ρ σ H _ p ρ' hl r e1 fun z H1 hl1 pv1 r1 => ?_
    have r1' : Rel K c ((kap p z ++ τ) ++ ρ'.zip σ) H1 := by rw [List.append_assoc]; exact r1
    obtain ⟨g, hs, q⟩ := r1'.vwp (p := p) (fun q hq => List.mem_append_left _ hq) e2 pv1
    have ez := vw_int q
    subst ez
    exact ⟨i, rfl, k H1 hl1 r1.drops⟩
  · cases e
theorem rf_sl {r : V → Option Int → Option Int → Hp → VK → Prop} {f : D → Option Int → Option Int → Option Res} {te : TE} {tl th : TO} {ma : MP} {ml mh : MO} (hr : RSok K r f) (h1 : Rfp K te ma) (h2 : Rfo K tl ml) (h3 : Rfo K th mh) : Rf K (tSl r te tl th) (m_sl f ma ml mh) := by
  intro c τ ρ σ H Q o ρ' hl rl e k
  unfold m_sl at e
  obtain ⟨⟨p, ρ1⟩, e1, e⟩ := Option.bind_eq_some_iff.mp e
  obtain ⟨⟨l, ρ2⟩, e2, e⟩ := Option.bind_eq_some_iff.mp e
  obtain ⟨⟨u, ρ3⟩, e3, e⟩ := Option.bind_eq_some_iff.mp e
  obtain ⟨d, e4, e⟩ := Option.bind_eq_some_iff.mp e
  obtain ⟨res, e5, e⟩ := Option.map_eq_some_iff.mp e
  cases e
  refine h1 c τ ρ σ H _ p ρ1 hl rl e1 fun x H1 hl1 pv1 r1 => ?_
  refine h2 c (kap p x ++ τ) ρ1 σ H1 _ l ρ2 hl1 (by rw [List.append_assoc]; exact r1) e2 fun H2 hl2 r2 => ?_
  refine h3 c (kap p x ++ τ) ρ2 σ H2 _ u ρ3 hl2 r2 e3 fun H3 hl3 r3 => ?_
  obtain ⟨F, rr⟩ := id r3
  obtain ⟨o1, x1, x2⟩ := vw_mem e4 pv1
  refine hr _ H3 x d l u res Q hid_same (rr.vw (o := o1) (by rcases x2 with z | z <;> simp [z]) x1) e5 fun z H' q => k z H' hl3 ?_
  have q1 := rr.res q
  rw [List.append_assoc] at q1
  exact q1.mid1
end
section
variable {C : Cd} {N : List Str} {sc : Sk} {pos p2 : Pos}
theorem ro_none : RO' C N sc none o_none := ⟨_, fun X g => po_none, rfo_none⟩
theorem ro_some {e : Expr} {m : MP} (h : RP C N sc e m) : RO' C N sc (some e) (o_some m) := let ⟨t, a1, a2⟩ := h; ⟨_, fun X g => po_some (a1 X g), rfo_some a2⟩
theorem re_sl {e : Expr} {lo hi : Option Expr} {ma : MP} {ml mh : MO} {f : D → Option Int → Option Int → Option Res} (r : PySem.W.Frag → V → Option Int → Option Int → Hp → VK → Prop) (ho : ∀ X : Cx, SlR X (r X.K)) (hr : RSok C.K (r C.K) f) (ha : RP C N sc e ma) (hl : RO' C N sc lo ml) (hh : RO' C N sc hi mh) : RE C N sc (.Subscript e (.Slice lo hi none p2) pos) (m_sl f ma ml mh) :=
  let ⟨t, a1, a2⟩ := ha; let ⟨u, b1, b2⟩ := hl; let ⟨v, c1, c2⟩ := hh
  ⟨tSl (r C.K) t u v, fun X g => pe_slice (by rw [← g.K]; exact ho X) (a1 X g) (b1 X g) (c1 X g), rf_sl hr a2 b2 c2⟩
end

/-! ### methods of texts -/
def m_m0 (f : Str → Option Res) (ma : MP) : ME := fun ρ => (ma ρ).bind fun a => match vw a.2 a.1 with
  | some (.str s) => (f s).map fun r => (r.o, a.2)
  | _ => none
def m_m1 (f : Str → D → Option Res) (ma mb : MP) : ME := fun ρ => (ma ρ).bind fun a => match vw a.2 a.1 with
  | some (.str s) => (mb a.2).bind fun b => (vw b.2 b.1).bind fun d => (f s d).map fun r => (r.o, b.2)
  | _ => none
def RM0ok (K : PySem.W.Frag) (r : V → List V → Hp → VK → Prop) (f : Str → Option Res) : Prop := ∀ (h H : Hp) (s : Str) (res : Res) (Q : VK), Same h H → f s = some res → (∀ z H', ResAt K h H res z H' → Q z H') → r (.str s) [] H Q
def RM1ok (K : PySem.W.Frag) (r : V → List V → Hp → VK → Prop) (f : Str → D → Option Res) : Prop := ∀ (h H : Hp) (s : Str) (y : V) (dy : D) (res : Res) (Q : VK), Same h H → Vw K h H dy y → f s dy = some res → (∀ z H', ResAt K h H res z H' → Q z H') → r (.str s) [y] H Q
section
variable {K : PySem.W.Frag}
theorem vw_str {h H : Hp} {i : Str} {x : V} (q : Vw K h H (.str i) x) : x = .str i := by
  rcases q with q | ⟨ds, a, xs, e, _⟩
  · exact q
  · cases e
theorem rf_m0 {r : V → List V → Hp → VK → Prop} {f : Str → Option Res} {ta : TE} {ma : MP} (hr : RM0ok K r f) (ha : Rfp K ta ma) : Rf K (tM0 r ta) (m_m0 f ma) := by
  intro c τ ρ σ H Q o ρ' hl rl e k
  unfold m_m0 at e
  obtain ⟨⟨p, ρ1⟩, e1, e⟩ := Option.bind_eq_some_iff.mp e
  simp only at e
  split at e
  · rename_i s e2
    obtain ⟨res, e5, e⟩ := Option.map_eq_some_iff.mp e
    cases e
    refine ha c τ ρ σ H _ p ρ' hl rl e1 fun x H1 hl1 pv1 r1 => ?_
    obtain ⟨F, rr⟩ := id r1
    obtain ⟨o1, x1, x2⟩ := vw_mem e2 pv1
    have ex := vw_str (rr.vw (x := x) (o := o1) (by rcases x2 with z | z <;> simp [z]) x1)
    subst ex
    exact ⟨⟨s, rfl⟩, hr _ H1 s res Q hid_same e5 fun z H' q => k z H' hl1 (rr.res q).mid1⟩
  · cases e
theorem rf_m1 {r : V → List V → Hp → VK → Prop} {f : Str → D → Option Res} {ta tb : TE} {ma mb : MP} (hr : RM1ok K r f) (ha : Rfp K ta ma) (hb : Rfp K tb mb) : Rf K (tM1 r ta tb) (m_m1 f ma mb) := by
  intro c τ ρ σ H Q o ρ' hl rl e k
  unfold m_m1 at e
  obtain ⟨⟨p, ρ1⟩, e1, e⟩ := Option.bind_eq_some_iff.mp e
  simp only at e
  split at e
  · rename_i s e2
    obtain ⟨⟨p2, ρ2⟩, e3, e⟩ := Option.bind_eq_some_iff.mp e
    obtain ⟨d, e4, e⟩ := Option.bind_eq_some_iff.mp e
    obtain ⟨res, e5, e⟩ := Option.map_eq_some_iff.mp e
    cases e
    refine ha c τ ρ σ H _ p ρ1 hl rl e1 fun x H1 hl1 pv1 r1 => ?_
    obtain ⟨F, rr⟩ := id r1
    obtain ⟨o1, x1, x2⟩ := vw_mem e2 pv1
    have ex := vw_str (rr.vw (x := x) (o := o1) (by rcases x2 with z | z <;> simp [z]) x1)
    subst ex
    refine ⟨⟨s, rfl⟩, hb c (kap p (.str s) ++ τ) ρ1 σ H1 _ p2 ρ2 hl1 (by rw [List.append_assoc]; exact r1) e3 fun y H2 hl2 pv2 r2 => ?_⟩
    obtain ⟨F, rr⟩ := id r2
    obtain ⟨o2, y1, y2⟩ := vw_mem e4 pv2
    refine hr _ H2 s y d res Q hid_same (rr.vw (o := o2) (by rcases y2 with z | z <;> simp [z]) y1) e5 fun z H' q => k z H' hl2 ?_
    have q1 := (rr.res q).mid1
    rw [List.append_assoc] at q1
    exact q1.mid1
  · cases e
end
section
variable {C : Cd} {N : List Str} {sc : Sk} {pos apos : Pos}
theorem re_m0 {id : String} {name : Str} {o : Expr} {ma : MP} {f : Str → Option Res} (r : PySem.W.Frag → V → List V → Hp → VK → Prop) (slot : Slot "str" name id) (ty : typeOf (.builtin id) = pure (.type "method_descriptor")) (rule : ∀ X : Cx, MtR X id (r X.K)) (hr : RM0ok C.K (r C.K) f) (ha : RP C N sc o ma)
    (hb : ∀ env : Env, attributeBase o name env (eval o env) = eval o env := by intro _; rfl) (hline : (apos.endLine == pos.line) = true := by rfl) : RE C N sc (.Call (.Attribute o name apos) [] [] pos) (m_m0 f ma) :=
  let ⟨t, a1, a2⟩ := ha
  ⟨tM0 (r C.K) t, fun X g => pe_m0 slot ty (by rw [← g.K]; exact rule X) (a1 X g) (hb _) hline, rf_m0 hr a2⟩
theorem re_m1 {id : String} {name : Str} {o e : Expr} {ma mb : MP} {f : Str → D → Option Res} (r : PySem.W.Frag → V → List V → Hp → VK → Prop) (slot : Slot "str" name id) (ty : typeOf (.builtin id) = pure (.type "method_descriptor")) (rule : ∀ X : Cx, MtR X id (r X.K)) (hr : RM1ok C.K (r C.K) f) (ha : RP C N sc o ma) (hb : RP C N sc e mb)
    (hs : ∀ env : Env, starEach [e] env = [(false, eval e env)] := by intro _; rfl) (hab : ∀ env : Env, attributeBase o name env (eval o env) = eval o env := by intro _; rfl) (hline : (apos.endLine == pos.line) = true := by rfl) : RE C N sc (.Call (.Attribute o name apos) [e] [] pos) (m_m1 f ma mb) :=
  let ⟨t, a1, a2⟩ := ha; let ⟨u, b1, b2⟩ := hb
  ⟨tM1 (r C.K) t u, fun X g => pe_m1 slot ty (by rw [← g.K]; exact rule X) (a1 X g) (b1 X g) (hs _) (hab _) hline, rf_m1 hr a2 b2⟩
end

/-! ### a def -/
def keep (lk : List Nat) (k : Nat) (ρ : List O) : List O := (List.range k).map fun i => if i ∈ lk then ρ.getD i .n else .n
/-- a def's mirror by its body's: n names, k parameters, those of lk never stored -/
def fnM (n k : Nat) (lk : List Nat) (m : MS) : List O → Option (O × List O) := fun os => (m (os ++ List.replicate (n - os.length) .n)).bind fun o => match o with
  | .rt r ρ => some (r, keep lk k ρ)
  | .nx ρ => some (.v .non, keep lk k ρ)
  | _ => none
section
variable {P : Program} {w : World} {K : PySem.W.Frag} {mg : Str → Option Value} {base : Heap}
theorem start_len {N : List Str} {vs : List V} (h : vs.length ≤ N.length) : (L2.start N vs).length = N.length := by
  unfold L2.start
  rw [List.length_append, List.length_map, List.length_replicate]
  omega
theorem keep_ok {c : Cc} {lk : List Nat} {k : Nat} {ρ : List O} {σ : L2.St} {vs : List V} {H : Hp} {o : O} {x : V} (hv : vs.length = k) (hl : ρ.length = σ.length) (hk : ∀ i ∈ lk, i < k → σ[i]? = some (vs[i]?)) (r : Rel K c ((o, some x) :: ρ.zip σ) H) : Rel K c ((o, some x) :: (keep lk k ρ).zip (vs.map some)) H := by
  refine r.wk fun i p e => ?_
  cases i with
  | zero => exact .inr e
  | succ i =>
    have e : ((keep lk k ρ).zip (vs.map some))[i]? = some p := e
    show p.1 = .n ∨ (ρ.zip σ)[i]? = some p
    rw [List.getElem?_zip_eq_some] at e ⊢
    obtain ⟨e1, e2⟩ := e
    unfold keep at e1
    rw [List.getElem?_map] at e1
    obtain ⟨j, hj, e1⟩ := Option.map_eq_some_iff.mp e1
    obtain ⟨hjk, ej⟩ := List.getElem?_eq_some_iff.mp hj
    rw [List.length_range] at hjk
    rw [List.getElem_range] at ej
    subst ej
    by_cases hm : i ∈ lk
    · rw [if_pos hm] at e1
      have q := hk i hm hjk
      have hi : i < ρ.length := by
        rw [hl]
        exact (List.getElem?_eq_some_iff.mp q).1
      refine .inr ⟨?_, ?_⟩
      · rw [← e1, List.getD_eq_getElem?_getD, List.getElem?_eq_getElem hi]
        rfl
      · rw [q, ← e2, List.getElem?_map]
        have hiv : i < vs.length := by omega
        rw [List.getElem?_eq_getElem hiv]
        rfl
    · rw [if_neg hm] at e1
      exact .inl e1.symm
theorem fn_ok {x qual : Str} {params : Arguments} {body : List Stmt} {scope : Scope} {f : Addr} {fd : FuncData} {N ps : List Str} {k : Nat} (lk : List Nat) {m : MS} (F : FunD K x qual params body scope [] [] f fd) (S : FnScope N ps scope) (h : RSs ⟨P, w, K, mg, base, k⟩ N ⟨scope, scope⟩ lk body m) :
    FnOk P w K mg base CX0 (k + 1) f fd ps (spM K ps.length (fnM N.length ps.length lk m)) := by
  obtain ⟨t, a1, a2⟩ := h
  have hpl : ps.length ≤ N.length := by have := congrArg List.length S.pre; rw [List.length_take] at this; omega
  refine F.ok S (fun vs H Q E q => q.1) (fun cdv A outer s H vs Q E hr q => ⟨t, PSs.nox (a1 _ ⟨rfl, rfl, rfl, rfl, rfl, rfl, rfl, hr, rfl, fun _ _ => rfl⟩ rfl), ?_⟩)
  obtain ⟨hv, B, F1, os, r, outs, ho, rel, e, kk⟩ := q
  unfold fnM at e
  obtain ⟨out, e1, e⟩ := Option.bind_eq_some_iff.mp e
  have hs : (L2.start N vs).length = N.length := start_len (by omega)
  have hsl : (os ++ List.replicate (N.length - os.length) O.n).length = (L2.start N vs).length := by
    rw [hs, List.length_append, List.length_replicate]
    omega
  have rel0 : Rel K ⟨B, H, F1⟩ (([] : Cells) ++ (os ++ List.replicate (N.length - os.length) O.n).zip (L2.start N vs)) H := by
    have q : Rel K ⟨B, H, F1⟩ (os.zip (vs.map some)) H := ⟨F1, rel⟩
    refine q.wk fun i p e => ?_
    have e : ((os ++ List.replicate (N.length - os.length) O.n).zip (L2.start N vs))[i]? = some p := e
    rw [List.getElem?_zip_eq_some] at e
    obtain ⟨e1, e2⟩ := e
    by_cases hi : i < os.length
    · rw [List.getElem?_append_left hi] at e1
      refine .inr ?_
      rw [List.getElem?_zip_eq_some]
      refine ⟨e1, ?_⟩
      unfold L2.start at e2
      rw [List.getElem?_append_left (by rw [List.length_map]; omega)] at e2
      exact e2
    · rw [List.getElem?_append_right (by omega), List.getElem?_replicate] at e1
      split at e1
      · exact .inl (Option.some.inj e1).symm
      · cases e1
  have pin : ∀ σ' : L2.St, lkp lk (L2.start N vs) σ' → ∀ i ∈ lk, i < ps.length → σ'[i]? = some (vs[i]?) := fun σ' hk i hi hlt => by
    rw [hk i hi]
    unfold L2.start
    rw [List.getElem?_append_left (by rw [List.length_map]; omega), List.getElem?_map, List.getElem?_eq_getElem (by omega)]
    rfl
  refine a2 ⟨B, H, F1⟩ [] _ (L2.start N vs) H _ out hsl hs rel0 e1 ?_
  cases out with
  | nx ρ1 =>
    cases e
    intro σ' H' hl' _ hk' r'
    obtain ⟨G, gg⟩ := r'
    exact kk .non H' (keep_ok hv hl' (pin σ' hk') (gg.add rfl))
  | rt o ρ1 =>
    cases e
    intro x σ' H' hl' _ hk' r'
    exact kk x H' (keep_ok hv hl' (pin σ' hk') r')
  | bk ρ1 => cases e
  | ct ρ1 => cases e
theorem Cal.mk' {x : Str} {k n : Nat} {g : List O → Option (O × List O)} {f : Addr} {fd : FuncData} {ps : List Str} (hn : ps.length = n) (F : FnOk P w K mg base CX0 k f fd ps (spM K n g)) (hm : mg x = some (.ref f)) (hk : PySem.W.keepIn K (.ref f) = true) (hb : Binds K fd ps []) : Cal P w K mg base k x n g := ⟨⟨f, fd, ps, hn, F, hm, hk, hb⟩⟩
end
end Mr

set_option Elab.async false
set_option linter.all false
set_option maxRecDepth 100000
set_option maxHeartbeats 4000000
/-! MrF: operators, built-ins and methods by their values. -/
namespace Mr
open PySem PySem.Spec PyProof.Rows L2

/-! ### what an operand is -/
section
variable {K : PySem.W.Frag} {h H : Hp}
theorem vw_bl {b : Bool} {x : V} (q : Vw K h H (.bl b) x) : x = .bl b := by
  rcases q with q | ⟨ds, a, xs, e, _⟩
  · exact q
  · cases e
theorem vw_non {x : V} (q : Vw K h H .non x) : x = .non := by
  rcases q with q | ⟨ds, a, xs, e, _⟩
  · exact q
  · cases e
theorem vw_ty {n : String} {x : V} (q : Vw K h H (.ty n) x) : x = .ty n := by
  rcases q with q | ⟨ds, a, xs, e, _⟩
  · exact q
  · cases e
theorem vw_lst (hs : Same h H) {ds : List D} {x : V} (q : Vw K h H (.lst ds) x) : ∃ a xs, x = .ref a ∧ H a = some (.lst xs) ∧ Reps K h ds xs := by
  rcases q with ⟨a, xs, e1, e2, e3⟩ | ⟨ds', a, xs, e, e1, e2, e3⟩
  · exact ⟨a, xs, e1, hs _ _ e2, e3⟩
  · cases e
    exact ⟨a, xs, e1, e2, e3⟩
theorem vw_tup (hs : Same h H) {ds : List D} {x : V} (q : Vw K h H (.tup ds) x) : ∃ a xs, x = .ref a ∧ SqT K H a xs ∧ Reps K h ds xs ∧ Rep K h (.tup ds) x := by
  rcases q with ⟨a, xs, e1, e2, e3⟩ | ⟨ds', a, xs, e, e1, e2, e3⟩
  · exact ⟨a, xs, e1, sqT_same hs e2, e3, a, xs, e1, e2, e3⟩
  · cases e
theorem vw_rl (hs : Same h H) {ds : List D} {x : V} (q : Vw K h H (.rl ds) x) : ∃ a xs, x = .ref a ∧ SqL K H a xs ∧ Reps K h ds xs := by
  rcases q with ⟨a, xs, e1, e2, e3⟩ | ⟨ds', a, xs, e, e1, e2, e3⟩
  · exact ⟨a, xs, e1, hs.seq e2, e3⟩
  · cases e
theorem sql {a : Addr} {xs : List V} (h : H a = some (.lst xs)) : SqL K H a xs := .inl (.inl h)
theorem line1 {n : Nat} (h : n ≤ 1000000) : n ≤ sizeLine := Nat.le_trans h (by decide)
/-- plain results -/
theorem resS {d : D} {z : V} (q : Rep K h d z) : ResAt K h H (.s d) z H := ⟨rfl, q⟩
theorem resL {ds : List D} {xs : List V} {p : Addr} (hp : H p = none) (q : Reps K h ds xs) : ResAt K h H (.nl ds) (.ref p) (upd H p (.lst xs)) := ⟨p, xs, rfl, hp, rfl, q⟩
theorem resT {ds : List D} {xs : List V} {p : Addr} (hp : H p = none) (q : Reps K h ds xs) : ResAt K h H (.nt ds) (.ref p) (upd H p (.tup xs)) := ⟨p, xs, rfl, hp, rfl, q⟩
theorem Reps.isNil {ds : List D} {xs : List V} (q : Reps K h ds xs) : ds = [] ↔ xs = [] := by
  have := q.length
  constructor
  · intro e; subst e; exact List.length_eq_zero_iff.mp this.symm
  · intro e; subst e; exact List.length_eq_zero_iff.mp this
end

/-! ### + -/
def addD : D → D → Option Res
  | .int i, .int j => some (.s (.int (i + j)))
  | .str a, .str b => if a.length + b.length ≤ 1000000 then some (.s (.str (a ++ b))) else none
  | .lst a, .lst b => if a.length + b.length ≤ 1000000 then some (.nl (a ++ b)) else none
  | .tup a, .tup b => if a ≠ [] ∧ b ≠ [] ∧ a.length + b.length ≤ 1000000 then some (.nt (a ++ b)) else none
  | _, _ => none
def rAddA (K : PySem.W.Frag) : R2 := fun x y H Q => (∃ i j, x = .int i ∧ y = .int j ∧ Q (.int (i + j)) H) ∨ (∃ i j, x = .str i ∧ y = .str j ∧ i.length + j.length ≤ sizeLine ∧ Q (.str (i ++ j)) H) ∨ rCat x y H Q ∨ rCatT K x y H Q
theorem op_addA (X : Cx) : OpR X (binaryOp .Add) (rAddA X.K) := op_add.or (op_add_str.or (op_cat.or op_catT))
theorem addD_ok {K : PySem.W.Frag} : R2ok K (rAddA K) addD := by
  intro h H x y dx dy res Q hs vx vy e k
  unfold addD at e
  split at e
  · cases e
    cases vw_int vx
    cases vw_int vy
    exact .inl ⟨_, _, rfl, rfl, k _ _ (resS rfl)⟩
  · split at e
    · rename_i hz
      cases e
      cases vw_str vx
      cases vw_str vy
      exact .inr (.inl ⟨_, _, rfl, rfl, line1 hz, k _ _ (resS rfl)⟩)
    · cases e
  · split at e
    · rename_i hz
      cases e
      obtain ⟨a, xs, rfl, ha, ra⟩ := vw_lst hs vx
      obtain ⟨b, ys, rfl, hb, rb⟩ := vw_lst hs vy
      exact .inr (.inr (.inl ⟨a, b, xs, ys, rfl, rfl, ha, hb, by rw [← ra.length, ← rb.length]; exact line1 hz, fun p hp => k _ _ (resL hp (ra.append rb))⟩))
    · cases e
  · split at e
    · rename_i hz
      cases e
      obtain ⟨a, xs, rfl, ha, ra, _⟩ := vw_tup hs vx
      obtain ⟨b, ys, rfl, hb, rb, _⟩ := vw_tup hs vy
      exact .inr (.inr (.inr ⟨a, b, xs, ys, rfl, rfl, ha, hb, fun z => hz.1 (ra.isNil.mpr z), by rw [← ra.length, ← rb.length]; exact line1 hz.2.2, fun z => absurd (rb.isNil.mpr z) hz.2.1, fun _ p hp => k _ _ (resT hp (ra.append rb))⟩))
    · cases e
  · cases e

/-! ### -, *, //, %, ** -/
def subD : D → D → Option Res
  | .int i, .int j => some (.s (.int (i - j)))
  | _, _ => none
theorem op_subA (X : Cx) : OpR X (binaryOp .Sub) (rI0 fun i j => .int (i - j)) := op_sub
theorem subD_ok {K : PySem.W.Frag} : R2ok K (rI0 fun i j => .int (i - j)) subD := by
  intro h H x y dx dy res Q hs vx vy e k
  unfold subD at e
  split at e
  · cases e
    cases vw_int vx
    cases vw_int vy
    exact ⟨_, _, rfl, rfl, k _ _ (resS rfl)⟩
  · cases e
/-- a text n times -/
def mulS (z : Str) (n : Nat) : Str := ⟨(List.replicate n z.cps.toList).flatten.toArray⟩
theorem fold_app (l : List (Array Nat)) : ∀ acc : Array Nat, (l.foldl (· ++ ·) acc).toList = acc.toList ++ (l.map Array.toList).flatten := by
  induction l with
  | nil => intro acc; simp
  | cons a l ih => intro acc; rw [List.foldl_cons, ih]; simp
theorem mulS_fold (z : Str) (n : Nat) : (⟨(List.replicate n z.cps).foldl (· ++ ·) #[]⟩ : Str) = mulS z n := by
  unfold mulS
  congr 1
  rw [← Array.toList_inj, fold_app]
  simp
def rMulS : R2 := fun x y H Q => ∃ z n, x = .str z ∧ y = .int n ∧ -(2 ^ 62) ≤ n ∧ n < 2 ^ 62 ∧ z.length * n.toNat ≤ sizeLine ∧ Q (.str (mulS z n.toNat)) H
theorem op_mulS (X : Cx) : OpR X (binaryOp .Mult) rMulS := by
  intro pins s σ H x y v u Q I rx ry h
  obtain ⟨z, n, rfl, rfl, h1, h2, hz, q⟩ := h
  obtain ⟨t, rfl⟩ := rx
  obtain ⟨t', rfl⟩ := ry
  have hl : sizeLine = 16777216 := sizeLine_eq
  refine PySem.P.mul_str (by
    rw [decide_eq_false (by omega), decide_eq_false (by omega)]; rfl) (fun n1 n2 => ?_) (fun n1 n2 => ?_) ?_
  · intro w
    have hn : 1 ≤ n := by omega
    have hm : (z.length : Int) * n ≤ 16777216 := by
      rw [hl] at hz
      have : ((z.length * n.toNat : Nat) : Int) ≤ 16777216 := Int.ofNat_le.mpr hz
      rw [Int.natCast_mul, Int.toNat_of_nonneg (by omega)] at this
      exact this
    have hd : (2 ^ 63 - 1) / n < z.length := w
    have := (Int.ediv_lt_iff_lt_mul (by omega : 0 < n)).mp hd
    omega
  · unfold Builtin.Str.tooLong
    exact decide_eq_false (by omega)
  · by_cases c1 : n < 1
    · rw [if_pos c1]
      have e : Str.empty = mulS z n.toNat := by
        rw [show n.toNat = 0 by omega]
        rfl
      exact ⟨by decide, ⟨.str (mulS z n.toNat), H, I.tok _, ⟨_, by rw [e]⟩, q⟩⟩
    · rw [if_neg c1]
      by_cases c2 : (n == 1 || z.length == 0) = true
      · rw [if_pos c2]
        have e : z = mulS z n.toNat := by
          rw [Bool.or_eq_true] at c2
          rcases c2 with c2 | c2
          · rw [show n.toNat = 1 by have := beq_iff_eq.mp c2; omega]
            unfold mulS
            simp
          · have e0 : z.length = 0 := beq_iff_eq.mp c2
            have e1 : z.cps.toList = [] := by
              have : z.cps.size = 0 := e0
              simpa using this
            unfold mulS
            rw [e1]
            have e2 : z.cps = #[] := by rw [← Array.toList_inj]; exact e1
            cases z
            simp only at e2
            rw [e2]
            simp
        exact ⟨.str (mulS z n.toNat), H, I, ⟨t, by rw [← e]⟩, q⟩
      · rw [if_neg c2, mulS_fold]
        refine ⟨?_, ⟨.str (mulS z n.toNat), H, I.tok _, ⟨_, rfl⟩, q⟩⟩
        unfold mulS
        show (List.replicate n.toNat z.cps.toList).flatten.toArray.size ≤ _
        simp only [List.size_toArray, List.length_flatten, List.map_replicate, List.sum_replicate_nat]
        have : z.cps.toList.length = z.length := by simp [Str.length]
        rw [this, Nat.mul_comm]
        exact hz
def mulD : D → D → Option Res
  | .int i, .int j => if i.natAbs < 2 ^ 64 ∨ j.natAbs < 2 ^ 64 then some (.s (.int (i * j))) else none
  | .str z, .int n => if big n = true ∧ z.length * n.toNat ≤ 1000000 then some (.s (.str (mulS z n.toNat))) else none
  | .lst ds, .int n => if big n = true ∧ ds.length * n.toNat ≤ 1000000 then some (.nl (List.replicate n.toNat ds).flatten) else none
  | _, _ => none
def rMulA : R2 := fun x y H Q => rI CMul (fun i j => .int (i * j)) x y H Q ∨ rMulS x y H Q ∨ rRep x y H Q
theorem op_mulA (X : Cx) : OpR X (binaryOp .Mult) rMulA := op_mul.or ((op_mulS X).or op_rep)
theorem mulD_ok {K : PySem.W.Frag} : R2ok K rMulA mulD := by
  intro h H x y dx dy res Q hs vx vy e k
  unfold mulD at e
  split at e
  · split at e
    · rename_i hz
      cases e
      cases vw_int vx
      cases vw_int vy
      refine .inl ⟨_, _, rfl, rfl, ?_, k _ _ (resS rfl)⟩
      rcases hz with hz | hz
      · exact .inl (by omega)
      · exact .inr (by omega)
    · cases e
  · split at e
    · rename_i hz
      cases e
      cases vw_str vx
      cases vw_int vy
      exact .inr (.inl ⟨_, _, rfl, rfl, (big_ok hz.1).1, (big_ok hz.1).2, line1 hz.2, k _ _ (resS rfl)⟩)
    · cases e
  · split at e
    · rename_i hz
      cases e
      obtain ⟨a, xs, rfl, ha, ra⟩ := vw_lst hs vx
      cases vw_int vy
      have b := big_ok hz.1
      exact .inr (.inr ⟨a, _, xs, rfl, rfl, ha, by omega, by omega, by rw [← ra.length]; exact line1 hz.2, fun p hp => k _ _ (resL hp (ra.flatten_rep _))⟩)
    · cases e
  · cases e
def fdivD : D → D → Option Res
  | .int i, .int j => if 0 < j ∧ j < 1000000000000000000000000000000 then some (.s (.int (i / j))) else none
  | _, _ => none
theorem op_fdivA (X : Cx) : OpR X (binaryOp .FloorDiv) (rI CDivW fun i j => .int (i / j)) := op_fdivW
theorem fdivD_ok {K : PySem.W.Frag} : R2ok K (rI CDivW fun i j => .int (i / j)) fdivD := by
  intro h H x y dx dy res Q hs vx vy e k
  unfold fdivD at e
  split at e
  · split at e
    · rename_i j hz
      cases e
      cases vw_int vx
      cases vw_int vy
      have hb : (j.natAbs : Nat) < 2 ^ 100 := by
        have : (2 : Nat) ^ 100 = 1267650600228229401496703205376 := by decide
        omega
      exact ⟨_, _, rfl, rfl, wide_div hz.1 hb (by decide) (by decide), k _ _ (resS rfl)⟩
    · cases e
  · cases e
def modD : D → D → Option Res
  | .int i, .int j => if 0 < j then some (.s (.int (i % j))) else none
  | _, _ => none
theorem op_modA (X : Cx) : OpR X (binaryOp .Mod) (rI (fun _ j => 0 < j) fun i j => .int (i % j)) := op_mod
theorem modD_ok {K : PySem.W.Frag} : R2ok K (rI (fun _ j => 0 < j) fun i j => .int (i % j)) modD := by
  intro h H x y dx dy res Q hs vx vy e k
  unfold modD at e
  split at e
  · split at e
    · rename_i hz
      cases e
      cases vw_int vx
      cases vw_int vy
      exact ⟨_, _, rfl, rfl, hz, k _ _ (resS rfl)⟩
    · cases e
  · cases e
def CPowW (i j : Int) : Prop := 0 ≤ j ∧ j ≤ 100 ∧ i.natAbs < 2 ^ 1000
theorem op_powA (X : Cx) : OpR X (binaryOp .Pow) (rI CPowW fun i j => .int (i ^ j.toNat)) := opI fun i j _ _ _ _ _ hc q => by
  refine pow_int hc.1 ?_ q
  have hb : Builtin.Int.intBits i ≤ 1001 := by
    unfold Builtin.Int.intBits
    split
    · omega
    · have : i.natAbs.log2 < 1000 := PySem.Flt.log2_lt_of (by decide) hc.2.2
      omega
  have h1 : (Builtin.Int.intBits i : Int) * j ≤ 1001 * 100 := Int.mul_le_mul (by omega) hc.2.1 hc.1 (by omega)
  have h2 : (2 : Int) ^ 27 = 134217728 := by decide
  omega
def powD : D → D → Option Res
  | .int i, .int j => if 0 ≤ j ∧ j ≤ 100 ∧ i.natAbs < 2 ^ 1000 then some (.s (.int (i ^ j.toNat))) else none
  | _, _ => none
theorem powD_ok {K : PySem.W.Frag} : R2ok K (rI CPowW fun i j => .int (i ^ j.toNat)) powD := by
  intro h H x y dx dy res Q hs vx vy e k
  unfold powD at e
  split at e
  · split at e
    · rename_i hz
      cases e
      cases vw_int vx
      cases vw_int vy
      exact ⟨_, _, rfl, rfl, hz, k _ _ (resS rfl)⟩
    · cases e
  · cases e
def negD : D → Option Res
  | .int i => some (.s (.int (-i)))
  | _ => none
theorem negD_ok {K : PySem.W.Frag} : R1ok K (rU fun i => .int (-i)) negD := by
  intro h H x dx res Q hs vx e k
  unfold negD at e
  split at e
  · cases e
    cases vw_int vx
    exact ⟨_, rfl, k _ _ (resS rfl)⟩
  · cases e

/-! ### comparisons -/
def ltS (a b : Str) : Bool := decide (a.cps.toList < b.cps.toList)
def rLtA : R2 := fun x y H Q => rI0 (fun i j => .bl (decide (i < j))) x y H Q ∨ ∃ i j, x = .str i ∧ y = .str j ∧ Q (.bl (decide (i.cps.toList < j.cps.toList))) H
theorem op_ltA (X : Cx) (_ : X.A.units + 64 < cLine) : OpR X (compareOp .Lt) rLtA := op_lt.or op_lt_str
def ltD : D → D → Option Res
  | .int i, .int j => some (.s (.bl (decide (i < j))))
  | .str a, .str b => some (.s (.bl (ltS a b)))
  | _, _ => none
theorem ltD_ok {K : PySem.W.Frag} : R2b K rLtA ltD := by
  refine ⟨?_, ?_⟩
  · intro h H x y dx dy res Q hs vx vy e k
    unfold ltD at e
    split at e
    · cases e
      cases vw_int vx
      cases vw_int vy
      exact .inl ⟨_, _, rfl, rfl, k _ _ (resS rfl)⟩
    · cases e
      cases vw_str vx
      cases vw_str vy
      exact .inr ⟨_, _, rfl, rfl, k _ _ (resS rfl)⟩
    · cases e
  · intro d1 d2 res e
    unfold ltD at e
    split at e
    · cases e; exact ⟨_, rfl⟩
    · cases e; exact ⟨_, rfl⟩
    · cases e
theorem cmpI_ok {K : PySem.W.Frag} {g : Int → Int → Bool} {f : D → D → Option Res} (h1 : ∀ i j, f (.int i) (.int j) = some (.s (.bl (g i j)))) (h2 : ∀ d1 d2 res, f d1 d2 = some res → ∃ i j, d1 = .int i ∧ d2 = .int j) : R2b K (rI0 fun i j => .bl (g i j)) f := by
  refine ⟨?_, ?_⟩
  · intro h H x y dx dy res Q hs vx vy e k
    obtain ⟨i, j, rfl, rfl⟩ := h2 _ _ _ e
    rw [h1] at e
    cases e
    cases vw_int vx
    cases vw_int vy
    exact ⟨_, _, rfl, rfl, k _ _ (resS rfl)⟩
  · intro d1 d2 res e
    obtain ⟨i, j, rfl, rfl⟩ := h2 _ _ _ e
    rw [h1] at e
    cases e
    exact ⟨_, rfl⟩
def leD : D → D → Option Res
  | .int i, .int j => some (.s (.bl (decide (i ≤ j))))
  | _, _ => none
def gtD : D → D → Option Res
  | .int i, .int j => some (.s (.bl (decide (j < i))))
  | _, _ => none
def geD : D → D → Option Res
  | .int i, .int j => some (.s (.bl (decide (j ≤ i))))
  | _, _ => none
theorem leD_ok {K : PySem.W.Frag} : R2b K (rI0 fun i j => .bl (decide (i ≤ j))) leD := cmpI_ok (fun _ _ => rfl) fun d1 d2 res e => by
  unfold leD at e
  split at e
  · exact ⟨_, _, rfl, rfl⟩
  · cases e
theorem gtD_ok {K : PySem.W.Frag} : R2b K (rI0 fun i j => .bl (decide (j < i))) gtD := cmpI_ok (fun _ _ => rfl) fun d1 d2 res e => by
  unfold gtD at e
  split at e
  · exact ⟨_, _, rfl, rfl⟩
  · cases e
theorem geD_ok {K : PySem.W.Frag} : R2b K (rI0 fun i j => .bl (decide (j ≤ i))) geD := cmpI_ok (fun _ _ => rfl) fun d1 d2 res e => by
  unfold geD at e
  split at e
  · exact ⟨_, _, rfl, rfl⟩
  · cases e
theorem op_leA (X : Cx) (_ : X.A.units + 64 < cLine) : OpR X (compareOp .LtE) (rI0 fun i j => .bl (decide (i ≤ j))) := op_le
theorem op_gtA (X : Cx) (_ : X.A.units + 64 < cLine) : OpR X (compareOp .Gt) (rI0 fun i j => .bl (decide (j < i))) := op_gt
theorem op_geA (X : Cx) (_ : X.A.units + 64 < cLine) : OpR X (compareOp .GtE) (rI0 fun i j => .bl (decide (j ≤ i))) := op_ge
/-- == of flat data -/
def eqB : D → D → Option Bool
  | .non, .non => some true | .non, .int _ => some false | .int _, .non => some false | .non, .bl _ => some false | .bl _, .non => some false | .non, .str _ => some false | .str _, .non => some false
  | .int i, .int j => some (decide (i = j)) | .bl i, .bl j => some (decide (i = j)) | .str i, .str j => some (decide (i = j))
  | .int _, .str _ => some false | .str _, .int _ => some false | .bl _, .str _ => some false | .str _, .bl _ => some false
  | _, _ => none
def eqD (a b : D) : Option Res := (eqB a b).map fun k => .s (.bl k)
def neD (a b : D) : Option Res := (eqB a b).map fun k => .s (.bl (!k))
theorem op_eqA (X : Cx) (_ : X.A.units + 64 < cLine) : OpR X (compareOp .Eq) rEq := op_eq
theorem op_neA (X : Cx) (_ : X.A.units + 64 < cLine) : OpR X (compareOp .NotEq) rNe := op_ne
theorem eqB_ok {K : PySem.W.Frag} {h H : Hp} {x y : V} {dx dy : D} {b : Bool} (vx : Vw K h H dx x) (vy : Vw K h H dy y) (e : eqB dx dy = some b) : scal x y = true ∧ decide (x = y) = b := by
  unfold eqB at e
  split at e <;> first
    | (cases e; done)
    | skip
  all_goals (cases e)
  all_goals first
    | cases vw_non vx
    | cases vw_int vx
    | cases vw_bl vx
    | cases vw_str vx
  all_goals first
    | cases vw_non vy
    | cases vw_int vy
    | cases vw_bl vy
    | cases vw_str vy
  all_goals refine ⟨rfl, ?_⟩
  all_goals simp
theorem eqD_ok {K : PySem.W.Frag} : R2b K rEq eqD := by
  refine ⟨?_, ?_⟩
  · intro h H x y dx dy res Q hs vx vy e k
    obtain ⟨b, e1, e⟩ := Option.map_eq_some_iff.mp e
    subst e
    obtain ⟨s1, s2⟩ := eqB_ok vx vy e1
    exact ⟨s1, by rw [s2]; exact k _ _ (resS rfl)⟩
  · intro d1 d2 res e
    obtain ⟨b, e1, e⟩ := Option.map_eq_some_iff.mp e
    exact ⟨b, e.symm⟩
theorem neD_ok {K : PySem.W.Frag} : R2b K rNe neD := by
  refine ⟨?_, ?_⟩
  · intro h H x y dx dy res Q hs vx vy e k
    obtain ⟨b, e1, e⟩ := Option.map_eq_some_iff.mp e
    subst e
    obtain ⟨s1, s2⟩ := eqB_ok vx vy e1
    exact ⟨s1, by rw [s2]; exact k _ _ (resS rfl)⟩
  · intro d1 d2 res e
    obtain ⟨b, e1, e⟩ := Option.map_eq_some_iff.mp e
    exact ⟨!b, e.symm⟩
/-- is None, is not None -/
def isN : D → Bool
  | .non => true
  | _ => false
def isnD : D → D → Option Res
  | d, .non => some (.s (.bl (isN d)))
  | _, _ => none
def nsnD : D → D → Option Res
  | d, .non => some (.s (.bl (!isN d)))
  | _, _ => none
theorem isN_ok {K : PySem.W.Frag} {h H : Hp} {d : D} {x : V} (v : Vw K h H d x) : decide (x = .non) = isN d := by
  rcases v with v | ⟨ds, a, xs, rfl, rfl, _⟩
  · cases d with
    | non => cases v; rfl
    | bl b => cases v; rfl
    | int b => cases v; rfl
    | str b => cases v; rfl
    | ty b => cases v; rfl
    | tup ds => obtain ⟨a, xs, rfl, _⟩ := v; rfl
    | lst ds => obtain ⟨a, xs, rfl, _⟩ := v; rfl
    | rl ds => obtain ⟨a, xs, rfl, _⟩ := v; rfl
  · rfl
theorem op_isA (X : Cx) (_ : X.A.units + 64 < cLine) : OpR X (compareOp .Is) (fun x y H Q => y = .non ∧ Q (.bl (decide (x = .non))) H) := op_isN
theorem op_nsA (X : Cx) (_ : X.A.units + 64 < cLine) : OpR X (compareOp .IsNot) (fun x y H Q => y = .non ∧ Q (.bl (!decide (x = .non))) H) := op_notN
theorem isnD_ok {K : PySem.W.Frag} : R2ok K (fun x y H Q => y = .non ∧ Q (.bl (decide (x = .non))) H) isnD := by
  intro h H x y dx dy res Q hs vx vy e k
  unfold isnD at e
  split at e
  · cases e
    exact ⟨vw_non vy, by rw [isN_ok vx]; exact k _ _ (resS rfl)⟩
  · cases e
theorem nsnD_ok {K : PySem.W.Frag} : R2ok K (fun x y H Q => y = .non ∧ Q (.bl (!decide (x = .non))) H) nsnD := by
  intro h H x y dx dy res Q hs vx vy e k
  unfold nsnD at e
  split at e
  · cases e
    exact ⟨vw_non vy, by rw [isN_ok vx]; exact k _ _ (resS rfl)⟩
  · cases e
/-- in, not in: a sign of a text; flat data among flat data -/
def flatD : D → Bool
  | .non => true | .bl _ => true | .int _ => true | .str _ => true
  | _ => false
def eqF : D → D → Bool
  | .non, .non => true
  | .bl a, .bl b => a == b
  | .bl a, .int b => (if a then 1 else 0) == b
  | .int a, .bl b => a == (if b then 1 else 0)
  | .int a, .int b => a == b
  | .str a, .str b => a == b
  | _, _ => false
def inB : D → D → Option Bool
  | .str ⟨⟨[c]⟩⟩, .str z => some (decide (c ∈ z.cps.toList))
  | d, .lst ds => if flatD d = true ∧ ds.all flatD = true then some (ds.any fun e => eqF e d) else none
  | d, .tup ds => if flatD d = true ∧ ds.all flatD = true then some (ds.any fun e => eqF e d) else none
  | _, _ => none
def inD (a b : D) : Option Res := (inB a b).map fun k => .s (.bl k)
def ninD (a b : D) : Option Res := (inB a b).map fun k => .s (.bl (!k))
theorem flat_ok {K : PySem.W.Frag} {h H : Hp} {d : D} {x : V} (v : Rep K h d x) (e : flatD d = true) : flatV x = true := by
  cases d with
  | non => cases v; rfl
  | bl b => cases v; rfl
  | int b => cases v; rfl
  | str b => cases v; rfl
  | _ => cases e
theorem eqF_ok {K : PySem.W.Frag} {h : Hp} {d e : D} {x y : V} (v : Rep K h d x) (w : Rep K h e y) (f1 : flatD d = true) (f2 : flatD e = true) : eqV x y = eqF d e := by
  cases d <;> first
    | (cases f1; done)
    | skip
  all_goals (cases e <;> first
    | (cases f2; done)
    | skip)
  all_goals (cases v; cases w; rfl)
theorem flats_ok {K : PySem.W.Frag} {h : Hp} : ∀ {ds : List D} {xs : List V}, Reps K h ds xs → ds.all flatD = true → xs.all flatV = true
  | [], _, r, _ => by cases r; rfl
  | d :: ds, _, ⟨x, r, e1, e2, e3⟩, f => by
    subst e1
    rw [List.all_cons, Bool.and_eq_true] at f ⊢
    exact ⟨flat_ok (H := h) e2 f.1, flats_ok e3 f.2⟩
theorem any_ok {K : PySem.W.Frag} {h : Hp} {d : D} {x : V} (v : Rep K h d x) (f1 : flatD d = true) : ∀ {ds : List D} {xs : List V}, Reps K h ds xs → ds.all flatD = true → inV x xs = ds.any fun e => eqF e d
  | [], _, r, _ => by cases r; rfl
  | e :: ds, _, ⟨y, r, e1, e2, e3⟩, f => by
    subst e1
    rw [List.all_cons, Bool.and_eq_true] at f
    show (eqV y x || inV x r) = (eqF e d || _)
    rw [eqF_ok e2 v f.1 f1, any_ok v f1 e3 f.2]
theorem vw_flat {K : PySem.W.Frag} {h H : Hp} {d : D} {x : V} (v : Vw K h H d x) (f : flatD d = true) : Rep K h d x := by
  rcases v with v | ⟨ds, a, xs, rfl, _⟩
  · exact v
  · cases f
def rInA (K : PySem.W.Frag) : R2 := fun x y H Q => (∃ (c : Nat) (z : Str), x = .str ⟨#[c]⟩ ∧ y = .str z ∧ Q (.bl (decide (c ∈ z.cps.toList))) H) ∨ rIn K false x y H Q
def rNinA (K : PySem.W.Frag) : R2 := fun x y H Q => (∃ (c : Nat) (z : Str), x = .str ⟨#[c]⟩ ∧ y = .str z ∧ Q (.bl (!decide (c ∈ z.cps.toList))) H) ∨ rIn K true x y H Q
theorem op_inA (X : Cx) (_ : X.A.units + 64 < cLine) : OpR X (compareOp .In) (rInA X.K) := op_in_sign.or op_in_seq
theorem op_ninA (X : Cx) (_ : X.A.units + 64 < cLine) : OpR X (compareOp .NotIn) (rNinA X.K) := op_notIn_sign.or op_notIn_seq
theorem inD_ok {K : PySem.W.Frag} : R2ok K (rInA K) inD := by
  intro h H x y dx dy res Q hs vx vy e k
  obtain ⟨b, e1, e⟩ := Option.map_eq_some_iff.mp e
  subst e
  unfold inB at e1
  split at e1
  · cases e1
    cases vw_str vx
    cases vw_str vy
    exact .inl ⟨_, _, rfl, rfl, k _ _ (resS rfl)⟩
  · split at e1
    · rename_i hf
      cases e1
      obtain ⟨a, xs, rfl, ha, ra⟩ := vw_lst hs vy
      have vx' := vw_flat vx hf.1
      exact .inr ⟨a, xs, rfl, .inl (sql ha), flat_ok (H := h) vx' hf.1, flats_ok ra hf.2, by
        rw [if_neg Bool.false_ne_true, any_ok vx' hf.1 ra hf.2]; exact k _ _ (resS rfl)⟩
    · cases e1
  · split at e1
    · rename_i hf
      cases e1
      obtain ⟨a, xs, rfl, ha, ra, _⟩ := vw_tup hs vy
      have vx' := vw_flat vx hf.1
      exact .inr ⟨a, xs, rfl, .inr ha, flat_ok (H := h) vx' hf.1, flats_ok ra hf.2, by
        rw [if_neg Bool.false_ne_true, any_ok vx' hf.1 ra hf.2]; exact k _ _ (resS rfl)⟩
    · cases e1
  · cases e1
theorem ninD_ok {K : PySem.W.Frag} : R2ok K (rNinA K) ninD := by
  intro h H x y dx dy res Q hs vx vy e k
  obtain ⟨b, e1, e⟩ := Option.map_eq_some_iff.mp e
  subst e
  unfold inB at e1
  split at e1
  · cases e1
    cases vw_str vx
    cases vw_str vy
    exact .inl ⟨_, _, rfl, rfl, k _ _ (resS rfl)⟩
  · split at e1
    · rename_i hf
      cases e1
      obtain ⟨a, xs, rfl, ha, ra⟩ := vw_lst hs vy
      have vx' := vw_flat vx hf.1
      exact .inr ⟨a, xs, rfl, .inl (sql ha), flat_ok (H := h) vx' hf.1, flats_ok ra hf.2, by
        rw [if_pos rfl, any_ok vx' hf.1 ra hf.2]; exact k _ _ (resS rfl)⟩
    · cases e1
  · split at e1
    · rename_i hf
      cases e1
      obtain ⟨a, xs, rfl, ha, ra, _⟩ := vw_tup hs vy
      have vx' := vw_flat vx hf.1
      exact .inr ⟨a, xs, rfl, .inr ha, flat_ok (H := h) vx' hf.1, flats_ok ra hf.2, by
        rw [if_pos rfl, any_ok vx' hf.1 ra hf.2]; exact k _ _ (resS rfl)⟩
    · cases e1
  · cases e1

/-! ### items, slices -/
def ixD : D → D → Option Res
  | .lst ds, .int i => (atI ds i).map .s
  | .tup ds, .int i => (atI ds i).map .s
  | .rl ds, .int i => (atI ds i).map .s
  | .str z, .int i => if z.length ≤ 1000000 then (atI z.cps.toList i).map fun c => .s (.str ⟨#[c]⟩) else none
  | _, _ => none
theorem Reps.atI {K : PySem.W.Frag} {h : Hp} {ds : List D} {xs : List V} {i : Int} {d : D} (r : Reps K h ds xs) (e : L2.atI ds i = some d) : ∃ v, L2.atI xs i = some v ∧ Rep K h d v := by
  unfold L2.atI at e ⊢
  rw [← r.length]
  obtain ⟨j, e1, e2⟩ := Option.bind_eq_some_iff.mp e
  obtain ⟨v, h1, h2⟩ := r.get e2
  exact ⟨v, Option.bind_eq_some_iff.mpr ⟨j, e1, h1⟩, h2⟩
theorem ixD_ok {K : PySem.W.Frag} : R2ok K (rIx K) ixD := by
  intro h H x y dx dy res Q hs vx vy e k
  unfold ixD at e
  split at e
  · obtain ⟨d, e1, e⟩ := Option.map_eq_some_iff.mp e
    subst e
    obtain ⟨a, xs, rfl, ha, ra⟩ := vw_lst hs vx
    cases vw_int vy
    obtain ⟨v, h1, h2⟩ := ra.atI e1
    exact .inl ⟨a, xs, _, v, rfl, rfl, sql ha, h1, k _ _ (resS h2)⟩
  · obtain ⟨d, e1, e⟩ := Option.map_eq_some_iff.mp e
    subst e
    obtain ⟨a, xs, rfl, ha, ra, _⟩ := vw_tup hs vx
    cases vw_int vy
    obtain ⟨v, h1, h2⟩ := ra.atI e1
    exact .inr (.inl ⟨a, xs, _, v, rfl, rfl, ha, h1, k _ _ (resS h2)⟩)
  · obtain ⟨d, e1, e⟩ := Option.map_eq_some_iff.mp e
    subst e
    obtain ⟨a, xs, rfl, ha, ra⟩ := vw_rl hs vx
    cases vw_int vy
    obtain ⟨v, h1, h2⟩ := ra.atI e1
    exact .inl ⟨a, xs, _, v, rfl, rfl, ha, h1, k _ _ (resS h2)⟩
  · split at e
    · rename_i hz
      obtain ⟨c, e1, e⟩ := Option.map_eq_some_iff.mp e
      subst e
      cases vw_str vx
      cases vw_int vy
      exact .inr (.inr ⟨_, _, c, rfl, rfl, line1 hz, e1, k _ _ (resS rfl)⟩)
    · cases e
  · cases e
/-- the items of ds[lo:hi] -/
def cutD (ds : List D) (lo hi : Option Int) : List D := (ds.drop (HT.sIx ds.length 0 lo)).take (HT.sIx ds.length ds.length hi - HT.sIx ds.length 0 lo)
theorem Reps.cut {K : PySem.W.Frag} {h : Hp} {ds : List D} {xs : List V} (r : Reps K h ds xs) (lo hi : Option Int) : Reps K h (cutD ds lo hi) (cutV xs lo hi) := by
  unfold cutD cutV
  rw [← r.length]
  exact (r.drop _).take _
def slD (d : D) (lo hi : Option Int) : Option Res := match d with
  | .lst ds => some (.nl (cutD ds lo hi))
  | .rl ds => some (.nl (cutD ds lo hi))
  | .str z => if z.length ≤ 1000000 then some (.s (.str (cutS z lo hi))) else none
  | .tup ds => if HT.sIx ds.length 0 lo = 0 ∧ HT.sIx ds.length ds.length hi = ds.length then none else some (.nt (cutD ds lo hi))
  | _ => none
def rSlA (K : PySem.W.Frag) : V → Option Int → Option Int → Hp → VK → Prop := fun x lo hi H Q => rSlL K x lo hi H Q ∨ rSlS x lo hi H Q ∨ rSlT K x lo hi H Q
theorem sl_any (X : Cx) : SlR X (rSlA X.K) := sl_list.or (sl_str.or sl_tup)
theorem slD_ok {K : PySem.W.Frag} : RSok K (rSlA K) slD := by
  intro h H x dx lo hi res Q hs vx e k
  unfold slD at e
  split at e
  · cases e
    obtain ⟨a, xs, rfl, ha, ra⟩ := vw_lst hs vx
    exact .inl ⟨a, xs, rfl, sql ha, fun p hp => k _ _ (resL hp (ra.cut lo hi))⟩
  · cases e
    obtain ⟨a, xs, rfl, ha, ra⟩ := vw_rl hs vx
    exact .inl ⟨a, xs, rfl, ha, fun p hp => k _ _ (resL hp (ra.cut lo hi))⟩
  · split at e
    · rename_i hz
      cases e
      cases vw_str vx
      exact .inr (.inl ⟨_, rfl, line1 hz, k _ _ (resS rfl)⟩)
    · cases e
  · split at e
    · cases e
    · rename_i hz
      cases e
      obtain ⟨a, xs, rfl, ha, ra, _⟩ := vw_tup hs vx
      exact .inr (.inr ⟨a, xs, rfl, ha, by rw [← ra.length]; exact hz, fun p hp => k _ _ (resT hp (ra.cut lo hi))⟩)
  · cases e

/-! ### built-ins -/
def lenD : List D → Option Res
  | [.lst ds] => some (.s (.int ds.length))
  | [.tup ds] => some (.s (.int ds.length))
  | [.rl ds] => some (.s (.int ds.length))
  | [.str z] => if z.length ≤ 1000000 then some (.s (.int z.length)) else none
  | _ => none
def rLenA (K : PySem.W.Frag) : List V → Hp → VK → Prop := fun xs H Q => ∃ x n, xs = [x] ∧ LenV K x H n ∧ Q (.int n) H
theorem cb_len (X : Cx) (_ : X.calm = true) : CallR X (.builtin "len") (rLenA X.K) := call_len
theorem lenD_ok {K : PySem.W.Frag} : RLok K (rLenA K) lenD := by
  intro h H xs ds res Q hs v e k
  unfold lenD at e
  split at e
  · cases e
    obtain ⟨x, r, rfl, vx, rfl⟩ := v
    obtain ⟨a, xs, rfl, ha, ra⟩ := vw_lst hs vx
    exact ⟨_, _, rfl, .inl ⟨xs, sql ha, ra.length⟩, k _ _ (resS rfl)⟩
  · cases e
    obtain ⟨x, r, rfl, vx, rfl⟩ := v
    obtain ⟨a, xs, rfl, ha, ra, _⟩ := vw_tup hs vx
    exact ⟨_, _, rfl, .inr ⟨xs, ha, ra.length⟩, k _ _ (resS rfl)⟩
  · cases e
    obtain ⟨x, r, rfl, vx, rfl⟩ := v
    obtain ⟨a, xs, rfl, ha, ra⟩ := vw_rl hs vx
    exact ⟨_, _, rfl, .inl ⟨xs, ha, ra.length⟩, k _ _ (resS rfl)⟩
  · split at e
    · rename_i hz
      cases e
      obtain ⟨x, r, rfl, vx, rfl⟩ := v
      cases vw_str vx
      exact ⟨_, _, rfl, ⟨line1 hz, rfl⟩, k _ _ (resS rfl)⟩
    · cases e
  · cases e
def intD : List D → Option Res
  | [.int i] => some (.s (.int i))
  | [.bl b] => some (.s (.int (if b then 1 else 0)))
  | _ => none
def rIntA : List V → Hp → VK → Prop := fun xs H Q => (∃ i, xs = [.int i] ∧ Q (.int i) H) ∨ ∃ k, xs = [.bl k] ∧ Q (.int (if k then 1 else 0)) H
theorem cb_int (X : Cx) (_ : X.calm = true) : CallR X (.type "int") rIntA := call_int1
theorem intD_ok {K : PySem.W.Frag} : RLok K rIntA intD := by
  intro h H xs ds res Q hs v e k
  unfold intD at e
  split at e
  · cases e
    obtain ⟨x, r, rfl, vx, rfl⟩ := v
    cases vw_int vx
    exact .inl ⟨_, rfl, k _ _ (resS rfl)⟩
  · cases e
    obtain ⟨x, r, rfl, vx, rfl⟩ := v
    cases vw_bl vx
    exact .inr ⟨_, rfl, k _ _ (resS rfl)⟩
  · cases e
def listD : List D → Option Res
  | [.lst ds] => some (.nl ds)
  | [.tup ds] => some (.nl ds)
  | [.rl ds] => some (.nl ds)
  | _ => none
def rListA (K : PySem.W.Frag) : List V → Hp → VK → Prop := fun xs H Q => ∃ p ys, xs = [.ref p] ∧ (SqL K H p ys ∨ SqT K H p ys) ∧ ∀ l, H l = none → Q (.ref l) (upd H l (.lst ys))
theorem cb_list (X : Cx) (_ : X.calm = true) : CallR X (.type "list") (rListA X.K) := call_list_of
theorem listD_ok {K : PySem.W.Frag} : RLok K (rListA K) listD := by
  intro h H xs ds res Q hs v e k
  unfold listD at e
  split at e
  · cases e
    obtain ⟨x, r, rfl, vx, rfl⟩ := v
    obtain ⟨a, xs, rfl, ha, ra⟩ := vw_lst hs vx
    exact ⟨_, _, rfl, .inl (sql ha), fun p hp => k _ _ (resL hp ra)⟩
  · cases e
    obtain ⟨x, r, rfl, vx, rfl⟩ := v
    obtain ⟨a, xs, rfl, ha, ra, _⟩ := vw_tup hs vx
    exact ⟨_, _, rfl, .inr ha, fun p hp => k _ _ (resL hp ra)⟩
  · cases e
    obtain ⟨x, r, rfl, vx, rfl⟩ := v
    obtain ⟨a, xs, rfl, ha, ra⟩ := vw_rl hs vx
    exact ⟨_, _, rfl, .inl ha, fun p hp => k _ _ (resL hp ra)⟩
  · cases e
def max2D : List D → Option Res
  | [.int i, .int j] => some (.s (.int (if j > i then j else i)))
  | _ => none
def min2D : List D → Option Res
  | [.int i, .int j] => some (.s (.int (if j < i then j else i)))
  | _ => none
def rMax2A : List V → Hp → VK → Prop := fun xs H Q => ∃ i j, xs = [.int i, .int j] ∧ Q (.int (if j > i then j else i)) H
def rMin2A : List V → Hp → VK → Prop := fun xs H Q => ∃ i j, xs = [.int i, .int j] ∧ Q (.int (if j < i then j else i)) H
theorem cb_max2 (X : Cx) (h : X.calm = true) : CallR X (.builtin "max") rMax2A := call_max2 h
theorem cb_min2 (X : Cx) (h : X.calm = true) : CallR X (.builtin "min") rMin2A := call_min2 h
theorem max2D_ok {K : PySem.W.Frag} : RLok K rMax2A max2D := by
  intro h H xs ds res Q hs v e k
  unfold max2D at e
  split at e
  · cases e
    obtain ⟨x, r, rfl, vx, y, r2, rfl, vy, rfl⟩ := v
    cases vw_int vx
    cases vw_int vy
    exact ⟨_, _, rfl, k _ _ (resS rfl)⟩
  · cases e
theorem min2D_ok {K : PySem.W.Frag} : RLok K rMin2A min2D := by
  intro h H xs ds res Q hs v e k
  unfold min2D at e
  split at e
  · cases e
    obtain ⟨x, r, rfl, vx, y, r2, rfl, vy, rfl⟩ := v
    cases vw_int vx
    cases vw_int vy
    exact ⟨_, _, rfl, k _ _ (resS rfl)⟩
  · cases e
/-- a list of truth values -/
def bools : List D → Option (List Bool)
  | [] => some []
  | .bl b :: ds => (bools ds).map fun bs => b :: bs
  | _ :: _ => none
theorem bools_ok {K : PySem.W.Frag} {h : Hp} : ∀ {ds : List D} {xs : List V} {bs : List Bool}, Reps K h ds xs → bools ds = some bs → xs = bs.map V.bl
  | [], _, _, r, e => by cases r; cases e; rfl
  | .bl b :: ds, _, _, ⟨x, r, e1, e2, e3⟩, e => by
    obtain ⟨bs1, q, e⟩ := Option.map_eq_some_iff.mp e
    subst e
    have e2' : x = .bl b := e2
    rw [e1, e2', bools_ok e3 q]
    rfl
  | .non :: _, _, _, _, e => by cases e
  | .int _ :: _, _, _, _, e => by cases e
  | .str _ :: _, _, _, _, e => by cases e
  | .tup _ :: _, _, _, _, e => by cases e
  | .lst _ :: _, _, _, _, e => by cases e
  | .rl _ :: _, _, _, _, e => by cases e
  | .ty _ :: _, _, _, _, e => by cases e
def allD : List D → Option Res
  | [.lst ds] => (bools ds).map fun bs => .s (.bl (bs.all id))
  | _ => none
def anyD : List D → Option Res
  | [.lst ds] => (bools ds).map fun bs => .s (.bl (bs.any id))
  | _ => none
theorem cb_all (X : Cx) (h : X.calm = true) : CallR X (.builtin "all") (rAll X.K) := cr_all h
theorem cb_any (X : Cx) (h : X.calm = true) : CallR X (.builtin "any") (rAny X.K) := cr_any h
theorem allD_ok {K : PySem.W.Frag} : RLok K (rAll K) allD := by
  intro h H xs ds res Q hs v e k
  unfold allD at e
  split at e
  · obtain ⟨bs, e1, e⟩ := Option.map_eq_some_iff.mp e
    subst e
    obtain ⟨x, r, rfl, vx, rfl⟩ := v
    obtain ⟨a, xs, rfl, ha, ra⟩ := vw_lst hs vx
    exact ⟨a, bs, rfl, by rw [← bools_ok ra e1]; exact sql ha, k _ _ (resS rfl)⟩
  · cases e
theorem anyD_ok {K : PySem.W.Frag} : RLok K (rAny K) anyD := by
  intro h H xs ds res Q hs v e k
  unfold anyD at e
  split at e
  · obtain ⟨bs, e1, e⟩ := Option.map_eq_some_iff.mp e
    subst e
    obtain ⟨x, r, rfl, vx, rfl⟩ := v
    obtain ⟨a, xs, rfl, ha, ra⟩ := vw_lst hs vx
    exact ⟨a, bs, rfl, by rw [← bools_ok ra e1]; exact sql ha, k _ _ (resS rfl)⟩
  · cases e
/-- isinstance with a written built-in class -/
def tyN : D → Option String
  | .non => some "NoneType" | .bl _ => some "bool" | .int _ => some "int" | .str _ => some "str" | .tup _ => some "tuple" | .lst _ => some "list" | .rl _ => some "list"
  | .ty _ => none
def isiD : List D → Option Res
  | [d, .ty n] => (tyN d).bind fun m => (kitB m n).map fun b => .s (.bl b)
  | _ => none
theorem cb_isi (X : Cx) (_ : X.calm = true) : CallR X (.builtin "isinstance") (rIsi X.K) := call_isi
theorem tyT {K : PySem.W.Frag} {H : Hp} {a : Addr} {xs : List V} (h : SqT K H a xs) : TyX K H (.ref a) (.type "tuple") := by
  rcases h with (h | ⟨o, h⟩) | ⟨o, its, n, h1, h2, _⟩
  · exact .base (.tup h)
  · exact .fTuple h
  · exact .kTuple h1 h2
theorem tyL {K : PySem.W.Frag} {H : Hp} {a : Addr} {xs : List V} (h : SqL K H a xs) : TyX K H (.ref a) (.type "list") := by
  rcases h with (h | ⟨o, h⟩) | ⟨o, its, n, h1, h2, _⟩
  · exact .base (.lst h)
  · exact .base (.frz h)
  · exact .kList h1 h2
theorem isiD_ok {K : PySem.W.Frag} : RLok K (rIsi K) isiD := by
  intro h H xs ds res Q hs v e k
  unfold isiD at e
  split at e
  · rename_i d n
    obtain ⟨m, e1, e⟩ := Option.bind_eq_some_iff.mp e
    obtain ⟨b, e2, e⟩ := Option.map_eq_some_iff.mp e
    subst e
    obtain ⟨x, r, rfl, vx, y, r2, rfl, vy, rfl⟩ := v
    cases vw_ty vy
    have ty : TyX K H x (.type m) := by
      cases d with
      | non => cases e1; cases vw_non vx; exact .base .non
      | bl b => cases e1; cases vw_bl vx; exact .base (.bl _)
      | int b => cases e1; cases vw_int vx; exact .base (.int _)
      | str b => cases e1; cases vw_str vx; exact .base (.str _)
      | ty b => cases e1
      | tup ds => cases e1; obtain ⟨a, xs, rfl, ha, _⟩ := vw_tup hs vx; exact tyT ha
      | lst ds => cases e1; obtain ⟨a, xs, rfl, ha, _⟩ := vw_lst hs vx; exact tyL (sql ha)
      | rl ds => cases e1; obtain ⟨a, xs, rfl, ha, _⟩ := vw_rl hs vx; exact tyL ha
    exact ⟨x, _, _, _, b, rfl, .ty n, ty, kit_ty e2, k _ _ (resS rfl)⟩
  · cases e

/-! ### methods of texts -/
def strs? : List D → Option (List Str)
  | [] => some []
  | .str s :: ds => (strs? ds).map fun ss => s :: ss
  | _ :: _ => none
theorem strs_ok {K : PySem.W.Frag} {h : Hp} : ∀ {ds : List D} {xs : List V} {ss : List Str}, Reps K h ds xs → strs? ds = some ss → xs = ss.map V.str
  | [], _, _, r, e => by cases r; cases e; rfl
  | .str b :: ds, _, _, ⟨x, r, e1, e2, e3⟩, e => by
    obtain ⟨bs1, q, e⟩ := Option.map_eq_some_iff.mp e
    subst e
    have e2' : x = .str b := e2
    rw [e1, e2', strs_ok e3 q]
    rfl
  | .non :: _, _, _, _, e => by cases e
  | .int _ :: _, _, _, _, e => by cases e
  | .bl _ :: _, _, _, _, e => by cases e
  | .tup _ :: _, _, _, _, e => by cases e
  | .lst _ :: _, _, _, _, e => by cases e
  | .rl _ :: _, _, _, _, e => by cases e
  | .ty _ :: _, _, _, _, e => by cases e
def joinD (s : Str) : D → Option Res
  | .lst ds => (strs? ds).bind fun ss => if (ss.map (·.length)).sum + ss.length * s.length ≤ 1000000 then some (.s (.str (Txt.join s ss))) else none
  | .tup ds => (strs? ds).bind fun ss => if (ss.map (·.length)).sum + ss.length * s.length ≤ 1000000 then some (.s (.str (Txt.join s ss))) else none
  | _ => none
def rJoinA (K : PySem.W.Frag) : V → List V → Hp → VK → Prop := fun x xs H Q => ∃ a p, ∃ ys : List Str, x = .str a ∧ xs = [.ref p] ∧ (SqL K H p (ys.map V.str) ∨ SqT K H p (ys.map V.str)) ∧
    (ys.map (·.length)).sum + ys.length * a.length ≤ 16777216 ∧ Q (.str (Txt.join a ys)) H
theorem mt_joinA (X : Cx) : MtR X "str.join" (rJoinA X.K) := mt_join
theorem joinD_ok {K : PySem.W.Frag} : RM1ok K (rJoinA K) joinD := by
  intro h H s y dy res Q hs vy e k
  unfold joinD at e
  split at e
  · obtain ⟨ss, e1, e⟩ := Option.bind_eq_some_iff.mp e
    split at e
    · rename_i hz
      cases e
      obtain ⟨a, xs, rfl, ha, ra⟩ := vw_lst hs vy
      exact ⟨s, a, ss, rfl, rfl, .inl (by rw [← strs_ok ra e1]; exact sql ha), Nat.le_trans hz (by decide), k _ _ (resS rfl)⟩
    · cases e
  · obtain ⟨ss, e1, e⟩ := Option.bind_eq_some_iff.mp e
    split at e
    · rename_i hz
      cases e
      obtain ⟨a, xs, rfl, ha, ra, _⟩ := vw_tup hs vy
      exact ⟨s, a, ss, rfl, rfl, .inr (by rw [← strs_ok ra e1]; exact ha), Nat.le_trans hz (by decide), k _ _ (resS rfl)⟩
    · cases e
  · cases e
def lowD (s : Str) : Option Res := if s.length ≤ 1000000 then some (.s (.str (Txt.lower s))) else none
def uppD (s : Str) : Option Res := if s.length ≤ 1000000 then some (.s (.str (Txt.upper s))) else none
def rLowA : V → List V → Hp → VK → Prop := fun x xs H Q => ∃ a, x = .str a ∧ xs = [] ∧ a.length ≤ 5592405 ∧ Q (.str (Txt.lower a)) H
def rUppA : V → List V → Hp → VK → Prop := fun x xs H Q => ∃ a, x = .str a ∧ xs = [] ∧ a.length ≤ 5592405 ∧ Q (.str (Txt.upper a)) H
theorem mt_lowA (X : Cx) : MtR X "str.lower" rLowA := mt_lower
theorem mt_uppA (X : Cx) : MtR X "str.upper" rUppA := mt_upper
theorem lowD_ok {K : PySem.W.Frag} : RM0ok K rLowA lowD := by
  intro h H s res Q hs e k
  unfold lowD at e
  split at e
  · rename_i hz
    cases e
    exact ⟨s, rfl, rfl, by omega, k _ _ (resS rfl)⟩
  · cases e
theorem uppD_ok {K : PySem.W.Frag} : RM0ok K rUppA uppD := by
  intro h H s res Q hs e k
  unfold uppD at e
  split at e
  · rename_i hz
    cases e
    exact ⟨s, rfl, rfl, by omega, k _ _ (resS rfl)⟩
  · cases e
/-- a built-in class as a value -/
theorem re_tyc {C : Cd} {N : List Str} {sc : Sk} {pos : Pos} {x : Str} {T : String} (hm : C.mg x = none) (hv : bootBuiltins x = some (.type T)) (h : gloB sc x = true := by decide +kernel) : RE C N sc (.Name x pos) (m_c (.ty T)) :=
  ⟨tC (.ty T), fun X g => pe_bltn (g.gl h) (by rw [g.mg]; exact hm) hv rfl (okName_d (gloB_ok h).2).2.2 (okName_d (gloB_ok h).2).1, rf_c fun _ => rfl⟩
end Mr
namespace Mr
open PySem PySem.Spec PyProof.Rows L2
theorem re_gstrE {C : Cd} {N : List Str} {sc : Sk} {pos : Pos} {x s : Str} (hm : ∃ t, C.mg x = some (.str s t)) (h : gloB sc x = true := by decide +kernel) : RE C N sc (.Name x pos) (m_c (.str s)) := let ⟨_, e⟩ := hm; re_gstr e h
theorem re_gintE {C : Cd} {N : List Str} {sc : Sk} {pos : Pos} {x : Str} {i : Int} (hm : ∃ t, C.mg x = some (.int i t)) (h : gloB sc x = true := by decide +kernel) : RE C N sc (.Name x pos) (m_c (.int i)) := let ⟨_, e⟩ := hm; re_gint e h
end Mr
namespace Mr
open PySem PySem.Spec PyProof.Rows L2
/-- the law's promise from its mirror -/
theorem spM_law {K : PySem.W.Frag} {g : List O → Option (O × List O)} {H : Hp} {a : Addr} {ns : List Int} {outs : List O} {E : XK} (hS : SqL K H a (ns.map V.int)) (e : g [.v (.rl (ns.map D.int))] = some (.v (.bl true), outs)) : spM K 1 g [.ref a] H (fun v _ => v = .bl true) E := by
  have r0 : RelAt K ⟨[], H, []⟩ [] ([] : Cells) H := ⟨rfl, List.nodup_nil, (fun _ z => nomatch z), (fun _ z => nomatch z), (fun _ _ e _ => e), (fun _ z => nomatch z)⟩
  have e0 : hid ([] ++ ([] : List Addr)) H = H := by
    funext b
    exact hid_out (by simp)
  have r1 : RelAt K ⟨[], H, []⟩ [] [(.v (.rl (ns.map D.int)), some (.ref a))] H := ⟨⟨[], [], ⟨rfl, .ref a, rfl, a, ns.map V.int, rfl, by rw [e0]; exact hS, Reps.of_ints ns⟩, rfl, rfl⟩, r0.nd, r0.dj, r0.bt, r0.fr, r0.ow⟩
  refine ⟨rfl, [], [], [.v (.rl (ns.map D.int))], .v (.bl true), outs, rfl, r1, e, fun v H' q => ?_⟩
  obtain ⟨F, y, _, e1, q1⟩ := q.val List.mem_cons_self
  cases e1
  exact q1
end Mr

set_option Elab.async false
set_option linter.all false
set_option maxRecDepth 100000
set_option maxHeartbeats 4000000
/-! MrW: stepping through mirrors: what is wanted of a mirror's outcome, rule by rule. -/
namespace Mr
open PySem PySem.Spec PyProof.Rows L2

def WE (x : Option (O × List O)) (P : O → List O → Prop) : Prop := ∃ o ρ, x = some (o, ρ) ∧ P o ρ
/-- the same of a def's mirror -/
def WG (x : Option (O × List O)) (P : O → List O → Prop) : Prop := ∃ o ρ, x = some (o, ρ) ∧ P o ρ
def WP (x : Option (Pr × List O)) (P : Pr → List O → Prop) : Prop := ∃ o ρ, x = some (o, ρ) ∧ P o ρ
def WA (x : Option (List Pr × List O)) (P : List Pr → List O → Prop) : Prop := ∃ o ρ, x = some (o, ρ) ∧ P o ρ
def WT (x : Option (Bool × List O)) (P : Bool → List O → Prop) : Prop := ∃ o ρ, x = some (o, ρ) ∧ P o ρ
def WI (x : Option (List D × List O)) (P : List D → List O → Prop) : Prop := ∃ o ρ, x = some (o, ρ) ∧ P o ρ
def WO (x : Option (Option Int × List O)) (P : Option Int → List O → Prop) : Prop := ∃ o ρ, x = some (o, ρ) ∧ P o ρ
def WS (x : Option Out) (P : Out → Prop) : Prop := ∃ o, x = some o ∧ P o
def WR (x : Option Res) (P : O → Prop) : Prop := ∃ r, x = some r ∧ P r.o
def WV (x : Option D) (P : D → Prop) : Prop := ∃ d, x = some d ∧ P d
def WVs (x : Option (List D)) (P : List D → Prop) : Prop := ∃ d, x = some d ∧ P d
def WX (x : Option Nat) (P : Nat → Prop) : Prop := ∃ j, x = some j ∧ P j
theorem wx_i {x : Option Nat} {j : Nat} {P : Nat → Prop} (e : x = some j) (h : P j) : WX x P := ⟨j, e, h⟩
def WK (x : Option (List O × List O)) (P : List O → List O → Prop) : Prop := ∃ o ρ, x = some (o, ρ) ∧ P o ρ
section
variable {ρ : List O} {P : O → List O → Prop}
theorem WG.get {x : Option (O × List O)} (h : WG x P) : ∃ r outs, x = some (r, outs) ∧ P r outs := h
theorem we_c {d : D} (h : P (.v d) ρ) : WE (m_c d ρ) P := ⟨_, _, rfl, h⟩
theorem we_var {i : Nat} {d : D} (e : ρ[i]? = some (.v d)) (h : P (.v d) ρ) : WE (m_var i ρ) P := ⟨_, _, by unfold m_var; rw [e], h⟩
theorem we_varL {i : Nat} {ds : List D} (e : ρ[i]? = some (.l ds)) (h : P (.v (.lst ds)) (ρ.set i (.v (.lst ds)))) : WE (m_var i ρ) P := ⟨_, _, by unfold m_var; rw [e], h⟩
theorem we_mv {i : Nat} {d : D} (e : ρ[i]? = some (.v d)) (h : P (.v d) ρ) : WE (m_mv i ρ) P := ⟨_, _, by unfold m_mv; rw [e], h⟩
theorem we_mvL {i : Nat} {ds : List D} (e : ρ[i]? = some (.l ds)) (h : P (.l ds) (ρ.set i .n)) : WE (m_mv i ρ) P := ⟨_, _, by unfold m_mv; rw [e], h⟩
theorem we_op2 {f : D → D → Option Res} {ma mb : MP} (h : WP (ma ρ) fun p1 ρ1 => WP (mb ρ1) fun p2 ρ2 => WV (vw ρ2 p1) fun d1 => WV (vw ρ2 p2) fun d2 => WR (f d1 d2) fun o => P o ρ2) : WE (m_op2 f ma mb ρ) P := by
  obtain ⟨p1, ρ1, e1, p2, ρ2, e2, d1, e3, d2, e4, r, e5, q⟩ := h
  exact ⟨r.o, ρ2, by unfold m_op2; rw [e1]; simp only [Option.bind_some]; rw [e2]; simp only [Option.bind_some]; rw [e3, e4]; simp only [Option.bind_some]; rw [e5]; rfl, q⟩
theorem we_op1 {f : D → Option Res} {ma : MP} (h : WP (ma ρ) fun p1 ρ1 => WV (vw ρ1 p1) fun d1 => WR (f d1) fun o => P o ρ1) : WE (m_op1 f ma ρ) P := by
  obtain ⟨p1, ρ1, e1, d1, e3, r, e5, q⟩ := h
  exact ⟨r.o, ρ1, by unfold m_op1; rw [e1]; simp only [Option.bind_some]; rw [e3]; simp only [Option.bind_some]; rw [e5]; rfl, q⟩
theorem we_bi {f : List D → Option Res} {ma : MA} (h : WA (ma ρ) fun ps ρ1 => WVs (vws ρ1 ps) fun ds => WR (f ds) fun o => P o ρ1) : WE (m_bi f ma ρ) P := by
  obtain ⟨ps, ρ1, e1, ds, e3, r, e5, q⟩ := h
  exact ⟨r.o, ρ1, by unfold m_bi; rw [e1]; simp only [Option.bind_some]; rw [e3]; simp only [Option.bind_some]; rw [e5]; rfl, q⟩
theorem we_lst {ma : MA} (h : WA (ma ρ) fun ps ρ1 => WVs (plains ρ1 ps) fun ds => ds.length ≤ 100000 ∧ P (.l ds) ρ1) : WE (m_lst ma ρ) P := by
  obtain ⟨ps, ρ1, e1, ds, e3, hz, q⟩ := h
  exact ⟨_, ρ1, by unfold m_lst; rw [e1]; simp only [Option.bind_some]; rw [e3]; simp only [Option.bind_some]; rw [if_pos hz], q⟩
theorem we_tup {ma : MA} (h : WA (ma ρ) fun ps ρ1 => WVs (plains ρ1 ps) fun ds => ds.length ≤ 100000 ∧ P (.v (.tup ds)) ρ1) : WE (m_tup ma ρ) P := by
  obtain ⟨ps, ρ1, e1, ds, e3, hz, q⟩ := h
  exact ⟨_, ρ1, by unfold m_tup; rw [e1]; simp only [Option.bind_some]; rw [e3]; simp only [Option.bind_some]; rw [if_pos hz], q⟩
theorem we_call {g : List O → Option (O × List O)} {ma : MA} (h : WA (ma ρ) fun ps ρ1 => WK (tk ps ρ1) fun os ρ2 => WG (g os) fun r outs => P r (bk ps outs ρ2)) : WE (m_call g ma ρ) P := by
  obtain ⟨ps, ρ1, e1, os, ρ2, e3, r, outs, e5, q⟩ := h
  exact ⟨r, _, by unfold m_call; rw [e1]; simp only [Option.bind_some]; rw [e3]; simp only [Option.bind_some]; rw [e5]; rfl, q⟩
theorem we_if {t : MT} {a b : ME} (h : WT (t ρ) fun c ρ1 => if c = true then WE (a ρ1) P else WE (b ρ1) P) : WE (m_if t a b ρ) P := by
  obtain ⟨c, ρ1, e1, q⟩ := h
  cases c with
  | true => obtain ⟨o, ρ2, e2, q⟩ := q; exact ⟨o, ρ2, by unfold m_if; rw [e1]; simpa using e2, q⟩
  | false => obtain ⟨o, ρ2, e2, q⟩ := q; exact ⟨o, ρ2, by unfold m_if; rw [e1]; simpa using e2, q⟩
theorem we_andV {a b : ME} (h : WE (a ρ) fun o ρ1 => ∃ c, asB o = some c ∧ if c = true then WE (b ρ1) P else P (.v (.bl false)) ρ1) : WE (m_andV a b ρ) P := by
  obtain ⟨o, ρ1, e1, c, e2, q⟩ := h
  cases c with
  | true => obtain ⟨o, ρ2, e3, q⟩ := q; exact ⟨o, ρ2, by unfold m_andV; rw [e1]; simp only [Option.bind_some]; rw [e2]; simpa using e3, q⟩
  | false => exact ⟨_, ρ1, by unfold m_andV; rw [e1]; simp only [Option.bind_some]; rw [e2]; rfl, q⟩
theorem we_orV {a b : ME} (h : WE (a ρ) fun o ρ1 => ∃ c, asB o = some c ∧ if c = true then P (.v (.bl true)) ρ1 else WE (b ρ1) P) : WE (m_orV a b ρ) P := by
  obtain ⟨o, ρ1, e1, c, e2, q⟩ := h
  cases c with
  | false => obtain ⟨o, ρ2, e3, q⟩ := q; exact ⟨o, ρ2, by unfold m_orV; rw [e1]; simp only [Option.bind_some]; rw [e2]; simpa using e3, q⟩
  | true => exact ⟨_, ρ1, by unfold m_orV; rw [e1]; simp only [Option.bind_some]; rw [e2]; rfl, q⟩
theorem we_notV {a : ME} (h : WE (a ρ) fun o ρ1 => ∃ c, asB o = some c ∧ P (.v (.bl (!c))) ρ1) : WE (m_notV a ρ) P := by
  obtain ⟨o, ρ1, e1, c, e2, q⟩ := h
  exact ⟨_, ρ1, by unfold m_notV; rw [e1]; simp only [Option.bind_some]; rw [e2]; rfl, q⟩
theorem we_chain {f g : D → D → Option Res} {ma mb mc : MP} (h : WP (ma ρ) fun p1 ρ1 => WP (mb ρ1) fun p2 ρ2 => WV (vw ρ2 p1) fun d1 => WV (vw ρ2 p2) fun d2 => WR (f d1 d2) fun o => ∃ k, asB o = some k ∧ if k = true then (WP (mc ρ2) fun p3 ρ3 => WV (vw ρ3 p2) fun d2 => WV (vw ρ3 p3) fun d3 => WR (g d2 d3) fun o => P o ρ3) else P (.v (.bl false)) ρ2) : WE (m_chain f g ma mb mc ρ) P := by
  obtain ⟨p1, ρ1, e1, p2, ρ2, e2, d1, e3, d2, e4, r, e5, k, e6, q⟩ := h
  cases k with
  | true =>
    obtain ⟨p3, ρ3, e7, d2', e8, d3, e9, r', e10, q⟩ := q
    exact ⟨r'.o, ρ3, by unfold m_chain; rw [e1]; simp only [Option.bind_some]; rw [e2]; simp only [Option.bind_some]; rw [e3, e4]; simp only [Option.bind_some]; rw [e5]; simp only [Option.bind_some]; rw [e6]; simp only [Option.bind_some, if_true]; rw [e7]; simp only [Option.bind_some]; rw [e8, e9]; simp only [Option.bind_some]; rw [e10]; rfl, q⟩
  | false => exact ⟨_, ρ2, by unfold m_chain; rw [e1]; simp only [Option.bind_some]; rw [e2]; simp only [Option.bind_some]; rw [e3, e4]; simp only [Option.bind_some]; rw [e5]; simp only [Option.bind_some]; rw [e6]; rfl, q⟩
theorem we_sl {f : D → Option Int → Option Int → Option Res} {ma : MP} {ml mh : MO} (h : WP (ma ρ) fun p ρ1 => WO (ml ρ1) fun l ρ2 => WO (mh ρ2) fun u ρ3 => WV (vw ρ3 p) fun d => WR (f d l u) fun o => P o ρ3) : WE (m_sl f ma ml mh ρ) P := by
  obtain ⟨p1, ρ1, e1, l, ρ2, e2, u, ρ3, e3, d, e4, r, e5, q⟩ := h
  exact ⟨r.o, ρ3, by unfold m_sl; rw [e1]; simp only [Option.bind_some]; rw [e2]; simp only [Option.bind_some]; rw [e3]; simp only [Option.bind_some]; rw [e4]; simp only [Option.bind_some]; rw [e5]; rfl, q⟩
theorem we_m0 {f : Str → Option Res} {ma : MP} (h : WP (ma ρ) fun p ρ1 => ∃ s, vw ρ1 p = some (.str s) ∧ WR (f s) fun o => P o ρ1) : WE (m_m0 f ma ρ) P := by
  obtain ⟨p, ρ1, e1, s, e2, r, e5, q⟩ := h
  exact ⟨r.o, ρ1, by unfold m_m0; rw [e1]; simp only [Option.bind_some]; rw [e2]; simp only; rw [e5]; rfl, q⟩
theorem we_m1 {f : Str → D → Option Res} {ma mb : MP} (h : WP (ma ρ) fun p ρ1 => ∃ s, vw ρ1 p = some (.str s) ∧ WP (mb ρ1) fun p2 ρ2 => WV (vw ρ2 p2) fun d => WR (f s d) fun o => P o ρ2) : WE (m_m1 f ma mb ρ) P := by
  obtain ⟨p, ρ1, e1, s, e2, p2, ρ2, e3, d, e4, r, e5, q⟩ := h
  exact ⟨r.o, ρ2, by unfold m_m1; rw [e1]; simp only [Option.bind_some]; rw [e2]; simp only; rw [e3]; simp only [Option.bind_some]; rw [e4]; simp only [Option.bind_some]; rw [e5]; rfl, q⟩
theorem we_app {i : Nat} {m : ME} {ds0 : List D} (e0 : ρ[i]? = some (.l ds0)) (h : WE (m ρ) fun o ρ1 => ∃ d, toD o = some d ∧ ∃ ds, ρ1[i]? = some (.l ds) ∧ ds.length < 1000000 ∧ P (.v .non) (ρ1.set i (.l (ds ++ [d])))) : WE (m_app i m ρ) P := by
  obtain ⟨o, ρ1, e1, d, e2, ds, e3, hz, q⟩ := h
  exact ⟨_, _, by unfold m_app; rw [e0]; simp only; rw [e1]; simp only [Option.bind_some]; rw [e2]; simp only [Option.bind_some]; rw [e3]; simp only; rw [if_pos hz], q⟩
theorem we_pop {i : Nat} {ds : List D} {d : D} (e0 : ρ[i]? = some (.l ds)) (e1 : ds[ds.length - 1]? = some d) (h : P (.v d) (ρ.set i (.l ds.dropLast))) : WE (m_pop i ρ) P := ⟨_, _, by unfold m_pop; rw [e0]; simp only; rw [e1]; rfl, h⟩
theorem we_popAt {i : Nat} {m : ME} {ds0 : List D} (e0 : ρ[i]? = some (.l ds0)) (h : WE (m ρ) fun o ρ1 => ∃ j, o = .v (.int j) ∧ ∃ ds, ρ1[i]? = some (.l ds) ∧ big j = true ∧ WX (seqIndex? j ds.length) fun k => ∃ d, ds[k]? = some d ∧ P (.v d) (ρ1.set i (.l (ds.eraseIdx k)))) : WE (m_popAt i m ρ) P := by
  obtain ⟨o, ρ1, e1, j, rfl, ds, e2, e3, k, e4, d, e5, q⟩ := h
  exact ⟨_, _, by unfold m_popAt; rw [e0]; simp only; rw [e1]; simp only [Option.bind_some]; rw [e2]; simp only; rw [if_pos e3, e4]; simp only [Option.bind_some]; rw [e5]; rfl, q⟩
end
section
variable {ρ : List O} {P : Pr → List O → Prop}
theorem wp_nm {i : Nat} {d : D} (e : ρ[i]? = some (.v d)) (h : P (.nm i) ρ) : WP (p_nm i ρ) P := ⟨_, _, by unfold p_nm; rw [e], h⟩
theorem wp_nmL {i : Nat} {d : List D} (e : ρ[i]? = some (.l d)) (h : P (.nm i) ρ) : WP (p_nm i ρ) P := ⟨_, _, by unfold p_nm; rw [e], h⟩
theorem wp_ex {m : ME} (h : WE (m ρ) fun o ρ1 => P (.ex o) ρ1) : WP (p_ex m ρ) P := by
  obtain ⟨o, ρ1, e, q⟩ := h
  exact ⟨_, _, by unfold p_ex; rw [e]; rfl, q⟩
theorem wp_it {m : ME} (h : WE (m ρ) fun o ρ1 => ∃ d, toD o = some d ∧ P (.ex (.v d)) ρ1) : WP (m_it m ρ) P := by
  obtain ⟨o, ρ1, e, d, e2, q⟩ := h
  refine ⟨.ex (.v d), ρ1, ?_, q⟩
  unfold m_it
  rw [e]
  cases o with
  | n => cases e2
  | v d' => cases e2; rfl
  | l ds => cases e2; rfl
end
theorem wa_nil {ρ : List O} {P : List Pr → List O → Prop} (h : P [] ρ) : WA (a_nil ρ) P := ⟨_, _, rfl, h⟩
theorem wa_cons {ρ : List O} {P : List Pr → List O → Prop} {m : MP} {ms : MA} (h : WP (m ρ) fun p ρ1 => WA (ms ρ1) fun ps ρ2 => P (p :: ps) ρ2) : WA (a_cons m ms ρ) P := by
  obtain ⟨p, ρ1, e1, ps, ρ2, e2, q⟩ := h
  exact ⟨_, _, by unfold a_cons; rw [e1]; simp only [Option.bind_some]; rw [e2]; rfl, q⟩
section
variable {ρ : List O} {P : Bool → List O → Prop}
theorem wt_tst {m : ME} (h : WE (m ρ) fun o ρ1 => ∃ b, asB o = some b ∧ P b ρ1) : WT (m_tst m ρ) P := by
  obtain ⟨o, ρ1, e1, b, e2, q⟩ := h
  exact ⟨b, ρ1, by unfold m_tst; rw [e1]; simp only [Option.bind_some]; rw [e2]; rfl, q⟩
theorem wt_tru {m : MP} (h : WP (m ρ) fun p ρ1 => WV (vw ρ1 p) fun d => ∃ b, truD d = some b ∧ P b ρ1) : WT (m_tru m ρ) P := by
  obtain ⟨p, ρ1, e1, d, e2, b, e3, q⟩ := h
  exact ⟨b, ρ1, by unfold m_tru; rw [e1]; simp only [Option.bind_some]; rw [e2]; simp only [Option.bind_some]; rw [e3]; rfl, q⟩
theorem wt_and {a b : MT} (h : WT (a ρ) fun c ρ1 => if c = true then WT (b ρ1) P else P false ρ1) : WT (m_and a b ρ) P := by
  obtain ⟨c, ρ1, e1, q⟩ := h
  cases c with
  | true => obtain ⟨o, ρ2, e2, q⟩ := q; exact ⟨o, ρ2, by unfold m_and; rw [e1]; simpa using e2, q⟩
  | false => exact ⟨_, ρ1, by unfold m_and; rw [e1]; rfl, q⟩
theorem wt_or {a b : MT} (h : WT (a ρ) fun c ρ1 => if c = true then P true ρ1 else WT (b ρ1) P) : WT (m_or a b ρ) P := by
  obtain ⟨c, ρ1, e1, q⟩ := h
  cases c with
  | false => obtain ⟨o, ρ2, e2, q⟩ := q; exact ⟨o, ρ2, by unfold m_or; rw [e1]; simpa using e2, q⟩
  | true => exact ⟨_, ρ1, by unfold m_or; rw [e1]; rfl, q⟩
theorem wt_not {a : MT} (h : WT (a ρ) fun c ρ1 => P (!c) ρ1) : WT (m_not a ρ) P := by
  obtain ⟨c, ρ1, e1, q⟩ := h
  exact ⟨_, _, by unfold m_not; rw [e1]; rfl, q⟩
theorem wt_yes (h : P true ρ) : WT (m_yes ρ) P := ⟨_, _, rfl, h⟩
end
theorem wo_none {ρ : List O} {P : Option Int → List O → Prop} (h : P none ρ) : WO (o_none ρ) P := ⟨_, _, rfl, h⟩
theorem wo_some {ρ : List O} {P : Option Int → List O → Prop} {m : MP} (h : WP (m ρ) fun p ρ1 => ∃ i, vw ρ1 p = some (.int i) ∧ P (some i) ρ1) : WO (o_some m ρ) P := by
  obtain ⟨p, ρ1, e1, i, e2, q⟩ := h
  exact ⟨_, _, by unfold o_some; rw [e1]; simp only [Option.bind_some]; rw [e2], q⟩
theorem wv_i {x : Option D} {d : D} {P : D → Prop} (e : x = some d) (h : P d) : WV x P := ⟨d, e, h⟩
theorem wvs_i {x : Option (List D)} {d : List D} {P : List D → Prop} (e : x = some d) (h : P d) : WVs x P := ⟨d, e, h⟩
theorem wk_i {x : Option (List O × List O)} {a b : List O} {P : List O → List O → Prop} (e : x = some (a, b)) (h : P a b) : WK x P := ⟨a, b, e, h⟩
theorem wr_i {x : Option Res} {r : Res} {P : O → Prop} (e : x = some r) (h : P r.o) : WR x P := ⟨r, e, h⟩
theorem wr_s {x : Option Res} {d : D} {P : O → Prop} (e : x = some (.s d)) (h : P (.v d)) : WR x P := ⟨_, e, h⟩
theorem wr_nl {x : Option Res} {d : List D} {P : O → Prop} (e : x = some (.nl d)) (h : P (.l d)) : WR x P := ⟨_, e, h⟩
theorem wr_nt {x : Option Res} {d : List D} {P : O → Prop} (e : x = some (.nt d)) (h : P (.v (.tup d))) : WR x P := ⟨_, e, h⟩
section
variable {P : O → Prop}
theorem wr_add {i j : Int} (h : P (.v (.int (i + j)))) : WR (addD (.int i) (.int j)) P := ⟨_, rfl, h⟩
theorem wr_sub {i j : Int} (h : P (.v (.int (i - j)))) : WR (subD (.int i) (.int j)) P := ⟨_, rfl, h⟩
theorem wr_mul {i j : Int} (c : i.natAbs < 2 ^ 64 ∨ j.natAbs < 2 ^ 64) (h : P (.v (.int (i * j)))) : WR (mulD (.int i) (.int j)) P := ⟨_, if_pos c, h⟩
theorem wr_mod {i j : Int} (c : 0 < j) (h : P (.v (.int (i % j)))) : WR (modD (.int i) (.int j)) P := ⟨_, if_pos c, h⟩
theorem wr_fdiv {i j : Int} (c : 0 < j ∧ j < 1000000000000000000000000000000) (h : P (.v (.int (i / j)))) : WR (fdivD (.int i) (.int j)) P := ⟨_, if_pos c, h⟩
theorem wr_neg {i : Int} (h : P (.v (.int (-i)))) : WR (negD (.int i)) P := ⟨_, rfl, h⟩
theorem wr_lt {i j : Int} (h : P (.v (.bl (decide (i < j))))) : WR (ltD (.int i) (.int j)) P := ⟨_, rfl, h⟩
theorem wr_le {i j : Int} (h : P (.v (.bl (decide (i ≤ j))))) : WR (leD (.int i) (.int j)) P := ⟨_, rfl, h⟩
theorem wr_gt {i j : Int} (h : P (.v (.bl (decide (j < i))))) : WR (gtD (.int i) (.int j)) P := ⟨_, rfl, h⟩
theorem wr_ge {i j : Int} (h : P (.v (.bl (decide (j ≤ i))))) : WR (geD (.int i) (.int j)) P := ⟨_, rfl, h⟩
theorem wr_eq {i j : Int} (h : P (.v (.bl (decide (i = j))))) : WR (eqD (.int i) (.int j)) P := ⟨_, rfl, h⟩
theorem wr_ne {i j : Int} (h : P (.v (.bl (!decide (i = j))))) : WR (neD (.int i) (.int j)) P := ⟨_, rfl, h⟩
theorem wr_int {i : Int} (h : P (.v (.int i))) : WR (intD [.int i]) P := ⟨_, rfl, h⟩
theorem wr_ixL {ds : List D} {i : Int} {d : D} (e : L2.atI ds i = some d) (h : P (.v d)) : WR (ixD (.lst ds) (.int i)) P := ⟨.s d, by show (L2.atI ds i).map Res.s = _; rw [e]; rfl, h⟩
theorem wr_ixT {ds : List D} {i : Int} {d : D} (e : L2.atI ds i = some d) (h : P (.v d)) : WR (ixD (.tup ds) (.int i)) P := ⟨.s d, by show (L2.atI ds i).map Res.s = _; rw [e]; rfl, h⟩
end
theorem wif {c : Prop} [Decidable c] {A B : Prop} (h1 : c → A) (h2 : ¬ c → B) : if decide c = true then A else B := by
  by_cases h : c
  · rw [if_pos (decide_eq_true h)]; exact h1 h
  · rw [if_neg (fun z => h (of_decide_eq_true z))]; exact h2 h
theorem wifT {A B : Prop} (h : A) : if true = true then A else B := by rw [if_pos rfl]; exact h
theorem wifF {A B : Prop} (h : B) : if false = true then A else B := by rw [if_neg Bool.false_ne_true]; exact h
theorem wifB {b : Bool} {A B : Prop} (h1 : b = true → A) (h2 : b = false → B) : if b = true then A else B := by
  cases b with
  | true => exact wifT (h1 rfl)
  | false => exact wifF (h2 rfl)

/-! ### statements -/
/-- what follows a statement in a block -/
def Sq (b : MS) (P : Out → Prop) : Out → Prop
  | .nx ρ => WS (b ρ) P
  | o => P o
section
variable {ρ : List O} {P : Out → Prop}
theorem ws_seq {a b : MS} (h : WS (a ρ) (Sq b P)) : WS (s_seq a b ρ) P := by
  obtain ⟨o, e, q⟩ := h
  cases o with
  | nx ρ1 => obtain ⟨o2, e2, q⟩ := q; exact ⟨o2, by unfold s_seq; rw [e]; exact e2, q⟩
  | rt o ρ1 => exact ⟨_, by unfold s_seq; rw [e]; rfl, q⟩
  | bk ρ1 => exact ⟨_, by unfold s_seq; rw [e]; rfl, q⟩
  | ct ρ1 => exact ⟨_, by unfold s_seq; rw [e]; rfl, q⟩
theorem sq_nx {b : MS} (h : WS (b ρ) P) : Sq b P (.nx ρ) := h
theorem sq_rt {b : MS} {o : O} (h : P (.rt o ρ)) : Sq b P (.rt o ρ) := h
theorem sq_bk {b : MS} (h : P (.bk ρ)) : Sq b P (.bk ρ) := h
theorem sq_ct {b : MS} (h : P (.ct ρ)) : Sq b P (.ct ρ) := h
theorem ws_nop (h : P (.nx ρ)) : WS (s_nop ρ) P := ⟨_, rfl, h⟩
theorem ws_if {t : MT} {a b : MS} (h : WT (t ρ) fun c ρ1 => if c = true then WS (a ρ1) P else WS (b ρ1) P) : WS (s_if t a b ρ) P := by
  obtain ⟨c, ρ1, e1, q⟩ := h
  cases c with
  | true => obtain ⟨o, e2, q⟩ := q; exact ⟨o, by unfold s_if; rw [e1]; simpa using e2, q⟩
  | false => obtain ⟨o, e2, q⟩ := q; exact ⟨o, by unfold s_if; rw [e1]; simpa using e2, q⟩
theorem ws_drop {m : ME} (h : WE (m ρ) fun _ ρ1 => P (.nx ρ1)) : WS (s_drop m ρ) P := by
  obtain ⟨o, ρ1, e, q⟩ := h
  exact ⟨_, by unfold s_drop; rw [e]; rfl, q⟩
theorem ws_ret {m : ME} (h : WE (m ρ) fun o ρ1 => P (.rt o ρ1)) : WS (s_ret m ρ) P := by
  obtain ⟨o, ρ1, e, q⟩ := h
  exact ⟨_, by unfold s_ret; rw [e]; rfl, q⟩
theorem ws_retN (h : P (.rt (.v .non) ρ)) : WS (s_retN ρ) P := ⟨_, rfl, h⟩
theorem ws_bk (h : P (.bk ρ)) : WS (s_bk ρ) P := ⟨_, rfl, h⟩
theorem ws_ct (h : P (.ct ρ)) : WS (s_ct ρ) P := ⟨_, rfl, h⟩
theorem ws_set {i : Nat} {m : ME} (h : WE (m ρ) fun o ρ1 => P (.nx (ρ1.set i o))) : WS (s_set i m ρ) P := by
  obtain ⟨o, ρ1, e, q⟩ := h
  exact ⟨_, by unfold s_set; rw [e]; rfl, q⟩
theorem ws_asg {g : MG} {m : ME} (h : WE (m ρ) fun o ρ1 => ∃ d, toD o = some d ∧ ∃ ρ2, g d ρ1 = some ρ2 ∧ P (.nx ρ2)) : WS (s_asg g m ρ) P := by
  obtain ⟨o, ρ1, e, d, e2, ρ2, e3, q⟩ := h
  exact ⟨_, by unfold s_asg; rw [e]; simp only [Option.bind_some]; rw [e2]; simp only [Option.bind_some]; rw [e3]; rfl, q⟩
theorem ws_sti {i : Nat} {me : ME} {mi : MP} (h : WE (me ρ) fun o ρ1 => ∃ d, toD o = some d ∧ ∃ ds0, ρ1[i]? = some (.l ds0) ∧ WP (mi ρ1) fun p ρ2 => ∃ k, vw ρ2 p = some (.int k) ∧ ∃ ds, ρ2[i]? = some (.l ds) ∧ WX (ixN ds.length k) fun j => P (.nx (ρ2.set i (.l (ds.set j d))))) : WS (s_sti i me mi ρ) P := by
  obtain ⟨o, ρ1, e, d, e2, ds0, e3, p, ρ2, e4, k, e5, ds, e6, j, e7, q⟩ := h
  exact ⟨_, by unfold s_sti; rw [e]; simp only [Option.bind_some]; rw [e2]; simp only [Option.bind_some]; rw [e3]; simp only; rw [e4]; simp only [Option.bind_some]; rw [e5, e6]; simp only; rw [e7]; rfl, q⟩
theorem ws_aug {i : Nat} {f : Int → Int → Int} {m : MP} {a : Int} (e0 : ρ[i]? = some (.v (.int a))) (h : WP (m ρ) fun p ρ1 => ∃ k, vw ρ1 p = some (.int k) ∧ P (.nx (ρ1.set i (.v (.int (f a k)))))) : WS (s_aug i f m ρ) P := by
  obtain ⟨p, ρ1, e1, k, e2, q⟩ := h
  exact ⟨_, by unfold s_aug; rw [e0]; simp only; rw [e1]; simp only [Option.bind_some]; rw [e2], q⟩
/-- a block cut at what holds between its parts -/
theorem ws_cut {a b : MS} (M : List O → Prop) (h1 : WS (a ρ) (Sq (fun ρ1 => some (.nx ρ1)) fun o => match o with
  | .nx ρ1 => M ρ1
  | o => P o)) (h2 : ∀ ρ1, M ρ1 → WS (b ρ1) P) : WS (s_seq a b ρ) P := by
  refine ws_seq ?_
  obtain ⟨o, e, q⟩ := h1
  refine ⟨o, e, ?_⟩
  cases o with
  | nx ρ1 => obtain ⟨o2, e2, q⟩ := q; cases e2; exact h2 _ q
  | rt o ρ1 => exact q
  | bk ρ1 => exact q
  | ct ρ1 => exact q
/-- a def's end -/
def Fin (lk : List Nat) (k : Nat) (P : O → List O → Prop) : Out → Prop
  | .rt r ρ => P r (keep lk k ρ)
  | .nx ρ => P (.v .non) (keep lk k ρ)
  | _ => False
end
theorem wg_fn {n k : Nat} {lk : List Nat} {m : MS} {os : List O} {P : O → List O → Prop} (h : WS (m (os ++ List.replicate (n - os.length) .n)) (Fin lk k P)) : WG (fnM n k lk m os) P := by
  obtain ⟨o, e, q⟩ := h
  cases o with
  | nx ρ1 => exact ⟨_, _, by unfold fnM; rw [e]; rfl, q⟩
  | rt o ρ1 => exact ⟨_, _, by unfold fnM; rw [e]; rfl, q⟩
  | bk ρ1 => exact q.elim
  | ct ρ1 => exact q.elim
theorem fin_rt {lk : List Nat} {k : Nat} {P : O → List O → Prop} {r : O} {ρ : List O} (h : P r (keep lk k ρ)) : Fin lk k P (.rt r ρ) := h
theorem fin_nx {lk : List Nat} {k : Nat} {P : O → List O → Prop} {ρ : List O} (h : P (.v .non) (keep lk k ρ)) : Fin lk k P (.nx ρ) := h

/-! ### loops -/
/-- a turn's end -/
def Tn (Inv : List O → Prop) (P : Out → Prop) : Out → Prop
  | .nx ρ => Inv ρ
  | .ct ρ => Inv ρ
  | .bk ρ => P (.nx ρ)
  | .rt r ρ => P (.rt r ρ)
theorem ws_for {mi : MI} {g : MG} {mb : MS} {ρ : List O} {P : Out → Prop} (h : WI (mi ρ) fun ds ρ1 => WS (floop g mb ds ρ1) P) : WS (s_for mi g mb ρ) P := by
  obtain ⟨ds, ρ1, e, o, e2, q⟩ := h
  exact ⟨o, by unfold s_for; rw [e]; exact e2, q⟩
theorem wf_inv {g : MG} {mb : MS} {ds : List D} {ρ : List O} {P : Out → Prop} (Inv : Nat → List O → Prop) (h0 : Inv 0 ρ)
    (hs : ∀ i d ρ, ds[i]? = some d → Inv i ρ → ∃ ρ1, g d ρ = some ρ1 ∧ WS (mb ρ1) (Tn (Inv (i + 1)) P)) (hd : ∀ ρ, Inv ds.length ρ → P (.nx ρ)) : WS (floop g mb ds ρ) P := by
  have gen : ∀ (k i : Nat) (ρ : List O), i + k = ds.length → Inv i ρ → WS (floop g mb (ds.drop i) ρ) P := by
    intro k
    induction k with
    | zero =>
      intro i ρ e q
      have ei : i = ds.length := by omega
      subst ei
      rw [List.drop_length]
      exact ⟨_, rfl, hd ρ q⟩
    | succ k ih =>
      intro i ρ e q
      have hlt : i < ds.length := by omega
      rw [List.drop_eq_getElem_cons hlt]
      obtain ⟨ρ1, e1, o, e2, q2⟩ := hs i ds[i] ρ (List.getElem?_eq_getElem hlt) q
      unfold floop
      rw [e1]
      simp only [Option.bind_some]
      rw [e2]
      simp only [Option.bind_some]
      cases o with
      | nx ρ2 => exact ih (i + 1) ρ2 (by omega) q2
      | ct ρ2 => exact ih (i + 1) ρ2 (by omega) q2
      | bk ρ2 => exact ⟨_, rfl, q2⟩
      | rt r ρ2 => exact ⟨_, rfl, q2⟩
  have := gen ds.length 0 ρ (by omega) h0
  simpa using this
theorem wi_seq {m : ME} {ρ : List O} {P : List D → List O → Prop} (h : WE (m ρ) fun o ρ1 => ∃ d, toD o = some d ∧ ∃ ds, items d = some ds ∧ P ds ρ1) : WI (i_seq m ρ) P := by
  obtain ⟨o, ρ1, e, d, e2, ds, e3, q⟩ := h
  exact ⟨_, _, by unfold i_seq; rw [e]; simp only [Option.bind_some]; rw [e2]; simp only [Option.bind_some]; rw [e3]; rfl, q⟩
theorem wi_rng1 {m : MP} {ρ : List O} {P : List D → List O → Prop} (h : WP (m ρ) fun p ρ1 => ∃ j, vw ρ1 p = some (.int j) ∧ big j = true ∧ P (rngD 0 j.toNat) ρ1) : WI (i_rng1 m ρ) P := by
  obtain ⟨p, ρ1, e, j, e2, e3, q⟩ := h
  exact ⟨_, _, by unfold i_rng1; rw [e]; simp only [Option.bind_some]; rw [e2]; simp only [Option.bind_some]; rw [if_pos e3], q⟩
theorem wi_rng2 {ma mb : MP} {ρ : List O} {P : List D → List O → Prop} (h : WP (ma ρ) fun p1 ρ1 => WP (mb ρ1) fun p2 ρ2 => ∃ i, vw ρ2 p1 = some (.int i) ∧ ∃ j, vw ρ2 p2 = some (.int j) ∧ (big i && big j) = true ∧ P (rngD i (j - i).toNat) ρ2) : WI (i_rng2 ma mb ρ) P := by
  obtain ⟨p1, ρ1, e, p2, ρ2, e2, i, e3, j, e4, e5, q⟩ := h
  exact ⟨_, _, by unfold i_rng2; rw [e]; simp only [Option.bind_some]; rw [e2]; simp only [Option.bind_some]; rw [e3, e4]; simp only [Option.bind_some]; rw [if_pos e5], q⟩
theorem wi_rev1 {m : ME} {ρ : List O} {P : List D → List O → Prop} (h : WE (m ρ) fun o ρ1 => ∃ j, o = .v (.int j) ∧ big j = true ∧ P (revD 0 j.toNat) ρ1) : WI (i_rev1 m ρ) P := by
  obtain ⟨p, ρ1, e, j, rfl, e3, q⟩ := h
  exact ⟨_, _, by unfold i_rev1; rw [e]; simp only [Option.bind_some]; rw [if_pos e3], q⟩
/-- a comprehension, by what holds of the list so far and the slots -/
theorem we_lc {vs : List Nat} {mi : MI} {g : MG} {mt : MT} {me : ME} {ρ : List O} {P : O → List O → Prop}
    (h : WI (mi ρ) fun ds ρ1 => ds.length ≤ 1000000 ∧ ∃ Inv : Nat → List D → List O → Prop, Inv 0 [] (wipeO vs ρ1) ∧
      (∀ i d acc ρ, ds[i]? = some d → Inv i acc ρ → ∃ ρ1, g d ρ = some ρ1 ∧ WT (mt ρ1) fun b ρ2 => if b = true then (WE (me ρ2) fun o ρ3 => ∃ y, toD o = some y ∧ Inv (i + 1) (acc ++ [y]) (wipeO vs ρ3)) else Inv (i + 1) acc (wipeO vs ρ2)) ∧
      ∀ acc ρ, Inv ds.length acc ρ → P (.l acc) ρ) : WE (m_lc vs mi g mt me ρ) P := by
  obtain ⟨ds, ρ1, e, hz, Inv, h0, hs, hd⟩ := h
  have gen : ∀ (k i : Nat) (acc : List D) (ρ : List O), i + k = ds.length → Inv i acc (wipeO vs ρ) → ∃ acc' ρ', lcl vs g mt me (ds.drop i) acc ρ = some (acc', ρ') ∧ P (.l acc') ρ' := by
    intro k
    induction k with
    | zero =>
      intro i acc ρ e q
      have ei : i = ds.length := by omega
      subst ei
      rw [List.drop_length]
      exact ⟨_, _, rfl, hd _ _ q⟩
    | succ k ih =>
      intro i acc ρ e q
      have hlt : i < ds.length := by omega
      rw [List.drop_eq_getElem_cons hlt]
      obtain ⟨ρ2, e1, b, ρ3, e2, q2⟩ := hs i ds[i] acc _ (List.getElem?_eq_getElem hlt) q
      unfold lcl
      rw [e1]
      simp only [Option.bind_some]
      rw [e2]
      simp only [Option.bind_some]
      cases b with
      | true =>
        obtain ⟨o, ρ4, e3, y, e4, q2⟩ := q2
        rw [if_pos rfl, e3]
        simp only [Option.bind_some]
        rw [e4]
        simp only [Option.bind_some]
        exact ih (i + 1) _ ρ4 (by omega) q2
      | false =>
        rw [if_neg Bool.false_ne_true]
        exact ih (i + 1) acc ρ3 (by omega) q2
  obtain ⟨acc', ρ', e3, q⟩ := gen ds.length 0 [] ρ1 (by omega) h0
  rw [List.drop_zero] at e3
  exact ⟨_, _, by unfold m_lc; rw [e]; simp only [Option.bind_some]; rw [if_pos hz, e3]; rfl, q⟩
end Mr

set_option Elab.async false
set_option linter.all false
set_option maxRecDepth 100000
set_option maxHeartbeats 4000000
/-! MrX: facts for stepping: places, loops over lists, the store of draws. -/
namespace Mr
open PySem PySem.Spec PyProof.Rows L2
theorem sq_nxE {b : MS} {ρ ρ' : List O} {P : Out → Prop} (e : ρ = ρ') (h : WS (b ρ') P) : Sq b P (.nx ρ) := by rw [e]; exact h
theorem wg_fnE {n k : Nat} {lk : List Nat} {m : MS} {os ρ : List O} {P : O → List O → Prop} (e : os ++ List.replicate (n - os.length) .n = ρ) (h : WS (m ρ) (Fin lk k P)) : WG (fnM n k lk m os) P := wg_fn (by rw [e]; exact h)
theorem ixN_nat {n j : Nat} (h : j < n) : ixN n (j : Int) = some j := by
  unfold ixN
  rw [if_pos (by omega), if_pos (by omega)]
  simp
theorem ixN_of {n : Nat} {i : Int} (h0 : 0 ≤ i) (h : i < n) : ixN n i = some i.toNat := by
  unfold ixN
  rw [if_pos h0, if_pos h]
theorem ixN_neg {n : Nat} {i : Int} (h0 : i < 0) (h : -(n : Int) ≤ i) : ixN n i = some (i + n).toNat := by
  unfold ixN
  rw [if_neg (by omega), if_pos h]
theorem atI_of {α : Type} {xs : List α} {i : Int} {d : α} (h0 : 0 ≤ i) (e : xs[i.toNat]? = some d) : atI xs i = some d := by
  have h1 : i.toNat < xs.length := (List.getElem?_eq_some_iff.mp e).1
  unfold atI
  rw [ixN_of h0 (by omega)]
  exact e
theorem atI_m1 {α : Type} {xs : List α} {d : α} (e : xs[xs.length - 1]? = some d) : atI xs (-1) = some d := by
  have h1 : xs.length - 1 < xs.length := (List.getElem?_eq_some_iff.mp e).1
  unfold atI
  rw [ixN_neg (by omega) (by omega)]
  show xs[(-1 + (xs.length : Int)).toNat]? = _
  rw [show (-1 + (xs.length : Int)).toNat = xs.length - 1 by omega]
  exact e
/-- an index in bounds -/
theorem atI_some {α : Type} {xs : List α} {i : Int} (h0 : 0 ≤ i) (h : i < xs.length) : ∃ d, atI xs i = some d ∧ d ∈ xs := by
  have h1 : i.toNat < xs.length := by omega
  exact ⟨xs[i.toNat], atI_of h0 (List.getElem?_eq_getElem h1), List.getElem_mem h1⟩
theorem big_of {i : Int} (h1 : -(2 ^ 62) ≤ i) (h2 : i < 2 ^ 62) : big i = true := by
  unfold big
  rw [decide_eq_true h1, decide_eq_true h2]
  rfl
end Mr
namespace Mr
open PySem PySem.Spec PyProof.Rows L2
section
variable {ρ : List O} {P : Out → Prop} {b : MS}
theorem wq_set {i : Nat} {m : ME} (h : WE (m ρ) fun o ρ1 => Sq b P (.nx (ρ1.set i o))) : WS (s_seq (s_set i m) b ρ) P := ws_seq (ws_set h)
theorem wq_asg {g : MG} {m : ME} (h : WS (s_asg g m ρ) (Sq b P)) : WS (s_seq (s_asg g m) b ρ) P := ws_seq h
theorem wq_sti {i : Nat} {m : ME} {mi : MP} (h : WS (s_sti i m mi ρ) (Sq b P)) : WS (s_seq (s_sti i m mi) b ρ) P := ws_seq h
theorem wq_drop {m : ME} (h : WE (m ρ) fun _ ρ1 => Sq b P (.nx ρ1)) : WS (s_seq (s_drop m) b ρ) P := ws_seq (ws_drop h)
theorem wq_aug {i : Nat} {f : Int → Int → Int} {m : MP} (h : WS (s_aug i f m ρ) (Sq b P)) : WS (s_seq (s_aug i f m) b ρ) P := ws_seq h
theorem wq_nop (h : Sq b P (.nx ρ)) : WS (s_seq s_nop b ρ) P := ws_seq (ws_nop h)
theorem cut_nx {M : List O → Prop} (h : M ρ) : Sq (fun ρ1 => some (.nx ρ1)) (fun o => match o with
  | .nx ρ1 => M ρ1
  | o => P o) (.nx ρ) := ⟨_, rfl, h⟩
end
/-- a cut's end -/
def Ct (M : List O → Prop) (P : Out → Prop) : Out → Prop
  | .nx ρ => M ρ
  | o => P o
theorem ws_cutC {ρ : List O} {P : Out → Prop} {a b : MS} (M : List O → Prop) (h1 : WS (a ρ) (Ct M P)) (h2 : ∀ ρ1, M ρ1 → WS (b ρ1) P) : WS (s_seq a b ρ) P := by
  refine ws_seq ?_
  obtain ⟨o, e, q⟩ := h1
  refine ⟨o, e, ?_⟩
  cases o with
  | nx ρ1 => exact h2 _ q
  | rt o ρ1 => exact q
  | bk ρ1 => exact q
  | ct ρ1 => exact q
section
variable {ρ : List O} {P : Out → Prop} {M : List O → Prop}
theorem ct_nx (h : M ρ) : Ct M P (.nx ρ) := h
theorem ct_rt {o : O} (h : P (.rt o ρ)) : Ct M P (.rt o ρ) := h
theorem ct_bk (h : P (.bk ρ)) : Ct M P (.bk ρ) := h
theorem ct_ct (h : P (.ct ρ)) : Ct M P (.ct ρ) := h
theorem tn_nx {Inv : List O → Prop} (h : Inv ρ) : Tn Inv P (.nx ρ) := h
theorem tn_ct {Inv : List O → Prop} (h : Inv ρ) : Tn Inv P (.ct ρ) := h
theorem tn_bk {Inv : List O → Prop} (h : P (.nx ρ)) : Tn Inv P (.bk ρ) := h
theorem tn_rt {Inv : List O → Prop} {o : O} (h : P (.rt o ρ)) : Tn Inv P (.rt o ρ) := h
end
/-! ### the store of draws -/
abbrev Sr (s : List Int) : O := .l (s.map D.int)
def WF (s : List Int) : Prop := ∃ a b c d e r, s = a :: b :: c :: d :: e :: r ∧ 0 ≤ b
theorem map_set (s : List Int) (j : Nat) (v : Int) : (s.map D.int).set j (.int v) = (s.set j v).map D.int := by rw [List.map_set]
theorem atI_map {s : List Int} {i : Int} (h0 : 0 ≤ i) (h : i < s.length) : ∃ v, L2.atI (s.map D.int) i = some (.int v) := by
  have h1 : i.toNat < s.length := by omega
  refine ⟨s[i.toNat], atI_of h0 ?_⟩
  rw [List.getElem?_map, List.getElem?_eq_getElem h1]
  rfl
end Mr
namespace Mr
open PySem PySem.Spec PyProof.Rows L2
theorem wr_pow {i j : Int} {P : O → Prop} (c : 0 ≤ j ∧ j ≤ 100 ∧ i.natAbs < 2 ^ 1000) (h : P (.v (.int (i ^ j.toNat)))) : WR (powD (.int i) (.int j)) P := ⟨_, if_pos c, h⟩
theorem wr_max2 {i j : Int} {P : O → Prop} (h : P (.v (.int (if j > i then j else i)))) : WR (max2D [.int i, .int j]) P := ⟨_, rfl, h⟩
theorem wr_min2 {i j : Int} {P : O → Prop} (h : P (.v (.int (if j < i then j else i)))) : WR (min2D [.int i, .int j]) P := ⟨_, rfl, h⟩
theorem wr_lenL {ds : List D} {P : O → Prop} (h : P (.v (.int ds.length))) : WR (lenD [.lst ds]) P := ⟨_, rfl, h⟩
theorem wr_lenT {ds : List D} {P : O → Prop} (h : P (.v (.int ds.length))) : WR (lenD [.tup ds]) P := ⟨_, rfl, h⟩
theorem wr_lenR {ds : List D} {P : O → Prop} (h : P (.v (.int ds.length))) : WR (lenD [.rl ds]) P := ⟨_, rfl, h⟩
theorem wr_lenS {z : Str} {P : O → Prop} (c : z.length ≤ 1000000) (h : P (.v (.int z.length))) : WR (lenD [.str z]) P := ⟨_, if_pos c, h⟩
end Mr

set_option Elab.async false
set_option linter.all false
set_option maxRecDepth 100000
set_option maxHeartbeats 4000000
/-! MrY: more facts for stepping: texts. -/
namespace Mr
open PySem PySem.Spec PyProof.Rows L2
section
variable {P : O → Prop}
theorem wr_addS {a b : Str} (c : a.length + b.length ≤ 1000000) (h : P (.v (.str (a ++ b)))) : WR (addD (.str a) (.str b)) P := ⟨_, if_pos c, h⟩
theorem wr_addL {a b : List D} (c : a.length + b.length ≤ 1000000) (h : P (.l (a ++ b))) : WR (addD (.lst a) (.lst b)) P := ⟨_, if_pos c, h⟩
theorem wr_ixS {z : Str} {i : Int} {k : Nat} (c : z.length ≤ 1000000) (e : L2.atI z.cps.toList i = some k) (h : P (.v (.str ⟨#[k]⟩))) : WR (ixD (.str z) (.int i)) P := by
  refine ⟨.s (.str ⟨#[k]⟩), ?_, h⟩
  show (if z.length ≤ 1000000 then (L2.atI z.cps.toList i).map fun c => Res.s (.str ⟨#[c]⟩) else none) = _
  rw [if_pos c, e]
  rfl
/-- a place in a text -/
theorem wr_ixS' {z : Str} {i : Int} (c : z.length ≤ 1000000) (h0 : 0 ≤ i) (h1 : i < z.length) (h : ∀ k, k ∈ z.cps.toList → P (.v (.str ⟨#[k]⟩))) : WR (ixD (.str z) (.int i)) P := by
  obtain ⟨k, e, m⟩ := atI_some (xs := z.cps.toList) h0 (by simpa [Str.length] using h1)
  exact wr_ixS c e (h k m)
theorem wr_ixL' {ds : List D} {i : Int} (h0 : 0 ≤ i) (h1 : i < ds.length) (h : ∀ d, d ∈ ds → P (.v d)) : WR (ixD (.lst ds) (.int i)) P := by
  obtain ⟨k, e, m⟩ := atI_some h0 h1
  exact wr_ixL e (h k m)
theorem wr_ixT' {ds : List D} {i : Int} (h0 : 0 ≤ i) (h1 : i < ds.length) (h : ∀ d, d ∈ ds → P (.v d)) : WR (ixD (.tup ds) (.int i)) P := by
  obtain ⟨k, e, m⟩ := atI_some h0 h1
  exact wr_ixT e (h k m)
theorem wr_slS {z : Str} {lo hi : Option Int} (c : z.length ≤ 1000000) (h : P (.v (.str (cutS z lo hi)))) : WR (slD (.str z) lo hi) P := ⟨_, if_pos c, h⟩
theorem wr_slL {ds : List D} {lo hi : Option Int} (h : P (.l (cutD ds lo hi))) : WR (slD (.lst ds) lo hi) P := ⟨_, rfl, h⟩
theorem wr_low {z : Str} (c : z.length ≤ 1000000) (h : P (.v (.str (Txt.lower z)))) : WR (lowD z) P := ⟨_, if_pos c, h⟩
theorem wr_upp {z : Str} (c : z.length ≤ 1000000) (h : P (.v (.str (Txt.upper z)))) : WR (uppD z) P := ⟨_, if_pos c, h⟩
theorem wr_mulS {z : Str} {n : Int} (c : big n = true ∧ z.length * n.toNat ≤ 1000000) (h : P (.v (.str (mulS z n.toNat)))) : WR (mulD (.str z) (.int n)) P := ⟨_, if_pos c, h⟩
theorem wr_mulL {z : List D} {n : Int} (c : big n = true ∧ z.length * n.toNat ≤ 1000000) (h : P (.l (List.replicate n.toNat z).flatten)) : WR (mulD (.lst z) (.int n)) P := ⟨_, if_pos c, h⟩
end
/-- texts of at most n signs -/
def IsS (n : Nat) (d : D) : Prop := ∃ z : Str, d = .str z ∧ z.length ≤ n
theorem len_app (a b : Str) : (a ++ b).length = a.length + b.length := by
  show (a.cps ++ b.cps).size = _
  exact Array.size_append
theorem len_cut (z : Str) (lo hi : Option Int) : (cutS z lo hi).length ≤ z.length := by
  unfold cutS
  show (List.toArray _).size ≤ z.cps.size
  rw [List.size_toArray, List.length_take, List.length_drop, Array.length_toList]
  omega
theorem len_mulS (z : Str) (n : Nat) : (mulS z n).length = z.length * n := by
  unfold mulS
  show (List.toArray _).size = _
  rw [List.size_toArray, List.length_flatten, List.map_replicate, List.sum_replicate_nat, Array.length_toList, Nat.mul_comm]
  rfl
theorem len_one (k : Nat) : (⟨#[k]⟩ : Str).length = 1 := rfl
theorem strs_all {ds : List D} {n : Nat} (h : ∀ d ∈ ds, IsS n d) : ∃ ss, strs? ds = some ss ∧ ss.length = ds.length ∧ (ss.map (·.length)).sum ≤ ds.length * n := by
  induction ds with
  | nil => exact ⟨[], rfl, rfl, Nat.zero_le _⟩
  | cons d ds ih =>
    obtain ⟨ss, e, l, s⟩ := ih fun d' hd => h d' (List.mem_cons_of_mem _ hd)
    obtain ⟨z, rfl, hz⟩ := h d List.mem_cons_self
    refine ⟨z :: ss, by unfold strs?; rw [e]; rfl, by rw [List.length_cons, List.length_cons, l], ?_⟩
    rw [List.map_cons, List.sum_cons, List.length_cons, Nat.add_mul]
    omega
theorem len_join0 (ss : List Str) : (Txt.join (Str.ofString "") ss).length = (ss.map (·.length)).sum := by
  show (Builtin.Str.glued (Str.ofString "") ss).length = _
  rw [PySem.size_glued, show (Str.ofString "").length = 0 by decide +kernel, Nat.mul_zero, Nat.add_zero]
/-- "".join of texts of at most n signs -/
theorem wr_join0 {ds : List D} {n : Nat} {P : O → Prop} (h : ∀ d ∈ ds, IsS n d) (c : ds.length * n ≤ 1000000) (q : ∀ z : Str, z.length ≤ ds.length * n → P (.v (.str z))) : WR (joinD (Str.ofString "") (.lst ds)) P := by
  obtain ⟨ss, e, l, s⟩ := strs_all h
  refine ⟨.s (.str (Txt.join (Str.ofString "") ss)), ?_, q _ (by rw [len_join0]; exact s)⟩
  show ((strs? ds).bind fun ss => if (ss.map (·.length)).sum + ss.length * (Str.ofString "").length ≤ 1000000 then some (Res.s (.str (Txt.join (Str.ofString "") ss))) else none) = _
  rw [e]
  simp only [Option.bind_some]
  rw [show (Str.ofString "").length = 0 by decide +kernel, Nat.mul_zero, Nat.add_zero, if_pos (Nat.le_trans s c)]
end Mr
namespace Mr
open PySem PySem.Spec PyProof.Rows L2
theorem inB_lst {d : D} {ds : List D} (h1 : flatD d = true) (h2 : ds.all flatD = true) : inB d (.lst ds) = some (ds.any fun e => eqF e d) := by
  unfold inB
  split
  · rename_i h; cases h
  · rename_i h; cases h; rw [if_pos ⟨h1, h2⟩]
  · rename_i h; cases h
  · rename_i h; first | exact absurd rfl (h _) | (rename_i h2; exact absurd rfl (h2 _)) | (rename_i h2 h3; exact absurd rfl (h2 _))
theorem wr_ninNil {z : Str} {P : O → Prop} (h : P (.v (.bl true))) : WR (ninD (.str z) (.lst [])) P := ⟨.s (.bl true), by unfold ninD; rw [inB_lst rfl rfl]; rfl, h⟩
end Mr

set_option linter.all false
set_option maxRecDepth 100000
set_option maxHeartbeats 4000000
/-! MrZ: plain values with a size. -/
namespace Mr
open PySem PySem.Spec PyProof.Rows L2
mutual
def sz : D → Nat
  | .tup ds => 1 + szs ds
  | .lst ds => 1 + szs ds
  | _ => 1
def szs : List D → Nat
  | [] => 0
  | d :: ds => sz d + szs ds
end
/-- plain values: none, truth values, numbers, short texts, and tuples and lists of such -/
inductive Va : D → Prop
  | non : Va .non
  | bl {b} : Va (.bl b)
  | int {i} : Va (.int i)
  | str {z : Str} (h : z.length ≤ 10000) : Va (.str z)
  | tup {ds : List D} (h : ∀ d ∈ ds, Va d) : Va (.tup ds)
  | lst {ds : List D} (h : ∀ d ∈ ds, Va d) : Va (.lst ds)
theorem szs_app (a b : List D) : szs (a ++ b) = szs a + szs b := by
  induction a with
  | nil => simp [szs]
  | cons d a ih => rw [List.cons_append]; simp only [szs]; rw [ih]; omega
theorem sz_pos (d : D) : 1 ≤ sz d := by cases d <;> simp [sz] <;> omega
theorem len_szs (ds : List D) : ds.length ≤ szs ds := by
  induction ds with
  | nil => simp [szs]
  | cons d ds ih => have := sz_pos d; simp only [szs, List.length_cons]; omega
theorem szs_rep (n : Nat) (d : D) : szs (List.replicate n d) = n * sz d := by
  induction n with
  | zero => simp [szs]
  | succ n ih => rw [List.replicate_succ]; simp only [szs]; rw [ih, Nat.add_mul]; omega
theorem szs_rep1 (n : Nat) (d : D) : szs (List.replicate n [d]).flatten = n * sz d := by
  rw [← szs_rep]; congr 1
  induction n with
  | zero => rfl
  | succ n ih => rw [List.replicate_succ, List.replicate_succ, List.flatten_cons, ih]; rfl
theorem va_rep1 {n : Nat} {d : D} (h : Va d) : ∀ e ∈ (List.replicate n [d]).flatten, Va e := by
  intro e he
  simp only [List.mem_flatten, List.mem_replicate] at he
  obtain ⟨l, ⟨_, rfl⟩, he⟩ := he
  rw [List.mem_singleton.mp he]; exact h
theorem szs_mem {d : D} {ds : List D} (h : d ∈ ds) : sz d ≤ szs ds := by
  induction ds with
  | nil => cases h
  | cons e ds ih =>
    simp only [szs]
    rcases List.mem_cons.mp h with rfl | h
    · omega
    · have := ih h; omega
theorem toD_cases {o : O} {d : D} (h : toD o = some d) : o = .v d ∨ ∃ ds, o = .l ds ∧ d = .lst ds := by
  cases o with
  | n => cases h
  | v e => cases h; exact .inl rfl
  | l ds => cases h; exact .inr ⟨ds, rfl, rfl⟩
theorem set_same {ρ : List O} {i : Nat} {o : O} (e : ρ[i]? = some o) : ρ.set i o = ρ := by
  apply List.ext_getElem?
  intro j
  rw [List.getElem?_set]
  split
  · rename_i h; subst h; split
    · exact e.symm
    · rename_i h; rw [List.getElem?_eq_none (by omega)]
  · rfl
theorem we_varO {ρ : List O} {i : Nat} {o : O} {d : D} {P : O → List O → Prop} (e : ρ[i]? = some o) (t : toD o = some d) (h : P (.v d) (ρ.set i (.v d))) : WE (m_var i ρ) P := by
  rcases toD_cases t with rfl | ⟨ds, rfl, rfl⟩
  · rw [set_same e] at h; exact we_var e h
  · exact we_varL e h
theorem dropLast_snoc {α : Type} (a : List α) (x : α) : (a ++ [x]).dropLast = a := by simp
/-- the last of a pile -/
theorem last_snoc {α : Type} (a : List α) (x : α) : (a ++ [x])[(a ++ [x]).length - 1]? = some x := by simp
section
variable {P : O → Prop}
theorem wr_isn0 (h : P (.v (.bl true))) : WR (isnD .non .non) P := ⟨_, rfl, h⟩
theorem wr_isn1 {b : Bool} (h : P (.v (.bl false))) : WR (isnD (.bl b) .non) P := ⟨_, rfl, h⟩
theorem wr_isn2 {b : Int} (h : P (.v (.bl false))) : WR (isnD (.int b) .non) P := ⟨_, rfl, h⟩
theorem wr_isn3 {b : Str} (h : P (.v (.bl false))) : WR (isnD (.str b) .non) P := ⟨_, rfl, h⟩
theorem wr_isn4 {b : List D} (h : P (.v (.bl false))) : WR (isnD (.tup b) .non) P := ⟨_, rfl, h⟩
theorem wr_isn5 {b : List D} (h : P (.v (.bl false))) : WR (isnD (.lst b) .non) P := ⟨_, rfl, h⟩
end
theorem wr_isi {d : D} {n : String} {b : Bool} {P : O → Prop} (e : isiD [d, .ty n] = some (.s (.bl b))) (h : P (.v (.bl b))) : WR (isiD [d, .ty n]) P := ⟨_, e, h⟩
theorem isi_non_bool  : isiD [.non, .ty "bool"] = some (.s (.bl false)) := by rfl
theorem isi_non_int  : isiD [.non, .ty "int"] = some (.s (.bl false)) := by rfl
theorem isi_non_str  : isiD [.non, .ty "str"] = some (.s (.bl false)) := by rfl
theorem isi_non_tuple  : isiD [.non, .ty "tuple"] = some (.s (.bl false)) := by rfl
theorem isi_non_list  : isiD [.non, .ty "list"] = some (.s (.bl false)) := by rfl
theorem isi_non_dict  : isiD [.non, .ty "dict"] = some (.s (.bl false)) := by rfl
theorem isi_bl_bool {b : Bool} : isiD [(.bl b), .ty "bool"] = some (.s (.bl true)) := by rfl
theorem isi_bl_int {b : Bool} : isiD [(.bl b), .ty "int"] = some (.s (.bl true)) := by rfl
theorem isi_bl_str {b : Bool} : isiD [(.bl b), .ty "str"] = some (.s (.bl false)) := by rfl
theorem isi_bl_tuple {b : Bool} : isiD [(.bl b), .ty "tuple"] = some (.s (.bl false)) := by rfl
theorem isi_bl_list {b : Bool} : isiD [(.bl b), .ty "list"] = some (.s (.bl false)) := by rfl
theorem isi_bl_dict {b : Bool} : isiD [(.bl b), .ty "dict"] = some (.s (.bl false)) := by rfl
theorem isi_int_bool {b : Int} : isiD [(.int b), .ty "bool"] = some (.s (.bl false)) := by rfl
theorem isi_int_int {b : Int} : isiD [(.int b), .ty "int"] = some (.s (.bl true)) := by rfl
theorem isi_int_str {b : Int} : isiD [(.int b), .ty "str"] = some (.s (.bl false)) := by rfl
theorem isi_int_tuple {b : Int} : isiD [(.int b), .ty "tuple"] = some (.s (.bl false)) := by rfl
theorem isi_int_list {b : Int} : isiD [(.int b), .ty "list"] = some (.s (.bl false)) := by rfl
theorem isi_int_dict {b : Int} : isiD [(.int b), .ty "dict"] = some (.s (.bl false)) := by rfl
theorem isi_str_bool {b : Str} : isiD [(.str b), .ty "bool"] = some (.s (.bl false)) := by rfl
theorem isi_str_int {b : Str} : isiD [(.str b), .ty "int"] = some (.s (.bl false)) := by rfl
theorem isi_str_str {b : Str} : isiD [(.str b), .ty "str"] = some (.s (.bl true)) := by rfl
theorem isi_str_tuple {b : Str} : isiD [(.str b), .ty "tuple"] = some (.s (.bl false)) := by rfl
theorem isi_str_list {b : Str} : isiD [(.str b), .ty "list"] = some (.s (.bl false)) := by rfl
theorem isi_str_dict {b : Str} : isiD [(.str b), .ty "dict"] = some (.s (.bl false)) := by rfl
theorem isi_tup_bool {b : List D} : isiD [(.tup b), .ty "bool"] = some (.s (.bl false)) := by rfl
theorem isi_tup_int {b : List D} : isiD [(.tup b), .ty "int"] = some (.s (.bl false)) := by rfl
theorem isi_tup_str {b : List D} : isiD [(.tup b), .ty "str"] = some (.s (.bl false)) := by rfl
theorem isi_tup_tuple {b : List D} : isiD [(.tup b), .ty "tuple"] = some (.s (.bl true)) := by rfl
theorem isi_tup_list {b : List D} : isiD [(.tup b), .ty "list"] = some (.s (.bl false)) := by rfl
theorem isi_tup_dict {b : List D} : isiD [(.tup b), .ty "dict"] = some (.s (.bl false)) := by rfl
theorem isi_lst_bool {b : List D} : isiD [(.lst b), .ty "bool"] = some (.s (.bl false)) := by rfl
theorem isi_lst_int {b : List D} : isiD [(.lst b), .ty "int"] = some (.s (.bl false)) := by rfl
theorem isi_lst_str {b : List D} : isiD [(.lst b), .ty "str"] = some (.s (.bl false)) := by rfl
theorem isi_lst_tuple {b : List D} : isiD [(.lst b), .ty "tuple"] = some (.s (.bl false)) := by rfl
theorem isi_lst_list {b : List D} : isiD [(.lst b), .ty "list"] = some (.s (.bl true)) := by rfl
theorem isi_lst_dict {b : List D} : isiD [(.lst b), .ty "dict"] = some (.s (.bl false)) := by rfl
theorem wr_ninNil' {d : D} {P : O → Prop} (c : flatD d = true) (h : P (.v (.bl true))) : WR (ninD d (.lst [])) P := ⟨.s (.bl true), by unfold ninD; rw [inB_lst c rfl]; rfl, h⟩
theorem wr_in1 {c : Nat} {y : Str} {P : O → Prop} (h : P (.v (.bl (decide (c ∈ y.cps.toList))))) : WR (inD (.str ⟨#[c]⟩) (.str y)) P := ⟨_, rfl, h⟩
theorem wr_nin1 {c : Nat} {y : Str} {P : O → Prop} (h : P (.v (.bl (!decide (c ∈ y.cps.toList))))) : WR (ninD (.str ⟨#[c]⟩) (.str y)) P := ⟨_, rfl, h⟩
/-- all signs of z are in y -/
def allc (y z : Str) : Bool := z.cps.toList.all fun c => decide (c ∈ y.cps.toList)
theorem bools_map {α : Type} (f : α → Bool) (l : List α) : bools (l.map fun a => D.bl (f a)) = some (l.map f) := by
  induction l with
  | nil => rfl
  | cons a l ih => rw [List.map_cons, List.map_cons]; unfold bools; rw [ih]; rfl
theorem wr_all {α : Type} {f : α → Bool} {l : List α} {P : O → Prop} (h : P (.v (.bl (l.all f)))) : WR (allD [.lst (l.map fun a => D.bl (f a))]) P := by
  refine ⟨.s (.bl ((l.map f).all id)), ?_, ?_⟩
  · show (bools _).map _ = _
    rw [bools_map]; rfl
  · rw [List.all_map]; exact h
theorem chars_len (z : Str) : (chars z).length = z.length := by unfold chars; rw [List.length_map, Array.length_toList]; rfl
theorem chars_get {z : Str} {i : Nat} {d : D} (h : (chars z)[i]? = some d) : ∃ h : i < z.cps.toList.length, d = .str ⟨#[z.cps.toList[i]]⟩ := by
  unfold chars at h
  rw [List.getElem?_map] at h
  obtain ⟨k, e, rfl⟩ := Option.map_eq_some_iff.mp h
  obtain ⟨hi, rfl⟩ := List.getElem?_eq_some_iff.mp e
  exact ⟨hi, rfl⟩
theorem wr_listS {ds : List D} {P : O → Prop} (h : P (.l ds)) : WR (listD [.lst ds]) P := ⟨_, rfl, h⟩
theorem wifNT {A B : Prop} (h : B) : if (!true) = true then A else B := by rw [if_neg (by decide)]; exact h
theorem wifNF {A B : Prop} (h : A) : if (!false) = true then A else B := by rw [if_pos (by decide)]; exact h
end Mr

set_option Elab.async false
set_option linter.all false
set_option maxRecDepth 100000
set_option maxHeartbeats 4000000
namespace K00
open PySem PySem.Spec PyProof.Rows L2 Mr
def top (i : Nat) : Stmt := PySem.Challenge.pw_textortree_k00_names_of_four_sorts.main.body.getD i (.Pass ⟨0, 0, 0, 0⟩)
/-- what the top has left of the built-ins and constants -/
structure Fac (mg : Str → Option Value) : Prop where
  b_all : mg "all" = none
  b_bool : mg "bool" = none
  b_dict : mg "dict" = none
  b_int : mg "int" = none
  b_isinstance : mg "isinstance" = none
  b_len : mg "len" = none
  b_list : mg "list" = none
  b_max : mg "max" = none
  b_range : mg "range" = none
  b_reversed : mg "reversed" = none
  b_str : mg "str" = none
  b_tuple : mg "tuple" = none
  s_MARKS : ∃ t, mg "MARKS" = some (.str (Str.ofString "+-*/<>=!?&|^~:.@$") t)
  s_SMALL_LETTERS : ∃ t, mg "SMALL_LETTERS" = some (.str (Str.ofString "abcdefghijklmnopqrstuvwxyz") t)
  s_GREAT_LETTERS : ∃ t, mg "GREAT_LETTERS" = some (.str (Str.ofString "ABCDEFGHIJKLMNOPQRSTUVWXYZ") t)
  s_WORD_SIGNS : ∃ t, mg "WORD_SIGNS" = some (.str (Str.ofString "abcdefghijklmnopqrstuvwxyz0123456789") t)
/-! made_of -/
abbrev N_made_of : List Str := ["text", "signs", "most", "sign"]
abbrev P_made_of : List Str := ["text", "signs", "most"]
theorem sc_made_of : FnScope N_made_of P_made_of (defScope (top 5)) := ⟨rfl, rfl, rfl, by decide +kernel, rfl, by decide +kernel, by decide +kernel⟩
def mb_made_of : MS := s_seq (s_if (m_not (m_tst (m_chain leD leD (p_ex (m_c (.int 1))) (p_ex (m_bi lenD (a_cons (p_nm 0) (a_nil)))) (p_nm 2)))) (s_ret (m_c (.bl false))) (s_nop)) (s_ret (m_bi allD (a_cons (p_ex (m_lc [3] (i_seq (m_var 0)) (g_name 3) (m_yes) (m_op2 inD (p_nm 3) (p_nm 1)))) (a_nil))))
def g_made_of : List O → Option (O × List O) := fnM 4 3 [0, 1, 2] mb_made_of
theorem ok_made_of {P : Program} {w : World} {K : PySem.W.Frag} {mg : Str → Option Value} {base : Heap} (fac : Fac mg) {f : Addr} {fd : FuncData} (F : FunD K "made_of" "made_of" (defArgs (top 5)) (defBody (top 5)) (defScope (top 5)) [] [] f fd)  :
    FnOk P w K mg base CX0 1 f fd P_made_of (spM K 3 g_made_of) :=
  fn_ok (k := 0) (N := N_made_of) (ps := P_made_of) (m := mb_made_of) [0, 1, 2] F sc_made_of (rss_cons (rs_if (rt_not (rt_chain (fun _ => rI0 fun i j => .bl (decide (i ≤ j))) (fun _ => rI0 fun i j => .bl (decide (i ≤ j))) (fun X h => op_leA X h) (fun X h => op_leA X h) leD_ok leD_ok (rp_ex (re_int)) (rp_ex (re_bi rLenA (fun X h => cb_len X h) lenD_ok fac.b_len (by decide +kernel) (ra_cons (rp_nm 0) (ra_nil)))) (rp_nm 2))) (rss_one (rs_ret (re_bl))) (rss_nil)) (rss_one (rs_ret (re_bi rAll (fun X h => cb_all X h) allD_ok fac.b_all (by decide +kernel) (ra_cons (rp_ex (re_lc (own := [(("sign" : Str), 3)]) (ri_seq (re_var 0)) (rg_name 3) (rts_nil) (re_cmp rInA (fun X h => op_inA X h) inD_ok (rp_nm 3) (rp_nm 1) rfl))) (ra_nil))))))
/-! _law_mixed -/
abbrev N_law_mixed : List Str := ["number", "turn", "one", "two", "three"]
abbrev P_law_mixed : List Str := ["number", "turn"]
theorem sc_law_mixed : FnScope N_law_mixed P_law_mixed (defScope (top 11)) := ⟨rfl, rfl, rfl, by decide +kernel, rfl, by decide +kernel, by decide +kernel⟩
def mb_law_mixed : MS := s_seq (s_set 2 (m_bi intD (a_cons (p_ex (m_op2 addD (p_ex (m_op2 addD (p_ex (m_op2 mulD (p_ex (m_op2 modD (p_ex (m_bi intD (a_cons (p_nm 0) (a_nil)))) (p_ex (m_c (.int 2305843009213693951))))) (p_ex (m_c (.int 6364136223846793))))) (p_ex (m_op2 mulD (p_nm 1) (p_ex (m_c (.int 1442695040888963407))))))) (p_ex (m_c (.int 77171))))) (a_nil)))) (s_seq (s_set 2 (m_op2 modD (p_ex (m_bi intD (a_cons (p_nm 2) (a_nil)))) (p_ex (m_c (.int 2305843009213693951))))) (s_seq (s_set 3 (m_op2 modD (p_ex (m_bi intD (a_cons (p_ex (m_op2 addD (p_ex (m_op2 addD (p_ex (m_op2 mulD (p_nm 2) (p_nm 2))) (p_ex (m_op2 mulD (p_nm 2) (p_ex (m_c (.int 40503))))))) (p_ex (m_c (.int 2862933555777941757))))) (a_nil)))) (p_ex (m_c (.int 9223372036854775783))))) (s_seq (s_set 4 (m_op2 addD (p_ex (m_op2 fdivD (p_nm 3) (p_ex (m_c (.int 2147483648))))) (p_ex (m_op2 mulD (p_ex (m_op2 modD (p_ex (m_bi intD (a_cons (p_nm 3) (a_nil)))) (p_ex (m_c (.int 2147483648))))) (p_ex (m_c (.int 4294967311))))))) (s_ret (m_op2 fdivD (p_ex (m_op2 modD (p_ex (m_bi intD (a_cons (p_ex (m_op2 addD (p_ex (m_op2 mulD (p_nm 4) (p_nm 4))) (p_ex (m_c (.int 2691343689449507681))))) (a_nil)))) (p_ex (m_c (.int 2305843009213693951))))) (p_ex (m_c (.int 1024))))))))
def g_law_mixed : List O → Option (O × List O) := fnM 5 2 [0, 1] mb_law_mixed
theorem ok_law_mixed {P : Program} {w : World} {K : PySem.W.Frag} {mg : Str → Option Value} {base : Heap} (fac : Fac mg) {f : Addr} {fd : FuncData} (F : FunD K "_law_mixed" "_law_mixed" (defArgs (top 11)) (defBody (top 11)) (defScope (top 11)) [] [] f fd)  :
    FnOk P w K mg base CX0 1 f fd P_law_mixed (spM K 2 g_law_mixed) :=
  fn_ok (k := 0) (N := N_law_mixed) (ps := P_law_mixed) (m := mb_law_mixed) [0, 1] F sc_law_mixed (rss_cons (rs_set 2 (re_ty (fun _ => rIntA) (fun X h => cb_int X h) intD_ok fac.b_int (by decide +kernel) (ra_cons (rp_ex (re_op rAddA (fun X => op_addA X) addD_ok (rp_ex (re_op rAddA (fun X => op_addA X) addD_ok (rp_ex (re_op (fun _ => rMulA) (fun X => op_mulA X) mulD_ok (rp_ex (re_op (fun _ => rI (fun _ j => 0 < j) fun i j => .int (i % j)) (fun X => op_modA X) modD_ok (rp_ex (re_ty (fun _ => rIntA) (fun X h => cb_int X h) intD_ok fac.b_int (by decide +kernel) (ra_cons (rp_nm 0) (ra_nil)))) (rp_ex (re_int)))) (rp_ex (re_int)))) (rp_ex (re_op (fun _ => rMulA) (fun X => op_mulA X) mulD_ok (rp_nm 1) (rp_ex (re_int)))))) (rp_ex (re_int)))) (ra_nil)))) (rss_cons (rs_set 2 (re_op (fun _ => rI (fun _ j => 0 < j) fun i j => .int (i % j)) (fun X => op_modA X) modD_ok (rp_ex (re_ty (fun _ => rIntA) (fun X h => cb_int X h) intD_ok fac.b_int (by decide +kernel) (ra_cons (rp_nm 2) (ra_nil)))) (rp_ex (re_int)))) (rss_cons (rs_set 3 (re_op (fun _ => rI (fun _ j => 0 < j) fun i j => .int (i % j)) (fun X => op_modA X) modD_ok (rp_ex (re_ty (fun _ => rIntA) (fun X h => cb_int X h) intD_ok fac.b_int (by decide +kernel) (ra_cons (rp_ex (re_op rAddA (fun X => op_addA X) addD_ok (rp_ex (re_op rAddA (fun X => op_addA X) addD_ok (rp_ex (re_op (fun _ => rMulA) (fun X => op_mulA X) mulD_ok (rp_nm 2) (rp_nm 2))) (rp_ex (re_op (fun _ => rMulA) (fun X => op_mulA X) mulD_ok (rp_nm 2) (rp_ex (re_int)))))) (rp_ex (re_int)))) (ra_nil)))) (rp_ex (re_int)))) (rss_cons (rs_set 4 (re_op rAddA (fun X => op_addA X) addD_ok (rp_ex (re_op (fun _ => rI CDivW fun i j => .int (i / j)) (fun X => op_fdivA X) fdivD_ok (rp_nm 3) (rp_ex (re_int)))) (rp_ex (re_op (fun _ => rMulA) (fun X => op_mulA X) mulD_ok (rp_ex (re_op (fun _ => rI (fun _ j => 0 < j) fun i j => .int (i % j)) (fun X => op_modA X) modD_ok (rp_ex (re_ty (fun _ => rIntA) (fun X h => cb_int X h) intD_ok fac.b_int (by decide +kernel) (ra_cons (rp_nm 3) (ra_nil)))) (rp_ex (re_int)))) (rp_ex (re_int)))))) (rss_one (rs_ret (re_op (fun _ => rI CDivW fun i j => .int (i / j)) (fun X => op_fdivA X) fdivD_ok (rp_ex (re_op (fun _ => rI (fun _ j => 0 < j) fun i j => .int (i % j)) (fun X => op_modA X) modD_ok (rp_ex (re_ty (fun _ => rIntA) (fun X h => cb_int X h) intD_ok fac.b_int (by decide +kernel) (ra_cons (rp_ex (re_op rAddA (fun X => op_addA X) addD_ok (rp_ex (re_op (fun _ => rMulA) (fun X => op_mulA X) mulD_ok (rp_nm 4) (rp_nm 4))) (rp_ex (re_int)))) (ra_nil)))) (rp_ex (re_int)))) (rp_ex (re_int)))))))))
/-! _law_store -/
abbrev N_law_store : List Str := ["script"]
abbrev P_law_store : List Str := ["script"]
theorem sc_law_store : FnScope N_law_store P_law_store (defScope (top 12)) := ⟨rfl, rfl, rfl, by decide +kernel, rfl, by decide +kernel, by decide +kernel⟩
def mb_law_store : MS := s_ret (m_op2 addD (p_ex (m_lst (a_cons (m_it (m_c (.int 0))) (a_cons (m_it (m_c (.int 5))) (a_cons (m_it (m_c (.int 0))) (a_cons (m_it (m_c (.int 0))) (a_cons (m_it (m_op2 addD (p_ex (m_c (.int 1))) (p_ex (m_bi lenD (a_cons (p_nm 0) (a_nil)))))) (a_nil)))))))) (p_ex (m_bi listD (a_cons (p_nm 0) (a_nil)))))
def g_law_store : List O → Option (O × List O) := fnM 1 1 [0] mb_law_store
theorem ok_law_store {P : Program} {w : World} {K : PySem.W.Frag} {mg : Str → Option Value} {base : Heap} (fac : Fac mg) {f : Addr} {fd : FuncData} (F : FunD K "_law_store" "_law_store" (defArgs (top 12)) (defBody (top 12)) (defScope (top 12)) [] [] f fd)  :
    FnOk P w K mg base CX0 1 f fd P_law_store (spM K 1 g_law_store) :=
  fn_ok (k := 0) (N := N_law_store) (ps := P_law_store) (m := mb_law_store) [0] F sc_law_store (rss_one (rs_ret (re_op rAddA (fun X => op_addA X) addD_ok (rp_ex (re_lst (ra_cons (rp_it (re_int)) (ra_cons (rp_it (re_int)) (ra_cons (rp_it (re_int)) (ra_cons (rp_it (re_int)) (ra_cons (rp_it (re_op rAddA (fun X => op_addA X) addD_ok (rp_ex (re_int)) (rp_ex (re_bi rLenA (fun X h => cb_len X h) lenD_ok fac.b_len (by decide +kernel) (ra_cons (rp_nm 0) (ra_nil)))))) (ra_nil)))))))) (rp_ex (re_ty rListA (fun X h => cb_list X h) listD_ok fac.b_list (by decide +kernel) (ra_cons (rp_nm 0) (ra_nil)))))))
/-! _law_signs -/
abbrev N_law_signs : List Str := []
abbrev P_law_signs : List Str := []
theorem sc_law_signs : FnScope N_law_signs P_law_signs (defScope (top 17)) := ⟨rfl, rfl, rfl, by decide +kernel, rfl, by decide +kernel, by decide +kernel⟩
def mb_law_signs : MS := s_ret (m_c (.str (Str.ofString " !\"#$&'()*+,-./0123456789:;<=>?@ABCDEFGHIJKLMNOPQRSTUVWXYZ[\\]^_`abcdefghijklmnopqrstuvwxyz{|}~")))
def g_law_signs : List O → Option (O × List O) := fnM 0 0 [] mb_law_signs
theorem ok_law_signs {P : Program} {w : World} {K : PySem.W.Frag} {mg : Str → Option Value} {base : Heap} (fac : Fac mg) {f : Addr} {fd : FuncData} (F : FunD K "_law_signs" "_law_signs" (defArgs (top 17)) (defBody (top 17)) (defScope (top 17)) [] [] f fd)  :
    FnOk P w K mg base CX0 1 f fd P_law_signs (spM K 0 g_law_signs) :=
  fn_ok (k := 0) (N := N_law_signs) (ps := P_law_signs) (m := mb_law_signs) [] F sc_law_signs (rss_one (rs_ret (re_str)))
/-! _law_sort -/
abbrev N_law_sort : List Str := ["value"]
abbrev P_law_sort : List Str := ["value"]
theorem sc_law_sort : FnScope N_law_sort P_law_sort (defScope (top 25)) := ⟨rfl, rfl, rfl, by decide +kernel, rfl, by decide +kernel, by decide +kernel⟩
def mb_law_sort : MS := s_seq (s_if (m_tst (m_op2 isnD (p_nm 0) (p_ex (m_c .non)))) (s_ret (m_c (.int 0))) (s_nop)) (s_seq (s_if (m_tru (p_ex (m_bi isiD (a_cons (p_nm 0) (a_cons (p_ex (m_c (.ty "bool"))) (a_nil)))))) (s_ret (m_c (.int 1))) (s_nop)) (s_seq (s_if (m_tru (p_ex (m_bi isiD (a_cons (p_nm 0) (a_cons (p_ex (m_c (.ty "int"))) (a_nil)))))) (s_ret (m_c (.int 2))) (s_nop)) (s_seq (s_if (m_tru (p_ex (m_bi isiD (a_cons (p_nm 0) (a_cons (p_ex (m_c (.ty "str"))) (a_nil)))))) (s_ret (m_c (.int 3))) (s_nop)) (s_seq (s_if (m_tru (p_ex (m_bi isiD (a_cons (p_nm 0) (a_cons (p_ex (m_c (.ty "tuple"))) (a_nil)))))) (s_ret (m_c (.int 4))) (s_nop)) (s_seq (s_if (m_tru (p_ex (m_bi isiD (a_cons (p_nm 0) (a_cons (p_ex (m_c (.ty "list"))) (a_nil)))))) (s_ret (m_c (.int 5))) (s_nop)) (s_seq (s_if (m_tru (p_ex (m_bi isiD (a_cons (p_nm 0) (a_cons (p_ex (m_c (.ty "dict"))) (a_nil)))))) (s_ret (m_c (.int 6))) (s_nop)) (s_ret (m_c (.int 7)))))))))
def g_law_sort : List O → Option (O × List O) := fnM 1 1 [0] mb_law_sort
theorem ok_law_sort {P : Program} {w : World} {K : PySem.W.Frag} {mg : Str → Option Value} {base : Heap} (fac : Fac mg) {f : Addr} {fd : FuncData} (F : FunD K "_law_sort" "_law_sort" (defArgs (top 25)) (defBody (top 25)) (defScope (top 25)) [] [] f fd)  :
    FnOk P w K mg base CX0 1 f fd P_law_sort (spM K 1 g_law_sort) :=
  fn_ok (k := 0) (N := N_law_sort) (ps := P_law_sort) (m := mb_law_sort) [0] F sc_law_sort (rss_cons (rs_if (rt_cmp (fun _ => fun x y H Q => y = .non ∧ Q (.bl (decide (x = .non))) H) (fun X h => op_isA X h) isnD_ok (rp_nm 0) (rp_ex (re_non)) (nomark _)) (rss_one (rs_ret (re_int))) (rss_nil)) (rss_cons (rs_if (rt_tru (rp_ex (re_bi rIsi (fun X h => cb_isi X h) isiD_ok fac.b_isinstance (by decide +kernel) (ra_cons (rp_nm 0) (ra_cons (rp_ex (re_tyc fac.b_bool (by decide +kernel))) (ra_nil)))))) (rss_one (rs_ret (re_int))) (rss_nil)) (rss_cons (rs_if (rt_tru (rp_ex (re_bi rIsi (fun X h => cb_isi X h) isiD_ok fac.b_isinstance (by decide +kernel) (ra_cons (rp_nm 0) (ra_cons (rp_ex (re_tyc fac.b_int (by decide +kernel))) (ra_nil)))))) (rss_one (rs_ret (re_int))) (rss_nil)) (rss_cons (rs_if (rt_tru (rp_ex (re_bi rIsi (fun X h => cb_isi X h) isiD_ok fac.b_isinstance (by decide +kernel) (ra_cons (rp_nm 0) (ra_cons (rp_ex (re_tyc fac.b_str (by decide +kernel))) (ra_nil)))))) (rss_one (rs_ret (re_int))) (rss_nil)) (rss_cons (rs_if (rt_tru (rp_ex (re_bi rIsi (fun X h => cb_isi X h) isiD_ok fac.b_isinstance (by decide +kernel) (ra_cons (rp_nm 0) (ra_cons (rp_ex (re_tyc fac.b_tuple (by decide +kernel))) (ra_nil)))))) (rss_one (rs_ret (re_int))) (rss_nil)) (rss_cons (rs_if (rt_tru (rp_ex (re_bi rIsi (fun X h => cb_isi X h) isiD_ok fac.b_isinstance (by decide +kernel) (ra_cons (rp_nm 0) (ra_cons (rp_ex (re_tyc fac.b_list (by decide +kernel))) (ra_nil)))))) (rss_one (rs_ret (re_int))) (rss_nil)) (rss_cons (rs_if (rt_tru (rp_ex (re_bi rIsi (fun X h => cb_isi X h) isiD_ok fac.b_isinstance (by decide +kernel) (ra_cons (rp_nm 0) (ra_cons (rp_ex (re_tyc fac.b_dict (by decide +kernel))) (ra_nil)))))) (rss_one (rs_ret (re_int))) (rss_nil)) (rss_one (rs_ret (re_int))))))))))
/-! _law_allin -/
abbrev N_law_allin : List Str := ["text", "signs", "sign"]
abbrev P_law_allin : List Str := ["text", "signs"]
theorem sc_law_allin : FnScope N_law_allin P_law_allin (defScope (top 27)) := ⟨rfl, rfl, rfl, by decide +kernel, rfl, by decide +kernel, by decide +kernel⟩
def mb_law_allin : MS := s_seq (s_for (i_seq (m_var 0)) (g_name 2) (s_if (m_tst (m_op2 ninD (p_nm 2) (p_nm 1))) (s_ret (m_c (.bl false))) (s_nop))) (s_ret (m_op2 gtD (p_ex (m_bi lenD (a_cons (p_nm 0) (a_nil)))) (p_ex (m_c (.int 0)))))
def g_law_allin : List O → Option (O × List O) := fnM 3 2 [0, 1] mb_law_allin
theorem ok_law_allin {P : Program} {w : World} {K : PySem.W.Frag} {mg : Str → Option Value} {base : Heap} (fac : Fac mg) {f : Addr} {fd : FuncData} (F : FunD K "_law_allin" "_law_allin" (defArgs (top 27)) (defBody (top 27)) (defScope (top 27)) [] [] f fd)  :
    FnOk P w K mg base CX0 1 f fd P_law_allin (spM K 2 g_law_allin) :=
  fn_ok (k := 0) (N := N_law_allin) (ps := P_law_allin) (m := mb_law_allin) [0, 1] F sc_law_allin (rss_cons (rs_for (vs := [2]) (ri_seq (re_var 0)) (rg_name 2) (rss_one (rs_if (rt_cmp rNinA (fun X h => op_ninA X h) ninD_ok (rp_nm 2) (rp_nm 1) rfl) (rss_one (rs_ret (re_bl))) (rss_nil)))) (rss_one (rs_ret (re_cmp (fun _ => rI0 fun i j => .bl (decide (j < i))) (fun X h => op_gtA X h) gtD_ok.1 (rp_ex (re_bi rLenA (fun X h => cb_len X h) lenD_ok fac.b_len (by decide +kernel) (ra_cons (rp_nm 0) (ra_nil)))) (rp_ex (re_int)) (nomark _)))))
/-! is_atom_word -/
abbrev N_is_atom_word : List Str := ["value"]
abbrev P_is_atom_word : List Str := ["value"]
theorem sc_is_atom_word : FnScope N_is_atom_word P_is_atom_word (defScope (top 6)) := ⟨rfl, rfl, rfl, by decide +kernel, rfl, by decide +kernel, by decide +kernel⟩
def mb_is_atom_word : MS := s_ret (m_andV (m_bi isiD (a_cons (p_nm 0) (a_cons (p_ex (m_c (.ty "str"))) (a_nil)))) (m_call g_made_of (a_cons (p_nm 0) (a_cons (p_ex (m_c (.str (Str.ofString "abcdefghijklmnopqrstuvwxyz0123456789")))) (a_cons (p_ex (m_c (.int 8))) (a_nil))))))
def g_is_atom_word : List O → Option (O × List O) := fnM 1 1 [0] mb_is_atom_word
theorem ok_is_atom_word {P : Program} {w : World} {K : PySem.W.Frag} {mg : Str → Option Value} {base : Heap} (fac : Fac mg) {f : Addr} {fd : FuncData} (F : FunD K "is_atom_word" "is_atom_word" (defArgs (top 6)) (defBody (top 6)) (defScope (top 6)) [] [] f fd) (c_made_of : Cal P w K mg base 1 "made_of" 3 g_made_of) :
    FnOk P w K mg base CX0 2 f fd P_is_atom_word (spM K 1 g_is_atom_word) :=
  fn_ok (k := 1) (N := N_is_atom_word) (ps := P_is_atom_word) (m := mb_is_atom_word) [0] F sc_is_atom_word (rss_one (rs_ret (re_and (re_bi rIsi (fun X h => cb_isi X h) isiD_ok fac.b_isinstance (by decide +kernel) (ra_cons (rp_nm 0) (ra_cons (rp_ex (re_tyc fac.b_str (by decide +kernel))) (ra_nil)))) (re_one (re_call c_made_of (Nat.le_of_ble_eq_true rfl) (ra_cons (rp_nm 0) (ra_cons (rp_ex (re_gstrE fac.s_WORD_SIGNS)) (ra_cons (rp_ex (re_int)) (ra_nil)))) (.cons (.cons (.cons .nil))))))))
/-! is_kind_name -/
abbrev N_is_kind_name : List Str := ["value"]
abbrev P_is_kind_name : List Str := ["value"]
theorem sc_is_kind_name : FnScope N_is_kind_name P_is_kind_name (defScope (top 9)) := ⟨rfl, rfl, rfl, by decide +kernel, rfl, by decide +kernel, by decide +kernel⟩
def mb_is_kind_name : MS := s_ret (m_andV (m_bi isiD (a_cons (p_nm 0) (a_cons (p_ex (m_c (.ty "str"))) (a_nil)))) (m_call g_made_of (a_cons (p_nm 0) (a_cons (p_ex (m_c (.str (Str.ofString "ABCDEFGHIJKLMNOPQRSTUVWXYZ")))) (a_cons (p_ex (m_c (.int 4))) (a_nil))))))
def g_is_kind_name : List O → Option (O × List O) := fnM 1 1 [0] mb_is_kind_name
theorem ok_is_kind_name {P : Program} {w : World} {K : PySem.W.Frag} {mg : Str → Option Value} {base : Heap} (fac : Fac mg) {f : Addr} {fd : FuncData} (F : FunD K "is_kind_name" "is_kind_name" (defArgs (top 9)) (defBody (top 9)) (defScope (top 9)) [] [] f fd) (c_made_of : Cal P w K mg base 1 "made_of" 3 g_made_of) :
    FnOk P w K mg base CX0 2 f fd P_is_kind_name (spM K 1 g_is_kind_name) :=
  fn_ok (k := 1) (N := N_is_kind_name) (ps := P_is_kind_name) (m := mb_is_kind_name) [0] F sc_is_kind_name (rss_one (rs_ret (re_and (re_bi rIsi (fun X h => cb_isi X h) isiD_ok fac.b_isinstance (by decide +kernel) (ra_cons (rp_nm 0) (ra_cons (rp_ex (re_tyc fac.b_str (by decide +kernel))) (ra_nil)))) (re_one (re_call c_made_of (Nat.le_of_ble_eq_true rfl) (ra_cons (rp_nm 0) (ra_cons (rp_ex (re_gstrE fac.s_GREAT_LETTERS)) (ra_cons (rp_ex (re_int)) (ra_nil)))) (.cons (.cons (.cons .nil))))))))
/-! _law_take -/
abbrev N_law_take : List Str := ["store", "many", "cell", "found"]
abbrev P_law_take : List Str := ["store", "many"]
theorem sc_law_take : FnScope N_law_take P_law_take (defScope (top 13)) := ⟨rfl, rfl, rfl, by decide +kernel, rfl, by decide +kernel, by decide +kernel⟩
def mb_law_take : MS := s_seq (s_if (m_tst (m_op2 ltD (p_nm 1) (p_ex (m_c (.int 2))))) (s_ret (m_c (.int 0))) (s_nop)) (s_seq (s_sti 0 (m_op2 addD (p_ex (m_op2 ixD (p_nm 0) (p_ex (m_c (.int 0))))) (p_ex (m_c (.int 1)))) (p_ex (m_c (.int 0)))) (s_seq (s_if (m_and (m_tst (m_op2 eqD (p_ex (m_op2 ixD (p_nm 0) (p_ex (m_c (.int 2))))) (p_ex (m_c (.int 0))))) (m_and (m_tst (m_op2 eqD (p_ex (m_op2 ixD (p_nm 0) (p_ex (m_c (.int 3))))) (p_ex (m_c (.int 0))))) (m_tst (m_op2 ltD (p_ex (m_op2 ixD (p_nm 0) (p_ex (m_c (.int 1))))) (p_ex (m_bi lenD (a_cons (p_nm 0) (a_nil)))))))) (s_seq (s_set 2 (m_op2 ixD (p_nm 0) (p_ex (m_op2 ixD (p_nm 0) (p_ex (m_c (.int 1))))))) (s_seq (s_sti 0 (m_op2 addD (p_ex (m_op2 ixD (p_nm 0) (p_ex (m_c (.int 1))))) (p_ex (m_c (.int 1)))) (p_ex (m_c (.int 1)))) (s_seq (s_sti 0 (m_call g_law_mixed (a_cons (p_ex (m_op2 addD (p_ex (m_op2 ixD (p_nm 0) (p_ex (m_c (.int 4))))) (p_ex (m_op2 modD (p_ex (m_bi intD (a_cons (p_nm 2) (a_nil)))) (p_ex (m_c (.int 2305843009213693951))))))) (a_cons (p_ex (m_op2 ixD (p_nm 0) (p_ex (m_c (.int 0))))) (a_nil)))) (p_ex (m_c (.int 4)))) (s_if (m_tst (m_op2 geD (p_nm 2) (p_ex (m_op2 powD (p_ex (m_c (.int 10))) (p_ex (m_c (.int 18))))))) (s_sti 0 (m_op2 modD (p_ex (m_bi intD (a_cons (p_nm 2) (a_nil)))) (p_ex (m_op2 powD (p_ex (m_op2 powD (p_ex (m_c (.int 10))) (p_ex (m_c (.int 64))))) (p_ex (m_c (.int 8)))))) (p_ex (m_c (.int 2)))) (s_sti 0 (m_c (.int 4)) (p_ex (m_c (.int 3)))))))) (s_nop)) (s_seq (s_if (m_tst (m_op2 gtD (p_ex (m_op2 ixD (p_nm 0) (p_ex (m_c (.int 2))))) (p_ex (m_c (.int 0))))) (s_seq (s_set 3 (m_op2 modD (p_ex (m_bi intD (a_cons (p_ex (m_op2 ixD (p_nm 0) (p_ex (m_c (.int 2))))) (a_nil)))) (p_nm 1))) (s_seq (s_sti 0 (m_op2 fdivD (p_ex (m_op2 ixD (p_nm 0) (p_ex (m_c (.int 2))))) (p_nm 1)) (p_ex (m_c (.int 2)))) (s_ret (m_mv 3)))) (s_nop)) (s_seq (s_sti 0 (m_bi max2D (a_cons (p_ex (m_c (.int 0))) (a_cons (p_ex (m_op2 subD (p_ex (m_op2 ixD (p_nm 0) (p_ex (m_c (.int 3))))) (p_ex (m_c (.int 1))))) (a_nil)))) (p_ex (m_c (.int 3)))) (s_ret (m_op2 modD (p_ex (m_bi intD (a_cons (p_ex (m_call g_law_mixed (a_cons (p_ex (m_op2 ixD (p_nm 0) (p_ex (m_c (.int 4))))) (a_cons (p_ex (m_op2 ixD (p_nm 0) (p_ex (m_c (.int 0))))) (a_nil))))) (a_nil)))) (p_nm 1)))))))
def g_law_take : List O → Option (O × List O) := fnM 4 2 [0, 1] mb_law_take
theorem ok_law_take {P : Program} {w : World} {K : PySem.W.Frag} {mg : Str → Option Value} {base : Heap} (fac : Fac mg) {f : Addr} {fd : FuncData} (F : FunD K "_law_take" "_law_take" (defArgs (top 13)) (defBody (top 13)) (defScope (top 13)) [] [] f fd) (c_law_mixed : Cal P w K mg base 1 "_law_mixed" 2 g_law_mixed) :
    FnOk P w K mg base CX0 2 f fd P_law_take (spM K 2 g_law_take) :=
  fn_ok (k := 1) (N := N_law_take) (ps := P_law_take) (m := mb_law_take) [0, 1] F sc_law_take (rss_cons (rs_if (rt_cmp (fun _ => rLtA) (fun X h => op_ltA X h) ltD_ok.1 (rp_nm 1) (rp_ex (re_int)) (nomark _)) (rss_one (rs_ret (re_int))) (rss_nil)) (rss_cons (rs_sti 0 (re_op rAddA (fun X => op_addA X) addD_ok (rp_ex (re_ix rIx (fun X => ix_seq) ixD_ok (rp_nm 0) (rp_ex (re_int)))) (rp_ex (re_int))) (rp_ex (re_int))) (rss_cons (rs_if (rt_bool (rw_and (rt_cmp (fun _ => rEq) (fun X h => op_eqA X h) eqD_ok.1 (rp_ex (re_ix rIx (fun X => ix_seq) ixD_ok (rp_nm 0) (rp_ex (re_int)))) (rp_ex (re_int)) (nomark _)) (rw_and (rt_cmp (fun _ => rEq) (fun X h => op_eqA X h) eqD_ok.1 (rp_ex (re_ix rIx (fun X => ix_seq) ixD_ok (rp_nm 0) (rp_ex (re_int)))) (rp_ex (re_int)) (nomark _)) (rw_and1 (rt_cmp (fun _ => rLtA) (fun X h => op_ltA X h) ltD_ok.1 (rp_ex (re_ix rIx (fun X => ix_seq) ixD_ok (rp_nm 0) (rp_ex (re_int)))) (rp_ex (re_bi rLenA (fun X h => cb_len X h) lenD_ok fac.b_len (by decide +kernel) (ra_cons (rp_nm 0) (ra_nil)))) (nomark _)))))) (rss_cons (rs_set 2 (re_ix rIx (fun X => ix_seq) ixD_ok (rp_nm 0) (rp_ex (re_ix rIx (fun X => ix_seq) ixD_ok (rp_nm 0) (rp_ex (re_int)))))) (rss_cons (rs_sti 0 (re_op rAddA (fun X => op_addA X) addD_ok (rp_ex (re_ix rIx (fun X => ix_seq) ixD_ok (rp_nm 0) (rp_ex (re_int)))) (rp_ex (re_int))) (rp_ex (re_int))) (rss_cons (rs_sti 0 (re_call c_law_mixed (Nat.le_of_ble_eq_true rfl) (ra_cons (rp_ex (re_op rAddA (fun X => op_addA X) addD_ok (rp_ex (re_ix rIx (fun X => ix_seq) ixD_ok (rp_nm 0) (rp_ex (re_int)))) (rp_ex (re_op (fun _ => rI (fun _ j => 0 < j) fun i j => .int (i % j)) (fun X => op_modA X) modD_ok (rp_ex (re_ty (fun _ => rIntA) (fun X h => cb_int X h) intD_ok fac.b_int (by decide +kernel) (ra_cons (rp_nm 2) (ra_nil)))) (rp_ex (re_int)))))) (ra_cons (rp_ex (re_ix rIx (fun X => ix_seq) ixD_ok (rp_nm 0) (rp_ex (re_int)))) (ra_nil))) (.cons (.cons .nil))) (rp_ex (re_int))) (rss_one (rs_if (rt_cmp (fun _ => rI0 fun i j => .bl (decide (j ≤ i))) (fun X h => op_geA X h) geD_ok.1 (rp_nm 2) (rp_ex (re_op (fun _ => rI CPowW fun i j => .int (i ^ j.toNat)) (fun X => op_powA X) powD_ok (rp_ex (re_int)) (rp_ex (re_int)))) (nomark _)) (rss_one (rs_sti 0 (re_op (fun _ => rI (fun _ j => 0 < j) fun i j => .int (i % j)) (fun X => op_modA X) modD_ok (rp_ex (re_ty (fun _ => rIntA) (fun X h => cb_int X h) intD_ok fac.b_int (by decide +kernel) (ra_cons (rp_nm 2) (ra_nil)))) (rp_ex (re_op (fun _ => rI CPowW fun i j => .int (i ^ j.toNat)) (fun X => op_powA X) powD_ok (rp_ex (re_op (fun _ => rI CPowW fun i j => .int (i ^ j.toNat)) (fun X => op_powA X) powD_ok (rp_ex (re_int)) (rp_ex (re_int)))) (rp_ex (re_int))))) (rp_ex (re_int)))) (rss_one (rs_sti 0 (re_int) (rp_ex (re_int))))))))) (rss_nil)) (rss_cons (rs_if (rt_cmp (fun _ => rI0 fun i j => .bl (decide (j < i))) (fun X h => op_gtA X h) gtD_ok.1 (rp_ex (re_ix rIx (fun X => ix_seq) ixD_ok (rp_nm 0) (rp_ex (re_int)))) (rp_ex (re_int)) (nomark _)) (rss_cons (rs_set 3 (re_op (fun _ => rI (fun _ j => 0 < j) fun i j => .int (i % j)) (fun X => op_modA X) modD_ok (rp_ex (re_ty (fun _ => rIntA) (fun X h => cb_int X h) intD_ok fac.b_int (by decide +kernel) (ra_cons (rp_ex (re_ix rIx (fun X => ix_seq) ixD_ok (rp_nm 0) (rp_ex (re_int)))) (ra_nil)))) (rp_nm 1))) (rss_cons (rs_sti 0 (re_op (fun _ => rI CDivW fun i j => .int (i / j)) (fun X => op_fdivA X) fdivD_ok (rp_ex (re_ix rIx (fun X => ix_seq) ixD_ok (rp_nm 0) (rp_ex (re_int)))) (rp_nm 1)) (rp_ex (re_int))) (rss_one (rs_ret (re_mv 3))))) (rss_nil)) (rss_cons (rs_sti 0 (re_bi (fun _ => rMax2A) (fun X h => cb_max2 X h) max2D_ok fac.b_max (by decide +kernel) (ra_cons (rp_ex (re_int)) (ra_cons (rp_ex (re_op (fun _ => rI0 fun i j => .int (i - j)) (fun X => op_subA X) subD_ok (rp_ex (re_ix rIx (fun X => ix_seq) ixD_ok (rp_nm 0) (rp_ex (re_int)))) (rp_ex (re_int)))) (ra_nil)))) (rp_ex (re_int))) (rss_one (rs_ret (re_op (fun _ => rI (fun _ j => 0 < j) fun i j => .int (i % j)) (fun X => op_modA X) modD_ok (rp_ex (re_ty (fun _ => rIntA) (fun X h => cb_int X h) intD_ok fac.b_int (by decide +kernel) (ra_cons (rp_ex (re_call c_law_mixed (Nat.le_of_ble_eq_true rfl) (ra_cons (rp_ex (re_ix rIx (fun X => ix_seq) ixD_ok (rp_nm 0) (rp_ex (re_int)))) (ra_cons (rp_ex (re_ix rIx (fun X => ix_seq) ixD_ok (rp_nm 0) (rp_ex (re_int)))) (ra_nil))) (.cons (.cons .nil)))) (ra_nil)))) (rp_nm 1)))))))))
/-! _law_same -/
abbrev N_law_same : List Str := ["first", "second", "pile", "turn", "pair", "one", "two", "sort", "key", "k"]
abbrev P_law_same : List Str := ["first", "second"]
theorem sc_law_same : FnScope N_law_same P_law_same (defScope (top 26)) := ⟨rfl, rfl, rfl, by decide +kernel, rfl, by decide +kernel, by decide +kernel⟩
def mb_law_same : MS := s_seq (s_set 2 (m_lst (a_cons (m_it (m_tup (a_cons (m_it (m_var 0)) (a_cons (m_it (m_var 1)) (a_nil))))) (a_nil)))) (s_seq (s_for (i_rng1 (p_ex (m_c (.int 400000)))) (g_name 3) (s_seq (s_if (m_tst (m_op2 eqD (p_ex (m_bi lenD (a_cons (p_nm 2) (a_nil)))) (p_ex (m_c (.int 0))))) (s_ret (m_c (.bl true))) (s_nop)) (s_seq (s_set 4 (m_pop 2)) (s_seq (s_set 5 (m_op2 ixD (p_nm 4) (p_ex (m_c (.int 0))))) (s_seq (s_set 6 (m_op2 ixD (p_nm 4) (p_ex (m_c (.int 1))))) (s_seq (s_set 7 (m_call g_law_sort (a_cons (p_nm 5) (a_nil)))) (s_seq (s_if (m_or (m_tst (m_op2 eqD (p_nm 7) (p_ex (m_c (.int 7))))) (m_tst (m_op2 neD (p_nm 7) (p_ex (m_call g_law_sort (a_cons (p_nm 6) (a_nil))))))) (s_ret (m_c (.bl false))) (s_nop)) (s_if (m_tst (m_op2 ltD (p_nm 7) (p_ex (m_c (.int 4))))) (s_if (m_tst (m_op2 neD (p_nm 5) (p_nm 6))) (s_ret (m_c (.bl false))) (s_nop)) (s_if (m_tst (m_op2 neD (p_ex (m_bi lenD (a_cons (p_nm 5) (a_nil)))) (p_ex (m_bi lenD (a_cons (p_nm 6) (a_nil)))))) (s_ret (m_c (.bl false))) (s_if (m_tst (m_op2 eqD (p_nm 7) (p_ex (m_c (.int 6))))) (s_for (i_seq (m_bi listD (a_cons (p_nm 5) (a_nil)))) (g_name 8) (s_seq (s_if (m_or (m_not (m_tru (p_ex (m_bi isiD (a_cons (p_nm 8) (a_cons (p_ex (m_c (.ty "str"))) (a_nil))))))) (m_tst (m_op2 ninD (p_nm 8) (p_nm 6)))) (s_ret (m_c (.bl false))) (s_nop)) (s_drop (m_app 2 (m_tup (a_cons (m_it (m_op2 ixD (p_nm 5) (p_nm 8))) (a_cons (m_it (m_op2 ixD (p_nm 6) (p_nm 8))) (a_nil)))))))) (s_for (i_rng1 (p_ex (m_bi lenD (a_cons (p_nm 5) (a_nil))))) (g_name 9) (s_drop (m_app 2 (m_tup (a_cons (m_it (m_op2 ixD (p_nm 5) (p_nm 9))) (a_cons (m_it (m_op2 ixD (p_nm 6) (p_nm 9))) (a_nil))))))))))))))))) (s_ret (m_c (.bl false))))
def g_law_same : List O → Option (O × List O) := fnM 10 2 [0, 1] mb_law_same
theorem ok_law_same {P : Program} {w : World} {K : PySem.W.Frag} {mg : Str → Option Value} {base : Heap} (fac : Fac mg) {f : Addr} {fd : FuncData} (F : FunD K "_law_same" "_law_same" (defArgs (top 26)) (defBody (top 26)) (defScope (top 26)) [] [] f fd) (c_law_sort : Cal P w K mg base 1 "_law_sort" 1 g_law_sort) :
    FnOk P w K mg base CX0 2 f fd P_law_same (spM K 2 g_law_same) :=
  fn_ok (k := 1) (N := N_law_same) (ps := P_law_same) (m := mb_law_same) [0, 1] F sc_law_same (rss_cons (rs_set 2 (re_lst (ra_cons (rp_it (re_tup (ra_cons (rp_it (re_var 0)) (ra_cons (rp_it (re_var 1)) (ra_nil))))) (ra_nil)))) (rss_cons (rs_for (vs := [3]) (ri_rng1 fac.b_range (rp_ex (re_int))) (rg_name 3) (rss_cons (rs_if (rt_cmp (fun _ => rEq) (fun X h => op_eqA X h) eqD_ok.1 (rp_ex (re_bi rLenA (fun X h => cb_len X h) lenD_ok fac.b_len (by decide +kernel) (ra_cons (rp_nm 2) (ra_nil)))) (rp_ex (re_int)) (nomark _)) (rss_one (rs_ret (re_bl))) (rss_nil)) (rss_cons (rs_set 4 (re_pop 2)) (rss_cons (rs_set 5 (re_ix rIx (fun X => ix_seq) ixD_ok (rp_nm 4) (rp_ex (re_int)))) (rss_cons (rs_set 6 (re_ix rIx (fun X => ix_seq) ixD_ok (rp_nm 4) (rp_ex (re_int)))) (rss_cons (rs_set 7 (re_call c_law_sort (Nat.le_of_ble_eq_true rfl) (ra_cons (rp_nm 5) (ra_nil)) (.cons .nil))) (rss_cons (rs_if (rt_bool (rw_or (rt_cmp (fun _ => rEq) (fun X h => op_eqA X h) eqD_ok.1 (rp_nm 7) (rp_ex (re_int)) (nomark _)) (rw_or1 (rt_cmp (fun _ => rNe) (fun X h => op_neA X h) neD_ok.1 (rp_nm 7) (rp_ex (re_call c_law_sort (Nat.le_of_ble_eq_true rfl) (ra_cons (rp_nm 6) (ra_nil)) (.cons .nil))) (nomark _))))) (rss_one (rs_ret (re_bl))) (rss_nil)) (rss_one (rs_if (rt_cmp (fun _ => rLtA) (fun X h => op_ltA X h) ltD_ok.1 (rp_nm 7) (rp_ex (re_int)) (nomark _)) (rss_one (rs_if (rt_cmp (fun _ => rNe) (fun X h => op_neA X h) neD_ok.1 (rp_nm 5) (rp_nm 6) (nomark _)) (rss_one (rs_ret (re_bl))) (rss_nil))) (rss_one (rs_if (rt_cmp (fun _ => rNe) (fun X h => op_neA X h) neD_ok.1 (rp_ex (re_bi rLenA (fun X h => cb_len X h) lenD_ok fac.b_len (by decide +kernel) (ra_cons (rp_nm 5) (ra_nil)))) (rp_ex (re_bi rLenA (fun X h => cb_len X h) lenD_ok fac.b_len (by decide +kernel) (ra_cons (rp_nm 6) (ra_nil)))) (nomark _)) (rss_one (rs_ret (re_bl))) (rss_one (rs_if (rt_cmp (fun _ => rEq) (fun X h => op_eqA X h) eqD_ok.1 (rp_nm 7) (rp_ex (re_int)) (nomark _)) (rss_one (rs_for (vs := [8]) (ri_seq (re_ty rListA (fun X h => cb_list X h) listD_ok fac.b_list (by decide +kernel) (ra_cons (rp_nm 5) (ra_nil)))) (rg_name 8) (rss_cons (rs_if (rt_bool (rw_or (rt_not (rt_tru (rp_ex (re_bi rIsi (fun X h => cb_isi X h) isiD_ok fac.b_isinstance (by decide +kernel) (ra_cons (rp_nm 8) (ra_cons (rp_ex (re_tyc fac.b_str (by decide +kernel))) (ra_nil))))))) (rw_or1 (rt_cmp rNinA (fun X h => op_ninA X h) ninD_ok (rp_nm 8) (rp_nm 6) rfl)))) (rss_one (rs_ret (re_bl))) (rss_nil)) (rss_one (rs_expr (re_app 2 (re_tup (ra_cons (rp_it (re_ix rIx (fun X => ix_seq) ixD_ok (rp_nm 5) (rp_nm 8))) (ra_cons (rp_it (re_ix rIx (fun X => ix_seq) ixD_ok (rp_nm 6) (rp_nm 8))) (ra_nil)))))))))) (rss_one (rs_for (vs := [9]) (ri_rng1 fac.b_range (rp_ex (re_bi rLenA (fun X h => cb_len X h) lenD_ok fac.b_len (by decide +kernel) (ra_cons (rp_nm 5) (ra_nil))))) (rg_name 9) (rss_one (rs_expr (re_app 2 (re_tup (ra_cons (rp_it (re_ix rIx (fun X => ix_seq) ixD_ok (rp_nm 5) (rp_nm 9))) (ra_cons (rp_it (re_ix rIx (fun X => ix_seq) ixD_ok (rp_nm 6) (rp_nm 9))) (ra_nil)))))))))))))))))))))) (rss_one (rs_ret (re_bl)))))
/-! _law_isword -/
abbrev N_law_isword : List Str := ["value"]
abbrev P_law_isword : List Str := ["value"]
theorem sc_law_isword : FnScope N_law_isword P_law_isword (defScope (top 28)) := ⟨rfl, rfl, rfl, by decide +kernel, rfl, by decide +kernel, by decide +kernel⟩
def mb_law_isword : MS := s_seq (s_if (m_or (m_not (m_tru (p_ex (m_bi isiD (a_cons (p_nm 0) (a_cons (p_ex (m_c (.ty "str"))) (a_nil))))))) (m_tst (m_op2 gtD (p_ex (m_bi lenD (a_cons (p_nm 0) (a_nil)))) (p_ex (m_c (.int 8)))))) (s_ret (m_c (.bl false))) (s_nop)) (s_ret (m_call g_law_allin (a_cons (p_nm 0) (a_cons (p_ex (m_c (.str (Str.ofString "abcdefghijklmnopqrstuvwxyz0123456789")))) (a_nil)))))
def g_law_isword : List O → Option (O × List O) := fnM 1 1 [0] mb_law_isword
theorem ok_law_isword {P : Program} {w : World} {K : PySem.W.Frag} {mg : Str → Option Value} {base : Heap} (fac : Fac mg) {f : Addr} {fd : FuncData} (F : FunD K "_law_isword" "_law_isword" (defArgs (top 28)) (defBody (top 28)) (defScope (top 28)) [] [] f fd) (c_law_allin : Cal P w K mg base 1 "_law_allin" 2 g_law_allin) :
    FnOk P w K mg base CX0 2 f fd P_law_isword (spM K 1 g_law_isword) :=
  fn_ok (k := 1) (N := N_law_isword) (ps := P_law_isword) (m := mb_law_isword) [0] F sc_law_isword (rss_cons (rs_if (rt_bool (rw_or (rt_not (rt_tru (rp_ex (re_bi rIsi (fun X h => cb_isi X h) isiD_ok fac.b_isinstance (by decide +kernel) (ra_cons (rp_nm 0) (ra_cons (rp_ex (re_tyc fac.b_str (by decide +kernel))) (ra_nil))))))) (rw_or1 (rt_cmp (fun _ => rI0 fun i j => .bl (decide (j < i))) (fun X h => op_gtA X h) gtD_ok.1 (rp_ex (re_bi rLenA (fun X h => cb_len X h) lenD_ok fac.b_len (by decide +kernel) (ra_cons (rp_nm 0) (ra_nil)))) (rp_ex (re_int)) (nomark _))))) (rss_one (rs_ret (re_bl))) (rss_nil)) (rss_one (rs_ret (re_call c_law_allin (Nat.le_of_ble_eq_true rfl) (ra_cons (rp_nm 0) (ra_cons (rp_ex (re_str)) (ra_nil))) (.cons (.cons .nil))))))
/-! _law_iscapital -/
abbrev N_law_iscapital : List Str := ["value"]
abbrev P_law_iscapital : List Str := ["value"]
theorem sc_law_iscapital : FnScope N_law_iscapital P_law_iscapital (defScope (top 31)) := ⟨rfl, rfl, rfl, by decide +kernel, rfl, by decide +kernel, by decide +kernel⟩
def mb_law_iscapital : MS := s_ret (m_andV (m_bi isiD (a_cons (p_nm 0) (a_cons (p_ex (m_c (.ty "str"))) (a_nil)))) (m_andV (m_op2 ltD (p_ex (m_bi lenD (a_cons (p_nm 0) (a_nil)))) (p_ex (m_c (.int 5)))) (m_call g_law_allin (a_cons (p_nm 0) (a_cons (p_ex (m_c (.str (Str.ofString "ABCDEFGHIJKLMNOPQRSTUVWXYZ")))) (a_nil))))))
def g_law_iscapital : List O → Option (O × List O) := fnM 1 1 [0] mb_law_iscapital
theorem ok_law_iscapital {P : Program} {w : World} {K : PySem.W.Frag} {mg : Str → Option Value} {base : Heap} (fac : Fac mg) {f : Addr} {fd : FuncData} (F : FunD K "_law_iscapital" "_law_iscapital" (defArgs (top 31)) (defBody (top 31)) (defScope (top 31)) [] [] f fd) (c_law_allin : Cal P w K mg base 1 "_law_allin" 2 g_law_allin) :
    FnOk P w K mg base CX0 2 f fd P_law_iscapital (spM K 1 g_law_iscapital) :=
  fn_ok (k := 1) (N := N_law_iscapital) (ps := P_law_iscapital) (m := mb_law_iscapital) [0] F sc_law_iscapital (rss_one (rs_ret (re_and (re_bi rIsi (fun X h => cb_isi X h) isiD_ok fac.b_isinstance (by decide +kernel) (ra_cons (rp_nm 0) (ra_cons (rp_ex (re_tyc fac.b_str (by decide +kernel))) (ra_nil)))) (re_and (re_cmp (fun _ => rLtA) (fun X h => op_ltA X h) ltD_ok.1 (rp_ex (re_bi rLenA (fun X h => cb_len X h) lenD_ok fac.b_len (by decide +kernel) (ra_cons (rp_nm 0) (ra_nil)))) (rp_ex (re_int)) (nomark _)) (re_one (re_call c_law_allin (Nat.le_of_ble_eq_true rfl) (ra_cons (rp_nm 0) (ra_cons (rp_ex (re_str)) (ra_nil))) (.cons (.cons .nil))))))))
/-! is_macro_name -/
abbrev N_is_macro_name : List Str := ["value"]
abbrev P_is_macro_name : List Str := ["value"]
theorem sc_is_macro_name : FnScope N_is_macro_name P_is_macro_name (defScope (top 7)) := ⟨rfl, rfl, rfl, by decide +kernel, rfl, by decide +kernel, by decide +kernel⟩
def mb_is_macro_name : MS := s_ret (m_andV (m_call g_is_atom_word (a_cons (p_nm 0) (a_nil))) (m_op2 inD (p_ex (m_op2 ixD (p_nm 0) (p_ex (m_c (.int 0))))) (p_ex (m_c (.str (Str.ofString "abcdefghijklmnopqrstuvwxyz"))))))
def g_is_macro_name : List O → Option (O × List O) := fnM 1 1 [0] mb_is_macro_name
theorem ok_is_macro_name {P : Program} {w : World} {K : PySem.W.Frag} {mg : Str → Option Value} {base : Heap} (fac : Fac mg) {f : Addr} {fd : FuncData} (F : FunD K "is_macro_name" "is_macro_name" (defArgs (top 7)) (defBody (top 7)) (defScope (top 7)) [] [] f fd) (c_is_atom_word : Cal P w K mg base 2 "is_atom_word" 1 g_is_atom_word) :
    FnOk P w K mg base CX0 3 f fd P_is_macro_name (spM K 1 g_is_macro_name) :=
  fn_ok (k := 2) (N := N_is_macro_name) (ps := P_is_macro_name) (m := mb_is_macro_name) [0] F sc_is_macro_name (rss_one (rs_ret (re_and (re_call c_is_atom_word (Nat.le_of_ble_eq_true rfl) (ra_cons (rp_nm 0) (ra_nil)) (.cons .nil)) (re_one (re_cmp rInA (fun X h => op_inA X h) inD_ok (rp_ex (re_ix rIx (fun X => ix_seq) ixD_ok (rp_nm 0) (rp_ex (re_int)))) (rp_ex (re_gstrE fac.s_SMALL_LETTERS)) rfl)))))
/-! _law_edge -/
abbrev N_law_edge : List Str := ["store", "low", "high", "sort"]
abbrev P_law_edge : List Str := ["store", "low", "high"]
theorem sc_law_edge : FnScope N_law_edge P_law_edge (defScope (top 14)) := ⟨rfl, rfl, rfl, by decide +kernel, rfl, by decide +kernel, by decide +kernel⟩
def mb_law_edge : MS := s_seq (s_if (m_tst (m_op2 leD (p_nm 2) (p_nm 1))) (s_ret (m_mv 1)) (s_nop)) (s_seq (s_set 3 (m_call g_law_take (a_cons (p_nm 0) (a_cons (p_ex (m_c (.int 12))) (a_nil))))) (s_seq (s_if (m_tst (m_op2 ltD (p_nm 3) (p_ex (m_c (.int 4))))) (s_ret (m_op2 ixD (p_ex (m_tup (a_cons (m_it (m_var 1)) (a_cons (m_it (m_op2 addD (p_nm 1) (p_ex (m_c (.int 1))))) (a_cons (m_it (m_op2 subD (p_nm 2) (p_ex (m_c (.int 1))))) (a_cons (m_it (m_var 2)) (a_nil))))))) (p_nm 3))) (s_nop)) (s_ret (m_op2 addD (p_nm 1) (p_ex (m_call g_law_take (a_cons (p_nm 0) (a_cons (p_ex (m_op2 addD (p_ex (m_op2 subD (p_nm 2) (p_nm 1))) (p_ex (m_c (.int 1))))) (a_nil)))))))))
def g_law_edge : List O → Option (O × List O) := fnM 4 3 [0, 1, 2] mb_law_edge
theorem ok_law_edge {P : Program} {w : World} {K : PySem.W.Frag} {mg : Str → Option Value} {base : Heap} (fac : Fac mg) {f : Addr} {fd : FuncData} (F : FunD K "_law_edge" "_law_edge" (defArgs (top 14)) (defBody (top 14)) (defScope (top 14)) [] [] f fd) (c_law_take : Cal P w K mg base 2 "_law_take" 2 g_law_take) :
    FnOk P w K mg base CX0 3 f fd P_law_edge (spM K 3 g_law_edge) :=
  fn_ok (k := 2) (N := N_law_edge) (ps := P_law_edge) (m := mb_law_edge) [0, 1, 2] F sc_law_edge (rss_cons (rs_if (rt_cmp (fun _ => rI0 fun i j => .bl (decide (i ≤ j))) (fun X h => op_leA X h) leD_ok.1 (rp_nm 2) (rp_nm 1) (nomark _)) (rss_one (rs_ret (re_mv 1))) (rss_nil)) (rss_cons (rs_set 3 (re_call c_law_take (Nat.le_of_ble_eq_true rfl) (ra_cons (rp_nm 0) (ra_cons (rp_ex (re_int)) (ra_nil))) (.cons (.cons .nil)))) (rss_cons (rs_if (rt_cmp (fun _ => rLtA) (fun X h => op_ltA X h) ltD_ok.1 (rp_nm 3) (rp_ex (re_int)) (nomark _)) (rss_one (rs_ret (re_ix rIx (fun X => ix_seq) ixD_ok (rp_ex (re_tup (ra_cons (rp_it (re_var 1)) (ra_cons (rp_it (re_op rAddA (fun X => op_addA X) addD_ok (rp_nm 1) (rp_ex (re_int)))) (ra_cons (rp_it (re_op (fun _ => rI0 fun i j => .int (i - j)) (fun X => op_subA X) subD_ok (rp_nm 2) (rp_ex (re_int)))) (ra_cons (rp_it (re_var 2)) (ra_nil))))))) (rp_nm 3)))) (rss_nil)) (rss_one (rs_ret (re_op rAddA (fun X => op_addA X) addD_ok (rp_nm 1) (rp_ex (re_call c_law_take (Nat.le_of_ble_eq_true rfl) (ra_cons (rp_nm 0) (ra_cons (rp_ex (re_op rAddA (fun X => op_addA X) addD_ok (rp_ex (re_op (fun _ => rI0 fun i j => .int (i - j)) (fun X => op_subA X) subD_ok (rp_nm 2) (rp_nm 1))) (rp_ex (re_int)))) (ra_nil))) (.cons (.cons .nil))))))))))
/-! _law_pick -/
abbrev N_law_pick : List Str := ["store", "row"]
abbrev P_law_pick : List Str := ["store", "row"]
theorem sc_law_pick : FnScope N_law_pick P_law_pick (defScope (top 15)) := ⟨rfl, rfl, rfl, by decide +kernel, rfl, by decide +kernel, by decide +kernel⟩
def mb_law_pick : MS := s_ret (m_op2 ixD (p_nm 1) (p_ex (m_call g_law_take (a_cons (p_nm 0) (a_cons (p_ex (m_bi lenD (a_cons (p_nm 1) (a_nil)))) (a_nil))))))
def g_law_pick : List O → Option (O × List O) := fnM 2 2 [0, 1] mb_law_pick
theorem ok_law_pick {P : Program} {w : World} {K : PySem.W.Frag} {mg : Str → Option Value} {base : Heap} (fac : Fac mg) {f : Addr} {fd : FuncData} (F : FunD K "_law_pick" "_law_pick" (defArgs (top 15)) (defBody (top 15)) (defScope (top 15)) [] [] f fd) (c_law_take : Cal P w K mg base 2 "_law_take" 2 g_law_take) :
    FnOk P w K mg base CX0 3 f fd P_law_pick (spM K 2 g_law_pick) :=
  fn_ok (k := 2) (N := N_law_pick) (ps := P_law_pick) (m := mb_law_pick) [0, 1] F sc_law_pick (rss_one (rs_ret (re_ix rIx (fun X => ix_seq) ixD_ok (rp_nm 1) (rp_ex (re_call c_law_take (Nat.le_of_ble_eq_true rfl) (ra_cons (rp_nm 0) (ra_cons (rp_ex (re_bi rLenA (fun X h => cb_len X h) lenD_ok fac.b_len (by decide +kernel) (ra_cons (rp_nm 1) (ra_nil)))) (ra_nil))) (.cons (.cons .nil)))))))
/-! _law_wide -/
abbrev N_law_wide : List Str := ["store", "sort"]
abbrev P_law_wide : List Str := ["store"]
theorem sc_law_wide : FnScope N_law_wide P_law_wide (defScope (top 16)) := ⟨rfl, rfl, rfl, by decide +kernel, rfl, by decide +kernel, by decide +kernel⟩
def mb_law_wide : MS := s_seq (s_set 1 (m_call g_law_take (a_cons (p_nm 0) (a_cons (p_ex (m_c (.int 12))) (a_nil))))) (s_seq (s_if (m_tst (m_op2 ltD (p_nm 1) (p_ex (m_c (.int 8))))) (s_ret (m_op2 ixD (p_ex (m_tup (a_cons (m_it (m_c (.int 0))) (a_cons (m_it (m_c (.int 1))) (a_cons (m_it (m_op1 negD (p_ex (m_c (.int 1))))) (a_cons (m_it (m_c (.int 9))) (a_cons (m_it (m_c (.int 10))) (a_cons (m_it (m_c (.int 1000000))) (a_cons (m_it (m_c (.int 999999999999))) (a_cons (m_it (m_op1 negD (p_ex (m_c (.int 999999999999))))) (a_nil))))))))))) (p_nm 1))) (s_nop)) (s_seq (s_if (m_tst (m_op2 ltD (p_nm 1) (p_ex (m_c (.int 10))))) (s_ret (m_op2 subD (p_ex (m_call g_law_take (a_cons (p_nm 0) (a_cons (p_ex (m_c (.int 200))) (a_nil))))) (p_ex (m_c (.int 100))))) (s_nop)) (s_ret (m_op2 subD (p_ex (m_call g_law_take (a_cons (p_nm 0) (a_cons (p_ex (m_c (.int 1999999999999))) (a_nil))))) (p_ex (m_c (.int 999999999999)))))))
def g_law_wide : List O → Option (O × List O) := fnM 2 1 [0] mb_law_wide
theorem ok_law_wide {P : Program} {w : World} {K : PySem.W.Frag} {mg : Str → Option Value} {base : Heap} (fac : Fac mg) {f : Addr} {fd : FuncData} (F : FunD K "_law_wide" "_law_wide" (defArgs (top 16)) (defBody (top 16)) (defScope (top 16)) [] [] f fd) (c_law_take : Cal P w K mg base 2 "_law_take" 2 g_law_take) :
    FnOk P w K mg base CX0 3 f fd P_law_wide (spM K 1 g_law_wide) :=
  fn_ok (k := 2) (N := N_law_wide) (ps := P_law_wide) (m := mb_law_wide) [0] F sc_law_wide (rss_cons (rs_set 1 (re_call c_law_take (Nat.le_of_ble_eq_true rfl) (ra_cons (rp_nm 0) (ra_cons (rp_ex (re_int)) (ra_nil))) (.cons (.cons .nil)))) (rss_cons (rs_if (rt_cmp (fun _ => rLtA) (fun X h => op_ltA X h) ltD_ok.1 (rp_nm 1) (rp_ex (re_int)) (nomark _)) (rss_one (rs_ret (re_ix rIx (fun X => ix_seq) ixD_ok (rp_ex (re_tup (ra_cons (rp_it (re_int)) (ra_cons (rp_it (re_int)) (ra_cons (rp_it (re_un (fun _ => rU fun i => .int (-i)) (fun X => un_neg) negD_ok (rp_ex (re_int)))) (ra_cons (rp_it (re_int)) (ra_cons (rp_it (re_int)) (ra_cons (rp_it (re_int)) (ra_cons (rp_it (re_int)) (ra_cons (rp_it (re_un (fun _ => rU fun i => .int (-i)) (fun X => un_neg) negD_ok (rp_ex (re_int)))) (ra_nil))))))))))) (rp_nm 1)))) (rss_nil)) (rss_cons (rs_if (rt_cmp (fun _ => rLtA) (fun X h => op_ltA X h) ltD_ok.1 (rp_nm 1) (rp_ex (re_int)) (nomark _)) (rss_one (rs_ret (re_op (fun _ => rI0 fun i j => .int (i - j)) (fun X => op_subA X) subD_ok (rp_ex (re_call c_law_take (Nat.le_of_ble_eq_true rfl) (ra_cons (rp_nm 0) (ra_cons (rp_ex (re_int)) (ra_nil))) (.cons (.cons .nil)))) (rp_ex (re_int))))) (rss_nil)) (rss_one (rs_ret (re_op (fun _ => rI0 fun i j => .int (i - j)) (fun X => op_subA X) subD_ok (rp_ex (re_call c_law_take (Nat.le_of_ble_eq_true rfl) (ra_cons (rp_nm 0) (ra_cons (rp_ex (re_int)) (ra_nil))) (.cons (.cons .nil)))) (rp_ex (re_int))))))))
/-! _law_marks -/
abbrev N_law_marks : List Str := ["store", "used", "marks", "first", "k", "at", "found"]
abbrev P_law_marks : List Str := ["store", "used"]
theorem sc_law_marks : FnScope N_law_marks P_law_marks (defScope (top 21)) := ⟨rfl, rfl, rfl, by decide +kernel, rfl, by decide +kernel, by decide +kernel⟩
def mb_law_marks : MS := s_seq (s_set 2 (m_c (.str (Str.ofString "+-*/<>=!?&|^~:.@$")))) (s_seq (s_set 3 (m_call g_law_take (a_cons (p_nm 0) (a_cons (p_ex (m_c (.int 17))) (a_nil))))) (s_seq (s_if (m_tst (m_op2 eqD (p_ex (m_call g_law_take (a_cons (p_nm 0) (a_cons (p_ex (m_c (.int 3))) (a_nil))))) (p_ex (m_c (.int 0))))) (s_set 3 (m_op2 addD (p_ex (m_c (.int 17))) (p_ex (m_call g_law_take (a_cons (p_nm 0) (a_cons (p_ex (m_c (.int 289))) (a_nil))))))) (s_nop)) (s_seq (s_for (i_rng1 (p_ex (m_op2 addD (p_ex (m_bi lenD (a_cons (p_nm 1) (a_nil)))) (p_ex (m_c (.int 1)))))) (g_name 4) (s_seq (s_set 5 (m_op2 modD (p_ex (m_bi intD (a_cons (p_ex (m_op2 addD (p_nm 3) (p_nm 4))) (a_nil)))) (p_ex (m_c (.int 306))))) (s_seq (s_set 6 (m_if (m_tst (m_op2 ltD (p_nm 5) (p_ex (m_c (.int 17))))) (m_op2 ixD (p_nm 2) (p_nm 5)) (m_op2 addD (p_ex (m_op2 ixD (p_nm 2) (p_ex (m_op2 fdivD (p_ex (m_op2 subD (p_nm 5) (p_ex (m_c (.int 17))))) (p_ex (m_c (.int 17))))))) (p_ex (m_op2 ixD (p_nm 2) (p_ex (m_op2 modD (p_ex (m_bi intD (a_cons (p_ex (m_op2 subD (p_nm 5) (p_ex (m_c (.int 17))))) (a_nil)))) (p_ex (m_c (.int 17)))))))))) (s_if (m_tst (m_op2 ninD (p_nm 6) (p_nm 1))) (s_ret (m_mv 6)) (s_nop))))) (s_ret (m_op2 ixD (p_nm 2) (p_nm 3))))))
def g_law_marks : List O → Option (O × List O) := fnM 7 2 [0, 1] mb_law_marks
theorem ok_law_marks {P : Program} {w : World} {K : PySem.W.Frag} {mg : Str → Option Value} {base : Heap} (fac : Fac mg) {f : Addr} {fd : FuncData} (F : FunD K "_law_marks" "_law_marks" (defArgs (top 21)) (defBody (top 21)) (defScope (top 21)) [] [] f fd) (c_law_take : Cal P w K mg base 2 "_law_take" 2 g_law_take) :
    FnOk P w K mg base CX0 3 f fd P_law_marks (spM K 2 g_law_marks) :=
  fn_ok (k := 2) (N := N_law_marks) (ps := P_law_marks) (m := mb_law_marks) [0, 1] F sc_law_marks (rss_cons (rs_set 2 (re_str)) (rss_cons (rs_set 3 (re_call c_law_take (Nat.le_of_ble_eq_true rfl) (ra_cons (rp_nm 0) (ra_cons (rp_ex (re_int)) (ra_nil))) (.cons (.cons .nil)))) (rss_cons (rs_if (rt_cmp (fun _ => rEq) (fun X h => op_eqA X h) eqD_ok.1 (rp_ex (re_call c_law_take (Nat.le_of_ble_eq_true rfl) (ra_cons (rp_nm 0) (ra_cons (rp_ex (re_int)) (ra_nil))) (.cons (.cons .nil)))) (rp_ex (re_int)) (nomark _)) (rss_one (rs_set 3 (re_op rAddA (fun X => op_addA X) addD_ok (rp_ex (re_int)) (rp_ex (re_call c_law_take (Nat.le_of_ble_eq_true rfl) (ra_cons (rp_nm 0) (ra_cons (rp_ex (re_int)) (ra_nil))) (.cons (.cons .nil))))))) (rss_nil)) (rss_cons (rs_for (vs := [4]) (ri_rng1 fac.b_range (rp_ex (re_op rAddA (fun X => op_addA X) addD_ok (rp_ex (re_bi rLenA (fun X h => cb_len X h) lenD_ok fac.b_len (by decide +kernel) (ra_cons (rp_nm 1) (ra_nil)))) (rp_ex (re_int))))) (rg_name 4) (rss_cons (rs_set 5 (re_op (fun _ => rI (fun _ j => 0 < j) fun i j => .int (i % j)) (fun X => op_modA X) modD_ok (rp_ex (re_ty (fun _ => rIntA) (fun X h => cb_int X h) intD_ok fac.b_int (by decide +kernel) (ra_cons (rp_ex (re_op rAddA (fun X => op_addA X) addD_ok (rp_nm 3) (rp_nm 4))) (ra_nil)))) (rp_ex (re_int)))) (rss_cons (rs_set 6 (re_if (rt_cmp (fun _ => rLtA) (fun X h => op_ltA X h) ltD_ok.1 (rp_nm 5) (rp_ex (re_int)) (nomark _)) (re_ix rIx (fun X => ix_seq) ixD_ok (rp_nm 2) (rp_nm 5)) (re_op rAddA (fun X => op_addA X) addD_ok (rp_ex (re_ix rIx (fun X => ix_seq) ixD_ok (rp_nm 2) (rp_ex (re_op (fun _ => rI CDivW fun i j => .int (i / j)) (fun X => op_fdivA X) fdivD_ok (rp_ex (re_op (fun _ => rI0 fun i j => .int (i - j)) (fun X => op_subA X) subD_ok (rp_nm 5) (rp_ex (re_int)))) (rp_ex (re_int)))))) (rp_ex (re_ix rIx (fun X => ix_seq) ixD_ok (rp_nm 2) (rp_ex (re_op (fun _ => rI (fun _ j => 0 < j) fun i j => .int (i % j)) (fun X => op_modA X) modD_ok (rp_ex (re_ty (fun _ => rIntA) (fun X h => cb_int X h) intD_ok fac.b_int (by decide +kernel) (ra_cons (rp_ex (re_op (fun _ => rI0 fun i j => .int (i - j)) (fun X => op_subA X) subD_ok (rp_nm 5) (rp_ex (re_int)))) (ra_nil)))) (rp_ex (re_int))))))))) (rss_one (rs_if (rt_cmp rNinA (fun X h => op_ninA X h) ninD_ok (rp_nm 6) (rp_nm 1) rfl) (rss_one (rs_ret (re_mv 6))) (rss_nil)))))) (rss_one (rs_ret (re_ix rIx (fun X => ix_seq) ixD_ok (rp_nm 2) (rp_nm 3))))))))
/-! _law_isname -/
abbrev N_law_isname : List Str := ["value"]
abbrev P_law_isname : List Str := ["value"]
theorem sc_law_isname : FnScope N_law_isname P_law_isname (defScope (top 29)) := ⟨rfl, rfl, rfl, by decide +kernel, rfl, by decide +kernel, by decide +kernel⟩
def mb_law_isname : MS := s_ret (m_andV (m_call g_law_isword (a_cons (p_nm 0) (a_nil))) (m_op2 ninD (p_ex (m_op2 ixD (p_nm 0) (p_ex (m_c (.int 0))))) (p_ex (m_c (.str (Str.ofString "0123456789"))))))
def g_law_isname : List O → Option (O × List O) := fnM 1 1 [0] mb_law_isname
theorem ok_law_isname {P : Program} {w : World} {K : PySem.W.Frag} {mg : Str → Option Value} {base : Heap} (fac : Fac mg) {f : Addr} {fd : FuncData} (F : FunD K "_law_isname" "_law_isname" (defArgs (top 29)) (defBody (top 29)) (defScope (top 29)) [] [] f fd) (c_law_isword : Cal P w K mg base 2 "_law_isword" 1 g_law_isword) :
    FnOk P w K mg base CX0 3 f fd P_law_isname (spM K 1 g_law_isname) :=
  fn_ok (k := 2) (N := N_law_isname) (ps := P_law_isname) (m := mb_law_isname) [0] F sc_law_isname (rss_one (rs_ret (re_and (re_call c_law_isword (Nat.le_of_ble_eq_true rfl) (ra_cons (rp_nm 0) (ra_nil)) (.cons .nil)) (re_one (re_cmp rNinA (fun X h => op_ninA X h) ninD_ok (rp_ex (re_ix rIx (fun X => ix_seq) ixD_ok (rp_nm 0) (rp_ex (re_int)))) (rp_ex (re_str)) rfl)))))
/-! is_operator_name -/
abbrev N_is_operator_name : List Str := ["value"]
abbrev P_is_operator_name : List Str := ["value"]
theorem sc_is_operator_name : FnScope N_is_operator_name P_is_operator_name (defScope (top 8)) := ⟨rfl, rfl, rfl, by decide +kernel, rfl, by decide +kernel, by decide +kernel⟩
def mb_is_operator_name : MS := s_seq (s_if (m_tru (p_ex (m_call g_is_macro_name (a_cons (p_nm 0) (a_nil))))) (s_ret (m_c (.bl true))) (s_nop)) (s_ret (m_andV (m_bi isiD (a_cons (p_nm 0) (a_cons (p_ex (m_c (.ty "str"))) (a_nil)))) (m_call g_made_of (a_cons (p_nm 0) (a_cons (p_ex (m_c (.str (Str.ofString "+-*/<>=!?&|^~:.@$")))) (a_cons (p_ex (m_c (.int 2))) (a_nil)))))))
def g_is_operator_name : List O → Option (O × List O) := fnM 1 1 [0] mb_is_operator_name
theorem ok_is_operator_name {P : Program} {w : World} {K : PySem.W.Frag} {mg : Str → Option Value} {base : Heap} (fac : Fac mg) {f : Addr} {fd : FuncData} (F : FunD K "is_operator_name" "is_operator_name" (defArgs (top 8)) (defBody (top 8)) (defScope (top 8)) [] [] f fd) (c_made_of : Cal P w K mg base 1 "made_of" 3 g_made_of) (c_is_macro_name : Cal P w K mg base 3 "is_macro_name" 1 g_is_macro_name) :
    FnOk P w K mg base CX0 4 f fd P_is_operator_name (spM K 1 g_is_operator_name) :=
  fn_ok (k := 3) (N := N_is_operator_name) (ps := P_is_operator_name) (m := mb_is_operator_name) [0] F sc_is_operator_name (rss_cons (rs_if (rt_tru (rp_ex (re_call c_is_macro_name (Nat.le_of_ble_eq_true rfl) (ra_cons (rp_nm 0) (ra_nil)) (.cons .nil)))) (rss_one (rs_ret (re_bl))) (rss_nil)) (rss_one (rs_ret (re_and (re_bi rIsi (fun X h => cb_isi X h) isiD_ok fac.b_isinstance (by decide +kernel) (ra_cons (rp_nm 0) (ra_cons (rp_ex (re_tyc fac.b_str (by decide +kernel))) (ra_nil)))) (re_one (re_call c_made_of (Nat.le_of_ble_eq_true rfl) (ra_cons (rp_nm 0) (ra_cons (rp_ex (re_gstrE fac.s_MARKS)) (ra_cons (rp_ex (re_int)) (ra_nil)))) (.cons (.cons (.cons .nil)))))))))
/-! _law_text -/
abbrev N_law_text : List Str := ["store", "limit", "signs", "out", "k"]
abbrev P_law_text : List Str := ["store", "limit"]
theorem sc_law_text : FnScope N_law_text P_law_text (defScope (top 18)) := ⟨rfl, rfl, rfl, by decide +kernel, rfl, by decide +kernel, by decide +kernel⟩
def mb_law_text : MS := s_seq (s_set 2 (m_call g_law_signs a_nil)) (s_seq (s_set 3 (m_lst (a_nil))) (s_seq (s_for (i_rng1 (p_ex (m_call g_law_edge (a_cons (p_nm 0) (a_cons (p_ex (m_c (.int 0))) (a_cons (p_nm 1) (a_nil))))))) (g_name 4) (s_if (m_tst (m_op2 ltD (p_nm 4) (p_ex (m_c (.int 40))))) (s_drop (m_app 3 (m_call g_law_pick (a_cons (p_nm 0) (a_cons (p_nm 2) (a_nil)))))) (s_drop (m_app 3 (m_op2 ixD (p_nm 3) (p_ex (m_op2 modD (p_ex (m_bi intD (a_cons (p_ex (m_op2 mulD (p_nm 4) (p_ex (m_c (.int 7))))) (a_nil)))) (p_ex (m_c (.int 37)))))))))) (s_ret (m_m1 joinD (p_ex (m_c (.str (Str.ofString "")))) (p_nm 3)))))
def g_law_text : List O → Option (O × List O) := fnM 5 2 [0, 1] mb_law_text
theorem ok_law_text {P : Program} {w : World} {K : PySem.W.Frag} {mg : Str → Option Value} {base : Heap} (fac : Fac mg) {f : Addr} {fd : FuncData} (F : FunD K "_law_text" "_law_text" (defArgs (top 18)) (defBody (top 18)) (defScope (top 18)) [] [] f fd) (c_law_edge : Cal P w K mg base 3 "_law_edge" 3 g_law_edge) (c_law_pick : Cal P w K mg base 3 "_law_pick" 2 g_law_pick) (c_law_signs : Cal P w K mg base 1 "_law_signs" 0 g_law_signs) :
    FnOk P w K mg base CX0 4 f fd P_law_text (spM K 2 g_law_text) :=
  fn_ok (k := 3) (N := N_law_text) (ps := P_law_text) (m := mb_law_text) [0, 1] F sc_law_text (rss_cons (rs_set 2 (re_call0 c_law_signs (Nat.le_of_ble_eq_true rfl))) (rss_cons (rs_set 3 (re_lst (ra_nil))) (rss_cons (rs_for (vs := [4]) (ri_rng1 fac.b_range (rp_ex (re_call c_law_edge (Nat.le_of_ble_eq_true rfl) (ra_cons (rp_nm 0) (ra_cons (rp_ex (re_int)) (ra_cons (rp_nm 1) (ra_nil)))) (.cons (.cons (.cons .nil)))))) (rg_name 4) (rss_one (rs_if (rt_cmp (fun _ => rLtA) (fun X h => op_ltA X h) ltD_ok.1 (rp_nm 4) (rp_ex (re_int)) (nomark _)) (rss_one (rs_expr (re_app 3 (re_call c_law_pick (Nat.le_of_ble_eq_true rfl) (ra_cons (rp_nm 0) (ra_cons (rp_nm 2) (ra_nil))) (.cons (.cons .nil)))))) (rss_one (rs_expr (re_app 3 (re_ix rIx (fun X => ix_seq) ixD_ok (rp_nm 3) (rp_ex (re_op (fun _ => rI (fun _ j => 0 < j) fun i j => .int (i % j)) (fun X => op_modA X) modD_ok (rp_ex (re_ty (fun _ => rIntA) (fun X h => cb_int X h) intD_ok fac.b_int (by decide +kernel) (ra_cons (rp_ex (re_op (fun _ => rMulA) (fun X => op_mulA X) mulD_ok (rp_nm 4) (rp_ex (re_int)))) (ra_nil)))) (rp_ex (re_int))))))))))) (rss_one (rs_ret (re_m1 rJoinA PySem.F.slot_str_join PySem.F.type_str_join (fun X => mt_joinA X) joinD_ok (rp_ex (re_str)) (rp_nm 3)))))))
/-! _law_word -/
abbrev N_law_word : List Str := ["store", "first", "letters", "size", "out", "k"]
abbrev P_law_word : List Str := ["store", "first"]
theorem sc_law_word : FnScope N_law_word P_law_word (defScope (top 19)) := ⟨rfl, rfl, rfl, by decide +kernel, rfl, by decide +kernel, by decide +kernel⟩
def mb_law_word : MS := s_seq (s_set 2 (m_c (.str (Str.ofString "abcdefghijklmnopqrstuvwxyz")))) (s_seq (s_set 3 (m_op2 ixD (p_ex (m_tup (a_cons (m_it (m_c (.int 1))) (a_cons (m_it (m_c (.int 8))) (a_cons (m_it (m_c (.int 2))) (a_cons (m_it (m_op2 addD (p_ex (m_c (.int 1))) (p_ex (m_call g_law_take (a_cons (p_nm 0) (a_cons (p_ex (m_c (.int 8))) (a_nil))))))) (a_cons (m_it (m_op2 addD (p_ex (m_c (.int 1))) (p_ex (m_call g_law_take (a_cons (p_nm 0) (a_cons (p_ex (m_c (.int 3))) (a_nil))))))) (a_cons (m_it (m_c (.int 1))) (a_nil))))))))) (p_ex (m_call g_law_take (a_cons (p_nm 0) (a_cons (p_ex (m_c (.int 6))) (a_nil))))))) (s_seq (s_set 4 (m_lc [5] (i_rng1 (p_nm 3)) (g_name 5) (m_yes) (m_call g_law_pick (a_cons (p_nm 0) (a_cons (p_ex (m_op2 addD (p_nm 2) (p_ex (m_c (.str (Str.ofString "0123456789")))))) (a_nil)))))) (s_seq (s_if (m_tst (m_op2 eqD (p_nm 1) (p_ex (m_c (.int 1))))) (s_sti 4 (m_call g_law_pick (a_cons (p_nm 0) (a_cons (p_nm 2) (a_nil)))) (p_ex (m_c (.int 0)))) (s_nop)) (s_ret (m_m1 joinD (p_ex (m_c (.str (Str.ofString "")))) (p_nm 4))))))
def g_law_word : List O → Option (O × List O) := fnM 6 2 [0, 1] mb_law_word
theorem ok_law_word {P : Program} {w : World} {K : PySem.W.Frag} {mg : Str → Option Value} {base : Heap} (fac : Fac mg) {f : Addr} {fd : FuncData} (F : FunD K "_law_word" "_law_word" (defArgs (top 19)) (defBody (top 19)) (defScope (top 19)) [] [] f fd) (c_law_pick : Cal P w K mg base 3 "_law_pick" 2 g_law_pick) (c_law_take : Cal P w K mg base 2 "_law_take" 2 g_law_take) :
    FnOk P w K mg base CX0 4 f fd P_law_word (spM K 2 g_law_word) :=
  fn_ok (k := 3) (N := N_law_word) (ps := P_law_word) (m := mb_law_word) [0, 1] F sc_law_word (rss_cons (rs_set 2 (re_str)) (rss_cons (rs_set 3 (re_ix rIx (fun X => ix_seq) ixD_ok (rp_ex (re_tup (ra_cons (rp_it (re_int)) (ra_cons (rp_it (re_int)) (ra_cons (rp_it (re_int)) (ra_cons (rp_it (re_op rAddA (fun X => op_addA X) addD_ok (rp_ex (re_int)) (rp_ex (re_call c_law_take (Nat.le_of_ble_eq_true rfl) (ra_cons (rp_nm 0) (ra_cons (rp_ex (re_int)) (ra_nil))) (.cons (.cons .nil)))))) (ra_cons (rp_it (re_op rAddA (fun X => op_addA X) addD_ok (rp_ex (re_int)) (rp_ex (re_call c_law_take (Nat.le_of_ble_eq_true rfl) (ra_cons (rp_nm 0) (ra_cons (rp_ex (re_int)) (ra_nil))) (.cons (.cons .nil)))))) (ra_cons (rp_it (re_int)) (ra_nil))))))))) (rp_ex (re_call c_law_take (Nat.le_of_ble_eq_true rfl) (ra_cons (rp_nm 0) (ra_cons (rp_ex (re_int)) (ra_nil))) (.cons (.cons .nil)))))) (rss_cons (rs_setLc 4 (own := [(("k" : Str), 5)]) (ri_rng1 fac.b_range (rp_nm 3)) (rg_name 5) (rts_nil) (re_call c_law_pick (Nat.le_of_ble_eq_true rfl) (ra_cons (rp_nm 0) (ra_cons (rp_ex (re_op rAddA (fun X => op_addA X) addD_ok (rp_nm 2) (rp_ex (re_str)))) (ra_nil))) (.cons (.cons .nil)))) (rss_cons (rs_if (rt_cmp (fun _ => rEq) (fun X h => op_eqA X h) eqD_ok.1 (rp_nm 1) (rp_ex (re_int)) (nomark _)) (rss_one (rs_sti 4 (re_call c_law_pick (Nat.le_of_ble_eq_true rfl) (ra_cons (rp_nm 0) (ra_cons (rp_nm 2) (ra_nil))) (.cons (.cons .nil))) (rp_ex (re_int)))) (rss_nil)) (rss_one (rs_ret (re_m1 rJoinA PySem.F.slot_str_join PySem.F.type_str_join (fun X => mt_joinA X) joinD_ok (rp_ex (re_str)) (rp_nm 4))))))))
/-! _law_capital -/
abbrev N_law_capital : List Str := ["store", "used", "letters", "word", "found", "k"]
abbrev P_law_capital : List Str := ["store", "used"]
theorem sc_law_capital : FnScope N_law_capital P_law_capital (defScope (top 20)) := ⟨rfl, rfl, rfl, by decide +kernel, rfl, by decide +kernel, by decide +kernel⟩
def mb_law_capital : MS := s_seq (s_set 2 (m_c (.str (Str.ofString "ABCDEFGHIJKLMNOPQRSTUVWXYZ")))) (s_seq (s_set 3 (m_m1 joinD (p_ex (m_c (.str (Str.ofString "")))) (p_ex (m_lc [5] (i_rng1 (p_ex (m_op2 ixD (p_ex (m_tup (a_cons (m_it (m_c (.int 1))) (a_cons (m_it (m_c (.int 1))) (a_cons (m_it (m_c (.int 2))) (a_cons (m_it (m_c (.int 4))) (a_cons (m_it (m_c (.int 3))) (a_cons (m_it (m_c (.int 1))) (a_nil))))))))) (p_ex (m_call g_law_take (a_cons (p_nm 0) (a_cons (p_ex (m_c (.int 6))) (a_nil)))))))) (g_name 5) (m_yes) (m_call g_law_pick (a_cons (p_nm 0) (a_cons (p_nm 2) (a_nil)))))))) (s_seq (s_set 4 (m_var 3)) (s_seq (s_for (i_rng1 (p_ex (m_op2 addD (p_ex (m_bi lenD (a_cons (p_nm 1) (a_nil)))) (p_ex (m_c (.int 2)))))) (g_name 5) (s_seq (s_if (m_tst (m_op2 ninD (p_nm 4) (p_nm 1))) (s_ret (m_mv 4)) (s_nop)) (s_set 4 (m_op2 addD (p_ex (m_op2 addD (p_ex (m_sl slD (p_nm 3) (o_none) (o_some (p_ex (m_c (.int 2)))))) (p_ex (m_op2 ixD (p_nm 2) (p_ex (m_op2 modD (p_ex (m_bi intD (a_cons (p_ex (m_op2 fdivD (p_nm 5) (p_ex (m_c (.int 26))))) (a_nil)))) (p_ex (m_c (.int 26))))))))) (p_ex (m_op2 ixD (p_nm 2) (p_ex (m_op2 modD (p_ex (m_bi intD (a_cons (p_nm 5) (a_nil)))) (p_ex (m_c (.int 26))))))))))) (s_ret (m_mv 4)))))
def g_law_capital : List O → Option (O × List O) := fnM 6 2 [0, 1] mb_law_capital
theorem ok_law_capital {P : Program} {w : World} {K : PySem.W.Frag} {mg : Str → Option Value} {base : Heap} (fac : Fac mg) {f : Addr} {fd : FuncData} (F : FunD K "_law_capital" "_law_capital" (defArgs (top 20)) (defBody (top 20)) (defScope (top 20)) [] [] f fd) (c_law_take : Cal P w K mg base 2 "_law_take" 2 g_law_take) (c_law_pick : Cal P w K mg base 3 "_law_pick" 2 g_law_pick) :
    FnOk P w K mg base CX0 4 f fd P_law_capital (spM K 2 g_law_capital) :=
  fn_ok (k := 3) (N := N_law_capital) (ps := P_law_capital) (m := mb_law_capital) [0, 1] F sc_law_capital (rss_cons (rs_set 2 (re_str)) (rss_cons (rs_set 3 (re_m1 rJoinA PySem.F.slot_str_join PySem.F.type_str_join (fun X => mt_joinA X) joinD_ok (rp_ex (re_str)) (rp_ex (re_lc (own := [(("k" : Str), 5)]) (ri_rng1 fac.b_range (rp_ex (re_ix rIx (fun X => ix_seq) ixD_ok (rp_ex (re_tup (ra_cons (rp_it (re_int)) (ra_cons (rp_it (re_int)) (ra_cons (rp_it (re_int)) (ra_cons (rp_it (re_int)) (ra_cons (rp_it (re_int)) (ra_cons (rp_it (re_int)) (ra_nil))))))))) (rp_ex (re_call c_law_take (Nat.le_of_ble_eq_true rfl) (ra_cons (rp_nm 0) (ra_cons (rp_ex (re_int)) (ra_nil))) (.cons (.cons .nil))))))) (rg_name 5) (rts_nil) (re_call c_law_pick (Nat.le_of_ble_eq_true rfl) (ra_cons (rp_nm 0) (ra_cons (rp_nm 2) (ra_nil))) (.cons (.cons .nil))))))) (rss_cons (rs_set 4 (re_var 3)) (rss_cons (rs_for (vs := [5]) (ri_rng1 fac.b_range (rp_ex (re_op rAddA (fun X => op_addA X) addD_ok (rp_ex (re_bi rLenA (fun X h => cb_len X h) lenD_ok fac.b_len (by decide +kernel) (ra_cons (rp_nm 1) (ra_nil)))) (rp_ex (re_int))))) (rg_name 5) (rss_cons (rs_if (rt_cmp rNinA (fun X h => op_ninA X h) ninD_ok (rp_nm 4) (rp_nm 1) rfl) (rss_one (rs_ret (re_mv 4))) (rss_nil)) (rss_one (rs_set 4 (re_op rAddA (fun X => op_addA X) addD_ok (rp_ex (re_op rAddA (fun X => op_addA X) addD_ok (rp_ex (re_sl rSlA (fun X => sl_any X) slD_ok (rp_nm 3) (ro_none) (ro_some (rp_ex (re_int))))) (rp_ex (re_ix rIx (fun X => ix_seq) ixD_ok (rp_nm 2) (rp_ex (re_op (fun _ => rI (fun _ j => 0 < j) fun i j => .int (i % j)) (fun X => op_modA X) modD_ok (rp_ex (re_ty (fun _ => rIntA) (fun X h => cb_int X h) intD_ok fac.b_int (by decide +kernel) (ra_cons (rp_ex (re_op (fun _ => rI CDivW fun i j => .int (i / j)) (fun X => op_fdivA X) fdivD_ok (rp_nm 5) (rp_ex (re_int)))) (ra_nil)))) (rp_ex (re_int)))))))) (rp_ex (re_ix rIx (fun X => ix_seq) ixD_ok (rp_nm 2) (rp_ex (re_op (fun _ => rI (fun _ j => 0 < j) fun i j => .int (i % j)) (fun X => op_modA X) modD_ok (rp_ex (re_ty (fun _ => rIntA) (fun X h => cb_int X h) intD_ok fac.b_int (by decide +kernel) (ra_cons (rp_nm 5) (ra_nil)))) (rp_ex (re_int))))))))))) (rss_one (rs_ret (re_mv 4)))))))
/-! _law_isop -/
abbrev N_law_isop : List Str := ["value"]
abbrev P_law_isop : List Str := ["value"]
theorem sc_law_isop : FnScope N_law_isop P_law_isop (defScope (top 30)) := ⟨rfl, rfl, rfl, by decide +kernel, rfl, by decide +kernel, by decide +kernel⟩
def mb_law_isop : MS := s_seq (s_if (m_and (m_tru (p_ex (m_bi isiD (a_cons (p_nm 0) (a_cons (p_ex (m_c (.ty "str"))) (a_nil)))))) (m_and (m_tst (m_op2 ltD (p_ex (m_bi lenD (a_cons (p_nm 0) (a_nil)))) (p_ex (m_c (.int 3))))) (m_tru (p_ex (m_call g_law_allin (a_cons (p_nm 0) (a_cons (p_ex (m_c (.str (Str.ofString "+-*/<>=!?&|^~:.@$")))) (a_nil)))))))) (s_ret (m_c (.bl true))) (s_nop)) (s_ret (m_call g_law_isname (a_cons (p_nm 0) (a_nil))))
def g_law_isop : List O → Option (O × List O) := fnM 1 1 [0] mb_law_isop
theorem ok_law_isop {P : Program} {w : World} {K : PySem.W.Frag} {mg : Str → Option Value} {base : Heap} (fac : Fac mg) {f : Addr} {fd : FuncData} (F : FunD K "_law_isop" "_law_isop" (defArgs (top 30)) (defBody (top 30)) (defScope (top 30)) [] [] f fd) (c_law_isname : Cal P w K mg base 3 "_law_isname" 1 g_law_isname) (c_law_allin : Cal P w K mg base 1 "_law_allin" 2 g_law_allin) :
    FnOk P w K mg base CX0 4 f fd P_law_isop (spM K 1 g_law_isop) :=
  fn_ok (k := 3) (N := N_law_isop) (ps := P_law_isop) (m := mb_law_isop) [0] F sc_law_isop (rss_cons (rs_if (rt_bool (rw_and (rt_tru (rp_ex (re_bi rIsi (fun X h => cb_isi X h) isiD_ok fac.b_isinstance (by decide +kernel) (ra_cons (rp_nm 0) (ra_cons (rp_ex (re_tyc fac.b_str (by decide +kernel))) (ra_nil)))))) (rw_and (rt_cmp (fun _ => rLtA) (fun X h => op_ltA X h) ltD_ok.1 (rp_ex (re_bi rLenA (fun X h => cb_len X h) lenD_ok fac.b_len (by decide +kernel) (ra_cons (rp_nm 0) (ra_nil)))) (rp_ex (re_int)) (nomark _)) (rw_and1 (rt_tru (rp_ex (re_call c_law_allin (Nat.le_of_ble_eq_true rfl) (ra_cons (rp_nm 0) (ra_cons (rp_ex (re_str)) (ra_nil))) (.cons (.cons .nil))))))))) (rss_one (rs_ret (re_bl))) (rss_nil)) (rss_one (rs_ret (re_call c_law_isname (Nat.le_of_ble_eq_true rfl) (ra_cons (rp_nm 0) (ra_nil)) (.cons .nil)))))
/-! _law_onesign -/
abbrev N_law_onesign : List Str := ["store", "name", "at", "sign", "sort"]
abbrev P_law_onesign : List Str := ["store", "name"]
theorem sc_law_onesign : FnScope N_law_onesign P_law_onesign (defScope (top 32)) := ⟨rfl, rfl, rfl, by decide +kernel, rfl, by decide +kernel, by decide +kernel⟩
def mb_law_onesign : MS := s_seq (s_set 2 (m_call g_law_take (a_cons (p_nm 0) (a_cons (p_ex (m_op2 addD (p_ex (m_bi lenD (a_cons (p_nm 1) (a_nil)))) (p_ex (m_c (.int 1))))) (a_nil))))) (s_seq (s_set 3 (m_call g_law_pick (a_cons (p_nm 0) (a_cons (p_ex (m_call g_law_signs a_nil)) (a_nil))))) (s_seq (s_set 4 (m_call g_law_take (a_cons (p_nm 0) (a_cons (p_ex (m_c (.int 3))) (a_nil))))) (s_seq (s_if (m_tst (m_op2 eqD (p_nm 4) (p_ex (m_c (.int 0))))) (s_ret (m_op2 addD (p_ex (m_op2 addD (p_ex (m_sl slD (p_nm 1) (o_none) (o_some (p_nm 2)))) (p_nm 3))) (p_ex (m_sl slD (p_nm 1) (o_some (p_nm 2)) (o_none))))) (s_nop)) (s_seq (s_if (m_tst (m_op2 eqD (p_nm 4) (p_ex (m_c (.int 1))))) (s_ret (m_op2 addD (p_ex (m_op2 addD (p_ex (m_sl slD (p_nm 1) (o_none) (o_some (p_nm 2)))) (p_nm 3))) (p_ex (m_sl slD (p_nm 1) (o_some (p_ex (m_op2 addD (p_nm 2) (p_ex (m_c (.int 1)))))) (o_none))))) (s_nop)) (s_ret (m_op2 addD (p_ex (m_sl slD (p_nm 1) (o_none) (o_some (p_nm 2)))) (p_ex (m_sl slD (p_nm 1) (o_some (p_ex (m_op2 addD (p_nm 2) (p_ex (m_c (.int 1)))))) (o_none)))))))))
def g_law_onesign : List O → Option (O × List O) := fnM 5 2 [0, 1] mb_law_onesign
theorem ok_law_onesign {P : Program} {w : World} {K : PySem.W.Frag} {mg : Str → Option Value} {base : Heap} (fac : Fac mg) {f : Addr} {fd : FuncData} (F : FunD K "_law_onesign" "_law_onesign" (defArgs (top 32)) (defBody (top 32)) (defScope (top 32)) [] [] f fd) (c_law_take : Cal P w K mg base 2 "_law_take" 2 g_law_take) (c_law_pick : Cal P w K mg base 3 "_law_pick" 2 g_law_pick) (c_law_signs : Cal P w K mg base 1 "_law_signs" 0 g_law_signs) :
    FnOk P w K mg base CX0 4 f fd P_law_onesign (spM K 2 g_law_onesign) :=
  fn_ok (k := 3) (N := N_law_onesign) (ps := P_law_onesign) (m := mb_law_onesign) [0, 1] F sc_law_onesign (rss_cons (rs_set 2 (re_call c_law_take (Nat.le_of_ble_eq_true rfl) (ra_cons (rp_nm 0) (ra_cons (rp_ex (re_op rAddA (fun X => op_addA X) addD_ok (rp_ex (re_bi rLenA (fun X h => cb_len X h) lenD_ok fac.b_len (by decide +kernel) (ra_cons (rp_nm 1) (ra_nil)))) (rp_ex (re_int)))) (ra_nil))) (.cons (.cons .nil)))) (rss_cons (rs_set 3 (re_call c_law_pick (Nat.le_of_ble_eq_true rfl) (ra_cons (rp_nm 0) (ra_cons (rp_ex (re_call0 c_law_signs (Nat.le_of_ble_eq_true rfl))) (ra_nil))) (.cons (.cons .nil)))) (rss_cons (rs_set 4 (re_call c_law_take (Nat.le_of_ble_eq_true rfl) (ra_cons (rp_nm 0) (ra_cons (rp_ex (re_int)) (ra_nil))) (.cons (.cons .nil)))) (rss_cons (rs_if (rt_cmp (fun _ => rEq) (fun X h => op_eqA X h) eqD_ok.1 (rp_nm 4) (rp_ex (re_int)) (nomark _)) (rss_one (rs_ret (re_op rAddA (fun X => op_addA X) addD_ok (rp_ex (re_op rAddA (fun X => op_addA X) addD_ok (rp_ex (re_sl rSlA (fun X => sl_any X) slD_ok (rp_nm 1) (ro_none) (ro_some (rp_nm 2)))) (rp_nm 3))) (rp_ex (re_sl rSlA (fun X => sl_any X) slD_ok (rp_nm 1) (ro_some (rp_nm 2)) (ro_none)))))) (rss_nil)) (rss_cons (rs_if (rt_cmp (fun _ => rEq) (fun X h => op_eqA X h) eqD_ok.1 (rp_nm 4) (rp_ex (re_int)) (nomark _)) (rss_one (rs_ret (re_op rAddA (fun X => op_addA X) addD_ok (rp_ex (re_op rAddA (fun X => op_addA X) addD_ok (rp_ex (re_sl rSlA (fun X => sl_any X) slD_ok (rp_nm 1) (ro_none) (ro_some (rp_nm 2)))) (rp_nm 3))) (rp_ex (re_sl rSlA (fun X => sl_any X) slD_ok (rp_nm 1) (ro_some (rp_ex (re_op rAddA (fun X => op_addA X) addD_ok (rp_nm 2) (rp_ex (re_int))))) (ro_none)))))) (rss_nil)) (rss_one (rs_ret (re_op rAddA (fun X => op_addA X) addD_ok (rp_ex (re_sl rSlA (fun X => sl_any X) slD_ok (rp_nm 1) (ro_none) (ro_some (rp_nm 2)))) (rp_ex (re_sl rSlA (fun X => sl_any X) slD_ok (rp_nm 1) (ro_some (rp_ex (re_op rAddA (fun X => op_addA X) addD_ok (rp_nm 2) (rp_ex (re_int))))) (ro_none)))))))))))
/-! _law_repeated -/
abbrev N_law_repeated : List Str := ["store", "sign", "size"]
abbrev P_law_repeated : List Str := ["store"]
theorem sc_law_repeated : FnScope N_law_repeated P_law_repeated (defScope (top 33)) := ⟨rfl, rfl, rfl, by decide +kernel, rfl, by decide +kernel, by decide +kernel⟩
def mb_law_repeated : MS := s_seq (s_set 1 (m_call g_law_pick (a_cons (p_nm 0) (a_cons (p_ex (m_call g_law_signs a_nil)) (a_nil))))) (s_seq (s_set 2 (m_call g_law_edge (a_cons (p_nm 0) (a_cons (p_ex (m_c (.int 1))) (a_cons (p_ex (m_c (.int 12))) (a_nil)))))) (s_seq (s_if (m_tst (m_op2 eqD (p_ex (m_call g_law_take (a_cons (p_nm 0) (a_cons (p_ex (m_c (.int 8))) (a_nil))))) (p_ex (m_c (.int 0))))) (s_set 2 (m_call g_law_edge (a_cons (p_nm 0) (a_cons (p_ex (m_c (.int 1))) (a_cons (p_ex (m_c (.int 5000))) (a_nil)))))) (s_nop)) (s_seq (s_if (m_tst (m_op2 eqD (p_ex (m_call g_law_take (a_cons (p_nm 0) (a_cons (p_ex (m_c (.int 2))) (a_nil))))) (p_ex (m_c (.int 0))))) (s_ret (m_op2 mulD (p_nm 1) (p_nm 2))) (s_nop)) (s_ret (m_op2 addD (p_ex (m_op2 mulD (p_nm 1) (p_ex (m_op2 subD (p_nm 2) (p_ex (m_c (.int 1))))))) (p_ex (m_call g_law_pick (a_cons (p_nm 0) (a_cons (p_ex (m_call g_law_signs a_nil)) (a_nil))))))))))
def g_law_repeated : List O → Option (O × List O) := fnM 3 1 [0] mb_law_repeated
theorem ok_law_repeated {P : Program} {w : World} {K : PySem.W.Frag} {mg : Str → Option Value} {base : Heap} (fac : Fac mg) {f : Addr} {fd : FuncData} (F : FunD K "_law_repeated" "_law_repeated" (defArgs (top 33)) (defBody (top 33)) (defScope (top 33)) [] [] f fd) (c_law_pick : Cal P w K mg base 3 "_law_pick" 2 g_law_pick) (c_law_signs : Cal P w K mg base 1 "_law_signs" 0 g_law_signs) (c_law_take : Cal P w K mg base 2 "_law_take" 2 g_law_take) (c_law_edge : Cal P w K mg base 3 "_law_edge" 3 g_law_edge) :
    FnOk P w K mg base CX0 4 f fd P_law_repeated (spM K 1 g_law_repeated) :=
  fn_ok (k := 3) (N := N_law_repeated) (ps := P_law_repeated) (m := mb_law_repeated) [0] F sc_law_repeated (rss_cons (rs_set 1 (re_call c_law_pick (Nat.le_of_ble_eq_true rfl) (ra_cons (rp_nm 0) (ra_cons (rp_ex (re_call0 c_law_signs (Nat.le_of_ble_eq_true rfl))) (ra_nil))) (.cons (.cons .nil)))) (rss_cons (rs_set 2 (re_call c_law_edge (Nat.le_of_ble_eq_true rfl) (ra_cons (rp_nm 0) (ra_cons (rp_ex (re_int)) (ra_cons (rp_ex (re_int)) (ra_nil)))) (.cons (.cons (.cons .nil))))) (rss_cons (rs_if (rt_cmp (fun _ => rEq) (fun X h => op_eqA X h) eqD_ok.1 (rp_ex (re_call c_law_take (Nat.le_of_ble_eq_true rfl) (ra_cons (rp_nm 0) (ra_cons (rp_ex (re_int)) (ra_nil))) (.cons (.cons .nil)))) (rp_ex (re_int)) (nomark _)) (rss_one (rs_set 2 (re_call c_law_edge (Nat.le_of_ble_eq_true rfl) (ra_cons (rp_nm 0) (ra_cons (rp_ex (re_int)) (ra_cons (rp_ex (re_int)) (ra_nil)))) (.cons (.cons (.cons .nil)))))) (rss_nil)) (rss_cons (rs_if (rt_cmp (fun _ => rEq) (fun X h => op_eqA X h) eqD_ok.1 (rp_ex (re_call c_law_take (Nat.le_of_ble_eq_true rfl) (ra_cons (rp_nm 0) (ra_cons (rp_ex (re_int)) (ra_nil))) (.cons (.cons .nil)))) (rp_ex (re_int)) (nomark _)) (rss_one (rs_ret (re_op (fun _ => rMulA) (fun X => op_mulA X) mulD_ok (rp_nm 1) (rp_nm 2)))) (rss_nil)) (rss_one (rs_ret (re_op rAddA (fun X => op_addA X) addD_ok (rp_ex (re_op (fun _ => rMulA) (fun X => op_mulA X) mulD_ok (rp_nm 1) (rp_ex (re_op (fun _ => rI0 fun i j => .int (i - j)) (fun X => op_subA X) subD_ok (rp_nm 2) (rp_ex (re_int)))))) (rp_ex (re_call c_law_pick (Nat.le_of_ble_eq_true rfl) (ra_cons (rp_nm 0) (ra_cons (rp_ex (re_call0 c_law_signs (Nat.le_of_ble_eq_true rfl))) (ra_nil))) (.cons (.cons .nil)))))))))))
/-! _law_nearname -/
abbrev N_law_nearname : List Str := ["store", "word", "capital", "marks", "sign", "row"]
abbrev P_law_nearname : List Str := ["store"]
theorem sc_law_nearname : FnScope N_law_nearname P_law_nearname (defScope (top 22)) := ⟨rfl, rfl, rfl, by decide +kernel, rfl, by decide +kernel, by decide +kernel⟩
def mb_law_nearname : MS := s_seq (s_set 1 (m_call g_law_word (a_cons (p_nm 0) (a_cons (p_ex (m_c (.int 0))) (a_nil))))) (s_seq (s_set 2 (m_call g_law_capital (a_cons (p_nm 0) (a_cons (p_ex (m_lst (a_nil))) (a_nil))))) (s_seq (s_set 3 (m_call g_law_marks (a_cons (p_nm 0) (a_cons (p_ex (m_lst (a_nil))) (a_nil))))) (s_seq (s_set 4 (m_call g_law_pick (a_cons (p_nm 0) (a_cons (p_ex (m_call g_law_signs a_nil)) (a_nil))))) (s_seq (s_set 5 (m_lst (a_cons (m_it (m_c (.str (Str.ofString "")))) (a_cons (m_it (m_var 1)) (a_cons (m_it (m_var 2)) (a_cons (m_it (m_var 3)) (a_cons (m_it (m_op2 addD (p_nm 1) (p_nm 4))) (a_cons (m_it (m_op2 addD (p_nm 4) (p_nm 1))) (a_cons (m_it (m_op2 addD (p_nm 2) (p_nm 4))) (a_cons (m_it (m_var 4)) (a_cons (m_it (m_op2 addD (p_nm 3) (p_ex (m_c (.str (Str.ofString "+")))))) (a_cons (m_it (m_op2 addD (p_nm 3) (p_nm 1))) (a_nil))))))))))))) (s_seq (s_set 5 (m_op2 addD (p_nm 5) (p_ex (m_lst (a_cons (m_it (m_op2 addD (p_ex (m_c (.str (Str.ofString "abcdefgh")))) (p_ex (m_sl slD (p_nm 1) (o_none) (o_some (p_ex (m_c (.int 1)))))))) (a_cons (m_it (m_op2 addD (p_ex (m_c (.str (Str.ofString "A")))) (p_nm 1))) (a_cons (m_it (m_op2 addD (p_nm 1) (p_ex (m_c (.str (Str.ofString "A")))))) (a_cons (m_it (m_op2 addD (p_ex (m_c (.str (Str.ofString "ABCD")))) (p_ex (m_sl slD (p_nm 2) (o_none) (o_some (p_ex (m_c (.int 1)))))))) (a_cons (m_it (m_op2 addD (p_ex (m_c (.str (Str.ofString " ")))) (p_nm 1))) (a_cons (m_it (m_op2 addD (p_nm 1) (p_ex (m_c (.str (Str.ofString " ")))))) (a_nil))))))))))) (s_seq (s_set 5 (m_op2 addD (p_nm 5) (p_ex (m_lst (a_cons (m_it (m_op2 addD (p_ex (m_c (.str (Str.ofString "1")))) (p_nm 1))) (a_cons (m_it (m_op2 addD (p_ex (m_c (.str (Str.ofString "_")))) (p_nm 1))) (a_cons (m_it (m_c (.str (Str.ofString "a_")))) (a_cons (m_it (m_c (.str (Str.ofString "(")))) (a_cons (m_it (m_c (.str (Str.ofString "{")))) (a_cons (m_it (m_c (.str (Str.ofString ",")))) (a_cons (m_it (m_c (.str (Str.ofString "#1")))) (a_cons (m_it (m_c (.str (Str.ofString "#0")))) (a_cons (m_it (m_c (.str (Str.ofString "#")))) (a_cons (m_it (m_m0 lowD (p_nm 2))) (a_cons (m_it (m_m0 uppD (p_nm 1))) (a_nil)))))))))))))))) (s_ret (m_call g_law_pick (a_cons (p_nm 0) (a_cons (p_ex (m_op2 addD (p_nm 5) (p_ex (m_lst (a_cons (m_it (m_op2 addD (p_nm 3) (p_nm 4))) (a_nil)))))) (a_nil)))))))))))
def g_law_nearname : List O → Option (O × List O) := fnM 6 1 [0] mb_law_nearname
theorem ok_law_nearname {P : Program} {w : World} {K : PySem.W.Frag} {mg : Str → Option Value} {base : Heap} (fac : Fac mg) {f : Addr} {fd : FuncData} (F : FunD K "_law_nearname" "_law_nearname" (defArgs (top 22)) (defBody (top 22)) (defScope (top 22)) [] [] f fd) (c_law_pick : Cal P w K mg base 3 "_law_pick" 2 g_law_pick) (c_law_signs : Cal P w K mg base 1 "_law_signs" 0 g_law_signs) (c_law_marks : Cal P w K mg base 3 "_law_marks" 2 g_law_marks) (c_law_capital : Cal P w K mg base 4 "_law_capital" 2 g_law_capital) (c_law_word : Cal P w K mg base 4 "_law_word" 2 g_law_word) :
    FnOk P w K mg base CX0 5 f fd P_law_nearname (spM K 1 g_law_nearname) :=
  fn_ok (k := 4) (N := N_law_nearname) (ps := P_law_nearname) (m := mb_law_nearname) [0] F sc_law_nearname (rss_cons (rs_set 1 (re_call c_law_word (Nat.le_of_ble_eq_true rfl) (ra_cons (rp_nm 0) (ra_cons (rp_ex (re_int)) (ra_nil))) (.cons (.cons .nil)))) (rss_cons (rs_set 2 (re_call c_law_capital (Nat.le_of_ble_eq_true rfl) (ra_cons (rp_nm 0) (ra_cons (rp_ex (re_lst (ra_nil))) (ra_nil))) (.cons (.cons .nil)))) (rss_cons (rs_set 3 (re_call c_law_marks (Nat.le_of_ble_eq_true rfl) (ra_cons (rp_nm 0) (ra_cons (rp_ex (re_lst (ra_nil))) (ra_nil))) (.cons (.cons .nil)))) (rss_cons (rs_set 4 (re_call c_law_pick (Nat.le_of_ble_eq_true rfl) (ra_cons (rp_nm 0) (ra_cons (rp_ex (re_call0 c_law_signs (Nat.le_of_ble_eq_true rfl))) (ra_nil))) (.cons (.cons .nil)))) (rss_cons (rs_set 5 (re_lst (ra_cons (rp_it (re_str)) (ra_cons (rp_it (re_var 1)) (ra_cons (rp_it (re_var 2)) (ra_cons (rp_it (re_var 3)) (ra_cons (rp_it (re_op rAddA (fun X => op_addA X) addD_ok (rp_nm 1) (rp_nm 4))) (ra_cons (rp_it (re_op rAddA (fun X => op_addA X) addD_ok (rp_nm 4) (rp_nm 1))) (ra_cons (rp_it (re_op rAddA (fun X => op_addA X) addD_ok (rp_nm 2) (rp_nm 4))) (ra_cons (rp_it (re_var 4)) (ra_cons (rp_it (re_op rAddA (fun X => op_addA X) addD_ok (rp_nm 3) (rp_ex (re_str)))) (ra_cons (rp_it (re_op rAddA (fun X => op_addA X) addD_ok (rp_nm 3) (rp_nm 1))) (ra_nil))))))))))))) (rss_cons (rs_set 5 (re_op rAddA (fun X => op_addA X) addD_ok (rp_nm 5) (rp_ex (re_lst (ra_cons (rp_it (re_op rAddA (fun X => op_addA X) addD_ok (rp_ex (re_str)) (rp_ex (re_sl rSlA (fun X => sl_any X) slD_ok (rp_nm 1) (ro_none) (ro_some (rp_ex (re_int))))))) (ra_cons (rp_it (re_op rAddA (fun X => op_addA X) addD_ok (rp_ex (re_str)) (rp_nm 1))) (ra_cons (rp_it (re_op rAddA (fun X => op_addA X) addD_ok (rp_nm 1) (rp_ex (re_str)))) (ra_cons (rp_it (re_op rAddA (fun X => op_addA X) addD_ok (rp_ex (re_str)) (rp_ex (re_sl rSlA (fun X => sl_any X) slD_ok (rp_nm 2) (ro_none) (ro_some (rp_ex (re_int))))))) (ra_cons (rp_it (re_op rAddA (fun X => op_addA X) addD_ok (rp_ex (re_str)) (rp_nm 1))) (ra_cons (rp_it (re_op rAddA (fun X => op_addA X) addD_ok (rp_nm 1) (rp_ex (re_str)))) (ra_nil))))))))))) (rss_cons (rs_set 5 (re_op rAddA (fun X => op_addA X) addD_ok (rp_nm 5) (rp_ex (re_lst (ra_cons (rp_it (re_op rAddA (fun X => op_addA X) addD_ok (rp_ex (re_str)) (rp_nm 1))) (ra_cons (rp_it (re_op rAddA (fun X => op_addA X) addD_ok (rp_ex (re_str)) (rp_nm 1))) (ra_cons (rp_it (re_str)) (ra_cons (rp_it (re_str)) (ra_cons (rp_it (re_str)) (ra_cons (rp_it (re_str)) (ra_cons (rp_it (re_str)) (ra_cons (rp_it (re_str)) (ra_cons (rp_it (re_str)) (ra_cons (rp_it (re_m0 (fun _ => rLowA) PySem.F.slot_str_lower PySem.F.type_str_lower (fun X => mt_lowA X) lowD_ok (rp_nm 2))) (ra_cons (rp_it (re_m0 (fun _ => rUppA) PySem.F.slot_str_upper PySem.F.type_str_upper (fun X => mt_uppA X) uppD_ok (rp_nm 1))) (ra_nil)))))))))))))))) (rss_one (rs_ret (re_call c_law_pick (Nat.le_of_ble_eq_true rfl) (ra_cons (rp_nm 0) (ra_cons (rp_ex (re_op rAddA (fun X => op_addA X) addD_ok (rp_nm 5) (rp_ex (re_lst (ra_cons (rp_it (re_op rAddA (fun X => op_addA X) addD_ok (rp_nm 3) (rp_nm 4))) (ra_nil)))))) (ra_nil))) (.cons (.cons .nil))))))))))))
/-! _law_answers -/
abbrev N_law_answers : List Str := ["value"]
abbrev P_law_answers : List Str := ["value"]
theorem sc_law_answers : FnScope N_law_answers P_law_answers (defScope (top 35)) := ⟨rfl, rfl, rfl, by decide +kernel, rfl, by decide +kernel, by decide +kernel⟩
def mb_law_answers : MS := s_ret (m_lst (a_cons (m_it (m_call g_is_atom_word (a_cons (p_nm 0) (a_nil)))) (a_cons (m_it (m_call g_is_operator_name (a_cons (p_nm 0) (a_nil)))) (a_cons (m_it (m_call g_is_macro_name (a_cons (p_nm 0) (a_nil)))) (a_cons (m_it (m_call g_is_kind_name (a_cons (p_nm 0) (a_nil)))) (a_nil))))))
def g_law_answers : List O → Option (O × List O) := fnM 1 1 [0] mb_law_answers
theorem ok_law_answers {P : Program} {w : World} {K : PySem.W.Frag} {mg : Str → Option Value} {base : Heap} (fac : Fac mg) {f : Addr} {fd : FuncData} (F : FunD K "_law_answers" "_law_answers" (defArgs (top 35)) (defBody (top 35)) (defScope (top 35)) [] [] f fd) (c_is_kind_name : Cal P w K mg base 2 "is_kind_name" 1 g_is_kind_name) (c_is_macro_name : Cal P w K mg base 3 "is_macro_name" 1 g_is_macro_name) (c_is_operator_name : Cal P w K mg base 4 "is_operator_name" 1 g_is_operator_name) (c_is_atom_word : Cal P w K mg base 2 "is_atom_word" 1 g_is_atom_word) :
    FnOk P w K mg base CX0 5 f fd P_law_answers (spM K 1 g_law_answers) :=
  fn_ok (k := 4) (N := N_law_answers) (ps := P_law_answers) (m := mb_law_answers) [0] F sc_law_answers (rss_one (rs_ret (re_lst (ra_cons (rp_it (re_call c_is_atom_word (Nat.le_of_ble_eq_true rfl) (ra_cons (rp_nm 0) (ra_nil)) (.cons .nil))) (ra_cons (rp_it (re_call c_is_operator_name (Nat.le_of_ble_eq_true rfl) (ra_cons (rp_nm 0) (ra_nil)) (.cons .nil))) (ra_cons (rp_it (re_call c_is_macro_name (Nat.le_of_ble_eq_true rfl) (ra_cons (rp_nm 0) (ra_nil)) (.cons .nil))) (ra_cons (rp_it (re_call c_is_kind_name (Nat.le_of_ble_eq_true rfl) (ra_cons (rp_nm 0) (ra_nil)) (.cons .nil))) (ra_nil))))))))
/-! _law_flatvalue -/
abbrev N_law_flatvalue : List Str := ["store", "sort"]
abbrev P_law_flatvalue : List Str := ["store"]
theorem sc_law_flatvalue : FnScope N_law_flatvalue P_law_flatvalue (defScope (top 23)) := ⟨rfl, rfl, rfl, by decide +kernel, rfl, by decide +kernel, by decide +kernel⟩
def mb_law_flatvalue : MS := s_seq (s_set 1 (m_call g_law_take (a_cons (p_nm 0) (a_cons (p_ex (m_c (.int 12))) (a_nil))))) (s_seq (s_if (m_tst (m_op2 ltD (p_nm 1) (p_ex (m_c (.int 7))))) (s_ret (m_op2 ixD (p_ex (m_tup (a_cons (m_it (m_c .non)) (a_cons (m_it (m_c (.bl true))) (a_cons (m_it (m_c (.bl false))) (a_cons (m_it (m_c (.int 0))) (a_cons (m_it (m_c (.int 1))) (a_cons (m_it (m_tup (a_nil))) (a_cons (m_it (m_c (.str (Str.ofString "")))) (a_nil)))))))))) (p_nm 1))) (s_nop)) (s_seq (s_if (m_tst (m_op2 ltD (p_nm 1) (p_ex (m_c (.int 9))))) (s_ret (m_call g_law_wide (a_cons (p_nm 0) (a_nil)))) (s_nop)) (s_seq (s_if (m_tst (m_op2 eqD (p_nm 1) (p_ex (m_c (.int 9))))) (s_ret (m_call g_law_nearname (a_cons (p_nm 0) (a_nil)))) (s_nop)) (s_seq (s_if (m_tst (m_op2 eqD (p_nm 1) (p_ex (m_c (.int 10))))) (s_ret (m_call g_law_text (a_cons (p_nm 0) (a_cons (p_ex (m_c (.int 12))) (a_nil))))) (s_nop)) (s_ret (m_lst (a_nil)))))))
def g_law_flatvalue : List O → Option (O × List O) := fnM 2 1 [0] mb_law_flatvalue
theorem ok_law_flatvalue {P : Program} {w : World} {K : PySem.W.Frag} {mg : Str → Option Value} {base : Heap} (fac : Fac mg) {f : Addr} {fd : FuncData} (F : FunD K "_law_flatvalue" "_law_flatvalue" (defArgs (top 23)) (defBody (top 23)) (defScope (top 23)) [] [] f fd) (c_law_text : Cal P w K mg base 4 "_law_text" 2 g_law_text) (c_law_nearname : Cal P w K mg base 5 "_law_nearname" 1 g_law_nearname) (c_law_wide : Cal P w K mg base 3 "_law_wide" 1 g_law_wide) (c_law_take : Cal P w K mg base 2 "_law_take" 2 g_law_take) :
    FnOk P w K mg base CX0 6 f fd P_law_flatvalue (spM K 1 g_law_flatvalue) :=
  fn_ok (k := 5) (N := N_law_flatvalue) (ps := P_law_flatvalue) (m := mb_law_flatvalue) [0] F sc_law_flatvalue (rss_cons (rs_set 1 (re_call c_law_take (Nat.le_of_ble_eq_true rfl) (ra_cons (rp_nm 0) (ra_cons (rp_ex (re_int)) (ra_nil))) (.cons (.cons .nil)))) (rss_cons (rs_if (rt_cmp (fun _ => rLtA) (fun X h => op_ltA X h) ltD_ok.1 (rp_nm 1) (rp_ex (re_int)) (nomark _)) (rss_one (rs_ret (re_ix rIx (fun X => ix_seq) ixD_ok (rp_ex (re_tup (ra_cons (rp_it (re_non)) (ra_cons (rp_it (re_bl)) (ra_cons (rp_it (re_bl)) (ra_cons (rp_it (re_int)) (ra_cons (rp_it (re_int)) (ra_cons (rp_it (re_tup (ra_nil))) (ra_cons (rp_it (re_str)) (ra_nil)))))))))) (rp_nm 1)))) (rss_nil)) (rss_cons (rs_if (rt_cmp (fun _ => rLtA) (fun X h => op_ltA X h) ltD_ok.1 (rp_nm 1) (rp_ex (re_int)) (nomark _)) (rss_one (rs_ret (re_call c_law_wide (Nat.le_of_ble_eq_true rfl) (ra_cons (rp_nm 0) (ra_nil)) (.cons .nil)))) (rss_nil)) (rss_cons (rs_if (rt_cmp (fun _ => rEq) (fun X h => op_eqA X h) eqD_ok.1 (rp_nm 1) (rp_ex (re_int)) (nomark _)) (rss_one (rs_ret (re_call c_law_nearname (Nat.le_of_ble_eq_true rfl) (ra_cons (rp_nm 0) (ra_nil)) (.cons .nil)))) (rss_nil)) (rss_cons (rs_if (rt_cmp (fun _ => rEq) (fun X h => op_eqA X h) eqD_ok.1 (rp_nm 1) (rp_ex (re_int)) (nomark _)) (rss_one (rs_ret (re_call c_law_text (Nat.le_of_ble_eq_true rfl) (ra_cons (rp_nm 0) (ra_cons (rp_ex (re_int)) (ra_nil))) (.cons (.cons .nil))))) (rss_nil)) (rss_one (rs_ret (re_lst (ra_nil)))))))))
/-! _law_any -/
abbrev N_law_any : List Str := ["store", "deep", "value", "turn", "sort", "other", "row", "both"]
abbrev P_law_any : List Str := ["store", "deep"]
theorem sc_law_any : FnScope N_law_any P_law_any (defScope (top 24)) := ⟨rfl, rfl, rfl, by decide +kernel, rfl, by decide +kernel, by decide +kernel⟩
def mb_law_any : MS := s_seq (s_set 2 (m_call g_law_flatvalue (a_cons (p_nm 0) (a_nil)))) (s_seq (s_for (i_rng1 (p_ex (m_call g_law_take (a_cons (p_nm 0) (a_cons (p_ex (m_c (.int 5))) (a_nil)))))) (g_name 3) (s_seq (s_set 4 (m_call g_law_take (a_cons (p_nm 0) (a_cons (p_ex (m_c (.int 7))) (a_nil))))) (s_seq (s_set 5 (m_call g_law_flatvalue (a_cons (p_nm 0) (a_nil)))) (s_seq (s_set 6 (m_lst (a_cons (m_it (m_lst (a_cons (m_it (m_var 2)) (a_nil)))) (a_cons (m_it (m_tup (a_cons (m_it (m_var 2)) (a_nil)))) (a_cons (m_it (m_tup (a_cons (m_it (m_var 5)) (a_cons (m_it (m_var 2)) (a_nil))))) (a_cons (m_it (m_lst (a_cons (m_it (m_var 2)) (a_cons (m_it (m_var 5)) (a_nil))))) (a_cons (m_it (m_tup (a_cons (m_it (m_var 2)) (a_cons (m_it (m_var 2)) (a_nil))))) (a_cons (m_it (m_tup (a_cons (m_it (m_var 2)) (a_cons (m_it (m_var 5)) (a_cons (m_it (m_var 5)) (a_nil)))))) (a_cons (m_it (m_lst (a_cons (m_it (m_var 5)) (a_nil)))) (a_nil)))))))))) (s_set 2 (m_op2 ixD (p_nm 6) (p_nm 4))))))) (s_seq (s_if (m_and (m_tst (m_op2 eqD (p_nm 1) (p_ex (m_c (.int 1))))) (m_tst (m_op2 eqD (p_ex (m_call g_law_take (a_cons (p_nm 0) (a_cons (p_ex (m_c (.int 16))) (a_nil))))) (p_ex (m_c (.int 0)))))) (s_seq (s_set 7 (m_call g_law_take (a_cons (p_nm 0) (a_cons (p_ex (m_c (.int 3))) (a_nil))))) (s_for (i_rng1 (p_ex (m_c (.int 140)))) (g_name 3) (s_if (m_or (m_tst (m_op2 eqD (p_nm 7) (p_ex (m_c (.int 0))))) (m_and (m_tst (m_op2 eqD (p_nm 7) (p_ex (m_c (.int 2))))) (m_tst (m_op2 eqD (p_ex (m_op2 modD (p_ex (m_bi intD (a_cons (p_nm 3) (a_nil)))) (p_ex (m_c (.int 2))))) (p_ex (m_c (.int 0))))))) (s_set 2 (m_lst (a_cons (m_it (m_var 2)) (a_nil)))) (s_set 2 (m_tup (a_cons (m_it (m_var 2)) (a_nil))))))) (s_nop)) (s_ret (m_mv 2))))
def g_law_any : List O → Option (O × List O) := fnM 8 2 [0, 1] mb_law_any
theorem ok_law_any {P : Program} {w : World} {K : PySem.W.Frag} {mg : Str → Option Value} {base : Heap} (fac : Fac mg) {f : Addr} {fd : FuncData} (F : FunD K "_law_any" "_law_any" (defArgs (top 24)) (defBody (top 24)) (defScope (top 24)) [] [] f fd) (c_law_take : Cal P w K mg base 2 "_law_take" 2 g_law_take) (c_law_flatvalue : Cal P w K mg base 6 "_law_flatvalue" 1 g_law_flatvalue) :
    FnOk P w K mg base CX0 7 f fd P_law_any (spM K 2 g_law_any) :=
  fn_ok (k := 6) (N := N_law_any) (ps := P_law_any) (m := mb_law_any) [0, 1] F sc_law_any (rss_cons (rs_set 2 (re_call c_law_flatvalue (Nat.le_of_ble_eq_true rfl) (ra_cons (rp_nm 0) (ra_nil)) (.cons .nil))) (rss_cons (rs_for (vs := [3]) (ri_rng1 fac.b_range (rp_ex (re_call c_law_take (Nat.le_of_ble_eq_true rfl) (ra_cons (rp_nm 0) (ra_cons (rp_ex (re_int)) (ra_nil))) (.cons (.cons .nil))))) (rg_name 3) (rss_cons (rs_set 4 (re_call c_law_take (Nat.le_of_ble_eq_true rfl) (ra_cons (rp_nm 0) (ra_cons (rp_ex (re_int)) (ra_nil))) (.cons (.cons .nil)))) (rss_cons (rs_set 5 (re_call c_law_flatvalue (Nat.le_of_ble_eq_true rfl) (ra_cons (rp_nm 0) (ra_nil)) (.cons .nil))) (rss_cons (rs_set 6 (re_lst (ra_cons (rp_it (re_lst (ra_cons (rp_it (re_var 2)) (ra_nil)))) (ra_cons (rp_it (re_tup (ra_cons (rp_it (re_var 2)) (ra_nil)))) (ra_cons (rp_it (re_tup (ra_cons (rp_it (re_var 5)) (ra_cons (rp_it (re_var 2)) (ra_nil))))) (ra_cons (rp_it (re_lst (ra_cons (rp_it (re_var 2)) (ra_cons (rp_it (re_var 5)) (ra_nil))))) (ra_cons (rp_it (re_tup (ra_cons (rp_it (re_var 2)) (ra_cons (rp_it (re_var 2)) (ra_nil))))) (ra_cons (rp_it (re_tup (ra_cons (rp_it (re_var 2)) (ra_cons (rp_it (re_var 5)) (ra_cons (rp_it (re_var 5)) (ra_nil)))))) (ra_cons (rp_it (re_lst (ra_cons (rp_it (re_var 5)) (ra_nil)))) (ra_nil)))))))))) (rss_one (rs_set 2 (re_ix rIx (fun X => ix_seq) ixD_ok (rp_nm 6) (rp_nm 4)))))))) (rss_cons (rs_if (rt_bool (rw_and (rt_cmp (fun _ => rEq) (fun X h => op_eqA X h) eqD_ok.1 (rp_nm 1) (rp_ex (re_int)) (nomark _)) (rw_and1 (rt_cmp (fun _ => rEq) (fun X h => op_eqA X h) eqD_ok.1 (rp_ex (re_call c_law_take (Nat.le_of_ble_eq_true rfl) (ra_cons (rp_nm 0) (ra_cons (rp_ex (re_int)) (ra_nil))) (.cons (.cons .nil)))) (rp_ex (re_int)) (nomark _))))) (rss_cons (rs_set 7 (re_call c_law_take (Nat.le_of_ble_eq_true rfl) (ra_cons (rp_nm 0) (ra_cons (rp_ex (re_int)) (ra_nil))) (.cons (.cons .nil)))) (rss_one (rs_for (vs := [3]) (ri_rng1 fac.b_range (rp_ex (re_int))) (rg_name 3) (rss_one (rs_if (rt_bool (rw_or (rt_cmp (fun _ => rEq) (fun X h => op_eqA X h) eqD_ok.1 (rp_nm 7) (rp_ex (re_int)) (nomark _)) (rw_or1 (rt_bool (rw_and (rt_cmp (fun _ => rEq) (fun X h => op_eqA X h) eqD_ok.1 (rp_nm 7) (rp_ex (re_int)) (nomark _)) (rw_and1 (rt_cmp (fun _ => rEq) (fun X h => op_eqA X h) eqD_ok.1 (rp_ex (re_op (fun _ => rI (fun _ j => 0 < j) fun i j => .int (i % j)) (fun X => op_modA X) modD_ok (rp_ex (re_ty (fun _ => rIntA) (fun X h => cb_int X h) intD_ok fac.b_int (by decide +kernel) (ra_cons (rp_nm 3) (ra_nil)))) (rp_ex (re_int)))) (rp_ex (re_int)) (nomark _)))))))) (rss_one (rs_set 2 (re_lst (ra_cons (rp_it (re_var 2)) (ra_nil))))) (rss_one (rs_set 2 (re_tup (ra_cons (rp_it (re_var 2)) (ra_nil)))))))))) (rss_nil)) (rss_one (rs_ret (re_mv 2))))))
/-! _law_case -/
abbrev N_law_case : List Str := ["store", "right", "out", "name"]
abbrev P_law_case : List Str := ["store"]
theorem sc_law_case : FnScope N_law_case P_law_case (defScope (top 34)) := ⟨rfl, rfl, rfl, by decide +kernel, rfl, by decide +kernel, by decide +kernel⟩
def mb_law_case : MS := s_seq (s_set 1 (m_lst (a_cons (m_it (m_call g_law_word (a_cons (p_nm 0) (a_cons (p_ex (m_c (.int 0))) (a_nil))))) (a_cons (m_it (m_call g_law_marks (a_cons (p_nm 0) (a_cons (p_ex (m_lst (a_nil))) (a_nil))))) (a_cons (m_it (m_call g_law_word (a_cons (p_nm 0) (a_cons (p_ex (m_c (.int 1))) (a_nil))))) (a_cons (m_it (m_call g_law_capital (a_cons (p_nm 0) (a_cons (p_ex (m_lst (a_nil))) (a_nil))))) (a_nil))))))) (s_seq (s_set 2 (m_bi listD (a_cons (p_nm 1) (a_nil)))) (s_seq (s_for (i_seq (m_var 1)) (g_name 3) (s_drop (m_app 2 (m_call g_law_onesign (a_cons (p_nm 0) (a_cons (p_nm 3) (a_nil))))))) (s_seq (s_drop (m_app 2 (m_call g_law_nearname (a_cons (p_nm 0) (a_nil))))) (s_seq (s_drop (m_app 2 (m_if (m_tst (m_op2 eqD (p_ex (m_call g_law_take (a_cons (p_nm 0) (a_cons (p_ex (m_c (.int 2))) (a_nil))))) (p_ex (m_c (.int 0))))) (m_call g_law_nearname (a_cons (p_nm 0) (a_nil))) (m_call g_law_text (a_cons (p_nm 0) (a_cons (p_ex (m_c (.int 12))) (a_nil))))))) (s_seq (s_drop (m_app 2 (m_call g_law_repeated (a_cons (p_nm 0) (a_nil))))) (s_seq (s_drop (m_app 2 (m_call g_law_any (a_cons (p_nm 0) (a_cons (p_ex (m_c (.int 1))) (a_nil)))))) (s_seq (s_drop (m_app 2 (m_call g_law_any (a_cons (p_nm 0) (a_cons (p_ex (m_c (.int 0))) (a_nil)))))) (s_seq (s_if (m_tst (m_op2 eqD (p_ex (m_call g_law_take (a_cons (p_nm 0) (a_cons (p_ex (m_c (.int 16))) (a_nil))))) (p_ex (m_c (.int 0))))) (s_sti 2 (m_op2 mulD (p_ex (m_lst (a_cons (m_it (m_call g_law_flatvalue (a_cons (p_nm 0) (a_nil)))) (a_nil)))) (p_ex (m_call g_law_edge (a_cons (p_nm 0) (a_cons (p_ex (m_c (.int 0))) (a_cons (p_ex (m_c (.int 4990))) (a_nil))))))) (p_ex (m_op1 negD (p_ex (m_c (.int 1)))))) (s_nop)) (s_seq (s_drop (m_app 2 (m_op2 ixD (p_ex (m_tup (a_cons (m_it (m_c (.bl true))) (a_cons (m_it (m_c (.int 1))) (a_cons (m_it (m_c (.bl false))) (a_cons (m_it (m_c (.int 0))) (a_cons (m_it (m_lst (a_cons (m_it (m_op2 ixD (p_nm 1) (p_ex (m_c (.int 0))))) (a_nil)))) (a_cons (m_it (m_tup (a_cons (m_it (m_op2 ixD (p_nm 1) (p_ex (m_c (.int 2))))) (a_nil)))) (a_nil))))))))) (p_ex (m_call g_law_take (a_cons (p_nm 0) (a_cons (p_ex (m_c (.int 6))) (a_nil)))))))) (s_ret (m_mv 2)))))))))))
def g_law_case : List O → Option (O × List O) := fnM 4 1 [0] mb_law_case
theorem ok_law_case {P : Program} {w : World} {K : PySem.W.Frag} {mg : Str → Option Value} {base : Heap} (fac : Fac mg) {f : Addr} {fd : FuncData} (F : FunD K "_law_case" "_law_case" (defArgs (top 34)) (defBody (top 34)) (defScope (top 34)) [] [] f fd) (c_law_take : Cal P w K mg base 2 "_law_take" 2 g_law_take) (c_law_flatvalue : Cal P w K mg base 6 "_law_flatvalue" 1 g_law_flatvalue) (c_law_edge : Cal P w K mg base 3 "_law_edge" 3 g_law_edge) (c_law_any : Cal P w K mg base 7 "_law_any" 2 g_law_any) (c_law_repeated : Cal P w K mg base 4 "_law_repeated" 1 g_law_repeated) (c_law_nearname : Cal P w K mg base 5 "_law_nearname" 1 g_law_nearname) (c_law_text : Cal P w K mg base 4 "_law_text" 2 g_law_text) (c_law_onesign : Cal P w K mg base 4 "_law_onesign" 2 g_law_onesign) (c_law_capital : Cal P w K mg base 4 "_law_capital" 2 g_law_capital) (c_law_word : Cal P w K mg base 4 "_law_word" 2 g_law_word) (c_law_marks : Cal P w K mg base 3 "_law_marks" 2 g_law_marks) :
    FnOk P w K mg base CX0 8 f fd P_law_case (spM K 1 g_law_case) :=
  fn_ok (k := 7) (N := N_law_case) (ps := P_law_case) (m := mb_law_case) [0] F sc_law_case (rss_cons (rs_set 1 (re_lst (ra_cons (rp_it (re_call c_law_word (Nat.le_of_ble_eq_true rfl) (ra_cons (rp_nm 0) (ra_cons (rp_ex (re_int)) (ra_nil))) (.cons (.cons .nil)))) (ra_cons (rp_it (re_call c_law_marks (Nat.le_of_ble_eq_true rfl) (ra_cons (rp_nm 0) (ra_cons (rp_ex (re_lst (ra_nil))) (ra_nil))) (.cons (.cons .nil)))) (ra_cons (rp_it (re_call c_law_word (Nat.le_of_ble_eq_true rfl) (ra_cons (rp_nm 0) (ra_cons (rp_ex (re_int)) (ra_nil))) (.cons (.cons .nil)))) (ra_cons (rp_it (re_call c_law_capital (Nat.le_of_ble_eq_true rfl) (ra_cons (rp_nm 0) (ra_cons (rp_ex (re_lst (ra_nil))) (ra_nil))) (.cons (.cons .nil)))) (ra_nil))))))) (rss_cons (rs_set 2 (re_ty rListA (fun X h => cb_list X h) listD_ok fac.b_list (by decide +kernel) (ra_cons (rp_nm 1) (ra_nil)))) (rss_cons (rs_for (vs := [3]) (ri_seq (re_var 1)) (rg_name 3) (rss_one (rs_expr (re_app 2 (re_call c_law_onesign (Nat.le_of_ble_eq_true rfl) (ra_cons (rp_nm 0) (ra_cons (rp_nm 3) (ra_nil))) (.cons (.cons .nil))))))) (rss_cons (rs_expr (re_app 2 (re_call c_law_nearname (Nat.le_of_ble_eq_true rfl) (ra_cons (rp_nm 0) (ra_nil)) (.cons .nil)))) (rss_cons (rs_expr (re_app 2 (re_if (rt_cmp (fun _ => rEq) (fun X h => op_eqA X h) eqD_ok.1 (rp_ex (re_call c_law_take (Nat.le_of_ble_eq_true rfl) (ra_cons (rp_nm 0) (ra_cons (rp_ex (re_int)) (ra_nil))) (.cons (.cons .nil)))) (rp_ex (re_int)) (nomark _)) (re_call c_law_nearname (Nat.le_of_ble_eq_true rfl) (ra_cons (rp_nm 0) (ra_nil)) (.cons .nil)) (re_call c_law_text (Nat.le_of_ble_eq_true rfl) (ra_cons (rp_nm 0) (ra_cons (rp_ex (re_int)) (ra_nil))) (.cons (.cons .nil)))))) (rss_cons (rs_expr (re_app 2 (re_call c_law_repeated (Nat.le_of_ble_eq_true rfl) (ra_cons (rp_nm 0) (ra_nil)) (.cons .nil)))) (rss_cons (rs_expr (re_app 2 (re_call c_law_any (Nat.le_of_ble_eq_true rfl) (ra_cons (rp_nm 0) (ra_cons (rp_ex (re_int)) (ra_nil))) (.cons (.cons .nil))))) (rss_cons (rs_expr (re_app 2 (re_call c_law_any (Nat.le_of_ble_eq_true rfl) (ra_cons (rp_nm 0) (ra_cons (rp_ex (re_int)) (ra_nil))) (.cons (.cons .nil))))) (rss_cons (rs_if (rt_cmp (fun _ => rEq) (fun X h => op_eqA X h) eqD_ok.1 (rp_ex (re_call c_law_take (Nat.le_of_ble_eq_true rfl) (ra_cons (rp_nm 0) (ra_cons (rp_ex (re_int)) (ra_nil))) (.cons (.cons .nil)))) (rp_ex (re_int)) (nomark _)) (rss_one (rs_sti 2 (re_op (fun _ => rMulA) (fun X => op_mulA X) mulD_ok (rp_ex (re_lst (ra_cons (rp_it (re_call c_law_flatvalue (Nat.le_of_ble_eq_true rfl) (ra_cons (rp_nm 0) (ra_nil)) (.cons .nil))) (ra_nil)))) (rp_ex (re_call c_law_edge (Nat.le_of_ble_eq_true rfl) (ra_cons (rp_nm 0) (ra_cons (rp_ex (re_int)) (ra_cons (rp_ex (re_int)) (ra_nil)))) (.cons (.cons (.cons .nil)))))) (rp_ex (re_un (fun _ => rU fun i => .int (-i)) (fun X => un_neg) negD_ok (rp_ex (re_int)))))) (rss_nil)) (rss_cons (rs_expr (re_app 2 (re_ix rIx (fun X => ix_seq) ixD_ok (rp_ex (re_tup (ra_cons (rp_it (re_bl)) (ra_cons (rp_it (re_int)) (ra_cons (rp_it (re_bl)) (ra_cons (rp_it (re_int)) (ra_cons (rp_it (re_lst (ra_cons (rp_it (re_ix rIx (fun X => ix_seq) ixD_ok (rp_nm 1) (rp_ex (re_int)))) (ra_nil)))) (ra_cons (rp_it (re_tup (ra_cons (rp_it (re_ix rIx (fun X => ix_seq) ixD_ok (rp_nm 1) (rp_ex (re_int)))) (ra_nil)))) (ra_nil))))))))) (rp_ex (re_call c_law_take (Nat.le_of_ble_eq_true rfl) (ra_cons (rp_nm 0) (ra_cons (rp_ex (re_int)) (ra_nil))) (.cons (.cons .nil))))))) (rss_one (rs_ret (re_mv 2)))))))))))))
/-! law -/
abbrev N_law : List Str := ["script", "store", "twins", "values", "due", "k", "one"]
abbrev P_law : List Str := ["script"]
theorem sc_law : FnScope N_law P_law (defScope (top 36)) := ⟨rfl, rfl, rfl, by decide +kernel, rfl, by decide +kernel, by decide +kernel⟩
def mb_law : MS := s_seq (s_set 1 (m_call g_law_store (a_cons (p_nm 0) (a_nil)))) (s_seq (s_set 2 (m_call g_law_case (a_cons (p_ex (m_bi listD (a_cons (p_nm 1) (a_nil)))) (a_nil)))) (s_seq (s_set 3 (m_call g_law_case (a_cons (p_nm 1) (a_nil)))) (s_seq (s_set 4 (m_lc [6] (i_seq (m_var 2)) (g_name 6) (m_yes) (m_lst (a_cons (m_it (m_call g_law_isword (a_cons (p_nm 6) (a_nil)))) (a_cons (m_it (m_call g_law_isop (a_cons (p_nm 6) (a_nil)))) (a_cons (m_it (m_call g_law_isname (a_cons (p_nm 6) (a_nil)))) (a_cons (m_it (m_call g_law_iscapital (a_cons (p_nm 6) (a_nil)))) (a_nil)))))))) (s_seq (s_for (i_rng1 (p_ex (m_bi lenD (a_cons (p_nm 3) (a_nil))))) (g_name 5) (s_if (m_not (m_tru (p_ex (m_call g_law_same (a_cons (p_ex (m_call g_law_answers (a_cons (p_ex (m_op2 ixD (p_nm 3) (p_nm 5))) (a_nil)))) (a_cons (p_ex (m_op2 ixD (p_nm 4) (p_nm 5))) (a_nil))))))) (s_ret (m_c (.bl false))) (s_nop))) (s_seq (s_for (i_rev1 (m_bi lenD (a_cons (p_nm 3) (a_nil)))) (g_name 5) (s_if (m_not (m_tru (p_ex (m_call g_law_same (a_cons (p_ex (m_call g_law_answers (a_cons (p_ex (m_op2 ixD (p_nm 3) (p_nm 5))) (a_nil)))) (a_cons (p_ex (m_op2 ixD (p_nm 4) (p_nm 5))) (a_nil))))))) (s_ret (m_c (.bl false))) (s_nop))) (s_ret (m_call g_law_same (a_cons (p_nm 3) (a_cons (p_nm 2) (a_nil))))))))))
def g_law : List O → Option (O × List O) := fnM 7 1 [0] mb_law
theorem ok_law {P : Program} {w : World} {K : PySem.W.Frag} {mg : Str → Option Value} {base : Heap} (fac : Fac mg) {f : Addr} {fd : FuncData} (F : FunD K "law" "law" (defArgs (top 36)) (defBody (top 36)) (defScope (top 36)) [] [] f fd) (c_law_same : Cal P w K mg base 2 "_law_same" 2 g_law_same) (c_law_answers : Cal P w K mg base 5 "_law_answers" 1 g_law_answers) (c_law_iscapital : Cal P w K mg base 2 "_law_iscapital" 1 g_law_iscapital) (c_law_isname : Cal P w K mg base 3 "_law_isname" 1 g_law_isname) (c_law_isop : Cal P w K mg base 4 "_law_isop" 1 g_law_isop) (c_law_isword : Cal P w K mg base 2 "_law_isword" 1 g_law_isword) (c_law_case : Cal P w K mg base 8 "_law_case" 1 g_law_case) (c_law_store : Cal P w K mg base 1 "_law_store" 1 g_law_store) :
    FnOk P w K mg base CX0 9 f fd P_law (spM K 1 g_law) :=
  fn_ok (k := 8) (N := N_law) (ps := P_law) (m := mb_law) [0] F sc_law (rss_cons (rs_set 1 (re_call c_law_store (Nat.le_of_ble_eq_true rfl) (ra_cons (rp_nm 0) (ra_nil)) (.cons .nil))) (rss_cons (rs_set 2 (re_call c_law_case (Nat.le_of_ble_eq_true rfl) (ra_cons (rp_ex (re_ty rListA (fun X h => cb_list X h) listD_ok fac.b_list (by decide +kernel) (ra_cons (rp_nm 1) (ra_nil)))) (ra_nil)) (.cons .nil))) (rss_cons (rs_set 3 (re_call c_law_case (Nat.le_of_ble_eq_true rfl) (ra_cons (rp_nm 1) (ra_nil)) (.cons .nil))) (rss_cons (rs_setLc 4 (own := [(("one" : Str), 6)]) (ri_seq (re_var 2)) (rg_name 6) (rts_nil) (re_lst (ra_cons (rp_it (re_call c_law_isword (Nat.le_of_ble_eq_true rfl) (ra_cons (rp_nm 6) (ra_nil)) (.cons .nil))) (ra_cons (rp_it (re_call c_law_isop (Nat.le_of_ble_eq_true rfl) (ra_cons (rp_nm 6) (ra_nil)) (.cons .nil))) (ra_cons (rp_it (re_call c_law_isname (Nat.le_of_ble_eq_true rfl) (ra_cons (rp_nm 6) (ra_nil)) (.cons .nil))) (ra_cons (rp_it (re_call c_law_iscapital (Nat.le_of_ble_eq_true rfl) (ra_cons (rp_nm 6) (ra_nil)) (.cons .nil))) (ra_nil))))))) (rss_cons (rs_for (vs := [5]) (ri_rng1 fac.b_range (rp_ex (re_bi rLenA (fun X h => cb_len X h) lenD_ok fac.b_len (by decide +kernel) (ra_cons (rp_nm 3) (ra_nil))))) (rg_name 5) (rss_one (rs_if (rt_not (rt_tru (rp_ex (re_call c_law_same (Nat.le_of_ble_eq_true rfl) (ra_cons (rp_ex (re_call c_law_answers (Nat.le_of_ble_eq_true rfl) (ra_cons (rp_ex (re_ix rIx (fun X => ix_seq) ixD_ok (rp_nm 3) (rp_nm 5))) (ra_nil)) (.cons .nil))) (ra_cons (rp_ex (re_ix rIx (fun X => ix_seq) ixD_ok (rp_nm 4) (rp_nm 5))) (ra_nil))) (.cons (.cons .nil)))))) (rss_one (rs_ret (re_bl))) (rss_nil)))) (rss_cons (rs_for (vs := [5]) (ri_rev1 fac.b_range fac.b_reversed (re_bi rLenA (fun X h => cb_len X h) lenD_ok fac.b_len (by decide +kernel) (ra_cons (rp_nm 3) (ra_nil)))) (rg_name 5) (rss_one (rs_if (rt_not (rt_tru (rp_ex (re_call c_law_same (Nat.le_of_ble_eq_true rfl) (ra_cons (rp_ex (re_call c_law_answers (Nat.le_of_ble_eq_true rfl) (ra_cons (rp_ex (re_ix rIx (fun X => ix_seq) ixD_ok (rp_nm 3) (rp_nm 5))) (ra_nil)) (.cons .nil))) (ra_cons (rp_ex (re_ix rIx (fun X => ix_seq) ixD_ok (rp_nm 4) (rp_nm 5))) (ra_nil))) (.cons (.cons .nil)))))) (rss_one (rs_ret (re_bl))) (rss_nil)))) (rss_one (rs_ret (re_call c_law_same (Nat.le_of_ble_eq_true rfl) (ra_cons (rp_nm 3) (ra_cons (rp_nm 2) (ra_nil))) (.cons (.cons .nil)))))))))))
/-! the head -/
def dd (i : Nat) (x : Str) : He.DefD := ⟨(x, none), x, x, defArgs (top i), defBody (top i), defScope (top i), [], []⟩
def nms0 : List Str := [Str.ofString "MARKS", Str.ofString "SMALL_LETTERS", Str.ofString "GREAT_LETTERS", Str.ofString "WORD_SIGNS", Str.ofString "made_of", Str.ofString "is_atom_word", Str.ofString "is_macro_name", Str.ofString "is_operator_name", Str.ofString "is_kind_name", Str.ofString "_law_mixed", Str.ofString "_law_store", Str.ofString "_law_take", Str.ofString "_law_edge", Str.ofString "_law_pick", Str.ofString "_law_wide", Str.ofString "_law_signs", Str.ofString "_law_text", Str.ofString "_law_word", Str.ofString "_law_capital", Str.ofString "_law_marks"]
def nms1 : List Str := [Str.ofString "_law_nearname", Str.ofString "_law_flatvalue", Str.ofString "_law_any", Str.ofString "_law_sort", Str.ofString "_law_same", Str.ofString "_law_allin", Str.ofString "_law_isword", Str.ofString "_law_isname", Str.ofString "_law_isop", Str.ofString "_law_iscapital", Str.ofString "_law_onesign", Str.ofString "_law_repeated", Str.ofString "_law_case", Str.ofString "_law_answers"]
def names : List Str := nms0 ++ nms1
def fns : List He.DefD := [dd 5 (Str.ofString "made_of"), dd 11 (Str.ofString "_law_mixed"), dd 12 (Str.ofString "_law_store"), dd 17 (Str.ofString "_law_signs"), dd 25 (Str.ofString "_law_sort"), dd 27 (Str.ofString "_law_allin"), dd 6 (Str.ofString "is_atom_word"), dd 9 (Str.ofString "is_kind_name"), dd 13 (Str.ofString "_law_take"), dd 26 (Str.ofString "_law_same"), dd 28 (Str.ofString "_law_isword"), dd 31 (Str.ofString "_law_iscapital"), dd 7 (Str.ofString "is_macro_name"), dd 14 (Str.ofString "_law_edge"), dd 15 (Str.ofString "_law_pick"), dd 16 (Str.ofString "_law_wide"), dd 21 (Str.ofString "_law_marks"), dd 29 (Str.ofString "_law_isname"), dd 8 (Str.ofString "is_operator_name"), dd 18 (Str.ofString "_law_text"), dd 19 (Str.ofString "_law_word"), dd 20 (Str.ofString "_law_capital"), dd 30 (Str.ofString "_law_isop"), dd 32 (Str.ofString "_law_onesign"), dd 33 (Str.ofString "_law_repeated"), dd 22 (Str.ofString "_law_nearname"), dd 35 (Str.ofString "_law_answers"), dd 23 (Str.ofString "_law_flatvalue"), dd 24 (Str.ofString "_law_any"), dd 34 (Str.ofString "_law_case"), dd 36 (Str.ofString "law")]
def fas : List He.Fa := [.glo (Str.ofString "made_of"), .glo (Str.ofString "_law_mixed"), .glo (Str.ofString "_law_store"), .glo (Str.ofString "_law_signs"), .glo (Str.ofString "_law_sort"), .glo (Str.ofString "_law_allin"), .glo (Str.ofString "is_atom_word"), .glo (Str.ofString "is_kind_name"), .glo (Str.ofString "_law_take"), .glo (Str.ofString "_law_same"), .glo (Str.ofString "_law_isword"), .glo (Str.ofString "_law_iscapital"), .glo (Str.ofString "is_macro_name"), .glo (Str.ofString "_law_edge"), .glo (Str.ofString "_law_pick"), .glo (Str.ofString "_law_wide"), .glo (Str.ofString "_law_marks"), .glo (Str.ofString "_law_isname"), .glo (Str.ofString "is_operator_name"), .glo (Str.ofString "_law_text"), .glo (Str.ofString "_law_word"), .glo (Str.ofString "_law_capital"), .glo (Str.ofString "_law_isop"), .glo (Str.ofString "_law_onesign"), .glo (Str.ofString "_law_repeated"), .glo (Str.ofString "_law_nearname"), .glo (Str.ofString "_law_answers"), .glo (Str.ofString "_law_flatvalue"), .glo (Str.ofString "_law_any"), .glo (Str.ofString "_law_case"), .glo (Str.ofString "law"), .free (Str.ofString "all"), .free (Str.ofString "bool"), .free (Str.ofString "dict"), .free (Str.ofString "int"), .free (Str.ofString "isinstance"), .free (Str.ofString "len"), .free (Str.ofString "list"), .free (Str.ofString "max"), .free (Str.ofString "range"), .free (Str.ofString "reversed"), .free (Str.ofString "str"), .free (Str.ofString "tuple"), .str (Str.ofString "MARKS") (Str.ofString "+-*/<>=!?&|^~:.@$"), .str (Str.ofString "SMALL_LETTERS") (Str.ofString "abcdefghijklmnopqrstuvwxyz"), .str (Str.ofString "GREAT_LETTERS") (Str.ofString "ABCDEFGHIJKLMNOPQRSTUVWXYZ"), .str (Str.ofString "WORD_SIGNS") (Str.ofString "abcdefghijklmnopqrstuvwxyz0123456789")]
abbrev RR : PySem.W.OpenRow := PySem.W.OpenLaw.row PySem.Challenge.rw_textortree_k00_names_of_four_sorts
abbrev hk : PySem.W.Hook := He.hookD 4 fas fns
def ob (s : PySem.W.SharedT) : He.AlD := He.obsDG 4 fas fns (HandSHeadRun.getT s)
theorem ob_eq (s : PySem.W.SharedT) : ob s = hk.obs s.abs := He.obsDG_eq (HandSHeadRun.getT_eq s)
theorem run (w : World) : HandSHeadRun.RunEq RR (PySem.W.view RR.prog [36]) hk ob 1500 names w := by
  intro os
  kernel_rfl
theorem fac_ok {K : PySem.W.Frag} {h : Heap} {mg : Str → Option Value} (X : K.In h) (G : h.Ns mainGlobals mg) (c : He.SaysD fas fns K) : Fac mg where
  b_all := He.free_ok X G (c.fact 31)
  b_bool := He.free_ok X G (c.fact 32)
  b_dict := He.free_ok X G (c.fact 33)
  b_int := He.free_ok X G (c.fact 34)
  b_isinstance := He.free_ok X G (c.fact 35)
  b_len := He.free_ok X G (c.fact 36)
  b_list := He.free_ok X G (c.fact 37)
  b_max := He.free_ok X G (c.fact 38)
  b_range := He.free_ok X G (c.fact 39)
  b_reversed := He.free_ok X G (c.fact 40)
  b_str := He.free_ok X G (c.fact 41)
  b_tuple := He.free_ok X G (c.fact 42)
  s_MARKS := He.str_ok X G (c.fact 43)
  s_SMALL_LETTERS := He.str_ok X G (c.fact 44)
  s_GREAT_LETTERS := He.str_ok X G (c.fact 45)
  s_WORD_SIGNS := He.str_ok X G (c.fact 46)
theorem facts {P : Program} {w : World} {K : PySem.W.Frag} {h : Heap} {mg : Str → Option Value} {f : Addr} (X : K.In h) (G : h.Ns mainGlobals mg) (hfa : mg (Str.ofString "law") = some (.ref f)) (c : He.SaysD fas fns K) :
    ∃ fd : FuncData, (∀ (s : Shared) (v : Value), BindsTo s fd ⟨[v], []⟩ [("script", v)]) ∧ ∀ base : Heap, K.In base → base.Ns mainGlobals mg → FnOk P w K mg base CX0 9 f fd P_law (spM K 1 g_law) := by
  have fac : Fac mg := fac_ok X G c
  obtain ⟨fd0, F0⟩ := c.def_ 0
  obtain ⟨fd1, F1⟩ := c.def_ 1
  obtain ⟨fd2, F2⟩ := c.def_ 2
  obtain ⟨fd3, F3⟩ := c.def_ 3
  obtain ⟨fd4, F4⟩ := c.def_ 4
  obtain ⟨fd5, F5⟩ := c.def_ 5
  obtain ⟨fd6, F6⟩ := c.def_ 6
  obtain ⟨fd7, F7⟩ := c.def_ 7
  obtain ⟨fd8, F8⟩ := c.def_ 8
  obtain ⟨fd9, F9⟩ := c.def_ 9
  obtain ⟨fd10, F10⟩ := c.def_ 10
  obtain ⟨fd11, F11⟩ := c.def_ 11
  obtain ⟨fd12, F12⟩ := c.def_ 12
  obtain ⟨fd13, F13⟩ := c.def_ 13
  obtain ⟨fd14, F14⟩ := c.def_ 14
  obtain ⟨fd15, F15⟩ := c.def_ 15
  obtain ⟨fd16, F16⟩ := c.def_ 16
  obtain ⟨fd17, F17⟩ := c.def_ 17
  obtain ⟨fd18, F18⟩ := c.def_ 18
  obtain ⟨fd19, F19⟩ := c.def_ 19
  obtain ⟨fd20, F20⟩ := c.def_ 20
  obtain ⟨fd21, F21⟩ := c.def_ 21
  obtain ⟨fd22, F22⟩ := c.def_ 22
  obtain ⟨fd23, F23⟩ := c.def_ 23
  obtain ⟨fd24, F24⟩ := c.def_ 24
  obtain ⟨fd25, F25⟩ := c.def_ 25
  obtain ⟨fd26, F26⟩ := c.def_ 26
  obtain ⟨fd27, F27⟩ := c.def_ 27
  obtain ⟨fd28, F28⟩ := c.def_ 28
  obtain ⟨fd29, F29⟩ := c.def_ 29
  obtain ⟨fd30, F30⟩ := c.def_ 30
  have e := hfa.symm.trans (He.glo_ok X G (c.fact 30))
  cases e
  have b := FunD.bindsA (ps := P_law) F30 fun _ _ _ _ _ _ us hl => match us, hl with | [_], _ => rfl
  refine ⟨fd30, fun s v => b s [v] rfl, fun base _ _ => ?_⟩
  have c_made_of : Cal P w K mg base 1 "made_of" 3 g_made_of := Cal.mk' (ps := P_made_of) rfl (ok_made_of fac F0 ) (He.glo_ok X G (c.fact 0)) F0.kp (FunD.bindsN (ps := P_made_of) F0 fun _ _ _ _ _ _ us hl => match us, hl with | [_, _, _], _ => rfl)
  have c_law_mixed : Cal P w K mg base 1 "_law_mixed" 2 g_law_mixed := Cal.mk' (ps := P_law_mixed) rfl (ok_law_mixed fac F1 ) (He.glo_ok X G (c.fact 1)) F1.kp (FunD.bindsN (ps := P_law_mixed) F1 fun _ _ _ _ _ _ us hl => match us, hl with | [_, _], _ => rfl)
  have c_law_store : Cal P w K mg base 1 "_law_store" 1 g_law_store := Cal.mk' (ps := P_law_store) rfl (ok_law_store fac F2 ) (He.glo_ok X G (c.fact 2)) F2.kp (FunD.bindsN (ps := P_law_store) F2 fun _ _ _ _ _ _ us hl => match us, hl with | [_], _ => rfl)
  have c_law_signs : Cal P w K mg base 1 "_law_signs" 0 g_law_signs := Cal.mk' (ps := P_law_signs) rfl (ok_law_signs fac F3 ) (He.glo_ok X G (c.fact 3)) F3.kp (FunD.bindsN (ps := P_law_signs) F3 fun _ _ _ _ _ _ us hl => match us, hl with | [], _ => rfl)
  have c_law_sort : Cal P w K mg base 1 "_law_sort" 1 g_law_sort := Cal.mk' (ps := P_law_sort) rfl (ok_law_sort fac F4 ) (He.glo_ok X G (c.fact 4)) F4.kp (FunD.bindsN (ps := P_law_sort) F4 fun _ _ _ _ _ _ us hl => match us, hl with | [_], _ => rfl)
  have c_law_allin : Cal P w K mg base 1 "_law_allin" 2 g_law_allin := Cal.mk' (ps := P_law_allin) rfl (ok_law_allin fac F5 ) (He.glo_ok X G (c.fact 5)) F5.kp (FunD.bindsN (ps := P_law_allin) F5 fun _ _ _ _ _ _ us hl => match us, hl with | [_, _], _ => rfl)
  have c_is_atom_word : Cal P w K mg base 2 "is_atom_word" 1 g_is_atom_word := Cal.mk' (ps := P_is_atom_word) rfl (ok_is_atom_word fac F6 c_made_of) (He.glo_ok X G (c.fact 6)) F6.kp (FunD.bindsN (ps := P_is_atom_word) F6 fun _ _ _ _ _ _ us hl => match us, hl with | [_], _ => rfl)
  have c_is_kind_name : Cal P w K mg base 2 "is_kind_name" 1 g_is_kind_name := Cal.mk' (ps := P_is_kind_name) rfl (ok_is_kind_name fac F7 c_made_of) (He.glo_ok X G (c.fact 7)) F7.kp (FunD.bindsN (ps := P_is_kind_name) F7 fun _ _ _ _ _ _ us hl => match us, hl with | [_], _ => rfl)
  have c_law_take : Cal P w K mg base 2 "_law_take" 2 g_law_take := Cal.mk' (ps := P_law_take) rfl (ok_law_take fac F8 c_law_mixed) (He.glo_ok X G (c.fact 8)) F8.kp (FunD.bindsN (ps := P_law_take) F8 fun _ _ _ _ _ _ us hl => match us, hl with | [_, _], _ => rfl)
  have c_law_same : Cal P w K mg base 2 "_law_same" 2 g_law_same := Cal.mk' (ps := P_law_same) rfl (ok_law_same fac F9 c_law_sort) (He.glo_ok X G (c.fact 9)) F9.kp (FunD.bindsN (ps := P_law_same) F9 fun _ _ _ _ _ _ us hl => match us, hl with | [_, _], _ => rfl)
  have c_law_isword : Cal P w K mg base 2 "_law_isword" 1 g_law_isword := Cal.mk' (ps := P_law_isword) rfl (ok_law_isword fac F10 c_law_allin) (He.glo_ok X G (c.fact 10)) F10.kp (FunD.bindsN (ps := P_law_isword) F10 fun _ _ _ _ _ _ us hl => match us, hl with | [_], _ => rfl)
  have c_law_iscapital : Cal P w K mg base 2 "_law_iscapital" 1 g_law_iscapital := Cal.mk' (ps := P_law_iscapital) rfl (ok_law_iscapital fac F11 c_law_allin) (He.glo_ok X G (c.fact 11)) F11.kp (FunD.bindsN (ps := P_law_iscapital) F11 fun _ _ _ _ _ _ us hl => match us, hl with | [_], _ => rfl)
  have c_is_macro_name : Cal P w K mg base 3 "is_macro_name" 1 g_is_macro_name := Cal.mk' (ps := P_is_macro_name) rfl (ok_is_macro_name fac F12 c_is_atom_word) (He.glo_ok X G (c.fact 12)) F12.kp (FunD.bindsN (ps := P_is_macro_name) F12 fun _ _ _ _ _ _ us hl => match us, hl with | [_], _ => rfl)
  have c_law_edge : Cal P w K mg base 3 "_law_edge" 3 g_law_edge := Cal.mk' (ps := P_law_edge) rfl (ok_law_edge fac F13 c_law_take) (He.glo_ok X G (c.fact 13)) F13.kp (FunD.bindsN (ps := P_law_edge) F13 fun _ _ _ _ _ _ us hl => match us, hl with | [_, _, _], _ => rfl)
  have c_law_pick : Cal P w K mg base 3 "_law_pick" 2 g_law_pick := Cal.mk' (ps := P_law_pick) rfl (ok_law_pick fac F14 c_law_take) (He.glo_ok X G (c.fact 14)) F14.kp (FunD.bindsN (ps := P_law_pick) F14 fun _ _ _ _ _ _ us hl => match us, hl with | [_, _], _ => rfl)
  have c_law_wide : Cal P w K mg base 3 "_law_wide" 1 g_law_wide := Cal.mk' (ps := P_law_wide) rfl (ok_law_wide fac F15 c_law_take) (He.glo_ok X G (c.fact 15)) F15.kp (FunD.bindsN (ps := P_law_wide) F15 fun _ _ _ _ _ _ us hl => match us, hl with | [_], _ => rfl)
  have c_law_marks : Cal P w K mg base 3 "_law_marks" 2 g_law_marks := Cal.mk' (ps := P_law_marks) rfl (ok_law_marks fac F16 c_law_take) (He.glo_ok X G (c.fact 16)) F16.kp (FunD.bindsN (ps := P_law_marks) F16 fun _ _ _ _ _ _ us hl => match us, hl with | [_, _], _ => rfl)
  have c_law_isname : Cal P w K mg base 3 "_law_isname" 1 g_law_isname := Cal.mk' (ps := P_law_isname) rfl (ok_law_isname fac F17 c_law_isword) (He.glo_ok X G (c.fact 17)) F17.kp (FunD.bindsN (ps := P_law_isname) F17 fun _ _ _ _ _ _ us hl => match us, hl with | [_], _ => rfl)
  have c_is_operator_name : Cal P w K mg base 4 "is_operator_name" 1 g_is_operator_name := Cal.mk' (ps := P_is_operator_name) rfl (ok_is_operator_name fac F18 c_made_of c_is_macro_name) (He.glo_ok X G (c.fact 18)) F18.kp (FunD.bindsN (ps := P_is_operator_name) F18 fun _ _ _ _ _ _ us hl => match us, hl with | [_], _ => rfl)
  have c_law_text : Cal P w K mg base 4 "_law_text" 2 g_law_text := Cal.mk' (ps := P_law_text) rfl (ok_law_text fac F19 c_law_edge c_law_pick c_law_signs) (He.glo_ok X G (c.fact 19)) F19.kp (FunD.bindsN (ps := P_law_text) F19 fun _ _ _ _ _ _ us hl => match us, hl with | [_, _], _ => rfl)
  have c_law_word : Cal P w K mg base 4 "_law_word" 2 g_law_word := Cal.mk' (ps := P_law_word) rfl (ok_law_word fac F20 c_law_pick c_law_take) (He.glo_ok X G (c.fact 20)) F20.kp (FunD.bindsN (ps := P_law_word) F20 fun _ _ _ _ _ _ us hl => match us, hl with | [_, _], _ => rfl)
  have c_law_capital : Cal P w K mg base 4 "_law_capital" 2 g_law_capital := Cal.mk' (ps := P_law_capital) rfl (ok_law_capital fac F21 c_law_take c_law_pick) (He.glo_ok X G (c.fact 21)) F21.kp (FunD.bindsN (ps := P_law_capital) F21 fun _ _ _ _ _ _ us hl => match us, hl with | [_, _], _ => rfl)
  have c_law_isop : Cal P w K mg base 4 "_law_isop" 1 g_law_isop := Cal.mk' (ps := P_law_isop) rfl (ok_law_isop fac F22 c_law_isname c_law_allin) (He.glo_ok X G (c.fact 22)) F22.kp (FunD.bindsN (ps := P_law_isop) F22 fun _ _ _ _ _ _ us hl => match us, hl with | [_], _ => rfl)
  have c_law_onesign : Cal P w K mg base 4 "_law_onesign" 2 g_law_onesign := Cal.mk' (ps := P_law_onesign) rfl (ok_law_onesign fac F23 c_law_take c_law_pick c_law_signs) (He.glo_ok X G (c.fact 23)) F23.kp (FunD.bindsN (ps := P_law_onesign) F23 fun _ _ _ _ _ _ us hl => match us, hl with | [_, _], _ => rfl)
  have c_law_repeated : Cal P w K mg base 4 "_law_repeated" 1 g_law_repeated := Cal.mk' (ps := P_law_repeated) rfl (ok_law_repeated fac F24 c_law_pick c_law_signs c_law_take c_law_edge) (He.glo_ok X G (c.fact 24)) F24.kp (FunD.bindsN (ps := P_law_repeated) F24 fun _ _ _ _ _ _ us hl => match us, hl with | [_], _ => rfl)
  have c_law_nearname : Cal P w K mg base 5 "_law_nearname" 1 g_law_nearname := Cal.mk' (ps := P_law_nearname) rfl (ok_law_nearname fac F25 c_law_pick c_law_signs c_law_marks c_law_capital c_law_word) (He.glo_ok X G (c.fact 25)) F25.kp (FunD.bindsN (ps := P_law_nearname) F25 fun _ _ _ _ _ _ us hl => match us, hl with | [_], _ => rfl)
  have c_law_answers : Cal P w K mg base 5 "_law_answers" 1 g_law_answers := Cal.mk' (ps := P_law_answers) rfl (ok_law_answers fac F26 c_is_kind_name c_is_macro_name c_is_operator_name c_is_atom_word) (He.glo_ok X G (c.fact 26)) F26.kp (FunD.bindsN (ps := P_law_answers) F26 fun _ _ _ _ _ _ us hl => match us, hl with | [_], _ => rfl)
  have c_law_flatvalue : Cal P w K mg base 6 "_law_flatvalue" 1 g_law_flatvalue := Cal.mk' (ps := P_law_flatvalue) rfl (ok_law_flatvalue fac F27 c_law_text c_law_nearname c_law_wide c_law_take) (He.glo_ok X G (c.fact 27)) F27.kp (FunD.bindsN (ps := P_law_flatvalue) F27 fun _ _ _ _ _ _ us hl => match us, hl with | [_], _ => rfl)
  have c_law_any : Cal P w K mg base 7 "_law_any" 2 g_law_any := Cal.mk' (ps := P_law_any) rfl (ok_law_any fac F28 c_law_take c_law_flatvalue) (He.glo_ok X G (c.fact 28)) F28.kp (FunD.bindsN (ps := P_law_any) F28 fun _ _ _ _ _ _ us hl => match us, hl with | [_, _], _ => rfl)
  have c_law_case : Cal P w K mg base 8 "_law_case" 1 g_law_case := Cal.mk' (ps := P_law_case) rfl (ok_law_case fac F29 c_law_take c_law_flatvalue c_law_edge c_law_any c_law_repeated c_law_nearname c_law_text c_law_onesign c_law_capital c_law_word c_law_marks) (He.glo_ok X G (c.fact 29)) F29.kp (FunD.bindsN (ps := P_law_case) F29 fun _ _ _ _ _ _ us hl => match us, hl with | [_], _ => rfl)
  exact ok_law fac F30 c_law_same c_law_answers c_law_iscapital c_law_isname c_law_isop c_law_isword c_law_case c_law_store
end K00
open PySem PySem.W PySem.Calls PyProof.Rows
/-- the row from the law's mirror -/
theorem K00.holds_of (hm : ∀ ns : List Int, ns.length ≤ 63 → ∃ outs, K00.g_law [.v (.rl (ns.map Mr.D.int))] = some (.v (.bl true), outs)) : PySem.Challenge.rw_textortree_k00_names_of_four_sorts.Holds := by
  w_on; o_law
  refine HandSHeadRun.head_any (r := OpenLaw.row PySem.Challenge.rw_textortree_k00_names_of_four_sorts) (q := view (OpenLaw.row PySem.Challenge.rw_textortree_k00_names_of_four_sorts).prog [36]) (H := K00.hk) (ob := K00.ob) (M := 1500) (loose := K00.names) (d := HandSHeadRun.topDef (OpenLaw.row PySem.Challenge.rw_textortree_k00_names_of_four_sorts).prog 36) (kwd := []) K00.ob_eq
    (by kernel_rfl) (fun s => by kernel_rfl) K00.run (by kernel_rfl) (by kernel_rfl) (by kernel_rfl) (by rfl) (by first | assumption | decide +kernel) (by decide +kernel) ⟨rfl, rfl, rfl, rfl, rfl, by decide +kernel⟩ ?hw ?hc
  case hw => w_witness2
  case hc =>
    refine L2.walk_ofE (l := PySem.Challenge.rw_textortree_k00_names_of_four_sorts) (n := 63) (k := 9) (x := "script") (CX := L2.CX0) rfl (by decide) (by kernel_rfl) ⟨rfl, by decide, by decide⟩ ?F (fun _ _ _ _ z => z)
    intro w mg fa h Y G hmg0
    obtain ⟨K, KX, c⟩ := Y
    have hmg : mg (PySem.Str.ofString "law") = some (.ref fa) := by
      have e : (HandSHeadRun.topDef (OpenLaw.row PySem.Challenge.rw_textortree_k00_names_of_four_sorts).prog 36).name = (PySem.Str.ofString "law") := by kernel_rfl
      rw [← e]
      exact hmg0
    obtain ⟨fd, hb, hF⟩ := K00.facts (P := (PySem.Challenge.rw_textortree_k00_names_of_four_sorts).prog) (w := w) KX G hmg c
    refine ⟨K, fd, Mr.spM K 1 K00.g_law, KX, hb, fun H a ns hl _ hS => ?_, hF⟩
    obtain ⟨outs, e⟩ := hm ns hl
    exact Mr.spM_law hS e

open PySem PySem.Spec L2 Mr
local macro_rules | `(tactic| walk_at "mw1") => `(tactic| (first
  | with_reducible refine wq_set ?_ | with_reducible refine wq_drop ?_ | with_reducible refine wq_asg ?_ | with_reducible refine wq_sti ?_ | with_reducible refine wq_aug ?_ | with_reducible refine wq_nop ?_ | with_reducible refine ws_set ?_ | with_reducible refine ws_if ?_ | with_reducible refine ws_ret ?_ | with_reducible refine ws_drop ?_ | with_reducible refine ws_nop ?_ | with_reducible refine ws_asg ?_ | with_reducible refine ws_for ?_ | with_reducible refine ws_sti ?_ | with_reducible refine ws_bk ?_ | with_reducible refine ws_ct ?_ | with_reducible refine ws_retN ?_
  | ((with_reducible refine sq_nxE (ρ' := ?r) ?e ?_); (case e => (first | (dsimp only [List.set, bk, List.getElem?_cons_zero, List.getElem?_cons_succ]; exact rfl) | exact rfl))) | with_reducible refine sq_rt ?_ | with_reducible refine sq_bk ?_ | with_reducible refine sq_ct ?_ | with_reducible refine ct_rt ?_ | with_reducible refine ct_bk ?_ | with_reducible refine ct_ct ?_ | with_reducible refine tn_rt ?_ | with_reducible refine tn_bk ?_ | with_reducible refine fin_rt ?_ | with_reducible refine fin_nx ?_
  | with_reducible refine we_op2 ?_ | with_reducible refine we_c ?_ | with_reducible refine we_bi ?_ | with_reducible refine we_call ?_ | with_reducible refine we_lst ?_ | with_reducible refine we_tup ?_ | with_reducible refine we_if ?_ | with_reducible refine we_andV ?_ | with_reducible refine we_orV ?_ | with_reducible refine we_notV ?_ | with_reducible refine we_chain ?_ | with_reducible refine we_sl ?_ | with_reducible refine we_op1 ?_ | with_reducible refine we_m0 ?_ | with_reducible refine we_m1 ?_
  | ((with_reducible refine we_var (d := ?d) ?e ?_); (case e => rfl)) | ((with_reducible refine we_varL (ds := ?d) ?e ?_); (case e => rfl)) | ((with_reducible refine we_mv (d := ?d) ?e ?_); (case e => rfl)) | ((with_reducible refine we_mvL (ds := ?d) ?e ?_); (case e => rfl)) | ((with_reducible refine we_app (ds0 := ?d) ?e ?_); (case e => rfl))
  | ((with_reducible refine wp_nm (d := ?d) ?e ?_); (case e => rfl)) | ((with_reducible refine wp_nmL (d := ?d) ?e ?_); (case e => rfl)) | with_reducible refine wp_ex ?_ | with_reducible refine wp_it ?_ | with_reducible refine wa_cons ?_ | with_reducible refine wa_nil ?_
  | with_reducible refine wt_tst ?_ | with_reducible refine wt_tru ?_ | with_reducible refine wt_and ?_ | with_reducible refine wt_or ?_ | with_reducible refine wt_not ?_ | with_reducible refine wt_yes ?_ | with_reducible refine wo_none ?_ | with_reducible refine wo_some ?_
  | ((with_reducible refine wv_i (d := ?d) ?e ?_); (case e => rfl)) | ((with_reducible refine wvs_i (d := ?d) ?e ?_); (case e => rfl)) | ((with_reducible refine wk_i (a := ?d) (b := ?dd) ?e ?_); (case e => rfl))
  | with_reducible refine wr_add ?_ | with_reducible refine wr_sub ?_ | ((with_reducible refine wr_mul ?e ?_); (case e => omega)) | ((with_reducible refine wr_mod ?e ?_); (case e => (first | omega | decide +kernel))) | ((with_reducible refine wr_fdiv ?e ?_); (case e => omega)) | ((with_reducible refine wr_pow ?e ?_); (case e => decide +kernel)) | with_reducible refine wr_max2 ?_ | with_reducible refine wr_min2 ?_ | with_reducible refine wr_lenL ?_ | with_reducible refine wr_lenT ?_ | with_reducible refine wr_lenR ?_ | ((with_reducible refine wr_lenS ?e ?_); (case e => (first | assumption | omega | decide +kernel))) | ((with_reducible refine wr_addS ?e ?_); (case e => (first | omega | decide +kernel | (simp only [len_app, len_one]; omega)))) | with_reducible refine wr_addL (Nat.le_of_ble_eq_true rfl) ?_ | ((with_reducible refine wr_slS ?e ?_); (case e => (first | assumption | omega))) | ((with_reducible refine wr_low ?e ?_); (case e => (first | assumption | omega))) | ((with_reducible refine wr_upp ?e ?_); (case e => (first | assumption | omega))) | with_reducible refine wr_lt ?_ | with_reducible refine wr_le ?_ | with_reducible refine wr_gt ?_ | with_reducible refine wr_ge ?_ | with_reducible refine wr_eq ?_ | with_reducible refine wr_ne ?_ | with_reducible refine wr_neg ?_ | with_reducible refine wr_int ?_
  | ((with_reducible refine wr_ixL (d := ?d) ?e ?_); (case e => (first | (refine atI_nat (j := 0) ?_; rfl) | (refine atI_nat (j := 1) ?_; rfl) | (refine atI_nat (j := 2) ?_; rfl) | (refine atI_nat (j := 3) ?_; rfl) | (refine atI_nat (j := 4) ?_; rfl) | (refine atI_nat (j := 5) ?_; rfl))))
  | ((with_reducible refine wr_ixT (d := ?d) ?e ?_); (case e => (first | (refine atI_nat (j := 0) ?_; rfl) | (refine atI_nat (j := 1) ?_; rfl) | (refine atI_nat (j := 2) ?_; rfl) | (refine atI_nat (j := 3) ?_; rfl))))
  | with_reducible refine wifNT ?_ | with_reducible refine wifNF ?_ | with_reducible refine wifT ?_ | with_reducible refine wifF ?_
  | with_reducible refine wi_seq ?_ | with_reducible refine wi_rng1 ?_ | with_reducible refine wi_rng2 ?_ | with_reducible refine wi_rev1 ?_
  | ((with_reducible refine wx_i (j := ?d) ?e ?_); (case e => (first | (refine ixN_nat (j := 0) ?_; (simp only [List.length_map, List.length_cons, List.length_set]; omega)) | (refine ixN_nat (j := 1) ?_; (simp only [List.length_map, List.length_cons, List.length_set]; omega)) | (refine ixN_nat (j := 2) ?_; (simp only [List.length_map, List.length_cons, List.length_set]; omega)) | (refine ixN_nat (j := 3) ?_; (simp only [List.length_map, List.length_cons, List.length_set]; omega)) | (refine ixN_nat (j := 4) ?_; (simp only [List.length_map, List.length_cons, List.length_set]; omega)))))
  | with_reducible refine ⟨Nat.le_of_ble_eq_true rfl, ?_⟩
  | with_reducible refine wr_isn0 ?_ | with_reducible refine wr_isn1 ?_ | with_reducible refine wr_isn2 ?_ | with_reducible refine wr_isn3 ?_ | with_reducible refine wr_isn4 ?_ | with_reducible refine wr_isn5 ?_
  | ((with_reducible refine wr_isi (b := ?d) ?e ?_); (case e => (with_reducible (first | exact isi_non_bool | exact isi_non_int | exact isi_non_str | exact isi_non_tuple | exact isi_non_list | exact isi_non_dict | exact isi_bl_bool | exact isi_bl_int | exact isi_bl_str | exact isi_bl_tuple | exact isi_bl_list | exact isi_bl_dict | exact isi_int_bool | exact isi_int_int | exact isi_int_str | exact isi_int_tuple | exact isi_int_list | exact isi_int_dict | exact isi_str_bool | exact isi_str_int | exact isi_str_str | exact isi_str_tuple | exact isi_str_list | exact isi_str_dict | exact isi_tup_bool | exact isi_tup_int | exact isi_tup_str | exact isi_tup_tuple | exact isi_tup_list | exact isi_tup_dict | exact isi_lst_bool | exact isi_lst_int | exact isi_lst_str | exact isi_lst_tuple | exact isi_lst_list | exact isi_lst_dict))))
  | ((with_reducible refine wr_ninNil' ?e ?_); (case e => rfl))
  | with_reducible refine wr_in1 ?_ | with_reducible refine wr_nin1 ?_ | with_reducible refine wr_listS ?_
  | ((with_reducible refine Exists.intro (w := ?d) (And.intro ?e ?_)); (case e => rfl)) | ((with_reducible refine wr_i (r := ?d) ?e ?_); (case e => rfl))))
local macro_rules | `(tactic| walk_at "mw") => `(tactic| (repeat walk_at "mw1"))
local macro_rules | `(tactic| walk_at "mwfn") => `(tactic| ((with_reducible refine wg_fnE (ρ := ?r) ?e ?_); (case e => ((simp only [List.length_cons, List.length_nil, Nat.reduceAdd, Nat.reduceSub, List.replicate, List.cons_append, List.nil_append]); exact rfl))))

namespace K00
theorem mixed_w {a t : Int} {P : O → List O → Prop} (h : ∀ r : Int, P (.v (.int r)) [.v (.int a), .v (.int t)]) : WG (g_law_mixed [.v (.int a), .v (.int t)]) P := by
  unfold g_law_mixed
  walk_at "mwfn"
  unfold mb_law_mixed
  walk_at "mw"
  exact h _
theorem take_w {s : List Int} {m : Int} {P : O → List O → Prop} (hs : WF s) (hm : m < 1000000000000000000000000000000) (h : ∀ (r : Int) s', WF s' → (m < 2 → r = 0) → (2 ≤ m → 0 ≤ r ∧ r < m) → P (.v (.int r)) [Sr s', .v (.int m)]) : WG (g_law_take [Sr s, .v (.int m)]) P := by
  obtain ⟨a, b, c, d, e, r, rfl, hb⟩ := hs
  unfold g_law_take
  walk_at "mwfn"
  unfold mb_law_take
  refine ws_seq ?_
  walk_at "mw"
  refine wif (fun h1 => ?_) (fun h1 => ?_)
  · walk_at "mw"
    exact h 0 _ ⟨a, b, c, d, e, r, rfl, hb⟩ (fun _ => rfl) (by omega)
  · walk_at "mw"
    refine ws_cutC (fun ρ => ∃ a b c d e x, 0 ≤ b ∧ ρ = [Sr (a :: b :: c :: d :: e :: r), .v (.int m), x, .n]) ?_ ?_
    · walk_at "mw"
      refine wif (fun h2 => ?_) (fun h2 => ?_)
      · walk_at "mw"
        refine wif (fun h3 => ?_) (fun h3 => ?_)
        · walk_at "mw"
          refine wif (fun h4 => ?_) (fun h4 => ?_)
          · walk_at "mw"
            obtain ⟨v, hv⟩ := atI_map (s := (a + 1) :: b :: c :: d :: e :: r) hb (by simpa using h4)
            refine wr_ixL hv ?_
            walk_at "mw"
            refine mixed_w fun x => ?_
            walk_at "mw"
            refine wif (fun h5 => ?_) (fun h5 => ?_)
            · walk_at "mw"
              exact ct_nx ⟨_, _, _, _, _, _, by omega, rfl⟩
            · walk_at "mw"
              exact ct_nx ⟨_, _, _, _, _, _, by omega, rfl⟩
          · walk_at "mw"
            exact ct_nx ⟨_, _, _, _, _, _, hb, rfl⟩
        · walk_at "mw"
          exact ct_nx ⟨_, _, _, _, _, _, hb, rfl⟩
      · walk_at "mw"
        exact ct_nx ⟨_, _, _, _, _, _, hb, rfl⟩
    · rintro ρ1 ⟨a, b, c, d, e, x, hb, rfl⟩
      refine ws_seq ?_
      walk_at "mw"
      refine wif (fun h2 => ?_) (fun h2 => ?_)
      · walk_at "mw"
        exact h _ (a :: b :: (c / m) :: d :: e :: r) ⟨_, _, _, _, _, _, rfl, hb⟩ (by omega) (fun _ => ⟨Int.emod_nonneg _ (by omega), Int.emod_lt_of_pos _ (by omega)⟩)
      · walk_at "mw"
        refine mixed_w fun x => ?_
        walk_at "mw"
        exact h _ (a :: b :: c :: _ :: e :: r) ⟨_, _, _, _, _, _, rfl, hb⟩ (by omega) (fun _ => ⟨Int.emod_nonneg _ (by omega), Int.emod_lt_of_pos _ (by omega)⟩)

theorem store_w {ns : List Int} {P : O → List O → Prop} (h : ∀ s, WF s → P (Sr s) [.v (.rl (ns.map D.int))]) (hl : ns.length ≤ 63) : WG (g_law_store [.v (.rl (ns.map D.int))]) P := by
  unfold g_law_store
  walk_at "mwfn"
  unfold mb_law_store
  walk_at "mw"
  refine wr_addL (by simp; omega) ?_
  walk_at "mw"
  exact h (0 :: 5 :: 0 :: 0 :: (1 + ((ns.map D.int).length : Int)) :: ns) ⟨_, _, _, _, _, _, rfl, by decide⟩
theorem edge_w {s : List Int} {low high : Int} {P : O → List O → Prop} (hs : WF s) (hm : high - low < 1000000000000000000) (h : ∀ (r : Int) s', WF s' → low ≤ r → (r ≤ high ∨ r = low) → P (.v (.int r)) [Sr s', .v (.int low), .v (.int high)]) : WG (g_law_edge [Sr s, .v (.int low), .v (.int high)]) P := by
  unfold g_law_edge
  walk_at "mwfn"
  unfold mb_law_edge
  refine ws_seq ?_
  walk_at "mw"
  refine wif (fun h1 => ?_) (fun h1 => ?_)
  · walk_at "mw"
    exact h _ _ hs (by omega) (by omega)
  · walk_at "mw"
    refine take_w hs (by omega) fun r s' hs' _ hr => ?_
    have hr := hr (by omega)
    walk_at "mw"
    refine ws_seq ?_
    walk_at "mw"
    refine wif (fun h2 => ?_) (fun h2 => ?_)
    · walk_at "mw"
      have hc : r = 0 ∨ r = 1 ∨ r = 2 ∨ r = 3 := by omega
      rcases hc with rfl | rfl | rfl | rfl
      · walk_at "mw"
        exact h _ _ hs' (by omega) (by omega)
      · walk_at "mw"
        exact h _ _ hs' (by omega) (by omega)
      · walk_at "mw"
        exact h _ _ hs' (by omega) (by omega)
      · walk_at "mw"
        exact h _ _ hs' (by omega) (by omega)
    · walk_at "mw"
      refine take_w hs' (by omega) fun r2 s2 hs2 hr1 hr2 => ?_
      walk_at "mw"
      refine h _ _ hs2 ?_ ?_
      · by_cases hq : high - low + 1 < 2
        · have := hr1 hq; omega
        · have := hr2 (by omega); omega
      · by_cases hq : high - low + 1 < 2
        · have := hr1 hq; omega
        · have := hr2 (by omega); omega
theorem pickS_w {s : List Int} {z : Str} {P : O → List O → Prop} (hs : WF s) (h0 : 0 < z.length) (hz : z.length ≤ 1000000) (h : ∀ k s', WF s' → P (.v (.str ⟨#[k]⟩)) [Sr s', .v (.str z)]) : WG (g_law_pick [Sr s, .v (.str z)]) P := by
  unfold g_law_pick
  walk_at "mwfn"
  unfold mb_law_pick
  walk_at "mw"
  refine take_w hs (by omega) fun r s' hs' hr1 hr2 => ?_
  walk_at "mw"
  refine wr_ixS' hz ?_ ?_ fun k _ => ?_
  · by_cases hq : (z.length : Int) < 2
    · have := hr1 hq; omega
    · have := hr2 (by omega); omega
  · by_cases hq : (z.length : Int) < 2
    · have := hr1 hq; omega
    · have := hr2 (by omega); omega
  · walk_at "mw"
    exact h k _ hs'
theorem pickV_w {s : List Int} {ds : List D} {P : O → List O → Prop} (hs : WF s) (h0 : 0 < ds.length) (hz : ds.length ≤ 1000000) (h : ∀ d s', WF s' → d ∈ ds → P (.v d) [Sr s', .v (.lst ds)]) : WG (g_law_pick [Sr s, .v (.lst ds)]) P := by
  unfold g_law_pick
  walk_at "mwfn"
  unfold mb_law_pick
  walk_at "mw"
  refine take_w hs (by omega) fun r s' hs' hr1 hr2 => ?_
  walk_at "mw"
  refine wr_ixL' ?_ ?_ fun k hk => ?_
  · by_cases hq : (ds.length : Int) < 2
    · have := hr1 hq; omega
    · have := hr2 (by omega); omega
  · by_cases hq : (ds.length : Int) < 2
    · have := hr1 hq; omega
    · have := hr2 (by omega); omega
  · walk_at "mw"
    exact h k _ hs' hk
theorem pickL_w {s : List Int} {ds : List D} {P : O → List O → Prop} (hs : WF s) (h0 : 0 < ds.length) (hz : ds.length ≤ 1000000) (h : ∀ d s', WF s' → d ∈ ds → P (.v d) [Sr s', .l ds]) : WG (g_law_pick [Sr s, .l ds]) P := by
  unfold g_law_pick
  walk_at "mwfn"
  unfold mb_law_pick
  walk_at "mw"
  refine take_w hs (by omega) fun r s' hs' hr1 hr2 => ?_
  walk_at "mw"
  refine wr_ixL' ?_ ?_ fun k hk => ?_
  · by_cases hq : (ds.length : Int) < 2
    · have := hr1 hq; omega
    · have := hr2 (by omega); omega
  · by_cases hq : (ds.length : Int) < 2
    · have := hr1 hq; omega
    · have := hr2 (by omega); omega
  · walk_at "mw"
    exact h k _ hs' hk
theorem wide_w {s : List Int} {P : O → List O → Prop} (hs : WF s) (h : ∀ (r : Int) s', WF s' → P (.v (.int r)) [Sr s']) : WG (g_law_wide [Sr s]) P := by
  unfold g_law_wide
  walk_at "mwfn"
  unfold mb_law_wide
  walk_at "mw"
  refine take_w hs (by omega) fun r s' hs' _ hr => ?_
  have hr := hr (by omega)
  walk_at "mw"
  refine ws_seq ?_
  walk_at "mw"
  refine wif (fun h2 => ?_) (fun h2 => ?_)
  · walk_at "mw"
    have hall : ∀ d ∈ [D.int 0, .int 1, .int (-1), .int 9, .int 10, .int 1000000, .int 999999999999, .int (-999999999999)], ∃ i, d = .int i := by simp
    refine wr_ixT' (by omega) (by simp; omega) fun d hd => ?_
    obtain ⟨i, rfl⟩ := hall d hd
    walk_at "mw"
    exact h _ _ hs'
  · walk_at "mw"
    refine ws_seq ?_
    walk_at "mw"
    refine wif (fun h3 => ?_) (fun h3 => ?_)
    · walk_at "mw"
      refine take_w hs' (by omega) fun r2 s2 hs2 _ _ => ?_
      walk_at "mw"
      exact h _ _ hs2
    · walk_at "mw"
      refine take_w hs' (by omega) fun r2 s2 hs2 _ _ => ?_
      walk_at "mw"
      exact h _ _ hs2
def signs : Str := Str.ofString " !\"#$&'()*+,-./0123456789:;<=>?@ABCDEFGHIJKLMNOPQRSTUVWXYZ[\\]^_`abcdefghijklmnopqrstuvwxyz{|}~"
theorem signs_w {P : O → List O → Prop} (h : P (.v (.str signs)) []) : WG (g_law_signs []) P := by
  unfold g_law_signs
  walk_at "mwfn"
  unfold mb_law_signs
  walk_at "mw"
  exact h

theorem text_w {s : List Int} {limit : Int} {P : O → List O → Prop} (hs : WF s) (hl : limit ≤ 12) (h : ∀ (z : Str) s', WF s' → z.length ≤ 5000 → P (.v (.str z)) [Sr s', .v (.int limit)]) : WG (g_law_text [Sr s, .v (.int limit)]) P := by
  unfold g_law_text
  walk_at "mwfn"
  unfold mb_law_text
  walk_at "mw"
  refine signs_w ?_
  walk_at "mw"
  refine ws_seq ?_
  walk_at "mw"
  refine edge_w hs (by omega) fun r s1 hs1 hr1 hr2 => ?_
  walk_at "mw"
  refine ⟨big_of (by omega) (by omega), ?_⟩
  refine wf_inv (fun i ρ => ∃ s2 ds x, WF s2 ∧ ds.length = i ∧ (∀ d ∈ ds, IsS 1 d) ∧ ρ = [Sr s2, .v (.int limit), .v (.str signs), .l ds, x]) ⟨s1, [], _, hs1, rfl, by simp, rfl⟩ (fun i d ρ hd hi => ?_) (fun ρ hi => ?_)
  · obtain ⟨s2, ds, x, hs2, hlen, hall, rfl⟩ := hi
    obtain ⟨hi, rfl⟩ := rngD_get hd
    refine ⟨_, rfl, ?_⟩
    walk_at "mw"
    refine wif (fun h1 => ?_) (fun h1 => ?_)
    · walk_at "mw"
      refine pickS_w hs2 (by decide +kernel) (by decide +kernel) fun k s3 hs3 => ?_
      walk_at "mw"
      refine ⟨by omega, ?_⟩
      refine tn_nx ⟨s3, ds ++ [.str ⟨#[k]⟩], _, hs3, by simp [hlen], fun d hd => ?_, rfl⟩
      rcases List.mem_append.mp hd with z | z
      · exact hall d z
      · exact ⟨⟨#[k]⟩, List.mem_singleton.mp z, Nat.le_refl _⟩
    · exfalso
      omega
  · obtain ⟨s2, ds, x, hs2, hlen, hall, rfl⟩ := hi
    refine sq_nx ?_
    walk_at "mw"
    rw [rngD_length] at hlen
    refine wr_join0 hall (by omega) fun z hz => ?_
    walk_at "mw"
    exact h z s2 hs2 (by omega)
theorem word_w {s : List Int} {first : Int} {P : O → List O → Prop} (hs : WF s) (h : ∀ (z : Str) s', WF s' → z.length ≤ 8 → P (.v (.str z)) [Sr s', .v (.int first)]) : WG (g_law_word [Sr s, .v (.int first)]) P := by
  unfold g_law_word
  walk_at "mwfn"
  unfold mb_law_word
  walk_at "mw"
  refine take_w hs (by omega) fun r1 s1 hs1 _ hr1 => ?_
  have hr1 := hr1 (by omega)
  walk_at "mw"
  refine take_w hs1 (by omega) fun r2 s2 hs2 _ hr2 => ?_
  have hr2 := hr2 (by omega)
  walk_at "mw"
  refine take_w hs2 (by omega) fun r3 s3 hs3 _ hr3 => ?_
  have hr3 := hr3 (by omega)
  walk_at "mw"
  have hall : ∀ d ∈ [D.int 1, .int 8, .int 2, .int (1 + r1), .int (1 + r2), .int 1], ∃ i, d = .int i ∧ 1 ≤ i ∧ i ≤ 8 := by
    intro d hd
    simp only [List.mem_cons, List.not_mem_nil, or_false] at hd
    rcases hd with rfl | rfl | rfl | rfl | rfl | rfl <;> exact ⟨_, rfl, by omega, by omega⟩
  refine wr_ixT' (by omega) (by simp; omega) fun d hd => ?_
  obtain ⟨size, rfl, hs1', hs2'⟩ := hall d hd
  walk_at "mw"
  refine we_lc ?_
  walk_at "mw"
  refine ⟨big_of (by omega) (by omega), by rw [rngD_length]; omega, fun i acc ρ => ∃ s2 x y, WF s2 ∧ acc.length = i ∧ (∀ d ∈ acc, IsS 1 d) ∧ ρ = [Sr s2, .v (.int first), .v (.str (Str.ofString "abcdefghijklmnopqrstuvwxyz")), .v (.int size), x, y], ⟨s3, _, _, hs3, rfl, by simp, rfl⟩, fun i d acc ρ hd hi => ?_, fun acc ρ hi => ?_⟩
  · obtain ⟨s4, x, y, hs4, hlen, hall, rfl⟩ := hi
    obtain ⟨hi, rfl⟩ := rngD_get hd
    refine ⟨_, rfl, ?_⟩
    walk_at "mw"
    refine pickS_w hs4 (by decide +kernel) (by decide +kernel) fun k s5 hs5 => ?_
    walk_at "mw"
    refine ⟨s5, _, _, hs5, by simp [hlen], fun d hd => ?_, rfl⟩
    rcases List.mem_append.mp hd with z | z
    · exact hall d z
    · exact ⟨⟨#[k]⟩, List.mem_singleton.mp z, Nat.le_refl _⟩
  · obtain ⟨s4, x, y, hs4, hlen, hall, rfl⟩ := hi
    rw [rngD_length] at hlen
    walk_at "mw"
    refine ws_cutC (fun ρ => ∃ s5 ds y, WF s5 ∧ ds.length = size.toNat ∧ (∀ d ∈ ds, IsS 1 d) ∧ ρ = [Sr s5, .v (.int first), .v (.str (Str.ofString "abcdefghijklmnopqrstuvwxyz")), .v (.int size), .l ds, y]) ?_ ?_
    · walk_at "mw"
      refine wif (fun h1 => ?_) (fun h1 => ?_)
      · walk_at "mw"
        refine pickS_w hs4 (by decide +kernel) (by decide +kernel) fun k s5 hs5 => ?_
        walk_at "mw"
        refine wx_i (ixN_nat (j := 0) (by omega)) ?_
        refine ct_nx ⟨s5, _, _, hs5, by simp [hlen], fun d hd => ?_, rfl⟩
        rcases List.mem_or_eq_of_mem_set hd with z | z
        · exact hall d z
        · exact ⟨⟨#[k]⟩, z, Nat.le_refl _⟩
      · walk_at "mw"
        exact ct_nx ⟨s4, _, _, hs4, hlen, hall, rfl⟩
    · rintro ρ1 ⟨s5, ds, y, hs5, hlen5, hall5, rfl⟩
      walk_at "mw"
      refine wr_join0 hall5 (by omega) fun z hz => ?_
      walk_at "mw"
      exact h z s5 hs5 (by omega)
theorem capital_w {s : List Int} {P : O → List O → Prop} (hs : WF s) (h : ∀ (z : Str) s', WF s' → z.length ≤ 4 → P (.v (.str z)) [Sr s', .l []]) : WG (g_law_capital [Sr s, .l []]) P := by
  unfold g_law_capital
  walk_at "mwfn"
  unfold mb_law_capital
  walk_at "mw"
  refine we_lc ?_
  walk_at "mw"
  refine take_w hs (by omega) fun r3 s3 hs3 _ hr3 => ?_
  have hr3 := hr3 (by omega)
  walk_at "mw"
  have hall : ∀ d ∈ [D.int 1, .int 1, .int 2, .int 4, .int 3, .int 1], ∃ i, d = .int i ∧ 1 ≤ i ∧ i ≤ 4 := by
    intro d hd
    simp only [List.mem_cons, List.not_mem_nil, or_false] at hd
    rcases hd with rfl | rfl | rfl | rfl | rfl | rfl <;> exact ⟨_, rfl, by omega, by omega⟩
  refine wr_ixT' (by omega) (by simp; omega) fun d hd => ?_
  obtain ⟨size, rfl, hs1', hs2'⟩ := hall d hd
  walk_at "mw"
  refine ⟨big_of (by omega) (by omega), by rw [rngD_length]; omega, fun i acc ρ => ∃ s2 x y z, WF s2 ∧ acc.length = i ∧ (∀ d ∈ acc, IsS 1 d) ∧ ρ = [Sr s2, .l [], .v (.str (Str.ofString "ABCDEFGHIJKLMNOPQRSTUVWXYZ")), x, y, z], ⟨s3, _, _, _, hs3, rfl, by simp, rfl⟩, fun i d acc ρ hd hi => ?_, fun acc ρ hi => ?_⟩
  · obtain ⟨s4, x, y, z, hs4, hlen, hall, rfl⟩ := hi
    obtain ⟨hi, rfl⟩ := rngD_get hd
    refine ⟨_, rfl, ?_⟩
    walk_at "mw"
    refine pickS_w hs4 (by decide +kernel) (by decide +kernel) fun k s5 hs5 => ?_
    walk_at "mw"
    refine ⟨s5, _, _, _, hs5, by simp [hlen], fun d hd => ?_, rfl⟩
    rcases List.mem_append.mp hd with z | z
    · exact hall d z
    · exact ⟨⟨#[k]⟩, List.mem_singleton.mp z, Nat.le_refl _⟩
  · obtain ⟨s4, x, y, z, hs4, hlen, hall, rfl⟩ := hi
    rw [rngD_length] at hlen
    walk_at "mw"
    refine wr_join0 hall (by omega) fun w hw => ?_
    walk_at "mw"
    refine ws_seq ?_
    walk_at "mw"
    refine ⟨big_of (by decide) (by decide), ?_⟩
    refine wf_inv (fun i ρ => i = 0 ∧ ρ = [Sr s4, .l [], .v (.str (Str.ofString "ABCDEFGHIJKLMNOPQRSTUVWXYZ")), .v (.str w), .v (.str w), z]) ⟨rfl, rfl⟩ (fun i d ρ hd hi => ?_) (fun ρ hi => ?_)
    · obtain ⟨_, rfl⟩ := hi
      refine ⟨_, rfl, ?_⟩
      refine ws_seq ?_
      walk_at "mw"
      skip
      walk_at "mw"
      exact h w s4 hs4 (by omega)
    · obtain ⟨hi, _⟩ := hi
      rw [rngD_length] at hi
      exact absurd hi (by decide)
theorem marks_w {s : List Int} {P : O → List O → Prop} (hs : WF s) (h : ∀ (z : Str) s', WF s' → z.length ≤ 2 → P (.v (.str z)) [Sr s', .l []]) : WG (g_law_marks [Sr s, .l []]) P := by
  unfold g_law_marks
  walk_at "mwfn"
  unfold mb_law_marks
  walk_at "mw"
  refine take_w hs (by omega) fun r1 s1 hs1 _ hr1 => ?_
  have hr1 := hr1 (by omega)
  walk_at "mw"
  refine ws_cutC (fun ρ => ∃ (s2 : List Int) (f : Int), WF s2 ∧ 0 ≤ f ∧ f < 306 ∧ ρ = [Sr s2, .l [], .v (.str (Str.ofString "+-*/<>=!?&|^~:.@$")), .v (.int f), .n, .n, .n]) ?_ ?_
  · walk_at "mw"
    refine take_w hs1 (by omega) fun r2 s2 hs2 _ hr2 => ?_
    walk_at "mw"
    refine wif (fun h1 => ?_) (fun h1 => ?_)
    · walk_at "mw"
      refine take_w hs2 (by omega) fun r3 s3 hs3 _ hr3 => ?_
      have hr3 := hr3 (by omega)
      walk_at "mw"
      exact ct_nx ⟨s3, _, hs3, by omega, by omega, rfl⟩
    · walk_at "mw"
      exact ct_nx ⟨s2, _, hs2, by omega, by omega, rfl⟩
  · rintro ρ1 ⟨s2, f, hs2, hf1, hf2, rfl⟩
    refine ws_seq ?_
    walk_at "mw"
    refine ⟨big_of (by decide) (by decide), ?_⟩
    refine wf_inv (fun i ρ => i = 0 ∧ ρ = [Sr s2, .l [], .v (.str (Str.ofString "+-*/<>=!?&|^~:.@$")), .v (.int f), .n, .n, .n]) ⟨rfl, rfl⟩ (fun i d ρ hd hi => ?_) (fun ρ hi => ?_)
    · obtain ⟨rfl, rfl⟩ := hi
      obtain ⟨_, rfl⟩ := rngD_get hd
      refine ⟨_, rfl, ?_⟩
      walk_at "mw"
      have hlen : (Str.ofString "+-*/<>=!?&|^~:.@$").length = 17 := by decide +kernel
      have ha1 := Int.emod_nonneg (f + (0 + ((0 : Nat) : Int))) (show (306 : Int) ≠ 0 by decide)
      have ha2 := Int.emod_lt_of_pos (f + (0 + ((0 : Nat) : Int))) (show (0 : Int) < 306 by decide)
      generalize (f + (0 + ((0 : Nat) : Int))) % 306 = wat at *
      refine wif (fun h1 => ?_) (fun h1 => ?_)
      · walk_at "mw"
        refine wr_ixS' (by omega) (by omega) (by omega) fun k _ => ?_
        walk_at "mw"
        exact h _ s2 hs2 (by simp [len_one])
      · walk_at "mw"
        refine wr_ixS' (by omega) (by omega) (by omega) fun k _ => ?_
        walk_at "mw"
        refine wr_ixS' (by omega) (by omega) (by omega) fun k2 _ => ?_
        walk_at "mw"
        exact h _ s2 hs2 (by simp [len_one, len_app])
    · obtain ⟨hi, _⟩ := hi
      rw [rngD_length] at hi
      exact absurd hi (by decide)

theorem nearname_w {s : List Int} {P : O → List O → Prop} (hs : WF s) (h : ∀ (z : Str) s', WF s' → z.length ≤ 40 → P (.v (.str z)) [Sr s']) : WG (g_law_nearname [Sr s]) P := by
  unfold g_law_nearname
  walk_at "mwfn"
  unfold mb_law_nearname
  walk_at "mw"
  refine word_w hs fun word s1 hs1 hl1 => ?_
  walk_at "mw"
  refine capital_w hs1 fun capital s2 hs2 hl2 => ?_
  walk_at "mw"
  refine marks_w hs2 fun marks s3 hs3 hl3 => ?_
  walk_at "mw"
  refine signs_w ?_
  walk_at "mw"
  refine pickS_w hs3 (by decide +kernel) (by decide +kernel) fun k s4 hs4 => ?_
  have h1 : (⟨#[k]⟩ : Str).length = 1 := rfl
  have h2 : (Str.ofString "+").length = 1 := by decide +kernel
  have h3 : (Str.ofString "abcdefgh").length = 8 := by decide +kernel
  have h4 : (Str.ofString "A").length = 1 := by decide +kernel
  have h5 : (Str.ofString "ABCD").length = 4 := by decide +kernel
  have h6 : (Str.ofString " ").length = 1 := by decide +kernel
  have h7 : (Str.ofString "1").length = 1 := by decide +kernel
  have h8 : (Str.ofString "_").length = 1 := by decide +kernel
  have h9 := len_cut word none (some 1)
  have h10 := len_cut capital none (some 1)
  have h11 := PyProof.Rows.len_lower capital
  have h12 := PyProof.Rows.len_upper word
  have i1 : (Str.ofString "").length = 0 := by decide +kernel
  have i2 : (Str.ofString "a_").length = 2 := by decide +kernel
  have i3 : (Str.ofString "(").length = 1 := by decide +kernel
  have i4 : (Str.ofString "{").length = 1 := by decide +kernel
  have i5 : (Str.ofString ",").length = 1 := by decide +kernel
  have i6 : (Str.ofString "#1").length = 2 := by decide +kernel
  have i7 : (Str.ofString "#0").length = 2 := by decide +kernel
  have i8 : (Str.ofString "#").length = 1 := by decide +kernel
  generalize Str.ofString "+" = w0 at *
  generalize Str.ofString "abcdefgh" = w1 at *
  generalize Str.ofString "A" = w2 at *
  generalize Str.ofString "ABCD" = w3 at *
  generalize Str.ofString " " = w4 at *
  generalize Str.ofString "1" = w5 at *
  generalize Str.ofString "_" = w6 at *
  generalize Str.ofString "" = w7 at *
  generalize Str.ofString "a_" = w8 at *
  generalize Str.ofString "(" = w9 at *
  generalize Str.ofString "{" = w10 at *
  generalize Str.ofString "," = w11 at *
  generalize Str.ofString "#1" = w12 at *
  generalize Str.ofString "#0" = w13 at *
  generalize Str.ofString "#" = w14 at *
  walk_at "mw"
  refine pickL_w hs4 (Nat.le_of_ble_eq_true rfl) (Nat.le_of_ble_eq_true rfl) fun d s5 hs5 hd => ?_
  have hall : IsS 40 d := by
    revert d
    simp only [List.cons_append, List.nil_append, List.forall_mem_cons, List.not_mem_nil, false_implies, implies_true, and_true]
    refine ⟨?_, ?_, ?_, ?_, ?_, ?_, ?_, ?_, ?_, ?_, ?_, ?_, ?_, ?_, ?_, ?_, ?_, ?_, ?_, ?_, ?_, ?_, ?_, ?_, ?_, ?_, ?_, ?_⟩
    all_goals exact ⟨_, rfl, by (try simp only [len_app]); omega⟩
  obtain ⟨z, rfl, hz⟩ := hall
  walk_at "mw"
  exact h z s5 hs5 hz
theorem flatvalue_w {s : List Int} {P : O → List O → Prop} (hs : WF s) (h : ∀ (o : O) (d : D) s', WF s' → toD o = some d → Va d → sz d = 1 → P o [Sr s']) : WG (g_law_flatvalue [Sr s]) P := by
  unfold g_law_flatvalue
  walk_at "mwfn"
  unfold mb_law_flatvalue
  walk_at "mw"
  refine take_w hs (by omega) fun r s1 hs1 _ hr => ?_
  have hr := hr (by omega)
  walk_at "mw"
  refine ws_seq ?_
  walk_at "mw"
  refine wif (fun h1 => ?_) (fun h1 => ?_)
  · walk_at "mw"
    have hall : ∀ d ∈ [D.non, .bl true, .bl false, .int 0, .int 1, .tup [], .str (Str.ofString "")], Va d ∧ sz d = 1 := by
      simp only [List.forall_mem_cons, List.not_mem_nil, false_implies, implies_true, and_true]
      exact ⟨⟨.non, rfl⟩, ⟨.bl, rfl⟩, ⟨.bl, rfl⟩, ⟨.int, rfl⟩, ⟨.int, rfl⟩, ⟨.tup (by simp), by simp [sz, szs]⟩, ⟨.str (by decide +kernel), rfl⟩⟩
    refine wr_ixT' (by omega) (by simp; omega) fun d hd => ?_
    obtain ⟨i, j⟩ := hall d hd
    walk_at "mw"
    exact h _ _ _ hs1 rfl i j
  · walk_at "mw"
    refine ws_seq ?_
    walk_at "mw"
    refine wif (fun h2 => ?_) (fun h2 => ?_)
    · walk_at "mw"
      refine wide_w hs1 fun r2 s2 hs2 => ?_
      walk_at "mw"
      exact h _ _ _ hs2 rfl .int rfl
    · walk_at "mw"
      refine ws_seq ?_
      walk_at "mw"
      refine wif (fun h2 => ?_) (fun h2 => ?_)
      · walk_at "mw"
        refine nearname_w hs1 fun z s2 hs2 hz => ?_
        walk_at "mw"
        exact h _ _ _ hs2 rfl (.str (by omega)) rfl
      · walk_at "mw"
        refine ws_seq ?_
        walk_at "mw"
        refine wif (fun h2 => ?_) (fun h2 => ?_)
        · walk_at "mw"
          refine text_w hs1 (by omega) fun z s2 hs2 hz => ?_
          walk_at "mw"
          exact h _ _ _ hs2 rfl (.str (by omega)) rfl
        · walk_at "mw"
          exact h (.l []) (.lst []) _ hs1 rfl (.lst (by simp)) (by simp [sz, szs])
theorem onesign_w {s : List Int} {z : Str} {P : O → List O → Prop} (hs : WF s) (hz : z.length ≤ 100) (h : ∀ (y : Str) s', WF s' → y.length ≤ 1000 → P (.v (.str y)) [Sr s', .v (.str z)]) : WG (g_law_onesign [Sr s, .v (.str z)]) P := by
  unfold g_law_onesign
  walk_at "mwfn"
  unfold mb_law_onesign
  walk_at "mw"
  refine take_w hs (by omega) fun r s1 hs1 _ hr => ?_
  walk_at "mw"
  refine signs_w ?_
  walk_at "mw"
  refine pickS_w hs1 (by decide +kernel) (by decide +kernel) fun k s2 hs2 => ?_
  walk_at "mw"
  refine take_w hs2 (by omega) fun r2 s3 hs3 _ _ => ?_
  have h1 : (⟨#[k]⟩ : Str).length = 1 := rfl
  have c1 := len_cut z none (some r)
  have c2 := len_cut z (some r) none
  have c3 := len_cut z (some (r + 1)) none
  walk_at "mw"
  refine ws_seq ?_
  walk_at "mw"
  refine wif (fun h2 => ?_) (fun h2 => ?_)
  · walk_at "mw"
    exact h _ _ hs3 (by simp only [len_app]; omega)
  · walk_at "mw"
    refine ws_seq ?_
    walk_at "mw"
    refine wif (fun h2 => ?_) (fun h2 => ?_)
    · walk_at "mw"
      exact h _ _ hs3 (by simp only [len_app]; omega)
    · walk_at "mw"
      exact h _ _ hs3 (by simp only [len_app]; omega)
theorem repeated_w {s : List Int} {P : O → List O → Prop} (hs : WF s) (h : ∀ (y : Str) s', WF s' → y.length ≤ 10000 → P (.v (.str y)) [Sr s']) : WG (g_law_repeated [Sr s]) P := by
  unfold g_law_repeated
  walk_at "mwfn"
  unfold mb_law_repeated
  walk_at "mw"
  refine signs_w ?_
  walk_at "mw"
  refine pickS_w hs (by decide +kernel) (by decide +kernel) fun k s2 hs2 => ?_
  walk_at "mw"
  refine edge_w hs2 (by omega) fun r s3 hs3 hr1 hr2 => ?_
  have h1 : (⟨#[k]⟩ : Str).length = 1 := rfl
  walk_at "mw"
  refine ws_cutC (fun ρ => ∃ (s4 : List Int) (n : Int), WF s4 ∧ 1 ≤ n ∧ n ≤ 5000 ∧ ρ = [Sr s4, .v (.str ⟨#[k]⟩), .v (.int n)]) ?_ ?_
  · walk_at "mw"
    refine take_w hs3 (by omega) fun r2 s4 hs4 _ _ => ?_
    walk_at "mw"
    refine wif (fun h2 => ?_) (fun h2 => ?_)
    · walk_at "mw"
      refine edge_w hs4 (by omega) fun r s3 hs3 hr1 hr2 => ?_
      walk_at "mw"
      exact ct_nx ⟨_, _, hs3, by omega, by omega, rfl⟩
    · walk_at "mw"
      exact ct_nx ⟨_, _, hs4, by omega, by omega, rfl⟩
  · rintro ρ1 ⟨s4, n, hs4, hn1, hn2, rfl⟩
    refine ws_seq ?_
    walk_at "mw"
    refine take_w hs4 (by omega) fun r2 s5 hs5 _ _ => ?_
    walk_at "mw"
    refine wif (fun h2 => ?_) (fun h2 => ?_)
    · walk_at "mw"
      refine wr_mulS ⟨big_of (by omega) (by omega), by rw [h1]; omega⟩ ?_
      walk_at "mw"
      exact h _ _ hs5 (by rw [len_mulS, h1]; omega)
    · walk_at "mw"
      refine wr_mulS ⟨big_of (by omega) (by omega), by rw [h1]; omega⟩ ?_
      walk_at "mw"
      refine signs_w ?_
      walk_at "mw"
      refine pickS_w hs5 (by decide +kernel) (by decide +kernel) fun k2 s6 hs6 => ?_
      have h2 : (⟨#[k2]⟩ : Str).length = 1 := rfl
      have h3 : (mulS ⟨#[k]⟩ (n - 1).toNat).length ≤ 5000 := by rw [len_mulS, h1]; omega
      walk_at "mw"
      exact h _ _ hs6 (by simp only [len_app]; omega)

theorem any_w {s : List Int} {deep : Int} {P : O → List O → Prop} (hs : WF s) (h : ∀ (o : O) (d : D) s', WF s' → toD o = some d → Va d → sz d ≤ 400 → P o [Sr s', .v (.int deep)]) : WG (g_law_any [Sr s, .v (.int deep)]) P := by
  unfold g_law_any
  walk_at "mwfn"
  unfold mb_law_any
  walk_at "mw"
  refine flatvalue_w hs fun o d s1 hs1 ho hv hz => ?_
  walk_at "mw"
  refine ws_seq ?_
  walk_at "mw"
  refine take_w hs1 (by omega) fun r s2 hs2 _ hr => ?_
  have hr := hr (by omega)
  walk_at "mw"
  refine ⟨big_of (by omega) (by omega), ?_⟩
  refine wf_inv (fun i ρ => ∃ s2 o d x3 x4 x5 x6, WF s2 ∧ toD o = some d ∧ Va d ∧ sz d ≤ 4 ^ i ∧ ρ = [Sr s2, .v (.int deep), o, x3, x4, x5, x6, .n]) ⟨s2, o, d, _, _, _, _, hs2, ho, hv, by omega, rfl⟩ (fun i d ρ hd hi => ?_) (fun ρ hi => ?_)
  · obtain ⟨s3, o, d, x3, x4, x5, x6, hs3, ho, hv, hz, rfl⟩ := hi
    obtain ⟨hi, rfl⟩ := rngD_get hd
    refine ⟨_, rfl, ?_⟩
    walk_at "mw"
    refine take_w hs3 (by omega) fun r2 s4 hs4 _ hr2 => ?_
    have hr2 := hr2 (by omega)
    walk_at "mw"
    refine flatvalue_w hs4 fun o2 d2 s5 hs5 ho2 hv2 hz2 => ?_
    walk_at "mw"
    refine we_varO rfl ho ?_
    walk_at "mw"
    refine we_varO rfl ho2 ?_
    walk_at "mw"
    have hp : 1 ≤ 4 ^ i := Nat.pow_pos (by decide)
    have hall : ∀ e ∈ [D.lst [d], .tup [d], .tup [d2, d], .lst [d, d2], .tup [d, d], .tup [d, d2, d2], .lst [d2]], Va e ∧ sz e ≤ 4 ^ (i + 1) := by
      rw [Nat.pow_succ]
      simp only [List.forall_mem_cons, List.not_mem_nil, false_implies, implies_true, and_true]
      refine ⟨⟨.lst ?_, ?_⟩, ⟨.tup ?_, ?_⟩, ⟨.tup ?_, ?_⟩, ⟨.lst ?_, ?_⟩, ⟨.tup ?_, ?_⟩, ⟨.tup ?_, ?_⟩, ⟨.lst ?_, ?_⟩⟩
      all_goals first
        | (simp only [sz, szs]; omega)
        | (simp only [List.forall_mem_cons, List.not_mem_nil, false_implies, implies_true, and_true, hv, hv2])
    refine wr_ixL' (by omega) (by simp; omega) fun e he => ?_
    obtain ⟨k1, k2⟩ := hall e he
    walk_at "mw"
    exact tn_nx ⟨s5, _, e, _, _, _, _, hs5, rfl, k1, k2, rfl⟩
  · obtain ⟨s3, o, d, x3, x4, x5, x6, hs3, ho, hv, hz, rfl⟩ := hi
    rw [rngD_length] at hz
    have hz : sz d ≤ 4 ^ 4 := Nat.le_trans hz (Nat.pow_le_pow_right (by omega) (by omega))
    refine sq_nx ?_
    refine ws_cutC (fun ρ => ∃ s2 o d x3 x4 x5 x6 x7, WF s2 ∧ toD o = some d ∧ Va d ∧ sz d ≤ 400 ∧ ρ = [Sr s2, .v (.int deep), o, x3, x4, x5, x6, x7]) ?_ ?_
    · walk_at "mw"
      refine wif (fun h1 => ?_) (fun h1 => ?_)
      · walk_at "mw"
        refine take_w hs3 (by omega) fun r2 s4 hs4 _ hr2 => ?_
        walk_at "mw"
        refine wif (fun h1 => ?_) (fun h1 => ?_)
        · walk_at "mw"
          refine take_w hs4 (by omega) fun r3 s5 hs5 _ hr3 => ?_
          walk_at "mw"
          refine ⟨big_of (by decide) (by decide), ?_⟩
          refine wf_inv (fun i ρ => ∃ o d x3, toD o = some d ∧ Va d ∧ sz d ≤ 4 ^ 4 + i ∧ ρ = [Sr s5, .v (.int deep), o, x3, x4, x5, x6, .v (.int r3)]) ⟨o, d, _, ho, hv, by omega, rfl⟩ (fun i d ρ hd hi => ?_) (fun ρ hi => ?_)
          · obtain ⟨o, d, x3, ho, hv, hz, rfl⟩ := hi
            obtain ⟨hi, rfl⟩ := rngD_get hd
            refine ⟨_, rfl, ?_⟩
            refine ws_if (wt_or ?_)
            have hl : ∀ ρ, ρ = [Sr s5, .v (.int deep), o, .v (.int (0 + (i : Int))), x4, x5, x6, .v (.int r3)] → ∀ b : Bool, if b = true then WS (s_set 2 (m_lst (a_cons (m_it (m_var 2)) (a_nil))) ρ) (Tn (fun ρ => ∃ o d x3, toD o = some d ∧ Va d ∧ sz d ≤ 4 ^ 4 + (i + 1) ∧ ρ = [Sr s5, .v (.int deep), o, x3, x4, x5, x6, .v (.int r3)]) (Ct (fun ρ => ∃ s2 o d x3 x4 x5 x6 x7, WF s2 ∧ toD o = some d ∧ Va d ∧ sz d ≤ 400 ∧ ρ = [Sr s2, .v (.int deep), o, x3, x4, x5, x6, x7]) (Fin [0, 1] 2 P))) else WS (s_set 2 (m_tup (a_cons (m_it (m_var 2)) (a_nil))) ρ) (Tn (fun ρ => ∃ o d x3, toD o = some d ∧ Va d ∧ sz d ≤ 4 ^ 4 + (i + 1) ∧ ρ = [Sr s5, .v (.int deep), o, x3, x4, x5, x6, .v (.int r3)]) (Ct (fun ρ => ∃ s2 o d x3 x4 x5 x6 x7, WF s2 ∧ toD o = some d ∧ Va d ∧ sz d ≤ 400 ∧ ρ = [Sr s2, .v (.int deep), o, x3, x4, x5, x6, x7]) (Fin [0, 1] 2 P))) := by
              rintro _ rfl b
              refine wifB (fun h2 => ?_) (fun h2 => ?_)
              · walk_at "mw"
                refine we_varO rfl ho ?_
                walk_at "mw"
                exact tn_nx ⟨_, _, _, rfl, .lst (by simpa using hv), by simp only [sz, szs]; omega, rfl⟩
              · walk_at "mw"
                refine we_varO rfl ho ?_
                walk_at "mw"
                exact tn_nx ⟨_, _, _, rfl, .tup (by simpa using hv), by simp only [sz, szs]; omega, rfl⟩
            walk_at "mw"
            refine wif (fun h2 => ?_) (fun h2 => ?_)
            · exact hl _ rfl true
            · walk_at "mw"
              refine wif (fun h2 => ?_) (fun h2 => ?_)
              · walk_at "mw"
                exact hl _ rfl _
              · exact hl _ rfl false
          · obtain ⟨o, d, x3, ho, hv, hz, rfl⟩ := hi
            rw [rngD_length] at hz
            exact ct_nx ⟨s5, o, d, _, _, _, _, _, hs5, ho, hv, by omega, rfl⟩
        · walk_at "mw"
          exact ct_nx ⟨s4, _, d, _, _, _, _, _, hs4, ho, hv, by omega, rfl⟩
      · walk_at "mw"
        exact ct_nx ⟨s3, _, d, _, _, _, _, _, hs3, ho, hv, by omega, rfl⟩
    · rintro ρ1 ⟨s4, o, d, y3, y4, y5, y6, y7, hs4, ho, hv, hz, rfl⟩
      rcases toD_cases ho with rfl | ⟨ds, rfl, rfl⟩
      · walk_at "mw"
        exact h _ d s4 hs4 rfl hv hz
      · walk_at "mw"
        exact h _ _ s4 hs4 rfl hv hz

def so : D → Int
  | .non => 0 | .bl _ => 1 | .int _ => 2 | .str _ => 3 | .tup _ => 4 | .lst _ => 5 | _ => 7
theorem sort_w {d : D} {P : O → List O → Prop} (hv : Va d) (h : P (.v (.int (so d))) [.v d]) : WG (g_law_sort [.v d]) P := by
  unfold g_law_sort
  walk_at "mwfn"
  unfold mb_law_sort
  cases hv
  all_goals
    repeat (first | walk_at "mw1" | with_reducible refine ws_seq ?_)
    exact h
/-- pairs of equals -/
def prs (es : List D) : List D := es.map fun d => .tup [d, d]
theorem prs_snoc (es : List D) (d : D) : prs (es ++ [d]) = prs es ++ [.tup [d, d]] := by simp [prs]
theorem prs_len (es : List D) : (prs es).length = es.length := by simp [prs]
def kids : D → List D
  | .tup ds => ds | .lst ds => ds | _ => []
theorem same_w {o1 o2 : O} {d : D} {P : O → List O → Prop} (h1 : toD o1 = some d) (h2 : toD o2 = some d) (hv : Va d) (hz : sz d ≤ 399000) (h : P (.v (.bl true)) [.v d, .v d]) : WG (g_law_same [o1, o2]) P := by
  unfold g_law_same
  walk_at "mwfn"
  unfold mb_law_same
  walk_at "mw"
  refine we_varO rfl h1 ?_
  walk_at "mw"
  refine we_varO rfl h2 ?_
  walk_at "mw"
  refine ws_seq ?_
  walk_at "mw"
  refine ⟨big_of (by decide) (by decide), ?_⟩
  refine wf_inv (fun i ρ => ∃ es x3 x4 x5 x6 x7 x9, (∀ e ∈ es, Va e) ∧ i + szs es ≤ 399000 ∧ ρ = [.v d, .v d, .l (prs es), x3, x4, x5, x6, x7, .n, x9]) ⟨[d], _, _, _, _, _, _, by simpa using hv, by simp only [szs]; omega, rfl⟩ (fun i d0 ρ hd hi => ?_) (fun ρ hi => ?_)
  · obtain ⟨es, x3, x4, x5, x6, x7, x9, hall, hw, rfl⟩ := hi
    obtain ⟨hi, rfl⟩ := rngD_get hd
    refine ⟨_, rfl, ?_⟩
    refine ws_seq ?_
    walk_at "mw"
    refine wif (fun h3 => ?_) (fun h3 => ?_)
    · walk_at "mw"
      exact h
    · rcases List.eq_nil_or_concat es with rfl | ⟨es, e, rfl⟩
      · exact absurd rfl h3
      · simp only [List.concat_eq_append] at *
        rw [szs_app] at hw
        simp only [szs] at hw
        have hp := sz_pos e
        have hle := len_szs es
        have hve : Va e := hall e (by simp)
        replace hall : ∀ x ∈ es, Va x := fun x hx => hall x (by simp [hx])
        rw [prs_snoc]
        walk_at "mw"
        refine we_pop rfl (last_snoc _ _) ?_
        rw [dropLast_snoc]
        walk_at "mw"
        refine sort_w hve ?_
        walk_at "mw"
        refine ws_seq ?_
        walk_at "mw"
        refine wif (fun h4 => ?_) (fun h4 => ?_)
        · exfalso
          cases hve <;> exact absurd h4 (by simp [so])
        · walk_at "mw"
          refine sort_w hve ?_
          walk_at "mw"
          refine wifB (fun h5 => ?_) (fun h5 => ?_)
          · exfalso
            simp at h5
          · walk_at "mw"
            refine wif (fun h6 => ?_) (fun h6 => ?_)
            · cases hve with
              | non =>
                walk_at "mw"
                exact tn_nx ⟨es, _, _, _, _, _, _, hall, by omega, rfl⟩
              | bl =>
                walk_at "mw"
                refine wifB (fun h5 => ?_) (fun h5 => ?_)
                · exfalso
                  simp at h5
                · walk_at "mw"
                  exact tn_nx ⟨es, _, _, _, _, _, _, hall, by omega, rfl⟩
              | int =>
                walk_at "mw"
                refine wifB (fun h5 => ?_) (fun h5 => ?_)
                · exfalso
                  simp at h5
                · walk_at "mw"
                  exact tn_nx ⟨es, _, _, _, _, _, _, hall, by omega, rfl⟩
              | str =>
                walk_at "mw"
                refine wifB (fun h5 => ?_) (fun h5 => ?_)
                · exfalso
                  simp at h5
                · walk_at "mw"
                  exact tn_nx ⟨es, _, _, _, _, _, _, hall, by omega, rfl⟩
              | tup h7 => exact absurd h6 (by simp [so])
              | lst h7 => exact absurd h6 (by simp [so])
            · cases hve with
              | non => exact absurd (show so .non < 4 by decide) h6
              | bl => exact absurd (show (1 : Int) < 4 by decide) h6
              | int => exact absurd (show (2 : Int) < 4 by decide) h6
              | str => exact absurd (show (3 : Int) < 4 by decide) h6
              | tup h7 =>
                rename_i ds
                simp only [sz] at hw
                have hld := len_szs ds
                walk_at "mw"
                refine wifB (fun h5 => ?_) (fun h5 => ?_)
                · exfalso
                  simp at h5
                · walk_at "mw"
                  refine wif (fun h8 => ?_) (fun h8 => ?_)
                  · exact absurd h8 (by simp [so])
                  · walk_at "mw"
                    refine ⟨big_of (by omega) (by omega), ?_⟩
                    refine wf_inv (fun j ρ => ∃ x9, ρ = [.v d, .v d, .l (prs (es ++ ds.take j)), .v (.int (0 + (i : Int))), .v (.tup [.tup ds, .tup ds]), .v (.tup ds), .v (.tup ds), .v (.int (so (.tup ds))), .n, x9]) ⟨x9, by simp⟩ (fun j d1 ρ hd1 hj => ?_) (fun ρ hj => ?_)
                    · obtain ⟨y9, rfl⟩ := hj
                      obtain ⟨hj, rfl⟩ := rngD_get hd1
                      have hj : j < ds.length := by omega
                      have hat : L2.atI ds (0 + (j : Int)) = some ds[j] := atI_of (by omega) (by rw [show (0 + (j : Int)).toNat = j by omega]; exact List.getElem?_eq_getElem hj)
                      refine ⟨_, rfl, ?_⟩
                      walk_at "mw"
                      refine wr_ixT hat ?_
                      walk_at "mw"
                      refine wr_ixT hat ?_
                      walk_at "mw"
                      refine ⟨by rw [prs_len, List.length_append, List.length_take]; omega, ?_⟩
                      refine tn_nx ⟨.v (.int (0 + (j : Int))), ?_⟩
                      rw [List.take_succ_eq_append_getElem hj, ← List.append_assoc, prs_snoc]
                      rfl
                    · obtain ⟨y9, rfl⟩ := hj
                      rw [rngD_length, show ((ds.length : Int)).toNat = ds.length by omega, List.take_length]
                      refine tn_nx ⟨es ++ ds, _, _, _, _, _, _, ?_, by rw [szs_app]; omega, rfl⟩
                      intro x hx
                      rcases List.mem_append.mp hx with hx | hx
                      · exact hall x hx
                      · exact h7 x hx
              | lst h7 =>
                rename_i ds
                simp only [sz] at hw
                have hld := len_szs ds
                walk_at "mw"
                refine wifB (fun h5 => ?_) (fun h5 => ?_)
                · exfalso
                  simp at h5
                · walk_at "mw"
                  refine wif (fun h8 => ?_) (fun h8 => ?_)
                  · exact absurd h8 (by simp [so])
                  · walk_at "mw"
                    refine ⟨big_of (by omega) (by omega), ?_⟩
                    refine wf_inv (fun j ρ => ∃ x9, ρ = [.v d, .v d, .l (prs (es ++ ds.take j)), .v (.int (0 + (i : Int))), .v (.tup [.lst ds, .lst ds]), .v (.lst ds), .v (.lst ds), .v (.int (so (.lst ds))), .n, x9]) ⟨x9, by simp⟩ (fun j d1 ρ hd1 hj => ?_) (fun ρ hj => ?_)
                    · obtain ⟨y9, rfl⟩ := hj
                      obtain ⟨hj, rfl⟩ := rngD_get hd1
                      have hj : j < ds.length := by omega
                      have hat : L2.atI ds (0 + (j : Int)) = some ds[j] := atI_of (by omega) (by rw [show (0 + (j : Int)).toNat = j by omega]; exact List.getElem?_eq_getElem hj)
                      refine ⟨_, rfl, ?_⟩
                      walk_at "mw"
                      refine wr_ixL hat ?_
                      walk_at "mw"
                      refine wr_ixL hat ?_
                      walk_at "mw"
                      refine ⟨by rw [prs_len, List.length_append, List.length_take]; omega, ?_⟩
                      refine tn_nx ⟨.v (.int (0 + (j : Int))), ?_⟩
                      rw [List.take_succ_eq_append_getElem hj, ← List.append_assoc, prs_snoc]
                      rfl
                    · obtain ⟨y9, rfl⟩ := hj
                      rw [rngD_length, show ((ds.length : Int)).toNat = ds.length by omega, List.take_length]
                      refine tn_nx ⟨es ++ ds, _, _, _, _, _, _, ?_, by rw [szs_app]; omega, rfl⟩
                      intro x hx
                      rcases List.mem_append.mp hx with hx | hx
                      · exact hall x hx
                      · exact h7 x hx
  · obtain ⟨es, x3, x4, x5, x6, x7, x9, hall, hw, rfl⟩ := hi
    rw [rngD_length] at hw
    exact absurd hw (by omega)

abbrev sW : Str := Str.ofString "abcdefghijklmnopqrstuvwxyz0123456789"
abbrev sS : Str := Str.ofString "abcdefghijklmnopqrstuvwxyz"
abbrev sG : Str := Str.ofString "ABCDEFGHIJKLMNOPQRSTUVWXYZ"
abbrev sM : Str := Str.ofString "+-*/<>=!?&|^~:.@$"
abbrev sD : Str := Str.ofString "0123456789"
def okW (n : Nat) (y z : Str) : Bool := decide (1 ≤ z.length) && (decide (z.length ≤ n) && allc y z)
theorem made_of_w {z y : Str} {n : Nat} {P : O → List O → Prop} (hz : z.length ≤ 1000000) (hn : n ≤ 100) (h : P (.v (.bl (okW n y z))) [.v (.str z), .v (.str y), .v (.int n)]) : WG (g_made_of [.v (.str z), .v (.str y), .v (.int n)]) P := by
  unfold g_made_of
  walk_at "mwfn"
  unfold mb_made_of
  refine ws_seq ?_
  walk_at "mw"
  refine wif (fun h1 => ?_) (fun h1 => ?_)
  · walk_at "mw"
    refine wifB (fun h2 => ?_) (fun h2 => ?_)
    · walk_at "mw"
      have : okW n y z = false := by
        unfold okW
        rw [show decide (z.length ≤ n) = false by simpa using h2, Bool.false_and, Bool.and_false]
      rw [this] at h
      exact h
    · walk_at "mw"
      refine we_lc ?_
      walk_at "mw"
      have hn2 : z.length ≤ n := by simpa using h2
      refine ⟨by rw [chars_len]; omega, fun i acc ρ => acc = (z.cps.toList.take i).map (fun c => .bl (decide (c ∈ y.cps.toList))) ∧ ρ = [.v (.str z), .v (.str y), .v (.int n), .n], ⟨rfl, rfl⟩, fun i d acc ρ hd hi => ?_, fun acc ρ hi => ?_⟩
      · obtain ⟨rfl, rfl⟩ := hi
        obtain ⟨hi, rfl⟩ := chars_get hd
        refine ⟨_, rfl, ?_⟩
        walk_at "mw"
        refine ⟨?_, rfl⟩
        rw [List.take_succ_eq_append_getElem hi, List.map_append]
        rfl
      · obtain ⟨rfl, rfl⟩ := hi
        walk_at "mw"
        refine wr_all ?_
        walk_at "mw"
        have : okW n y z = allc y z := by
          unfold okW
          rw [show decide (1 ≤ z.length) = true by simp; omega, show decide (z.length ≤ n) = true by simp; omega]
          rfl
        rw [chars_len, show z.length = z.cps.toList.length by rw [Array.length_toList]; rfl, List.take_length]
        rw [this] at h
        exact h
  · walk_at "mw"
    have : okW n y z = false := by
      unfold okW
      rw [show decide (1 ≤ z.length) = false by simp; omega]
      rfl
    rw [this] at h
    exact h
theorem allin_w {z y : Str} {P : O → List O → Prop} (hz : z.length ≤ 1000000) (h : P (.v (.bl (decide (1 ≤ z.length) && allc y z))) [.v (.str z), .v (.str y)]) : WG (g_law_allin [.v (.str z), .v (.str y)]) P := by
  unfold g_law_allin
  walk_at "mwfn"
  unfold mb_law_allin
  refine ws_seq ?_
  walk_at "mw"
  refine wf_inv (fun i ρ => (∀ c ∈ z.cps.toList.take i, c ∈ y.cps.toList) ∧ ∃ x, ρ = [.v (.str z), .v (.str y), x]) ⟨by simp, _, rfl⟩ (fun i d ρ hd hi => ?_) (fun ρ hi => ?_)
  · obtain ⟨hall, x, rfl⟩ := hi
    obtain ⟨hi, rfl⟩ := chars_get hd
    refine ⟨_, rfl, ?_⟩
    walk_at "mw"
    refine wifB (fun h2 => ?_) (fun h2 => ?_)
    · walk_at "mw"
      have : allc y z = false := by
        unfold allc
        rw [List.all_eq_false]
        exact ⟨_, List.getElem_mem hi, by simpa using h2⟩
      rw [this, Bool.and_false] at h
      exact h
    · walk_at "mw"
      refine tn_nx ⟨?_, _, rfl⟩
      rw [List.take_succ_eq_append_getElem hi]
      intro c hc
      rcases List.mem_append.mp hc with hc | hc
      · exact hall c hc
      · rw [List.mem_singleton.mp hc]; simpa using h2
  · obtain ⟨hall, x, rfl⟩ := hi
    rw [chars_len, show z.length = z.cps.toList.length by rw [Array.length_toList]; rfl, List.take_length] at hall
    refine sq_nx ?_
    walk_at "mw"
    have : allc y z = true := by
      unfold allc
      rw [List.all_eq_true]
      intro c hc
      simpa using hall c hc
    rw [this, Bool.and_true] at h
    rw [show decide ((0 : Int) < z.length) = decide (1 ≤ z.length) by rw [decide_eq_decide]; omega]
    exact h
def fW : D → Bool
  | .str z => okW 8 sW z
  | _ => false
def fC : D → Bool
  | .str z => okW 4 sG z
  | _ => false
def hd (z : Str) : Nat := z.cps.toList.headD 0
def fN : D → Bool
  | .str z => okW 8 sW z && decide (hd z ∈ sS.cps.toList)
  | _ => false
def fO : D → Bool
  | .str z => fN (.str z) || okW 2 sM z
  | _ => false
theorem atom_w {d : D} {P : O → List O → Prop} (hv : Va d) (h : P (.v (.bl (fW d))) [.v d]) : WG (g_is_atom_word [.v d]) P := by
  unfold g_is_atom_word
  walk_at "mwfn"
  unfold mb_is_atom_word
  cases hv
  case str h1 =>
    walk_at "mw"
    refine made_of_w (n := 8) (by omega) (by omega) ?_
    walk_at "mw"
    exact h
  all_goals
    walk_at "mw"
    exact h
theorem kind_w {d : D} {P : O → List O → Prop} (hv : Va d) (h : P (.v (.bl (fC d))) [.v d]) : WG (g_is_kind_name [.v d]) P := by
  unfold g_is_kind_name
  walk_at "mwfn"
  unfold mb_is_kind_name
  cases hv
  case str h1 =>
    walk_at "mw"
    refine made_of_w (n := 4) (by omega) (by omega) ?_
    walk_at "mw"
    exact h
  all_goals
    walk_at "mw"
    exact h
theorem head_at {z : Str} (h : 1 ≤ z.length) : L2.atI z.cps.toList 0 = some (hd z) ∧ hd z ∈ z.cps.toList := by
  have : 0 < z.cps.toList.length := by rw [Array.length_toList]; exact h
  unfold hd
  cases e : z.cps.toList with
  | nil => rw [e] at this; exact absurd this (by decide)
  | cons c cs => exact ⟨atI_nat (j := 0) rfl, by simp⟩
theorem macro_w {d : D} {P : O → List O → Prop} (hv : Va d) (h : P (.v (.bl (fN d))) [.v d]) : WG (g_is_macro_name [.v d]) P := by
  unfold g_is_macro_name
  walk_at "mwfn"
  unfold mb_is_macro_name
  walk_at "mw"
  refine atom_w hv ?_
  walk_at "mw"
  cases hv
  case str z h1 =>
    refine wifB (fun h2 => ?_) (fun h2 => ?_)
    · have h3 : 1 ≤ z.length := by
        simp only [fW, okW, Bool.and_eq_true, decide_eq_true_eq] at h2
        exact h2.1
      walk_at "mw"
      refine wr_ixS (by omega) (head_at h3).1 ?_
      walk_at "mw"
      simp only [fN] at h
      rw [show okW 8 sW z = true from h2, Bool.true_and] at h
      exact h
    · simp only [fN] at h
      rw [show okW 8 sW z = false from h2, Bool.false_and] at h
      walk_at "mw"
      exact h
  all_goals
    refine wifB (fun h2 => ?_) (fun h2 => ?_)
    · exact absurd h2 (by simp [fW])
    · walk_at "mw"
      exact h
theorem op_w {d : D} {P : O → List O → Prop} (hv : Va d) (h : P (.v (.bl (fO d))) [.v d]) : WG (g_is_operator_name [.v d]) P := by
  unfold g_is_operator_name
  walk_at "mwfn"
  unfold mb_is_operator_name
  refine ws_seq ?_
  walk_at "mw"
  refine macro_w hv ?_
  walk_at "mw"
  cases hv
  case str z h1 =>
    refine wifB (fun h2 => ?_) (fun h2 => ?_)
    · walk_at "mw"
      simp only [fO] at h
      rw [h2, Bool.true_or] at h
      exact h
    · walk_at "mw"
      refine made_of_w (n := 2) (by omega) (by omega) ?_
      walk_at "mw"
      simp only [fO] at h
      rw [h2, Bool.false_or] at h
      exact h
  all_goals
    refine wifB (fun h2 => ?_) (fun h2 => ?_)
    · exact absurd h2 (by simp [fN])
    · walk_at "mw"
      exact h
theorem isword_w {d : D} {P : O → List O → Prop} (hv : Va d) (h : P (.v (.bl (fW d))) [.v d]) : WG (g_law_isword [.v d]) P := by
  unfold g_law_isword
  walk_at "mwfn"
  unfold mb_law_isword
  cases hv
  case str z h1 =>
    refine ws_seq ?_
    walk_at "mw"
    refine wif (fun h2 => ?_) (fun h2 => ?_)
    · walk_at "mw"
      simp only [fW, okW] at h
      rw [show decide (z.length ≤ 8) = false by simp; omega, Bool.false_and, Bool.and_false] at h
      exact h
    · walk_at "mw"
      refine allin_w (by omega) ?_
      walk_at "mw"
      simp only [fW, okW] at h
      rw [show decide (z.length ≤ 8) = true by simp; omega, Bool.true_and] at h
      exact h
  all_goals
    refine ws_seq ?_
    walk_at "mw"
    exact h
theorem iscapital_w {d : D} {P : O → List O → Prop} (hv : Va d) (h : P (.v (.bl (fC d))) [.v d]) : WG (g_law_iscapital [.v d]) P := by
  unfold g_law_iscapital
  walk_at "mwfn"
  unfold mb_law_iscapital
  cases hv
  case str z h1 =>
    walk_at "mw"
    refine wif (fun h2 => ?_) (fun h2 => ?_)
    · walk_at "mw"
      refine allin_w (by omega) ?_
      walk_at "mw"
      simp only [fC, okW] at h
      rw [show decide (z.length ≤ 4) = true by simp; omega, Bool.true_and] at h
      exact h
    · walk_at "mw"
      simp only [fC, okW] at h
      rw [show decide (z.length ≤ 4) = false by simp; omega, Bool.false_and, Bool.and_false] at h
      exact h
  all_goals
    walk_at "mw"
    exact h
theorem word_split : ∀ c ∈ sW.cps.toList, (!decide (c ∈ sD.cps.toList)) = decide (c ∈ sS.cps.toList) := by decide +kernel
theorem isname_w {d : D} {P : O → List O → Prop} (hv : Va d) (h : P (.v (.bl (fN d))) [.v d]) : WG (g_law_isname [.v d]) P := by
  unfold g_law_isname
  walk_at "mwfn"
  unfold mb_law_isname
  walk_at "mw"
  refine isword_w hv ?_
  walk_at "mw"
  cases hv
  case str z h1 =>
    refine wifB (fun h2 => ?_) (fun h2 => ?_)
    · have h2' := h2
      simp only [fW, okW, Bool.and_eq_true, decide_eq_true_eq] at h2'
      have h3 : 1 ≤ z.length := h2'.1
      have h4 := h2'.2.2
      unfold allc at h4
      rw [List.all_eq_true] at h4
      have h5 := word_split (hd z) (by simpa using h4 _ (head_at h3).2)
      walk_at "mw"
      refine wr_ixS (by omega) (head_at h3).1 ?_
      walk_at "mw"
      simp only [fN] at h
      rw [show okW 8 sW z = true from h2, Bool.true_and, ← h5] at h
      exact h
    · simp only [fN] at h
      rw [show okW 8 sW z = false from h2, Bool.false_and] at h
      walk_at "mw"
      exact h
  all_goals
    refine wifB (fun h2 => ?_) (fun h2 => ?_)
    · exact absurd h2 (by simp [fW])
    · walk_at "mw"
      exact h
theorem isop_w {d : D} {P : O → List O → Prop} (hv : Va d) (h : P (.v (.bl (fO d))) [.v d]) : WG (g_law_isop [.v d]) P := by
  unfold g_law_isop
  walk_at "mwfn"
  unfold mb_law_isop
  have hv' := hv
  cases hv
  case str z h1 =>
    have tail : okW 2 sM z = false → P (.v (.bl (fN (.str z)))) [.v (.str z)] := by
      intro h2
      simp only [fO] at h
      rw [h2, Bool.or_false] at h
      exact h
    refine ws_seq ?_
    walk_at "mw"
    refine wif (fun h2 => ?_) (fun h2 => ?_)
    · walk_at "mw"
      refine allin_w (by omega) ?_
      walk_at "mw"
      have e : okW 2 sM z = (decide (1 ≤ z.length) && allc sM z) := by
        simp only [okW]
        rw [show decide (z.length ≤ 2) = true by simp; omega, Bool.true_and]
      refine wifB (fun h3 => ?_) (fun h3 => ?_)
      · walk_at "mw"
        simp only [fO] at h
        rw [e, h3, Bool.or_true] at h
        exact h
      · walk_at "mw"
        refine isname_w hv' ?_
        walk_at "mw"
        exact tail (by rw [e, h3])
    · walk_at "mw"
      refine isname_w hv' ?_
      walk_at "mw"
      refine tail ?_
      simp only [okW]
      rw [show decide (z.length ≤ 2) = false by simp; omega, Bool.false_and, Bool.and_false]
  all_goals
    refine ws_seq ?_
    walk_at "mw"
    refine isname_w hv' ?_
    walk_at "mw"
    exact h
def due (d : D) : D := .lst [.bl (fW d), .bl (fO d), .bl (fN d), .bl (fC d)]
theorem answers_w {d : D} {P : O → List O → Prop} (hv : Va d) (h : P (.l [.bl (fW d), .bl (fO d), .bl (fN d), .bl (fC d)]) [.v d]) : WG (g_law_answers [.v d]) P := by
  unfold g_law_answers
  walk_at "mwfn"
  unfold mb_law_answers
  walk_at "mw"
  refine atom_w hv ?_
  walk_at "mw"
  refine op_w hv ?_
  walk_at "mw"
  refine macro_w hv ?_
  walk_at "mw"
  refine kind_w hv ?_
  walk_at "mw"
  exact h

theorem szs_set (ds : List D) (i : Nat) (e : D) : szs (ds.set i e) ≤ szs ds + sz e := by
  induction ds generalizing i with
  | nil => simp [szs]
  | cons d ds ih =>
    cases i with
    | zero => simp only [List.set_cons_zero, szs]; omega
    | succ i => simp only [List.set_cons_succ, szs]; have := ih i; omega
def Cs (rt : List D) (n w : Nat) (ρ : List O) : Prop := ∃ s ds x, WF s ∧ (∀ d ∈ ds, Va d) ∧ szs ds ≤ w ∧ ds.length = n ∧ ρ = [Sr s, .v (.lst rt), .l ds, x]
theorem cs_snoc {rt ds : List D} {d : D} {n w v : Nat} {s : List Int} {x : O} (hs : WF s) (ha : ∀ d ∈ ds, Va d) (hw : szs ds ≤ w) (hn : ds.length = n) (hd : Va d) (hv : sz d ≤ v) : Cs rt (n + 1) (w + v) [Sr s, .v (.lst rt), .l (ds ++ [d]), x] := by
  refine ⟨s, ds ++ [d], x, hs, ?_, ?_, by simp [hn], rfl⟩
  · intro e he
    rcases List.mem_append.mp he with he | he
    · exact ha e he
    · rw [List.mem_singleton.mp he]; exact hd
  · rw [szs_app]; simp only [szs]; omega
theorem case_w {s : List Int} {P : O → List O → Prop} (hs : WF s) (h : ∀ ds s', WF s' → (∀ d ∈ ds, Va d) → szs ds ≤ 9000 → ds.length = 14 → P (.l ds) [Sr s']) : WG (g_law_case [Sr s]) P := by
  unfold g_law_case
  walk_at "mwfn"
  unfold mb_law_case
  walk_at "mw"
  refine word_w hs fun w1 s1 hs1 hw1 => ?_
  walk_at "mw"
  refine marks_w hs1 fun w2 s2 hs2 hw2 => ?_
  walk_at "mw"
  refine word_w hs2 fun w3 s3 hs3 hw3 => ?_
  walk_at "mw"
  refine capital_w hs3 fun w4 s4 hs4 hw4 => ?_
  walk_at "mw"
  obtain ⟨rt, hrt⟩ : ∃ rt, rt = [D.str w1, .str w2, .str w3, .str w4] := ⟨_, rfl⟩
  have hall : ∀ d ∈ rt, IsS 8 d := by
    rw [hrt]
    simp only [List.forall_mem_cons, List.not_mem_nil, false_implies, implies_true, and_true]
    exact ⟨⟨_, rfl, by omega⟩, ⟨_, rfl, by omega⟩, ⟨_, rfl, by omega⟩, ⟨_, rfl, by omega⟩⟩
  have hval : ∀ d ∈ rt, Va d := fun d hd => by
    obtain ⟨z, rfl, hz⟩ := hall d hd
    exact .str (by omega)
  have hwt : szs rt = 4 := by rw [hrt]; simp [szs, sz]
  have hln : rt.length = 4 := by rw [hrt]; rfl
  have hat0 : L2.atI rt 0 = some (.str w1) := by rw [hrt]; exact atI_nat (j := 0) rfl
  have hat2 : L2.atI rt 2 = some (.str w3) := by rw [hrt]; exact atI_nat (j := 2) rfl
  rw [← hrt]
  refine ws_cutC (Cs rt 8 8) ?_ ?_
  · walk_at "mw"
    refine wf_inv (fun i ρ => Cs rt (4 + i) (4 + i) ρ) ⟨s4, rt, _, hs4, hval, by omega, by omega, rfl⟩ (fun i d ρ hd hi => ?_) (fun ρ hi => ?_)
    · obtain ⟨s5, ds, x, hs5, ha, hw, hn, rfl⟩ := hi
      have hdm := List.mem_of_getElem? hd
      obtain ⟨z, rfl, hz⟩ := hall d hdm
      refine ⟨_, rfl, ?_⟩
      walk_at "mw"
      refine onesign_w hs5 (by omega) fun y s6 hs6 hy => ?_
      walk_at "mw"
      refine ⟨by have hb := (List.getElem?_eq_some_iff.mp hd).1; omega, ?_⟩
      exact tn_nx (cs_snoc (n := 4 + i) (w := 4 + i) (v := 1) hs6 ha hw hn (.str (by omega)) (Nat.le_refl 1))
    · rw [hln] at hi
      exact ct_nx hi
  · rintro _ ⟨s5, ds, x, hs5, ha, hw, hn, rfl⟩
    refine ws_cutC (Cs rt 9 9) ?_ ?_
    · walk_at "mw"
      refine nearname_w hs5 fun y s6 hs6 hy => ?_
      walk_at "mw"
      refine ⟨by omega, ?_⟩
      refine ct_nx ?_
      exact cs_snoc hs6 ha hw hn (.str (by omega)) (Nat.le_refl 1)
    · rintro _ ⟨s5, ds, x, hs5, ha, hw, hn, rfl⟩
      refine ws_cutC (Cs rt 10 10) ?_ ?_
      · walk_at "mw"
        refine take_w hs5 (by omega) fun r s6 hs6 _ _ => ?_
        walk_at "mw"
        refine wif (fun h2 => ?_) (fun h2 => ?_)
        · walk_at "mw"
          refine nearname_w hs6 fun y s7 hs7 hy => ?_
          walk_at "mw"
          refine ⟨by omega, ?_⟩
          refine ct_nx ?_
          exact cs_snoc hs7 ha hw hn (.str (by omega)) (Nat.le_refl 1)
        · walk_at "mw"
          refine text_w hs6 (by omega) fun y s7 hs7 hy => ?_
          walk_at "mw"
          refine ⟨by omega, ?_⟩
          refine ct_nx ?_
          exact cs_snoc hs7 ha hw hn (.str (by omega)) (Nat.le_refl 1)
      · rintro _ ⟨s5, ds, x, hs5, ha, hw, hn, rfl⟩
        refine ws_cutC (Cs rt 11 11) ?_ ?_
        · walk_at "mw"
          refine repeated_w hs5 fun y s6 hs6 hy => ?_
          walk_at "mw"
          refine ⟨by omega, ?_⟩
          refine ct_nx ?_
          exact cs_snoc hs6 ha hw hn (.str (by omega)) (Nat.le_refl 1)
        · rintro _ ⟨s5, ds, x, hs5, ha, hw, hn, rfl⟩
          refine ws_cutC (Cs rt 12 411) ?_ ?_
          · walk_at "mw"
            refine any_w hs5 fun o d s6 hs6 ho hv hz => ?_
            walk_at "mw"
            refine ⟨d, ho, ?_⟩
            walk_at "mw"
            refine ⟨by omega, ?_⟩
            refine ct_nx ?_
            exact cs_snoc hs6 ha hw hn hv hz
          · rintro _ ⟨s5, ds, x, hs5, ha, hw, hn, rfl⟩
            refine ws_cutC (Cs rt 13 811) ?_ ?_
            · walk_at "mw"
              refine any_w hs5 fun o d s6 hs6 ho hv hz => ?_
              walk_at "mw"
              refine ⟨d, ho, ?_⟩
              walk_at "mw"
              refine ⟨by omega, ?_⟩
              refine ct_nx ?_
              exact cs_snoc hs6 ha hw hn hv hz
            · rintro _ ⟨s5, ds, x, hs5, ha, hw, hn, rfl⟩
              refine ws_cutC (Cs rt 13 6000) ?_ ?_
              · walk_at "mw"
                refine take_w hs5 (by omega) fun r s6 hs6 _ _ => ?_
                walk_at "mw"
                refine wif (fun h2 => ?_) (fun h2 => ?_)
                · walk_at "mw"
                  refine flatvalue_w hs6 fun o d s7 hs7 ho hv hz => ?_
                  walk_at "mw"
                  refine ⟨d, ho, ?_⟩
                  walk_at "mw"
                  refine edge_w hs7 (by omega) fun r s8 hs8 hr1 hr2 => ?_
                  walk_at "mw"
                  refine wr_mulL ⟨big_of (by omega) (by omega), by simp only [List.length_cons, List.length_nil]; omega⟩ ?_
                  walk_at "mw"
                  refine wx_i (ixN_neg (by omega) (by omega)) ?_
                  refine ct_nx ⟨s8, _, x, hs8, ?_, ?_, by rw [List.length_set]; exact hn, rfl⟩
                  · intro e he
                    rcases List.mem_or_eq_of_mem_set he with he | rfl
                    · exact ha e he
                    · exact .lst (va_rep1 hv)
                  · refine Nat.le_trans (szs_set _ _ _) ?_
                    simp only [sz]
                    rw [szs_rep1, hz]
                    omega
                · walk_at "mw"
                  exact ct_nx ⟨s6, ds, x, hs6, ha, by omega, hn, rfl⟩
              · rintro _ ⟨s5, ds, x, hs5, ha, hw, hn, rfl⟩
                walk_at "mw"
                refine wr_ixL hat0 ?_
                walk_at "mw"
                refine wr_ixL hat2 ?_
                walk_at "mw"
                refine take_w hs5 (by omega) fun r s6 hs6 _ hr => ?_
                have hr := hr (by omega)
                walk_at "mw"
                have hall : ∀ d ∈ [D.bl true, .int 1, .bl false, .int 0, .lst [.str w1], .tup [.str w3]], Va d ∧ sz d ≤ 2 := by
                  simp only [List.forall_mem_cons, List.not_mem_nil, false_implies, implies_true, and_true]
                  refine ⟨⟨.bl, ?_⟩, ⟨.int, ?_⟩, ⟨.bl, ?_⟩, ⟨.int, ?_⟩, ⟨.lst ?_, ?_⟩, ⟨.tup ?_, ?_⟩⟩
                  all_goals first
                    | (simp only [sz, szs]; omega)
                    | (simp only [List.forall_mem_cons, List.not_mem_nil, false_implies, implies_true, and_true]; exact .str (by omega))
                refine wr_ixT' (by omega) (by simp; omega) fun e he => ?_
                obtain ⟨k1, k2⟩ := hall e he
                walk_at "mw"
                refine ⟨by omega, ?_⟩
                walk_at "mw"
                obtain ⟨s7, ds7, x7, hs7, ha7, hw7, hn7, e7⟩ := cs_snoc (rt := rt) (x := x) hs6 ha hw hn k1 k2
                injection e7 with e71 e7
                injection e7 with e72 e7
                injection e7 with e73 e7
                injection e73 with e73
                rw [← e73] at ha7 hw7 hn7
                exact h _ s6 hs6 ha7 (by omega) hn7

theorem law_holds (ns : List Int) (hl : ns.length ≤ 63) : ∃ outs, g_law [.v (.rl (ns.map Mr.D.int))] = some (.v (.bl true), outs) := by
  suffices hw : WG (g_law [.v (.rl (ns.map Mr.D.int))]) (fun r _ => r = .v (.bl true)) by
    obtain ⟨r, outs, e, rfl⟩ := hw
    exact ⟨outs, e⟩
  unfold g_law
  walk_at "mwfn"
  unfold mb_law
  walk_at "mw"
  refine store_w (fun s hs => ?_) hl
  walk_at "mw"
  obtain ⟨r, outs, e, ds, s', hs', hva, hsz, hln, rfl, rfl⟩ : WG (g_law_case [Sr s]) (fun r outs => ∃ ds s', WF s' ∧ (∀ d ∈ ds, Va d) ∧ szs ds ≤ 9000 ∧ ds.length = 14 ∧ r = .l ds ∧ outs = [Sr s']) := case_w hs fun ds s' a b c d => ⟨ds, s', a, b, c, d, rfl, rfl⟩
  refine ⟨_, _, e, ?_⟩
  walk_at "mw"
  refine ⟨_, _, e, ?_⟩
  walk_at "mw"
  refine we_lc ?_
  walk_at "mw"
  refine ⟨by omega, fun i acc ρ => acc = (ds.take i).map due ∧ ρ = [.v (.rl (ns.map D.int)), Sr s', .v (.lst ds), .l ds, .n, .n, .n], ⟨rfl, rfl⟩, fun i d acc ρ hd hi => ?_, fun acc ρ hi => ?_⟩
  · obtain ⟨rfl, rfl⟩ := hi
    obtain ⟨hi, rfl⟩ := List.getElem?_eq_some_iff.mp hd
    have hv := hva ds[i] (List.getElem_mem hi)
    refine ⟨_, rfl, ?_⟩
    walk_at "mw"
    refine isword_w hv ?_
    walk_at "mw"
    refine isop_w hv ?_
    walk_at "mw"
    refine isname_w hv ?_
    walk_at "mw"
    refine iscapital_w hv ?_
    walk_at "mw"
    refine ⟨?_, rfl⟩
    rw [List.take_succ_eq_append_getElem hi, List.map_append]
    rfl
  · obtain ⟨rfl, rfl⟩ := hi
    rw [List.take_length]
    have body : ∀ (k : Nat) (hk : k < ds.length) (ki : Int), ki = k → WS (s_if (m_not (m_tru (p_ex (m_call g_law_same (a_cons (p_ex (m_call g_law_answers (a_cons (p_ex (m_op2 ixD (p_nm 3) (p_nm 5))) (a_nil)))) (a_cons (p_ex (m_op2 ixD (p_nm 4) (p_nm 5))) (a_nil))))))) (s_ret (m_c (.bl false))) (s_nop) [.v (.rl (ns.map D.int)), Sr s', .v (.lst ds), .l ds, .l (ds.map due), .v (.int ki), .n]) (fun o => o = .nx [.v (.rl (ns.map D.int)), Sr s', .v (.lst ds), .l ds, .l (ds.map due), .v (.int ki), .n]) := by
      intro k hk ki hki
      have hv := hva ds[k] (List.getElem_mem hk)
      have hat : L2.atI ds ki = some ds[k] := atI_of (by omega) (by rw [show ki.toNat = k by omega]; exact List.getElem?_eq_getElem hk)
      have hat2 : L2.atI (ds.map due) ki = some (due ds[k]) := atI_of (by omega) (by rw [show ki.toNat = k by omega, List.getElem?_map, List.getElem?_eq_getElem hk]; rfl)
      walk_at "mw"
      refine wr_ixL hat ?_
      walk_at "mw"
      refine answers_w hv ?_
      walk_at "mw"
      refine wr_ixL hat2 ?_
      walk_at "mw"
      refine same_w (d := due ds[k]) rfl rfl ?_ ?_ ?_
      · refine .lst ?_
        simp only [List.forall_mem_cons, List.not_mem_nil, false_implies, implies_true, and_true]
        exact ⟨.bl, .bl, .bl, .bl⟩
      · simp [due, sz, szs]
      · walk_at "mw"
        rfl
    walk_at "mw"
    refine ws_seq ?_
    walk_at "mw"
    refine ⟨big_of (by omega) (by omega), ?_⟩
    refine wf_inv (fun i ρ => ∃ x, ρ = [.v (.rl (ns.map D.int)), Sr s', .v (.lst ds), .l ds, .l (ds.map due), x, .n]) ⟨_, rfl⟩ (fun i d ρ hd hi => ?_) (fun ρ hi => ?_)
    · obtain ⟨x, rfl⟩ := hi
      obtain ⟨hi, rfl⟩ := rngD_get hd
      refine ⟨_, rfl, ?_⟩
      obtain ⟨o, e, rfl⟩ := body i (by omega) (0 + (i : Int)) (by omega)
      exact ⟨_, e, tn_nx ⟨_, rfl⟩⟩
    · obtain ⟨x, rfl⟩ := hi
      refine sq_nx ?_
      refine ws_seq ?_
      walk_at "mw"
      refine ⟨big_of (by omega) (by omega), ?_⟩
      refine wf_inv (fun i ρ => ∃ x, ρ = [.v (.rl (ns.map D.int)), Sr s', .v (.lst ds), .l ds, .l (ds.map due), x, .n]) ⟨_, rfl⟩ (fun i d ρ hd hi => ?_) (fun ρ hi => ?_)
      · obtain ⟨x, rfl⟩ := hi
        obtain ⟨hi, rfl⟩ := revD_get hd
        refine ⟨_, rfl, ?_⟩
        obtain ⟨o, e, rfl⟩ := body (ds.length - 1 - i) (by omega) (0 + ((ds.length : Int).toNat : Int) - 1 - (i : Int)) (by omega)
        exact ⟨_, e, tn_nx ⟨_, rfl⟩⟩
      · obtain ⟨x, rfl⟩ := hi
        refine sq_nx ?_
        walk_at "mw"
        refine same_w (d := .lst ds) rfl rfl (.lst hva) (by simp only [sz]; omega) ?_
        walk_at "mw"
        rfl

end K00
theorem PySem.Challenge.cw_textortree_k00_names_of_four_sorts_holds : PySem.Challenge.rw_textortree_k00_names_of_four_sorts.Holds := by
  exact K00.holds_of K00.law_holds
