import PyProof.Rows.All
import Wide.All
import OpenK.AllK
import Wide.FinOn
import HandS.ForMost
import HandS.ForExc
import HandS.Wide
import HandS.IsInst
import HandS.Gcd
import HandS.Zip
import HandS.TupAny
import HandS.Defaults
import PyProof.ReprRoads
import HandS.EndBits
import HandS.Head3
import HandS.HeadEnd
import HandS.HeadHook2
import PySem.Challenge.RW_cutmakers_k15_floor_costs_judge
set_option Elab.async false
set_option linter.all false
set_option maxRecDepth 100000
set_option maxHeartbeats 2000000
/-! Data upon the hand layer: values told as plain data, the state as data by slot -/
namespace Dat
open PySem L2

/-- plain data; sq true: a tuple, sq false: a list -/
inductive Dt where
  | non | bl (b : Bool) | int (i : Int) | str (x : Str)
  | sq (t : Bool) (ds : List Dt)
  | obj (C : Addr) (fs : List (Str × Dt))
  | scr (ns : List Int)
  | ty (n : String) | cls (C : Addr)

def Sq (K : PySem.W.Frag) (H : Hp) (t : Bool) (a : Addr) (xs : List V) : Prop := match t with
  | true => SqT K H a xs
  | false => H a = some (.lst xs)

def Ex (H H' : Hp) : Prop := ∀ a o, H a = some o → H' a = some o
theorem Ex.refl (H : Hp) : Ex H H := fun _ _ h => h
theorem Ex.trans {H H1 H2 : Hp} (a : Ex H H1) (b : Ex H1 H2) : Ex H H2 := fun x o h => b x o (a x o h)
theorem Ex.new {H : Hp} {p : Addr} {o : HO} (h : H p = none) : Ex H (upd H p o) := fun a u e => by
  rw [upd_ne (ne_of_none e h)]; exact e
theorem Ex.free {H H' : Hp} (e : Ex H H') {p : Addr} (h : H' p = none) : H p = none := by
  cases h1 : H p with
  | none => rfl
  | some o => rw [e p o h1] at h; cases h
theorem Ex.rd {H H' : Hp} {a : Addr} {u : HO} (e : Ex H H') (h : Rd H a u) : Rd H' a u := by
  rcases h with h | ⟨o, h⟩
  · exact .inl (e a _ h)
  · exact .inr ⟨o, e a _ h⟩
theorem Ex.sqL {K : PySem.W.Frag} {H H' : Hp} {a : Addr} {xs : List V} (e : Ex H H') (h : SqL K H a xs) : SqL K H' a xs := by
  rcases h with h | h
  · exact .inl (e.rd h)
  · exact .inr h
theorem Ex.sqT {K : PySem.W.Frag} {H H' : Hp} {a : Addr} {xs : List V} (e : Ex H H') (h : SqT K H a xs) : SqT K H' a xs := by
  rcases h with h | h
  · exact .inl (e.rd h)
  · exact .inr h
theorem Ex.sq {K : PySem.W.Frag} {H H' : Hp} {t : Bool} {a : Addr} {xs : List V} (e : Ex H H') (h : Sq K H t a xs) : Sq K H' t a xs := by
  cases t with
  | true => exact e.sqT h
  | false => exact e _ _ h

/-- the heap without the addresses M -/
def hid (M : List Addr) (H : Hp) : Hp := fun a => if a ∈ M then none else H a
theorem hid_nil (H : Hp) : hid [] H = H := by funext a; simp [hid]
theorem hid_le (M : List Addr) (H : Hp) : Ex (hid M H) H := fun a o h => by
  unfold hid at h; split at h
  · cases h
  · exact h
theorem hid_sub {M M' : List Addr} (H : Hp) (h : ∀ p, p ∈ M' → p ∈ M) : Ex (hid M H) (hid M' H) := fun a o e => by
  unfold hid at e ⊢; split at e
  · cases e
  · rename_i n; rw [if_neg (fun z => n (h _ z))]; exact e
theorem hid_ex {M : List Addr} {H H' : Hp} (h : Ex H H') : Ex (hid M H) (hid M H') := fun a o e => by
  unfold hid at e ⊢; split at e
  · cases e
  · rename_i n; rw [if_neg n]; exact h a o e
theorem hid_in {M : List Addr} {H : Hp} {a : Addr} (h : a ∈ M) : hid M H a = none := if_pos h
theorem hid_out {M : List Addr} {H : Hp} {a : Addr} (h : a ∉ M) : hid M H a = H a := if_neg h
theorem hid_upd {M : List Addr} {H : Hp} {a : Addr} {o : HO} (h : a ∈ M) : hid M (upd H a o) = hid M H := by
  funext b
  by_cases hb : b ∈ M
  · rw [hid_in hb, hid_in hb]
  · rw [hid_out hb, hid_out hb, upd_ne (fun e => hb (by rw [e]; exact h))]

section
variable (K : PySem.W.Frag)
mutual
/-- the value v is the data d in H -/
def Is (H : Hp) : Dt → V → Prop
  | .non, v => v = .non
  | .bl b, v => v = .bl b
  | .int i, v => v = .int i
  | .str x, v => v = .str x
  | .sq t ds, v => ∃ a xs, v = .ref a ∧ Sq K H t a xs ∧ IsAll H ds xs
  | .obj C fs, v => ∃ a dx vs, v = .ref a ∧ H a = some (.ins C dx vs) ∧ IsFs H fs vs
  | .scr ns, v => ∃ a, v = .ref a ∧ SqL K H a (ns.map V.int)
  | .ty n, v => v = .ty n
  | .cls C, v => v = .ref C
def IsAll (H : Hp) : List Dt → List V → Prop
  | [], xs => xs = []
  | d :: ds, xs => ∃ x ys, xs = x :: ys ∧ Is H d x ∧ IsAll H ds ys
def IsFs (H : Hp) : List (Str × Dt) → List (Str × V) → Prop
  | [], xs => xs = []
  | (k, d) :: ds, xs => ∃ x ys, xs = (k, x) :: ys ∧ Is H d x ∧ IsFs H ds ys
end
end
section
variable {K : PySem.W.Frag} {H H' : Hp}
mutual
theorem Is.mono (e : Ex H H') : ∀ {d : Dt} {v : V}, Is K H d v → Is K H' d v
  | .non, _, h => by simp only [Is] at h ⊢; exact h
  | .bl _, _, h => by simp only [Is] at h ⊢; exact h
  | .int _, _, h => by simp only [Is] at h ⊢; exact h
  | .str _, _, h => by simp only [Is] at h ⊢; exact h
  | .sq _ _, _, h => by
    simp only [Is] at h ⊢
    obtain ⟨a, xs, e1, h1, h2⟩ := h
    exact ⟨a, xs, e1, e.sq h1, IsAll.mono e h2⟩
  | .obj _ _, _, h => by
    simp only [Is] at h ⊢
    obtain ⟨a, dx, vs, e1, h1, h2⟩ := h
    exact ⟨a, dx, vs, e1, e _ _ h1, IsFs.mono e h2⟩
  | .scr _, _, h => by
    simp only [Is] at h ⊢
    obtain ⟨a, e1, h1⟩ := h
    exact ⟨a, e1, e.sqL h1⟩
  | .ty _, _, h => by simp only [Is] at h ⊢; exact h
  | .cls _, _, h => by simp only [Is] at h ⊢; exact h
theorem IsAll.mono (e : Ex H H') : ∀ {ds : List Dt} {xs : List V}, IsAll K H ds xs → IsAll K H' ds xs
  | [], _, h => by simp only [IsAll] at h ⊢; exact h
  | _ :: _, _, h => by
    simp only [IsAll] at h ⊢
    obtain ⟨x, ys, e1, h1, h2⟩ := h
    exact ⟨x, ys, e1, Is.mono e h1, IsAll.mono e h2⟩
theorem IsFs.mono (e : Ex H H') : ∀ {ds : List (Str × Dt)} {xs : List (Str × V)}, IsFs K H ds xs → IsFs K H' ds xs
  | [], _, h => by simp only [IsFs] at h ⊢; exact h
  | (_, _) :: _, _, h => by
    simp only [IsFs] at h ⊢
    obtain ⟨x, ys, e1, h1, h2⟩ := h
    exact ⟨x, ys, e1, Is.mono e h1, IsFs.mono e h2⟩
end
theorem IsAll.length : ∀ {ds : List Dt} {xs : List V}, IsAll K H ds xs → xs.length = ds.length
  | [], _, h => by simp only [IsAll] at h; subst h; rfl
  | d :: ds, _, h => by
    simp only [IsAll] at h
    obtain ⟨x, ys, e1, h1, h2⟩ := h
    subst e1; simp [h2.length]
theorem IsAll.get : ∀ {ds : List Dt} {xs : List V} {i : Nat} {d : Dt}, IsAll K H ds xs → ds[i]? = some d → ∃ x, xs[i]? = some x ∧ Is K H d x
  | [], _, _, _, _, e => by simp at e
  | c :: ds, _, 0, d, h, e => by
    simp only [IsAll] at h
    obtain ⟨x, ys, e1, h1, h2⟩ := h
    subst e1; simp at e; subst e; exact ⟨x, rfl, h1⟩
  | c :: ds, _, i + 1, d, h, e => by
    simp only [IsAll] at h
    obtain ⟨x, ys, e1, h1, h2⟩ := h
    subst e1
    obtain ⟨y, q1, q2⟩ := IsAll.get (i := i) (d := d) h2 (by simpa using e)
    exact ⟨y, by simpa using q1, q2⟩
theorem IsAll.back : ∀ {ds : List Dt} {xs : List V} {i : Nat} {x : V}, IsAll K H ds xs → xs[i]? = some x → ∃ d, ds[i]? = some d ∧ Is K H d x := fun {ds xs i x} h e => by
  have hl := h.length
  have hi : i < ds.length := by
    have := (List.getElem?_eq_some_iff.mp e).1
    omega
  obtain ⟨y, q1, q2⟩ := h.get (i := i) (d := ds[i]) (by simp [hi])
  rw [q1] at e; cases e
  exact ⟨ds[i], by simp [hi], q2⟩
theorem IsAll.append : ∀ {ds es : List Dt} {xs ys : List V}, IsAll K H ds xs → IsAll K H es ys → IsAll K H (ds ++ es) (xs ++ ys)
  | [], _, _, _, h, g => by simp only [IsAll] at h; subst h; simpa using g
  | d :: ds, es, _, ys, h, g => by
    simp only [IsAll] at h
    obtain ⟨x, zs, e1, h1, h2⟩ := h
    subst e1
    simp only [List.cons_append, IsAll]
    exact ⟨x, zs ++ ys, rfl, h1, IsAll.append h2 g⟩
theorem IsAll.one {d : Dt} {x : V} (h : Is K H d x) : IsAll K H [d] [x] := by
  simp only [IsAll]; exact ⟨x, [], rfl, h, rfl⟩
theorem IsAll.set {d : Dt} {x : V} (hd : Is K H d x) : ∀ {ds : List Dt} {xs : List V} (i : Nat), IsAll K H ds xs → IsAll K H (ds.set i d) (xs.set i x)
  | [], _, _, h => by simp only [IsAll] at h; subst h; simp [IsAll]
  | c :: ds, _, 0, h => by
    simp only [IsAll] at h
    obtain ⟨y, ys, e1, h1, h2⟩ := h
    subst e1
    simp only [List.set, IsAll]; exact ⟨x, ys, rfl, hd, h2⟩
  | c :: ds, _, i + 1, h => by
    simp only [IsAll] at h
    obtain ⟨y, ys, e1, h1, h2⟩ := h
    subst e1
    simp only [List.set, IsAll]; exact ⟨y, ys.set i x, rfl, h1, IsAll.set hd i h2⟩
theorem IsAll.take : ∀ {ds : List Dt} {xs : List V} (n : Nat), IsAll K H ds xs → IsAll K H (ds.take n) (xs.take n)
  | _, _, 0, _ => by simp [IsAll]
  | [], _, n + 1, h => by simp only [IsAll] at h; subst h; simp [IsAll]
  | c :: ds, _, n + 1, h => by
    simp only [IsAll] at h
    obtain ⟨y, ys, e1, h1, h2⟩ := h
    subst e1
    simp only [List.take_succ_cons, IsAll]; exact ⟨y, ys.take n, rfl, h1, IsAll.take n h2⟩
theorem IsAll.drop : ∀ {ds : List Dt} {xs : List V} (n : Nat), IsAll K H ds xs → IsAll K H (ds.drop n) (xs.drop n)
  | _, _, 0, h => by simpa using h
  | [], _, n + 1, h => by simp only [IsAll] at h; subst h; simp [IsAll]
  | c :: ds, _, n + 1, h => by
    simp only [IsAll] at h
    obtain ⟨y, ys, e1, h1, h2⟩ := h
    subst e1
    simpa using IsAll.drop n h2
theorem IsAll.intsX {ns : List Int} : IsAll K H (ns.map Dt.int) (ns.map V.int) := by
  induction ns with
  | nil => simp [IsAll]
  | cons n ns ih => simp only [List.map, IsAll]; exact ⟨_, _, rfl, by simp [Is], ih⟩
end
end Dat

set_option Elab.async false
set_option linter.all false
set_option maxRecDepth 100000
set_option maxHeartbeats 2000000
namespace Dat
open PySem L2

/-! ### the state by slot -/
inductive Slot where
  | no | sh (d : Dt) | ow (ds : List Dt)

structure SEnv (K : PySem.W.Frag) (S O : List Addr) (H : Hp) (σ : St) (δ : List Slot) : Prop where
  trk : ∀ p, p ∈ O ++ S → H p ≠ none
  dis : ∀ p, p ∈ O → p ∉ S
  len : σ.length = δ.length
  sh : ∀ (i : Nat) (d : Dt), δ[i]? = some (.sh d) → ∃ v, σ[i]? = some (some v) ∧ Is K (hid (O ++ S) H) d v
  ow : ∀ (i : Nat) (ds : List Dt), δ[i]? = some (.ow ds) → ∃ p xs, σ[i]? = some (some (.ref p)) ∧ p ∈ O ∧ H p = some (.lst xs) ∧ IsAll K (hid (O ++ S) H) ds xs
  inj : ∀ (i j : Nat) (ds es : List Dt) (p : Addr), δ[i]? = some (.ow ds) → δ[j]? = some (.ow es) → σ[i]? = some (some (.ref p)) → σ[j]? = some (some (.ref p)) → i = j

/-- from one state to a later one: what does not belong to a slot of its own stays -/
structure Step (S O : List Addr) (H : Hp) (O' : List Addr) (H' : Hp) : Prop where
  ex : Ex (hid (O ++ S) H) (hid (O' ++ S) H')
  hold : ∀ p, p ∈ S → H' p = H p
theorem Step.refl (S O : List Addr) (H : Hp) : Step S O H O H := ⟨Ex.refl _, fun _ _ => rfl⟩
theorem Step.trans {S O O1 O2 : List Addr} {H H1 H2 : Hp} (a : Step S O H O1 H1) (b : Step S O1 H1 O2 H2) : Step S O H O2 H2 :=
  ⟨a.ex.trans b.ex, fun p hp => (b.hold p hp).trans (a.hold p hp)⟩
theorem hold_of {M : List Addr} {H H' : Hp} (e : Ex H H') {p : Addr} (h : H p ≠ none) : H' p = H p := by
  cases q : H p with
  | none => exact absurd q h
  | some o => exact e p o q

section
variable {K : PySem.W.Frag} {S O O' : List Addr} {H H' : Hp} {σ σ' : St} {δ δ' : List Slot}
theorem SEnv.step (E : SEnv K S O H σ δ) (e : Ex H H') : Step S O H O H' :=
  ⟨hid_ex e, fun p hp => hold_of (M := []) e (E.trk p (List.mem_append_right _ hp))⟩
theorem SEnv.mono (E : SEnv K S O H σ δ) (e : Ex H H') : SEnv K S O H' σ δ where
  trk p hp z := by
    have h := E.trk p hp
    rw [← hold_of (M := []) e h] at h
    exact h z
  dis := E.dis
  len := E.len
  sh i d h := by
    obtain ⟨v, h1, h2⟩ := E.sh i d h
    exact ⟨v, h1, h2.mono (hid_ex e)⟩
  ow i ds h := by
    obtain ⟨p, xs, h1, h2, h3, h4⟩ := E.ow i ds h
    exact ⟨p, xs, h1, h2, e _ _ h3, h4.mono (hid_ex e)⟩
  inj := E.inj
theorem SEnv.fresh (E : SEnv K S O H σ δ) {p : Addr} (h : H p = none) : p ∉ O ++ S := fun z => E.trk p z h
theorem lt_of_get {α : Type} {l : List α} {i : Nat} {x : α} (h : l[i]? = some x) : i < l.length := (List.getElem?_eq_some_iff.mp h).1
theorem set_get {α : Type} {l : List α} {i j : Nat} {x y : α} (h : (l.set i x)[j]? = some y) : (i = j ∧ y = x) ∨ (i ≠ j ∧ l[j]? = some y) := by
  rw [List.getElem?_set] at h
  by_cases e : i = j
  · rw [if_pos e] at h
    split at h
    · cases h; exact .inl ⟨e, rfl⟩
    · cases h
  · rw [if_neg e] at h; exact .inr ⟨e, h⟩
/-- a slot that the data do not know -/
theorem SEnv.setNo (E : SEnv K S O H σ δ) (i : Nat) (x : Option V) : SEnv K S O H (σ.set i x) (δ.set i .no) where
  trk := E.trk
  dis := E.dis
  len := by rw [List.length_set, List.length_set]; exact E.len
  sh j d h := by
    rcases set_get h with ⟨_, h⟩ | ⟨n, h⟩
    · cases h
    · rw [List.getElem?_set, if_neg n]; exact E.sh j d h
  ow j ds h := by
    rcases set_get h with ⟨_, h⟩ | ⟨n, h⟩
    · cases h
    · rw [List.getElem?_set, if_neg n]; exact E.ow j ds h
  inj j k ds es p h1 h2 h3 h4 := by
    rcases set_get h1 with ⟨_, h1⟩ | ⟨n1, h1⟩
    · cases h1
    rcases set_get h2 with ⟨_, h2⟩ | ⟨n2, h2⟩
    · cases h2
    rw [List.getElem?_set, if_neg n1] at h3
    rw [List.getElem?_set, if_neg n2] at h4
    exact E.inj j k ds es p h1 h2 h3 h4
theorem SEnv.setSh (E : SEnv K S O H σ δ) (i : Nat) {d : Dt} {v : V} (hv : Is K (hid (O ++ S) H) d v) : SEnv K S O H (σ.set i (some v)) (δ.set i (.sh d)) where
  trk := E.trk
  dis := E.dis
  len := by rw [List.length_set, List.length_set]; exact E.len
  sh j c h := by
    have hj := lt_of_get h
    rw [List.length_set, ← E.len] at hj
    rcases set_get h with ⟨e, h⟩ | ⟨n, h⟩
    · cases h; subst e
      exact ⟨v, by rw [List.getElem?_set, if_pos rfl, if_pos hj], hv⟩
    · rw [List.getElem?_set, if_neg n]; exact E.sh j c h
  ow j ds h := by
    rcases set_get h with ⟨_, h⟩ | ⟨n, h⟩
    · cases h
    · rw [List.getElem?_set, if_neg n]; exact E.ow j ds h
  inj j k ds es p h1 h2 h3 h4 := by
    rcases set_get h1 with ⟨_, h1⟩ | ⟨n1, h1⟩
    · cases h1
    rcases set_get h2 with ⟨_, h2⟩ | ⟨n2, h2⟩
    · cases h2
    rw [List.getElem?_set, if_neg n1] at h3
    rw [List.getElem?_set, if_neg n2] at h4
    exact E.inj j k ds es p h1 h2 h3 h4
/-- a slot takes a list of its own: p was not there ahead -/
theorem SEnv.setOw (E : SEnv K S O H σ δ) (i : Nat) {p : Addr} {ds : List Dt} {xs : List V} (h0 : H p = none) (e : Ex H H') (hp : H' p = some (.lst xs)) (hx : IsAll K (hid (p :: O ++ S) H') ds xs) :
    SEnv K S (p :: O) H' (σ.set i (some (.ref p))) (δ.set i (.ow ds)) ∧ Step S O H (p :: O) H' := by
  have hf := E.fresh h0
  have hs : Ex (hid (O ++ S) H) (hid (p :: O ++ S) H') := fun a o q => by
    by_cases ha : a ∈ O ++ S
    · rw [hid_in ha] at q; cases q
    · rw [hid_out ha] at q
      have hap : a ≠ p := ne_of_none q h0
      have : a ∉ p :: O ++ S := by
        intro z
        rcases List.mem_cons.mp (show a ∈ p :: (O ++ S) from z) with z | z
        · exact hap z
        · exact ha z
      rw [hid_out this]; exact e a o q
  refine ⟨⟨fun q hq => ?_, fun q hq => ?_, by rw [List.length_set, List.length_set]; exact E.len, fun j c h => ?_, fun j es h => ?_, fun j k es fs q h1 h2 h3 h4 => ?_⟩, ⟨hs, fun q hq => hold_of (M := []) e (E.trk q (List.mem_append_right _ hq))⟩⟩
  · rcases List.mem_cons.mp (show q ∈ p :: (O ++ S) from hq) with z | z
    · rw [z, hp]; simp
    · have := E.trk q z
      rw [hold_of (M := []) e this]; exact this
  · rcases List.mem_cons.mp hq with z | z
    · rw [z]; exact fun y => hf (List.mem_append_right _ y)
    · exact E.dis q z
  · rcases set_get h with ⟨_, h⟩ | ⟨n, h⟩
    · cases h
    · obtain ⟨v, h1, h2⟩ := E.sh j c h
      exact ⟨v, by rw [List.getElem?_set, if_neg n]; exact h1, h2.mono hs⟩
  · have hj := lt_of_get h
    rw [List.length_set, ← E.len] at hj
    rcases set_get h with ⟨e1, h⟩ | ⟨n, h⟩
    · cases h; subst e1
      exact ⟨p, xs, by rw [List.getElem?_set, if_pos rfl, if_pos hj], List.mem_cons_self, hp, hx⟩
    · obtain ⟨q, ys, h1, h2, h3, h4⟩ := E.ow j es h
      exact ⟨q, ys, by rw [List.getElem?_set, if_neg n]; exact h1, List.mem_cons_of_mem _ h2, e _ _ h3, h4.mono hs⟩
  · have hj := lt_of_get h3
    have hk := lt_of_get h4
    rw [List.length_set] at hj hk
    rcases set_get h1 with ⟨e1, _⟩ | ⟨n1, h1⟩
    · rcases set_get h2 with ⟨e2, _⟩ | ⟨n2, h2⟩
      · rw [← e1, ← e2]
      · subst e1
        rw [List.getElem?_set, if_pos rfl, if_pos hj] at h3
        rw [List.getElem?_set, if_neg n2] at h4
        cases h3
        obtain ⟨q, ys, g1, g2, _⟩ := E.ow k fs h2
        rw [g1] at h4; cases h4
        exact absurd (List.mem_append_left _ g2) hf
    · rcases set_get h2 with ⟨e2, _⟩ | ⟨n2, h2⟩
      · subst e2
        rw [List.getElem?_set, if_pos rfl, if_pos hk] at h4
        rw [List.getElem?_set, if_neg n1] at h3
        cases h4
        obtain ⟨q, ys, g1, g2, _⟩ := E.ow j es h1
        rw [g1] at h3; cases h3
        exact absurd (List.mem_append_left _ g2) hf
      · rw [List.getElem?_set, if_neg n1] at h3
        rw [List.getElem?_set, if_neg n2] at h4
        exact E.inj j k es fs q h1 h2 h3 h4
/-- the own list of a slot is changed -/
theorem SEnv.putOw (E : SEnv K S O H σ δ) {i : Nat} {p : Addr} {ds es : List Dt} {ys : List V} (hi : δ[i]? = some (.ow ds)) (hp : σ[i]? = some (some (.ref p))) (hx : IsAll K (hid (O ++ S) H) es ys) :
    SEnv K S O (upd H p (.lst ys)) σ (δ.set i (.ow es)) ∧ Step S O H O (upd H p (.lst ys)) := by
  obtain ⟨q, xs, g1, g2, g3, g4⟩ := E.ow i ds hi
  obtain rfl : q = p := by rw [g1] at hp; cases hp; rfl
  have hm : q ∈ O ++ S := List.mem_append_left _ g2
  have hh : hid (O ++ S) (upd H q (.lst ys)) = hid (O ++ S) H := hid_upd hm
  refine ⟨⟨fun r hr => ?_, E.dis, by rw [List.length_set]; exact E.len, fun j c h => ?_, fun j fs h => ?_, fun j k fs gs r h1 h2 h3 h4 => ?_⟩, ⟨by rw [hh]; exact Ex.refl _, fun r hr => ?_⟩⟩
  · by_cases e : r = q
    · rw [e, upd_same]; simp
    · rw [upd_ne e]; exact E.trk r hr
  · rcases set_get h with ⟨_, h⟩ | ⟨n, h⟩
    · cases h
    · rw [hh]; exact E.sh j c h
  · rcases set_get h with ⟨e1, h⟩ | ⟨n, h⟩
    · cases h; subst e1
      exact ⟨q, ys, g1, g2, upd_same, by rw [hh]; exact hx⟩
    · obtain ⟨r, zs, k1, k2, k3, k4⟩ := E.ow j fs h
      have hr : r ≠ q := fun z => by
        subst z
        exact n (E.inj i j _ _ _ hi h g1 k1)
      exact ⟨r, zs, k1, k2, by rw [upd_ne hr]; exact k3, by rw [hh]; exact k4⟩
  · have old : ∀ (k : Nat) (fs : List Dt), (δ.set i (.ow es))[k]? = some (.ow fs) → ∃ gs, δ[k]? = some (.ow gs) := fun k fs h => by
      rcases set_get h with ⟨e1, _⟩ | ⟨_, h⟩
      · exact ⟨ds, by rw [← e1]; exact hi⟩
      · exact ⟨fs, h⟩
    obtain ⟨fs', h1'⟩ := old j fs h1
    obtain ⟨gs', h2'⟩ := old k gs h2
    exact E.inj j k fs' gs' r h1' h2' h3 h4
  · have : r ≠ q := fun z => E.dis q g2 (by rw [← z]; exact hr)
    rw [upd_ne this]
/-- an own list becomes plain data -/
theorem SEnv.freeze (E : SEnv K S O H σ δ) {i : Nat} {ds : List Dt} (hi : δ[i]? = some (.ow ds)) : ∃ O', SEnv K S O' H σ (δ.set i (.sh (.sq false ds))) ∧ Step S O H O' H ∧ ∀ p, p ∈ O' → p ∈ O := by
  obtain ⟨q, xs, g1, g2, g3, g4⟩ := E.ow i ds hi
  have sub : ∀ p, p ∈ (O.filter fun p => decide (p ≠ q)) ++ S → p ∈ O ++ S := fun p hp => by
    rcases List.mem_append.mp hp with z | z
    · exact List.mem_append_left _ (List.mem_filter.mp z).1
    · exact List.mem_append_right _ z
  have ex := hid_sub H sub
  have hq : q ∉ (O.filter fun p => decide (p ≠ q)) ++ S := fun z => by
    rcases List.mem_append.mp z with z | z
    · have := (List.mem_filter.mp z).2; simp at this
    · exact E.dis q g2 z
  refine ⟨O.filter fun p => decide (p ≠ q), ⟨fun p hp => E.trk p (sub p hp), fun p hp => E.dis p (List.mem_filter.mp hp).1, by rw [List.length_set]; exact E.len, fun j c h => ?_, fun j fs h => ?_, fun j k fs gs r h1 h2 h3 h4 => ?_⟩, ⟨ex, fun _ _ => rfl⟩, fun p hp => (List.mem_filter.mp hp).1⟩
  · rcases set_get h with ⟨e1, h⟩ | ⟨n, h⟩
    · cases h; subst e1
      refine ⟨.ref q, g1, ?_⟩
      simp only [Is]
      exact ⟨q, xs, rfl, by show hid _ H q = _; rw [hid_out hq]; exact g3, g4.mono ex⟩
    · obtain ⟨v, h1, h2⟩ := E.sh j c h
      exact ⟨v, h1, h2.mono ex⟩
  · rcases set_get h with ⟨_, h⟩ | ⟨n, h⟩
    · cases h
    · obtain ⟨r, zs, k1, k2, k3, k4⟩ := E.ow j fs h
      have hr : r ≠ q := fun z => by
        subst z
        exact n (E.inj i j _ _ _ hi h g1 k1)
      exact ⟨r, zs, k1, List.mem_filter.mpr ⟨k2, by simpa using hr⟩, k3, k4.mono ex⟩
  · rcases set_get h1 with ⟨_, h1⟩ | ⟨_, h1⟩
    · cases h1
    rcases set_get h2 with ⟨_, h2⟩ | ⟨_, h2⟩
    · cases h2
    exact E.inj j k fs gs r h1 h2 h3 h4
/-- less is known of the slots -/
theorem SEnv.weak (E : SEnv K S O H σ δ) (hl : δ'.length = δ.length) (h : ∀ (i : Nat) (x : Slot), δ'[i]? = some x → x = .no ∨ δ[i]? = some x) : SEnv K S O H σ δ' where
  trk := E.trk
  dis := E.dis
  len := by rw [hl]; exact E.len
  sh i d q := by
    rcases h i _ q with z | z
    · cases z
    · exact E.sh i d z
  ow i ds q := by
    rcases h i _ q with z | z
    · cases z
    · exact E.ow i ds z
  inj i j ds es p h1 h2 h3 h4 := by
    rcases h i _ h1 with z | z
    · cases z
    rcases h j _ h2 with y | y
    · cases y
    exact E.inj i j ds es p z y h3 h4
end
end Dat

set_option Elab.async false
set_option linter.all false
set_option maxRecDepth 100000
set_option maxHeartbeats 2000000
namespace Dat
open PySem L2

/-! ### what an expression is worth -/
/-- what is known of the place where code runs -/
structure Plc (X : Cx) (k : Nat) : Prop where
  room : Room k X.A
  calm : X.calm = true
  gds : X.A.guards = some []
  own : PassesOwn (model X.prog X.w) X.A X.env X.xe
  nd : X.N.Nodup
  dig : X.base.NoDigits

def tD (K : PySem.W.Frag) (δ : List Slot) (d : Dt) : TE := fun σ H Q => ∃ S O, SEnv K S O H σ δ ∧ ∀ v H', Ex H H' → Is K (hid (O ++ S) H') d v → Q v H'
def tDT (K : PySem.W.Frag) (δ : List Slot) (b : Bool) : TT := fun σ H Q => ∃ S O, SEnv K S O H σ δ ∧ ∀ H', Ex H H' → Q b H'
def tDA (K : PySem.W.Frag) (δ : List Slot) (ds : List Dt) : TA := fun σ H Q => ∃ S O, SEnv K S O H σ δ ∧ ∀ vs H', Ex H H' → IsAll K (hid (O ++ S) H') ds vs → Q vs H'
def tDO (K : PySem.W.Frag) (δ : List Slot) (o : Option Int) : TO := fun σ H Q => ∃ S O, SEnv K S O H σ δ ∧ ∀ H', Ex H H' → Q o H'
abbrev DE (X : Cx) (δ : List Slot) (e : Expr) (d : Dt) : Prop := PE X e (tD X.K δ d)
abbrev DT (X : Cx) (δ : List Slot) (e : Expr) (b : Bool) : Prop := PT X e (tDT X.K δ b)
abbrev DW (X : Cx) (δ : List Slot) (e : Expr) (b : Bool) : Prop := PW X e (tDT X.K δ b)
abbrev DA (X : Cx) (δ : List Slot) (es : List Expr) (ds : List Dt) : Prop := PA X es (tDA X.K δ ds)
abbrev DO (X : Cx) (δ : List Slot) (e : Option Expr) (o : Option Int) : Prop := PO X e (tDO X.K δ o)

section
variable {X : Cx} {δ : List Slot} {e a b c : Expr} {es : List Expr} {da db dc d : Dt} {ds : List Dt} {pos p : Pos} {x : Str}
theorem imE {t t' : TE} (h : PE X e t) (hi : ∀ σ H Q, t' σ H Q → t σ H Q) : PE X e t' := ⟨fun pins s σ H Q I q => h.run pins s σ H Q I (hi _ _ _ q)⟩
theorem imT {t t' : TT} (h : PT X e t) (hi : ∀ σ H Q, t' σ H Q → t σ H Q) : PT X e t' := ⟨fun pins s σ H Q I q => h.run pins s σ H Q I (hi _ _ _ q)⟩
theorem imW {t t' : TT} (h : PW X e t) (hi : ∀ σ H Q, t' σ H Q → t σ H Q) : PW X e t' := ⟨fun w pins s σ H Q I q => h.run w pins s σ H Q I (hi _ _ _ q)⟩
theorem imA {t t' : TA} (h : PA X es t) (hi : ∀ σ H Q, t' σ H Q → t σ H Q) : PA X es t' := ⟨fun ps pins s σ H Q I q => h.run ps pins s σ H Q I (hi _ _ _ q)⟩
theorem imO {o : Option Expr} {t t' : TO} (h : PO X o t) (hi : ∀ σ H Q, t' σ H Q → t σ H Q) : PO X o t' := ⟨fun pins s σ H Q I q => h.run pins s σ H Q I (hi _ _ _ q)⟩

theorem de_eq (h : DE X δ e d) {d' : Dt} (q : d = d') : DE X δ e d' := q ▸ h
theorem dt_eq {b b' : Bool} (h : DT X δ e b) (q : b = b') : DT X δ e b' := q ▸ h

theorem de_var (i : Nat) (hN : X.N[i]? = some x) (hv : Vis X.env.scope x) (hs : δ[i]? = some (.sh d))
    (hd : (x == ("__debug__" : Str)) = false := by decide) (hcd : (x == ("__classdict__" : Str)) = false := by decide) : DE X δ (.Name x pos) d :=
  imE (pe_var hN hv hd hcd) fun σ H Q ⟨S, O, E, k⟩ => by
    obtain ⟨v, h1, h2⟩ := E.sh i d hs
    exact ⟨v, h1, k v H (Ex.refl H) h2⟩
theorem de_int {i : Int} {j} : DE X δ (.Constant (.int i) j pos) (.int i) := imE pe_int fun σ H Q ⟨S, O, E, k⟩ => k _ H (Ex.refl H) (by simp [Is])
theorem de_bl {i : Bool} {j} : DE X δ (.Constant (.bool i) j pos) (.bl i) := imE pe_bl fun σ H Q ⟨S, O, E, k⟩ => k _ H (Ex.refl H) (by simp [Is])
theorem de_non {j} : DE X δ (.Constant .none j pos) .non := imE pe_non fun σ H Q ⟨S, O, E, k⟩ => k _ H (Ex.refl H) (by simp [Is])
theorem de_str {i : Str} {j} : DE X δ (.Constant (.str i) j pos) (.str i) := imE pe_str fun σ H Q ⟨S, O, E, k⟩ => k _ H (Ex.refl H) (by simp [Is])

/-- a two-place operation upon data -/
def RD (K : PySem.W.Frag) (r : R2) (da db dc : Dt) : Prop :=
  ∀ (M : List Addr) (H : Hp) (x y : V) (Q : VK), (∀ p, p ∈ M → H p ≠ none) → Is K (hid M H) da x → Is K (hid M H) db y → (∀ z H', Ex H H' → Is K (hid M H') dc z → Q z H') → r x y H Q
theorem RD.inl {K : PySem.W.Frag} {r r' : R2} (h : RD K r da db dc) : RD K (fun x y H Q => r x y H Q ∨ r' x y H Q) da db dc := fun M H x y Q t h1 h2 k => .inl (h M H x y Q t h1 h2 k)
theorem RD.inr {K : PySem.W.Frag} {r r' : R2} (h : RD K r' da db dc) : RD K (fun x y H Q => r x y H Q ∨ r' x y H Q) da db dc := fun M H x y Q t h1 h2 k => .inr (h M H x y Q t h1 h2 k)
theorem tOp_of {K : PySem.W.Frag} {r : R2} (hr : RD K r da db dc) (σ : L2.St) (H : Hp) (Q : VK) (h : tD K δ dc σ H Q) : tOp r (tD K δ da) (tD K δ db) σ H Q := by
  obtain ⟨S, O, E, k⟩ := h
  refine ⟨S, O, E, fun v H1 e1 i1 => ⟨S, O, E.mono e1, fun w H2 e2 i2 => ?_⟩⟩
  exact hr (O ++ S) H2 v w Q ((E.mono e1).mono e2).trk (i1.mono (hid_ex e2)) i2 fun z H' e3 i3 => k z H' ((e1.trans e2).trans e3) i3
theorem de_bin {op : Operator} {r : R2} (ha : DE X δ a da) (hb : DE X δ b db) (ho : OpR X (binaryOp op) r) (hr : RD X.K r da db dc) : DE X δ (.BinOp a op b pos) dc := imE (pe_op ho ha hb) (tOp_of hr)
theorem de_cmp {op : CmpOp} {r : R2} (ha : DE X δ a da) (hb : DE X δ b db) (ho : OpR X (compareOp op) r) (hm : behindInMarks op b = false) (hr : RD X.K r da db dc) : DE X δ (.Compare a [op] [b] pos) dc := imE (pe_cmpR ho ha hb hm) (tOp_of hr)
theorem de_ix0 {r : R2} (ha : DE X δ a da) (hb : DE X δ b db) (ho : IxR X r) (hs : PlainIx b) (hr : RD X.K r da db dc) : DE X δ (.Subscript a b pos) dc := imE (pe_ix ho ha hb hs) (tOp_of hr)
theorem dt_cmp {op : CmpOp} {r : R2} {k : Bool} (ha : DE X δ a da) (hb : DE X δ b db) (ho : OpR X (compareOp op) r) (hm : behindInMarks op b = false) (hr : RD X.K r da db (.bl k)) : DT X δ (.Compare a [op] [b] pos) k :=
  imT (pt_cmpR ho ha hb hm) fun σ H Q ⟨S, O, E, q⟩ => tOp_of hr σ H _ ⟨S, O, E, fun v H' e i => by
    simp only [Is] at i
    exact ⟨k, i, q H' e⟩⟩

/-- a one-place operation -/
def RU (K : PySem.W.Frag) (r : V → Hp → VK → Prop) (da dc : Dt) : Prop :=
  ∀ (M : List Addr) (H : Hp) (x : V) (Q : VK), (∀ p, p ∈ M → H p ≠ none) → Is K (hid M H) da x → (∀ z H', Ex H H' → Is K (hid M H') dc z → Q z H') → r x H Q
/-- a call of a built-in upon data -/
def RC (K : PySem.W.Frag) (r : List V → Hp → VK → Prop) (ds : List Dt) (dc : Dt) : Prop :=
  ∀ (M : List Addr) (H : Hp) (xs : List V) (Q : VK), (∀ p, p ∈ M → H p ≠ none) → IsAll K (hid M H) ds xs → (∀ z H', Ex H H' → Is K (hid M H') dc z → Q z H') → r xs H Q
theorem tCB_of {K : PySem.W.Frag} {r : List V → Hp → VK → Prop} (hr : RC K r ds dc) (σ : L2.St) (H : Hp) (Q : VK) (h : tD K δ dc σ H Q) : tCB r (tDA K δ ds) σ H Q := by
  obtain ⟨S, O, E, k⟩ := h
  exact ⟨S, O, E, fun vs H1 e1 i1 => hr (O ++ S) H1 vs Q (E.mono e1).trk i1 fun z H' e3 i3 => k z H' (e1.trans e3) i3⟩
theorem de_un {op : UnaryOp} {r : V → Hp → VK → Prop} (ha : DE X δ a da) (ho : UnR X (unaryOp op) r) (hr : RU X.K r da dc) : DE X δ (.UnaryOp op a pos) dc :=
  imE (pe_un ho ha) fun σ H Q ⟨S, O, E, k⟩ => ⟨S, O, E, fun v H1 e1 i1 => hr (O ++ S) H1 v Q (E.mono e1).trk i1 fun z H' e3 i3 => k z H' (e1.trans e3) i3⟩

/-! ### lists of expressions -/
theorem da_nil : DA X δ [] [] := imA pa_nil fun σ H Q ⟨S, O, E, k⟩ => k [] H (Ex.refl H) (by simp [IsAll])
theorem da_cons (ha : DE X δ a d) (hr : DA X δ es ds) (hs : starEach (a :: es) X.env = (false, eval a X.env) :: starEach es X.env := by rfl) : DA X δ (a :: es) (d :: ds) :=
  imA (pa_cons ha hr hs) fun σ H Q ⟨S, O, E, k⟩ => ⟨S, O, E, fun v H1 e1 i1 => ⟨S, O, E.mono e1, fun vs H2 e2 i2 => k (v :: vs) H2 (e1.trans e2) (by
    simp only [IsAll]; exact ⟨v, vs, rfl, i1.mono (hid_ex e2), i2⟩)⟩⟩
theorem fresh_is {K : PySem.W.Frag} {M : List Addr} {H : Hp} {p : Addr} {t : Bool} {ds : List Dt} {xs : List V} (hM : ∀ p, p ∈ M → H p ≠ none) (hp : H p = none) (h : IsAll K (hid M H) ds xs) :
    Is K (hid M (upd H p (if t then .tup xs else .lst xs))) (.sq t ds) (.ref p) := by
  have hm : p ∉ M := fun z => hM p z hp
  simp only [Is]
  refine ⟨p, xs, rfl, ?_, h.mono (hid_ex (Ex.new hp))⟩
  cases t with
  | true => exact .inl (.inl (by rw [hid_out hm]; exact upd_same))
  | false => show hid M _ p = _; rw [hid_out hm]; exact upd_same
theorem de_tup {x1} (h : DA X δ es ds) (hl : ds.length ≤ sizeLine := by show _ ≤ 16777216; simp) : DE X δ (.Tuple es x1 pos) (.sq true ds) :=
  imE (pe_tup h) fun σ H Q ⟨S, O, E, k⟩ => ⟨S, O, E, fun vs H1 e1 i1 => ⟨by rw [i1.length]; exact hl, fun p hp => k _ _ (e1.trans (Ex.new hp)) (fresh_is (t := true) (E.mono e1).trk hp i1)⟩⟩
theorem de_lst (h : DA X δ es ds) (hl : ds.length ≤ sizeLine := by show _ ≤ 16777216; simp) : DE X δ (.List es pos) (.sq false ds) :=
  imE (pe_lst h) fun σ H Q ⟨S, O, E, k⟩ => ⟨S, O, E, fun vs H1 e1 i1 => ⟨by rw [i1.length]; exact hl, fun p hp => k _ _ (e1.trans (Ex.new hp)) (fresh_is (t := false) (E.mono e1).trk hp i1)⟩⟩

/-! ### tests -/
theorem dt_val {k : Bool} (h : DE X δ e (.bl k)) (he : ∀ whole, isTrue e X.env whole = (do let v ← whole; standAt e.pos; holding [v] (truthy v)) := by intro _; rfl) : DT X δ e k :=
  imT (pt_val h he) fun σ H Q ⟨S, O, E, q⟩ => ⟨S, O, E, fun v H' e i => by
    simp only [Is] at i
    exact ⟨k, i, q H' e⟩⟩
theorem dt_not {k : Bool} (h : DT X δ a k) : DT X δ (.UnaryOp .Not a pos) (!k) :=
  imT (pt_not h) fun σ H Q ⟨S, O, E, q⟩ => ⟨S, O, E, fun H' e => q H' e⟩
theorem never_W {t : TT} (h : ∀ σ H Q, ¬ t σ H Q) : PW X e t := ⟨fun _ _ _ _ _ _ _ z => (h _ _ _ z).elim⟩
theorem dw_and1 {k : Bool} (h : DT X δ a k) : DW X δ (.BoolOp .And [a] pos) k := pw_and1 h
theorem dw_or1 {k : Bool} (h : DT X δ a k) : DW X δ (.BoolOp .Or [a] pos) k := pw_or1 h
theorem dw_and {k j : Bool} {rest : List Expr} (ha : DT X δ a k) (hb : k = true → DW X δ (.BoolOp .And (b :: rest) pos) j) : DW X δ (.BoolOp .And (a :: b :: rest) pos) (k && j) := by
  cases k with
  | true => exact imW (pw_and ha (hb rfl)) fun σ H Q ⟨S, O, E, q⟩ => ⟨S, O, E, fun H1 e1 => by
      dsimp only; rw [if_pos rfl]; exact ⟨S, O, E.mono e1, fun H2 e2 => q H2 (e1.trans e2)⟩⟩
  | false => exact imW (pw_and (tB' := fun _ _ _ => False) ha (never_W fun _ _ _ z => z)) fun σ H Q ⟨S, O, E, q⟩ => ⟨S, O, E, fun H1 e1 => by
      dsimp only; rw [if_neg Bool.false_ne_true]; exact q H1 e1⟩
theorem dw_or {k j : Bool} {rest : List Expr} (ha : DT X δ a k) (hb : k = false → DW X δ (.BoolOp .Or (b :: rest) pos) j) : DW X δ (.BoolOp .Or (a :: b :: rest) pos) (k || j) := by
  cases k with
  | false => exact imW (pw_or ha (hb rfl)) fun σ H Q ⟨S, O, E, q⟩ => ⟨S, O, E, fun H1 e1 => by
      dsimp only; rw [if_neg Bool.false_ne_true]; exact ⟨S, O, E.mono e1, fun H2 e2 => q H2 (e1.trans e2)⟩⟩
  | true => exact imW (pw_or (tB' := fun _ _ _ => False) ha (never_W fun _ _ _ z => z)) fun σ H Q ⟨S, O, E, q⟩ => ⟨S, O, E, fun H1 e1 => by
      dsimp only; rw [if_pos rfl]; exact q H1 e1⟩
theorem dt_w {k : Bool} (h : DW X δ e k) : DT X δ e k := h.pt
theorem de_not {k : Bool} (h : DE X δ a (.bl k)) : DE X δ (.UnaryOp .Not a pos) (.bl (!k)) :=
  imE (pe_not h) fun σ H Q ⟨S, O, E, q⟩ => ⟨S, O, E, fun v H' e i => by
    simp only [Is] at i
    exact ⟨k, i, q _ H' e (by simp [Is])⟩⟩
theorem never_E {t : TE} (h : ∀ σ H Q, ¬ t σ H Q) : PE X e t := ⟨fun _ _ _ _ _ _ z => (h _ _ _ z).elim⟩
theorem de_one {op} (h : DE X δ a d) : DE X δ (.BoolOp op [a] pos) d := pe_one h
theorem de_and {k : Bool} {d : Dt} {rest : List Expr} (ha : DE X δ a (.bl k)) (hb : k = true → DE X δ (.BoolOp .And (b :: rest) pos) d) (hd : k = false → d = .bl false) : DE X δ (.BoolOp .And (a :: b :: rest) pos) d := by
  cases k with
  | true => exact imE (pe_and ha (hb rfl)) fun σ H Q ⟨S, O, E, q⟩ => ⟨S, O, E, fun v H1 e1 i => by
      simp only [Is] at i
      exact ⟨true, i, by rw [if_pos rfl]; exact ⟨S, O, E.mono e1, fun w H2 e2 => q w H2 (e1.trans e2)⟩⟩⟩
  | false => exact imE (pe_and (tb := fun _ _ _ => False) ha (never_E fun _ _ _ z => z)) fun σ H Q ⟨S, O, E, q⟩ => ⟨S, O, E, fun v H1 e1 i => by
      simp only [Is] at i
      exact ⟨false, i, by rw [if_neg Bool.false_ne_true]; exact q _ H1 e1 (by rw [hd rfl]; simp [Is])⟩⟩
theorem de_or {k : Bool} {d : Dt} {rest : List Expr} (ha : DE X δ a (.bl k)) (hb : k = false → DE X δ (.BoolOp .Or (b :: rest) pos) d) (hd : k = true → d = .bl true) : DE X δ (.BoolOp .Or (a :: b :: rest) pos) d := by
  cases k with
  | false => exact imE (pe_or ha (hb rfl)) fun σ H Q ⟨S, O, E, q⟩ => ⟨S, O, E, fun v H1 e1 i => by
      simp only [Is] at i
      exact ⟨false, i, by rw [if_neg Bool.false_ne_true]; exact ⟨S, O, E.mono e1, fun w H2 e2 => q w H2 (e1.trans e2)⟩⟩⟩
  | true => exact imE (pe_or (tb := fun _ _ _ => False) ha (never_E fun _ _ _ z => z)) fun σ H Q ⟨S, O, E, q⟩ => ⟨S, O, E, fun v H1 e1 i => by
      simp only [Is] at i
      exact ⟨true, i, by rw [if_pos rfl]; exact q _ H1 e1 (by rw [hd rfl]; simp [Is])⟩⟩
/-- and, or of tests by their joint answer -/
theorem de_andB {k j : Bool} {rest : List Expr} (ha : DE X δ a (.bl k)) (hb : k = true → DE X δ (.BoolOp .And (b :: rest) pos) (.bl j)) : DE X δ (.BoolOp .And (a :: b :: rest) pos) (.bl (k && j)) :=
  de_and ha (fun h => by subst h; exact hb rfl) fun h => by subst h; rfl
theorem de_orB {k j : Bool} {rest : List Expr} (ha : DE X δ a (.bl k)) (hb : k = false → DE X δ (.BoolOp .Or (b :: rest) pos) (.bl j)) : DE X δ (.BoolOp .Or (a :: b :: rest) pos) (.bl (k || j)) :=
  de_or ha (fun h => by subst h; exact hb rfl) fun h => by subst h; rfl
theorem de_ife {k : Bool} (hc : DT X δ c k) (ha : k = true → DE X δ a d) (hb : k = false → DE X δ b d) : DE X δ (.IfExp c a b pos) d := by
  cases k with
  | true => exact imE (pe_ifExp (tb := fun _ _ _ => False) hc (ha rfl) (never_E fun _ _ _ z => z)) fun σ H Q ⟨S, O, E, q⟩ => ⟨S, O, E, fun H1 e1 => by
      dsimp only; rw [if_pos rfl]; exact ⟨S, O, E.mono e1, fun w H2 e2 => q w H2 (e1.trans e2)⟩⟩
  | false => exact imE (pe_ifExp (ta := fun _ _ _ => False) hc (never_E fun _ _ _ z => z) (hb rfl)) fun σ H Q ⟨S, O, E, q⟩ => ⟨S, O, E, fun H1 e1 => by
      dsimp only; rw [if_neg Bool.false_ne_true]; exact ⟨S, O, E.mono e1, fun w H2 e2 => q w H2 (e1.trans e2)⟩⟩
end
end Dat

set_option Elab.async false
set_option linter.all false
set_option maxRecDepth 100000
set_option maxHeartbeats 2000000
namespace Dat
open PySem L2

/-! ### operators by data -/
section
variable {K : PySem.W.Frag} {X : Cx} {δ : List Slot}
theorem is_int {H : Hp} {i : Int} : Is K H (.int i) (.int i) := by simp [Is]
theorem is_bl {H : Hp} {i : Bool} : Is K H (.bl i) (.bl i) := by simp [Is]
theorem is_str {H : Hp} {i : Str} : Is K H (.str i) (.str i) := by simp [Is]
theorem rd_I0 {g : Int → Int → Int} {i j : Int} : RD K (rI0 fun i j => .int (g i j)) (.int i) (.int j) (.int (g i j)) := fun M H x y Q t h1 h2 k => by
  simp only [Is] at h1 h2
  exact ⟨i, j, h1, h2, k _ H (Ex.refl H) is_int⟩
theorem rd_I {C : Int → Int → Prop} {g : Int → Int → Int} {i j : Int} (hc : C i j) : RD K (rI C fun i j => .int (g i j)) (.int i) (.int j) (.int (g i j)) := fun M H x y Q t h1 h2 k => by
  simp only [Is] at h1 h2
  exact ⟨i, j, h1, h2, hc, k _ H (Ex.refl H) is_int⟩
theorem rd_B0 {g : Int → Int → Bool} {i j : Int} : RD K (rI0 fun i j => .bl (g i j)) (.int i) (.int j) (.bl (g i j)) := fun M H x y Q t h1 h2 k => by
  simp only [Is] at h1 h2
  exact ⟨i, j, h1, h2, k _ H (Ex.refl H) is_bl⟩

/-! a + b -/
def rAddU (K : PySem.W.Frag) : R2 := fun x y H Q => rI0 (fun i j => .int (i + j)) x y H Q ∨ ((∃ i j, x = .str i ∧ y = .str j ∧ i.length + j.length ≤ sizeLine ∧ Q (.str (i ++ j)) H) ∨ (rCat x y H Q ∨ rCatA K x y H Q))
theorem op_addU : OpR X (binaryOp .Add) (rAddU X.K) := op_add.or (op_add_str.or (op_cat.or op_catA))
def addD : Dt → Dt → Option Dt
  | .int i, .int j => some (.int (i + j))
  | .str x, .str y => some (.str (x ++ y))
  | .sq false xs, .sq false ys => some (.sq false (xs ++ ys))
  | .sq true xs, .sq true ys => some (.sq true (xs ++ ys))
  | _, _ => none
def addC : Dt → Dt → Prop
  | .str x, .str y => x.length + y.length ≤ sizeLine
  | .sq _ xs, .sq _ ys => xs.length + ys.length ≤ sizeLine
  | _, _ => True
theorem rd_add {a b c : Dt} (h : addD a b = some c) (hc : addC a b) : RD K (rAddU K) a b c := by
  cases a <;> cases b <;> try (simp [addD] at h; done)
  · simp only [addD, Option.some.injEq] at h; subst h
    exact fun M H x y Q t h1 h2 k => .inl (rd_I0 M H x y Q t h1 h2 k)
  · simp only [addD, Option.some.injEq] at h; subst h
    intro M H x y Q t h1 h2 k
    simp only [Is] at h1 h2
    exact .inr (.inl ⟨_, _, h1, h2, hc, k _ H (Ex.refl H) is_str⟩)
  · rename_i s xs u ys
    intro M H x y Q t h1 h2 k
    simp only [Is] at h1 h2
    obtain ⟨p, vs, e1, q1, r1⟩ := h1
    obtain ⟨q, ws, e2, q2, r2⟩ := h2
    have hl : vs.length + ws.length ≤ sizeLine := by rw [r1.length, r2.length]; exact hc
    have fin : ∀ (b : Bool) (r : Addr), H r = none → Is K (hid M (upd H r (if b then .tup (vs ++ ws) else .lst (vs ++ ws)))) (.sq b (xs ++ ys)) (.ref r) := fun b r hr => fresh_is t hr (r1.append r2)
    cases s <;> cases u <;> simp only [addD, Option.some.injEq, reduceCtorEq] at h
    · subst h
      exact .inr (.inr (.inl ⟨p, q, vs, ws, e1, e2, hid_le _ _ _ _ q1, hid_le _ _ _ _ q2, hl, fun r hr => k _ _ (Ex.new hr) (fin false r hr)⟩))
    · subst h
      refine .inr (.inr (.inr ⟨p, q, vs, ws, e1, e2, (hid_le M H).sqT q1, (hid_le M H).sqT q2, hl, fun z => ?_, fun _ z => ?_, fun _ _ r hr => k _ _ (Ex.new hr) (fin true r hr)⟩))
      · subst z
        have : xs = [] := by have := r1.length; simpa using this.symm
        subst this
        exact k _ H (Ex.refl H) (by simp only [Is]; exact ⟨q, ws, rfl, q2, r2⟩)
      · subst z
        have : ys = [] := by have := r2.length; simpa using this.symm
        subst this
        exact k _ H (Ex.refl H) (by simp only [Is, List.append_nil]; exact ⟨p, vs, rfl, q1, r1⟩)
variable {a b : Expr} {da db dc : Dt} {pos : Pos}
theorem de_add (ha : DE X δ a da) (hb : DE X δ b db) (h : addD da db = some dc) (hc : addC da db) : DE X δ (.BinOp a .Add b pos) dc := de_bin ha hb op_addU (rd_add h hc)
theorem de_sub {i j : Int} (ha : DE X δ a (.int i)) (hb : DE X δ b (.int j)) : DE X δ (.BinOp a .Sub b pos) (.int (i - j)) := de_bin ha hb op_sub rd_I0

/-! a * b -/
def rMulU (K : PySem.W.Frag) : R2 := fun x y H Q => rI CMulW (fun i j => .int (i * j)) x y H Q ∨ rRep x y H Q
theorem op_mulU : OpR X (binaryOp .Mult) (rMulU X.K) := op_mulW.or op_rep
def mulD : Dt → Dt → Option Dt
  | .int i, .int j => some (.int (i * j))
  | .sq false xs, .int j => some (.sq false (List.replicate j.toNat xs).flatten)
  | _, _ => none
def mulC : Dt → Dt → Prop
  | .int i, .int j => CMulW i j
  | .sq _ xs, .int j => -(2 ^ 63) ≤ j ∧ j < 2 ^ 63 ∧ xs.length * j.toNat ≤ sizeLine
  | _, _ => True
theorem IsAll.rep {H : Hp} {ds : List Dt} {xs : List V} (h : IsAll K H ds xs) : ∀ n : Nat, IsAll K H (List.replicate n ds).flatten (List.replicate n xs).flatten
  | 0 => by simp [IsAll]
  | n + 1 => by simp only [List.replicate_succ, List.flatten_cons]; exact h.append (IsAll.rep h n)
theorem rd_mul {a b c : Dt} (h : mulD a b = some c) (hc : mulC a b) : RD K (rMulU K) a b c := by
  cases a <;> cases b <;> try (simp [mulD] at h; done)
  · simp only [mulD, Option.some.injEq] at h; subst h
    exact fun M H x y Q t h1 h2 k => .inl (rd_I (C := CMulW) hc M H x y Q t h1 h2 k)
  · rename_i s xs j
    intro M H x y Q t h1 h2 k
    simp only [Is] at h1 h2
    obtain ⟨p, vs, e1, q1, r1⟩ := h1
    cases s <;> simp only [mulD, Option.some.injEq, reduceCtorEq] at h
    subst h
    obtain ⟨c1, c2, c3⟩ := hc
    exact .inr ⟨p, j, vs, e1, h2, hid_le _ _ _ _ q1, c1, c2, by rw [r1.length]; exact c3, fun r hr => k _ _ (Ex.new hr) (fresh_is (t := false) t hr (r1.rep _))⟩
theorem de_mul (ha : DE X δ a da) (hb : DE X δ b db) (h : mulD da db = some dc) (hc : mulC da db) : DE X δ (.BinOp a .Mult b pos) dc := de_bin ha hb op_mulU (rd_mul h hc)

def CDivG (_ j : Int) : Prop := j ≠ 0 ∧ j.natAbs.log2 < 9000
theorem op_divG : OpR X (binaryOp .FloorDiv) (rI CDivG fun i j => .int (i.fdiv j)) := opI fun i j _ _ _ _ _ hc q => PyProof.Rows.floordiv_int hc.1 q (.inl (PyProof.noPylong_of_log2 hc.2))
theorem de_divG {i j : Int} (ha : DE X δ a (.int i)) (hb : DE X δ b (.int j)) (hc : CDivG i j) : DE X δ (.BinOp a .FloorDiv b pos) (.int (i.fdiv j)) := de_bin ha hb op_divG (rd_I hc)
theorem de_div {i j : Int} (ha : DE X δ a (.int i)) (hb : DE X δ b (.int j)) (hc : CDivW i j) : DE X δ (.BinOp a .FloorDiv b pos) (.int (i / j)) := de_bin ha hb op_fdivW (rd_I hc)
theorem de_mod {i j : Int} (ha : DE X δ a (.int i)) (hb : DE X δ b (.int j)) (hc : 0 < j) : DE X δ (.BinOp a .Mod b pos) (.int (i % j)) := de_bin ha hb op_mod (rd_I (C := fun _ j => 0 < j) hc)
theorem de_modG {i j : Int} (ha : DE X δ a (.int i)) (hb : DE X δ b (.int j)) (hc : j ≠ 0) : DE X δ (.BinOp a .Mod b pos) (.int (i.fmod j)) := de_bin ha hb op_modN (rd_I (C := fun _ j => j ≠ 0) hc)
theorem de_pow {i j : Int} (ha : DE X δ a (.int i)) (hb : DE X δ b (.int j)) (hc : CPow i j) : DE X δ (.BinOp a .Pow b pos) (.int (i ^ j.toNat)) := de_bin ha hb op_pow (rd_I hc)
theorem de_neg {i : Int} (ha : DE X δ a (.int i)) : DE X δ (.UnaryOp .USub a pos) (.int (-i)) := de_un ha un_neg fun M H x Q t h k => by
  simp only [Is] at h
  exact ⟨i, h, k _ H (Ex.refl H) is_int⟩

/-! comparisons -/
theorem de_lt {i j : Int} (ha : DE X δ a (.int i)) (hb : DE X δ b (.int j)) : DE X δ (.Compare a [.Lt] [b] pos) (.bl (decide (i < j))) := de_cmp ha hb op_lt (nomark _) rd_B0
theorem de_le {i j : Int} (ha : DE X δ a (.int i)) (hb : DE X δ b (.int j)) : DE X δ (.Compare a [.LtE] [b] pos) (.bl (decide (i ≤ j))) := de_cmp ha hb op_le (nomark _) rd_B0
theorem de_gt {i j : Int} (ha : DE X δ a (.int i)) (hb : DE X δ b (.int j)) : DE X δ (.Compare a [.Gt] [b] pos) (.bl (decide (j < i))) := de_cmp ha hb op_gt (nomark _) rd_B0
theorem de_ge {i j : Int} (ha : DE X δ a (.int i)) (hb : DE X δ b (.int j)) : DE X δ (.Compare a [.GtE] [b] pos) (.bl (decide (j ≤ i))) := de_cmp ha hb op_ge (nomark _) rd_B0
theorem dt_lt {i j : Int} (ha : DE X δ a (.int i)) (hb : DE X δ b (.int j)) : DT X δ (.Compare a [.Lt] [b] pos) (decide (i < j)) := dt_cmp ha hb op_lt (nomark _) rd_B0
theorem dt_le {i j : Int} (ha : DE X δ a (.int i)) (hb : DE X δ b (.int j)) : DT X δ (.Compare a [.LtE] [b] pos) (decide (i ≤ j)) := dt_cmp ha hb op_le (nomark _) rd_B0
theorem dt_gt {i j : Int} (ha : DE X δ a (.int i)) (hb : DE X δ b (.int j)) : DT X δ (.Compare a [.Gt] [b] pos) (decide (j < i)) := dt_cmp ha hb op_gt (nomark _) rd_B0
theorem dt_ge {i j : Int} (ha : DE X δ a (.int i)) (hb : DE X δ b (.int j)) : DT X δ (.Compare a [.GtE] [b] pos) (decide (j ≤ i)) := dt_cmp ha hb op_ge (nomark _) rd_B0

/-! data as the library's data -/
mutual
def toP : Dt → PyData
  | .non => .none | .bl b => .bool b | .int i => .int i | .str x => .str x
  | .sq t ds => if t then .tuple (toPs ds) else .list (toPs ds)
  | _ => .none
def toPs : List Dt → List PyData
  | [] => []
  | d :: ds => toP d :: toPs ds
end
mutual
/-- ints, texts, lists, tuples; texts that can be laid -/
def plain : Dt → Bool
  | .non => true | .bl _ => true | .int _ => true | .str x => PyData.canLay0 (.str x)
  | .sq _ ds => plains ds
  | _ => false
def plains : List Dt → Bool
  | [] => true
  | d :: ds => plain d && plains ds
end
mutual
def deep : Dt → Nat
  | .sq _ ds => deeps ds + 1
  | _ => 0
def deeps : List Dt → Nat
  | [] => 0
  | d :: ds => max (deep d) (deeps ds)
end
mutual
theorem toP_depth : ∀ d : Dt, (toP d).depth ≤ deep d
  | .non => by simp [toP, PyData.depth]
  | .bl _ => by simp [toP, PyData.depth]
  | .int _ => by simp [toP, PyData.depth]
  | .str _ => by simp [toP, PyData.depth]
  | .obj _ _ => by simp [toP, PyData.depth]
  | .scr _ => by simp [toP, PyData.depth]
  | .ty _ => by simp [toP, PyData.depth]
  | .cls _ => by simp [toP, PyData.depth]
  | .sq t ds => by
    have := toPs_depth ds
    cases t <;> simp only [toP, deep, PyData.depth, if_true, if_false, Bool.false_eq_true] <;> omega
theorem toPs_depth : ∀ ds : List Dt, PyData.depthAll (toPs ds) ≤ deeps ds
  | [] => by simp [toPs, PyData.depthAll]
  | d :: ds => by
    have h1 := toP_depth d
    have h2 := toPs_depth ds
    simp only [toPs, PyData.depthAll, deeps]; omega
end
mutual
theorem toP_lay : ∀ d : Dt, plain d = true → (toP d).canLay0 = true
  | .non, _ => by simp [toP, PyData.canLay0]
  | .bl _, _ => by simp [toP, PyData.canLay0]
  | .int _, _ => by simp [toP, PyData.canLay0]
  | .str _, h => by simpa [toP, plain] using h
  | .obj _ _, h => by simp [plain] at h
  | .scr _, h => by simp [plain] at h
  | .ty _, h => by simp [plain] at h
  | .cls _, h => by simp [plain] at h
  | .sq t ds, h => by
    have := toPs_lay ds (by simpa [plain] using h)
    cases t <;> simpa [toP, PyData.canLay0] using this
theorem toPs_lay : ∀ ds : List Dt, plains ds = true → PyData.canLayAll0 (toPs ds) = true
  | [], _ => by simp [toPs, PyData.canLayAll0]
  | d :: ds, h => by
    simp only [plains, Bool.and_eq_true] at h
    simp only [toPs, PyData.canLayAll0, Bool.and_eq_true]
    exact ⟨toP_lay d h.1, toPs_lay ds h.2⟩
end
mutual
theorem Is.dp {H : Hp} : ∀ (d : Dt) (v : V), plain d = true → Is K H d v → Dp K H v (toP d)
  | .non, v, _, h => by simp only [Is] at h; subst h; exact .non
  | .bl b, v, _, h => by simp only [Is] at h; subst h; exact .bl b
  | .int b, v, _, h => by simp only [Is] at h; subst h; exact .int b
  | .str b, v, _, h => by simp only [Is] at h; subst h; exact .str b
  | .obj _ _, _, h, _ => by simp [plain] at h
  | .scr _, _, h, _ => by simp [plain] at h
  | .ty _, _, h, _ => by simp [plain] at h
  | .cls _, _, h, _ => by simp [plain] at h
  | .sq t ds, v, h, i => by
    simp only [Is] at i
    obtain ⟨a, xs, e, q, r⟩ := i
    subst e
    have z := IsAll.dp ds xs (by simpa [plain] using h) r
    cases t with
    | true => simpa [toP] using Dp.tup q z
    | false => simpa [toP] using Dp.lst (SqL.of q) z
theorem IsAll.dp {H : Hp} : ∀ (ds : List Dt) (vs : List V), plains ds = true → IsAll K H ds vs → DpAll K H vs (toPs ds)
  | [], vs, _, i => by simp only [IsAll] at i; subst i; exact .nil
  | d :: ds, vs, h, i => by
    simp only [plains, Bool.and_eq_true] at h
    simp only [IsAll] at i
    obtain ⟨x, ys, e, i1, i2⟩ := i
    subst e
    exact .cons (Is.dp d x h.1 i1) (IsAll.dp ds ys h.2 i2)
end
def eqB (a b : Dt) : Bool := PyData.eqv (toP a) (toP b)
def eqC (a b : Dt) : Prop := plain a = true ∧ plain b = true ∧ deep a ≤ 64 ∧ deep b ≤ 64
theorem shaped_of {d : Dt} (h : plain d = true) (hd : deep d ≤ 64) : SeqAt.shaped (toP d) = true := by
  unfold SeqAt.shaped
  rw [toP_lay d h]
  have := toP_depth d
  simp; omega
theorem rd_eq (hc : eqC da db) : RD K (rEqD K) da db (.bl (eqB da db)) := fun M H x y Q t h1 h2 k =>
  ⟨toP da, toP db, Is.dp da x hc.1 (h1.mono (hid_le M H)), Is.dp db y hc.2.1 (h2.mono (hid_le M H)), shaped_of hc.1 hc.2.2.1, shaped_of hc.2.1 hc.2.2.2, k _ H (Ex.refl H) is_bl⟩
theorem rd_ne (hc : eqC da db) : RD K (rNeD K) da db (.bl (!eqB da db)) := fun M H x y Q t h1 h2 k =>
  ⟨toP da, toP db, Is.dp da x hc.1 (h1.mono (hid_le M H)), Is.dp db y hc.2.1 (h2.mono (hid_le M H)), shaped_of hc.1 hc.2.2.1, shaped_of hc.2.1 hc.2.2.2, k _ H (Ex.refl H) is_bl⟩
variable {k : Nat}
theorem de_eqq (P : Plc X k) (ha : DE X δ a da) (hb : DE X δ b db) (hc : eqC da db) : DE X δ (.Compare a [.Eq] [b] pos) (.bl (eqB da db)) := de_cmp ha hb (op_eqD P.room.units) (nomark _) (rd_eq hc)
theorem de_neq (P : Plc X k) (ha : DE X δ a da) (hb : DE X δ b db) (hc : eqC da db) : DE X δ (.Compare a [.NotEq] [b] pos) (.bl (!eqB da db)) := de_cmp ha hb (op_neD P.room.units) (nomark _) (rd_ne hc)
theorem dt_eqq (P : Plc X k) (ha : DE X δ a da) (hb : DE X δ b db) (hc : eqC da db) : DT X δ (.Compare a [.Eq] [b] pos) (eqB da db) := dt_cmp ha hb (op_eqD P.room.units) (nomark _) (rd_eq hc)
theorem dt_neq (P : Plc X k) (ha : DE X δ a da) (hb : DE X δ b db) (hc : eqC da db) : DT X δ (.Compare a [.NotEq] [b] pos) (!eqB da db) := dt_cmp ha hb (op_neD P.room.units) (nomark _) (rd_ne hc)
/-- of ints -/
theorem rd_eqI {i j : Int} : RD K rEq (.int i) (.int j) (.bl (decide (i = j))) := fun M H x y Q t h1 h2 k => by
  simp only [Is] at h1 h2
  subst h1; subst h2
  refine ⟨rfl, ?_⟩
  have e : decide (V.int i = V.int j) = decide (i = j) := by rw [decide_eq_decide]; simp
  rw [e]; exact k _ H (Ex.refl H) is_bl
theorem rd_neI {i j : Int} : RD K rNe (.int i) (.int j) (.bl (!decide (i = j))) := fun M H x y Q t h1 h2 k => by
  simp only [Is] at h1 h2
  subst h1; subst h2
  refine ⟨rfl, ?_⟩
  have e : decide (V.int i = V.int j) = decide (i = j) := by rw [decide_eq_decide]; simp
  rw [e]; exact k _ H (Ex.refl H) is_bl
theorem de_eqI {i j : Int} (ha : DE X δ a (.int i)) (hb : DE X δ b (.int j)) : DE X δ (.Compare a [.Eq] [b] pos) (.bl (decide (i = j))) := de_cmp ha hb op_eq (nomark _) rd_eqI
theorem de_neI {i j : Int} (ha : DE X δ a (.int i)) (hb : DE X δ b (.int j)) : DE X δ (.Compare a [.NotEq] [b] pos) (.bl (!decide (i = j))) := de_cmp ha hb op_ne (nomark _) rd_neI
theorem dt_eqI {i j : Int} (ha : DE X δ a (.int i)) (hb : DE X δ b (.int j)) : DT X δ (.Compare a [.Eq] [b] pos) (decide (i = j)) := dt_cmp ha hb op_eq (nomark _) rd_eqI
theorem dt_neI {i j : Int} (ha : DE X δ a (.int i)) (hb : DE X δ b (.int j)) : DT X δ (.Compare a [.NotEq] [b] pos) (!decide (i = j)) := dt_cmp ha hb op_ne (nomark _) rd_neI
theorem rd_eqS {i j : Str} : RD K rEq (.str i) (.str j) (.bl (decide (i = j))) := fun M H x y Q t h1 h2 k => by
  simp only [Is] at h1 h2
  subst h1; subst h2
  refine ⟨rfl, ?_⟩
  have e : decide (V.str i = V.str j) = decide (i = j) := by rw [decide_eq_decide]; simp
  rw [e]; exact k _ H (Ex.refl H) is_bl
theorem de_eqS {i j : Str} (ha : DE X δ a (.str i)) (hb : DE X δ b (.str j)) : DE X δ (.Compare a [.Eq] [b] pos) (.bl (decide (i = j))) := de_cmp ha hb op_eq (nomark _) rd_eqS
theorem dt_eqS {i j : Str} (ha : DE X δ a (.str i)) (hb : DE X δ b (.str j)) : DT X δ (.Compare a [.Eq] [b] pos) (decide (i = j)) := dt_cmp ha hb op_eq (nomark _) rd_eqS

/-! is None -/
def isNon : Dt → Bool
  | .non => true
  | _ => false
theorem is_isNon {H : Hp} {d : Dt} {v : V} (h : Is K H d v) : decide (v = .non) = isNon d := by
  cases d <;> simp only [Is] at h <;> try (subst h; simp [isNon]; done)
  · obtain ⟨a, xs, e, _⟩ := h; subst e; simp [isNon]
  · obtain ⟨a, xs, vs, e, _⟩ := h; subst e; simp [isNon]
  · obtain ⟨a, e, _⟩ := h; subst e; simp [isNon]
theorem rd_isN : RD K (fun x y H Q => y = .non ∧ Q (.bl (decide (x = .non))) H) da .non (.bl (isNon da)) := fun M H x y Q t h1 h2 k => by
  have := is_isNon h1
  simp only [Is] at h2
  exact ⟨h2, by rw [this]; exact k _ H (Ex.refl H) is_bl⟩
theorem rd_notN : RD K (fun x y H Q => y = .non ∧ Q (.bl (!decide (x = .non))) H) da .non (.bl (!isNon da)) := fun M H x y Q t h1 h2 k => by
  have := is_isNon h1
  simp only [Is] at h2
  exact ⟨h2, by rw [this]; exact k _ H (Ex.refl H) is_bl⟩
theorem de_isN (ha : DE X δ a da) (hb : DE X δ b .non) : DE X δ (.Compare a [.Is] [b] pos) (.bl (isNon da)) := de_cmp ha hb op_isN (nomark _) rd_isN
theorem de_notN (ha : DE X δ a da) (hb : DE X δ b .non) : DE X δ (.Compare a [.IsNot] [b] pos) (.bl (!isNon da)) := de_cmp ha hb op_notN (nomark _) rd_notN
theorem dt_isN (ha : DE X δ a da) (hb : DE X δ b .non) : DT X δ (.Compare a [.Is] [b] pos) (isNon da) := dt_cmp ha hb op_isN (nomark _) rd_isN
theorem dt_notN (ha : DE X δ a da) (hb : DE X δ b .non) : DT X δ (.Compare a [.IsNot] [b] pos) (!isNon da) := dt_cmp ha hb op_notN (nomark _) rd_notN

/-! a[i] -/
def ixD : Dt → Dt → Option Dt
  | .sq _ ds, .int i => atI ds i
  | .scr ns, .int i => (atI ns i).map Dt.int
  | _, _ => none
theorem IsAll.at {H : Hp} {ds : List Dt} {xs : List V} {i : Int} {d : Dt} (h : IsAll K H ds xs) (e : atI ds i = some d) : ∃ x, atI xs i = some x ∧ Is K H d x := by
  unfold atI at e ⊢
  rw [h.length]
  cases q : ixN ds.length i with
  | none => rw [q] at e; cases e
  | some j =>
    rw [q] at e
    exact h.get e
theorem atI_map {ns : List Int} {i : Int} : atI (ns.map V.int) i = (atI ns i).map V.int := by
  unfold atI
  rw [List.length_map]
  cases ixN ns.length i with
  | none => rfl
  | some j => simp
theorem rd_ix (h : ixD da db = some dc) : RD K (rIx K) da db dc := fun M H x y Q t h1 h2 k => by
  cases da <;> cases db <;> simp only [ixD, reduceCtorEq] at h
  · rename_i s ds i
    simp only [Is] at h1 h2
    obtain ⟨p, vs, e1, q1, r1⟩ := h1
    obtain ⟨v, hv, iv⟩ := r1.at h
    cases s with
    | false => exact .inl ⟨p, vs, i, v, e1, h2, SqL.of (hid_le _ _ _ _ q1), hv, k _ H (Ex.refl H) iv⟩
    | true => exact .inr (.inl ⟨p, vs, i, v, e1, h2, (hid_le M H).sqT q1, hv, k _ H (Ex.refl H) iv⟩)
  · rename_i ns i
    simp only [Is] at h1 h2
    obtain ⟨p, e1, q1⟩ := h1
    cases hn : atI ns i with
    | none => rw [hn] at h; cases h
    | some n =>
      rw [hn] at h
      simp only [Option.map_some, Option.some.injEq] at h
      subst h
      exact .inl ⟨p, ns.map V.int, i, .int n, e1, h2, (hid_le M H).sqL q1, by rw [atI_map, hn]; rfl, k _ H (Ex.refl H) is_int⟩
theorem de_ix (ha : DE X δ a da) (hb : DE X δ b db) (h : ixD da db = some dc) (hs : PlainIx b := by exact fun _ _ => rfl) : DE X δ (.Subscript a b pos) dc := de_ix0 ha hb ix_seq hs (rd_ix h)
/-- an item of a list of the slot's own -/
theorem de_ixO {x : Str} {p : Pos} {ds : List Dt} (i : Nat) (hN : X.N[i]? = some x) (hv : Vis X.env.scope x) (hs : δ[i]? = some (.ow ds)) (hb : DE X δ b db) (h : ixD (.sq false ds) db = some dc)
    (hd : (x == ("__debug__" : Str)) = false := by decide) (hcd : (x == ("__classdict__" : Str)) = false := by decide) (hx : PlainIx b := by exact fun _ _ => rfl) : DE X δ (.Subscript (.Name x p) b pos) dc :=
  imE (pe_ix ix_seq (pe_var hN hv hd hcd) hb hx) fun σ H Q ⟨S, O, E, k⟩ => by
    obtain ⟨p, xs, h1, h2, h3, h4⟩ := E.ow i ds hs
    refine ⟨_, h1, S, O, E, fun y H1 e1 i1 => ?_⟩
    cases db <;> simp only [ixD, reduceCtorEq] at h
    simp only [Is] at i1
    obtain ⟨v, hv, iv⟩ := (h4.mono (hid_ex e1)).at h
    exact .inl ⟨p, xs, _, v, rfl, i1, SqL.of (e1 _ _ h3), hv, k _ H1 e1 iv⟩

/-! a[i:j] -/
def cutD (ds : List Dt) (lo hi : Option Int) : List Dt := (ds.drop (HT.sIx ds.length 0 lo)).take (HT.sIx ds.length ds.length hi - HT.sIx ds.length 0 lo)
theorem IsAll.cut {H : Hp} {ds : List Dt} {xs : List V} (h : IsAll K H ds xs) (lo hi : Option Int) : IsAll K H (cutD ds lo hi) (cutV xs lo hi) := by
  unfold cutD cutV
  rw [h.length]
  exact (h.drop _).take _
theorem do_none : DO X δ none none := imO po_none fun σ H Q ⟨S, O, E, k⟩ => k H (Ex.refl H)
theorem do_some {i : Int} (h : DE X δ a (.int i)) : DO X δ (some a) (some i) := imO (po_some h) fun σ H Q ⟨S, O, E, k⟩ => ⟨S, O, E, fun v H' e j => by
  simp only [Is] at j
  exact ⟨i, j, k H' e⟩⟩
theorem cut_all {α : Type} (l : List α) (a b : Nat) (h : a = 0 ∧ b = l.length) : (l.drop a).take (b - a) = l := by
  obtain ⟨h1, h2⟩ := h
  subst h1; subst h2
  simp
theorem de_sl {t : Bool} {ds : List Dt} {lo hi : Option Expr} {i j : Option Int} {p2 : Pos} (ha : DE X δ a (.sq t ds)) (hl : DO X δ lo i) (hu : DO X δ hi j) : DE X δ (.Subscript a (.Slice lo hi none p2) pos) (.sq t (cutD ds i j)) := by
  cases t with
  | false =>
    refine imE (pe_slice sl_list ha hl hu) fun σ H Q ⟨S, O, E, k⟩ => ⟨S, O, E, fun v H1 e1 i1 => ⟨S, O, E.mono e1, fun H2 e2 => ⟨S, O, (E.mono e1).mono e2, fun H3 e3 => ?_⟩⟩⟩
    simp only [Is] at i1
    obtain ⟨p, vs, e, q, r⟩ := i1
    have e13 := e2.trans e3
    refine ⟨p, vs, e, SqL.of (e13 _ _ (hid_le _ _ _ _ q)), fun l hl => k _ _ ((e1.trans e13).trans (Ex.new hl)) (fresh_is (t := false) (E.mono (e1.trans e13)).trk hl ((r.mono (hid_ex e13)).cut i j))⟩
  | true =>
    refine imE (pe_slice sl_tupA ha hl hu) fun σ H Q ⟨S, O, E, k⟩ => ⟨S, O, E, fun v H1 e1 i1 => ⟨S, O, E.mono e1, fun H2 e2 => ⟨S, O, (E.mono e1).mono e2, fun H3 e3 => ?_⟩⟩⟩
    simp only [Is] at i1
    obtain ⟨p, vs, e, q, r⟩ := i1
    have e13 := e2.trans e3
    have r3 := r.mono (hid_ex (M := O ++ S) e13)
    refine ⟨p, vs, e, e13.sqT ((hid_le _ _).sqT q), fun z => k _ _ (e1.trans e13) ?_, fun _ l hl => k _ _ ((e1.trans e13).trans (Ex.new hl)) (fresh_is (t := true) (E.mono (e1.trans e13)).trk hl (r3.cut i j))⟩
    rw [r.length] at z
    have hz : cutD ds i j = ds := by unfold cutD; exact cut_all ds _ _ z
    rw [hz]
    simp only [Is]
    exact ⟨p, vs, rfl, (hid_ex e13).sqT q, r3⟩
end
end Dat

set_option Elab.async false
set_option linter.all false
set_option maxRecDepth 100000
set_option maxHeartbeats 2000000
namespace Dat
open PySem L2

/-! ### built-ins by data -/
section
variable {K : PySem.W.Frag} {X : Cx} {δ : List Slot} {k : Nat}
theorem IsAll.one_inv {H : Hp} {d : Dt} {xs : List V} (h : IsAll K H [d] xs) : ∃ x, xs = [x] ∧ Is K H d x := by
  simp only [IsAll] at h
  obtain ⟨x, ys, e, i, rfl⟩ := h
  exact ⟨x, e, i⟩
theorem IsAll.two_inv {H : Hp} {d d' : Dt} {xs : List V} (h : IsAll K H [d, d'] xs) : ∃ x y, xs = [x, y] ∧ Is K H d x ∧ Is K H d' y := by
  simp only [IsAll] at h
  obtain ⟨x, ys, e, i, y, zs, rfl, j, rfl⟩ := h
  exact ⟨x, y, e, i, j⟩

def lenD : Dt → Option Nat
  | .sq _ ds => some ds.length
  | .scr ns => some ns.length
  | _ => none
theorem rc_len {d : Dt} {n : Nat} (h : lenD d = some n) : RC K (fun xs H Q => ∃ p ys, xs = [.ref p] ∧ (SqL K H p ys ∨ SqT K H p ys) ∧ Q (.int ys.length) H) [d] (.int n) := fun M H xs Q t ia q => by
  obtain ⟨x, rfl, i⟩ := ia.one_inv
  cases d <;> simp only [lenD, reduceCtorEq, Option.some.injEq] at h
  · rename_i s ds
    simp only [Is] at i
    obtain ⟨p, vs, rfl, q1, r1⟩ := i
    refine ⟨p, vs, rfl, ?_, ?_⟩
    · cases s with
      | false => exact .inl (SqL.of (hid_le _ _ _ _ q1))
      | true => exact .inr ((hid_le M H).sqT q1)
    · rw [r1.length, h]; exact q _ H (Ex.refl H) is_int
  · simp only [Is] at i
    obtain ⟨p, rfl, q1⟩ := i
    exact ⟨p, _, rfl, .inl ((hid_le M H).sqL q1), by rw [List.length_map, h]; exact q _ H (Ex.refl H) is_int⟩
def intD : Dt → Option Int
  | .int i => some i
  | .bl b => some (if b then 1 else 0)
  | _ => none
theorem rc_int {d : Dt} {n : Int} (h : intD d = some n) : RC K (fun xs H Q => (∃ i, xs = [.int i] ∧ Q (.int i) H) ∨ ∃ k, xs = [.bl k] ∧ Q (.int (if k then 1 else 0)) H) [d] (.int n) := fun M H xs Q t ia q => by
  obtain ⟨x, rfl, i⟩ := ia.one_inv
  cases d <;> simp only [intD, reduceCtorEq, Option.some.injEq] at h <;> subst h <;> simp only [Is] at i <;> subst i
  · rename_i b
    exact .inr ⟨b, rfl, q _ H (Ex.refl H) is_int⟩
  · exact .inl ⟨_, rfl, q _ H (Ex.refl H) is_int⟩
theorem rc_abs {n : Int} : RC K (fun xs H Q => ∃ i, xs = [.int i] ∧ Q (.int (if i < 0 then -i else i)) H) [.int n] (.int (n.natAbs : Int)) := fun M H xs Q t ia q => by
  obtain ⟨x, rfl, i⟩ := ia.one_inv
  simp only [Is] at i; subst i
  refine ⟨n, rfl, ?_⟩
  have e : (if n < 0 then -n else n) = (n.natAbs : Int) := by split <;> omega
  rw [e]; exact q _ H (Ex.refl H) is_int
theorem rc_max2 {n m : Int} : RC K (fun xs H Q => ∃ i j, xs = [.int i, .int j] ∧ Q (.int (if j > i then j else i)) H) [.int n, .int m] (.int (max n m)) := fun M H xs Q t ia q => by
  obtain ⟨x, y, rfl, i, j⟩ := ia.two_inv
  simp only [Is] at i j; subst i; subst j
  refine ⟨n, m, rfl, ?_⟩
  have e : (if m > n then m else n) = max n m := by split <;> omega
  rw [e]; exact q _ H (Ex.refl H) is_int
theorem rc_min2 {n m : Int} : RC K (fun xs H Q => ∃ i j, xs = [.int i, .int j] ∧ Q (.int (if j < i then j else i)) H) [.int n, .int m] (.int (min n m)) := fun M H xs Q t ia q => by
  obtain ⟨x, y, rfl, i, j⟩ := ia.two_inv
  simp only [Is] at i j; subst i; subst j
  refine ⟨n, m, rfl, ?_⟩
  have e : (if m < n then m else n) = min n m := by split <;> omega
  rw [e]; exact q _ H (Ex.refl H) is_int
theorem rc_gcd {n m : Int} : RC K rGcd [.int n, .int m] (.int (Nat.gcd n.natAbs m.natAbs : Nat)) := fun M H xs Q t ia q => by
  obtain ⟨x, y, rfl, i, j⟩ := ia.two_inv
  simp only [Is] at i j; subst i; subst j
  exact ⟨n, m, rfl, q _ H (Ex.refl H) is_int⟩
theorem rc_list {t : Bool} {ds : List Dt} : RC K (fun xs H Q => ∃ p ys, xs = [.ref p] ∧ (SqL K H p ys ∨ SqT K H p ys) ∧ ∀ l, H l = none → Q (.ref l) (upd H l (.lst ys))) [.sq t ds] (.sq false ds) := fun M H xs Q tr ia q => by
  obtain ⟨x, rfl, i⟩ := ia.one_inv
  simp only [Is] at i
  obtain ⟨p, vs, rfl, q1, r1⟩ := i
  refine ⟨p, vs, rfl, ?_, fun l hl => q _ _ (Ex.new hl) (fresh_is (t := false) tr hl r1)⟩
  cases t with
  | false => exact .inl (SqL.of (hid_le _ _ _ _ q1))
  | true => exact .inr ((hid_le M H).sqT q1)
theorem rc_tuple {t : Bool} {ds : List Dt} : RC K (fun xs H Q => ∃ p ys, xs = [.ref p] ∧ ((SqL K H p ys ∧ ∀ l, H l = none → Q (.ref l) (upd H l (.tup ys))) ∨ (SqT K H p ys ∧ Q (.ref p) H))) [.sq t ds] (.sq true ds) := fun M H xs Q tr ia q => by
  obtain ⟨x, rfl, i⟩ := ia.one_inv
  simp only [Is] at i
  obtain ⟨p, vs, rfl, q1, r1⟩ := i
  refine ⟨p, vs, rfl, ?_⟩
  cases t with
  | false => exact .inl ⟨SqL.of (hid_le _ _ _ _ q1), fun l hl => q _ _ (Ex.new hl) (fresh_is (t := true) tr hl r1)⟩
  | true => exact .inr ⟨(hid_le M H).sqT q1, q _ H (Ex.refl H) (by simp only [Is]; exact ⟨p, vs, rfl, q1, r1⟩)⟩

/-! isinstance -/
def isInt : Dt → Bool
  | .int _ => true | .bl _ => true | _ => false
def isBl : Dt → Bool
  | .bl _ => true | _ => false
def isTup : Dt → Bool
  | .sq t _ => t | _ => false
def isLst : Dt → Bool
  | .sq t _ => !t | _ => false
def isStr : Dt → Bool
  | .str _ => true | _ => false
theorem kit_all : kitB "NoneType" "int" = some false ∧ kitB "bool" "int" = some true ∧ kitB "int" "int" = some true ∧ kitB "str" "int" = some false ∧ kitB "tuple" "int" = some false ∧ kitB "list" "int" = some false ∧
    kitB "NoneType" "bool" = some false ∧ kitB "bool" "bool" = some true ∧ kitB "int" "bool" = some false ∧ kitB "str" "bool" = some false ∧ kitB "tuple" "bool" = some false ∧ kitB "list" "bool" = some false := by decide +kernel
theorem kit_all2 : kitB "NoneType" "tuple" = some false ∧ kitB "bool" "tuple" = some false ∧ kitB "int" "tuple" = some false ∧ kitB "str" "tuple" = some false ∧ kitB "tuple" "tuple" = some true ∧ kitB "list" "tuple" = some false ∧
    kitB "NoneType" "list" = some false ∧ kitB "bool" "list" = some false ∧ kitB "int" "list" = some false ∧ kitB "str" "list" = some false ∧ kitB "tuple" "list" = some false ∧ kitB "list" "list" = some true := by decide +kernel
theorem kit_all3 : kitB "NoneType" "str" = some false ∧ kitB "bool" "str" = some false ∧ kitB "int" "str" = some false ∧ kitB "str" "str" = some true ∧ kitB "tuple" "str" = some false ∧ kitB "list" "str" = some false := by decide +kernel
def tyS : Dt → String
  | .non => "NoneType" | .bl _ => "bool" | .int _ => "int" | .str _ => "str" | .sq t _ => if t then "tuple" else "list" | _ => ""
/-- the data whose type is told by tyS -/
def flatK : Dt → Bool
  | .non => true | .bl _ => true | .int _ => true | .str _ => true | .sq _ _ => true | _ => false
theorem tyx_of {H : Hp} {d : Dt} {x : V} (i : Is K H d x) (h : flatK d = true) : TyX K H x (.type (tyS d)) := by
  cases d <;> simp only [flatK, Bool.false_eq_true] at h <;> simp only [Is] at i
  · subst i; exact .base .non
  · subst i; exact .base (.bl _)
  · subst i; exact .base (.int _)
  · subst i; exact .base (.str _)
  · rename_i t ds
    obtain ⟨p, vs, rfl, q1, r1⟩ := i
    cases t with
    | false => exact .base (.lst q1)
    | true =>
      rcases q1 with (q1 | ⟨o, q1⟩) | ⟨o, its, n, q1, q2, _⟩
      · exact .base (.tup q1)
      · exact .fTuple q1
      · exact .kTuple q1 q2
theorem rc_isi {d : Dt} {n : String} {b : Bool} (h : flatK d = true) (e : kitB (tyS d) n = some b) : RC K (rIsi K) [d, .ty n] (.bl b) := fun M H xs Q tr ia q => by
  obtain ⟨x, y, rfl, i, j⟩ := ia.two_inv
  simp only [Is] at j; subst j
  exact ⟨x, .ty n, .type (tyS d), .type n, b, rfl, .ty n, tyx_of (i.mono (hid_le M H)) h, kit_ty e, q _ H (Ex.refl H) is_bl⟩
theorem rc_isInt {d : Dt} (h : flatK d = true) : RC K (rIsi K) [d, .ty "int"] (.bl (isInt d)) := rc_isi h (by
  have z := kit_all
  cases d <;> simp only [flatK, Bool.false_eq_true] at h <;> simp only [tyS, isInt]
  · exact z.1
  · exact z.2.1
  · exact z.2.2.1
  · exact z.2.2.2.1
  · rename_i t _; cases t <;> simp only [if_true, if_false, Bool.false_eq_true]
    · exact z.2.2.2.2.2.1
    · exact z.2.2.2.2.1)
theorem rc_isBl {d : Dt} (h : flatK d = true) : RC K (rIsi K) [d, .ty "bool"] (.bl (isBl d)) := rc_isi h (by
  have z := kit_all.2.2.2.2.2.2
  cases d <;> simp only [flatK, Bool.false_eq_true] at h <;> simp only [tyS, isBl]
  · exact z.1
  · exact z.2.1
  · exact z.2.2.1
  · exact z.2.2.2.1
  · rename_i t _; cases t <;> simp only [if_true, if_false, Bool.false_eq_true]
    · exact z.2.2.2.2.2
    · exact z.2.2.2.2.1)
theorem rc_isTup {d : Dt} (h : flatK d = true) : RC K (rIsi K) [d, .ty "tuple"] (.bl (isTup d)) := rc_isi h (by
  have z := kit_all2
  cases d <;> simp only [flatK, Bool.false_eq_true] at h <;> simp only [tyS, isTup]
  · exact z.1
  · exact z.2.1
  · exact z.2.2.1
  · exact z.2.2.2.1
  · rename_i t _; cases t <;> simp only [if_true, if_false, Bool.false_eq_true]
    · exact z.2.2.2.2.2.1
    · exact z.2.2.2.2.1)
theorem rc_isLst {d : Dt} (h : flatK d = true) : RC K (rIsi K) [d, .ty "list"] (.bl (isLst d)) := rc_isi h (by
  have z := kit_all2.2.2.2.2.2.2
  cases d <;> simp only [flatK, Bool.false_eq_true] at h <;> simp only [tyS, isLst]
  · exact z.1
  · exact z.2.1
  · exact z.2.2.1
  · exact z.2.2.2.1
  · rename_i t _; cases t <;> simp only [if_true, if_false, Bool.false_eq_true]
    · exact z.2.2.2.2.2
    · exact z.2.2.2.2.1)
theorem rc_isStr {d : Dt} (h : flatK d = true) : RC K (rIsi K) [d, .ty "str"] (.bl (isStr d)) := rc_isi h (by
  have z := kit_all3
  cases d <;> simp only [flatK, Bool.false_eq_true] at h <;> simp only [tyS, isStr]
  · exact z.1
  · exact z.2.1
  · exact z.2.2.1
  · exact z.2.2.2.1
  · rename_i t _; cases t <;> simp only [if_true, if_false, Bool.false_eq_true]
    · exact z.2.2.2.2.2
    · exact z.2.2.2.2.1)

/-! repr -/
mutual
theorem toP_dict : ∀ d : Dt, (toP d).hasDict = false
  | .non => by simp [toP, PyData.hasDict]
  | .bl _ => by simp [toP, PyData.hasDict]
  | .int _ => by simp [toP, PyData.hasDict]
  | .str _ => by simp [toP, PyData.hasDict]
  | .obj _ _ => by simp [toP, PyData.hasDict]
  | .scr _ => by simp [toP, PyData.hasDict]
  | .ty _ => by simp [toP, PyData.hasDict]
  | .cls _ => by simp [toP, PyData.hasDict]
  | .sq t ds => by
    have := toPs_dict ds
    cases t <;> simpa [toP, PyData.hasDict] using this
theorem toPs_dict : ∀ ds : List Dt, PyData.hasDictAll (toPs ds) = false
  | [] => by simp [toPs, PyData.hasDictAll]
  | d :: ds => by simp [toPs, PyData.hasDictAll, toP_dict d, toPs_dict ds]
end
def rRepr (K : PySem.W.Frag) : List V → Hp → VK → Prop := fun xs H Q => (∃ i : Int, xs = [.int i] ∧ i.natAbs < 10 ^ 4300 ∧ Q (.str (toString i)) H) ∨ ∃ x d, xs = [x] ∧ Dp K H x d ∧ d.showable = true ∧ d.hasDict = false ∧ d.depth ≤ 100 ∧ d.shown.length ≤ sizeLine ∧ Q (.str d.shown) H
theorem cr_repr (P : Plc X k) : CallR X (.builtin "repr") (rRepr X.K) := by
  intro pins s σ H xs us Q I r h
  rcases h with ⟨i, rfl, hi, q⟩ | ⟨x, d, rfl, hd, hs, hn, hdp, hz, q⟩
  · obtain ⟨u, rfl, t, rfl⟩ := vals1 r
    have dg : s.heap.NoDigits := P.dig.keeps I.bk
    generalize hP : 10 ^ 4300 = L at hi
    have un := P.room.un
    refine call_repr_slot (by omega) (typeIs_int s i t) PySem.F.slot_int_repr.toG ?_
    refine wpAny_call (codeAny_call_builtin PySem.F.slot_int_repr.plain PySem.F.entry_int_repr (PySem.F.slot_int_repr.check _ _ _ _ _ _ _ _ (typeIs_int s i t) (PySem.F.args_int_repr_1 _) ?_))
    unfold Builtin.«int.__repr__»
    show wpAny _ _ (do let r ← Builtin.overDigitLimit? i; _) _ _ s
    refine wpAny_bind (PyProof.Rows.overDigitLimit_any dg (fun hlt => ?_) fun hge => ?_)
    · exact wpAny_bind (wpAny_mkStr (wpAny_pure ⟨_, _, rfl, .str (toString i), H, I.tok _, ⟨_, rfl⟩, q⟩) (int_text_fits10 hlt))
    · rw [hP] at hge
      exact absurd hi (Nat.not_lt.mpr hge)
  obtain ⟨u, rfl, rx⟩ := vals1 r
  have fin : ∀ h' tk u', (∀ b o, s.heap.get? b = some o → h'.get? b = some o) → EP X pins σ Q (.str d.shown u') { s with heap := h', toks := tk } := fun h' tk u' hk => ⟨.str d.shown, H, I.kept hk, ⟨_, rfl⟩, q⟩
  have keep : ∀ b o, s.heap.get? b = some o → s.heap.get? b = some o := fun _ _ e => e
  have isref : (∃ a, x = .ref a) → wpAny (model X.prog X.w) X.A (call (.builtin "repr") [u]) (EP X pins σ Q) X.xe s := by
    rintro ⟨a, rfl⟩
    cases rx
    obtain ⟨as, rd⟩ := Dp.reads I d _ _ hd rfl
    refine repr_of_reads' rd hs (PyData.noDict_hsm hn) P.gds ?_ keep (fun h' u' tk hk => fin h' tk u' hk) hz
    have := P.room.un
    omega
  cases hd with
  | non => cases rx; exact PySem.P.repr_of_none (fin _ _ _ keep)
  | bl b => cases rx; exact PySem.P.repr_of_bool (fin _ _ _ keep)
  | int i => obtain ⟨t, rfl⟩ := rx; exact PySem.P.repr_of_int (by simpa [PyData.showable] using hs) (fin _ _ _ keep)
  | str y => obtain ⟨t, rfl⟩ := rx; exact PySem.P.repr_of_str (fin _ _ _ keep) (by simpa [PyData.shown] using hz)
  | lst _ _ => exact isref ⟨_, rfl⟩
  | tup _ _ => exact isref ⟨_, rfl⟩
def shown (d : Dt) : Str := (toP d).shown
def shC (d : Dt) : Prop := (∃ i, d = .int i ∧ i.natAbs < 10 ^ 4300) ∨ (plain d = true ∧ (toP d).showable = true ∧ deep d ≤ 64 ∧ (shown d).length ≤ sizeLine)
theorem rc_repr {d : Dt} (h : shC d) : RC K (rRepr K) [d] (.str (shown d)) := fun M H xs Q tr ia q => by
  obtain ⟨x, rfl, i⟩ := ia.one_inv
  have := toP_depth d
  rcases h with ⟨j, rfl, hj⟩ | h
  · simp only [Is] at i; subst i
    exact .inl ⟨j, rfl, hj, by simpa [shown, toP, PyData.shown] using q _ H (Ex.refl H) (is_str (i := shown (.int j)))⟩
  exact .inr ⟨x, toP d, rfl, Is.dp d x h.1 (i.mono (hid_le M H)), h.2.1, toP_dict d, by have := h.2.2.1; omega, h.2.2.2, q _ H (Ex.refl H) is_str⟩

/-! the calls -/
variable {x : Str} {p pos : Pos} {e : Expr} {es : List Expr} {ds : List Dt} {dc : Dt} {id T : String} {r : List V → Hp → VK → Prop}
theorem de_callB (hc : CallR X (.builtin id) r) (hr : RC X.K r ds dc) (hg : Gl X x) (hm : X.mg x = none) (hv : bootBuiltins x = some (.builtin id)) (ha : DA X δ (e :: es) ds)
    (h1 : x ≠ "__name__" := by decide) (h2 : (x == ("__debug__" : Str)) = false := by decide) (he : starEach (e :: es) X.env = (false, eval e X.env) :: starEach es X.env := by rfl) (hpl : (backTo pos (starEach es X.env)).any (·.1) = false := by rfl) :
    DE X δ (.Call (.Name x p) (e :: es) [] pos) dc := by
  exact imE (pe_callB hc hg hm hv ha h1 h2 he hpl) (tCB_of hr)
theorem de_callTy (hc : CallR X (.type T) r) (hr : RC X.K r ds dc) (hg : Gl X x) (hm : X.mg x = none) (hv : bootBuiltins x = some (.type T)) (ha : DA X δ (e :: es) ds)
    (h1 : x ≠ "__name__" := by decide) (h2 : (x == ("__debug__" : Str)) = false := by decide) (he : starEach (e :: es) X.env = (false, eval e X.env) :: starEach es X.env := by rfl) (hpl : (backTo pos (starEach es X.env)).any (·.1) = false := by rfl) :
    DE X δ (.Call (.Name x p) (e :: es) [] pos) dc := imE (pe_callTy hc hg hm hv ha h1 h2 he hpl) (tCB_of hr)
theorem de_ty {T : String} (hg : Gl X x) (hm : X.mg x = none) (hv : bootBuiltins x = some (.type T)) (h1 : x ≠ "__name__" := by decide) (h2 : (x == ("__debug__" : Str)) = false := by decide) : DE X δ (.Name x p) (.ty T) :=
  imE (pe_bltn (v := .ty T) hg hm hv rfl h1 h2) fun σ H Q ⟨S, O, E, k⟩ => k _ H (Ex.refl H) (by simp [Is])
end
end Dat

set_option Elab.async false
set_option linter.all false
set_option maxRecDepth 100000
set_option maxHeartbeats 2000000
namespace Dat
open PySem L2

/-! ### a def's promise, where no text of an object is being made around the call -/
structure FnG (P : Program) (w : World) (K : PySem.W.Frag) (mg : Str → Option Value) (base : Heap) (CX : CXT) (k : Nat)
    (f : Addr) (fd : FuncData) (ps : List Str) (sp : Sp) : Prop where
  cnt : ∀ vs H Q E, sp vs H Q E → vs.length = ps.length
  go : ∀ (A : Around) (outer : List Env) (s : Shared) (H : Hp) (args : Args) (us : List Value) (vs : List V) (Q : VK) (E : XK),
    A.guards = some [] → Room k A → Env0 P w K mg base A outer s H → BindsTo s fd args (ps.zip us) → Vals vs us →
    sp vs H Q E → codeAny (model P w) A (.call (.ref f) args) (CR CX outer P w H s Q E) s
section
variable {P : Program} {w : World} {K : PySem.W.Frag} {mg : Str → Option Value} {base : Heap} {CX : CXT} {k j : Nat}
  {f : Addr} {fd : FuncData} {ps N : List Str} {sp : Sp}
theorem FnG.of (F : FnOk P w K mg base CX k f fd ps sp) : FnG P w K mg base CX k f fd ps sp :=
  ⟨F.len, fun A outer s H args us vs Q E _ => F.run A outer s H args us vs Q E⟩
theorem FnG.up (F : FnG P w K mg base CX k f fd ps sp) (h : k ≤ j) : FnG P w K mg base CX j f fd ps sp :=
  ⟨F.cnt, fun A outer s H args us vs Q E g r => F.go A outer s H args us vs Q E g (r.mono h)⟩

/-- a def by its body -/
theorem fng_of {x qual : Str} {st : Stmt} {dvs : List V} {kws : List (Str × V)} (F : FunD K x qual (defArgs st) (defBody st) (defScope st) dvs kws f fd) (S : FnScope N ps (defScope st))
    (hc : ∀ vs H Q E, sp vs H Q E → vs.length = ps.length)
    (hb : ∀ (cdv : Value) (A : Around) (outer : List Env) (s : Shared) (H : Hp) (vs : List V) (Q : VK) (E : XK), A.guards = some [] →
      Room k (A.deeper (PyProof.Rows.envOfC qual (defScope st) s.heap.objs.size f cdv)) → sp vs H Q E →
      ∃ t, PSs (cxOf CX P w K mg base N qual (defScope st) f cdv A outer s H E) (defBody st) t ∧
        t { nx := fun _ H' => Q .non H', rt := Q } (start N vs) H) : FnG P w K mg base CX (k + 1) f fd ps sp := by
  obtain ⟨oc, od, dV, kV, doc, pm, an, cdv, ct, osl, rfl, lk, hcd, _, _⟩ := F.ex
  refine ⟨hc, ?_⟩
  intro A outer s H args us vs Q E hg hr e0 bd rv hs
  have old : ∀ (b : Addr) (o : Obj), base.get? b = some o → s.heap.get? b = some o := fun b o q => (e0.bs b o q).1
  have KX : K.In s.heap := e0.mod.kin.keeps old
  have NL : s.heap.NoLimit := e0.mod.nolimit.keeps old
  have kinds : ∀ y, y ∈ ps.zip us → (defScope st).names.lookup y.1 = some .local ∨
      ((defScope st).names.lookup y.1 = some .cell ∧ ((cellsFrom (s.heap.objs.size + 1) (defScope st).names []).lookup y.1).isSome = true) := by
    rintro ⟨n, v⟩ hy
    rcases S.par n (List.of_mem_zip hy).1 with z | z
    · exact Or.inl z
    · exact Or.inr ⟨z, PySem.W.cellsFrom_some _ _ _ (Or.inl z)⟩
  apply codeAny_call_function hr.depth (KX _ _ lk) rfl S.co S.gen rfl (PySem.W.codeRec_of KX hcd)
  apply bd
  apply wpAny_newFunctionEnv_cells S.kind kinds
  intro env he s1 x1
  subst he
  refine And.intro (NL.keeps x1.toInCall.keep) (codeAny_func ?_)
  obtain ⟨t, ht, q⟩ := hb cdv A outer s H vs Q E hg (hr.deeper _) hs
  have I := inv_start (CX := CX) (E := E) S hr.hd e0 (hc _ _ _ _ hs) rv x1
  apply wpAny_mono (ht.run [] s1 (start N vs) H _ I q)
  · intro fl s' z
    cases fl with
    | next =>
      obtain ⟨σ', H', J, y⟩ := z
      exact ⟨.non, H', J.os, J.bare, J.base, J.hok, rfl, y⟩
    | ret u =>
      obtain ⟨v, σ', H', J, r, y⟩ := z
      exact ⟨v, H', J.os, J.bare, J.base, J.hok, r, y⟩
    | brk => exact (show False from z.elim fun _ z => z.elim fun _ z => z.2).elim
    | cont => exact (show False from z.elim fun _ z => z.elim fun _ z => z.2).elim
  · exact fun _ _ z => z
end

section
variable {X : Cx} {CX : CXT} {k : Nat} {f : Addr} {fd : FuncData} {ps : List Str} {sp : Sp} {dvs : List V} {dfs : List Value} {E : XK} {x : Str} {p pos : Pos} {e : Expr} {es : List Expr} {t : TA}
theorem go_fn {pins : List (Addr × Obj)} {σ : L2.St} {H : Hp} {s : Shared} {Q : VK} {us : List Value} {vs : List V} (F : FnG X.prog X.w X.K X.mg X.base CX k f fd ps sp) (hg : X.A.guards = some []) (hr : Room k X.A)
    (hb : Binds X.K fd ps dfs) (hd : Vals dvs dfs) (hx : Passes CX X E) (I : Inv X pins σ H s) (r : Vals vs us) (h : sp (vs ++ dvs) H Q E) :
    wpAny (model X.prog X.w) X.A (call (.ref f) us) (EP X pins σ Q) X.xe s := by
  have both := r.append hd
  have n : (us ++ dfs).length = ps.length := both.length.symm.trans (F.cnt _ _ _ _ h)
  apply wpAny_call
  apply codeAny_mono (F.go X.A X.stack s H ⟨us, []⟩ _ _ Q E hg hr I.env0 (hb s us I.kIn n) both h)
  intro r s' z
  match r with
  | .error e => exact hx pins σ H s e s' I z
  | .ok (.ret u) => exact I.after z
  | .ok .next => exact absurd z id
  | .ok .brk => exact absurd z id
  | .ok .cont => exact absurd z id
/-- f(..) -/
theorem pe_callG (F : FnG X.prog X.w X.K X.mg X.base CX k f fd ps sp) (hgd : X.A.guards = some []) (hr : Room k X.A) (hg : Gl X x) (hm : X.mg x = some (.ref f)) (hk : PySem.W.keepIn X.K (.ref f) = true) (hb : Binds X.K fd ps dfs) (hd : Vals dvs dfs) (hx : Passes CX X E)
    (ha : PA X (e :: es) t) (hdb : (x == ("__debug__" : Str)) = false := by decide) (he : starEach (e :: es) X.env = (false, eval e X.env) :: starEach es X.env := by rfl) (hpl : (backTo pos (starEach es X.env)).any (·.1) = false := by rfl) :
    PE X (.Call (.Name x p) (e :: es) [] pos) (tCall sp dvs E t) := by
  constructor
  intro pins s σ H Q I h
  apply wpAny_Call_Name_kw
  apply ld_glob I hg hm _ hdb
  apply PySem.W.callWith_K (h₀ := X.base) I.ok.mod.kin hk _ he hpl
  apply thn (ha.run pos pins s σ H _ I h)
  rintro us s1 ⟨vs, H1, I1, r, q⟩
  exact ⟨I1.kIn, go_fn F hgd hr hb hd hx I1 r q⟩
theorem pe_callG0 (F : FnG X.prog X.w X.K X.mg X.base CX k f fd ps sp) (hgd : X.A.guards = some []) (hr : Room k X.A) (hg : Gl X x) (hm : X.mg x = some (.ref f)) (hk : PySem.W.keepIn X.K (.ref f) = true) (hb : Binds X.K fd ps dfs) (hd : Vals dvs dfs) (hx : Passes CX X E)
    (hdb : (x == ("__debug__" : Str)) = false := by decide) : PE X (.Call (.Name x p) [] [] pos) (tCall sp dvs E tNil) := by
  constructor
  intro pins s σ H Q I h
  apply wpAny_Call_Name_kw
  apply ld_glob I hg hm _ hdb
  apply PySem.W.callWith_K0 I.kIn hk
  exact go_fn (us := []) F hgd hr hb hd hx I .nil h
end

/-! ### promises by data -/
/-- how a result stands: shared data, or a list of its own (new) -/
inductive Ret where
  | sh (d : Dt) | ow (ds : List Dt)
def Ret.dt : Ret → Dt
  | .sh d => d
  | .ow ds => .sq false ds
def RetIs (K : PySem.W.Frag) (S : List Addr) (H H' : Hp) : Ret → V → Prop
  | .sh d, v => Is K (hid S H') d v
  | .ow ds, v => ∃ p xs, v = .ref p ∧ H p = none ∧ H' p = some (.lst xs) ∧ IsAll K (hid (p :: S) H') ds xs
/-- R ds r: upon the data ds the def hands back r -/
def spD (K : PySem.W.Frag) (R : List Dt → Ret → Prop) : Sp := fun vs H Q _ => ∃ S ds r, (∀ p, p ∈ S → H p ≠ none) ∧ IsAll K (hid S H) ds vs ∧ R ds r ∧ ∀ v H', Ex H H' → RetIs K S H H' r v → Q v H'
theorem RetIs.is {K : PySem.W.Frag} {S : List Addr} {H H' : Hp} {r : Ret} {v : V} (hS : ∀ p, p ∈ S → H p ≠ none) (h : RetIs K S H H' r v) : Is K (hid S H') r.dt v := by
  cases r with
  | sh d => exact h
  | ow ds =>
    obtain ⟨p, xs, rfl, h0, h1, h2⟩ := h
    simp only [Ret.dt, Is]
    refine ⟨p, xs, rfl, ?_, h2.mono (hid_sub H' fun q hq => List.mem_cons_of_mem _ hq)⟩
    show hid S H' p = _
    rw [hid_out (fun z => hS p z h0)]; exact h1
section
variable {X : Cx} {δ : List Slot} {k j : Nat} {f : Addr} {fd : FuncData} {ps : List Str} {R : List Dt → Ret → Prop} {dvs : List V} {dfs : List Value} {x : Str} {p pos : Pos} {e : Expr} {es : List Expr} {ds dds : List Dt} {r : Ret}
/-- a def as it is known where it is called -/
structure Def (P : Program) (w : World) (K : PySem.W.Frag) (mg : Str → Option Value) (base : Heap) (x : Str) (j : Nat) (ps : List Str) (dds : List Dt) (R : List Dt → Ret → Prop) : Prop where
  is : ∃ f fd dvs dfs, FnG P w K mg base CX0 j f fd ps (spD K R) ∧ mg x = some (.ref f) ∧ PySem.W.keepIn K (.ref f) = true ∧ Binds K fd ps dfs ∧ Vals dvs dfs ∧ ∀ H, IsAll K H dds dvs
theorem tCall_of {K : PySem.W.Frag} {dvs : List V} (hd : ∀ H, IsAll K H dds dvs) (hR : R (ds ++ dds) r) (σ : L2.St) (H : Hp) (Q : VK) (E : XK) (h : tD K δ r.dt σ H Q) : tCall (spD K R) dvs E (tDA K δ ds) σ H Q := by
  obtain ⟨S, O, En, q⟩ := h
  refine ⟨S, O, En, fun vs H1 e1 i1 => ?_⟩
  exact ⟨O ++ S, ds ++ dds, r, (En.mono e1).trk, i1.append (hd _), hR, fun v H' e2 z => q v H' (e1.trans e2) (z.is (En.mono e1).trk)⟩
theorem de_call (P : Plc X k) (F : Def X.prog X.w X.K X.mg X.base x j ps dds R) (hj : j ≤ k) (hg : Gl X x) (ha : DA X δ (e :: es) ds) (hR : R (ds ++ dds) r)
    (hdb : (x == ("__debug__" : Str)) = false := by decide) (he : starEach (e :: es) X.env = (false, eval e X.env) :: starEach es X.env := by rfl) (hpl : (backTo pos (starEach es X.env)).any (·.1) = false := by rfl) :
    DE X δ (.Call (.Name x p) (e :: es) [] pos) r.dt := by
  obtain ⟨f, fd, dvs, dfs, F, hm, hk, hb, hv, hd⟩ := F.is
  exact imE (pe_callG F P.gds (P.room.mono hj) hg hm hk hb hv pass0 ha hdb he hpl) fun σ H Q h => tCall_of hd hR σ H Q E0 h
theorem de_callS {d : Dt} (P : Plc X k) (F : Def X.prog X.w X.K X.mg X.base x j ps dds R) (hj : j ≤ k) (hg : Gl X x) (ha : DA X δ (e :: es) ds) (hR : R (ds ++ dds) (.sh d))
    (hdb : (x == ("__debug__" : Str)) = false := by decide) (he : starEach (e :: es) X.env = (false, eval e X.env) :: starEach es X.env := by rfl) (hpl : (backTo pos (starEach es X.env)).any (·.1) = false := by rfl) :
    DE X δ (.Call (.Name x p) (e :: es) [] pos) d := de_call (r := .sh d) P F hj hg ha hR hdb he hpl
end
end Dat

set_option Elab.async false
set_option linter.all false
set_option maxRecDepth 100000
set_option maxHeartbeats 2000000
namespace Dat
open PySem L2

/-! ### statements by data -/
structure DEnds where
  nx : List Slot → Prop
  rt : Ret → Prop := fun _ => False
  bk : List Slot → Prop := fun _ => False
  ct : List Slot → Prop := fun _ => False
def RetW (K : PySem.W.Frag) (S O : List Addr) (H : Hp) : Ret → V → Prop
  | .sh d, v => Is K (hid (O ++ S) H) d v
  | .ow ds, v => ∃ p xs, v = .ref p ∧ p ∈ O ∧ H p = some (.lst xs) ∧ IsAll K (hid (O ++ S) H) ds xs
/-- what the ends of the data promise to the ends of the walk -/
structure Links (K : PySem.W.Frag) (S O : List Addr) (H : Hp) (D : DEnds) (L : Ends) : Prop where
  nx : ∀ O' σ' H' δ', Step S O H O' H' → SEnv K S O' H' σ' δ' → D.nx δ' → L.nx σ' H'
  bk : ∀ O' σ' H' δ', Step S O H O' H' → SEnv K S O' H' σ' δ' → D.bk δ' → L.bk σ' H'
  ct : ∀ O' σ' H' δ', Step S O H O' H' → SEnv K S O' H' σ' δ' → D.ct δ' → L.ct σ' H'
  rt : ∀ O' σ' H' δ' v r, Step S O H O' H' → SEnv K S O' H' σ' δ' → RetW K S O' H' r v → D.rt r → L.rt v H'
theorem Links.step {K : PySem.W.Frag} {S O O1 : List Addr} {H H1 : Hp} {D : DEnds} {L : Ends} (l : Links K S O H D L) (s : Step S O H O1 H1) : Links K S O1 H1 D L :=
  ⟨fun O' σ' H' δ' t => l.nx O' σ' H' δ' (s.trans t), fun O' σ' H' δ' t => l.bk O' σ' H' δ' (s.trans t), fun O' σ' H' δ' t => l.ct O' σ' H' δ' (s.trans t), fun O' σ' H' δ' v r t => l.rt O' σ' H' δ' v r (s.trans t)⟩
def tW (K : PySem.W.Frag) (δ : List Slot) (D : DEnds) : TS := fun L σ H => ∃ S O, SEnv K S O H σ δ ∧ Links K S O H D L
abbrev DS (X : Cx) (δ : List Slot) (st : Stmt) (D : DEnds) : Prop := PS X st (tW X.K δ D)
abbrev DSs (X : Cx) (δ : List Slot) (sts : List Stmt) (D : DEnds) : Prop := PSs X sts (tW X.K δ D)
/-- a new list as a value -/
def tF (K : PySem.W.Frag) (δ : List Slot) (ds : List Dt) : TE := fun σ H Q => ∃ S O, SEnv K S O H σ δ ∧ ∀ p xs H', Ex H H' → H p = none → H' p = some (.lst xs) → IsAll K (hid (p :: (O ++ S)) H') ds xs → Q (.ref p) H'
abbrev DF (X : Cx) (δ : List Slot) (e : Expr) (ds : List Dt) : Prop := PE X e (tF X.K δ ds)

section
variable {X : Cx} {δ : List Slot} {e a b c iter : Expr} {es : List Expr} {d da db : Dt} {ds items : List Dt} {pos p : Pos} {x : Str} {st : Stmt} {rest sts : List Stmt} {D : DEnds} {k i : Nat}
def tAny (X : Cx) (sts : List Stmt) : TS := fun L σ H => ∃ t, PSs X sts t ∧ t L σ H
theorem pss_any : PSs X sts (tAny X sts) := ⟨fun pins s σ H L I ⟨t, h, q⟩ => h.run pins s σ H L I q⟩
theorem imS {t t' : TS} (h : PS X st t) (hi : ∀ L σ H, t' L σ H → t L σ H) : PS X st t' := ⟨fun pins s σ H L I q => h.run pins s σ H L I (hi _ _ _ q)⟩
theorem imSs {t t' : TS} (h : PSs X sts t) (hi : ∀ L σ H, t' L σ H → t L σ H) : PSs X sts t' := ⟨fun pins s σ H L I q => h.run pins s σ H L I (hi _ _ _ q)⟩
theorem dss_nil (h : D.nx δ) : DSs X δ [] D := imSs pss_nil fun L σ H ⟨S, O, E, l⟩ => l.nx O σ H δ (Step.refl _ _ _) E h
theorem dss_cons (h : DS X δ st { D with nx := fun δ' => DSs X δ' rest D }) : DSs X δ (st :: rest) D :=
  imSs (pss_cons h pss_any) fun L σ H ⟨S, O, E, l⟩ => ⟨S, O, E, ⟨fun O' σ' H' δ' t E' n => ⟨_, n, S, O', E', l.step t⟩, l.bk, l.ct, l.rt⟩⟩
theorem dss_one (h : DS X δ st D) : DSs X δ [st] D := imSs (pss_one h) fun L σ H q => q
/-- less is asked -/
theorem dss_weak {D' : DEnds} (h : DSs X δ sts D') (hn : ∀ δ', D'.nx δ' → D.nx δ') (hb : ∀ δ', D'.bk δ' → D.bk δ') (hc : ∀ δ', D'.ct δ' → D.ct δ') (hr : ∀ r, D'.rt r → D.rt r) : DSs X δ sts D :=
  imSs h fun L σ H ⟨S, O, E, l⟩ => ⟨S, O, E, ⟨fun O' σ' H' δ' t E' n => l.nx O' σ' H' δ' t E' (hn _ n), fun O' σ' H' δ' t E' n => l.bk O' σ' H' δ' t E' (hb _ n), fun O' σ' H' δ' t E' n => l.ct O' σ' H' δ' t E' (hc _ n), fun O' σ' H' δ' v r t E' w n => l.rt O' σ' H' δ' v r t E' w (hr _ n)⟩⟩

theorem ds_set (i : Nat) (P : Plc X k) (hi : X.N[i]? = some x) (hx : Loc X.env.scope x) (he : DE X δ e d) (h : D.nx (δ.set i (.sh d))) (hs : swapsWith e (some (.Name x p)) pos.line X.env = pure false := by rfl)
    (hf : X.fn x = true ∨ X.env.scope.names.lookup x = some .local := by first | exact .inl rfl | exact .inr rfl | assumption) : DS X δ (.Assign [.Name x p] e pos) D :=
  imS (ps_set P.nd hi hx he hs hf) fun L σ H ⟨S, O, E, l⟩ => ⟨S, O, E, fun v H1 e1 i1 => l.nx O _ H1 _ (E.step e1) ((E.mono e1).setSh i i1) h⟩
theorem setF {L : Ends} {σ : L2.St} {H : Hp} (q : tW X.K δ D L σ H) (h : D.nx (δ.set i (.ow ds))) : tAsg (tF X.K δ ds) (gName i) L σ H := by
  obtain ⟨S, O, E, l⟩ := q
  refine ⟨S, O, E, fun p xs H1 e1 h0 h1 i1 => ?_⟩
  obtain ⟨E2, s2⟩ := E.setOw i h0 e1 h1 i1
  exact l.nx (p :: O) _ H1 _ s2 E2 h
theorem ds_setO (i : Nat) (P : Plc X k) (hi : X.N[i]? = some x) (hx : Loc X.env.scope x) (he : DF X δ e ds) (h : D.nx (δ.set i (.ow ds))) (hs : swapsWith e (some (.Name x p)) pos.line X.env = pure false := by rfl)
    (hf : X.fn x = true ∨ X.env.scope.names.lookup x = some .local := by first | exact .inl rfl | exact .inr rfl | assumption) : DS X δ (.Assign [.Name x p] e pos) D :=
  imS (ps_set P.nd hi hx he hs hf) fun L σ H q => setF q h
theorem dss_frz (i : Nat) (hs : δ[i]? = some (.ow ds)) (h : DSs X (δ.set i (.sh (.sq false ds))) sts D) : DSs X δ sts D :=
  imSs h fun L σ H ⟨S, O, E, l⟩ => by
    obtain ⟨O', E', s, _⟩ := E.freeze hs
    exact ⟨S, O', E', l.step s⟩
theorem ds_app (i : Nat) {ap cp : Pos} (hi : X.N[i]? = some x) (hv : Vis X.env.scope x) (hs : δ[i]? = some (.ow ds)) (he : DE X δ e d) (hz : ds.length < sizeLine) (h : D.nx (δ.set i (.ow (ds ++ [d]))))
    (hbase : attributeBase (.Name x p) "append" X.env (eval (.Name x p) X.env) = eval (.Name x p) X.env := by rfl) (hline : (ap.endLine == cp.line) = true := by rfl)
    (hfew : ((backTo cp (starEach (e :: []) X.env)).all (fun z => !z.1) && ((backToKw cp (keywordEach [] X.env)).all (fun z => z.1.isSome)) && decide ((e :: []).length + ([] : List Keyword).length + (if ([] : List Keyword).isEmpty then 0 else 1) < 30)) = true := by rfl)
    (hd : (x == ("__debug__" : Str)) = false := by decide) (hcd : (x == ("__classdict__" : Str)) = false := by decide)
    (hst : starEach (e :: []) X.env = (false, eval e X.env) :: starEach [] X.env := by rfl) (hpl : (backTo cp (starEach [] X.env)).any (·.1) = false := by rfl)
    (hsw : swapsWith (.Call (.Attribute (.Name x p) "append" ap) [e] [] cp) none pos.line X.env = pure false := by rfl) :
    DS X δ (.Expr (.Call (.Attribute (.Name x p) "append" ap) [e] [] cp) pos) D :=
  imS (ps_expr (pe_bm PySem.F.plainAttrs_list PySem.F.slot_list_append PySem.F.type_list_append mt_append (pe_var hi hv hd hcd) (pa_cons he pa_nil hst) hbase hfew hline hst hpl) hsw) fun L σ H ⟨S, O, E, l⟩ => by
    obtain ⟨p, xs, g1, g2, g3, g4⟩ := E.ow i ds hs
    refine ⟨_, g1, .inl ⟨rfl, xs, SqL.of g3⟩, S, O, E, fun v H1 e1 i1 => ?_⟩
    have E1 := E.mono e1
    have r1 := g4.mono (hid_ex (M := O ++ S) e1)
    obtain ⟨E2, s2⟩ := E1.putOw hs g1 (r1.append (.one i1))
    exact ⟨p, xs, v, rfl, rfl, e1 _ _ g3, by rw [g4.length]; exact hz, l.nx O _ _ _ ((E.step e1).trans s2) E2 h⟩
theorem ds_put (i : Nat) {n : Int} {j : Nat} {tp : Pos} (hi : X.N[i]? = some x) (hv : Vis X.env.scope x) (hs : δ[i]? = some (.ow ds)) (he : DE X δ e d) (hb : DE X δ b (.int n)) (hj : ixN ds.length n = some j) (h : D.nx (δ.set i (.ow (ds.set j d))))
    (hd : (x == ("__debug__" : Str)) = false := by decide) (hcd : (x == ("__classdict__" : Str)) = false := by decide)
    (hsw : swapsWithSole [.Subscript (.Name x p) b tp] e pos.line X.env = pure false := by rfl)
    (hasg : ∀ v, assign (.Subscript (.Name x p) b tp) X.env v = (do
      let u1 ← holding [v] (eval (.Name x p) X.env)
      let u2 ← holding [v, u1] (eval b X.env)
      standAt tp
      holding [v, u1, u2] (setItem u1 u2 v)
      release [v, u1, u2] []) := by intro _; rfl) (hw : swappedStores [.Subscript (.Name x p) b tp] e X.env = pure none := by rfl) :
    DS X δ (.Assign [.Subscript (.Name x p) b tp] e pos) D :=
  imS (ps_asg he (pg_sub (pe_var hi hv hd hcd) hb set_list hasg) hsw hw) fun L σ H ⟨S, O, E, l⟩ => ⟨S, O, E, fun v H1 e1 i1 => by
    obtain ⟨p, xs, g1, g2, g3, g4⟩ := E.ow i ds hs
    refine ⟨_, g1, S, O, E.mono e1, fun y H2 e2 i2 => ?_⟩
    simp only [Is] at i2
    have e12 := e1.trans e2
    have r2 := g4.mono (hid_ex (M := O ++ S) e12)
    obtain ⟨E2, s2⟩ := (E.mono e12).putOw hs g1 (r2.set (i1.mono (hid_ex e2)) j)
    exact ⟨p, xs, n, j, rfl, i2, e12 _ _ g3, by rw [g4.length]; exact hj, l.nx O _ _ _ ((E.step e12).trans s2) E2 h⟩⟩
theorem ds_drop (he : DE X δ e d) (h : D.nx δ) (hs : swapsWith e none pos.line X.env = pure false := by rfl) : DS X δ (.Expr e pos) D :=
  imS (ps_expr he hs) fun L σ H ⟨S, O, E, l⟩ => ⟨S, O, E, fun v H1 e1 i1 => l.nx O _ H1 _ (E.step e1) (E.mono e1) h⟩
theorem ds_ret (he : DE X δ e d) (h : D.rt (.sh d)) : DS X δ (.Return (some e) pos) D :=
  imS (ps_ret he) fun L σ H ⟨S, O, E, l⟩ => ⟨S, O, E, fun v H1 e1 i1 => l.rt O _ H1 _ v (.sh d) (E.step e1) (E.mono e1) i1 h⟩
theorem ds_retF (he : DF X δ e ds) (h : D.rt (.ow ds)) : DS X δ (.Return (some e) pos) D :=
  imS (ps_ret he) fun L σ H ⟨S, O, E, l⟩ => ⟨S, O, E, fun q xs H1 e1 h0 h1 i1 => by
    obtain ⟨E2, s2⟩ := (E.setOw σ.length h0 e1 h1 i1)
    exact l.rt (q :: O) _ H1 _ (.ref q) (.ow ds) s2 E2 ⟨q, xs, rfl, List.mem_cons_self, h1, i1⟩ h⟩
theorem ds_retO (i : Nat) (hi : X.N[i]? = some x) (hv : Vis X.env.scope x) (hs : δ[i]? = some (.ow ds)) (h : D.rt (.ow ds))
    (hd : (x == ("__debug__" : Str)) = false := by decide) (hcd : (x == ("__classdict__" : Str)) = false := by decide) : DS X δ (.Return (some (.Name x p)) pos) D :=
  imS (ps_ret (pe_var hi hv hd hcd)) fun L σ H ⟨S, O, E, l⟩ => by
    obtain ⟨q, xs, g1, g2, g3, g4⟩ := E.ow i ds hs
    exact ⟨_, g1, l.rt O σ H δ _ (.ow ds) (Step.refl _ _ _) E ⟨q, xs, rfl, g2, g3, g4⟩ h⟩
theorem ds_retN (h : D.rt (.sh .non)) : DS X δ (.Return none pos) D :=
  imS ps_retN fun L σ H ⟨S, O, E, l⟩ => l.rt O σ H δ _ (.sh .non) (Step.refl _ _ _) E (by simp [RetW, Is]) h
theorem ds_if {t : Bool} {u v : List Stmt} (hc : DT X δ c t) (h1 : t = true → DSs X δ u D) (h2 : t = false → DSs X δ v D) : DS X δ (.If c u v pos) D := by
  cases t with
  | true => exact imS (ps_if (u := tNever) hc (h1 rfl) pss_never) fun L σ H ⟨S, O, E, l⟩ => ⟨S, O, E, fun H1 e1 => by
      dsimp only; rw [if_pos rfl]; exact ⟨S, O, E.mono e1, l.step (E.step e1)⟩⟩
  | false => exact imS (ps_if (t := tNever) hc pss_never (h2 rfl)) fun L σ H ⟨S, O, E, l⟩ => ⟨S, O, E, fun H1 e1 => by
      dsimp only; rw [if_neg Bool.false_ne_true]; exact ⟨S, O, E.mono e1, l.step (E.step e1)⟩⟩
theorem ds_pass (h : D.nx δ) : DS X δ (.Pass pos) D := imS ps_pass fun L σ H ⟨S, O, E, l⟩ => l.nx O σ H δ (Step.refl _ _ _) E h
theorem ds_break (h : D.bk δ) : DS X δ (.Break pos) D := imS ps_break fun L σ H ⟨S, O, E, l⟩ => l.bk O σ H δ (Step.refl _ _ _) E h
theorem ds_cont (h : D.ct δ) : DS X δ (.Continue pos) D := imS ps_continue fun L σ H ⟨S, O, E, l⟩ => l.ct O σ H δ (Step.refl _ _ _) E h
theorem ds_never (h : False) : DS X δ st D := h.elim
theorem dss_never (h : False) : DSs X δ sts D := h.elim

/-! ### new lists -/
theorem all_new {K : PySem.W.Frag} {M : List Addr} {H : Hp} {p : Addr} {o : HO} {ds : List Dt} {xs : List V} (hp : H p = none) (h : IsAll K (hid M H) ds xs) : IsAll K (hid (p :: M) (upd H p o)) ds xs :=
  h.mono fun a u q => by
    by_cases ha : a ∈ M
    · rw [hid_in ha] at q; cases q
    · rw [hid_out ha] at q
      have hap : a ≠ p := ne_of_none q hp
      rw [hid_out (fun z => (List.mem_cons.mp z).elim hap ha), upd_ne hap]; exact q
theorem df_lst (h : DA X δ es ds) (hl : ds.length ≤ sizeLine := by show _ ≤ 16777216; simp) : DF X δ (.List es pos) ds :=
  imE (pe_lst h) fun σ H Q ⟨S, O, E, k⟩ => ⟨S, O, E, fun vs H1 e1 i1 => ⟨by rw [i1.length]; exact hl, fun p hp => k p vs _ (e1.trans (Ex.new hp)) (e1.free hp) upd_same (all_new hp i1)⟩⟩
theorem de_of (h : DF X δ e ds) : DE X δ e (.sq false ds) := imE h fun σ H Q ⟨S, O, E, k⟩ => ⟨S, O, E, fun p xs H1 e1 h0 h1 i1 => k _ H1 e1 (by
  simp only [Is]
  refine ⟨p, xs, rfl, ?_, i1.mono (hid_sub H1 fun q hq => List.mem_cons_of_mem _ hq)⟩
  show hid _ H1 p = _
  rw [hid_out (E.fresh h0)]; exact h1)⟩
/-- list(x) -/
theorem df_list {t : Bool} (hg : Gl X "list") (hm : X.mg "list" = none) (ha : DE X δ e (.sq t ds)) (he : starEach (e :: []) X.env = (false, eval e X.env) :: starEach [] X.env := by rfl) (hpl : (backTo pos (starEach [] X.env)).any (·.1) = false := by rfl) :
    DF X δ (.Call (.Name "list" p) [e] [] pos) ds :=
  imE (pe_callTy call_list_of hg hm (by decide +kernel) (da_cons ha da_nil he) (by decide) (by decide) he hpl) fun σ H Q ⟨S, O, E, k⟩ => ⟨S, O, E, fun vs H1 e1 i1 => by
    obtain ⟨y, rfl, i⟩ := i1.one_inv
    simp only [Is] at i
    obtain ⟨a, ys, rfl, q1, r1⟩ := i
    refine ⟨a, ys, rfl, ?_, fun l hl => k l ys _ (e1.trans (Ex.new hl)) (e1.free hl) upd_same (all_new hl r1)⟩
    cases t with
    | false => exact .inl (SqL.of (hid_le _ _ _ _ q1))
    | true => exact .inr ((hid_le _ _).sqT q1)⟩
/-- a + b of lists -/
theorem df_cat {ds' : List Dt} (ha : DE X δ a (.sq false ds)) (hb : DE X δ b (.sq false ds')) (hz : ds.length + ds'.length ≤ sizeLine) : DF X δ (.BinOp a .Add b pos) (ds ++ ds') :=
  imE (pe_op op_cat ha hb) fun σ H Q ⟨S, O, E, k⟩ => ⟨S, O, E, fun v H1 e1 i1 => ⟨S, O, E.mono e1, fun w H2 e2 i2 => by
    have i1 := i1.mono (hid_ex (M := O ++ S) e2)
    simp only [Is] at i1 i2
    obtain ⟨p, vs, rfl, q1, r1⟩ := i1
    obtain ⟨q, ws, rfl, q2, r2⟩ := i2
    exact ⟨p, q, vs, ws, rfl, rfl, hid_le _ _ _ _ q1, hid_le _ _ _ _ q2, by rw [r1.length, r2.length]; exact hz, fun r hr => k r _ _ ((e1.trans e2).trans (Ex.new hr)) ((e1.trans e2).free hr) upd_same (all_new hr (r1.append r2))⟩⟩⟩
theorem df_mul {n : Int} (ha : DE X δ a (.sq false ds)) (hb : DE X δ b (.int n)) (h1 : -(2 ^ 63) ≤ n) (h2 : n < 2 ^ 63) (hz : ds.length * n.toNat ≤ sizeLine) : DF X δ (.BinOp a .Mult b pos) (List.replicate n.toNat ds).flatten :=
  imE (pe_op op_rep ha hb) fun σ H Q ⟨S, O, E, k⟩ => ⟨S, O, E, fun v H1 e1 i1 => ⟨S, O, E.mono e1, fun w H2 e2 i2 => by
    have i1 := i1.mono (hid_ex (M := O ++ S) e2)
    simp only [Is] at i1 i2
    obtain ⟨p, vs, rfl, q1, r1⟩ := i1
    exact ⟨p, n, vs, rfl, i2, hid_le _ _ _ _ q1, h1, h2, by rw [r1.length]; exact hz, fun r hr => k r _ _ ((e1.trans e2).trans (Ex.new hr)) ((e1.trans e2).free hr) upd_same (all_new hr (r1.rep _))⟩⟩⟩
theorem df_sl {lo hi : Option Expr} {i j : Option Int} {p2 : Pos} (ha : DE X δ a (.sq false ds)) (hl : DO X δ lo i) (hu : DO X δ hi j) : DF X δ (.Subscript a (.Slice lo hi none p2) pos) (cutD ds i j) :=
  imE (pe_slice sl_list ha hl hu) fun σ H Q ⟨S, O, E, k⟩ => ⟨S, O, E, fun v H1 e1 i1 => ⟨S, O, E.mono e1, fun H2 e2 => ⟨S, O, (E.mono e1).mono e2, fun H3 e3 => by
    simp only [Is] at i1
    obtain ⟨p, vs, e, q, r⟩ := i1
    have e13 := e2.trans e3
    exact ⟨p, vs, e, SqL.of (e13 _ _ (hid_le _ _ _ _ q)), fun l hl => k l _ _ ((e1.trans e13).trans (Ex.new hl)) ((e1.trans e13).free hl) upd_same (all_new hl ((r.mono (hid_ex e13)).cut i j))⟩⟩⟩⟩
theorem df_call {j : Nat} {ps : List Str} {R : List Dt → Ret → Prop} {ds dds es' : List Dt} (P : Plc X k) (F : Def X.prog X.w X.K X.mg X.base x j ps dds R) (hj : j ≤ k) (hg : Gl X x) (ha : DA X δ (e :: es) ds) (hR : R (ds ++ dds) (.ow es'))
    (hdb : (x == ("__debug__" : Str)) = false := by decide) (he : starEach (e :: es) X.env = (false, eval e X.env) :: starEach es X.env := by rfl) (hpl : (backTo pos (starEach es X.env)).any (·.1) = false := by rfl) :
    DF X δ (.Call (.Name x p) (e :: es) [] pos) es' := by
  obtain ⟨f, fd, dvs, dfs, F, hm, hk, hb, hv, hd⟩ := F.is
  refine imE (pe_callG F P.gds (P.room.mono hj) hg hm hk hb hv pass0 ha hdb he hpl) fun σ H Q ⟨S, O, En, q⟩ => ⟨S, O, En, fun vs H1 e1 i1 => ?_⟩
  exact ⟨O ++ S, ds ++ dds, .ow es', (En.mono e1).trk, i1.append (hd _), hR, fun v H' e2 ⟨p, xs, ev, h0, h1, h2⟩ => by subst ev; exact q p xs H' (e1.trans e2) (e1.free h0) h1 h2⟩

/-! ### what is walked -/
def ItOk (K : PySem.W.Frag) (J : It) (B : Hp) (items : List Dt) : Prop := ∀ (n : Nat) (M' : List Addr) (H' : Hp), Ex B (hid M' H') → (∀ p, p ∈ M' → H' p ≠ none) → n ≤ items.length →
  (n = items.length → J.stop n H') ∧ ∀ d, items[n]? = some d → J.go n H' ∧ ∀ x H'', J.yld n H' x H'' → Ex H' H'' ∧ Is K (hid M' H'') d x
def tI (K : PySem.W.Frag) (δ : List Slot) (items : List Dt) : TI := fun σ H R => ∃ S O, SEnv K S O H σ δ ∧ ∀ J H1, Ex H H1 → ItOk K J (hid (O ++ S) H1) items → R J H1
abbrev DI (X : Cx) (δ : List Slot) (tg iter : Expr) (items : List Dt) : Prop := PI X tg iter (tI X.K δ items)
theorem imI {tg : Expr} {t t' : TI} (h : PI X tg iter t) (hi : ∀ σ H R, t' σ H R → t σ H R) : PI X tg iter t' := ⟨fun pins s σ H R I q => h.run pins s σ H R I (hi _ _ _ q)⟩
theorem di_seq {tg : Expr} {t : Bool} (ha : DE X δ iter (.sq t items)) : DI X δ tg iter items := by
  cases t with
  | false =>
    refine imI (pi_list ha) fun σ H R ⟨S, O, E, k⟩ => ⟨S, O, E, fun v H1 e1 i1 => ?_⟩
    simp only [Is] at i1
    obtain ⟨a, xs, rfl, q1, r1⟩ := i1
    refine ⟨a, rfl, ⟨xs, SqL.of (hid_le _ _ _ _ q1)⟩, k _ H1 e1 fun n M' H' ex _ hn => ?_⟩
    have q2 : H' a = some (.lst xs) := hid_le _ _ _ _ (ex _ _ q1)
    refine ⟨fun z => ⟨xs, SqL.of q2, by rw [r1.length, z]; exact Nat.le_refl _⟩, fun d hd => ?_⟩
    obtain ⟨y, hy, iy⟩ := (r1.mono ex).get hd
    exact ⟨⟨xs, y, SqL.of q2, hy⟩, fun w H'' ⟨e2, z⟩ => by
      subst e2
      have := z xs (SqL.of q2)
      rw [hy] at this; cases this
      exact ⟨Ex.refl _, iy⟩⟩
  | true =>
    refine imI (pi_tup ha) fun σ H R ⟨S, O, E, k⟩ => ⟨S, O, E, fun v H1 e1 i1 => ?_⟩
    simp only [Is] at i1
    obtain ⟨a, xs, rfl, q1, r1⟩ := i1
    refine ⟨a, rfl, ⟨xs, (hid_le _ _).sqT q1⟩, k _ H1 e1 fun n M' H' ex _ hn => ?_⟩
    have q2 : SqT X.K H' a xs := (hid_le _ _).sqT (ex.sqT q1)
    refine ⟨fun z => ⟨xs, q2, by rw [r1.length, z]; exact Nat.le_refl _⟩, fun d hd => ?_⟩
    obtain ⟨y, hy, iy⟩ := (r1.mono ex).get hd
    exact ⟨⟨xs, y, q2, hy⟩, fun w H'' ⟨e2, z⟩ => by
      subst e2
      have := z xs q2
      rw [hy] at this; cases this
      exact ⟨Ex.refl _, iy⟩⟩
theorem di_scr {tg : Expr} {ns : List Int} (ha : DE X δ iter (.scr ns)) : DI X δ tg iter (ns.map Dt.int) := by
  refine imI (pi_list ha) fun σ H R ⟨S, O, E, k⟩ => ⟨S, O, E, fun v H1 e1 i1 => ?_⟩
  simp only [Is] at i1
  obtain ⟨a, rfl, q1⟩ := i1
  refine ⟨a, rfl, ⟨_, (hid_le _ _).sqL q1⟩, k _ H1 e1 fun n M' H' ex _ hn => ?_⟩
  have q2 : SqL X.K H' a (ns.map V.int) := (hid_le _ _).sqL (ex.sqL q1)
  refine ⟨fun z => ⟨_, q2, by rw [z]; simp⟩, fun d hd => ?_⟩
  rw [List.getElem?_map] at hd
  cases hn : ns[n]? with
  | none => rw [hn] at hd; cases hd
  | some m =>
    rw [hn] at hd
    simp only [Option.map_some, Option.some.injEq] at hd
    subst hd
    have hy : (ns.map V.int)[n]? = some (.int m) := by rw [List.getElem?_map, hn]; rfl
    exact ⟨⟨_, _, q2, hy⟩, fun w H'' ⟨e2, z⟩ => by
      subst e2
      have := z _ q2
      rw [hy] at this; cases this
      exact ⟨Ex.refl _, is_int⟩⟩
def rngD (lo : Int) (n : Nat) : List Dt := (List.range n).map fun (i : Nat) => .int (lo + (i : Int))
theorem rngD_len {lo : Int} {n : Nat} : (rngD lo n).length = n := by simp [rngD]
theorem rngD_get {lo : Int} {n i : Nat} {d : Dt} (h : (rngD lo n)[i]? = some d) : i < n ∧ d = .int (lo + (i : Int)) := by
  have hi := lt_of_get h
  rw [rngD_len] at hi
  refine ⟨hi, ?_⟩
  unfold rngD at h
  rw [List.getElem?_map, List.getElem?_range hi] at h
  simpa using h.symm
theorem itr_ok {K : PySem.W.Frag} {lo : Int} {n : Nat} {B : Hp} : ItOk K (Itr lo n) B (rngD lo n) := fun m M' H' ex _ hm =>
  ⟨fun z => by rw [rngD_len] at z; exact Nat.le_of_eq z.symm, fun d hd => by
    obtain ⟨h1, h2⟩ := rngD_get hd
    exact ⟨h1, fun x H'' ⟨e2, z⟩ => by
      subst e2; rw [h2, z]; exact ⟨Ex.refl _, is_int⟩⟩⟩
theorem di_rng1 {tg : Expr} {n : Int} (hg : Gl X "range") (hm : X.mg "range" = none) (ha : DE X δ a (.int n)) (h1 : -(2 ^ 62) ≤ n) (h2 : n < 2 ^ 62) (hs : starEach [a] X.env = [(false, eval a X.env)] := by rfl) (he : starEach (a :: []) X.env = (false, eval a X.env) :: starEach [] X.env := by rfl) :
    DI X δ tg (.Call (.Name "range" p) [a] [] pos) (rngD 0 n.toNat) :=
  imI (pi_range1 hg hm (da_cons ha da_nil he) hs) fun σ H R ⟨S, O, E, k⟩ => ⟨S, O, E, fun vs H1 e1 i1 => by
    obtain ⟨y, rfl, i⟩ := i1.one_inv
    simp only [Is] at i; subst i
    exact ⟨n, rfl, h1, h2, k _ H1 e1 itr_ok⟩⟩
theorem di_rng2 {tg : Expr} {m n : Int} (hg : Gl X "range") (hm : X.mg "range" = none) (ha : DE X δ a (.int m)) (hb : DE X δ b (.int n)) (h0 : -(2 ^ 62) ≤ m ∧ m < 2 ^ 62 ∧ -(2 ^ 62) ≤ n ∧ n < 2 ^ 62)
    (hs : starEach [a, b] X.env = [(false, eval a X.env), (false, eval b X.env)] := by rfl) (hs2 : starEach [b] X.env = [(false, eval b X.env)] := by rfl) (he : starEach (a :: [b]) X.env = (false, eval a X.env) :: starEach [b] X.env := by rfl) (he2 : starEach (b :: []) X.env = (false, eval b X.env) :: starEach [] X.env := by rfl) :
    DI X δ tg (.Call (.Name "range" p) [a, b] [] pos) (rngD m (n - m).toNat) :=
  imI (pi_range2 hg hm (da_cons ha (da_cons hb da_nil he2) he) hs hs2) fun σ H R ⟨S, O, E, k⟩ => ⟨S, O, E, fun vs H1 e1 i1 => by
    obtain ⟨y, z, rfl, i, j⟩ := i1.two_inv
    simp only [Is] at i j; subst i; subst j
    exact ⟨m, n, rfl, h0, k _ H1 e1 itr_ok⟩⟩

/-! ### for -/
theorem ds_for0 {tg : Expr} {body : List Stmt} {g : TG} (P : Plc X k) (hi : DI X δ tg iter items) (hg : PG X tg g) (hs0 : ∀ x, foldedSetIterable iter X.env x = pure x)
    (Inv : Nat → List Slot → Prop) (h0 : Inv 0 δ)
    (hs : ∀ n d δ', items[n]? = some d → Inv n δ' → ∃ δ'', (∀ S O H σ v, SEnv X.K S O H σ δ' → Is X.K (hid (O ++ S) H) d v → ∀ Q : L2.St → Hp → Prop, (∀ σ', SEnv X.K S O H σ' δ'' → Q σ' H) → g v σ H Q) ∧
      DSs X δ'' body { nx := Inv (n + 1), ct := Inv (n + 1), bk := D.nx, rt := D.rt })
    (hd : ∀ δ', Inv items.length δ' → D.nx δ') : DS X δ (.For tg iter body [] pos) D :=
  imS (ps_for P.own P.calm hi hg pss_any hs0) fun L σ H ⟨S, O, E, l⟩ => ⟨S, O, E, fun J H1 e1 it => by
    refine ⟨fun n m σ' H' => m = items.length - n ∧ n ≤ items.length ∧ ∃ O' δ', Step S O H1 O' H' ∧ SEnv X.K S O' H' σ' δ' ∧ Inv n δ', ⟨_, rfl, Nat.zero_le _, O, δ, Step.refl _ _ _, E.mono e1, h0⟩, ?_⟩
    rintro n m σ' H' ⟨rfl, hn, O', δ', s', E', i'⟩
    have ok := it n (O' ++ S) H' s'.ex E'.trk hn
    have l' := l.step (E.step e1)
    by_cases hlt : n < items.length
    · obtain ⟨go, yl⟩ := ok.2 items[n] (by simp [hlt])
      refine .inr ⟨go, fun σ2 H2 => ∃ O2 δ2, Step S O H1 O2 H2 ∧ SEnv X.K S O2 H2 σ2 δ2 ∧ Inv (n + 1) δ2, ?_, ?_⟩
      · rintro σ2 H2 ⟨O2, δ2, s2, E2, i2⟩
        exact ⟨items.length - (n + 1), by omega, rfl, hlt, O2, δ2, s2, E2, i2⟩
      · intro v H2 y
        obtain ⟨ex2, iv⟩ := yl v H2 y
        obtain ⟨δ'', hgo, hbody⟩ := hs n items[n] δ' (by simp [hlt]) i'
        have E2 := E'.mono ex2
        have s2 := s'.trans (E'.step ex2)
        refine hgo S O' H2 σ' v E2 iv _ fun σ'' E3 => ⟨_, hbody, S, O', E3, ⟨fun O4 σ4 H4 δ4 t4 E4 n4 => ⟨O4, δ4, s2.trans t4, E4, n4⟩, fun O4 σ4 H4 δ4 t4 E4 n4 => l'.nx O4 σ4 H4 δ4 (s2.trans t4) E4 n4, fun O4 σ4 H4 δ4 t4 E4 n4 => ⟨O4, δ4, s2.trans t4, E4, n4⟩, fun O4 σ4 H4 δ4 v r t4 E4 w n4 => l'.rt O4 σ4 H4 δ4 v r (s2.trans t4) E4 w n4⟩⟩
    · have e : n = items.length := by omega
      subst e
      exact .inl ⟨ok.1 rfl, l'.nx O' σ' H' δ' s' E' (hd δ' i')⟩⟩
theorem ds_for (i : Nat) {body : List Stmt} (P : Plc X k) (hN : X.N[i]? = some x) (hx : Loc X.env.scope x) (hi : DI X δ (.Name x p) iter items)
    (Inv : Nat → List Slot → Prop) (h0 : Inv 0 δ)
    (hs : ∀ n d δ', items[n]? = some d → Inv n δ' → DSs X (δ'.set i (.sh d)) body { nx := Inv (n + 1), ct := Inv (n + 1), bk := D.nx, rt := D.rt })
    (hd : ∀ δ', Inv items.length δ' → D.nx δ') (hs0 : ∀ x, foldedSetIterable iter X.env x = pure x := by intro _; rfl)
    (hf : X.fn x = true ∨ X.env.scope.names.lookup x = some .local := by first | exact .inl rfl | exact .inr rfl | assumption) : DS X δ (.For (.Name x p) iter body [] pos) D :=
  ds_for0 P hi (pg_name P.nd hN hx hf) hs0 Inv h0 (fun n d δ' hd i' => ⟨_, fun S O H σ v E iv Q q => q _ (E.setSh i iv), hs n d δ' hd i'⟩) hd
/-- for a, b in .. over pairs that are tuples -/
theorem ds_for2 (i j : Nat) {y : Str} {py pt : Pos} {body : List Stmt} {kk} (P : Plc X k) (hN : X.N[i]? = some x) (hx : Loc X.env.scope x) (hN2 : X.N[j]? = some y) (hy : Loc X.env.scope y)
    (hi : DI X δ (.Tuple [.Name x p, .Name y py] kk pt) iter items)
    (Inv : Nat → List Slot → Prop) (h0 : Inv 0 δ)
    (hs : ∀ n d δ', items[n]? = some d → Inv n δ' → ∃ d1 d2, d = .sq true [d1, d2] ∧ DSs X ((δ'.set i (.sh d1)).set j (.sh d2)) body { nx := Inv (n + 1), ct := Inv (n + 1), bk := D.nx, rt := D.rt })
    (hd : ∀ δ', Inv items.length δ' → D.nx δ') (hs0 : ∀ x, foldedSetIterable iter X.env x = pure x := by intro _; rfl)
    (hf : X.fn x = true ∨ X.env.scope.names.lookup x = some .local := by first | exact .inl rfl | exact .inr rfl | assumption)
    (hf2 : X.fn y = true ∨ X.env.scope.names.lookup y = some .local := by first | exact .inl rfl | exact .inr rfl | assumption) : DS X δ (.For (.Tuple [.Name x p, .Name y py] kk pt) iter body [] pos) D :=
  ds_for0 P hi (pg_tup P.calm (pgs_cons (pg_name P.nd hN hx hf) (pgs_cons (pg_name P.nd hN2 hy hf2) pgs_nil))) hs0 Inv h0 (fun n d δ' hd i' => by
    obtain ⟨d1, d2, rfl, h⟩ := hs n d δ' hd i'
    refine ⟨_, fun S O H σ v E iv Q q => ?_, h⟩
    simp only [Is] at iv
    obtain ⟨a, xs, rfl, q1, r1⟩ := iv
    obtain ⟨v1, v2, rfl, i1, i2⟩ := r1.two_inv
    exact ⟨a, _, rfl, (hid_le _ _).sqT q1, rfl, v1, _, rfl, v2, _, rfl, rfl, q _ ((E.setSh i i1).setSh j i2)⟩) hd
end
end Dat

set_option Elab.async false
set_option linter.all false
set_option maxRecDepth 100000
set_option maxHeartbeats 2000000
namespace Dat
open PySem L2

/-! ### list comprehensions -/
def wipeD (δ : List Slot) : List Nat → List Slot
  | [] => δ
  | v :: vs => (wipeD δ vs).set v .no
theorem SEnv.wipe {K : PySem.W.Frag} {S O : List Addr} {H : Hp} {σ : L2.St} {δ : List Slot} (E : SEnv K S O H σ δ) : ∀ vs : List Nat, SEnv K S O H (L2.wipe σ vs) (wipeD δ vs)
  | [] => E
  | v :: vs => (E.wipe vs).setNo v none
section
variable {K : PySem.W.Frag} {S O : List Addr} {H H' : Hp} {σ : L2.St} {δ : List Slot} {p : Addr} {o : HO}
/-- a list that is being made stands aside -/
theorem park_ex (ht : ∀ q, q ∈ O ++ S → H q ≠ none) (hp : H p = none) (e : Ex H H') : Ex (hid (O ++ S) H) (hid (O ++ p :: S) H') := fun a u q => by
  by_cases ha : a ∈ O ++ S
  · rw [hid_in ha] at q; cases q
  · rw [hid_out ha] at q
    have hap : a ≠ p := ne_of_none q hp
    rw [hid_out, e a u q]
    intro z
    rcases List.mem_append.mp z with z | z
    · exact ha (List.mem_append_left _ z)
    · rcases List.mem_cons.mp z with z | z
      · exact hap z
      · exact ha (List.mem_append_right _ z)
theorem SEnv.park (E : SEnv K S O H σ δ) (hp : H p = none) (e : Ex H H') (hp' : H' p ≠ none) : SEnv K (p :: S) O H' σ δ := by
  have hs := park_ex E.trk hp e
  have hf := E.fresh hp
  refine ⟨fun q hq => ?_, fun q hq z => ?_, E.len, fun i d h => ?_, fun i ds h => ?_, E.inj⟩
  · by_cases z : q = p
    · rw [z]; exact hp'
    · have : q ∈ O ++ S := by
        rcases List.mem_append.mp hq with y | y
        · exact List.mem_append_left _ y
        · exact List.mem_append_right _ ((List.mem_cons.mp y).resolve_left z)
      have h0 := E.trk q this
      rw [hold_of (M := []) e h0]; exact h0
  · rcases List.mem_cons.mp z with z | z
    · exact hf (List.mem_append_left _ (z ▸ hq))
    · exact E.dis q hq z
  · obtain ⟨v, h1, h2⟩ := E.sh i d h
    exact ⟨v, h1, h2.mono hs⟩
  · obtain ⟨q, xs, h1, h2, h3, h4⟩ := E.ow i ds h
    exact ⟨q, xs, h1, h2, e _ _ h3, h4.mono hs⟩
theorem SEnv.parked (E : SEnv K (p :: S) O H σ δ) : SEnv K (p :: S) O (upd H p o) σ δ := by
  have hh : hid (O ++ p :: S) (upd H p o) = hid (O ++ p :: S) H := hid_upd (List.mem_append_right _ List.mem_cons_self)
  refine ⟨fun q hq => ?_, E.dis, E.len, fun i d h => by rw [hh]; exact E.sh i d h, fun i ds h => ?_, E.inj⟩
  · by_cases e : q = p
    · rw [e, upd_same]; simp
    · rw [upd_ne e]; exact E.trk q hq
  · obtain ⟨q, xs, h1, h2, h3, h4⟩ := E.ow i ds h
    have : q ≠ p := fun z => E.dis q h2 (by rw [z]; exact List.mem_cons_self)
    exact ⟨q, xs, h1, h2, by rw [upd_ne this]; exact h3, by rw [hh]; exact h4⟩
theorem filterMap_take {α β : Type} (f : α → Option β) {l : List α} {n : Nat} {a : α} (h : l[n]? = some a) : (l.take (n + 1)).filterMap f = (l.take n).filterMap f ++ (f a).toList := by
  rw [List.take_add_one, h, List.filterMap_append]
  cases q : f a <;> simp [q]
end

section
variable {X : Cx} {δ : List Slot} {iter tg elt : Expr} {ifs : List Expr} {scope : Scope} {own : List (Str × Nat)} {g : TG} {items : List Dt} {pos : Pos} {k : Nat}
/-- the block of a comprehension -/
abbrev Blk (X : Cx) (scope : Scope) (s : Shared) (H : Hp) (C : Addr) (cl : List (Str × Addr)) (fp : List Addr) : Cx := X.blk s H scope (compEnvC scope cl C X.env) fp
def tEB (X : Cx) (scope : Scope) (elt : Expr) : TE := fun σ H Q => ∃ t, (∀ s H C cl fp, PE (Blk X scope s H C cl fp) elt t) ∧ t σ H Q
def tTB (X : Cx) (scope : Scope) (ifs : List Expr) : TT := fun σ H Q => ∃ t, (∀ s H C cl fp, PTs (Blk X scope s H C cl fp) ifs t) ∧ t σ H Q
/-- what the block does at an item: d the item, o what is put into the list -/
def Turns (X : Cx) (δ : List Slot) (scope : Scope) (g : TG) (vs : List Nat) (ifs : List Expr) (elt : Expr) (d : Dt) (o : Option Dt) : Prop :=
  ∃ δ'', (∀ S O H σ v, SEnv X.K S O H (L2.wipe σ vs) (wipeD δ vs) → Is X.K (hid (O ++ S) H) d v → ∀ Q : L2.St → Hp → Prop, (∀ σ', SEnv X.K S O H σ' δ'' → L2.wipe σ' vs = L2.wipe σ vs → Q σ' H) → g v (L2.wipe σ vs) H Q) ∧
    (∀ s H C cl fp, PTs (Blk X scope s H C cl fp) ifs (tDT X.K δ'' o.isSome)) ∧ ∀ r, o = some r → ∀ s H C cl fp, DE (Blk X scope s H C cl fp) δ'' elt r
theorem lc_of (os : List (Option Dt)) (hl : os.length = items.length) (hz : items.length ≤ sizeLine) (hs : ∀ (n : Nat) d o, items[n]? = some d → os[n]? = some o → Turns X δ scope g (own.map (·.2)) ifs elt d o)
    (σ : L2.St) (H : Hp) (Q : VK) (h : tF X.K δ (os.filterMap id) σ H Q) : tLc (tI X.K δ items) g (tTB X scope ifs) (tEB X scope elt) (own.map (·.2)) σ H Q := by
  obtain ⟨S, O, E, q⟩ := h
  refine ⟨S, O, E, fun J H1 e1 it D hD => ?_⟩
  have E1 := E.mono e1
  refine ⟨fun n m H' => m = items.length - n ∧ n ≤ items.length ∧ Ex H1 H' ∧ SEnv X.K (D :: S) O H' (L2.wipe σ (own.map (·.2))) (wipeD δ (own.map (·.2))) ∧
    ∃ acc, H' D = some (.lst acc) ∧ acc.length ≤ n ∧ IsAll X.K (hid (O ++ D :: S) H') ((os.take n).filterMap id) acc, ⟨_, rfl, Nat.zero_le _, Ex.new hD, ?_, [], upd_same, Nat.le_refl _, by simp [IsAll]⟩, ?_⟩
  · exact (E1.park hD (Ex.new hD) (by rw [upd_same]; simp)).wipe _
  · rintro n m H' ⟨rfl, hn, ex, E', acc, ha, hal, hi⟩
    have ok := it n (O ++ D :: S) H' (park_ex E1.trk hD ex) E'.trk hn
    by_cases hlt : n < items.length
    · have hd : items[n]? = some items[n] := by simp [hlt]
      have ho : os[n]? = some (os[n]'(by omega)) := by simp [hl, hlt]
      generalize items[n] = d at hd
      generalize os[n]'(by omega) = o at ho
      obtain ⟨go, yl⟩ := ok.2 d hd
      obtain ⟨δ'', hgo, htest, helt⟩ := hs n d o hd ho
      refine .inr ⟨go, fun H2 => n + 1 ≤ items.length ∧ Ex H1 H2 ∧ SEnv X.K (D :: S) O H2 (L2.wipe σ (own.map (·.2))) (wipeD δ (own.map (·.2))) ∧
        ∃ acc, H2 D = some (.lst acc) ∧ acc.length ≤ n + 1 ∧ IsAll X.K (hid (O ++ D :: S) H2) ((os.take (n + 1)).filterMap id) acc, fun H2 z => ⟨_, by omega, rfl, z⟩, fun v H2 y => ?_⟩
      obtain ⟨ex2, iv⟩ := yl v H2 y
      have E2 := E'.mono ex2
      refine hgo (D :: S) O H2 σ v E2 iv _ fun σ' E3 hw => ⟨hw, _, htest, D :: S, O, E3, fun H3 e3 => ?_⟩
      have e23 := ex2.trans e3
      have i3 := hi.mono (hid_ex (M := O ++ D :: S) e23)
      have Ew := E2.mono e3
      cases o with
      | none =>
        simp only [Option.isSome_none, Bool.false_eq_true, if_false]
        refine ⟨hlt, ex.trans e23, Ew, acc, e23 _ _ ha, by omega, ?_⟩
        rw [filterMap_take id ho]
        simpa using i3
      | some r =>
        simp only [Option.isSome_some, if_true]
        refine ⟨tD X.K δ'' r, helt r rfl, D :: S, O, E3.mono e3, fun w H4 e4 i4 => ⟨acc, e4 _ _ (e23 _ _ ha), by omega, hlt, fun a u z => ?_, (Ew.mono e4).parked, _, upd_same, by simp; omega, ?_⟩⟩
        · rw [upd_ne (ne_of_none z hD)]
          exact e4 _ _ (e23 _ _ (ex _ _ z))
        · rw [filterMap_take id ho, hid_upd (List.mem_append_right _ List.mem_cons_self)]
          exact (i3.mono (hid_ex e4)).append (.one i4)
    · have e : n = items.length := by omega
      subst e
      refine .inl ⟨ok.1 rfl, q D acc H' (e1.trans ex) (e1.free hD) ha ?_⟩
      rw [List.take_of_length_le (by omega)] at hi
      refine hi.mono (hid_sub H' fun z hz => ?_)
      rcases List.mem_cons.mp hz with y | y
      · rw [y]; exact List.mem_append_right _ List.mem_cons_self
      · rcases List.mem_append.mp y with y | y
        · exact List.mem_append_left _ y
        · exact List.mem_append_right _ (List.mem_cons_of_mem _ y)
theorem tEB_ok {s : Shared} {H : Hp} {C : Addr} {cl : List (Str × Addr)} {fp : List Addr} : PE (Blk X scope s H C cl fp) elt (tEB X scope elt) := ⟨fun pins s1 σ H1 Q I ⟨t, h, q⟩ => (h s H C cl fp).run pins s1 σ H1 Q I q⟩
theorem tTB_ok {s : Shared} {H : Hp} {C : Addr} {cl : List (Str × Addr)} {fp : List Addr} : PTs (Blk X scope s H C cl fp) ifs (tTB X scope ifs) := ⟨fun pins s1 σ H1 Q I ⟨t, h, q⟩ => (h s H C cl fp).run pins s1 σ H1 Q I q⟩
theorem df_lc0 (P : Plc X k) (hi : DI X δ tg iter items) (ok : BlkOk X.N X.env.scope scope own) (hg : ∀ s H C cl fp, PG (Blk X scope s H C cl fp) tg g) (hs0 : ∀ x, foldedSetIterable iter X.env x = pure x)
    (os : List (Option Dt)) (hl : os.length = items.length) (hz : items.length ≤ sizeLine) (hs : ∀ (n : Nat) d o, items[n]? = some d → os[n]? = some o → Turns X δ scope g (own.map (·.2)) ifs elt d o) :
    DF X δ (.ListComp elt [⟨tg, iter, ifs, 0⟩] scope pos) (os.filterMap id) :=
  imE (pe_lc P.calm P.nd hi ok hg (fun _ _ _ _ _ => tTB_ok) (fun _ _ _ _ _ => tEB_ok) hs0) (lc_of os hl hz hs)
theorem ds_lc0 {y : Str} {py spos : Pos} {i : Nat} {D : DEnds} (P : Plc X k) (hy : X.N[i]? = some y) (hyl : X.env.scope.names.lookup y = some .local) (hsw : swapsWith (.ListComp elt [⟨tg, iter, ifs, 0⟩] scope pos) (some (.Name y py)) spos.line X.env = pure true)
    (hi : DI X δ tg iter items) (ok : BlkOk X.N X.env.scope scope own) (hg : ∀ s H C cl fp, PG (Blk X scope s H C cl fp) tg g) (hs0 : ∀ x, foldedSetIterable iter X.env x = pure x)
    (os : List (Option Dt)) (hl : os.length = items.length) (hz : items.length ≤ sizeLine) (hs : ∀ (n : Nat) d o, items[n]? = some d → os[n]? = some o → Turns X δ scope g (own.map (·.2)) ifs elt d o) (h : D.nx (δ.set i (.ow (os.filterMap id)))) :
    DS X δ (.Assign [.Name y py] (.ListComp elt [⟨tg, iter, ifs, 0⟩] scope pos) spos) D :=
  imS (ps_setLc P.calm P.nd hy hyl hsw hi ok hg (fun _ _ _ _ _ => tTB_ok) (fun _ _ _ _ _ => tEB_ok) hs0) fun L σ H q => lc_of os hl hz hs σ H _ (setF q h)
/-! one name, no test; one name, a test; two names -/
theorem pts_nilD {X : Cx} {δ : List Slot} : PTs X [] (tDT X.K δ true) := ⟨fun pins s σ H Q I ⟨S, O, E, q⟩ => pts_nil.run pins s σ H Q I (q H (Ex.refl H))⟩
theorem set_wipe {σ : L2.St} {i : Nat} {v : V} : L2.wipe ((L2.wipe σ [i]).set i (some v)) [i] = L2.wipe σ [i] := by
  simp [L2.wipe, List.set_set]
theorem turns1 {x : Str} {i : Nat} {d r : Dt} {fl : List Expr} {o : Option Dt} (ht : ∀ s H C cl fp, PTs (Blk X scope s H C cl fp) fl (tDT X.K (δ.set i (.sh d)) o.isSome)) (he : ∀ r, o = some r → ∀ s H C cl fp, DE (Blk X scope s H C cl fp) (δ.set i (.sh d)) elt r) :
    Turns X δ scope (gName i) ([(x, i)].map (·.2)) fl elt d o :=
  ⟨δ.set i (.sh d), fun S O H σ v E iv Q q => q _ (by
    have := E.setSh i iv
    simpa [wipeD, List.set_set] using this) set_wipe, ht, he⟩
theorem map_some_get {α β : Type} {l : List α} {n : Nat} {o : Option α} (h : (l.map some)[n]? = some o) : ∃ a, l[n]? = some a ∧ o = some a := by
  rw [List.getElem?_map] at h
  cases q : l[n]? with
  | none => rw [q] at h; cases h
  | some a => rw [q] at h; simp at h; exact ⟨a, rfl, h.symm⟩
theorem filterMap_somes {α : Type} (l : List α) : (l.map some).filterMap id = l := by
  induction l with
  | nil => rfl
  | cons a l ih => simp [ih]
variable {x : Str} {i : Nat} {p : Pos}
theorem df_lc (i : Nat) (P : Plc X k) (hi : DI X δ (.Name x p) iter items) (ok : BlkOk X.N X.env.scope scope [(x, i)]) (hg : ∀ s H C cl fp, PG (Blk X scope s H C cl fp) (.Name x p) (gName i)) (hz : items.length ≤ sizeLine)
    (rs : List Dt) (hl : rs.length = items.length) (hs : ∀ (n : Nat) d r, items[n]? = some d → rs[n]? = some r → ∀ s H C cl fp, DE (Blk X scope s H C cl fp) (δ.set i (.sh d)) elt r) (hs0 : ∀ x, foldedSetIterable iter X.env x = pure x := by intro _; rfl) :
    DF X δ (.ListComp elt [⟨.Name x p, iter, [], 0⟩] scope pos) rs := by
  have z := df_lc0 (pos := pos) (ifs := []) P hi ok hg hs0 (rs.map some) (by rw [List.length_map, hl]) hz (fun n d o h1 h2 => by
    obtain ⟨r, h3, rfl⟩ := map_some_get (β := Unit) h2
    exact turns1 (r := r) (fun _ _ _ _ _ => pts_nilD) fun r' e => by cases e; exact hs n d _ h1 h3)
  rwa [filterMap_somes] at z
theorem ds_lc (j i : Nat) {y : Str} {py spos : Pos} {D : DEnds} (P : Plc X k) (hy : X.N[j]? = some y) (hyl : X.env.scope.names.lookup y = some .local) (hsw : swapsWith (.ListComp elt [⟨.Name x p, iter, [], 0⟩] scope pos) (some (.Name y py)) spos.line X.env = pure true)
    (hi : DI X δ (.Name x p) iter items) (ok : BlkOk X.N X.env.scope scope [(x, i)]) (hg : ∀ s H C cl fp, PG (Blk X scope s H C cl fp) (.Name x p) (gName i)) (hz : items.length ≤ sizeLine)
    (rs : List Dt) (hl : rs.length = items.length) (hs : ∀ (n : Nat) d r, items[n]? = some d → rs[n]? = some r → ∀ s H C cl fp, DE (Blk X scope s H C cl fp) (δ.set i (.sh d)) elt r) (h : D.nx (δ.set j (.ow rs))) (hs0 : ∀ x, foldedSetIterable iter X.env x = pure x := by intro _; rfl) :
    DS X δ (.Assign [.Name y py] (.ListComp elt [⟨.Name x p, iter, [], 0⟩] scope pos) spos) D := by
  refine ds_lc0 (ifs := []) P hy hyl hsw hi ok hg hs0 (rs.map some) (by rw [List.length_map, hl]) hz (fun n d o h1 h2 => ?_) (by rw [filterMap_somes]; exact h)
  obtain ⟨r, h3, rfl⟩ := map_some_get (β := Unit) h2
  exact turns1 (r := r) (fun _ _ _ _ _ => pts_nilD) fun r' e => by cases e; exact hs n d _ h1 h3
theorem df_lcIf (i : Nat) {t : Expr} (P : Plc X k) (hi : DI X δ (.Name x p) iter items) (ok : BlkOk X.N X.env.scope scope [(x, i)]) (hg : ∀ s H C cl fp, PG (Blk X scope s H C cl fp) (.Name x p) (gName i)) (hz : items.length ≤ sizeLine)
    (os : List (Option Dt)) (hl : os.length = items.length) (hs : ∀ (n : Nat) d o, items[n]? = some d → os[n]? = some o → (∀ s H C cl fp, DT (Blk X scope s H C cl fp) (δ.set i (.sh d)) t o.isSome) ∧ ∀ r, o = some r → ∀ s H C cl fp, DE (Blk X scope s H C cl fp) (δ.set i (.sh d)) elt r) (hs0 : ∀ x, foldedSetIterable iter X.env x = pure x := by intro _; rfl) :
    DF X δ (.ListComp elt [⟨.Name x p, iter, [t], 0⟩] scope pos) (os.filterMap id) :=
  df_lc0 P hi ok hg hs0 os hl hz fun n d o h1 h2 => turns1 (r := .non) (fun s H C cl fp => pts_one ((hs n d o h1 h2).1 s H C cl fp)) (hs n d o h1 h2).2
theorem ds_lcIf (j i : Nat) {t : Expr} {y : Str} {py spos : Pos} {D : DEnds} (P : Plc X k) (hy : X.N[j]? = some y) (hyl : X.env.scope.names.lookup y = some .local) (hsw : swapsWith (.ListComp elt [⟨.Name x p, iter, [t], 0⟩] scope pos) (some (.Name y py)) spos.line X.env = pure true)
    (hi : DI X δ (.Name x p) iter items) (ok : BlkOk X.N X.env.scope scope [(x, i)]) (hg : ∀ s H C cl fp, PG (Blk X scope s H C cl fp) (.Name x p) (gName i)) (hz : items.length ≤ sizeLine)
    (os : List (Option Dt)) (hl : os.length = items.length) (hs : ∀ (n : Nat) d o, items[n]? = some d → os[n]? = some o → (∀ s H C cl fp, DT (Blk X scope s H C cl fp) (δ.set i (.sh d)) t o.isSome) ∧ ∀ r, o = some r → ∀ s H C cl fp, DE (Blk X scope s H C cl fp) (δ.set i (.sh d)) elt r) (h : D.nx (δ.set j (.ow (os.filterMap id)))) (hs0 : ∀ x, foldedSetIterable iter X.env x = pure x := by intro _; rfl) :
    DS X δ (.Assign [.Name y py] (.ListComp elt [⟨.Name x p, iter, [t], 0⟩] scope pos) spos) D :=
  ds_lc0 P hy hyl hsw hi ok hg hs0 os hl hz (fun n d o h1 h2 => turns1 (r := .non) (fun s H C cl fp => pts_one ((hs n d o h1 h2).1 s H C cl fp)) (hs n d o h1 h2).2) h
/-- the place within a block -/
theorem Plc.blk (P : Plc X k) {s : Shared} {H : Hp} {C : Addr} {cl : List (Str × Addr)} {fp : List Addr} : Plc (Blk X scope s H C cl fp) k := ⟨P.room, P.calm, P.gds, PassesOwn.never, P.nd, P.dig⟩
end
end Dat

set_option Elab.async false
set_option linter.all false
set_option maxRecDepth 100000
set_option maxHeartbeats 2000000
namespace Dat
open PySem L2
open PyProof.Rows (IntsAre AllBare)

/-! ### a def by its body's data -/
abbrev BX (P : Program) (w : World) (K : PySem.W.Frag) (mg : Str → Option Value) (base : Heap) (N : List Str) (qual : Str) (st : Stmt) (f : Addr) (cdv : Value) (A : Around) (outer : List Env) (s : Shared) (H : Hp) (E : XK) : Cx :=
  (cxOf CX0 P w K mg base N qual (defScope st) f cdv A outer s H E).nox
def startD (N : List Str) (ds : List Dt) : List Slot := ds.map .sh ++ List.replicate (N.length - ds.length) .no
def okR (r' r : Ret) : Prop := r' = r ∨ r = .sh r'.dt
def fin (r : Ret) : DEnds := { nx := fun _ => r = .sh .non, rt := fun r' => okR r' r }
section
variable {P : Program} {w : World} {K : PySem.W.Frag} {mg : Str → Option Value} {base : Heap} {k : Nat} {f : Addr} {fd : FuncData} {ps N : List Str} {qual x : Str} {st : Stmt} {R : List Dt → Ret → Prop}
theorem start_env {S : List Addr} {H : Hp} {ds : List Dt} {vs : List V} (ht : ∀ p, p ∈ S → H p ≠ none) (h : IsAll K (hid S H) ds vs) : SEnv K S [] H (L2.start N vs) (startD N ds) where
  trk := ht
  dis p hp := by cases hp
  len := by simp [L2.start, startD, h.length]
  sh i d q := by
    unfold startD at q
    by_cases hi : i < ds.length
    · rw [List.getElem?_append_left (by simpa using hi), List.getElem?_map] at q
      cases e : ds[i]? with
      | none => rw [e] at q; cases q
      | some c =>
        rw [e] at q
        simp only [Option.map_some, Option.some.injEq, Slot.sh.injEq] at q
        subst q
        obtain ⟨v, h1, h2⟩ := h.get e
        refine ⟨v, ?_, h2⟩
        unfold L2.start
        rw [List.getElem?_append_left (by simpa [h.length] using hi), List.getElem?_map, h1]
        rfl
    · rw [List.getElem?_append_right (by simpa using Nat.le_of_not_lt hi), List.getElem?_replicate] at q
      split at q <;> cases q
  ow i c q := by
    unfold startD at q
    by_cases hi : i < ds.length
    · rw [List.getElem?_append_left (by simpa using hi), List.getElem?_map] at q
      cases e : ds[i]? with
      | none => rw [e] at q; cases q
      | some c => rw [e] at q; cases q
    · rw [List.getElem?_append_right (by simpa using Nat.le_of_not_lt hi), List.getElem?_replicate] at q
      split at q <;> cases q
  inj i j c es p q := by
    exfalso
    unfold startD at q
    by_cases hi : i < ds.length
    · rw [List.getElem?_append_left (by simpa using hi), List.getElem?_map] at q
      cases e : ds[i]? with
      | none => rw [e] at q; cases q
      | some c => rw [e] at q; cases q
    · rw [List.getElem?_append_right (by simpa using Nat.le_of_not_lt hi), List.getElem?_replicate] at q
      split at q <;> cases q
theorem step_ex {S O : List Addr} {H H' : Hp} (s : Step S [] H O H') : Ex H H' := fun a o q => by
  by_cases ha : a ∈ S
  · rw [s.hold a ha]; exact q
  · exact hid_le _ _ _ _ (s.ex a o (by rw [hid_out (by simpa using ha)]; exact q))
theorem ret_ok {S O : List Addr} {H H' : Hp} {r' r : Ret} {v : V} {σ : L2.St} {δ : List Slot} (s : Step S [] H O H') (E : SEnv K S O H' σ δ) (h : RetW K S O H' r' v) (e : okR r' r) : RetIs K S H H' r v := by
  have sub : Ex (hid (O ++ S) H') (hid S H') := hid_sub H' fun p hp => List.mem_append_right _ hp
  have new : ∀ p, p ∈ O → H p = none := fun p hp => by
    have h1 : hid (O ++ S) H' p = none := hid_in (List.mem_append_left _ hp)
    have h2 := s.ex.free h1
    rwa [hid_out (by simpa using E.dis p hp)] at h2
  rcases e with e | e
  · subst e
    cases r' with
    | sh d => exact Is.mono sub h
    | ow ds =>
      obtain ⟨p, xs, e, h1, h2, h3⟩ := h
      refine ⟨p, xs, e, new p h1, h2, h3.mono (hid_sub H' fun q hq => ?_)⟩
      rcases List.mem_cons.mp hq with z | z
      · rw [z]; exact List.mem_append_left _ h1
      · exact List.mem_append_right _ z
  · subst e
    cases r' with
    | sh d => exact Is.mono sub h
    | ow ds =>
      obtain ⟨p, xs, e, h1, h2, h3⟩ := h
      subst e
      simp only [RetIs, Ret.dt, Is]
      refine ⟨p, xs, rfl, ?_, h3.mono sub⟩
      show hid S H' p = _
      rw [hid_out (E.dis p h1)]; exact h2
theorem fng_data {dvs : List V} {kws : List (Str × V)} (F : FunD K x qual (defArgs st) (defBody st) (defScope st) dvs kws f fd) (S : FnScope N ps (defScope st)) (hlen : ∀ ds r, R ds r → ds.length = ps.length) (hdig : base.NoDigits)
    (hb : ∀ (cdv : Value) (A : Around) (outer : List Env) (s : Shared) (H : Hp) (E : XK), Plc (BX P w K mg base N qual st f cdv A outer s H E) k → ∀ ds r, R ds r → DSs (BX P w K mg base N qual st f cdv A outer s H E) (startD N ds) (defBody st) (fin r)) :
    FnG P w K mg base CX0 (k + 1) f fd ps (spD K R) := by
  refine fng_of F S (fun vs H Q E ⟨S', ds, r, _, h1, h2, _⟩ => by rw [h1.length]; exact hlen _ _ h2) fun cdv A outer s H vs Q E hg hr ⟨S', ds, r, h0, h1, h2, q⟩ => ?_
  have pl : Plc (BX P w K mg base N qual st f cdv A outer s H E) k := ⟨hr, rfl, hg, PassesOwn.never, S.nd, hdig⟩
  refine ⟨_, PSs.nox (hb cdv A outer s H E pl ds r h2), S', [], start_env h0 h1, ⟨fun O' σ' H' δ' s' E' z => ?_, fun O' σ' H' δ' s' E' z => z.elim, fun O' σ' H' δ' s' E' z => z.elim, fun O' σ' H' δ' v r' s' E' w' z => ?_⟩⟩
  · subst z
    exact q .non H' (step_ex s') (by simp [RetIs, Is])
  · exact q v H' (step_ex s') (ret_ok s' E' w' z)
end

/-! ### the end of a law's row -/
theorem law_callG {P : Program} {w : World} {K : PySem.W.Frag} {mg mb : Str → Option Value} {k : Nat} {fa a : Addr} {fd : FuncData} {x : Str}
    {R : List Dt → Ret → Prop} {s1 : Shared} {vs : List Value} {ns : List Int}
    (KX : K.In s1.heap) (gl : s1.heap.Ns mainGlobals mg) (bl : s1.heap.Ns builtinsNs mb) (bb : ∀ y : Str, y ≠ "__name__" → mb y = bootBuiltins y)
    (nl : s1.heap.NoLimit) (nd : s1.heap.NoDigits) (gn : s1.gens = #[]) (ob : s1.heap.get? a = some { cls := .type "list", data := .seq vs.toArray })
    (ia : IntsAre vs ns) (hl : ns.length ≤ sizeLine) (hr : Room k callerA)
    (F : ∀ base : Heap, K.In base → base.Ns mainGlobals mg → base.NoDigits → FnG P w K mg base CX0 k fa fd [x] (spD K R))
    (hbind : ∀ (s : Shared) (u : Value), BindsTo s fd ⟨[u], []⟩ [(x, u)]) (hR : R [.scr ns] (.sh (.bl true))) :
    codeAny (model P w) callerA (.call (.ref fa) ⟨[.ref a], []⟩) (fun r s' => r = .ok (.ret (.bool true)) ∧ OldK s1.heap s'.heap ∧ s'.os = s1.os ∧ AllBare s'.gens) s1 := by
  have rv := vals_ints ia
  have many := ia.length
  -- the walk, from whatever tells of the script alone
  have walk : ∀ H : Hp, (∀ b, H b = none ∨ ∃ o xs, H b = some (.frz o (.lst xs))) → SqL K H a (ns.map V.int) → HOk P w H s1.heap →
      (∀ b, H b ≠ none → b = a ∧ K.lookup a = none) →
      codeAny (model P w) callerA (.call (.ref fa) ⟨[.ref a], []⟩) (fun r s' => r = .ok (.ret (.bool true)) ∧ OldK s1.heap s'.heap ∧ s'.os = s1.os ∧ AllBare s'.gens) s1 := by
    intro H only sq hok mine
    let g := hidT s1.heap H
    have inG : ∀ (b : Addr) (o : Obj), s1.heap.get? b = some o → H b = none → g.get? b = some o := fun b o e n => hidT_get e n
    have free : ∀ (b : Addr) (o : Obj), s1.heap.get? b = some o → (b = a → o ≠ { cls := .type "list", data := .seq vs.toArray }) → H b = none := by
      intro b o e ne
      by_cases hb : H b = none
      · exact hb
      · obtain ⟨z, _⟩ := mine b hb
        refine absurd ?_ (ne z)
        rw [z, ob] at e
        exact (Option.some.inj e).symm
    have ns' : ∀ {b : Addr} {m : Str → Option Value}, s1.heap.Ns b m → g.Ns b m := by
      rintro b m ⟨o, es, ep, e, d, rest⟩
      refine ⟨o, es, ep, inG b o e (free b o e fun _ z => ?_), d, rest⟩
      rw [z] at d
      cases d
    have kG : K.In g := by
      intro b o e
      apply inG b o (KX b o e)
      by_cases hb : H b = none
      · exact hb
      · obtain ⟨z, z2⟩ := mine b hb
        rw [z, z2] at e
        cases e
    obtain ⟨mc, c1, c2⟩ := nl
    obtain ⟨md, d1, d2⟩ := nd
    have md' : Mod K mg g := { kin := kG, glob := ns' gl, blt := ⟨mb, ns' bl, bb⟩, nolimit := ⟨mc, ns' c1, c2⟩ }
    have e0 : Env0 P w K mg g callerA [] s1 H :=
      { frames := rfl, mod := md', bs := fun b o e => of_hidT e, bsz := Nat.le_of_eq (hidT_size _ _), funs := trivial, frf := (fun b hb => by cases hb), hok := hok, bare := .of_eq gn }
    have sp : spD K R [.ref a] H (fun v _ => v = .bl true) (fun _ _ _ => False) := by
      refine ⟨[], [.scr ns], .sh (.bl true), (fun p hp => nomatch hp), ?_, hR, fun v H' _ i => ?_⟩
      · rw [hid_nil]
        apply IsAll.one
        simp only [Is]
        exact ⟨a, rfl, sq⟩
      · simpa [RetIs, Is] using i
    apply codeAny_mono ((F g kG (ns' gl) ⟨md, ns' d1, d2⟩).go callerA [] s1 H ⟨[.ref a], []⟩ [.ref a] [.ref a] _ _ rfl hr e0 (hbind s1 (.ref a)) (.cons rfl .nil) sp)
    intro r s' z
    match r with
    | .error e => exact False.elim z
    | .ok .next => exact False.elim z
    | .ok .brk => exact False.elim z
    | .ok .cont => exact False.elim z
    | .ok (.ret u) =>
      obtain ⟨v, H', os, bare, un, hok', rl, q⟩ := z
      obtain rfl : v = V.bl true := q
      obtain rfl : u = Value.bool true := rl
      refine ⟨rfl, OldK.of_keep ?_, os, bare⟩
      intro b o e
      rcases only b with n | ⟨o', xs, n⟩
      · exact un.keep b o e n (List.not_mem_nil) (List.not_mem_nil)
      · have q1 := (hok b _ n).1
        have q2 := (hok' b _ (un.frzs b o' _ n)).1
        rw [q1] at e
        rw [q2, e]
  cases hk : K.lookup a with
  | some o =>
    have e := KX a o hk
    rw [ob] at e
    obtain rfl := Option.some.inj e
    refine walk (fun _ => none) (fun _ => Or.inl rfl) (Or.inr ⟨_, _, _, hk, rfl, rfl, rfl, ?_, ?_⟩) (fun b u z => by cases z) fun b z => absurd rfl z
    · rw [List.size_toArray, many]; exact hl
    · simpa using rv
  | none =>
    let o : Obj := { cls := .type "list", data := .seq vs.toArray }
    have at_a : (fun b => if b = a then some (HO.frz o (.lst (ns.map V.int))) else none) a = some (HO.frz o (.lst (ns.map V.int))) := if_pos rfl
    refine walk (fun b => if b = a then some (.frz o (.lst (ns.map V.int))) else none) (fun b => ?_) (Or.inl (Or.inr ⟨o, at_a⟩)) (fun b u z => ?_) fun b z => ?_
    · by_cases hb : b = a
      · exact Or.inr ⟨o, _, if_pos hb⟩
      · exact Or.inl (if_neg hb)
    · by_cases hb : b = a
      · subst hb
        dsimp only at z
        rw [if_pos rfl] at z
        cases z
        exact ⟨ob, by rw [List.length_map]; exact hl, vs, _, rv, ob⟩
      · dsimp only at z
        rw [if_neg hb] at z
        cases z
    · by_cases hb : b = a
      · exact ⟨hb, hk⟩
      · exact absurd (if_neg hb) z

/-! ### the head's facts: the library's, and names that hold built-in functions -/
abbrev AlX : Type := He.AlD × Bool
def bltB (bs : List (Str × String)) (K : PySem.W.Frag) : Bool := bs.all fun b => decide (PySem.W.nsIn K mainGlobals b.1 = some (some (.builtin b.2)))
def obsX (n : Nat) (fa : List He.Fa) (fn : List He.DefD) (bs : List (Str × String)) (g : Addr → Option Obj) : AlX := (He.obsD fa fn (He.frG g (He.asD g n)), bltB bs (He.frG g (He.asD g n)))
def SaysX (fa : List He.Fa) (fn : List He.DefD) (bs : List (Str × String)) (K : PySem.W.Frag) : Prop := He.SaysD fa fn K ∧ bltB bs K = true
def hookX (n : Nat) (fa : List He.Fa) (fn : List He.DefD) (bs : List (Str × String)) : PySem.W.Hook where
  α := AlX
  obs := fun s => obsX n fa fn bs s.heap.get?
  val := fun _ => (He.valD fn, true)
  says := fun _ h => ∃ K : PySem.W.Frag, K.In h ∧ SaysX fa fn bs K
  of := fun _ _ e => ⟨_, He.frG_in, congrArg Prod.fst e, congrArg Prod.snd e⟩
  keeps := fun _ _ _ ⟨K, hK, c⟩ k => ⟨K, PySem.W.Frag.In.keeps hK k, c⟩
theorem obsX_eq {n : Nat} {fa : List He.Fa} {fn : List He.DefD} {bs : List (Str × String)} {g : Addr → Option Obj} {s : Shared} (h : ∀ a, g a = s.heap.get? a) : obsX n fa fn bs g = (hookX n fa fn bs).obs s := by
  have e : g = s.heap.get? := funext h
  rw [e] <;> rfl
theorem SaysX.blt {fa : List He.Fa} {fn : List He.DefD} {bs : List (Str × String)} {K : PySem.W.Frag} {h : Heap} {mg : Str → Option Value} (c : SaysX fa fn bs K) (X : K.In h) (G : h.Ns mainGlobals mg) (i : Nat) {b : Str × String} (hb : bs[i]? = some b := by rfl) : mg b.1 = some (.builtin b.2) :=
  PySem.W.mg_of X G (of_decide_eq_true (List.all_eq_true.mp c.2 b (List.mem_of_getElem? hb)))
/-- the row's end, from the law's promise -/
theorem walk_ofX {l : PySem.W.OpenLaw} {n k : Nat} {q : Program} {loose : List Str} {XP : (Str → Option Value) → Heap → Prop} {YP : World → Heap → Prop} {d : DefRec} {x : Str}
    (hn : l.most = some n) (hn2 : n ≤ sizeLine) (hdf : d.params.defaults = []) (hr : Room k callerA)
    (F : ∀ (w : World) (mg : Str → Option Value) (fa : Addr) (h : Heap), YP w h → h.Ns mainGlobals mg → mg d.name = some (.ref fa) →
      ∃ (K : PySem.W.Frag) (fd : FuncData) (R : List Dt → Ret → Prop), K.In h ∧ (∀ (s : Shared) (u : Value), BindsTo s fd ⟨[u], []⟩ [(x, u)]) ∧
        (∀ ns : List Int, ns.length ≤ n → (∀ i, i ∈ ns → Builtin.Int.intBits i ≤ 1048576) → R [.scr ns] (.sh (.bl true))) ∧
        ∀ base : Heap, K.In base → base.Ns mainGlobals mg → base.NoDigits → FnG l.prog w K mg base CX0 k fa fd [x] (spD K R)) :
    PySem.W.WalkO q loose XP YP l.row.toRowW d [] (fun f vs => PySem.call f vs) := by
  apply Att.attach_callB hn hdf
  intro w s0 s1 mg mb fa o pm cd doc a vs ns G Y ho hd hcd hmg hobj hints hlen hbits hg
  obtain ⟨K, fd, R, KX, hb, hR, hF⟩ := F w mg fa _ Y G.T.g hmg
  exact law_callG KX G.T.g G.T.b G.T.builtins G.T.nolimit G.T.nodigits hg hobj hints (Nat.le_trans hlen hn2) hr hF hb (hR ns hlen hbits)
end Dat

set_option Elab.async false
set_option linter.all false
set_option maxRecDepth 100000
set_option maxHeartbeats 2000000
namespace Dat
open PySem L2

/-! ### the forms one uses -/
section
variable {X : Cx} {δ : List Slot} {e e2 a b c iter : Expr} {es : List Expr} {d da db : Dt} {ds items : List Dt} {pos p : Pos} {x : Str} {st : Stmt} {rest sts : List Stmt} {D : DEnds} {k i : Nat}
theorem dv (i : Nat) (hN : X.N[i]? = some x) (hs : δ[i]? = some (.sh d)) (hv : Vis X.env.scope x := by first | exact Or.inl rfl | exact Or.inr (Or.inl rfl) | exact Or.inr (Or.inr rfl))
    (hd : (x == ("__debug__" : Str)) = false := by decide) (hcd : (x == ("__classdict__" : Str)) = false := by decide) : DE X δ (.Name x pos) d := de_var i hN hv hs hd hcd
theorem dixO {x : Str} {p : Pos} {dc : Dt} (i : Nat) (hN : X.N[i]? = some x) (hs : δ[i]? = some (.ow ds)) (hb : DE X δ b db) (h : ixD (.sq false ds) db = some dc) (hv : Vis X.env.scope x := by first | exact Or.inl rfl | exact Or.inr (Or.inl rfl) | exact Or.inr (Or.inr rfl))
    (hd : (x == ("__debug__" : Str)) = false := by decide) (hcd : (x == ("__classdict__" : Str)) = false := by decide) (hx : PlainIx b := by exact fun _ _ => rfl) : DE X δ (.Subscript (.Name x p) b pos) dc := de_ixO i hN hv hs hb h hd hcd hx
theorem dss_set (i : Nat) (P : Plc X k) (hi : X.N[i]? = some x) (he : DE X δ e d) (h : DSs X (δ.set i (.sh d)) rest D) (hs : swapsWith e (some (.Name x p)) pos.line X.env = pure false := by rfl)
    (hf : X.fn x = true ∨ X.env.scope.names.lookup x = some .local := by first | exact .inl rfl | exact .inr rfl | assumption) (hx : Loc X.env.scope x := by first | exact Or.inl rfl | exact Or.inr rfl) : DSs X δ (.Assign [.Name x p] e pos :: rest) D := dss_cons (ds_set i P hi hx he h hs hf)
theorem dss_setO (i : Nat) (P : Plc X k) (hi : X.N[i]? = some x) (he : DF X δ e ds) (h : DSs X (δ.set i (.ow ds)) rest D) (hs : swapsWith e (some (.Name x p)) pos.line X.env = pure false := by rfl)
    (hf : X.fn x = true ∨ X.env.scope.names.lookup x = some .local := by first | exact .inl rfl | exact .inr rfl | assumption) (hx : Loc X.env.scope x := by first | exact Or.inl rfl | exact Or.inr rfl) : DSs X δ (.Assign [.Name x p] e pos :: rest) D := dss_cons (ds_setO i P hi hx he h hs hf)
theorem dss_ret (he : DE X δ e d) (h : D.rt (.sh d)) : DSs X δ (.Return (some e) pos :: rest) D := dss_cons (ds_ret he h)
theorem dss_retF (he : DF X δ e ds) (h : D.rt (.ow ds)) : DSs X δ (.Return (some e) pos :: rest) D := dss_cons (ds_retF he h)
theorem dss_if {t : Bool} {u v : List Stmt} (hc : DT X δ c t) (h1 : t = true → DSs X δ u { D with nx := fun δ' => DSs X δ' rest D }) (h2 : t = false → DSs X δ v { D with nx := fun δ' => DSs X δ' rest D }) : DSs X δ (.If c u v pos :: rest) D := dss_cons (ds_if hc h1 h2)
/-- an if whose other branch is not reached -/
theorem dss_ifF {u v : List Stmt} (hc : DT X δ c false) (h2 : DSs X δ v { D with nx := fun δ' => DSs X δ' rest D }) : DSs X δ (.If c u v pos :: rest) D := dss_if hc (fun h => nomatch h) fun _ => h2
theorem dss_ifT {u v : List Stmt} (hc : DT X δ c true) (h1 : DSs X δ u { D with nx := fun δ' => DSs X δ' rest D }) : DSs X δ (.If c u v pos :: rest) D := dss_if hc (fun _ => h1) fun h => nomatch h
/-- an if with no else: the way that goes on -/
theorem dss_ifG {t : Bool} {u : List Stmt} (hc : DT X δ c t) (h1 : t = true → DSs X δ u { D with nx := fun δ' => DSs X δ' rest D }) (h2 : t = false → DSs X δ rest D) : DSs X δ (.If c u [] pos :: rest) D := dss_if hc h1 fun h => dss_nil (h2 h)
/-- an if whose ways meet -/
theorem dss_ifJ (J : List Slot → Prop) {t : Bool} {u : List Stmt} (hc : DT X δ c t) (h1 : t = true → DSs X δ u { D with nx := J }) (h2 : t = false → J δ) (hr : ∀ δ', J δ' → DSs X δ' rest D) : DSs X δ (.If c u [] pos :: rest) D :=
  dss_if hc (fun h => dss_weak (h1 h) (fun δ' j => hr δ' j) (fun _ z => z) (fun _ z => z) (fun _ z => z)) fun h => dss_nil (hr _ (h2 h))
theorem dss_go (h : DSs X δ rest D) : DSs X δ [] { D with nx := fun δ' => DSs X δ' rest D } := dss_nil h

theorem de_len {n : Nat} (hm : X.mg "len" = none) (ha : DE X δ a d) (h : lenD d = some n) (hg : Gl X "len" := by rfl) (he : starEach (a :: []) X.env = (false, eval a X.env) :: starEach [] X.env := by rfl) (hpl : (backTo pos (starEach [] X.env)).any (·.1) = false := by rfl) :
    DE X δ (.Call (.Name "len" p) [a] [] pos) (.int n) := de_callB call_len_seq (rc_len h) hg hm boot_len (da_cons ha da_nil he) (by decide) (by decide) he hpl
/-- len of a list of the slot's own -/
theorem de_lenO {y : Str} {q : Pos} (i : Nat) (hm : X.mg "len" = none) (hN : X.N[i]? = some y) (hs : δ[i]? = some (.ow ds)) (hg : Gl X "len" := by rfl) (hd : (y == ("__debug__" : Str)) = false := by decide) (hcd : (y == ("__classdict__" : Str)) = false := by decide)
    (he : starEach (Expr.Name y q :: []) X.env = (false, eval (.Name y q) X.env) :: starEach [] X.env := by rfl) (hpl : (backTo pos (starEach [] X.env)).any (·.1) = false := by rfl) (hv : Vis X.env.scope y := by first | exact Or.inl rfl | exact Or.inr (Or.inl rfl) | exact Or.inr (Or.inr rfl)) :
    DE X δ (.Call (.Name "len" p) [.Name y q] [] pos) (.int ds.length) :=
  imE (pe_callB call_len_seq hg hm boot_len (pa_cons (pe_var hN hv hd hcd) pa_nil he) (by decide) (by decide) he hpl) fun σ H Q ⟨S, O, E, k⟩ => by
    obtain ⟨p, xs, h1, h2, h3, h4⟩ := E.ow i ds hs
    exact ⟨_, h1, p, xs, rfl, .inl (SqL.of h3), by rw [h4.length]; exact k _ H (Ex.refl H) is_int⟩
theorem de_intc {n : Int} (hm : X.mg "int" = none) (ha : DE X δ a d) (h : intD d = some n) (hg : Gl X "int" := by rfl) (he : starEach (a :: []) X.env = (false, eval a X.env) :: starEach [] X.env := by rfl) (hpl : (backTo pos (starEach [] X.env)).any (·.1) = false := by rfl) :
    DE X δ (.Call (.Name "int" p) [a] [] pos) (.int n) := de_callTy call_int1 (rc_int h) hg hm (by decide +kernel) (da_cons ha da_nil he) (by decide) (by decide) he hpl
theorem de_abs {n : Int} (hm : X.mg "abs" = none) (ha : DE X δ a (.int n)) (hg : Gl X "abs" := by rfl) (he : starEach (a :: []) X.env = (false, eval a X.env) :: starEach [] X.env := by rfl) (hpl : (backTo pos (starEach [] X.env)).any (·.1) = false := by rfl) :
    DE X δ (.Call (.Name "abs" p) [a] [] pos) (.int (n.natAbs : Int)) := de_callB call_abs rc_abs hg hm (by decide +kernel) (da_cons ha da_nil he) (by decide) (by decide) he hpl
theorem de_max {n m : Int} (P : Plc X k) (hm : X.mg "max" = none) (ha : DE X δ a (.int n)) (hb : DE X δ b (.int m)) (hg : Gl X "max" := by rfl) (he : starEach (a :: [b]) X.env = (false, eval a X.env) :: starEach [b] X.env := by rfl) (he2 : starEach (b :: []) X.env = (false, eval b X.env) :: starEach [] X.env := by rfl) (hpl : (backTo pos (starEach [b] X.env)).any (·.1) = false := by rfl) :
    DE X δ (.Call (.Name "max" p) [a, b] [] pos) (.int (max n m)) := de_callB (call_max2 P.calm) rc_max2 hg hm (by decide +kernel) (da_cons ha (da_cons hb da_nil he2) he) (by decide) (by decide) he hpl
theorem de_min {n m : Int} (P : Plc X k) (hm : X.mg "min" = none) (ha : DE X δ a (.int n)) (hb : DE X δ b (.int m)) (hg : Gl X "min" := by rfl) (he : starEach (a :: [b]) X.env = (false, eval a X.env) :: starEach [b] X.env := by rfl) (he2 : starEach (b :: []) X.env = (false, eval b X.env) :: starEach [] X.env := by rfl) (hpl : (backTo pos (starEach [b] X.env)).any (·.1) = false := by rfl) :
    DE X δ (.Call (.Name "min" p) [a, b] [] pos) (.int (min n m)) := de_callB (call_min2 P.calm) rc_min2 hg hm (by decide +kernel) (da_cons ha (da_cons hb da_nil he2) he) (by decide) (by decide) he hpl
theorem de_gcd {n m : Int} (hm : X.mg "gcd" = some (.builtin "math.gcd")) (ha : DE X δ a (.int n)) (hb : DE X δ b (.int m)) (hg : Gl X "gcd" := by rfl) (he : starEach (a :: [b]) X.env = (false, eval a X.env) :: starEach [b] X.env := by rfl) (he2 : starEach (b :: []) X.env = (false, eval b X.env) :: starEach [] X.env := by rfl) (hpl : (backTo pos (starEach [b] X.env)).any (·.1) = false := by rfl) :
    DE X δ (.Call (.Name "gcd" p) [a, b] [] pos) (.int (Nat.gcd n.natAbs m.natAbs : Nat)) := imE (pe_callBfun cr_gcd hg hm (da_cons ha (da_cons hb da_nil he2) he) (by decide) he hpl) (tCB_of rc_gcd)
theorem de_list {t : Bool} (hm : X.mg "list" = none) (ha : DE X δ a (.sq t ds)) (hg : Gl X "list" := by rfl) (he : starEach (a :: []) X.env = (false, eval a X.env) :: starEach [] X.env := by rfl) (hpl : (backTo pos (starEach [] X.env)).any (·.1) = false := by rfl) :
    DE X δ (.Call (.Name "list" p) [a] [] pos) (.sq false ds) := de_callTy call_list_of rc_list hg hm (by decide +kernel) (da_cons ha da_nil he) (by decide) (by decide) he hpl
theorem de_tuple {t : Bool} (hm : X.mg "tuple" = none) (ha : DE X δ a (.sq t ds)) (hg : Gl X "tuple" := by rfl) (he : starEach (a :: []) X.env = (false, eval a X.env) :: starEach [] X.env := by rfl) (hpl : (backTo pos (starEach [] X.env)).any (·.1) = false := by rfl) :
    DE X δ (.Call (.Name "tuple" p) [a] [] pos) (.sq true ds) := de_callTy call_tuple_of rc_tuple hg hm (by decide +kernel) (da_cons ha da_nil he) (by decide) (by decide) he hpl
theorem de_repr (P : Plc X k) (hm : X.mg "repr" = none) (ha : DE X δ a d) (h : shC d) (hg : Gl X "repr" := by rfl) (he : starEach (a :: []) X.env = (false, eval a X.env) :: starEach [] X.env := by rfl) (hpl : (backTo pos (starEach [] X.env)).any (·.1) = false := by rfl) :
    DE X δ (.Call (.Name "repr" p) [a] [] pos) (.str (shown d)) := de_callB (cr_repr P) (rc_repr h) hg hm (by decide +kernel) (da_cons ha da_nil he) (by decide) (by decide) he hpl
variable {q : Pos}
theorem de_isi {n : Str} {T : String} {r : Bool} (hm : X.mg "isinstance" = none) (hn : X.mg n = none) (ha : DE X δ a d) (hr : RC X.K (rIsi X.K) [d, .ty T] (.bl r)) (hg : Gl X "isinstance") (hgn : Gl X n) (hv : bootBuiltins n = some (.type T)) (n1 : n ≠ "__name__") (n2 : (n == ("__debug__" : Str)) = false)
    (he : starEach (a :: [.Name n q]) X.env = (false, eval a X.env) :: starEach [.Name n q] X.env) (he2 : starEach (Expr.Name n q :: []) X.env = (false, eval (.Name n q) X.env) :: starEach [] X.env) (hpl : (backTo pos (starEach [.Name n q] X.env)).any (·.1) = false) :
    DE X δ (.Call (.Name "isinstance" p) [a, .Name n q] [] pos) (.bl r) := de_callB call_isi hr hg hm (by decide +kernel) (da_cons ha (da_cons (de_ty hgn hn hv n1 n2) da_nil he2) he) (by decide) (by decide) he hpl
theorem de_isInt (hm : X.mg "isinstance" = none) (hn : X.mg "int" = none) (ha : DE X δ a d) (hf : flatK d = true) (hg : Gl X "isinstance" := by rfl) (hgn : Gl X "int" := by rfl)
    (he : starEach (a :: [.Name "int" q]) X.env = (false, eval a X.env) :: starEach [.Name "int" q] X.env := by rfl) (he2 : starEach (Expr.Name "int" q :: []) X.env = (false, eval (.Name "int" q) X.env) :: starEach [] X.env := by rfl) (hpl : (backTo pos (starEach [.Name "int" q] X.env)).any (·.1) = false := by rfl) :
    DE X δ (.Call (.Name "isinstance" p) [a, .Name "int" q] [] pos) (.bl (isInt d)) := de_isi hm hn ha (rc_isInt hf) hg hgn (by decide +kernel) (by decide) (by decide) he he2 hpl
theorem de_isBl (hm : X.mg "isinstance" = none) (hn : X.mg "bool" = none) (ha : DE X δ a d) (hf : flatK d = true) (hg : Gl X "isinstance" := by rfl) (hgn : Gl X "bool" := by rfl)
    (he : starEach (a :: [.Name "bool" q]) X.env = (false, eval a X.env) :: starEach [.Name "bool" q] X.env := by rfl) (he2 : starEach (Expr.Name "bool" q :: []) X.env = (false, eval (.Name "bool" q) X.env) :: starEach [] X.env := by rfl) (hpl : (backTo pos (starEach [.Name "bool" q] X.env)).any (·.1) = false := by rfl) :
    DE X δ (.Call (.Name "isinstance" p) [a, .Name "bool" q] [] pos) (.bl (isBl d)) := de_isi hm hn ha (rc_isBl hf) hg hgn (by decide +kernel) (by decide) (by decide) he he2 hpl
theorem de_isTup (hm : X.mg "isinstance" = none) (hn : X.mg "tuple" = none) (ha : DE X δ a d) (hf : flatK d = true) (hg : Gl X "isinstance" := by rfl) (hgn : Gl X "tuple" := by rfl)
    (he : starEach (a :: [.Name "tuple" q]) X.env = (false, eval a X.env) :: starEach [.Name "tuple" q] X.env := by rfl) (he2 : starEach (Expr.Name "tuple" q :: []) X.env = (false, eval (.Name "tuple" q) X.env) :: starEach [] X.env := by rfl) (hpl : (backTo pos (starEach [.Name "tuple" q] X.env)).any (·.1) = false := by rfl) :
    DE X δ (.Call (.Name "isinstance" p) [a, .Name "tuple" q] [] pos) (.bl (isTup d)) := de_isi hm hn ha (rc_isTup hf) hg hgn (by decide +kernel) (by decide) (by decide) he he2 hpl
theorem de_isLst (hm : X.mg "isinstance" = none) (hn : X.mg "list" = none) (ha : DE X δ a d) (hf : flatK d = true) (hg : Gl X "isinstance" := by rfl) (hgn : Gl X "list" := by rfl)
    (he : starEach (a :: [.Name "list" q]) X.env = (false, eval a X.env) :: starEach [.Name "list" q] X.env := by rfl) (he2 : starEach (Expr.Name "list" q :: []) X.env = (false, eval (.Name "list" q) X.env) :: starEach [] X.env := by rfl) (hpl : (backTo pos (starEach [.Name "list" q] X.env)).any (·.1) = false := by rfl) :
    DE X δ (.Call (.Name "isinstance" p) [a, .Name "list" q] [] pos) (.bl (isLst d)) := de_isi hm hn ha (rc_isLst hf) hg hgn (by decide +kernel) (by decide) (by decide) he he2 hpl
theorem de_isStr (hm : X.mg "isinstance" = none) (hn : X.mg "str" = none) (ha : DE X δ a d) (hf : flatK d = true) (hg : Gl X "isinstance" := by rfl) (hgn : Gl X "str" := by rfl)
    (he : starEach (a :: [.Name "str" q]) X.env = (false, eval a X.env) :: starEach [.Name "str" q] X.env := by rfl) (he2 : starEach (Expr.Name "str" q :: []) X.env = (false, eval (.Name "str" q) X.env) :: starEach [] X.env := by rfl) (hpl : (backTo pos (starEach [.Name "str" q] X.env)).any (·.1) = false := by rfl) :
    DE X δ (.Call (.Name "isinstance" p) [a, .Name "str" q] [] pos) (.bl (isStr d)) := de_isi hm hn ha (rc_isStr hf) hg hgn (by decide +kernel) (by decide) (by decide) he he2 hpl
end
section
variable {X : Cx} {δ : List Slot} {e e2 a b c iter : Expr} {es : List Expr} {d da db : Dt} {ds items : List Dt} {pos p : Pos} {x : Str} {st : Stmt} {rest sts body : List Stmt} {D : DEnds} {k i : Nat}
theorem dss_for (i : Nat) (P : Plc X k) (hN : X.N[i]? = some x) (hi : DI X δ (.Name x p) iter items) (Inv : Nat → List Slot → Prop) (h0 : Inv 0 δ)
    (hs : ∀ n d δ', items[n]? = some d → Inv n δ' → DSs X (δ'.set i (.sh d)) body { nx := Inv (n + 1), ct := Inv (n + 1), bk := fun δ' => DSs X δ' rest D, rt := D.rt })
    (hd : ∀ δ', Inv items.length δ' → DSs X δ' rest D) (hs0 : ∀ x, foldedSetIterable iter X.env x = pure x := by intro _; rfl)
    (hf : X.fn x = true ∨ X.env.scope.names.lookup x = some .local := by first | exact .inl rfl | exact .inr rfl | assumption) (hx : Loc X.env.scope x := by first | exact Or.inl rfl | exact Or.inr rfl) : DSs X δ (.For (.Name x p) iter body [] pos :: rest) D :=
  dss_cons (ds_for i P hN hx hi Inv h0 hs hd hs0 hf)
/-- for k in range(n) -/
theorem dss_rng (i : Nat) {q : Pos} {n : Int} (P : Plc X k) (hN : X.N[i]? = some x) (hm : X.mg "range" = none) (ha : DE X δ a (.int n)) (h1 : -(2 ^ 62) ≤ n) (h2 : n < 2 ^ 62) (Inv : Nat → List Slot → Prop) (h0 : Inv 0 δ)
    (hs : ∀ (m : Nat) δ', m < n.toNat → Inv m δ' → DSs X (δ'.set i (.sh (.int (m : Int)))) body { nx := Inv (m + 1), ct := Inv (m + 1), bk := fun δ' => DSs X δ' rest D, rt := D.rt })
    (hd : ∀ δ', Inv n.toNat δ' → DSs X δ' rest D) (hg : Gl X "range" := by rfl) (hs1 : starEach [a] X.env = [(false, eval a X.env)] := by rfl) (he : starEach (a :: []) X.env = (false, eval a X.env) :: starEach [] X.env := by rfl)
    (hs0 : ∀ x, foldedSetIterable (.Call (.Name "range" p) [a] [] q) X.env x = pure x := by intro _; rfl)
    (hf : X.fn x = true ∨ X.env.scope.names.lookup x = some .local := by first | exact .inl rfl | exact .inr rfl | assumption) (hx : Loc X.env.scope x := by first | exact Or.inl rfl | exact Or.inr rfl) {p' : Pos} : DSs X δ (.For (.Name x p') (.Call (.Name "range" p) [a] [] q) body [] pos :: rest) D :=
  dss_for i P hN (di_rng1 hg hm ha h1 h2 hs1 he) Inv h0 (hx := hx) (hs0 := hs0) (hf := hf) (fun m d δ' hd i' => by
    obtain ⟨hm, rfl⟩ := rngD_get hd
    have e : (0 : Int) + (m : Int) = (m : Int) := Int.zero_add _
    rw [e]; exact hs m δ' hm i') (fun δ' i' => hd δ' (by rwa [rngD_len] at i'))
/-- for k in range(m, n) -/
theorem dss_rng2 (i : Nat) {q : Pos} {m n : Int} (P : Plc X k) (hN : X.N[i]? = some x) (hm : X.mg "range" = none) (ha : DE X δ a (.int m)) (hb : DE X δ b (.int n)) (h1 : -(2 ^ 62) ≤ m ∧ m < 2 ^ 62 ∧ -(2 ^ 62) ≤ n ∧ n < 2 ^ 62) (Inv : Nat → List Slot → Prop) (h0 : Inv 0 δ)
    (hs : ∀ (j : Nat) δ', j < (n - m).toNat → Inv j δ' → DSs X (δ'.set i (.sh (.int (m + (j : Int))))) body { nx := Inv (j + 1), ct := Inv (j + 1), bk := fun δ' => DSs X δ' rest D, rt := D.rt })
    (hd : ∀ δ', Inv (n - m).toNat δ' → DSs X δ' rest D) (hg : Gl X "range" := by rfl) (hs1 : starEach [a, b] X.env = [(false, eval a X.env), (false, eval b X.env)] := by rfl) (hs2 : starEach [b] X.env = [(false, eval b X.env)] := by rfl)
    (he : starEach (a :: [b]) X.env = (false, eval a X.env) :: starEach [b] X.env := by rfl) (he2 : starEach (b :: []) X.env = (false, eval b X.env) :: starEach [] X.env := by rfl)
    (hs0 : ∀ x, foldedSetIterable (.Call (.Name "range" p) [a, b] [] q) X.env x = pure x := by intro _; rfl)
    (hf : X.fn x = true ∨ X.env.scope.names.lookup x = some .local := by first | exact .inl rfl | exact .inr rfl | assumption) (hx : Loc X.env.scope x := by first | exact Or.inl rfl | exact Or.inr rfl) {p' : Pos} : DSs X δ (.For (.Name x p') (.Call (.Name "range" p) [a, b] [] q) body [] pos :: rest) D :=
  dss_for i P hN (di_rng2 hg hm ha hb h1 hs1 hs2 he he2) Inv h0 (hx := hx) (hs0 := hs0) (hf := hf) (fun j d δ' hd i' => by
    obtain ⟨hm, rfl⟩ := rngD_get hd
    exact hs j δ' hm i') (fun δ' i' => hd δ' (by rwa [rngD_len] at i'))
theorem dss_app (i : Nat) {ap cp : Pos} (hi : X.N[i]? = some x) (hs : δ[i]? = some (.ow ds)) (he : DE X δ e d) (hz : ds.length < sizeLine) (h : DSs X (δ.set i (.ow (ds ++ [d]))) rest D)
    (hbase : attributeBase (.Name x p) "append" X.env (eval (.Name x p) X.env) = eval (.Name x p) X.env := by rfl) (hline : (ap.endLine == cp.line) = true := by rfl)
    (hfew : ((backTo cp (starEach (e :: []) X.env)).all (fun z => !z.1) && ((backToKw cp (keywordEach [] X.env)).all (fun z => z.1.isSome)) && decide ((e :: []).length + ([] : List Keyword).length + (if ([] : List Keyword).isEmpty then 0 else 1) < 30)) = true := by rfl)
    (hd : (x == ("__debug__" : Str)) = false := by decide) (hcd : (x == ("__classdict__" : Str)) = false := by decide)
    (hst : starEach (e :: []) X.env = (false, eval e X.env) :: starEach [] X.env := by rfl) (hpl : (backTo cp (starEach [] X.env)).any (·.1) = false := by rfl)
    (hsw : swapsWith (.Call (.Attribute (.Name x p) "append" ap) [e] [] cp) none pos.line X.env = pure false := by rfl) (hv : Vis X.env.scope x := by first | exact Or.inl rfl | exact Or.inr (Or.inl rfl) | exact Or.inr (Or.inr rfl)) :
    DSs X δ (.Expr (.Call (.Attribute (.Name x p) "append" ap) [e] [] cp) pos :: rest) D := dss_cons (ds_app i hi hv hs he hz h hbase hline hfew hd hcd hst hpl hsw)
theorem dss_put (i : Nat) {n : Int} {j : Nat} {tp : Pos} (hi : X.N[i]? = some x) (hs : δ[i]? = some (.ow ds)) (he : DE X δ e d) (hb : DE X δ b (.int n)) (hj : ixN ds.length n = some j) (h : DSs X (δ.set i (.ow (ds.set j d))) rest D)
    (hd : (x == ("__debug__" : Str)) = false := by decide) (hcd : (x == ("__classdict__" : Str)) = false := by decide)
    (hsw : swapsWithSole [.Subscript (.Name x p) b tp] e pos.line X.env = pure false := by rfl)
    (hasg : ∀ v, assign (.Subscript (.Name x p) b tp) X.env v = (do
      let u1 ← holding [v] (eval (.Name x p) X.env)
      let u2 ← holding [v, u1] (eval b X.env)
      standAt tp
      holding [v, u1, u2] (setItem u1 u2 v)
      release [v, u1, u2] []) := by intro _; rfl) (hw : swappedStores [.Subscript (.Name x p) b tp] e X.env = pure none := by rfl) (hv : Vis X.env.scope x := by first | exact Or.inl rfl | exact Or.inr (Or.inl rfl) | exact Or.inr (Or.inr rfl)) :
    DSs X δ (.Assign [.Subscript (.Name x p) b tp] e pos :: rest) D := dss_cons (ds_put i hi hv hs he hb hj h hd hcd hsw hasg hw)
theorem dss_retO (i : Nat) (hi : X.N[i]? = some x) (hs : δ[i]? = some (.ow ds)) (h : D.rt (.ow ds))
    (hd : (x == ("__debug__" : Str)) = false := by decide) (hcd : (x == ("__classdict__" : Str)) = false := by decide) (hv : Vis X.env.scope x := by first | exact Or.inl rfl | exact Or.inr (Or.inl rfl) | exact Or.inr (Or.inr rfl)) : DSs X δ (.Return (some (.Name x p)) pos :: rest) D := dss_cons (ds_retO i hi hv hs h hd hcd)
theorem dss_break (h : D.bk δ) : DSs X δ (.Break pos :: rest) D := dss_cons (ds_break h)
end
/-- the names of a def's scope -/
structure Sco (N : List Str) (sc : Scope) : Prop where
  vis : ∀ (i : Nat) (x : Str), N[i]? = some x → sc.names.lookup x ≠ none → Vis sc x
  loc : ∀ (i : Nat) (x : Str), N[i]? = some x → sc.names.lookup x ≠ none → Loc sc x
end Dat

set_option Elab.async false
set_option linter.all false
set_option maxRecDepth 100000
set_option maxHeartbeats 2000000
/-! zip of two sequences, each a list or a tuple -/
namespace Dat
open PySem PySem.Spec PyProof.Rows L2 RZ
open PySem.Sem (wp)
/-- where an iterator over a list (false) or over a tuple (true) stands -/
def ItAt : Bool → Heap → Addr → Addr → Nat → Prop
  | true, h, i, l, k => h.IsTupleIter i l k
  | false, h, i, l, k => h.IsListIter i l k
def SqAt : Bool → Heap → Addr → Array Value → Prop
  | true, h, l, xs => h.IsTuple l xs
  | false, h, l, xs => h.IsList l xs
def clsIt : Bool → String
  | true => "tuple_iterator"
  | false => "list_iterator"
theorem ItAt.obj {t : Bool} {h : Heap} {i l : Addr} {k : Nat} (u : ItAt t h i l k) : ∃ o, h.get? i = some o ∧ ∀ v, o.data ≠ .cell v := by
  cases t <;> (obtain ⟨o, e, _, d⟩ := u; exact ⟨o, e, fun v q => by rw [d] at q; cases q⟩)
theorem ItAt.go {t : Bool} {h h' : Heap} {i l : Addr} {k : Nat} (u : ItAt t h i l k) (e : ∀ o, h.get? i = some o → h'.get? i = some o) : ItAt t h' i l k := by
  cases t
  · exact Heap.IsListIter.at u e
  · exact Heap.IsTupleIter.at u e
theorem SqAt.go {t : Bool} {h h' : Heap} {l : Addr} {xs : Array Value} (u : SqAt t h l xs) (e : ∀ o, h.get? l = some o → h'.get? l = some o) : SqAt t h' l xs := by
  cases t <;> (obtain ⟨o, h1, h2⟩ := u; exact ⟨o, e o h1, h2⟩)
/-- all that a turn of zip looks at -/
structure Zs (t1 t2 : Bool) (z TI TO i1 i2 l1 l2 : Addr) (xs ys : Array Value) (h0 : Heap) (f a b : Value) (k1 k2 : Nat) (h : Heap) : Prop where
  gz : IsZip h z TI TO f
  gI : IsPair h TI (.ref i1) (.ref i2)
  gO : IsPair h TO a b
  u1 : ItAt t1 h i1 l1 k1
  u2 : ItAt t2 h i2 l2 k2
  q1 : SqAt t1 h l1 xs
  q2 : SqAt t2 h l2 ys
  kp : ∀ c o, c ≠ z → c ≠ TO → c ≠ i1 → c ≠ i2 → h0.get? c = some o → h.get? c = some o
section
variable {t t1 t2 : Bool} {z TI TO i1 i2 l1 l2 it l : Addr} {k k1 k2 j1 j2 : Nat} {xs ys : Array Value} {f f' a b a' b' x y : Value} {h0 h h' : Heap}
theorem Zs.onZ (S : Zs t1 t2 z TI TO i1 i2 l1 l2 xs ys h0 f a b k1 k2 h) (D : ZipApart z TI TO i1 i2 l1 l2) (e : Heap.ExtBut z h h') (g : IsZip h' z TI TO f') : Zs t1 t2 z TI TO i1 i2 l1 l2 xs ys h0 f' a b k1 k2 h' :=
  ⟨g, e _ _ D.TIz S.gI, e _ _ D.TOz S.gO, S.u1.go fun o => e _ o D.i1z, S.u2.go fun o => e _ o D.i2z, S.q1.go fun o => e _ o D.l1z, S.q2.go fun o => e _ o D.l2z, fun c o c1 c2 c3 c4 q => e _ _ c1 (S.kp c o c1 c2 c3 c4 q)⟩
theorem Zs.onO (S : Zs t1 t2 z TI TO i1 i2 l1 l2 xs ys h0 f a b k1 k2 h) (D : ZipApart z TI TO i1 i2 l1 l2) (e : Heap.ExtBut TO h h') (g : IsPair h' TO a' b') : Zs t1 t2 z TI TO i1 i2 l1 l2 xs ys h0 f a' b' k1 k2 h' :=
  ⟨e _ _ D.TOz.symm S.gz, e _ _ D.TITO S.gI, g, S.u1.go fun o => e _ o D.TOi1.symm, S.u2.go fun o => e _ o D.TOi2.symm, S.q1.go fun o => e _ o D.l1TO, S.q2.go fun o => e _ o D.l2TO, fun c o c1 c2 c3 c4 q => e _ _ c2 (S.kp c o c1 c2 c3 c4 q)⟩
theorem Zs.on1 (S : Zs t1 t2 z TI TO i1 i2 l1 l2 xs ys h0 f a b k1 k2 h) (D : ZipApart z TI TO i1 i2 l1 l2) (e : Heap.ExtBut i1 h h') (g : ItAt t1 h' i1 l1 j1) : Zs t1 t2 z TI TO i1 i2 l1 l2 xs ys h0 f a b j1 k2 h' :=
  ⟨e _ _ D.i1z.symm S.gz, e _ _ D.TIi1 S.gI, e _ _ D.TOi1 S.gO, g, S.u2.go fun o => e _ o D.i12.symm, S.q1.go fun o => e _ o D.l1i1, S.q2.go fun o => e _ o D.l2i1, fun c o c1 c2 c3 c4 q => e _ _ c3 (S.kp c o c1 c2 c3 c4 q)⟩
theorem Zs.on2 (S : Zs t1 t2 z TI TO i1 i2 l1 l2 xs ys h0 f a b k1 k2 h) (D : ZipApart z TI TO i1 i2 l1 l2) (e : Heap.ExtBut i2 h h') (g : ItAt t2 h' i2 l2 j2) : Zs t1 t2 z TI TO i1 i2 l1 l2 xs ys h0 f a b k1 j2 h' :=
  ⟨e _ _ D.i2z.symm S.gz, e _ _ D.TIi2 S.gI, e _ _ D.TOi2 S.gO, S.u1.go fun o => e _ o D.i12, g, S.q1.go fun o => e _ o D.l1i2, S.q2.go fun o => e _ o D.l2i2, fun c o c1 c2 c3 c4 q => e _ _ c4 (S.kp c o c1 c2 c3 c4 q)⟩
theorem Zs.onN (S : Zs t1 t2 z TI TO i1 i2 l1 l2 xs ys h0 f a b k1 k2 h) (o' : Obj) : Zs t1 t2 z TI TO i1 i2 l1 l2 xs ys h0 f a b k1 k2 (h.push o') :=
  have e : ∀ c o, h.get? c = some o → (h.push o').get? c = some o := fun c o q => Heap.get?_push_of_some _ q
  ⟨e _ _ S.gz, e _ _ S.gI, e _ _ S.gO, S.u1.go (e _), S.u2.go (e _), S.q1.go (e _), S.q2.go (e _), fun c o c1 c2 c3 c4 q => e _ _ (S.kp c o c1 c2 c3 c4 q)⟩
variable {prog : Program} {w : World} {A : Around} {E : Value → Shared → Prop} {s : Shared}
theorem nx_item {Q : Value → Shared → Prop} (u : ItAt t s.heap it l k) (q : SqAt t s.heap l xs) (hx : xs[k]? = some x) (hQ : ∀ h', ItAt t h' it l (k + 1) → Heap.SameBut it s.heap h' → Q x { s with heap := h' }) :
    wpAny (model prog w) A (Builtin.SmallTypes.nextOf (.ref it)) Q E s := by
  cases t
  · exact wpAny_nextOf_list_item u q hx hQ
  · exact nextOf_tuple_item u q hx hQ
theorem nx_end {Q : Value → Shared → Prop} (hh : A.handled = none) (u : ItAt t s.heap it l k) (q : SqAt t s.heap l xs) (hx : xs[k]? = none)
    (hE : ∀ h' e, Heap.ExtBut it s.heap h' → (∃ o, h'.get? e = some o ∧ o.cls = .type "StopIteration") → E (.ref e) { s with heap := h' }) : wpAny (model prog w) A (Builtin.SmallTypes.nextOf (.ref it)) Q E s := by
  cases t
  · exact wpAny_nextOf_list_end hh u q hx hE
  · exact nextOf_tuple_end hh u q hx hE
theorem it_new {Q : Value → Shared → Prop} (q : SqAt t s.heap l xs) (hQ : Q (.ref s.heap.objs.size) { s with heap := s.heap.push { cls := .type (clsIt t), data := .fields #[.ref l, .int 0 0] } }) : wpAny (model prog w) A (pyIter (.ref l)) Q E s := by
  cases t
  · exact wpAny_pyIter_list q hQ
  · exact wpAny_pyIter_tuple q hQ

/-- a turn: the pair handed out -/
theorem zn_item {Q : Value → Shared → Prop} (D : ZipApart z TI TO i1 i2 l1 l2) (S : Zs t1 t2 z TI TO i1 i2 l1 l2 xs ys s.heap .none a b k1 k2 s.heap) (hx : xs[k1]? = some x) (hy : ys[k2]? = some y)
    (hQ : ∀ h', Zs t1 t2 z TI TO i1 i2 l1 l2 xs ys s.heap (rawInt s.heap.objs.size) x y (k1 + 1) (k2 + 1) h' → IsPair h' s.heap.objs.size x y → h'.objs.size = s.heap.objs.size + 1 → Q (.ref s.heap.objs.size) { s with heap := h' }) :
    wpAny (model prog w) A (Builtin.«zip.__next__» ⟨[.ref z], []⟩) (fun fin s' => ∃ v, fin = .done (.ret v) ∧ Q v s') E s := by
  have gz := S.gz
  show wpAny _ _ (field (.ref z) 2 >>= _) _ _ s
  refine wpAny_bind (wpAny_field gz rfl rfl ?_)
  show wpAny _ _ (field (.ref z) 3 >>= _) _ _ s
  refine wpAny_bind (wpAny_field gz rfl rfl (wpAny_bind (wpAny_seqItems S.gI rfl ?_)))
  show wpAny _ _ (Builtin.SmallTypes.ownedTupleIsFree (.ref z) >>= _) _ _ s
  apply wpAny_bind
  unfold Builtin.SmallTypes.ownedTupleIsFree
  refine wpAny_bind (wpAny_field gz rfl rfl (wpAny_pure ?_))
  simp only [if_true]
  refine wpAny_bind (wpAny_rule (wpAny_bind (wpAny_field gz rfl rfl (wpAny_bind (wpAny_setField_rec gz (by simp) fun g1 z1 c1 => ?_)))))
  have S1 : Zs t1 t2 z TI TO i1 i2 l1 l2 xs ys s.heap .ellipsis a b k1 k2 g1 := S.onZ D c1.extBut z1
  refine wpAny_bind ?_
  simp only [List.zipIdx_cons, List.zipIdx_nil, List.forIn_cons, List.forIn_nil]
  refine wpAny_bind (wpAny_bind (wpAny_onRaise ?_))
  show wpAny _ _ (Builtin.SmallTypes.nextOf (.ref i1) >>= _) _ _ _
  refine wpAny_bind (nx_item S1.u1 S1.q1 hx fun g2 v2 c2 => wpAny_pure ?_)
  have S2 := S1.on1 D c2.extBut v2
  refine wpAny_bind (wpAny_seqItems S2.gO rfl (wpAny_bind (wpAny_updateSeq_pair S2.gO fun g3 o3 c3 => wpAny_bind (wpAny_letGo (wpAny_pure ?_)))))
  have S3 : Zs t1 t2 z TI TO i1 i2 l1 l2 xs ys s.heap .ellipsis x b (k1 + 1) k2 g3 := S2.onO D c3.extBut o3
  refine wpAny_bind (wpAny_bind (wpAny_onRaise ?_))
  show wpAny _ _ (Builtin.SmallTypes.nextOf (.ref i2) >>= _) _ _ _
  refine wpAny_bind (nx_item S3.u2 S3.q2 hy fun g4 v4 c4 => wpAny_pure ?_)
  have S4 := S3.on2 D c4.extBut v4
  refine wpAny_bind (wpAny_seqItems S4.gO rfl (wpAny_bind (wpAny_updateSeq_pair S4.gO fun g5 o5 c5 => wpAny_bind (wpAny_letGo (wpAny_pure (wpAny_pure ?_))))))
  have S5 : Zs t1 t2 z TI TO i1 i2 l1 l2 xs ys s.heap .ellipsis x y (k1 + 1) (k2 + 1) g5 := S4.onO D c5.extBut o5
  refine wpAny_bind (wpAny_seqItems S5.gO rfl (wpAny_bind (wpAny_newTuple ?_)))
  have n5 : g5.objs.size = s.heap.objs.size := by rw [c5.1, c4.1, c3.1, c2.1, c1.1]
  have S6 := S5.onN { cls := .type "tuple", data := .seq #[x, y] }
  have ne : g5.objs.size ≠ z := Nat.ne_of_gt (Heap.lt_size S5.gz)
  have p6 : IsPair (g5.push { cls := .type "tuple", data := .seq #[x, y] }) g5.objs.size x y := Heap.get?_push_size _ rfl
  show wpAny _ _ (Builtin.SmallTypes.ownedTupleHandOut (.ref z) (.ref g5.objs.size) >>= _) _ _ _
  refine wpAny_bind ?_
  unfold Builtin.SmallTypes.ownedTupleHandOut
  refine wpAny_bind (wpAny_setField_rec S6.gz (by simp) fun g7 z7 c7 => ?_)
  have S7 : Zs t1 t2 z TI TO i1 i2 l1 l2 xs ys s.heap (rawInt g5.objs.size) x y (k1 + 1) (k2 + 1) g7 := S6.onZ D c7.extBut z7
  refine wpAny_setField_rec S7.gz (by simp) fun g8 z8 c8 => ?_
  have S8 : Zs t1 t2 z TI TO i1 i2 l1 l2 xs ys s.heap (rawInt g5.objs.size) x y (k1 + 1) (k2 + 1) g8 := S7.onZ D c8.extBut z8
  have p8 : IsPair g8 g5.objs.size x y := c8.extBut _ _ ne (c7.extBut _ _ ne p6)
  have n8 : g8.objs.size = g5.objs.size + 1 := by rw [c8.1, c7.1, Heap.size_push]
  rw [n5] at S8 p8 n8
  refine wpAny_pure ⟨_, rfl, ?_⟩
  show Q (.ref g5.objs.size) _
  rw [n5]
  exact hQ g8 S8 p8 n8
/-- the end -/
theorem zn_end {Q : Fin → Shared → Prop} (hh : A.handled = none) (D : ZipApart z TI TO i1 i2 l1 l2) (S : Zs t1 t2 z TI TO i1 i2 l1 l2 xs ys s.heap .none a b k1 k2 s.heap) (hend : xs[k1]? = none ∨ ys[k2]? = none)
    (hE : ∀ h' e, (∀ c o, c ≠ z → c ≠ TO → c ≠ i1 → c ≠ i2 → s.heap.get? c = some o → h'.get? c = some o) → (∃ o, h'.get? e = some o ∧ o.cls = .type "StopIteration") → E (.ref e) { s with heap := h' }) :
    wpAny (model prog w) A (Builtin.«zip.__next__» ⟨[.ref z], []⟩) Q E s := by
  have gz := S.gz
  show wpAny _ _ (field (.ref z) 2 >>= _) _ _ s
  refine wpAny_bind (wpAny_field gz rfl rfl ?_)
  show wpAny _ _ (field (.ref z) 3 >>= _) _ _ s
  refine wpAny_bind (wpAny_field gz rfl rfl (wpAny_bind (wpAny_seqItems S.gI rfl ?_)))
  show wpAny _ _ (Builtin.SmallTypes.ownedTupleIsFree (.ref z) >>= _) _ _ s
  apply wpAny_bind
  unfold Builtin.SmallTypes.ownedTupleIsFree
  refine wpAny_bind (wpAny_field gz rfl rfl (wpAny_pure ?_))
  simp only [if_true]
  refine wpAny_bind (wpAny_rule (wpAny_bind (wpAny_field gz rfl rfl (wpAny_bind (wpAny_setField_rec gz (by simp) fun g1 z1 c1 => ?_)))))
  have S1 : Zs t1 t2 z TI TO i1 i2 l1 l2 xs ys s.heap .ellipsis a b k1 k2 g1 := S.onZ D c1.extBut z1
  refine wpAny_bind ?_
  simp only [List.zipIdx_cons, List.zipIdx_nil, List.forIn_cons, List.forIn_nil]
  refine wpAny_bind (wpAny_bind (wpAny_onRaise ?_))
  show wpAny _ _ (Builtin.SmallTypes.nextOf (.ref i1) >>= _) _ _ _
  have out : ∀ g g' e, IsZip g z TI TO .ellipsis → (∃ o, g.get? e = some o ∧ o.cls = .type "StopIteration") → Heap.SameBut z g g' → ∃ o, g'.get? e = some o ∧ o.cls = .type "StopIteration" := by
    rintro g g' e gz ⟨o, ho, hc⟩ c
    refine ⟨o, c.extBut _ _ (fun q => ?_) ho, hc⟩
    subst q; rw [gz] at ho; cases ho; simp at hc
  cases hx : xs[k1]? with
  | none =>
    refine wpAny_bind (nx_end hh S1.u1 S1.q1 hx fun g2 e c2 he => ?_)
    have gz2 : IsZip g2 z TI TO .ellipsis := c2 _ _ D.i1z.symm S1.gz
    exact wpAny_setField_rec gz2 (by simp) fun g3 _ c3 => hE g3 e (fun c o a1 a2 a3 a4 q => c3.extBut _ _ a1 (c2 _ _ a3 (S1.kp c o a1 a2 a3 a4 q))) (out _ _ _ gz2 he c3)
  | some x =>
    have hy : ys[k2]? = none := hend.resolve_left (by rw [hx]; simp)
    refine wpAny_bind (nx_item S1.u1 S1.q1 hx fun g2 v2 c2 => wpAny_pure ?_)
    have S2 := S1.on1 D c2.extBut v2
    refine wpAny_bind (wpAny_seqItems S2.gO rfl (wpAny_bind (wpAny_updateSeq_pair S2.gO fun g3 o3 c3 => wpAny_bind (wpAny_letGo (wpAny_pure ?_)))))
    have S3 : Zs t1 t2 z TI TO i1 i2 l1 l2 xs ys s.heap .ellipsis x b (k1 + 1) k2 g3 := S2.onO D c3.extBut o3
    refine wpAny_bind (wpAny_bind (wpAny_onRaise ?_))
    show wpAny _ _ (Builtin.SmallTypes.nextOf (.ref i2) >>= _) _ _ _
    refine wpAny_bind (nx_end hh S3.u2 S3.q2 hy fun g4 e c4 he => ?_)
    have gz4 : IsZip g4 z TI TO .ellipsis := c4 _ _ D.i2z.symm S3.gz
    exact wpAny_setField_rec gz4 (by simp) fun g5 _ c5 => hE g5 e (fun c o a1 a2 a3 a4 q => c5.extBut _ _ a1 (c4 _ _ a4 (S3.kp c o a1 a2 a3 a4 q))) (out _ _ _ gz4 he c5)
theorem zp_item {Q : Option Value → Shared → Prop} (D : ZipApart z TI TO i1 i2 l1 l2) (S : Zs t1 t2 z TI TO i1 i2 l1 l2 xs ys s.heap .none a b k1 k2 s.heap) (hx : xs[k1]? = some x) (hy : ys[k2]? = some y)
    (hQ : ∀ h', Zs t1 t2 z TI TO i1 i2 l1 l2 xs ys s.heap (rawInt s.heap.objs.size) x y (k1 + 1) (k2 + 1) h' → IsPair h' s.heap.objs.size x y → h'.objs.size = s.heap.objs.size + 1 → Q (some (.ref s.heap.objs.size)) { s with heap := h' }) :
    wpAny (model prog w) A (pyNext (.ref z)) Q E s := by
  have ty : s.TypeIs (.ref z) "zip" := ⟨_, S.gz, rfl⟩
  unfold pyNext
  exact wpAny_bind (wpAny_attempt (wpAny_callSpecial?_slot (name := Str.ofString "__next__") ty F.slot_zip_next (wpAny_call_entry F.slot_zip_next ty F.entry_zip_next (zn_item D S hx hy fun g b1 b2 b3 => wpAny_pure (hQ g b1 b2 b3)) (F.args_zip_next_1 _))))
theorem zp_end {Q : Option Value → Shared → Prop} (hh : A.handled = none) (D : ZipApart z TI TO i1 i2 l1 l2) (S : Zs t1 t2 z TI TO i1 i2 l1 l2 xs ys s.heap .none a b k1 k2 s.heap) (hend : xs[k1]? = none ∨ ys[k2]? = none)
    (hQ : ∀ h', (∀ c o, c ≠ z → c ≠ TO → c ≠ i1 → c ≠ i2 → s.heap.get? c = some o → h'.get? c = some o) → Q none { s with heap := h' }) : wpAny (model prog w) A (pyNext (.ref z)) Q E s := by
  have ty : s.TypeIs (.ref z) "zip" := ⟨_, S.gz, rfl⟩
  unfold pyNext
  refine wpAny_bind (wpAny_attempt (wpAny_callSpecial?_slot (name := Str.ofString "__next__") ty F.slot_zip_next (wpAny_call_entry F.slot_zip_next ty F.entry_zip_next (zn_end hh D S hend fun g e kp he => ?_) (F.args_zip_next_1 _))))
  exact wpAny_bind (wpAny_isInstance (T := "StopIteration") (b := true) he isSubtype_stop (wpAny_pure (hQ _ kp)))

/-- the five objects that zip makes -/
def zH1 (h : Heap) (t1 : Bool) (l1 : Addr) : Heap := h.push { cls := .type (clsIt t1), data := .fields #[.ref l1, .int 0 0] }
def zH2 (h : Heap) (t1 t2 : Bool) (l1 l2 : Addr) : Heap := (zH1 h t1 l1).push { cls := .type (clsIt t2), data := .fields #[.ref l2, .int 0 0] }
def zH3 (h : Heap) (t1 t2 : Bool) (l1 l2 : Addr) : Heap := (zH2 h t1 t2 l1 l2).push { cls := .type "tuple", data := .seq #[.ref h.objs.size, .ref (zH1 h t1 l1).objs.size] }
def zH4 (h : Heap) (t1 t2 : Bool) (l1 l2 : Addr) : Heap := (zH3 h t1 t2 l1 l2).push { cls := .type "tuple", data := .seq #[.none, .none] }
def zH5 (h : Heap) (t1 t2 : Bool) (l1 l2 : Addr) : Heap := (zH4 h t1 t2 l1 l2).push { cls := .type "zip", data := .fields #[.none, .bool false, .bool false, .ref (zH2 h t1 t2 l1 l2).objs.size, .ref (zH3 h t1 t2 l1 l2).objs.size] }
theorem zip_made (t1 t2 : Bool) (l1 l2 : Addr) (xs ys : Array Value) : Meets (Builtin.«zip.__new__» ⟨[.type "zip", .ref l1, .ref l2], []⟩) (fun _ R s => SqAt t1 s.heap l1 xs ∧ SqAt t2 s.heap l2 ys ∧
      R (.ok (.ret (.ref (zH4 s.heap t1 t2 l1 l2).objs.size))) { s with heap := zH5 s.heap t1 t2 l1 l2 }) :=
  .of_wp fun prog w A R s hyp => by
    obtain ⟨hp, g, d, tk, os⟩ := s
    obtain ⟨c1, c2, rr⟩ := hyp
    have hsub := sub_zip
    have L1 : SqAt t1 (Shared.heap ⟨hp, g, d, tk, os⟩) l1 xs := c1
    have L2 : SqAt t2 (Shared.heap ⟨hp.push { cls := .type (clsIt t1), data := .fields #[.ref l1, .int 0 0] }, g, d, tk, os⟩) l2 ys := SqAt.go c2 fun o q => Heap.get?_push_of_some _ q
    wp_walk using it_new L1, it_new L2
    exact ⟨_, rfl, rr⟩
theorem zip_call {Q : Value → Shared → Prop} (c1 : SqAt t1 s.heap l1 xs) (c2 : SqAt t2 s.heap l2 ys)
    (hQ : ∀ h', Zs t1 t2 (s.heap.objs.size + 4) (s.heap.objs.size + 2) (s.heap.objs.size + 3) s.heap.objs.size (s.heap.objs.size + 1) l1 l2 xs ys s.heap .none .none .none 0 0 h' →
      (∀ c o, s.heap.get? c = some o → h'.get? c = some o) → Q (.ref (s.heap.objs.size + 4)) { s with heap := h' }) : wpAny (model prog w) A (call (.type "zip") [.ref l1, .ref l2]) Q E s := by
  refine callType_new F.called_zip (by decide) (F.typeCall_zip_2 _ _) (F.newCall_zip_2 _ _) (fun obj => F.args_object_init_3 obj _ _) F.entry_zip_new (zip_made t1 t2 l1 l2 xs ys) ⟨c1, c2, ?_⟩
  have n1 : (zH1 s.heap t1 l1).objs.size = s.heap.objs.size + 1 := Heap.size_push ..
  have n2 : (zH2 s.heap t1 t2 l1 l2).objs.size = s.heap.objs.size + 2 := by rw [zH2, Heap.size_push, n1]
  have n3 : (zH3 s.heap t1 t2 l1 l2).objs.size = s.heap.objs.size + 3 := by rw [zH3, Heap.size_push, n2]
  have n4 : (zH4 s.heap t1 t2 l1 l2).objs.size = s.heap.objs.size + 4 := by rw [zH4, Heap.size_push, n3]
  have up1 : ∀ c o, s.heap.get? c = some o → (zH1 s.heap t1 l1).get? c = some o := fun _ _ q => Heap.get?_push_of_some _ q
  have up2 : ∀ c o, (zH1 s.heap t1 l1).get? c = some o → (zH2 s.heap t1 t2 l1 l2).get? c = some o := fun _ _ q => Heap.get?_push_of_some _ q
  have up3 : ∀ c o, (zH2 s.heap t1 t2 l1 l2).get? c = some o → (zH3 s.heap t1 t2 l1 l2).get? c = some o := fun _ _ q => Heap.get?_push_of_some _ q
  have up4 : ∀ c o, (zH3 s.heap t1 t2 l1 l2).get? c = some o → (zH4 s.heap t1 t2 l1 l2).get? c = some o := fun _ _ q => Heap.get?_push_of_some _ q
  have up5 : ∀ c o, (zH4 s.heap t1 t2 l1 l2).get? c = some o → (zH5 s.heap t1 t2 l1 l2).get? c = some o := fun _ _ q => Heap.get?_push_of_some _ q
  have all : ∀ c o, s.heap.get? c = some o → (zH5 s.heap t1 t2 l1 l2).get? c = some o := fun c o q => up5 _ _ (up4 _ _ (up3 _ _ (up2 _ _ (up1 _ _ q))))
  have o1 : (zH5 s.heap t1 t2 l1 l2).get? s.heap.objs.size = some { cls := .type (clsIt t1), data := .fields #[.ref l1, .int 0 0] } := up5 _ _ (up4 _ _ (up3 _ _ (up2 _ _ (Heap.get?_push_size _ rfl))))
  have o2 : (zH5 s.heap t1 t2 l1 l2).get? (zH1 s.heap t1 l1).objs.size = some { cls := .type (clsIt t2), data := .fields #[.ref l2, .int 0 0] } := up5 _ _ (up4 _ _ (up3 _ _ (Heap.get?_push_size _ rfl)))
  have o3 : (zH5 s.heap t1 t2 l1 l2).get? (zH2 s.heap t1 t2 l1 l2).objs.size = some { cls := .type "tuple", data := .seq #[.ref s.heap.objs.size, .ref (zH1 s.heap t1 l1).objs.size] } := up5 _ _ (up4 _ _ (Heap.get?_push_size _ rfl))
  have o4 : (zH5 s.heap t1 t2 l1 l2).get? (zH3 s.heap t1 t2 l1 l2).objs.size = some { cls := .type "tuple", data := .seq #[.none, .none] } := up5 _ _ (Heap.get?_push_size _ rfl)
  have o5 : (zH5 s.heap t1 t2 l1 l2).get? (zH4 s.heap t1 t2 l1 l2).objs.size = some { cls := .type "zip", data := .fields #[.none, .bool false, .bool false, .ref (zH2 s.heap t1 t2 l1 l2).objs.size, .ref (zH3 s.heap t1 t2 l1 l2).objs.size] } := Heap.get?_push_size _ rfl
  rw [n2, n3, n4] at o5
  rw [n3] at o4
  rw [n1, n2] at o3
  rw [n1] at o2
  have w1 : ItAt t1 (zH5 s.heap t1 t2 l1 l2) s.heap.objs.size l1 0 := by cases t1 <;> exact ⟨_, o1, rfl, rfl⟩
  have w2 : ItAt t2 (zH5 s.heap t1 t2 l1 l2) (s.heap.objs.size + 1) l2 0 := by cases t2 <;> exact ⟨_, o2, rfl, rfl⟩
  show _ ∧ _
  rw [n4]
  exact ⟨⟨_, o5, rfl⟩, hQ _ ⟨o5, o3, o4, w1, w2, c1.go (all _), c2.go (all _), fun c o _ _ _ _ q => all c o q⟩ all⟩
end

/-! ### as an iterable of the data layer -/
/-- the sequences at a and b as they stand at each turn, the items in new pairs -/
def ItzD (K : PySem.W.Frag) (t1 t2 : Bool) (a b : Addr) : It :=
  ⟨fun i H => ∃ (xs ys : List V) (x y : V), Sq K H t1 a xs ∧ Sq K H t2 b ys ∧ xs[i]? = some x ∧ ys[i]? = some y,
   fun i H v H' => ∃ T x y, v = .ref T ∧ H T = none ∧ H' = upd H T (.tup [x, y]) ∧ (∀ xs, Sq K H t1 a xs → xs[i]? = some x) ∧ ∀ ys, Sq K H t2 b ys → ys[i]? = some y,
   fun i H => ∃ xs ys : List V, Sq K H t1 a xs ∧ Sq K H t2 b ys ∧ (xs.length ≤ i ∨ ys.length ≤ i)⟩
theorem inv_sq {X : Cx} {pins : List (Addr × Obj)} {σ : L2.St} {H : Hp} {s : Shared} {t : Bool} {a : Addr} {xs : List V} (I : Inv X pins σ H s) (q : Sq X.K H t a xs) : ∃ its, Vals xs its ∧ SqAt t s.heap a its.toArray := by
  cases t
  · obtain ⟨its, rv, p, _⟩ := I.list (SqL.of q)
    exact ⟨its, rv, p.isList⟩
  · obtain ⟨its, rv, p, _⟩ := I.tuple q
    exact ⟨its, rv, p⟩
theorem sq_inj {X : Cx} {pins : List (Addr × Obj)} {σ : L2.St} {H : Hp} {s : Shared} {t : Bool} {a : Addr} {xs ys : List V} (I : Inv X pins σ H s) (q : Sq X.K H t a xs) (q' : Sq X.K H t a ys) : xs = ys := by
  cases t
  · exact I.list_inj (SqL.of q) (SqL.of q')
  · exact I.tuple_inj q q'
theorem turn_zd {P : Program} {w : World} {K : PySem.W.Frag} {elts : List Expr} {kk : Nat} {tpos : Pos} {t1 t2 : Bool} {a b z TI TO i1 i2 : Addr} (D : ZipApart z TI TO i1 i2 a b) :
    Turn P w K (.Tuple elts kk tpos) (ItzD K t1 t2 a b) [z, TI, TO, i1, i2] z (fun i h => IsZip h z TI TO .none ∧ IsPair h TI (.ref i1) (.ref i2) ∧ (∃ x y, IsPair h TO x y) ∧ ItAt t1 h i1 a i ∧ ItAt t2 h i2 b i) where
  mem := List.mem_cons_self
  obj := fun i h ⟨gz, gI, ⟨_, _, gO⟩, u1, u2⟩ c hc => by
    simp only [List.mem_cons, List.not_mem_nil, or_false] at hc
    rcases hc with rfl | rfl | rfl | rfl | rfl
    · exact ⟨_, gz, fun v q => nomatch q⟩
    · exact ⟨_, gI, fun v q => nomatch q⟩
    · exact ⟨_, gO, fun v q => nomatch q⟩
    · exact u1.obj
    · exact u2.obj
  keep := fun i h h' ⟨gz, gI, ⟨x, y, gO⟩, u1, u2⟩ k =>
    ⟨k z (by simp) _ gz, k TI (by simp) _ gI, ⟨x, y, k TO (by simp) _ gO⟩, u1.go fun o => k i1 (by simp) o, u2.go fun o => k i2 (by simp) o⟩
  item := by
    rintro X rfl rfl rfl hc i pins s σ H E I hf ⟨gz, gI, ⟨x0, y0, gO⟩, u1, u2⟩ ⟨xs, ys, x, y, hqx, hqy, hx, hy⟩
    obtain ⟨vs1, rv, p1⟩ := inv_sq I hqx
    obtain ⟨vs2, rv2, p2⟩ := inv_sq I hqy
    obtain ⟨u, hu, ru⟩ := rv.get hx
    obtain ⟨u2', hu2, ru2⟩ := rv2.get hy
    have S : Zs t1 t2 z TI TO i1 i2 a b vs1.toArray vs2.toArray s.heap .none x0 y0 i i s.heap := ⟨gz, gI, gO, u1, u2, p1, p2, fun _ _ _ _ _ _ q => q⟩
    refine zp_item D S (x := u) (y := u2') (by simpa using hu) (by simpa using hu2) fun g SG pr sz => ?_
    refine ⟨_, rfl, wpAny_letOwnedTupleGo_zip (s := { s with heap := g }) SG.gz fun g2 z2 sb => ?_⟩
    have S2 := SG.onZ D sb.extBut z2
    have old : ∀ {c o}, s.heap.get? c = some o → c < s.heap.objs.size := fun q => Heap.lt_size q
    have pr2 : IsPair g2 s.heap.objs.size u u2' := sb.extBut _ _ (Nat.ne_of_gt (old gz)) pr
    have new : ObjOk X.prog X.w (upd H s.heap.objs.size (.tup [x, y])) g2 s.heap.objs.size (.tup [x, y]) := ⟨Nat.le_of_ble_eq_true rfl, [u, u2'], .cons ru (.cons ru2 .nil), ⟨_, pr2, rfl, _, rfl⟩⟩
    have I2 : Inv X pins σ (upd H s.heap.objs.size (.tup [x, y])) { s with heap := g2 } :=
      I.turnedNew (t' := s.toks) (ch := [z, TI, TO, i1, i2]) (fun c o hb q => by
        simp only [List.mem_cons, List.not_mem_nil, or_false, not_or] at hb
        exact S2.kp c o hb.1 hb.2.2.1 hb.2.2.2.1 hb.2.2.2.2 q) hf (Nat.le_refl _) new
    refine ⟨.ref s.heap.objs.size, _, I2, rfl, ⟨_, x, y, rfl, I.hok.fresh (Nat.le_refl _), rfl, fun l hl => by rw [sq_inj I hl hqx]; exact hx, fun l hl => by rw [sq_inj I hl hqy]; exact hy⟩, ⟨S2.gz, S2.gI, ⟨u, u2', S2.gO⟩, S2.u1, S2.u2⟩, fun c hcm => ?_⟩
    have lt : c < s.heap.objs.size := by
      have hcm2 := hcm
      simp only [List.mem_cons, List.not_mem_nil, or_false] at hcm2
      obtain ⟨_, f1, _⟩ := u1.obj
      obtain ⟨_, f2, _⟩ := u2.obj
      rcases hcm2 with rfl | rfl | rfl | rfl | rfl
      · exact old gz
      · exact old gI
      · exact old gO
      · exact old f1
      · exact old f2
    rw [upd_ne (Nat.ne_of_lt lt)]
    exact (hf c hcm).1
  done := by
    rintro X rfl rfl rfl hc i pins s σ H E I hf ⟨gz, gI, ⟨x0, y0, gO⟩, u1, u2⟩ ⟨xs, ys, hqx, hqy, hend⟩
    obtain ⟨vs1, rv, p1⟩ := inv_sq I hqx
    obtain ⟨vs2, rv2, p2⟩ := inv_sq I hqy
    have n1 := rv.length
    have n2 := rv2.length
    have S : Zs t1 t2 z TI TO i1 i2 a b vs1.toArray vs2.toArray s.heap .none x0 y0 i i s.heap := ⟨gz, gI, gO, u1, u2, p1, p2, fun _ _ _ _ _ _ q => q⟩
    refine zp_end (I.ok.hd hc) D S (hend.imp (fun q => by simp; omega) fun q => by simp; omega) fun g kp => ⟨rfl, I.turnedL (t' := s.toks) (ch := [z, TI, TO, i1, i2]) (fun c o hb q => ?_) hf⟩
    simp only [List.mem_cons, List.not_mem_nil, or_false, not_or] at hb
    exact kp c o hb.1 hb.2.2.1 hb.2.2.2.1 hb.2.2.2.2 q
  self := fun A i s Q E st h => wpAny_pyIter_zip st.1 h

def tZip (K : PySem.W.Frag) (t1 t2 : Bool) (ta : TA) : TI := fun σ H R => ta σ H fun vs H1 => ∃ a b xs ys, vs = [.ref a, .ref b] ∧ Sq K H1 t1 a xs ∧ Sq K H1 t2 b ys ∧ R (ItzD K t1 t2 a b) H1
theorem pi_zipD {X : Cx} {e e2 : Expr} {ta : TA} {p pos tpos : Pos} {elts : List Expr} {kk : Nat} {t1 t2 : Bool} (hg : Gl X "zip") (hm : X.mg "zip" = none) (ha : PA X [e, e2] ta)
    (hs : starEach [e, e2] X.env = (false, eval e X.env) :: starEach [e2] X.env) (hpl : (backTo pos (starEach [e2] X.env)).any (·.1) = false) : PI X (.Tuple elts kk tpos) (.Call (.Name "zip" p) [e, e2] [] pos) (tZip X.K t1 t2 ta) := by
  refine ⟨fun pins s σ H R I h => Call_ (ld_blt I hg hm PyProof.Rows.boot_zip (PyProof.Rows.callWith_type1 (thn (ha.run pos pins s σ H _ I h) fun us s1 ⟨vs, H1, I1, r1, a, b, xs, ys, ex, qx, qy, rr⟩ => ?_) hs hpl))⟩
  subst ex
  cases r1 with
  | cons r r2 =>
  cases r2 with
  | cons r' r2 =>
  cases r2; cases r; cases r'
  obtain ⟨vs1, _, p1⟩ := inv_sq I1 qx
  obtain ⟨vs2, _, p2⟩ := inv_sq I1 qy
  have lt : ∀ {t : Bool} {l : Addr} {zs : Array Value}, SqAt t s1.heap l zs → l < s1.heap.objs.size := fun {t l zs} q => by cases t <;> (obtain ⟨o, ho, _⟩ := q; exact Heap.lt_size ho)
  refine zip_call p1 p2 fun g S kp => wpAny_pyIter_zip S.gz ⟨s1.heap.objs.size + 4, [s1.heap.objs.size + 4, s1.heap.objs.size + 2, s1.heap.objs.size + 3, s1.heap.objs.size, s1.heap.objs.size + 1], _, _, H1, rfl, I1.kept (t' := s1.toks) kp, turn_zd (PySem.W.ktu_apart s1.heap.objs.size a b (lt p1) (lt p2)), ⟨S.gz, S.gI, ⟨_, _, S.gO⟩, S.u1, S.u2⟩, fun c hc => ?_, rr⟩
  have le : s1.heap.objs.size ≤ c := by
    simp only [List.mem_cons, List.not_mem_nil, or_false] at hc
    rcases hc with rfl | rfl | rfl | rfl | rfl <;> first | exact Nat.le_refl _ | exact Nat.le_add_right _ _
  exact I1.fpOk le (I1.hok.fresh le)
/-- zip of two sequences of one length -/
theorem di_zip {X : Cx} {δ : List Slot} {e e2 : Expr} {p pos tpos : Pos} {elts : List Expr} {kk : Nat} {t1 t2 : Bool} {ds es : List Dt} (hm : X.mg "zip" = none) (ha : DE X δ e (.sq t1 ds)) (hb : DE X δ e2 (.sq t2 es)) (hl : ds.length = es.length) (hg : Gl X "zip" := by rfl)
    (hs : starEach (e :: [e2]) X.env = (false, eval e X.env) :: starEach [e2] X.env := by rfl) (hs2 : starEach (e2 :: []) X.env = (false, eval e2 X.env) :: starEach [] X.env := by rfl) (hpl : (backTo pos (starEach [e2] X.env)).any (·.1) = false := by rfl) :
    DI X δ (.Tuple elts kk tpos) (.Call (.Name "zip" p) [e, e2] [] pos) (List.zipWith (fun x y => .sq true [x, y]) ds es) :=
  imI (pi_zipD (t1 := t1) (t2 := t2) hg hm (da_cons ha (da_cons hb da_nil hs2) hs) hs hpl) fun σ H R ⟨S, O, E, k⟩ => ⟨S, O, E, fun vs H1 e1 i1 => by
    obtain ⟨v, v', rfl, j1, j2⟩ := i1.two_inv
    simp only [Is] at j1 j2
    obtain ⟨a, xs, rfl, q1, r1⟩ := j1
    obtain ⟨b, ys, rfl, q2, r2⟩ := j2
    refine ⟨a, b, xs, ys, rfl, (hid_le _ _).sq q1, (hid_le _ _).sq q2, k _ H1 e1 fun n M' H' ex tr hn => ?_⟩
    rw [List.length_zipWith, ← hl, Nat.min_self] at hn
    have w1 : Sq X.K H' t1 a xs := (hid_le _ _).sq (ex.sq q1)
    have w2 : Sq X.K H' t2 b ys := (hid_le _ _).sq (ex.sq q2)
    refine ⟨fun hz => ⟨xs, ys, w1, w2, .inl ?_⟩, fun d hd => ?_⟩
    · rw [List.length_zipWith, ← hl, Nat.min_self] at hz
      rw [r1.length, hz]; exact Nat.le_refl _
    · have hlt := lt_of_get hd
      rw [List.length_zipWith, ← hl, Nat.min_self] at hlt
      have hlt2 : n < es.length := by omega
      have g1 : ds[n]? = some ds[n] := by simp [hlt]
      have g2 : es[n]? = some es[n] := by simp [hlt2]
      have ed : d = .sq true [ds[n], es[n]] := by
        rw [List.getElem?_zipWith, g1, g2] at hd
        exact (Option.some.inj hd).symm
      obtain ⟨x, hx, ix⟩ := (r1.mono ex).get g1
      obtain ⟨y, hy, iy⟩ := (r2.mono ex).get g2
      refine ⟨⟨xs, ys, x, y, w1, w2, hx, hy⟩, ?_⟩
      rintro _ _ ⟨T, x', y', rfl, hT, rfl, f1, f2⟩
      have := f1 xs w1; rw [hx] at this; cases this
      have := f2 ys w2; rw [hy] at this; cases this
      have nt : T ∉ M' := fun hM => tr T hM hT
      have en : Ex (hid M' H') (hid M' (upd H' T (.tup [x, y]))) := hid_ex (Ex.new hT)
      refine ⟨Ex.new hT, ?_⟩
      rw [ed]
      simp only [Is]
      exact ⟨T, [x, y], rfl, .inl (.inl (by rw [hid_out nt]; exact upd_same)), (IsAll.one (ix.mono en)).append (IsAll.one (iy.mono en))⟩⟩
/-- for a, b in .. -/
theorem dss_for2 {X : Cx} {δ : List Slot} {iter : Expr} {items : List Dt} {x : Str} {p pos : Pos} {rest : List Stmt} {D : DEnds} {k : Nat} (i j : Nat) {y : Str} {py pt : Pos} {body : List Stmt} {kk : Nat} (P : Plc X k) (hN : X.N[i]? = some x) (hN2 : X.N[j]? = some y)
    (hi : DI X δ (.Tuple [.Name x p, .Name y py] kk pt) iter items) (Inv : Nat → List Slot → Prop) (h0 : Inv 0 δ)
    (hs : ∀ n d δ', items[n]? = some d → Inv n δ' → ∃ d1 d2, d = .sq true [d1, d2] ∧ DSs X ((δ'.set i (.sh d1)).set j (.sh d2)) body { nx := Inv (n + 1), ct := Inv (n + 1), bk := fun δ' => DSs X δ' rest D, rt := D.rt })
    (hd : ∀ δ', Inv items.length δ' → DSs X δ' rest D) (hs0 : ∀ x, foldedSetIterable iter X.env x = pure x := by intro _; rfl)
    (hf : X.fn x = true ∨ X.env.scope.names.lookup x = some .local := by first | exact .inl rfl | exact .inr rfl | assumption) (hf2 : X.fn y = true ∨ X.env.scope.names.lookup y = some .local := by first | exact .inl rfl | exact .inr rfl | assumption)
    (hx : Loc X.env.scope x := by first | exact Or.inl rfl | exact Or.inr rfl) (hy : Loc X.env.scope y := by first | exact Or.inl rfl | exact Or.inr rfl) : DSs X δ (.For (.Tuple [.Name x p, .Name y py] kk pt) iter body [] pos :: rest) D :=
  dss_cons (ds_for2 i j P hN hx hN2 hy hi Inv h0 hs hd hs0 hf hf2)
end Dat

set_option Elab.async false
set_option linter.all false
set_option maxRecDepth 100000
set_option maxHeartbeats 2000000
/-! enumerate over a list; comprehensions whose target is a pair of names -/
namespace Dat
open PySem L2
def enD (ds : List Dt) : List Dt := ds.zipIdx.map fun p => .sq true [.int (p.2 : Int), p.1]
theorem enD_len {ds : List Dt} : (enD ds).length = ds.length := by simp [enD]
theorem enD_get {ds : List Dt} {n : Nat} {d : Dt} (h : (enD ds)[n]? = some d) : ∃ e, ds[n]? = some e ∧ d = .sq true [.int (n : Int), e] := by
  unfold enD at h
  rw [List.getElem?_map, List.getElem?_zipIdx] at h
  cases q : ds[n]? with
  | none => rw [q] at h; simp at h
  | some e => rw [q] at h; simp at h; exact ⟨e, rfl, h.symm⟩
theorem set4 {α : Type} {l : List α} {i j : Nat} {u v a b : α} (h : i ≠ j) : (((l.set j u).set i v).set i a).set j b = (l.set i a).set j b := by
  rw [List.set_set, List.set_comm u a h.symm, List.set_set]
section
variable {X : Cx} {δ : List Slot} {iter elt : Expr} {items : List Dt} {x y : Str} {p py pt pos : Pos} {kk : Nat} {scope : Scope} {k : Nat}
theorem di_enum {e : Expr} {elts : List Expr} {tpos : Pos} {ds : List Dt} (hm : X.mg "enumerate" = none) (ha : DE X δ e (.sq false ds)) (hg : Gl X "enumerate" := by rfl)
    (hs : starEach [e] X.env = [(false, eval e X.env)] := by rfl) (he : starEach (e :: []) X.env = (false, eval e X.env) :: starEach [] X.env := by rfl) :
    DI X δ (.Tuple elts kk tpos) (.Call (.Name "enumerate" p) [e] [] pos) (enD ds) :=
  imI (pi_enum hg hm (da_cons ha da_nil he) hs) fun σ H R ⟨S, O, E, q⟩ => ⟨S, O, E, fun vs H1 e1 i1 => by
    obtain ⟨v, rfl, j1⟩ := i1.one_inv
    simp only [Is] at j1
    obtain ⟨a, xs, rfl, q1, r1⟩ := j1
    refine ⟨a, xs, rfl, SqL.of (hid_le _ _ _ _ q1), q _ H1 e1 fun n M' H' ex tr hn => ?_⟩
    rw [enD_len] at hn
    have w1 : SqL X.K H' a xs := SqL.of (hid_le _ _ _ _ (ex _ _ q1))
    refine ⟨fun hz => ⟨xs, w1, ?_⟩, fun d hd => ?_⟩
    · rw [enD_len] at hz
      rw [r1.length, hz]; exact Nat.le_refl _
    · obtain ⟨d', g1, rfl⟩ := enD_get hd
      obtain ⟨u, hu, iu⟩ := (r1.mono ex).get g1
      refine ⟨⟨xs, u, w1, hu⟩, ?_⟩
      rintro _ _ ⟨T, u', rfl, hT, rfl, f1⟩
      have := f1 xs w1; rw [hu] at this; cases this
      have nt : T ∉ M' := fun hM => tr T hM hT
      have en : Ex (hid M' H') (hid M' (upd H' T (.tup [.int (n : Nat), u]))) := hid_ex (Ex.new hT)
      refine ⟨Ex.new hT, ?_⟩
      simp only [Is]
      exact ⟨T, [.int (n : Nat), u], rfl, .inl (.inl (by rw [hid_out nt]; exact upd_same)), (IsAll.one is_int).append (IsAll.one (iu.mono en))⟩⟩
theorem turns2 {i j : Nat} (hij : i ≠ j) {d d1 d2 : Dt} {fl : List Expr} {o : Option Dt} (hd : d = .sq true [d1, d2]) (ht : ∀ s H C cl fp, PTs (Blk X scope s H C cl fp) fl (tDT X.K ((δ.set i (.sh d1)).set j (.sh d2)) o.isSome))
    (he : ∀ r, o = some r → ∀ s H C cl fp, DE (Blk X scope s H C cl fp) ((δ.set i (.sh d1)).set j (.sh d2)) elt r) :
    Turns X δ scope (gTup X.K 2 (gCons (gName i) (gCons (gName j) gNil))) ([(x, i), (y, j)].map (·.2)) fl elt d o := by
  subst hd
  refine ⟨_, fun S O H σ v E iv Q q => ?_, ht, he⟩
  simp only [Is] at iv
  obtain ⟨a, xs, rfl, q1, r1⟩ := iv
  obtain ⟨v1, v2, rfl, i1, i2⟩ := r1.two_inv
  refine ⟨a, _, rfl, (hid_le _ _).sqT q1, rfl, v1, _, rfl, v2, _, rfl, rfl, q _ ?_ ?_⟩
  · have := (E.setSh i i1).setSh j i2
    simp only [wipeD, List.map_cons, List.map_nil] at this
    rwa [set4 hij] at this
  · simp only [L2.wipe, List.map_cons, List.map_nil]
    rw [set4 hij, List.set_set, List.set_comm _ _ hij, List.set_set]
theorem ds_lc2 (l i j : Nat) {z : Str} {zp spos : Pos} {D : DEnds} (P : Plc X k) (hz0 : X.N[l]? = some z) (hyl : X.env.scope.names.lookup z = some .local) (hsw : swapsWith (.ListComp elt [⟨.Tuple [.Name x p, .Name y py] kk pt, iter, [], 0⟩] scope pos) (some (.Name z zp)) spos.line X.env = pure true)
    (hi : DI X δ (.Tuple [.Name x p, .Name y py] kk pt) iter items) (ok : BlkOk X.N X.env.scope scope [(x, i), (y, j)]) (hg : ∀ s H C cl fp, PG (Blk X scope s H C cl fp) (.Tuple [.Name x p, .Name y py] kk pt) (gTup X.K 2 (gCons (gName i) (gCons (gName j) gNil)))) (hij : i ≠ j) (hz : items.length ≤ sizeLine)
    (rs : List Dt) (hl : rs.length = items.length) (hs : ∀ (n : Nat) d r, items[n]? = some d → rs[n]? = some r → ∃ d1 d2, d = .sq true [d1, d2] ∧ ∀ s H C cl fp, DE (Blk X scope s H C cl fp) ((δ.set i (.sh d1)).set j (.sh d2)) elt r) (h : D.nx (δ.set l (.ow rs))) (hs0 : ∀ x, foldedSetIterable iter X.env x = pure x := by intro _; rfl) :
    DS X δ (.Assign [.Name z zp] (.ListComp elt [⟨.Tuple [.Name x p, .Name y py] kk pt, iter, [], 0⟩] scope pos) spos) D := by
  refine ds_lc0 (ifs := []) P hz0 hyl hsw hi ok hg hs0 (rs.map some) (by rw [List.length_map, hl]) hz (fun n d o h1 h2 => ?_) (by rw [filterMap_somes]; exact h)
  obtain ⟨r, h3, rfl⟩ := map_some_get (β := Unit) h2
  obtain ⟨d1, d2, e, q⟩ := hs n d r h1 h3
  exact turns2 hij e (fun _ _ _ _ _ => pts_nilD) fun r' e => by cases e; exact q
end
end Dat

set_option Elab.async false
set_option linter.all false
set_option maxRecDepth 100000
set_option maxHeartbeats 4000000
/-! plain facts that many laws share: sizes, fractions, a script's cells and digits, texts of numbers -/
namespace Pl
open PySem L2 Dat

def B (n : Nat) (i : Int) : Prop := i.natAbs < 2 ^ n
instance {n : Nat} {i : Int} : Decidable (B n i) := by unfold B; infer_instance
instance {i j : Int} : Decidable (CPow i j) := by unfold CPow; infer_instance
theorem B.mono {n m : Nat} {i : Int} (h : B n i) (e : n ≤ m) : B m i := Nat.lt_of_lt_of_le h (Nat.pow_le_pow_right (by decide) e)
theorem B.neg {n : Nat} {i : Int} (h : B n i) : B n (-i) := by unfold B at *; rwa [Int.natAbs_neg]
theorem B.mul {n m : Nat} {i j : Int} (h : B n i) (g : B m j) : B (n + m) (i * j) := L2.wide_lt h g
theorem B.add {n : Nat} {i j : Int} (h : B n i) (g : B n j) : B (n + 1) (i + j) := by
  unfold B at *
  have := Int.natAbs_add_le i j
  rw [Nat.pow_succ]; omega
theorem B.sub {n : Nat} {i j : Int} (h : B n i) (g : B n j) : B (n + 1) (i - j) := by
  have := h.add g.neg
  rwa [← Int.sub_eq_add_neg] at this
theorem B.le {n : Nat} {i j : Int} (h : B n j) (e : i.natAbs ≤ j.natAbs) : B n i := Nat.lt_of_le_of_lt e h
theorem B.mulW {n m : Nat} {i j : Int} (h : B n i) (g : B m j) (e : n + m ≤ 999990) : CMulW i j := by
  refine wide_mul (a := n + 1) (b := m + 1) ?_ ?_ (by omega) (by omega) (by omega)
  · exact (h.mono (by omega) : B (n + 1) i)
  · exact (g.mono (by omega) : B (m + 1) j)
theorem B.log {n : Nat} {i : Int} (h : B n i) (e : n < 9000) : i.natAbs.log2 < 9000 := by
  have := PySem.Flt.log2_lt_of (n := i.natAbs) (k := n + 1) (by omega) (h.mono (by omega) : B (n + 1) i)
  omega
def rat (t b : Int) : Int × Int :=
  let g : Int := (Nat.gcd t.natAbs b.natAbs : Nat)
  let g' := if b < 0 then -g else g
  (t.fdiv g', b.fdiv g')
def frK (k : Bool) (p : Int × Int) : Dt := .sq k [.int p.1, .int p.2]
abbrev fr (p : Int × Int) : Dt := frK true p
def R_ratio (ds : List Dt) (r : Ret) : Prop := ∃ t b : Int, b ≠ 0 ∧ B 8990 b ∧ ds = [.int t, .int b] ∧ r = .sh (fr (rat t b))
theorem gcd_div {t b : Int} (hb : b ≠ 0) (h : B 8990 b) : CDivG 0 (Nat.gcd t.natAbs b.natAbs : Nat) ∧ CDivG 0 (-(Nat.gcd t.natAbs b.natAbs : Nat) : Int) := by
  have h0 : 0 < Nat.gcd t.natAbs b.natAbs := Nat.gcd_pos_of_pos_right _ (by omega)
  have h1 : Nat.gcd t.natAbs b.natAbs ≤ b.natAbs := Nat.gcd_le_right _ (by omega)
  have h2 : B 8990 ((Nat.gcd t.natAbs b.natAbs : Nat) : Int) := h.le (by simpa using h1)
  exact ⟨⟨by omega, h2.log (by decide)⟩, ⟨by omega, h2.neg.log (by decide)⟩⟩
/-- two fractions as arguments: their numbers within n bits -/
structure Two (ds : List Dt) (p q : Int × Int) (n : Nat) : Prop where
  ds : ∃ k l, ds = [frK k p, frK l q]
  p1 : B n p.1
  p2 : B n p.2
  q1 : B n q.1
  q2 : B n q.2
  pp : 0 < p.2
  qp : 0 < q.2
def R_plus (ds : List Dt) (r : Ret) : Prop := ∃ p q : Int × Int, Two ds p q 100000 ∧ B 8990 (p.2 * q.2) ∧ r = .sh (fr (rat (p.1 * q.2 + q.1 * p.2) (p.2 * q.2)))
def R__law_is (ds : List Dt) (r : Ret) : Prop := ∃ d e : Dt, shC d ∧ shC e ∧ ds = [d, e] ∧ r = .sh (.bl (decide (shown d = shown e)))
def isWhole : Dt → Bool
  | .int _ => true
  | _ => false
def R__law_whole (ds : List Dt) (r : Ret) : Prop := ∃ d : Dt, flatK d = true ∧ ds = [d] ∧ r = .sh (.bl (isWhole d))

/-- after n turns, from l0, r0 -/
structure Eu (l0 r0 n l r : Nat) : Prop where
  g : Nat.gcd l r = Nat.gcd l0 r0
  far : r = 0 ∨ n = 0 ∧ l = l0 ∧ r = r0 ∨ 0 < n ∧ r < l ∧ l * r * 2 ^ (n - 1) ≤ l0 * r0
theorem Eu.start (l r : Nat) : Eu l r 0 l r := ⟨rfl, .inr (.inl ⟨rfl, rfl, rfl⟩)⟩
theorem Eu.turn {l0 r0 n l r : Nat} (h : Eu l0 r0 n l r) (hr : 0 < r) : Eu l0 r0 (n + 1) r (l % r) := by
  refine ⟨?_, ?_⟩
  · rw [← h.g, Nat.gcd_comm l r, Nat.gcd_rec r l, Nat.gcd_comm]
  · have hm := Nat.mod_lt l hr
    have hd : l % r + r * (l / r) = l := Nat.mod_add_div l r
    rcases h.far with h0 | ⟨rfl, rfl, rfl⟩ | ⟨hn, hlt, hb⟩
    · omega
    · refine .inr (.inr ⟨Nat.succ_pos _, hm, ?_⟩)
      simp
      have : l % r ≤ l := Nat.mod_le _ _
      calc r * (l % r) ≤ r * l := Nat.mul_le_mul_left _ this
        _ = l * r := Nat.mul_comm _ _
    · refine .inr (.inr ⟨Nat.succ_pos _, hm, ?_⟩)
      have h1 : 1 ≤ l / r := Nat.div_pos (Nat.le_of_lt hlt) hr
      have h2 : 2 * (l % r) ≤ l := by
        have : r * 1 ≤ r * (l / r) := Nat.mul_le_mul_left _ h1
        omega
      have e : 2 ^ (n + 1 - 1) = 2 * 2 ^ (n - 1) := by
        have : n + 1 - 1 = (n - 1) + 1 := by omega
        rw [this, Nat.pow_succ, Nat.mul_comm]
      rw [e]
      calc r * (l % r) * (2 * 2 ^ (n - 1)) = (r * (2 * (l % r))) * 2 ^ (n - 1) := by
            simp only [Nat.mul_assoc, Nat.mul_left_comm, Nat.mul_comm]
        _ ≤ (r * l) * 2 ^ (n - 1) := Nat.mul_le_mul_right _ (Nat.mul_le_mul_left _ h2)
        _ = l * r * 2 ^ (n - 1) := by rw [Nat.mul_comm r l]
        _ ≤ l0 * r0 := hb
theorem Eu.last {l0 r0 l r m : Nat} (h : Eu l0 r0 20000 l r) (hl : l0 < 2 ^ m) (hr : r0 < 2 ^ m) (hm : m ≤ 9990) : r = 0 := by
  rcases h.far with h0 | ⟨h0, _⟩ | ⟨_, hlt, hb⟩
  · exact h0
  · exact absurd h0 (by decide)
  · refine Nat.eq_zero_of_not_pos fun hp => ?_
    have h1 : l0 * r0 < 2 ^ m * 2 ^ m := Nat.mul_lt_mul'' hl hr
    have h2 : 2 ^ m * 2 ^ m ≤ 2 ^ 19999 := by
      rw [← Nat.pow_add]; exact Nat.pow_le_pow_right (by decide) (by omega)
    have h3 : 1 * 2 ^ 19999 ≤ l * r * 2 ^ (20000 - 1) := Nat.mul_le_mul (Nat.mul_pos (by omega) hp) (Nat.le_refl _)
    omega
def R__law_gcd (ds : List Dt) (r : Ret) : Prop := ∃ a b : Int, B 9990 a ∧ B 9990 b ∧ ds = [.int a, .int b] ∧ r = .sh (.int (Nat.gcd a.natAbs b.natAbs : Nat))
def R__law_ratio (ds : List Dt) (r : Ret) : Prop := ∃ t b : Int, b ≠ 0 ∧ B 9990 t ∧ B 8990 b ∧ ds = [.int t, .int b] ∧ r = .sh (fr (rat t b))
def isRat (a b : Int) : Bool := decide (1 ≤ b ∧ Nat.gcd a.natAbs b.natAbs = 1)
def R__law_is_ratio (ds : List Dt) (r : Ret) : Prop := ∃ a b : Int, B 9990 a ∧ B 9990 b ∧ ds = [fr (a, b)] ∧ r = .sh (.bl (isRat a b))

theorem atI_get {α : Type} {l : List α} {i : Int} {v : α} (h0 : 0 ≤ i) (h : l[i.toNat]? = some v) : atI l i = some v := by
  have hl : i.toNat < l.length := lt_of_get h
  unfold atI ixN
  rw [if_pos h0, if_pos (by omega)]
  exact h
theorem B.of_lt {n : Nat} {i : Int} (h : i.natAbs < 2 ^ n) : B n i := h
theorem B.bd {n : Nat} {i : Int} (h0 : 0 ≤ i) {m : Int} (h1 : i ≤ m) (hm : B n m) : B n i := hm.le (by omega)
theorem map_int_get {ns : List Int} {n : Nat} {d : Dt} (h : (ns.map Dt.int)[n]? = some d) : ∃ v, ns[n]? = some v ∧ d = .int v := by
  rw [List.getElem?_map] at h
  cases e : ns[n]? with
  | none => rw [e] at h; cases h
  | some v => rw [e] at h; simp at h; exact ⟨v, rfl, h.symm⟩
def seedF (ns : List Int) : Int := ns.foldl (fun s c => (s * 31 + c % 1000003) % 1000003) 17
def cellZ (ns : List Int) (k : Int) : Int := if k < ns.length then ns.getD k.toNat 0 else (seedF ns + 7) * (k + 3) * 69621 % 2147483647
theorem seed_bd (ns : List Int) : 0 ≤ seedF ns ∧ seedF ns < 1000003 := by
  unfold seedF
  suffices h : ∀ (l : List Int) (s : Int), 0 ≤ s → s < 1000003 → 0 ≤ l.foldl (fun s c => (s * 31 + c % 1000003) % 1000003) s ∧ l.foldl (fun s c => (s * 31 + c % 1000003) % 1000003) s < 1000003 from h ns 17 (by decide) (by decide)
  intro l
  induction l with
  | nil => intro s h1 h2; exact ⟨h1, h2⟩
  | cons c l ih => intro s h1 h2; exact ih _ (Int.emod_nonneg _ (by decide)) (Int.emod_lt_of_pos _ (by decide))
def R__law_cell (ds : List Dt) (r : Ret) : Prop := ∃ (ns : List Int) (k : Int), 0 ≤ k ∧ k ≤ 1000 ∧ ds = [.scr ns, .int k] ∧ r = .sh (.int (cellZ ns k))
def dA : Int → List Int → List Int
  | _, [] => []
  | r, s :: ss => r % s :: dA (r / s) ss
def rA : Int → List Int → Int
  | r, [] => r
  | r, s :: ss => rA (r / s) ss
def sB (seed k : Int) : Int := (seed * 48271 + 974711 * k + 12345) % 2147483647
def sT (seed : Int) : Int := seed * (seed / 65537 + 3) % 2147483629
def dB : Int → Int → List Int → List Int
  | _, _, [] => []
  | seed, k, s :: ss => sT (sB seed k) / 19 % s :: dB (sB seed k) (k + 1) ss
def digZ (c : Int) (sizes : List Int) : List Int := if 1000000000000000000 ≤ c then dA (c - 1000000000000000000) sizes else dB (c % 2147483629) 0 sizes
/-- digits that fit their sizes -/
def Dg : List Int → List Int → Prop
  | [], ds => ds = []
  | s :: ss, ds => ∃ d r, ds = d :: r ∧ 0 ≤ d ∧ d < s ∧ Dg ss r
theorem dg_A : ∀ (ss : List Int) (r : Int), (∀ s, s ∈ ss → 0 < s) → Dg ss (dA r ss)
  | [], _, _ => rfl
  | s :: ss, r, h => ⟨_, _, rfl, Int.emod_nonneg _ (Int.ne_of_gt (h s List.mem_cons_self)), Int.emod_lt_of_pos _ (h s List.mem_cons_self), dg_A ss _ fun x hx => h x (List.mem_cons_of_mem _ hx)⟩
theorem dg_B : ∀ (ss : List Int) (r k : Int), (∀ s, s ∈ ss → 0 < s) → Dg ss (dB r k ss)
  | [], _, _, _ => rfl
  | s :: ss, r, k, h => ⟨_, _, rfl, Int.emod_nonneg _ (Int.ne_of_gt (h s List.mem_cons_self)), Int.emod_lt_of_pos _ (h s List.mem_cons_self), dg_B ss _ _ fun x hx => h x (List.mem_cons_of_mem _ hx)⟩
theorem dg_Z {ss : List Int} {c : Int} (h : ∀ s, s ∈ ss → 0 < s) : Dg ss (digZ c ss) := by
  unfold digZ; split
  · exact dg_A _ _ h
  · exact dg_B _ _ _ h
def R__law_digits (ds : List Dt) (r : Ret) : Prop := ∃ (c : Int) (t : Bool) (ss : List Int), (∀ s, s ∈ ss → 0 < s ∧ B 8990 s) ∧ ss.length ≤ 1000 ∧ ds = [.int c, .sq t (ss.map Dt.int)] ∧ r = .ow ((digZ c ss).map Dt.int)
theorem sB_bd (a k : Int) : 0 ≤ sB a k ∧ sB a k < 2147483647 := ⟨Int.emod_nonneg _ (by decide), Int.emod_lt_of_pos _ (by decide)⟩

structure Fr (p : Int × Int) : Prop where
  pos : 0 < p.2
  cop : Nat.gcd p.1.natAbs p.2.natAbs = 1
theorem rat_parts (t b : Int) (hb : b ≠ 0) : ∃ g : Int, g ≠ 0 ∧ t = g * (rat t b).1 ∧ b = g * (rat t b).2 ∧ 0 < (rat t b).2 ∧ Nat.gcd (rat t b).1.natAbs (rat t b).2.natAbs = 1 := by
  have hg : 0 < Nat.gcd t.natAbs b.natAbs := Nat.gcd_pos_of_pos_right _ (by omega)
  obtain ⟨t1, ht1⟩ : ((Nat.gcd t.natAbs b.natAbs : Nat) : Int) ∣ t := Int.ofNat_dvd_left.mpr (Nat.gcd_dvd_left _ _)
  obtain ⟨b1, hb1⟩ : ((Nat.gcd t.natAbs b.natAbs : Nat) : Int) ∣ b := Int.ofNat_dvd_left.mpr (Nat.gcd_dvd_right _ _)
  have cop : Nat.gcd t1.natAbs b1.natAbs = 1 := by
    have h1 : t.natAbs = Nat.gcd t.natAbs b.natAbs * t1.natAbs := by
      conv => lhs; rw [ht1, Int.natAbs_mul, Int.natAbs_natCast]
    have h2 : b.natAbs = Nat.gcd t.natAbs b.natAbs * b1.natAbs := by
      conv => lhs; rw [hb1, Int.natAbs_mul, Int.natAbs_natCast]
    have h3 : Nat.gcd (Nat.gcd t.natAbs b.natAbs * t1.natAbs) (Nat.gcd t.natAbs b.natAbs * b1.natAbs) = Nat.gcd t.natAbs b.natAbs := by rw [← h1, ← h2]
    rw [Nat.gcd_mul_left] at h3
    exact Nat.eq_of_mul_eq_mul_left hg (by omega)
  by_cases hn : b < 0
  · have e1 : (rat t b).1 = -t1 := by
      simp only [rat, if_pos hn]
      conv => lhs; arg 1; rw [ht1]
      have : ((Nat.gcd t.natAbs b.natAbs : Nat) : Int) * t1 = -((Nat.gcd t.natAbs b.natAbs : Nat) : Int) * (-t1) := by rw [Int.neg_mul_neg]
      rw [this, Int.mul_fdiv_cancel_left _ (by omega)]
    have e2 : (rat t b).2 = -b1 := by
      simp only [rat, if_pos hn]
      conv => lhs; arg 1; rw [hb1]
      have : ((Nat.gcd t.natAbs b.natAbs : Nat) : Int) * b1 = -((Nat.gcd t.natAbs b.natAbs : Nat) : Int) * (-b1) := by rw [Int.neg_mul_neg]
      rw [this, Int.mul_fdiv_cancel_left _ (by omega)]
    refine ⟨-((Nat.gcd t.natAbs b.natAbs : Nat) : Int), by omega, ?_, ?_, ?_, ?_⟩
    · rw [e1, Int.neg_mul_neg]; exact ht1
    · rw [e2, Int.neg_mul_neg]; exact hb1
    · rw [e2]
      have : b1 < 0 := by
        refine Int.not_le.mp fun z => ?_
        have := Int.mul_nonneg (Int.natCast_nonneg (Nat.gcd t.natAbs b.natAbs)) z
        omega
      omega
    · rw [e1, e2, Int.natAbs_neg, Int.natAbs_neg]; exact cop
  · have e1 : (rat t b).1 = t1 := by
      simp only [rat, if_neg hn]
      conv => lhs; arg 1; rw [ht1]
      rw [Int.mul_fdiv_cancel_left _ (by omega)]
    have e2 : (rat t b).2 = b1 := by
      simp only [rat, if_neg hn]
      conv => lhs; arg 1; rw [hb1]
      rw [Int.mul_fdiv_cancel_left _ (by omega)]
    refine ⟨((Nat.gcd t.natAbs b.natAbs : Nat) : Int), by omega, ?_, ?_, ?_, ?_⟩
    · rw [e1]; exact ht1
    · rw [e2]; exact hb1
    · rw [e2]
      refine Int.not_le.mp fun z => ?_
      have := Int.mul_nonpos_of_nonneg_of_nonpos (Int.natCast_nonneg (Nat.gcd t.natAbs b.natAbs)) z
      omega
    · rw [e1, e2]; exact cop
theorem rat_fr {t b : Int} (hb : b ≠ 0) : Fr (rat t b) := by
  obtain ⟨g, _, _, _, h1, h2⟩ := rat_parts t b hb
  exact ⟨h1, h2⟩
theorem rat_eq {t b : Int} (hb : b ≠ 0) : (rat t b).1 * b = t * (rat t b).2 := by
  obtain ⟨g, _, h1, h2, _, _⟩ := rat_parts t b hb
  generalize (rat t b).1 = p at *
  generalize (rat t b).2 = q at *
  subst h1; subst h2
  rw [Int.mul_left_comm, Int.mul_assoc]
theorem natAbs_le_mul {g a : Int} (hg : g ≠ 0) : a.natAbs ≤ (g * a).natAbs := by
  rw [Int.natAbs_mul]
  exact Nat.le_mul_of_pos_left _ (by omega)
theorem rat_B1 {n : Nat} {t b : Int} (hb : b ≠ 0) (h : B n t) : B n (rat t b).1 := by
  obtain ⟨g, h0, h1, _⟩ := rat_parts t b hb
  refine h.le ?_
  conv => rhs; rw [h1]
  exact natAbs_le_mul h0
theorem rat_B2 {n : Nat} {t b : Int} (hb : b ≠ 0) (h : B n b) : B n (rat t b).2 := by
  obtain ⟨g, h0, _, h1, _⟩ := rat_parts t b hb
  refine h.le ?_
  conv => rhs; rw [h1]
  exact natAbs_le_mul h0
theorem Fr.uniq {p q : Int × Int} (hp : Fr p) (hq : Fr q) (h : p.1 * q.2 = q.1 * p.2) : p = q := by
  obtain ⟨a, b⟩ := p
  obtain ⟨c, d⟩ := q
  obtain ⟨b0, ab⟩ := hp
  obtain ⟨d0, cd⟩ := hq
  simp only at *
  have hn : a.natAbs * d.natAbs = c.natAbs * b.natAbs := by rw [← Int.natAbs_mul, ← Int.natAbs_mul, h]
  have h1 : b.natAbs ∣ d.natAbs := by
    have : b.natAbs ∣ a.natAbs * d.natAbs := ⟨c.natAbs, by rw [hn, Nat.mul_comm]⟩
    exact Nat.Coprime.dvd_of_dvd_mul_left (Nat.Coprime.symm ab) this
  have h2 : d.natAbs ∣ b.natAbs := by
    have : d.natAbs ∣ c.natAbs * b.natAbs := ⟨a.natAbs, by rw [← hn, Nat.mul_comm]⟩
    exact Nat.Coprime.dvd_of_dvd_mul_left (Nat.Coprime.symm cd) this
  have h3 := Nat.dvd_antisymm h1 h2
  have h4 : b = d := by omega
  subst h4
  have : a = c := Int.eq_of_mul_eq_mul_right (by omega) h
  rw [this]
theorem rat_uniq {t b : Int} {p : Int × Int} (hb : b ≠ 0) (hp : Fr p) (h : p.1 * b = t * p.2) : p = rat t b := by
  refine hp.uniq (rat_fr hb) ?_
  have e := rat_eq (t := t) hb
  refine Int.eq_of_mul_eq_mul_right hb ?_
  calc p.1 * (rat t b).2 * b = p.1 * b * (rat t b).2 := by rw [Int.mul_right_comm]
    _ = t * p.2 * (rat t b).2 := by rw [h]
    _ = t * (rat t b).2 * p.2 := by rw [Int.mul_right_comm]
    _ = (rat t b).1 * b * p.2 := by rw [e]
    _ = (rat t b).1 * p.2 * b := by rw [Int.mul_right_comm]
theorem lim10 {i : Int} (h : B 14000 i) : i.natAbs < 10 ^ 4300 := by
  have e : 2 ^ 14000 ≤ 10 ^ 4300 := by decide +kernel
  exact Nat.lt_of_lt_of_le h e
theorem sh_int {i : Int} (h : B 14000 i) : shC (.int i) := .inl ⟨i, rfl, lim10 h⟩
mutual
def wt : Dt → Nat
  | .int _ => 1930
  | .str x => 10 * x.length + 2
  | .sq _ ds => wts ds + 3
  | _ => 10
def wts : List Dt → Nat
  | [] => 0
  | d :: ds => wt d + 2 + wts ds
end
mutual
/-- ints within 1900 bits; texts that can be laid -/
def okD : Dt → Prop
  | .non => True | .bl _ => True
  | .int i => B 1900 i
  | .str x => PyData.canLay0 (.str x) = true ∧ ∀ c ∈ x.cps.toList, c < 16 ^ 8
  | .sq _ ds => okDs ds
  | _ => False
def okDs : List Dt → Prop
  | [] => True
  | d :: ds => okD d ∧ okDs ds
end
mutual
theorem okD.plain : ∀ {d : Dt}, okD d → plain d = true
  | .non, _ => rfl
  | .bl _, _ => rfl
  | .int _, _ => rfl
  | .str _, h => by simp only [okD] at h; simpa [Dat.plain] using h.1
  | .sq _ ds, h => by simp only [okD] at h; simpa [Dat.plain] using okDs.plain h
  | .obj _ _, h => by simp [okD] at h
  | .scr _, h => by simp [okD] at h
  | .ty _, h => by simp [okD] at h
  | .cls _, h => by simp [okD] at h
theorem okDs.plain : ∀ {ds : List Dt}, okDs ds → plains ds = true
  | [], _ => rfl
  | d :: ds, h => by
    simp only [okDs] at h
    simp [Dat.plains, okD.plain h.1, okDs.plain h.2]
end
theorem log1920 {i : Int} (h : B 1900 i) : i.natAbs.log2 < 1920 := by
  have := PySem.Flt.log2_lt_of (n := i.natAbs) (k := 1900) (by omega) h
  omega
mutual
theorem okD.show : ∀ {d : Dt}, okD d → (toP d).showable = true
  | .non, _ => by simp [toP, PyData.showable]
  | .bl _, _ => by simp [toP, PyData.showable]
  | .int _, h => by simp only [okD] at h; simpa [toP, PyData.showable] using log1920 h
  | .str _, h => by simp [toP, PyData.showable]
  | .sq t ds, h => by
    simp only [okD] at h
    have := okDs.show h
    cases t <;> simpa [toP, PyData.showable] using this
  | .obj _ _, h => by simp [okD] at h
  | .scr _, h => by simp [okD] at h
  | .ty _, h => by simp [okD] at h
  | .cls _, h => by simp [okD] at h
theorem okDs.show : ∀ {ds : List Dt}, okDs ds → PyData.showableAll (toPs ds) = true
  | [], _ => by simp [toPs, PyData.showableAll]
  | d :: ds, h => by
    simp only [okDs] at h
    simp [toPs, PyData.showableAll, okD.show h.1, okDs.show h.2]
end
theorem str_of_len (x : String) : (Str.ofString x).length = x.length := ofString_length x
theorem int_len {i : Int} (h : B 1900 i) : (Str.ofString (toString i)).length ≤ 1910 := by
  rw [str_of_len]
  have e : (Nat.repr i.natAbs).length ≤ 1900 := nat_repr_length_le (by decide) h
  cases i with
  | ofNat n => exact Nat.le_trans e (by decide)
  | negSucc n =>
    show ("-" ++ Nat.repr (n + 1)).length ≤ 1910
    rw [String.length_append]
    have e2 : (Nat.repr (n + 1)).length ≤ 1900 := e
    have : ("-" : String).length = 1 := rfl
    omega
mutual
theorem okD.len : ∀ {d : Dt}, okD d → (shown d).length ≤ wt d
  | .non, _ => by simp only [shown, toP, PyData.shown, wt]; decide
  | .bl b, _ => by cases b <;> (simp only [shown, toP, PyData.shown, wt]; decide)
  | .int i, h => by
    simp only [okD] at h
    have := int_len h
    simp only [shown, toP, PyData.shown, wt]; omega
  | .str x, h => by
    simp only [okD] at h
    simp only [shown, toP, PyData.shown, wt]
    exact StrLaws.reprText_len x h.2
  | .sq t ds, h => by
    simp only [okD] at h
    have h2 := okDs.len h
    cases t
    · have := listText_len_le (PyData.shownAll (toPs ds))
      simp only [shown, toP, PyData.shown, wt, if_false, Bool.false_eq_true]; omega
    · have := tupleText_len_le (PyData.shownAll (toPs ds))
      simp only [shown, toP, PyData.shown, wt, if_true]; omega
  | .obj _ _, h => by simp [okD] at h
  | .scr _, h => by simp [okD] at h
  | .ty _, h => by simp [okD] at h
  | .cls _, h => by simp [okD] at h
theorem okDs.len : ∀ {ds : List Dt}, okDs ds → ((PyData.shownAll (toPs ds)).map (·.length)).sum + 2 * (PyData.shownAll (toPs ds)).length ≤ wts ds
  | [], _ => by simp [toPs, PyData.shownAll, wts]
  | d :: ds, h => by
    simp only [okDs] at h
    have h1 := okD.len h.1
    have h2 := okDs.len h.2
    simp only [toPs, PyData.shownAll, wts, List.map_cons, List.sum_cons, List.length_cons, shown] at *
    omega
end
theorem sh_ok {d : Dt} (h : okD d) (hd : deep d ≤ 64) (hw : wt d ≤ 16777216) : shC d :=
  .inr ⟨h.plain, h.show, hd, Nat.le_trans h.len (by rw [sizeLine_eq]; exact hw)⟩
theorem ofString_inj {x y : String} (h : Str.ofString x = Str.ofString y) : x = y := by
  have e := congrArg (fun z : Str => z.cps.toList) h
  simp only [PyProof.Rows.signs_ofString] at e
  refine String.ext ?_
  exact List.map_inj_right (f := Char.toNat) (fun a b q => Char.toNat_inj.mp q) |>.mp e
theorem int_repr (i : Int) : toString i = Int.repr i := by cases i <;> rfl
theorem int_text_inj {i j : Int} (h : Str.ofString (toString i) = Str.ofString (toString j)) : i = j := by
  have := ofString_inj h
  rw [int_repr, int_repr] at this
  exact Int.repr_injective this
/-- the law's look at two equal values -/
theorem is_same {d : Dt} (h : shC d) : R__law_is [d, d] (.sh (.bl true)) := ⟨d, d, h, h, rfl, by simp⟩
theorem is_int_iff {i j : Int} (hi : B 14000 i) (hj : B 14000 j) : R__law_is [.int i, .int j] (.sh (.bl (decide (i = j)))) := by
  refine ⟨_, _, sh_int hi, sh_int hj, rfl, ?_⟩
  have e : (shown (.int i) = shown (.int j)) ↔ i = j := by
    constructor
    · intro h
      simp only [shown, toP, PyData.shown] at h
      exact int_text_inj h
    · intro h; rw [h]
  rw [decide_eq_decide.mpr e]
def okF (n : Nat) (p : Int × Int) : Prop := B n p.1 ∧ B n p.2 ∧ 0 < p.2
theorem okF.mono {n m : Nat} {p : Int × Int} (h : okF n p) (e : n ≤ m) : okF m p := ⟨h.1.mono e, h.2.1.mono e, h.2.2⟩
def R_times (ds : List Dt) (r : Ret) : Prop := ∃ (k l : Bool) (p q : Int × Int), ds = [frK k p, frK l q] ∧ okF 100000 p ∧ okF 100000 q ∧ B 8990 (p.2 * q.2) ∧ r = .sh (fr (rat (p.1 * q.1) (p.2 * q.2)))
def cmpZ (p q : Int × Int) : Int := if p.1 * q.2 < q.1 * p.2 then -1 else if p.1 * q.2 > q.1 * p.2 then 1 else 0
def R_compare (ds : List Dt) (r : Ret) : Prop := ∃ (k l : Bool) (p q : Int × Int), ds = [frK k p, frK l q] ∧ okF 100000 p ∧ okF 100000 q ∧ r = .sh (.int (cmpZ p q))
def R_lesser (ds : List Dt) (r : Ret) : Prop := ∃ (k l : Bool) (p q : Int × Int), ds = [frK k p, frK l q] ∧ okF 100000 p ∧ okF 100000 q ∧ r = .sh (fr (if cmpZ p q ≤ 0 then p else q))
def R_greater (ds : List Dt) (r : Ret) : Prop := ∃ (k l : Bool) (p q : Int × Int), ds = [frK k p, frK l q] ∧ okF 100000 p ∧ okF 100000 q ∧ r = .sh (fr (if 0 ≤ cmpZ p q then p else q))
def R_floor_of (ds : List Dt) (r : Ret) : Prop := ∃ (k : Bool) (p : Int × Int), ds = [frK k p] ∧ okF 8000 p ∧ r = .sh (.int (p.1 / p.2))
def R_ceiling_of (ds : List Dt) (r : Ret) : Prop := ∃ (k : Bool) (p : Int × Int), ds = [frK k p] ∧ okF 8000 p ∧ r = .sh (.int (-(-p.1 / p.2)))
def R_part_of (ds : List Dt) (r : Ret) : Prop := ∃ (k : Bool) (p : Int × Int), ds = [frK k p] ∧ okF 8000 p ∧ r = .sh (fr (p.1 % p.2, p.2))
def markZ (p : Int × Int) (m : Int) : Dt := if p.1 * m % p.2 = 0 then .int (p.1 * m / p.2 % m) else .non
def R_mark_of (ds : List Dt) (r : Ret) : Prop := ∃ (k : Bool) (p : Int × Int) (m : Int), ds = [frK k p, .int m] ∧ okF 8000 p ∧ 0 < m ∧ B 8000 m ∧ r = .sh (markZ p m)
def R_order_of (ds : List Dt) (r : Ret) : Prop := ∃ (a m : Int), ds = [.int a, .int m] ∧ 0 < m ∧ B 8000 m ∧ r = .sh (.int (m / (Nat.gcd a.natAbs m.natAbs : Nat)))
def frs (ps : List (Int × Int)) : List Dt := ps.map fr
theorem frs_get {k : Bool} {ps : List (Int × Int)} {n : Nat} {d : Dt} (h : (ps.map (frK k))[n]? = some d) : ∃ p, ps[n]? = some p ∧ d = frK k p := by
  rw [List.getElem?_map] at h
  cases e : ps[n]? with
  | none => rw [e] at h; cases h
  | some v => rw [e] at h; simp at h; exact ⟨v, rfl, h.symm⟩
def plusZ (p q : Int × Int) : Int × Int := rat (p.1 * q.2 + q.1 * p.2) (p.2 * q.2)
def totZ (ps : List (Int × Int)) : Int × Int := ps.foldl plusZ (0, 1)
/-- each number below 2^134: what 40 figures and a little more make -/
def small (ps : List (Int × Int)) : Prop := ∀ p, p ∈ ps → okF 134 p
theorem plus_bd {n m a : Nat} {p q : Int × Int} (p1 : B n p.1) (p2 : B m p.2) (pp : 0 < p.2) (hq : okF a q) : B (max (n + a) (m + a) + 1) (plusZ p q).1 ∧ B (m + a) (plusZ p q).2 ∧ 0 < (plusZ p q).2 ∧ Fr (plusZ p q) := by
  obtain ⟨q1, q2, qp⟩ := hq
  have h0 : p.2 * q.2 ≠ 0 := Int.ne_of_gt (Int.mul_pos pp qp)
  have h1 : B (max (n + a) (m + a) + 1) (p.1 * q.2 + q.1 * p.2) := B.add ((p1.mul q2).mono (by omega)) ((q1.mul p2).mono (by omega))
  exact ⟨rat_B1 h0 h1, rat_B2 h0 (p2.mul q2), (rat_fr h0).pos, rat_fr h0⟩
theorem foldl_snoc {α β : Type} (g : β → α → β) (z : β) {l : List α} {n : Nat} {a : α} (h : l[n]? = some a) : (l.take (n + 1)).foldl g z = g ((l.take n).foldl g z) a := by
  rw [List.take_add_one, h, List.foldl_append]; rfl
theorem tot_bd {ps : List (Int × Int)} (hs : small ps) : ∀ n, n ≤ ps.length → B (136 * n + 1) (totZ (ps.take n)).1 ∧ B (134 * n + 1) (totZ (ps.take n)).2 ∧ 0 < (totZ (ps.take n)).2 ∧ Fr (totZ (ps.take n))
  | 0, _ => by simp only [List.take_zero, totZ, List.foldl_nil]; exact ⟨by decide, by decide, by decide, ⟨by decide, by decide⟩⟩
  | n + 1, h => by
    have hn : n < ps.length := by omega
    have e : ps[n]? = some ps[n] := by simp [hn]
    obtain ⟨b1, b2, b3, _⟩ := tot_bd hs n (by omega)
    unfold totZ
    rw [foldl_snoc plusZ _ e]
    obtain ⟨c1, c2, c3, c4⟩ := plus_bd b1 b2 b3 (hs ps[n] (List.getElem_mem hn))
    exact ⟨c1.mono (by omega), c2.mono (by omega), c3, c4⟩
def R_total (ds : List Dt) (r : Ret) : Prop := ∃ (t k : Bool) (ps : List (Int × Int)), ds = [.sq t (ps.map (frK k))] ∧ small ps ∧ ps.length ≤ 20 ∧ r = .sh (fr (totZ ps))
def lcmZ (b v : Int) : Int := b * (v / (Nat.gcd b.natAbs v.natAbs : Nat))
theorem gcd_nat_dvd (b v : Int) : ((Nat.gcd b.natAbs v.natAbs : Nat) : Int) ∣ b ∧ ((Nat.gcd b.natAbs v.natAbs : Nat) : Int) ∣ v :=
  ⟨Int.ofNat_dvd_left.mpr (Nat.gcd_dvd_left _ _), Int.ofNat_dvd_left.mpr (Nat.gcd_dvd_right _ _)⟩
theorem gcd_nat_pos {b v : Int} (hv : 0 < v) : 0 < ((Nat.gcd b.natAbs v.natAbs : Nat) : Int) := by
  have := Nat.gcd_pos_of_pos_right b.natAbs (n := v.natAbs) (by omega)
  omega
theorem lcm_same {b v : Int} (hv : 0 < v) : b / ((Nat.gcd b.natAbs v.natAbs : Nat) : Int) * v = lcmZ b v := by
  have h0 := gcd_nat_pos (b := b) hv
  obtain ⟨⟨b', hb⟩, ⟨v', hv'⟩⟩ := gcd_nat_dvd b v
  unfold lcmZ
  generalize ((Nat.gcd b.natAbs v.natAbs : Nat) : Int) = g at *
  subst hb; subst hv'
  rw [Int.mul_ediv_cancel_left _ (by omega), Int.mul_ediv_cancel_left _ (by omega)]
  rw [Int.mul_left_comm, Int.mul_assoc]
theorem lcm_facts {b v : Int} (hb : 0 < b) (hv : 0 < v) : 0 < lcmZ b v ∧ b ∣ lcmZ b v ∧ v ∣ lcmZ b v ∧ lcmZ b v ≤ b * v ∧ 0 < v / ((Nat.gcd b.natAbs v.natAbs : Nat) : Int) ∧ v / ((Nat.gcd b.natAbs v.natAbs : Nat) : Int) ≤ v := by
  have h0 := gcd_nat_pos (b := b) hv
  have h9 : lcmZ b v = b * (v / ((Nat.gcd b.natAbs v.natAbs : Nat) : Int)) := rfl
  obtain ⟨⟨b', hb'⟩, ⟨v', hv'⟩⟩ := gcd_nat_dvd b v
  generalize ((Nat.gcd b.natAbs v.natAbs : Nat) : Int) = g at *
  have e : v / g = v' := by rw [hv', Int.mul_ediv_cancel_left _ (by omega)]
  have hp : 0 < v' := by
    refine Int.not_le.mp fun z => ?_
    have := Int.mul_nonpos_of_nonneg_of_nonpos (Int.le_of_lt h0) z
    omega
  have hle : v' ≤ v := by
    have : 1 * v' ≤ g * v' := Int.mul_le_mul_of_nonneg_right (by omega) (by omega)
    omega
  rw [h9, e]
  refine ⟨Int.mul_pos hb hp, ⟨v', rfl⟩, ⟨b', ?_⟩, Int.mul_le_mul_of_nonneg_left hle (by omega), hp, hle⟩
  rw [hb', hv', Int.mul_right_comm]
def lcmF (ps : List (Int × Int)) : Int := ps.foldl (fun b p => lcmZ b p.2) 1
theorem lcm_bd {ps : List (Int × Int)} (hs : small ps) : ∀ n, n ≤ ps.length → 0 < lcmF (ps.take n) ∧ B (134 * n + 1) (lcmF (ps.take n))
  | 0, _ => by simp only [List.take_zero, lcmF, List.foldl_nil]; exact ⟨by decide, by decide⟩
  | n + 1, h => by
    have hn : n < ps.length := by omega
    have e : ps[n]? = some ps[n] := by simp [hn]
    obtain ⟨b1, b2⟩ := lcm_bd hs n (by omega)
    obtain ⟨_, q2, q0⟩ := hs ps[n] (List.getElem_mem hn)
    have e2 : lcmF (ps.take (n + 1)) = lcmZ (lcmF (ps.take n)) ps[n].2 := foldl_snoc (fun (b : Int) (p : Int × Int) => lcmZ b p.2) _ e
    obtain ⟨c0, _, _, c1, _⟩ := lcm_facts b1 q0
    rw [e2]
    refine ⟨c0, (b2.mul q2).mono (m := 134 * (n + 1) + 1) (by omega) |>.le ?_⟩
    have := Int.mul_pos b1 q0
    omega
theorem lcm_dvd {ps : List (Int × Int)} (hs : ∀ p, p ∈ ps → 0 < p.2) : 0 < lcmF ps ∧ ∀ p, p ∈ ps → p.2 ∣ lcmF ps := by
  suffices h : ∀ (l : List (Int × Int)) (b : Int), (∀ p, p ∈ l → 0 < p.2) → 0 < b → 0 < l.foldl (fun b p => lcmZ b p.2) b ∧ b ∣ l.foldl (fun b p => lcmZ b p.2) b ∧ ∀ p, p ∈ l → p.2 ∣ l.foldl (fun b p => lcmZ b p.2) b by
    obtain ⟨h1, _, h2⟩ := h ps 1 hs (by decide)
    exact ⟨h1, h2⟩
  intro l
  induction l with
  | nil => intro b _ hb; exact ⟨hb, Int.dvd_refl _, fun p hp => by cases hp⟩
  | cons q l ih =>
    intro b hl hb
    obtain ⟨c0, c1, c2, _⟩ := lcm_facts hb (hl q List.mem_cons_self)
    obtain ⟨d0, d1, d2⟩ := ih (lcmZ b q.2) (fun p hp => hl p (List.mem_cons_of_mem _ hp)) c0
    refine ⟨d0, Int.dvd_trans c1 d1, fun p hp => ?_⟩
    rcases List.mem_cons.mp hp with z | z
    · rw [z]; exact Int.dvd_trans c2 d1
    · exact d2 p z
def R_common_bottom (ds : List Dt) (r : Ret) : Prop := ∃ (t k : Bool) (ps : List (Int × Int)), ds = [.sq t (ps.map (frK k))] ∧ small ps ∧ ps.length ≤ 20 ∧ r = .sh (.int (lcmF ps))
def R__law_bottom (ds : List Dt) (r : Ret) : Prop := ∃ (t k : Bool) (ps : List (Int × Int)), ds = [.sq t (ps.map (frK k))] ∧ small ps ∧ ps.length ≤ 20 ∧ r = .sh (.int (lcmF ps))
def R_lifted (ds : List Dt) (r : Ret) : Prop := ∃ (t k : Bool) (ps : List (Int × Int)) (b : Int), ds = [.sq t (ps.map (frK k)), .int b] ∧ small ps ∧ ps.length ≤ 20 ∧ B 8000 b ∧ 0 ≤ b ∧ r = .sh (.sq true (ps.map fun p => .int (p.1 * (b / p.2))))
theorem lit_ix {l : List Int} {i : Int} (h0 : 0 ≤ i) (h1 : i < l.length) : atI (l.map Dt.int) i = some (.int (l.getD i.toNat 0)) ∧ l.getD i.toNat 0 ∈ l := by
  have hk : i.toNat < l.length := by omega
  have e : l.getD i.toNat 0 = l[i.toNat] := by simp [List.getD_eq_getElem?_getD, hk]
  rw [e]
  exact ⟨atI_get h0 (by simp [hk]), List.getElem_mem hk⟩
theorem max_B {n : Nat} {x : Int} (h : B n x) (hx : 0 ≤ x) (hn : 0 < n) : B n (max 1 x) := by
  unfold B at *
  have : 1 < 2 ^ n := Nat.one_lt_two_pow (by omega)
  omega
theorem div_B {n : Nat} {a b : Int} (h : B n a) : B n (a / b) := h.le (Int.natAbs_ediv_le_natAbs a b)
theorem mod_B {n : Nat} {a b : Int} (h : B n b) (hb : 0 < b) : B n (a % b) := by
  have h1 := Int.emod_nonneg a (Int.ne_of_gt hb)
  have h2 := Int.emod_lt_of_pos a hb
  exact h.le (by omega)
end Pl

set_option Elab.async false
set_option linter.all false
set_option maxRecDepth 100000
set_option maxHeartbeats 1000000
/-! cheapest walks on a wheel of q marks: rounds of relaxing; plain, no program in sight -/
namespace Bf
/-- what a list of optional amounts holds at m -/
abbrev gt (cs : List (Option Int)) (m : Nat) : Option Int := cs.getD m none
/-- one relaxing: from mark m by step s -/
def rel (q : Nat) (pr cs : List (Option Int)) (m s : Nat) : List (Option Int) :=
  match gt cs m, gt pr s with
  | some c, some p => match gt cs ((m + s) % q) with
    | none => cs.set ((m + s) % q) (some (c + p))
    | some d => if c + p < d then cs.set ((m + s) % q) (some (c + p)) else cs
  | _, _ => cs
/-- steps 1 .. n from mark m -/
def relRow (q : Nat) (pr : List (Option Int)) (m : Nat) : Nat → List (Option Int) → List (Option Int)
  | 0, cs => cs
  | n + 1, cs => rel q pr (relRow q pr m n cs) m (n + 1)
/-- marks 0 .. n - 1, all steps -/
def rels (q : Nat) (pr : List (Option Int)) : Nat → List (Option Int) → List (Option Int)
  | 0, cs => cs
  | n + 1, cs => relRow q pr n (q - 1) (rels q pr n cs)
abbrev round (q : Nat) (pr cs : List (Option Int)) : List (Option Int) := rels q pr q cs
def rounds (q : Nat) (pr : List (Option Int)) : Nat → List (Option Int) → List (Option Int)
  | 0, cs => cs
  | n + 1, cs => round q pr (rounds q pr n cs)
def init (q : Nat) : List (Option Int) := (List.replicate q none).set 0 (some 0)
def bf (pr : List (Option Int)) : List (Option Int) := rounds pr.length pr (pr.length + 1) (init pr.length)

section
variable {q : Nat} {pr cs cs' : List (Option Int)} {m s n : Nat}
theorem rel_len : (rel q pr cs m s).length = cs.length := by
  unfold rel
  split
  · split
    · simp
    · split <;> simp
  · rfl
theorem relRow_len : ∀ n, (relRow q pr m n cs).length = cs.length
  | 0 => rfl
  | n + 1 => by rw [relRow, rel_len, relRow_len n]
theorem rels_len : ∀ n, (rels q pr n cs).length = cs.length
  | 0 => rfl
  | n + 1 => by rw [rels, relRow_len, rels_len n]
theorem rounds_len : ∀ n, (rounds q pr n cs).length = cs.length
  | 0 => rfl
  | n + 1 => by rw [rounds, round, rels_len, rounds_len n]
theorem gt_set {g : Nat} {v : Option Int} (hg : g < cs.length) (x : Nat) : gt (cs.set g v) x = if x = g then v else gt cs x := by
  unfold gt
  rw [List.getD_eq_getElem?_getD, List.getD_eq_getElem?_getD, List.getElem?_set]
  by_cases h : g = x
  · subst h; simp [hg]
  · rw [if_neg h, if_neg (fun z => h z.symm)]
/-- entries only fall or come -/
def Le (cs cs' : List (Option Int)) : Prop := ∀ x c, gt cs x = some c → ∃ c', gt cs' x = some c' ∧ c' ≤ c
theorem Le.refl (cs : List (Option Int)) : Le cs cs := fun x c h => ⟨c, h, Int.le_refl _⟩
theorem Le.trans {cs'' : List (Option Int)} (h : Le cs cs') (g : Le cs' cs'') : Le cs cs'' := fun x c e => by
  obtain ⟨c1, e1, l1⟩ := h x c e
  obtain ⟨c2, e2, l2⟩ := g x c1 e1
  exact ⟨c2, e2, Int.le_trans l2 l1⟩
theorem goal_lt (hq : 0 < q) (hl : cs.length = q) : (m + s) % q < cs.length := by rw [hl]; exact Nat.mod_lt _ hq
theorem rel_le (hq : 0 < q) (hl : cs.length = q) : Le cs (rel q pr cs m s) := by
  have hg := goal_lt (m := m) (s := s) hq hl
  unfold rel
  split
  · rename_i c p e1 e2
    split
    · rename_i e3
      intro x d hd
      rw [gt_set hg]
      by_cases h : x = (m + s) % q
      · subst h; rw [e3] at hd; cases hd
      · rw [if_neg h]; exact ⟨d, hd, Int.le_refl _⟩
    · rename_i d0 e3
      split
      · rename_i lt
        intro x d hd
        rw [gt_set hg]
        by_cases h : x = (m + s) % q
        · subst h; rw [e3] at hd; cases hd
          rw [if_pos rfl]; exact ⟨_, rfl, Int.le_of_lt lt⟩
        · rw [if_neg h]; exact ⟨d, hd, Int.le_refl _⟩
      · exact Le.refl _
  · exact Le.refl _
theorem rel_hit (hq : 0 < q) (hl : cs.length = q) {c p : Int} (hc : gt cs m = some c) (hp : gt pr s = some p) : ∃ d, gt (rel q pr cs m s) ((m + s) % q) = some d ∧ d ≤ c + p := by
  have hg := goal_lt (m := m) (s := s) hq hl
  unfold rel
  rw [hc, hp]
  dsimp only
  split
  · rw [gt_set hg, if_pos rfl]; exact ⟨_, rfl, Int.le_refl _⟩
  · rename_i d e
    split
    · rw [gt_set hg, if_pos rfl]; exact ⟨_, rfl, Int.le_refl _⟩
    · exact ⟨d, e, by omega⟩

/-! walks -/
/-- every step has a price -/
def Ok (q : Nat) (pr : List (Option Int)) (l : List Nat) : Prop := ∀ s, s ∈ l → 1 ≤ s ∧ s < q ∧ ∃ p, gt pr s = some p
def cost (pr : List (Option Int)) (l : List Nat) : Int := (l.map fun s => (gt pr s).getD 0).sum
def fin (q : Nat) (l : List Nat) : Nat := l.sum % q
theorem fin_snoc (l : List Nat) : fin q (l ++ [s]) = (fin q l + s) % q := by
  unfold fin; simp [Nat.add_mod]
theorem cost_snoc {p : Int} (l : List Nat) (hp : gt pr s = some p) : cost pr (l ++ [s]) = cost pr l + p := by
  unfold cost; rw [List.map_append, List.sum_append]; simp only [List.map_cons, List.map_nil, List.sum_cons, List.sum_nil]; rw [hp]; simp
theorem cost_app (l k : List Nat) : cost pr (l ++ k) = cost pr l + cost pr k := by unfold cost; simp
def Neg0 (pr : List (Option Int)) : Prop := ∀ s p, gt pr s = some p → 0 ≤ p
theorem cost_nn (h : Neg0 pr) : ∀ l : List Nat, 0 ≤ cost pr l
  | [] => by simp [cost]
  | s :: l => by
    have ih := cost_nn h l
    have : cost pr (s :: l) = (gt pr s).getD 0 + cost pr l := by unfold cost; simp
    rw [this]
    cases e : gt pr s with
    | none => simpa using ih
    | some p => have := h s p e; simp; omega
theorem nodup_len : ∀ (q : Nat) (l : List Nat), l.Nodup → (∀ x, x ∈ l → x < q) → l.length ≤ q
  | 0, l, _, h => by
    cases l with
    | nil => simp
    | cons a l => exact absurd (h a List.mem_cons_self) (by omega)
  | q + 1, l, hn, h => by
    by_cases hm : q ∈ l
    · have h1 := nodup_len q (l.erase q) (hn.erase q) (fun x hx => by
        rw [hn.mem_erase_iff] at hx
        have := h x hx.2
        omega)
      rw [List.length_erase_of_mem hm] at h1
      omega
    · have h1 := nodup_len q l hn (fun x hx => by
        have h2 := h x hx
        have h3 : x ≠ q := fun z => hm (z ▸ hx)
        omega)
      omega
/-- a walk of q steps or more turns back to where it was -/
theorem loop_in (hq : 0 < q) (l : List Nat) (hl : q ≤ l.length) : ∃ a b c : List Nat, l = a ++ b ++ c ∧ b ≠ [] ∧ b.sum % q = 0 := by
  have key : ¬ ((List.range (q + 1)).map fun i => (l.take i).sum % q).Nodup := fun hn => by
    have := nodup_len q _ hn (fun x hx => by
      obtain ⟨i, _, rfl⟩ := List.mem_map.mp hx
      exact Nat.mod_lt _ hq)
    simp at this
    omega
  have : ∃ i j : Nat, i < j ∧ j ≤ q ∧ (l.take i).sum % q = (l.take j).sum % q := by
    refine Classical.byContradiction fun hc => key ?_
    rw [List.Nodup, List.pairwise_iff_getElem]
    intro i j hi hj lt e
    simp only [List.length_map, List.length_range] at hi hj
    simp only [List.getElem_map, List.getElem_range] at e
    exact hc ⟨i, j, lt, by omega, e⟩
  obtain ⟨i, j, lt, le, e⟩ := this
  have e1 : l.take j = l.take i ++ (l.take j).drop i := by
    have := (List.take_append_drop i (l.take j)).symm
    rwa [List.take_take, Nat.min_eq_left (Nat.le_of_lt lt)] at this
  refine ⟨l.take i, (l.take j).drop i, l.drop j, ?_, ?_, ?_⟩
  · rw [← e1, List.take_append_drop]
  · intro z
    have := congrArg List.length z
    simp at this
    omega
  · rw [e1, List.sum_append] at e
    have h1 : ((l.take i).sum % q + ((l.take j).drop i).sum % q) % q = (l.take i).sum % q := by rw [← Nat.add_mod]; exact e.symm
    have a1 := Nat.mod_lt (l.take i).sum hq
    have a2 := Nat.mod_lt ((l.take j).drop i).sum hq
    generalize (l.take i).sum % q = x at *
    generalize ((l.take j).drop i).sum % q = y at *
    by_cases hxy : x + y < q
    · rw [Nat.mod_eq_of_lt hxy] at h1; omega
    · have : (x + y) % q = x + y - q := by
        rw [Nat.mod_eq_sub_mod (by omega), Nat.mod_eq_of_lt (by omega)]
      omega
/-- every walk has one of fewer than q steps that is no dearer -/
theorem short (hq : 0 < q) (hn : Neg0 pr) : ∀ (k : Nat) (l : List Nat), l.length ≤ k → Ok q pr l → ∃ l' : List Nat, Ok q pr l' ∧ l'.length < q ∧ fin q l' = fin q l ∧ cost pr l' ≤ cost pr l
  | 0, l, hk, ho => ⟨l, ho, by omega, rfl, Int.le_refl _⟩
  | k + 1, l, hk, ho => by
    by_cases hl : l.length < q
    · exact ⟨l, ho, hl, rfl, Int.le_refl _⟩
    · obtain ⟨a, b, c, rfl, hb, hs⟩ := loop_in hq l (by omega)
      have hb1 : 0 < b.length := List.length_pos_iff.mpr hb
      obtain ⟨l', o', n', f', c'⟩ := short hq hn k (a ++ c) (by simp only [List.length_append] at hk ⊢; omega) (fun s h => ho s (by
        simp only [List.mem_append] at h ⊢
        rcases h with h | h
        · exact .inl (.inl h)
        · exact .inr h))
      refine ⟨l', o', n', ?_, ?_⟩
      · rw [f']; unfold fin
        simp only [List.sum_append]
        have : (a.sum + b.sum + c.sum) % q = (b.sum % q + (a.sum + c.sum)) % q := by rw [Nat.mod_add_mod]; congr 1; omega
        rw [this, hs, Nat.zero_add]
      · have := cost_nn hn b
        rw [cost_app] at c'
        rw [cost_app, cost_app]; omega

/-- the walks of at most n steps are met -/
def Met (q : Nat) (pr : List (Option Int)) (n : Nat) (cs : List (Option Int)) : Prop := ∀ l, Ok q pr l → l.length ≤ n → ∃ c, gt cs (fin q l) = some c ∧ c ≤ cost pr l
/-- what is told is some walk's cost -/
def Snd (q : Nat) (pr cs : List (Option Int)) : Prop := ∀ m c, gt cs m = some c → ∃ l, Ok q pr l ∧ fin q l = m ∧ cost pr l = c
theorem Met.le (h : Met q pr n cs) (g : Le cs cs') : Met q pr n cs' := fun l o hl => by
  obtain ⟨c, e, le⟩ := h l o hl
  obtain ⟨c', e', le'⟩ := g _ _ e
  exact ⟨c', e', Int.le_trans le' le⟩
theorem rel_snd (hq : 0 < q) (hl : cs.length = q) (hs : 1 ≤ s ∧ s < q) (h : Snd q pr cs) : Snd q pr (rel q pr cs m s) := by
  have hg := goal_lt (m := m) (s := s) hq hl
  have new : ∀ c p, gt cs m = some c → gt pr s = some p → ∃ l, Ok q pr l ∧ fin q l = (m + s) % q ∧ cost pr l = c + p := by
    intro c p e1 e2
    obtain ⟨l, o, f, k⟩ := h m c e1
    refine ⟨l ++ [s], fun x hx => ?_, by rw [fin_snoc, f], by rw [cost_snoc l e2, k]⟩
    simp at hx
    rcases hx with hx | rfl
    · exact o x hx
    · exact ⟨hs.1, hs.2, p, e2⟩
  unfold rel
  split
  · rename_i c p e1 e2
    split
    · intro x d hd
      rw [gt_set hg] at hd
      by_cases hx : x = (m + s) % q
      · rw [if_pos hx] at hd; cases hd; rw [hx]; exact new _ _ e1 e2
      · rw [if_neg hx] at hd; exact h x d hd
    · split
      · intro x d hd
        rw [gt_set hg] at hd
        by_cases hx : x = (m + s) % q
        · rw [if_pos hx] at hd; cases hd; rw [hx]; exact new _ _ e1 e2
        · rw [if_neg hx] at hd; exact h x d hd
      · exact h
  · exact h
theorem relRow_all (hq : 0 < q) : ∀ n cs, cs.length = q → n < q → Le cs (relRow q pr m n cs) ∧ (Snd q pr cs → Snd q pr (relRow q pr m n cs)) ∧
    ∀ s c p, 1 ≤ s → s ≤ n → gt cs m = some c → gt pr s = some p → ∃ d, gt (relRow q pr m n cs) ((m + s) % q) = some d ∧ d ≤ c + p
  | 0, cs, hl, _ => ⟨Le.refl _, fun h => h, fun s _ _ h1 h2 => by omega⟩
  | n + 1, cs, hl, hn => by
    obtain ⟨i1, i2, i3⟩ := relRow_all hq n cs hl (by omega)
    have l2 : (relRow q pr m n cs).length = q := by rw [relRow_len, hl]
    have r1 : Le (relRow q pr m n cs) (relRow q pr m (n + 1) cs) := rel_le hq l2
    refine ⟨i1.trans r1, fun h => rel_snd hq l2 ⟨by omega, hn⟩ (i2 h), fun s c p h1 h2 e1 e2 => ?_⟩
    by_cases hs : s = n + 1
    · subst hs
      obtain ⟨c', e', le'⟩ := i1 m c e1
      obtain ⟨d, ed, ld⟩ := rel_hit hq l2 e' e2
      exact ⟨d, ed, by omega⟩
    · obtain ⟨d, ed, ld⟩ := i3 s c p h1 (by omega) e1 e2
      obtain ⟨d', ed', ld'⟩ := r1 _ _ ed
      exact ⟨d', ed', by omega⟩
theorem rels_all (hq : 0 < q) : ∀ n cs, cs.length = q → Le cs (rels q pr n cs) ∧ (Snd q pr cs → Snd q pr (rels q pr n cs)) ∧
    ∀ m s c p, m < n → 1 ≤ s → s < q → gt cs m = some c → gt pr s = some p → ∃ d, gt (rels q pr n cs) ((m + s) % q) = some d ∧ d ≤ c + p
  | 0, cs, hl => ⟨Le.refl _, fun h => h, fun m s _ _ h => by omega⟩
  | n + 1, cs, hl => by
    obtain ⟨i1, i2, i3⟩ := rels_all hq n cs hl
    have l2 : (rels q pr n cs).length = q := by rw [rels_len, hl]
    obtain ⟨r1, r2, r3⟩ := relRow_all (m := n) (pr := pr) hq (q - 1) (rels q pr n cs) l2 (by omega)
    refine ⟨i1.trans r1, fun h => r2 (i2 h), fun m s c p h0 h1 h2 e1 e2 => ?_⟩
    by_cases hm : m = n
    · subst hm
      obtain ⟨c', e', le'⟩ := i1 m c e1
      obtain ⟨d, ed, ld⟩ := r3 s c' p h1 (by omega) e' e2
      exact ⟨d, ed, by omega⟩
    · obtain ⟨d, ed, ld⟩ := i3 m s c p (by omega) h1 h2 e1 e2
      obtain ⟨d', ed', ld'⟩ := r1 _ _ ed
      exact ⟨d', ed', by omega⟩
theorem fin_lt (hq : 0 < q) (l : List Nat) : fin q l < q := Nat.mod_lt _ hq
theorem round_met (hq : 0 < q) (hl : cs.length = q) (h : Met q pr n cs) : Met q pr (n + 1) (round q pr cs) := by
  obtain ⟨i1, _, i3⟩ := rels_all (pr := pr) hq q cs hl
  intro l o hn
  rcases List.eq_nil_or_concat l with rfl | ⟨l', s, rfl⟩
  · exact h.le i1 _ o (by simp)
  · simp only [List.concat_eq_append] at *
    obtain ⟨h1, h2, p, hp⟩ := o s (by simp)
    obtain ⟨c, e, le⟩ := h l' (fun x hx => o x (by simp [hx])) (by simp at hn; omega)
    obtain ⟨d, ed, ld⟩ := i3 (fin q l') s c p (fin_lt hq _) h1 h2 e hp
    refine ⟨d, by rw [fin_snoc]; exact ed, ?_⟩
    rw [cost_snoc l' hp]; omega
/-- no walk is cheaper, each told cost is a walk's -/
structure Good (q : Nat) (pr cs : List (Option Int)) : Prop where
  len : cs.length = q
  all : ∀ l, Ok q pr l → ∃ c, gt cs (fin q l) = some c ∧ c ≤ cost pr l
  snd : Snd q pr cs
theorem Met.all (hq : 0 < q) (hn : Neg0 pr) (h : Met q pr (q - 1) cs) : ∀ l, Ok q pr l → ∃ c, gt cs (fin q l) = some c ∧ c ≤ cost pr l := fun l o => by
  obtain ⟨l', o', n', f', c'⟩ := short hq hn l.length l (Nat.le_refl _) o
  obtain ⟨c, e, le⟩ := h l' o' (by omega)
  exact ⟨c, by rw [← f']; exact e, by omega⟩
theorem init_len : (init q).length = q := by simp [init]
theorem init_gt (hq : 0 < q) (x : Nat) : gt (init q) x = if x = 0 then some 0 else none := by
  unfold init
  rw [gt_set (by simpa using hq)]
  split
  · rfl
  · unfold gt
    rw [List.getD_eq_getElem?_getD, List.getElem?_replicate]
    split <;> rfl
theorem init_met (hq : 0 < q) : Met q pr 0 (init q) := fun l _ hl => by
  have : l = [] := List.length_eq_zero_iff.mp (by omega)
  subst this
  exact ⟨0, by rw [init_gt hq]; simp [fin], by simp [cost]⟩
theorem init_snd (hq : 0 < q) : Snd q pr (init q) := fun m c h => by
  rw [init_gt hq] at h
  split at h
  · rename_i e; cases h; exact ⟨[], (fun _ h => by cases h), by rw [e]; simp [fin], by simp [cost]⟩
  · cases h
theorem rounds_met (hq : 0 < q) : ∀ n, Met q pr n (rounds q pr n (init q)) ∧ Snd q pr (rounds q pr n (init q))
  | 0 => ⟨init_met hq, init_snd hq⟩
  | n + 1 => by
    obtain ⟨h1, h2⟩ := rounds_met hq n
    have l : (rounds q pr n (init q)).length = q := by rw [rounds_len, init_len]
    exact ⟨round_met hq l h1, (rels_all hq q _ l).2.1 h2⟩
theorem bf_good (hq : 0 < pr.length) (hn : Neg0 pr) : Good pr.length pr (bf pr) := by
  obtain ⟨h1, h2⟩ := rounds_met (pr := pr) hq (pr.length + 1)
  exact ⟨by unfold bf; rw [rounds_len, init_len], Met.all hq hn (fun l o hl => h1 l o (by omega)), h2⟩
theorem Good.zero (h : Good q pr cs) (hn : Neg0 pr) : gt cs 0 = some 0 := by
  obtain ⟨c, e, le⟩ := h.all [] (fun _ h => by cases h)
  have e0 : fin q [] = 0 := by simp [fin]
  rw [e0] at e
  obtain ⟨l, _, _, k⟩ := h.snd 0 c e
  have := cost_nn hn l
  have e1 : cost pr [] = 0 := by simp [cost]
  have : c = 0 := by omega
  rw [e, this]
theorem Good.closed (h : Good q pr cs) {c p : Int} (h1 : 1 ≤ s) (h2 : s < q) (e : gt cs m = some c) (hp : gt pr s = some p) : ∃ d, gt cs ((m + s) % q) = some d ∧ d ≤ c + p := by
  obtain ⟨l, o, f, k⟩ := h.snd m c e
  obtain ⟨d, ed, ld⟩ := h.all (l ++ [s]) (fun x hx => by
    simp at hx
    rcases hx with hx | rfl
    · exact o x hx
    · exact ⟨h1, h2, p, hp⟩)
  refine ⟨d, by rw [← f, ← fin_snoc]; exact ed, ?_⟩
  rw [cost_snoc l hp] at ld; omega
theorem cost_bd {M : Int} (hM : ∀ s p, gt pr s = some p → p ≤ M) (h0 : 0 ≤ M) : ∀ l : List Nat, cost pr l ≤ (l.length : Int) * M
  | [] => by simp [cost]
  | s :: l => by
    have ih := cost_bd hM h0 l
    have e : cost pr (s :: l) = (gt pr s).getD 0 + cost pr l := by unfold cost; simp
    have e2 : ((s :: l).length : Int) * M = (l.length : Int) * M + M := by
      rw [List.length_cons, Int.natCast_add, Int.add_mul]; simp
    rw [e, e2]
    cases e3 : gt pr s with
    | none => simp; omega
    | some p => have := hM s p e3; simp; omega
theorem Good.bd (h : Good q pr cs) (hq : 0 < q) (hn : Neg0 pr) {M : Int} (hM : ∀ s p, gt pr s = some p → p ≤ M) (h0 : 0 ≤ M) {c : Int} (e : gt cs m = some c) : 0 ≤ c ∧ c ≤ (q : Int) * M := by
  obtain ⟨l, o, f, k⟩ := h.snd m c e
  refine ⟨by have := cost_nn hn l; omega, ?_⟩
  obtain ⟨l', o', n', f', c'⟩ := short hq hn l.length l (Nat.le_refl _) o
  obtain ⟨d, ed, ld⟩ := h.all l' o'
  rw [f', f, e] at ed
  cases ed
  have := cost_bd hM h0 l'
  have h3 : (l'.length : Int) * M ≤ (q : Int) * M := Int.mul_le_mul_of_nonneg_right (by omega) h0
  omega
end
end Bf

set_option Elab.async false
set_option linter.all false
set_option maxRecDepth 100000
set_option maxHeartbeats 0
namespace K15
open PySem L2 Dat
def top (i : Nat) : Stmt := PySem.Challenge.pw_cutmakers_k15_floor_costs_judge.main.body.getD i (.Pass ⟨0, 0, 0, 0⟩)
abbrev s_ratio : Stmt := top 5
abbrev N_ratio : List Str := ["top", "bottom", "common"]
theorem sc_ratio : FnScope N_ratio ["top", "bottom"] (defScope s_ratio) := ⟨rfl, rfl, rfl, by decide +kernel, rfl, by decide +kernel, by decide +kernel⟩
abbrev s_plus : Stmt := top 6
abbrev N_plus : List Str := ["one", "two"]
theorem sc_plus : FnScope N_plus ["one", "two"] (defScope s_plus) := ⟨rfl, rfl, rfl, by decide +kernel, rfl, by decide +kernel, by decide +kernel⟩
abbrev s_compare : Stmt := top 7
abbrev N_compare : List Str := ["one", "two", "left", "right"]
theorem sc_compare : FnScope N_compare ["one", "two"] (defScope s_compare) := ⟨rfl, rfl, rfl, by decide +kernel, rfl, by decide +kernel, by decide +kernel⟩
abbrev s_are_floor_costs : Stmt := top 9
abbrev N_are_floor_costs : List Str := ["prices", "costs", "marks", "mark", "step", "goal"]
theorem sc_are_floor_costs : FnScope N_are_floor_costs ["prices", "costs"] (defScope s_are_floor_costs) := ⟨rfl, rfl, rfl, by decide +kernel, rfl, by decide +kernel, by decide +kernel⟩
abbrev s__law_is : Stmt := top 11
abbrev N__law_is : List Str := ["told", "due"]
theorem sc__law_is : FnScope N__law_is ["told", "due"] (defScope s__law_is) := ⟨rfl, rfl, rfl, by decide +kernel, rfl, by decide +kernel, by decide +kernel⟩
abbrev s__law_cell : Stmt := top 12
abbrev N__law_cell : List Str := ["script", "k", "seed", "cell"]
theorem sc__law_cell : FnScope N__law_cell ["script", "k"] (defScope s__law_cell) := ⟨rfl, rfl, rfl, by decide +kernel, rfl, by decide +kernel, by decide +kernel⟩
abbrev s__law_digits : Stmt := top 13
abbrev N__law_digits : List Str := ["cell", "sizes", "row", "rest", "size", "seed", "k", "twice"]
theorem sc__law_digits : FnScope N__law_digits ["cell", "sizes"] (defScope s__law_digits) := ⟨rfl, rfl, rfl, by decide +kernel, rfl, by decide +kernel, by decide +kernel⟩
abbrev s__law_gcd : Stmt := top 14
abbrev N__law_gcd : List Str := ["one", "two", "turn", "rest"]
theorem sc__law_gcd : FnScope N__law_gcd ["one", "two"] (defScope s__law_gcd) := ⟨rfl, rfl, rfl, by decide +kernel, rfl, by decide +kernel, by decide +kernel⟩
abbrev s__law_ratio : Stmt := top 15
abbrev N__law_ratio : List Str := ["top", "bottom", "common"]
theorem sc__law_ratio : FnScope N__law_ratio ["top", "bottom"] (defScope s__law_ratio) := ⟨rfl, rfl, rfl, by decide +kernel, rfl, by decide +kernel, by decide +kernel⟩
abbrev s__law_plus : Stmt := top 16
abbrev N__law_plus : List Str := ["one", "two"]
theorem sc__law_plus : FnScope N__law_plus ["one", "two"] (defScope s__law_plus) := ⟨rfl, rfl, rfl, by decide +kernel, rfl, by decide +kernel, by decide +kernel⟩
abbrev s__law_minus : Stmt := top 17
abbrev N__law_minus : List Str := ["one", "two"]
theorem sc__law_minus : FnScope N__law_minus ["one", "two"] (defScope s__law_minus) := ⟨rfl, rfl, rfl, by decide +kernel, rfl, by decide +kernel, by decide +kernel⟩
abbrev s__law_times : Stmt := top 18
abbrev N__law_times : List Str := ["one", "two"]
theorem sc__law_times : FnScope N__law_times ["one", "two"] (defScope s__law_times) := ⟨rfl, rfl, rfl, by decide +kernel, rfl, by decide +kernel, by decide +kernel⟩
abbrev s__law_compare : Stmt := top 19
abbrev N__law_compare : List Str := ["one", "two", "gap"]
theorem sc__law_compare : FnScope N__law_compare ["one", "two"] (defScope s__law_compare) := ⟨rfl, rfl, rfl, by decide +kernel, rfl, by decide +kernel, by decide +kernel⟩
abbrev s__law_lift : Stmt := top 20
abbrev N__law_lift : List Str := ["values", "bottom", "value"]
theorem sc__law_lift : FnScope N__law_lift ["values"] (defScope s__law_lift) := ⟨rfl, rfl, rfl, by decide +kernel, rfl, by decide +kernel, by decide +kernel⟩
abbrev s__law_wheel : Stmt := top 21
abbrev N__law_wheel : List Str := ["row", "q"]
theorem sc__law_wheel : FnScope N__law_wheel ["row"] (defScope s__law_wheel) := ⟨rfl, rfl, rfl, by decide +kernel, rfl, by decide +kernel, by decide +kernel⟩
abbrev s__law_costs : Stmt := top 22
abbrev N__law_costs : List Str := ["prices", "q", "costs", "turn", "changed", "mark", "step", "goal", "cost", "k"]
theorem sc__law_costs : FnScope N__law_costs ["prices"] (defScope s__law_costs) := ⟨rfl, rfl, rfl, by decide +kernel, rfl, by decide +kernel, by decide +kernel⟩
abbrev s__law_prices : Stmt := top 23
abbrev N__law_prices : List Str := ["q", "row", "prices", "k", "top"]
theorem sc__law_prices : FnScope N__law_prices ["q", "row"] (defScope s__law_prices) := ⟨rfl, rfl, rfl, by decide +kernel, rfl, by decide +kernel, by decide +kernel⟩
abbrev s__law_whole_prices : Stmt := top 24
abbrev N__law_whole_prices : List Str := ["prices", "bottom", "whole", "price"]
theorem sc__law_whole_prices : FnScope N__law_whole_prices ["prices"] (defScope s__law_whole_prices) := ⟨rfl, rfl, rfl, by decide +kernel, rfl, by decide +kernel, by decide +kernel⟩
abbrev s__law_right : Stmt := top 25
abbrev N__law_right : List Str := ["prices", "costs", "q", "mark", "step", "goal"]
theorem sc__law_right : FnScope N__law_right ["prices", "costs"] (defScope s__law_right) := ⟨rfl, rfl, rfl, by decide +kernel, rfl, by decide +kernel, by decide +kernel⟩
abbrev s__law_cheapest_costs : Stmt := top 26
abbrev N__law_cheapest_costs : List Str := ["prices", "whole", "found", "cost"]
theorem sc__law_cheapest_costs : FnScope N__law_cheapest_costs ["prices"] (defScope s__law_cheapest_costs) := ⟨rfl, rfl, rfl, by decide +kernel, rfl, by decide +kernel, by decide +kernel⟩
abbrev s__law_as_lists : Stmt := top 27
abbrev N__law_as_lists : List Str := ["values", "found", "value"]
theorem sc__law_as_lists : FnScope N__law_as_lists ["values"] (defScope s__law_as_lists) := ⟨rfl, rfl, rfl, by decide +kernel, rfl, by decide +kernel, by decide +kernel⟩
abbrev s__law_changed : Stmt := top 28
abbrev N__law_changed : List Str := ["costs", "row", "found", "k", "step", "j", "cost"]
theorem sc__law_changed : FnScope N__law_changed ["costs", "row"] (defScope s__law_changed) := ⟨rfl, rfl, rfl, by decide +kernel, rfl, by decide +kernel, by decide +kernel⟩
abbrev s_law : Stmt := top 29
abbrev N_law : List Str := ["script", "wheel", "q", "size", "prices", "costs", "j", "row", "changed", "due", "given", "mark", "k", "price"]
theorem sc_law : FnScope N_law ["script"] (defScope s_law) := ⟨rfl, rfl, rfl, by decide +kernel, rfl, by decide +kernel, by decide +kernel⟩
/-- what the top has written -/
structure Top (K : PySem.W.Frag) (mg : Str → Option Value) : Prop where
  F_ratio : ∃ f fd, mg "ratio" = some (.ref f) ∧ FunD K "ratio" "ratio" (defArgs s_ratio) (defBody s_ratio) (defScope s_ratio) [.int 1] [] f fd
  F_plus : ∃ f fd, mg "plus" = some (.ref f) ∧ FunD K "plus" "plus" (defArgs s_plus) (defBody s_plus) (defScope s_plus) [] [] f fd
  F_compare : ∃ f fd, mg "compare" = some (.ref f) ∧ FunD K "compare" "compare" (defArgs s_compare) (defBody s_compare) (defScope s_compare) [] [] f fd
  F_are_floor_costs : ∃ f fd, mg "are_floor_costs" = some (.ref f) ∧ FunD K "are_floor_costs" "are_floor_costs" (defArgs s_are_floor_costs) (defBody s_are_floor_costs) (defScope s_are_floor_costs) [] [] f fd
  F__law_is : ∃ f fd, mg "_law_is" = some (.ref f) ∧ FunD K "_law_is" "_law_is" (defArgs s__law_is) (defBody s__law_is) (defScope s__law_is) [] [] f fd
  F__law_cell : ∃ f fd, mg "_law_cell" = some (.ref f) ∧ FunD K "_law_cell" "_law_cell" (defArgs s__law_cell) (defBody s__law_cell) (defScope s__law_cell) [] [] f fd
  F__law_digits : ∃ f fd, mg "_law_digits" = some (.ref f) ∧ FunD K "_law_digits" "_law_digits" (defArgs s__law_digits) (defBody s__law_digits) (defScope s__law_digits) [] [] f fd
  F__law_gcd : ∃ f fd, mg "_law_gcd" = some (.ref f) ∧ FunD K "_law_gcd" "_law_gcd" (defArgs s__law_gcd) (defBody s__law_gcd) (defScope s__law_gcd) [] [] f fd
  F__law_ratio : ∃ f fd, mg "_law_ratio" = some (.ref f) ∧ FunD K "_law_ratio" "_law_ratio" (defArgs s__law_ratio) (defBody s__law_ratio) (defScope s__law_ratio) [] [] f fd
  F__law_plus : ∃ f fd, mg "_law_plus" = some (.ref f) ∧ FunD K "_law_plus" "_law_plus" (defArgs s__law_plus) (defBody s__law_plus) (defScope s__law_plus) [] [] f fd
  F__law_minus : ∃ f fd, mg "_law_minus" = some (.ref f) ∧ FunD K "_law_minus" "_law_minus" (defArgs s__law_minus) (defBody s__law_minus) (defScope s__law_minus) [] [] f fd
  F__law_times : ∃ f fd, mg "_law_times" = some (.ref f) ∧ FunD K "_law_times" "_law_times" (defArgs s__law_times) (defBody s__law_times) (defScope s__law_times) [] [] f fd
  F__law_compare : ∃ f fd, mg "_law_compare" = some (.ref f) ∧ FunD K "_law_compare" "_law_compare" (defArgs s__law_compare) (defBody s__law_compare) (defScope s__law_compare) [] [] f fd
  F__law_lift : ∃ f fd, mg "_law_lift" = some (.ref f) ∧ FunD K "_law_lift" "_law_lift" (defArgs s__law_lift) (defBody s__law_lift) (defScope s__law_lift) [] [] f fd
  F__law_wheel : ∃ f fd, mg "_law_wheel" = some (.ref f) ∧ FunD K "_law_wheel" "_law_wheel" (defArgs s__law_wheel) (defBody s__law_wheel) (defScope s__law_wheel) [] [] f fd
  F__law_costs : ∃ f fd, mg "_law_costs" = some (.ref f) ∧ FunD K "_law_costs" "_law_costs" (defArgs s__law_costs) (defBody s__law_costs) (defScope s__law_costs) [] [] f fd
  F__law_prices : ∃ f fd, mg "_law_prices" = some (.ref f) ∧ FunD K "_law_prices" "_law_prices" (defArgs s__law_prices) (defBody s__law_prices) (defScope s__law_prices) [] [] f fd
  F__law_whole_prices : ∃ f fd, mg "_law_whole_prices" = some (.ref f) ∧ FunD K "_law_whole_prices" "_law_whole_prices" (defArgs s__law_whole_prices) (defBody s__law_whole_prices) (defScope s__law_whole_prices) [] [] f fd
  F__law_right : ∃ f fd, mg "_law_right" = some (.ref f) ∧ FunD K "_law_right" "_law_right" (defArgs s__law_right) (defBody s__law_right) (defScope s__law_right) [] [] f fd
  F__law_cheapest_costs : ∃ f fd, mg "_law_cheapest_costs" = some (.ref f) ∧ FunD K "_law_cheapest_costs" "_law_cheapest_costs" (defArgs s__law_cheapest_costs) (defBody s__law_cheapest_costs) (defScope s__law_cheapest_costs) [] [] f fd
  F__law_as_lists : ∃ f fd, mg "_law_as_lists" = some (.ref f) ∧ FunD K "_law_as_lists" "_law_as_lists" (defArgs s__law_as_lists) (defBody s__law_as_lists) (defScope s__law_as_lists) [] [] f fd
  F__law_changed : ∃ f fd, mg "_law_changed" = some (.ref f) ∧ FunD K "_law_changed" "_law_changed" (defArgs s__law_changed) (defBody s__law_changed) (defScope s__law_changed) [] [] f fd
  F_law : ∃ f fd, mg "law" = some (.ref f) ∧ FunD K "law" "law" (defArgs s_law) (defBody s_law) (defScope s_law) [] [] f fd
  m_abs : mg "abs" = none
  m_enumerate : mg "enumerate" = none
  m_int : mg "int" = none
  m_len : mg "len" = none
  m_list : mg "list" = none
  m_range : mg "range" = none
  m_repr : mg "repr" = none
  m_tuple : mg "tuple" = none
  m_gcd : mg "gcd" = some (.builtin "math.gcd")
/-! the head -/
def q_ratio : He.DefD := ⟨("ratio", none), "ratio", "ratio", defArgs s_ratio, defBody s_ratio, defScope s_ratio, [.int 1], []⟩
def q_plus : He.DefD := ⟨("plus", none), "plus", "plus", defArgs s_plus, defBody s_plus, defScope s_plus, [], []⟩
def q_compare : He.DefD := ⟨("compare", none), "compare", "compare", defArgs s_compare, defBody s_compare, defScope s_compare, [], []⟩
def q_are_floor_costs : He.DefD := ⟨("are_floor_costs", none), "are_floor_costs", "are_floor_costs", defArgs s_are_floor_costs, defBody s_are_floor_costs, defScope s_are_floor_costs, [], []⟩
def q__law_is : He.DefD := ⟨("_law_is", none), "_law_is", "_law_is", defArgs s__law_is, defBody s__law_is, defScope s__law_is, [], []⟩
def q__law_cell : He.DefD := ⟨("_law_cell", none), "_law_cell", "_law_cell", defArgs s__law_cell, defBody s__law_cell, defScope s__law_cell, [], []⟩
def q__law_digits : He.DefD := ⟨("_law_digits", none), "_law_digits", "_law_digits", defArgs s__law_digits, defBody s__law_digits, defScope s__law_digits, [], []⟩
def q__law_gcd : He.DefD := ⟨("_law_gcd", none), "_law_gcd", "_law_gcd", defArgs s__law_gcd, defBody s__law_gcd, defScope s__law_gcd, [], []⟩
def q__law_ratio : He.DefD := ⟨("_law_ratio", none), "_law_ratio", "_law_ratio", defArgs s__law_ratio, defBody s__law_ratio, defScope s__law_ratio, [], []⟩
def q__law_plus : He.DefD := ⟨("_law_plus", none), "_law_plus", "_law_plus", defArgs s__law_plus, defBody s__law_plus, defScope s__law_plus, [], []⟩
def q__law_minus : He.DefD := ⟨("_law_minus", none), "_law_minus", "_law_minus", defArgs s__law_minus, defBody s__law_minus, defScope s__law_minus, [], []⟩
def q__law_times : He.DefD := ⟨("_law_times", none), "_law_times", "_law_times", defArgs s__law_times, defBody s__law_times, defScope s__law_times, [], []⟩
def q__law_compare : He.DefD := ⟨("_law_compare", none), "_law_compare", "_law_compare", defArgs s__law_compare, defBody s__law_compare, defScope s__law_compare, [], []⟩
def q__law_lift : He.DefD := ⟨("_law_lift", none), "_law_lift", "_law_lift", defArgs s__law_lift, defBody s__law_lift, defScope s__law_lift, [], []⟩
def q__law_wheel : He.DefD := ⟨("_law_wheel", none), "_law_wheel", "_law_wheel", defArgs s__law_wheel, defBody s__law_wheel, defScope s__law_wheel, [], []⟩
def q__law_costs : He.DefD := ⟨("_law_costs", none), "_law_costs", "_law_costs", defArgs s__law_costs, defBody s__law_costs, defScope s__law_costs, [], []⟩
def q__law_prices : He.DefD := ⟨("_law_prices", none), "_law_prices", "_law_prices", defArgs s__law_prices, defBody s__law_prices, defScope s__law_prices, [], []⟩
def q__law_whole_prices : He.DefD := ⟨("_law_whole_prices", none), "_law_whole_prices", "_law_whole_prices", defArgs s__law_whole_prices, defBody s__law_whole_prices, defScope s__law_whole_prices, [], []⟩
def q__law_right : He.DefD := ⟨("_law_right", none), "_law_right", "_law_right", defArgs s__law_right, defBody s__law_right, defScope s__law_right, [], []⟩
def q__law_cheapest_costs : He.DefD := ⟨("_law_cheapest_costs", none), "_law_cheapest_costs", "_law_cheapest_costs", defArgs s__law_cheapest_costs, defBody s__law_cheapest_costs, defScope s__law_cheapest_costs, [], []⟩
def q__law_as_lists : He.DefD := ⟨("_law_as_lists", none), "_law_as_lists", "_law_as_lists", defArgs s__law_as_lists, defBody s__law_as_lists, defScope s__law_as_lists, [], []⟩
def q__law_changed : He.DefD := ⟨("_law_changed", none), "_law_changed", "_law_changed", defArgs s__law_changed, defBody s__law_changed, defScope s__law_changed, [], []⟩
def q_law : He.DefD := ⟨("law", none), "law", "law", defArgs s_law, defBody s_law, defScope s_law, [], []⟩
def fn : List He.DefD := [q_ratio, q_plus, q_compare, q_are_floor_costs, q__law_is, q__law_cell, q__law_digits, q__law_gcd, q__law_ratio, q__law_plus, q__law_minus, q__law_times, q__law_compare, q__law_lift, q__law_wheel, q__law_costs, q__law_prices, q__law_whole_prices, q__law_right, q__law_cheapest_costs, q__law_as_lists, q__law_changed, q_law]
def fa : List He.Fa := [.glo "ratio", .glo "plus", .glo "compare", .glo "are_floor_costs", .glo "_law_is", .glo "_law_cell", .glo "_law_digits", .glo "_law_gcd", .glo "_law_ratio", .glo "_law_plus", .glo "_law_minus", .glo "_law_times", .glo "_law_compare", .glo "_law_lift", .glo "_law_wheel", .glo "_law_costs", .glo "_law_prices", .glo "_law_whole_prices", .glo "_law_right", .glo "_law_cheapest_costs", .glo "_law_as_lists", .glo "_law_changed", .glo "law", .free "abs", .free "enumerate", .free "int", .free "len", .free "list", .free "range", .free "repr", .free "tuple"]
def bs : List (Str × String) := [("gcd", "math.gcd")]
end K15

set_option Elab.async false
set_option linter.all false
set_option maxRecDepth 100000
set_option maxHeartbeats 4000000
namespace K15
open PySem L2 Dat Pl
local macro_rules | `(tactic| walk_at "c") => `(tactic| first | exact trivial | (show _ ≤ 16777216; simp; done))
local macro_rules | `(tactic| walk_at "len") => `(tactic| (intro ds r h; (repeat obtain ⟨_, h⟩ := h); subst_vars; first | rfl | (simp; done)))
variable {P : Program} {w : World} {K : PySem.W.Frag} {mg : Str → Option Value} {base : Heap} {f : Addr} {cdv : Value} {A : Around} {outer : List PySem.Env} {s : Shared} {H : Hp} {E : XK}
theorem b_ratio (T : Top K mg) (dg : base.NoDigits) (pl : Plc (BX P w K mg base N_ratio "ratio" s_ratio f cdv A outer s H E) 0) : ∀ ds r, R_ratio ds r → DSs (BX P w K mg base N_ratio "ratio" s_ratio f cdv A outer s H E) (startD N_ratio ds) (defBody s_ratio) (fin r) := by
  rintro _ _ ⟨t, b, hb, hB, rfl, rfl⟩
  obtain ⟨g1, g2⟩ := gcd_div (t := t) hb hB
  refine' dss_if (dt_eqI (dv 1 rfl rfl) de_int) (fun h => ?_) (fun h => ?_)
  · exact absurd (of_decide_eq_true h) hb
  refine dss_nil ?_
  refine' dss_set 2 pl rfl (de_gcd T.m_gcd (dv 0 rfl rfl) (dv 1 rfl rfl)) ?_
  refine' dss_if (dt_lt (dv 1 rfl rfl) de_int) (fun h => ?_) (fun h => ?_)
  · refine' dss_set 2 pl rfl (de_neg (dv 2 rfl rfl)) ?_
    refine dss_nil ?_
    refine' dss_ret (de_tup (da_cons (de_divG (dv 0 rfl rfl) (dv 2 rfl rfl) g2) (da_cons (de_divG (dv 1 rfl rfl) (dv 2 rfl rfl) g2) da_nil))) (.inl ?_)
    simp only [fr, frK, rat, if_pos (of_decide_eq_true h)]
  refine dss_nil ?_
  refine' dss_ret (de_tup (da_cons (de_divG (dv 0 rfl rfl) (dv 2 rfl rfl) g1) (da_cons (de_divG (dv 1 rfl rfl) (dv 2 rfl rfl) g1) da_nil))) (.inl ?_)
  simp only [fr, frK, rat, if_neg (of_decide_eq_false h)]
theorem f_ratio (T : Top K mg) (dg : base.NoDigits) : ∃ f fd, mg "ratio" = some (.ref f) ∧ FunD K "ratio" "ratio" (defArgs s_ratio) (defBody s_ratio) (defScope s_ratio) [.int 1] [] f fd ∧ FnG P w K mg base CX0 1 f fd ["top", "bottom"] (spD K R_ratio) := by
  obtain ⟨f, fd, hm, F⟩ := T.F_ratio
  exact ⟨f, fd, hm, F, fng_data F sc_ratio (by rintro _ _ ⟨_, _, _, _, rfl, _⟩; rfl) dg (fun cdv A outer s H E pl => b_ratio T dg pl)⟩
theorem d_ratio (T : Top K mg) (dg : base.NoDigits) : Def P w K mg base "ratio" 1 ["top", "bottom"] [] R_ratio := by
  obtain ⟨f, fd, hm, F, G⟩ := f_ratio (P := P) (w := w) T dg
  obtain ⟨ds, hv, hb⟩ := F.binds1 (ps := ["top", "bottom"]) 2 1 (by simp) rfl (fun T kV doc pm an cdv ct us its hl hl2 => match us, its, hl, hl2 with | [_, _], [_], _, _ => ⟨_, rfl, rfl⟩)
  exact ⟨f, fd, _, ds, G, hm, F.kp, hb, hv, fun _ => by simp [IsAll]⟩
theorem d1_ratio (T : Top K mg) (dg : base.NoDigits) : Def P w K mg base "ratio" 1 ["top", "bottom"] [.int 1] R_ratio := by
  obtain ⟨f, fd, hm, F, G⟩ := f_ratio (P := P) (w := w) T dg
  obtain ⟨ds, hv, hb⟩ := F.binds1 (ps := ["top", "bottom"]) 1 0 (by simp) rfl (fun T kV doc pm an cdv ct us its hl hl2 => match us, its, hl, hl2 with | [_], [_], _, _ => ⟨_, rfl, rfl⟩)
  exact ⟨f, fd, _, ds, G, hm, F.kp, hb, hv, fun _ => .one is_int⟩
theorem b_plus (T : Top K mg) (dg : base.NoDigits) (pl : Plc (BX P w K mg base N_plus "plus" s_plus f cdv A outer s H E) 1) : ∀ ds r, R_plus ds r → DSs (BX P w K mg base N_plus "plus" s_plus f cdv A outer s H E) (startD N_plus ds) (defBody s_plus) (fin r) := by
  rintro _ _ ⟨p, q, ⟨⟨k, l, rfl⟩, p1, p2, q1, q2, pp, qp⟩, hB, rfl⟩
  refine' dss_ret (de_callS pl (d_ratio T dg) (by decide) rfl (da_cons (de_add (de_mul (de_ix (dv 0 rfl rfl) de_int rfl) (de_ix (dv 1 rfl rfl) de_int rfl) rfl (p1.mulW q2 (by decide))) (de_mul (de_ix (dv 1 rfl rfl) de_int rfl) (de_ix (dv 0 rfl rfl) de_int rfl) rfl (q1.mulW p2 (by decide))) rfl (by walk_at "c")) (da_cons (de_mul (de_ix (dv 0 rfl rfl) de_int rfl) (de_ix (dv 1 rfl rfl) de_int rfl) rfl (p2.mulW q2 (by decide))) da_nil)) ?r4) (.inl rfl)
  exact ⟨_, _, Int.ne_of_gt (Int.mul_pos pp qp), hB, rfl, rfl⟩
theorem d_plus (T : Top K mg) (dg : base.NoDigits) : Def P w K mg base "plus" 2 ["one", "two"] [] R_plus := by
  obtain ⟨f, fd, hm, F⟩ := T.F_plus
  exact ⟨f, fd, [], [], fng_data F sc_plus (by rintro _ _ ⟨_, _, ⟨⟨_, _, rfl⟩, _⟩, _⟩; rfl) dg (fun cdv A outer s H E pl => b_plus T dg pl), hm, F.kp, F.bindsN fun _ _ _ _ _ _ us hl => match us, hl with | [_, _], _ => rfl, .nil, fun _ => by simp [IsAll]⟩
theorem b__law_is (T : Top K mg) (dg : base.NoDigits) (pl : Plc (BX P w K mg base N__law_is "_law_is" s__law_is f cdv A outer s H E) 0) : ∀ ds r, R__law_is ds r → DSs (BX P w K mg base N__law_is "_law_is" s__law_is f cdv A outer s H E) (startD N__law_is ds) (defBody s__law_is) (fin r) := by
  rintro _ _ ⟨d, e, hd, he, rfl, rfl⟩
  refine' dss_ret (de_eqS (de_repr pl T.m_repr (dv 0 rfl rfl) hd) (de_repr pl T.m_repr (dv 1 rfl rfl) he)) (.inl rfl)
theorem d__law_is (T : Top K mg) (dg : base.NoDigits) : Def P w K mg base "_law_is" 1 ["told", "due"] [] R__law_is := by
  obtain ⟨f, fd, hm, F⟩ := T.F__law_is
  exact ⟨f, fd, [], [], fng_data F sc__law_is (by rintro _ _ ⟨_, _, _, _, rfl, _⟩; rfl) dg (fun cdv A outer s H E pl => b__law_is T dg pl), hm, F.kp, F.bindsN fun _ _ _ _ _ _ us hl => match us, hl with | [_, _], _ => rfl, .nil, fun _ => by simp [IsAll]⟩
theorem b__law_gcd (T : Top K mg) (dg : base.NoDigits) (pl : Plc (BX P w K mg base N__law_gcd "_law_gcd" s__law_gcd f cdv A outer s H E) 0) : ∀ ds r, R__law_gcd ds r → DSs (BX P w K mg base N__law_gcd "_law_gcd" s__law_gcd f cdv A outer s H E) (startD N__law_gcd ds) (defBody s__law_gcd) (fin r) := by
  rintro _ _ ⟨a, b, ha, hb, rfl, rfl⟩
  refine' dss_set 0 pl rfl (de_abs T.m_abs (dv 0 rfl rfl)) ?_
  refine' dss_set 1 pl rfl (de_abs T.m_abs (dv 1 rfl rfl)) ?_
  refine' dss_rng 2 pl rfl T.m_range de_int (by decide) (by decide) (fun n δ => ∃ (l r : Nat) (t u : Slot), Eu a.natAbs b.natAbs n l r ∧ δ = [.sh (.int l), .sh (.int r), t, u]) ⟨_, _, .no, .no, Eu.start _ _, rfl⟩ (fun n δ' hn hi => ?hs) (fun δ' hi => ?hd)
  case hs =>
    obtain ⟨l, r, t, u, eu, rfl⟩ := hi
    refine' dss_ifG (dt_eqI (dv 1 rfl rfl) de_int) (fun h => ?_) (fun h => ?_)
    · refine dss_break ?_
      have h0 : r = 0 := by have := of_decide_eq_true h; omega
      subst h0
      refine' dss_ret (dv 0 rfl rfl) (.inl ?_)
      have := eu.g
      rw [Nat.gcd_zero_right] at this
      rw [this]
    have h0 : 0 < r := by have := of_decide_eq_false h; omega
    refine' dss_set 3 pl rfl (de_mod (de_intc T.m_int (dv 0 rfl rfl) rfl) (dv 1 rfl rfl) (by omega)) ?_
    refine' dss_set 0 pl rfl (dv 1 rfl rfl) ?_
    refine' dss_set 1 pl rfl (dv 3 rfl rfl) ?_
    exact dss_nil ⟨r, l % r, _, _, eu.turn h0, rfl⟩
  case hd =>
    obtain ⟨l, r, t, u, eu, rfl⟩ := hi
    have h0 := eu.last ha hb (Nat.le_refl _)
    subst h0
    refine' dss_ret (dv 0 rfl rfl) (.inl ?_)
    have := eu.g
    rw [Nat.gcd_zero_right] at this
    rw [this]
theorem d__law_gcd (T : Top K mg) (dg : base.NoDigits) : Def P w K mg base "_law_gcd" 1 ["one", "two"] [] R__law_gcd := by
  obtain ⟨f, fd, hm, F⟩ := T.F__law_gcd
  exact ⟨f, fd, [], [], fng_data F sc__law_gcd (by rintro _ _ ⟨_, _, _, _, rfl, _⟩; rfl) dg (fun cdv A outer s H E pl => b__law_gcd T dg pl), hm, F.kp, F.bindsN fun _ _ _ _ _ _ us hl => match us, hl with | [_, _], _ => rfl, .nil, fun _ => by simp [IsAll]⟩
theorem b__law_ratio (T : Top K mg) (dg : base.NoDigits) (pl : Plc (BX P w K mg base N__law_ratio "_law_ratio" s__law_ratio f cdv A outer s H E) 1) : ∀ ds r, R__law_ratio ds r → DSs (BX P w K mg base N__law_ratio "_law_ratio" s__law_ratio f cdv A outer s H E) (startD N__law_ratio ds) (defBody s__law_ratio) (fin r) := by
  rintro _ _ ⟨t, b, hb, ht, hB, rfl, rfl⟩
  obtain ⟨g1, g2⟩ := gcd_div (t := t) hb hB
  refine' dss_set 2 pl rfl (de_callS pl (d__law_gcd T dg) (by decide) rfl (da_cons (dv 0 rfl rfl) (da_cons (dv 1 rfl rfl) da_nil)) ⟨_, _, ht, hB.mono (by decide), rfl, rfl⟩) ?_
  refine' dss_if (dt_lt (dv 1 rfl rfl) de_int) (fun h => ?_) (fun h => ?_)
  · refine' dss_set 2 pl rfl (de_neg (dv 2 rfl rfl)) ?_
    refine dss_nil ?_
    refine' dss_ret (de_tup (da_cons (de_divG (dv 0 rfl rfl) (dv 2 rfl rfl) g2) (da_cons (de_divG (dv 1 rfl rfl) (dv 2 rfl rfl) g2) da_nil))) (.inl ?_)
    simp only [fr, frK, rat, if_pos (of_decide_eq_true h)]
  refine dss_nil ?_
  refine' dss_ret (de_tup (da_cons (de_divG (dv 0 rfl rfl) (dv 2 rfl rfl) g1) (da_cons (de_divG (dv 1 rfl rfl) (dv 2 rfl rfl) g1) da_nil))) (.inl ?_)
  simp only [fr, frK, rat, if_neg (of_decide_eq_false h)]
theorem d__law_ratio (T : Top K mg) (dg : base.NoDigits) : Def P w K mg base "_law_ratio" 2 ["top", "bottom"] [] R__law_ratio := by
  obtain ⟨f, fd, hm, F⟩ := T.F__law_ratio
  exact ⟨f, fd, [], [], fng_data F sc__law_ratio (by rintro _ _ ⟨_, _, _, _, _, rfl, _⟩; rfl) dg (fun cdv A outer s H E pl => b__law_ratio T dg pl), hm, F.kp, F.bindsN fun _ _ _ _ _ _ us hl => match us, hl with | [_, _], _ => rfl, .nil, fun _ => by simp [IsAll]⟩
theorem b__law_cell (T : Top K mg) (dg : base.NoDigits) (pl : Plc (BX P w K mg base N__law_cell "_law_cell" s__law_cell f cdv A outer s H E) 0) : ∀ ds r, R__law_cell ds r → DSs (BX P w K mg base N__law_cell "_law_cell" s__law_cell f cdv A outer s H E) (startD N__law_cell ds) (defBody s__law_cell) (fin r) := by
  rintro _ _ ⟨ns, k, h0, h1, rfl, rfl⟩
  refine' dss_ifG (dt_lt (dv 1 rfl rfl) (de_len T.m_len (dv 0 rfl rfl) rfl)) (fun h => ?_) (fun h => ?_)
  · have hk : k < ns.length := of_decide_eq_true h
    have hg : ns[k.toNat]? = some (ns.getD k.toNat 0) := by
      rw [List.getD_eq_getElem?_getD, List.getElem?_eq_getElem (by omega)]; rfl
    refine' dss_ret (de_ix (dc := .int (cellZ ns k)) (dv 0 rfl rfl) (dv 1 rfl rfl) ?ix1) (.inl rfl)
    case ix1 =>
      show (atI ns k).map Dt.int = _
      rw [atI_get h0 hg]
      unfold cellZ
      rw [if_pos hk]; rfl
  have hk : ¬ k < ns.length := of_decide_eq_false h
  refine' dss_set 2 pl rfl de_int ?_
  refine' dss_for 3 pl rfl (di_scr (dv 0 rfl rfl)) (fun n δ => ∃ t, δ = [.sh (.scr ns), .sh (.int k), .sh (.int (seedF (ns.take n))), t]) ⟨.no, rfl⟩ (fun n d δ' hd hi => ?hs) (fun δ' hi => ?hd)
  case hs =>
    obtain ⟨t, rfl⟩ := hi
    obtain ⟨v, hv, rfl⟩ := map_int_get hd
    have sb := seed_bd (ns.take n)
    refine' dss_set 2 pl rfl (de_mod (de_intc T.m_int (de_add (de_mul (dv 2 rfl rfl) de_int rfl (B.mulW (n := 40) (m := 40) (.bd sb.1 (Int.le_of_lt sb.2) (by decide)) (by decide) (by decide))) (de_mod (de_intc T.m_int (dv 3 rfl rfl) rfl) de_int (by decide)) rfl (by walk_at "c")) rfl) de_int (by decide)) ?_
    refine dss_nil ⟨.sh (.int v), ?_⟩
    have e : seedF (ns.take (n + 1)) = (seedF (ns.take n) * 31 + v % 1000003) % 1000003 := by
      unfold seedF
      rw [List.take_add_one, hv, List.foldl_append]; rfl
    rw [e]; rfl
  case hd =>
    obtain ⟨t, rfl⟩ := hi
    rw [List.length_map, List.take_length]
    have sb := seed_bd ns
    have b1 : B 40 (seedF ns + 7) := .bd (m := 2000000) (by omega) (by omega) (by decide)
    have b2 : B 40 (k + 3) := .bd (m := 2000000) (by omega) (by omega) (by decide)
    refine' dss_ret (de_mod (de_intc T.m_int (de_mul (de_mul (de_add (dv 2 rfl rfl) de_int rfl (by walk_at "c")) (de_add (dv 1 rfl rfl) de_int rfl (by walk_at "c")) rfl (b1.mulW b2 (by decide))) de_int rfl ((b1.mul b2).mulW (m := 40) (by decide) (by decide))) rfl) de_int (by decide)) (.inl ?_)
    unfold cellZ
    rw [if_neg hk]
theorem d__law_cell (T : Top K mg) (dg : base.NoDigits) : Def P w K mg base "_law_cell" 1 ["script", "k"] [] R__law_cell := by
  obtain ⟨f, fd, hm, F⟩ := T.F__law_cell
  exact ⟨f, fd, [], [], fng_data F sc__law_cell (by rintro _ _ ⟨_, _, _, _, rfl, _⟩; rfl) dg (fun cdv A outer s H E pl => b__law_cell T dg pl), hm, F.kp, F.bindsN fun _ _ _ _ _ _ us hl => match us, hl with | [_, _], _ => rfl, .nil, fun _ => by simp [IsAll]⟩
theorem b__law_digits (T : Top K mg) (dg : base.NoDigits) (pl : Plc (BX P w K mg base N__law_digits "_law_digits" s__law_digits f cdv A outer s H E) 0) : ∀ ds r, R__law_digits ds r → DSs (BX P w K mg base N__law_digits "_law_digits" s__law_digits f cdv A outer s H E) (startD N__law_digits ds) (defBody s__law_digits) (fin r) := by
  rintro _ _ ⟨c, tt, ss, hss, hlen, rfl, rfl⟩
  refine' dss_setO 2 pl rfl (df_lst da_nil) ?_
  refine' dss_set 3 pl rfl (de_intc T.m_int (dv 0 rfl rfl) rfl) ?_
  refine' dss_ifG (dt_ge (dv 3 rfl rfl) (de_pow de_int de_int (by decide))) (fun h => ?_) (fun h => ?_)
  · have hc : (1000000000000000000 : Int) ≤ c := of_decide_eq_true h
    refine' dss_set 3 pl rfl (de_sub (dv 3 rfl rfl) (de_pow de_int de_int (by decide))) ?_
    refine' dss_for 4 pl rfl (di_seq (dv 1 rfl rfl)) (fun n δ => ∃ (row : List Int) (rs : List Dt) (rest : Int) (t4 t5 t6 t7 : Slot), rs = row.map Dt.int ∧ row.length = n ∧ row ++ dA rest (ss.drop n) = dA (c - 1000000000000000000) ss ∧
      δ = [.sh (.int c), .sh (.sq tt (ss.map Dt.int)), .ow rs, .sh (.int rest), t4, t5, t6, t7]) ⟨[], [], _, .no, .no, .no, .no, rfl, rfl, rfl, rfl⟩ (fun n d δ' hd hi => ?hs) (fun δ' hi => ?hd)
    case hs =>
      obtain ⟨row, rs, rest, t4, t5, t6, t7, rfl, hl, he, rfl⟩ := hi
      obtain ⟨v, hv, rfl⟩ := map_int_get hd
      have hn := lt_of_get hv
      obtain ⟨v0, vB⟩ := hss v (List.mem_of_getElem? hv)
      refine' dss_app 2 rfl rfl (de_mod (de_intc T.m_int (dv 3 rfl rfl) rfl) (dv 4 rfl rfl) v0) ?n ?_
      case n => rw [List.length_map]; show _ < 16777216; omega
      refine' dss_set 3 pl rfl (de_div (de_intc T.m_int (dv 3 rfl rfl) rfl) (dv 4 rfl rfl) ⟨v0, vB.log (by decide)⟩) ?_
      refine dss_nil ⟨row ++ [rest % v], _, rest / v, _, _, _, _, ?_, by simp [hl], ?_, rfl⟩
      · simp
      · rw [← he]
        have e : ss.drop n = v :: ss.drop (n + 1) := by
          rw [List.drop_eq_getElem_cons hn]
          rw [List.getElem?_eq_getElem hn] at hv
          cases hv; rfl
        rw [e]; simp [dA]
    case hd =>
      obtain ⟨row, rs, rest, t4, t5, t6, t7, rfl, hl, he, rfl⟩ := hi
      refine' dss_retO 2 rfl rfl (.inl ?_)
      rw [List.length_map, List.drop_length] at he
      unfold digZ; rw [if_pos hc, ← he]; simp [dA]
  have hc : ¬ (1000000000000000000 : Int) ≤ c := of_decide_eq_false h
  refine' dss_set 5 pl rfl (de_mod (de_intc T.m_int (dv 3 rfl rfl) rfl) de_int (by decide)) ?_
  refine' dss_rng 6 pl rfl T.m_range (de_len T.m_len (dv 1 rfl rfl) rfl) (by omega) (by rw [List.length_map]; omega) (fun n δ => ∃ (row : List Int) (rs : List Dt) (seed : Int) (t3 t4 t6 t7 : Slot), rs = row.map Dt.int ∧ row.length = n ∧ (0 ≤ seed ∧ seed < 2147483647) ∧ row ++ dB seed n (ss.drop n) = dB (c % 2147483629) 0 ss ∧
      δ = [.sh (.int c), .sh (.sq tt (ss.map Dt.int)), .ow rs, t3, t4, .sh (.int seed), t6, t7]) ⟨[], [], _, _, .no, .no, .no, rfl, rfl, ⟨Int.emod_nonneg _ (by decide), Int.lt_trans (Int.emod_lt_of_pos _ (by decide)) (by decide)⟩, rfl, rfl⟩ (fun n δ' hn hi => ?hs) (fun δ' hi => ?hd)
  case hs =>
    obtain ⟨row, rs, seed, t3, t4, t6, t7, rfl, hl, sb, he, rfl⟩ := hi
    rw [List.length_map] at hn
    have hn' : n < ss.length := by simpa using hn
    obtain ⟨v0, vB⟩ := hss ss[n] (List.getElem_mem hn')
    have b1 : B 40 seed := .bd (m := 2147483647) sb.1 (Int.le_of_lt sb.2) (by decide)
    have b2 : B 40 (n : Int) := .bd (m := 2147483647) (by omega) (by omega) (by decide)
    have s2 := sB_bd seed n
    have b3 : B 40 (sB seed n) := .bd (m := 2147483647) s2.1 (Int.le_of_lt s2.2) (by decide)
    have b4 : B 40 (sB seed n / 65537 + 3) := .bd (m := 2147483647) (by omega) (by omega) (by decide)
    refine' dss_set 5 pl rfl (de_mod (de_intc T.m_int (de_add (de_add (de_mul (dv 5 rfl rfl) de_int rfl (b1.mulW (m := 40) (by decide) (by decide))) (de_mul de_int (dv 6 rfl rfl) rfl (B.mulW (n := 40) (by decide) b2 (by decide))) rfl (by walk_at "c")) de_int rfl (by walk_at "c")) rfl) de_int (by decide)) ?_
    refine' dss_set 7 pl rfl (de_mod (de_intc T.m_int (de_mul (dv 5 rfl rfl) (de_add (de_div (dv 5 rfl rfl) de_int ⟨by decide, by decide⟩) de_int rfl (by walk_at "c")) rfl (b3.mulW b4 (by decide))) rfl) de_int (by decide)) ?_
    refine' dss_app 2 rfl rfl (de_mod (de_div (dv 7 rfl rfl) de_int ⟨by decide, by decide⟩) (de_ix (dv 1 rfl rfl) (dv 6 rfl rfl) (dc := .int ss[n]) ?ix8) v0) ?n ?_
    case ix8 => exact atI_get (by omega) (by simp [hn'])
    case n => rw [List.length_map]; show _ < 16777216; omega
    refine dss_nil ⟨row ++ [sT (sB seed n) / 19 % ss[n]], _, sB seed n, _, _, _, _, ?_, by simp [hl], s2, ?_, rfl⟩
    · simp [sT, sB]
    · rw [← he]
      have e : ss.drop n = ss[n] :: ss.drop (n + 1) := List.drop_eq_getElem_cons hn'
      rw [e]; simp [dB]
  case hd =>
    obtain ⟨row, rs, seed, t3, t4, t6, t7, rfl, hl, sb, he, rfl⟩ := hi
    refine' dss_retO 2 rfl rfl (.inl ?_)
    rw [List.length_map] at he
    have e2 : ((ss.length : Int).toNat) = ss.length := by simp
    rw [e2, List.drop_length] at he
    unfold digZ; rw [if_neg hc, ← he]; simp [dB]
theorem d__law_digits (T : Top K mg) (dg : base.NoDigits) : Def P w K mg base "_law_digits" 1 ["cell", "sizes"] [] R__law_digits := by
  obtain ⟨f, fd, hm, F⟩ := T.F__law_digits
  exact ⟨f, fd, [], [], fng_data F sc__law_digits (by rintro _ _ ⟨_, _, _, _, _, rfl, _⟩; rfl) dg (fun cdv A outer s H E pl => b__law_digits T dg pl), hm, F.kp, F.bindsN fun _ _ _ _ _ _ us hl => match us, hl with | [_, _], _ => rfl, .nil, fun _ => by simp [IsAll]⟩
theorem b_compare (T : Top K mg) (dg : base.NoDigits) (pl : Plc (BX P w K mg base N_compare "compare" s_compare f cdv A outer s H E) 0) : ∀ ds r, R_compare ds r → DSs (BX P w K mg base N_compare "compare" s_compare f cdv A outer s H E) (startD N_compare ds) (defBody s_compare) (fin r) := by
  rintro _ _ ⟨k, l, p, q, rfl, ⟨p1, p2, pp⟩, ⟨q1, q2, qp⟩, rfl⟩
  refine' dss_set 2 pl rfl (de_mul (de_ix (dv 0 rfl rfl) de_int rfl) (de_ix (dv 1 rfl rfl) de_int rfl) rfl (p1.mulW q2 (by decide))) ?_
  refine' dss_set 3 pl rfl (de_mul (de_ix (dv 1 rfl rfl) de_int rfl) (de_ix (dv 0 rfl rfl) de_int rfl) rfl (q1.mulW p2 (by decide))) ?_
  unfold cmpZ
  refine' dss_ifG (dt_lt (dv 2 rfl rfl) (dv 3 rfl rfl)) (fun h => ?_) (fun h => ?_)
  · rw [if_pos (of_decide_eq_true h)]
    exact dss_ret (de_neg de_int) (.inl rfl)
  rw [if_neg (of_decide_eq_false h)]
  refine' dss_ifG (dt_gt (dv 2 rfl rfl) (dv 3 rfl rfl)) (fun h => ?_) (fun h => ?_)
  · rw [if_pos (of_decide_eq_true h)]
    exact dss_ret de_int (.inl rfl)
  rw [if_neg (of_decide_eq_false h)]
  exact dss_ret de_int (.inl rfl)
theorem d_compare (T : Top K mg) (dg : base.NoDigits) : Def P w K mg base "compare" 1 ["one", "two"] [] R_compare := by
  obtain ⟨f, fd, hm, F⟩ := T.F_compare
  exact ⟨f, fd, [], [], fng_data F sc_compare (by walk_at "len") dg (fun cdv A outer s H E pl => b_compare T dg pl), hm, F.kp, F.bindsN fun _ _ _ _ _ _ us hl => match us, hl with | [_, _], _ => rfl, .nil, fun _ => by simp [IsAll]⟩
end K15

set_option Elab.async false
set_option linter.all false
set_option maxRecDepth 100000
set_option maxHeartbeats 4000000
namespace K15
open PySem L2 Dat Pl
local macro_rules | `(tactic| walk_at "c") => `(tactic| first | exact trivial | (show _ ≤ 16777216; simp; done))
local macro_rules | `(tactic| walk_at "len") => `(tactic| (intro ds r h; (repeat obtain ⟨_, h⟩ := h); subst_vars; first | rfl | (simp; done)))
variable {P : Program} {w : World} {K : PySem.W.Frag} {mg : Str → Option Value} {base : Heap} {f : Addr} {cdv : Value} {A : Around} {outer : List PySem.Env} {s : Shared} {H : Hp} {E : XK}
/-! ### the law's sums -/
def minusZ (p q : Int × Int) : Int × Int := rat (p.1 * q.2 - q.1 * p.2) (p.2 * q.2)
def timesZ (p q : Int × Int) : Int × Int := rat (p.1 * q.1) (p.2 * q.2)
def R2f (g : Int × Int → Int × Int → Int × Int) (ds : List Dt) (r : Ret) : Prop := ∃ (k l : Bool) (p q : Int × Int), ds = [frK k p, frK l q] ∧ okF 4000 p ∧ okF 4000 q ∧ r = .sh (fr (g p q))
abbrev R__law_plus := R2f plusZ
abbrev R__law_minus := R2f minusZ
abbrev R__law_times := R2f timesZ
theorem b__law_plus (T : Top K mg) (dg : base.NoDigits) (pl : Plc (BX P w K mg base N__law_plus "_law_plus" s__law_plus f cdv A outer s H E) 2) : ∀ ds r, R__law_plus ds r → DSs (BX P w K mg base N__law_plus "_law_plus" s__law_plus f cdv A outer s H E) (startD N__law_plus ds) (defBody s__law_plus) (fin r) := by
  rintro _ _ ⟨k, l, p, q, rfl, ⟨p1, p2, pp⟩, ⟨q1, q2, qp⟩, rfl⟩
  refine' dss_ret (de_callS pl (d__law_ratio T dg) (by decide) rfl (da_cons (de_add (de_mul (de_ix (dv 0 rfl rfl) de_int rfl) (de_ix (dv 1 rfl rfl) de_int rfl) rfl (p1.mulW q2 (by decide))) (de_mul (de_ix (dv 1 rfl rfl) de_int rfl) (de_ix (dv 0 rfl rfl) de_int rfl) rfl (q1.mulW p2 (by decide))) rfl (by walk_at "c")) (da_cons (de_mul (de_ix (dv 0 rfl rfl) de_int rfl) (de_ix (dv 1 rfl rfl) de_int rfl) rfl (p2.mulW q2 (by decide))) da_nil)) ?r) (.inl rfl)
  exact ⟨_, _, Int.ne_of_gt (Int.mul_pos pp qp), (B.add (p1.mul q2) (q1.mul p2)).mono (by decide), (p2.mul q2).mono (by decide), rfl, rfl⟩
theorem d__law_plus (T : Top K mg) (dg : base.NoDigits) : Def P w K mg base "_law_plus" 3 ["one", "two"] [] R__law_plus := by
  obtain ⟨f, fd, hm, F⟩ := T.F__law_plus
  exact ⟨f, fd, [], [], fng_data F sc__law_plus (by walk_at "len") dg (fun cdv A outer s H E pl => b__law_plus T dg pl), hm, F.kp, F.bindsN fun _ _ _ _ _ _ us hl => match us, hl with | [_, _], _ => rfl, .nil, fun _ => by simp [IsAll]⟩
theorem b__law_minus (T : Top K mg) (dg : base.NoDigits) (pl : Plc (BX P w K mg base N__law_minus "_law_minus" s__law_minus f cdv A outer s H E) 2) : ∀ ds r, R__law_minus ds r → DSs (BX P w K mg base N__law_minus "_law_minus" s__law_minus f cdv A outer s H E) (startD N__law_minus ds) (defBody s__law_minus) (fin r) := by
  rintro _ _ ⟨k, l, p, q, rfl, ⟨p1, p2, pp⟩, ⟨q1, q2, qp⟩, rfl⟩
  refine' dss_ret (de_callS pl (d__law_ratio T dg) (by decide) rfl (da_cons (de_sub (de_mul (de_ix (dv 0 rfl rfl) de_int rfl) (de_ix (dv 1 rfl rfl) de_int rfl) rfl (p1.mulW q2 (by decide))) (de_mul (de_ix (dv 1 rfl rfl) de_int rfl) (de_ix (dv 0 rfl rfl) de_int rfl) rfl (q1.mulW p2 (by decide)))) (da_cons (de_mul (de_ix (dv 0 rfl rfl) de_int rfl) (de_ix (dv 1 rfl rfl) de_int rfl) rfl (p2.mulW q2 (by decide))) da_nil)) ?r) (.inl rfl)
  exact ⟨_, _, Int.ne_of_gt (Int.mul_pos pp qp), (B.sub (p1.mul q2) (q1.mul p2)).mono (by decide), (p2.mul q2).mono (by decide), rfl, rfl⟩
theorem d__law_minus (T : Top K mg) (dg : base.NoDigits) : Def P w K mg base "_law_minus" 3 ["one", "two"] [] R__law_minus := by
  obtain ⟨f, fd, hm, F⟩ := T.F__law_minus
  exact ⟨f, fd, [], [], fng_data F sc__law_minus (by walk_at "len") dg (fun cdv A outer s H E pl => b__law_minus T dg pl), hm, F.kp, F.bindsN fun _ _ _ _ _ _ us hl => match us, hl with | [_, _], _ => rfl, .nil, fun _ => by simp [IsAll]⟩
theorem b__law_times (T : Top K mg) (dg : base.NoDigits) (pl : Plc (BX P w K mg base N__law_times "_law_times" s__law_times f cdv A outer s H E) 2) : ∀ ds r, R__law_times ds r → DSs (BX P w K mg base N__law_times "_law_times" s__law_times f cdv A outer s H E) (startD N__law_times ds) (defBody s__law_times) (fin r) := by
  rintro _ _ ⟨k, l, p, q, rfl, ⟨p1, p2, pp⟩, ⟨q1, q2, qp⟩, rfl⟩
  refine' dss_ret (de_callS pl (d__law_ratio T dg) (by decide) rfl (da_cons (de_mul (de_ix (dv 0 rfl rfl) de_int rfl) (de_ix (dv 1 rfl rfl) de_int rfl) rfl (p1.mulW q1 (by decide))) (da_cons (de_mul (de_ix (dv 0 rfl rfl) de_int rfl) (de_ix (dv 1 rfl rfl) de_int rfl) rfl (p2.mulW q2 (by decide))) da_nil)) ?r) (.inl rfl)
  exact ⟨_, _, Int.ne_of_gt (Int.mul_pos pp qp), (p1.mul q1).mono (by decide), (p2.mul q2).mono (by decide), rfl, rfl⟩
theorem d__law_times (T : Top K mg) (dg : base.NoDigits) : Def P w K mg base "_law_times" 3 ["one", "two"] [] R__law_times := by
  obtain ⟨f, fd, hm, F⟩ := T.F__law_times
  exact ⟨f, fd, [], [], fng_data F sc__law_times (by walk_at "len") dg (fun cdv A outer s H E pl => b__law_times T dg pl), hm, F.kp, F.bindsN fun _ _ _ _ _ _ us hl => match us, hl with | [_, _], _ => rfl, .nil, fun _ => by simp [IsAll]⟩
def R__law_compare (ds : List Dt) (r : Ret) : Prop := ∃ (k l : Bool) (p q : Int × Int), ds = [frK k p, frK l q] ∧ okF 100000 p ∧ okF 100000 q ∧ r = .sh (.int (cmpZ p q))
theorem b__law_compare (T : Top K mg) (dg : base.NoDigits) (pl : Plc (BX P w K mg base N__law_compare "_law_compare" s__law_compare f cdv A outer s H E) 0) : ∀ ds r, R__law_compare ds r → DSs (BX P w K mg base N__law_compare "_law_compare" s__law_compare f cdv A outer s H E) (startD N__law_compare ds) (defBody s__law_compare) (fin r) := by
  rintro _ _ ⟨k, l, p, q, rfl, ⟨p1, p2, pp⟩, ⟨q1, q2, qp⟩, rfl⟩
  refine' dss_set 2 pl rfl (de_sub (de_mul (de_ix (dv 0 rfl rfl) de_int rfl) (de_ix (dv 1 rfl rfl) de_int rfl) rfl (p1.mulW q2 (by decide))) (de_mul (de_ix (dv 1 rfl rfl) de_int rfl) (de_ix (dv 0 rfl rfl) de_int rfl) rfl (q1.mulW p2 (by decide)))) ?_
  refine' dss_ret (de_sub (de_intc T.m_int (de_gt (dv 2 rfl rfl) de_int) rfl) (de_intc T.m_int (de_lt (dv 2 rfl rfl) de_int) rfl)) (.inl ?_)
  unfold cmpZ
  by_cases h1 : p.1 * q.2 < q.1 * p.2
  · rw [if_pos h1, decide_eq_false (by omega), decide_eq_true (by omega)]; rfl
  · by_cases h2 : p.1 * q.2 > q.1 * p.2
    · rw [if_neg h1, if_pos h2, decide_eq_true (by omega), decide_eq_false (by omega)]; rfl
    · rw [if_neg h1, if_neg h2, decide_eq_false (by omega), decide_eq_false (by omega)]; rfl
theorem d__law_compare (T : Top K mg) (dg : base.NoDigits) : Def P w K mg base "_law_compare" 1 ["one", "two"] [] R__law_compare := by
  obtain ⟨f, fd, hm, F⟩ := T.F__law_compare
  exact ⟨f, fd, [], [], fng_data F sc__law_compare (by walk_at "len") dg (fun cdv A outer s H E pl => b__law_compare T dg pl), hm, F.kp, F.bindsN fun _ _ _ _ _ _ us hl => match us, hl with | [_, _], _ => rfl, .nil, fun _ => by simp [IsAll]⟩
/-! ### a common bottom -/
theorem lcm_bdA {a : Nat} {ps : List (Int × Int)} (hs : ∀ p, p ∈ ps → B a p.2 ∧ 0 < p.2) : ∀ n, n ≤ ps.length → 0 < lcmF (ps.take n) ∧ B (a * n + 1) (lcmF (ps.take n))
  | 0, _ => by simp only [List.take_zero, lcmF, List.foldl_nil]; exact ⟨by decide, B.mono (n := 1) (by decide) (by omega)⟩
  | n + 1, h => by
    have hn : n < ps.length := by omega
    have e : ps[n]? = some ps[n] := by simp [hn]
    obtain ⟨b1, b2⟩ := lcm_bdA hs n (by omega)
    obtain ⟨q2, q0⟩ := hs ps[n] (List.getElem_mem hn)
    have e2 : lcmF (ps.take (n + 1)) = lcmZ (lcmF (ps.take n)) ps[n].2 := foldl_snoc (fun (b : Int) (p : Int × Int) => lcmZ b p.2) _ e
    obtain ⟨c0, _, _, c1, _⟩ := lcm_facts b1 q0
    rw [e2]
    refine ⟨c0, ((b2.mul q2).mono (m := a * (n + 1) + 1) (by rw [Nat.mul_succ]; omega)).le ?_⟩
    have := Int.mul_pos b1 q0
    omega
def R__law_lift (ds : List Dt) (r : Ret) : Prop := ∃ (t : Bool) (ps : List (Int × Int)), ds = [.sq t (ps.map fr)] ∧ small ps ∧ ps.length ≤ 60 ∧ r = .sh (.sq false [.int (lcmF ps), .sq false (ps.map fun p => .int (p.1 * (lcmF ps / p.2)))])
theorem b__law_lift (T : Top K mg) (dg : base.NoDigits) (pl : Plc (BX P w K mg base N__law_lift "_law_lift" s__law_lift f cdv A outer s H E) 1) : ∀ ds r, R__law_lift ds r → DSs (BX P w K mg base N__law_lift "_law_lift" s__law_lift f cdv A outer s H E) (startD N__law_lift ds) (defBody s__law_lift) (fin r) := by
  rintro _ _ ⟨t, ps, rfl, hs, hl, rfl⟩
  refine' dss_set 1 pl rfl de_int ?_
  refine' dss_for 2 pl rfl (di_seq (dv 0 rfl rfl)) (fun n δ => ∃ t2, δ = [.sh (.sq t (ps.map fr)), .sh (.int (lcmF (ps.take n))), t2]) ⟨.no, rfl⟩ (fun n d δ' hd hi => ?hs) (fun δ' hi => ?hd)
  case hs =>
    obtain ⟨t2, rfl⟩ := hi
    obtain ⟨p, hp, rfl⟩ := frs_get hd
    have hn := lt_of_get hp
    obtain ⟨b1, b2⟩ := lcm_bd hs n (by omega)
    obtain ⟨p1, p2, pp⟩ := hs p (List.mem_of_getElem? hp)
    have g0 := gcd_nat_pos (b := lcmF (ps.take n)) pp
    have gB : B 134 ((Nat.gcd (lcmF (ps.take n)).natAbs p.2.natAbs : Nat) : Int) := p2.le (by simpa using Nat.gcd_le_right _ (by omega))
    have dB : B (134 * n + 1) (lcmF (ps.take n) / ((Nat.gcd (lcmF (ps.take n)).natAbs p.2.natAbs : Nat) : Int)) := div_B b2
    refine' dss_set 1 pl rfl (de_mul (de_div (dv 1 rfl rfl) (de_callS pl (d__law_gcd T dg) (by decide) rfl (da_cons (dv 1 rfl rfl) (da_cons (de_ix (dv 2 rfl rfl) de_int rfl) da_nil)) ⟨_, _, b2.mono (by omega), p2.mono (by decide), rfl, rfl⟩) ⟨g0, gB.log (by decide)⟩) (de_ix (dv 2 rfl rfl) de_int rfl) rfl (dB.mulW p2 (by omega))) ?_
    refine dss_nil ⟨.sh (fr p), ?_⟩
    have e : lcmF (ps.take (n + 1)) = lcmZ (lcmF (ps.take n)) p.2 := foldl_snoc (fun (b : Int) (p : Int × Int) => lcmZ b p.2) _ hp
    rw [e, ← lcm_same pp]; rfl
  obtain ⟨t2, rfl⟩ := hi
  rw [List.length_map, List.take_length]
  obtain ⟨b0, bB⟩ := lcm_bd hs ps.length (Nat.le_refl _)
  rw [List.take_length] at b0 bB
  refine' dss_ret (de_lst (da_cons (dv 1 rfl rfl) (da_cons (de_of (df_lc 2 pl (di_seq (dv 0 rfl rfl)) (blkOk_by (N := N__law_lift) (sc := defScope s__law_lift) (by decide +kernel)) (fun _ _ _ _ _ => pg_name pl.nd rfl (Or.inl rfl)) ?hz (ps.map fun p => .int (p.1 * (lcmF ps / p.2))) (by simp) ?hc)) da_nil))) (.inl rfl)
  case hz => rw [List.length_map]; show _ ≤ 16777216; omega
  case hc =>
    intro n d r h1 h2 s1 H1 C cl fp
    obtain ⟨p, hp, rfl⟩ := frs_get h1
    rw [List.getElem?_map, hp] at h2
    simp only [Option.map_some, Option.some.injEq] at h2
    subst h2
    obtain ⟨p1, p2, pp⟩ := hs p (List.mem_of_getElem? hp)
    exact de_mul (de_ix (dv 2 rfl rfl) de_int rfl) (de_div (dv 1 rfl rfl) (de_ix (dv 2 rfl rfl) de_int rfl) ⟨pp, p2.log (by decide)⟩) rfl (p1.mulW (div_B bB) (by omega))
theorem d__law_lift (T : Top K mg) (dg : base.NoDigits) : Def P w K mg base "_law_lift" 2 ["values"] [] R__law_lift := by
  obtain ⟨f, fd, hm, F⟩ := T.F__law_lift
  exact ⟨f, fd, [], [], fng_data F sc__law_lift (by walk_at "len") dg (fun cdv A outer s H E pl => b__law_lift T dg pl), hm, F.kp, F.bindsN fun _ _ _ _ _ _ us hl => match us, hl with | [_], _ => rfl, .nil, fun _ => by simp [IsAll]⟩
/-! ### the wheel -/
def wheels : List Int := [5, 4, 6, 7, 3, 8, 5, 9, 2, 10]
theorem wheels_bd : ∀ x, x ∈ wheels → 2 ≤ x ∧ x ≤ 10 := by decide
def R__law_wheel (ds : List Dt) (r : Ret) : Prop := ∃ (t : Bool) (a b : Int), ds = [.sq t [.int a, .int b]] ∧ 0 ≤ a ∧ a < 10 ∧ r = .sh (.sq false [.int (wheels.getD a.toNat 0), .int (1 + b % (wheels.getD a.toNat 0 - 1))])
theorem b__law_wheel (T : Top K mg) (dg : base.NoDigits) (pl : Plc (BX P w K mg base N__law_wheel "_law_wheel" s__law_wheel f cdv A outer s H E) 0) : ∀ ds r, R__law_wheel ds r → DSs (BX P w K mg base N__law_wheel "_law_wheel" s__law_wheel f cdv A outer s H E) (startD N__law_wheel ds) (defBody s__law_wheel) (fin r) := by
  rintro _ _ ⟨t, a, b, rfl, a0, a1, rfl⟩
  obtain ⟨mi, mm⟩ := lit_ix (l := wheels) a0 a1
  obtain ⟨q0, q1⟩ := wheels_bd _ mm
  refine' dss_set 1 pl rfl (de_ix (dc := .int (wheels.getD a.toNat 0)) (de_lst (da_cons de_int (da_cons de_int (da_cons de_int (da_cons de_int (da_cons de_int (da_cons de_int (da_cons de_int (da_cons de_int (da_cons de_int (da_cons de_int da_nil))))))))))) (de_ix (dv 0 rfl rfl) de_int rfl) mi) ?_
  generalize wheels.getD a.toNat 0 = q at *
  refine' dss_ret (de_lst (da_cons (dv 1 rfl rfl) (da_cons (de_add de_int (de_mod (de_ix (dv 0 rfl rfl) de_int rfl) (de_sub (dv 1 rfl rfl) de_int) (by omega)) rfl (by walk_at "c")) da_nil))) (.inl rfl)
theorem d__law_wheel (T : Top K mg) (dg : base.NoDigits) : Def P w K mg base "_law_wheel" 1 ["row"] [] R__law_wheel := by
  obtain ⟨f, fd, hm, F⟩ := T.F__law_wheel
  exact ⟨f, fd, [], [], fng_data F sc__law_wheel (by walk_at "len") dg (fun cdv A outer s H E pl => b__law_wheel T dg pl), hm, F.kp, F.bindsN fun _ _ _ _ _ _ us hl => match us, hl with | [_], _ => rfl, .nil, fun _ => by simp [IsAll]⟩
/-! ### optional fractions, optional amounts -/
def opK (k : Bool) : Option (Int × Int) → Dt
  | none => .non
  | some p => frK k p
def oi : Option Int → Dt
  | none => .non
  | some c => .int c
theorem map_get {α : Type} {g : α → Dt} {l : List α} {n : Nat} {d : Dt} (h : (l.map g)[n]? = some d) : ∃ a, l[n]? = some a ∧ d = g a := by
  rw [List.getElem?_map] at h
  cases e : l[n]? with
  | none => rw [e] at h; cases h
  | some a => rw [e] at h; exact ⟨a, rfl, (Option.some.inj h).symm⟩
theorem ix_opt {α : Type} {g : Option α → Dt} {t : Bool} {l : List (Option α)} {i : Int} (h0 : 0 ≤ i) (h : i.toNat < l.length) : ixD (.sq t (l.map g)) (.int i) = some (g (l.getD i.toNat none)) := by
  show atI (l.map g) i = _
  refine atI_get h0 ?_
  rw [List.getElem?_map, List.getD_eq_getElem?_getD, List.getElem?_eq_getElem h]; rfl
def R__law_as_lists (ds : List Dt) (r : Ret) : Prop := ∃ (t : Bool) (l : List (Option (Int × Int))), ds = [.sq t (l.map (opK true))] ∧ l.length ≤ 1000 ∧ r = .ow (l.map (opK false))
theorem b__law_as_lists (T : Top K mg) (dg : base.NoDigits) (pl : Plc (BX P w K mg base N__law_as_lists "_law_as_lists" s__law_as_lists f cdv A outer s H E) 0) : ∀ ds r, R__law_as_lists ds r → DSs (BX P w K mg base N__law_as_lists "_law_as_lists" s__law_as_lists f cdv A outer s H E) (startD N__law_as_lists ds) (defBody s__law_as_lists) (fin r) := by
  rintro _ _ ⟨t, l, rfl, hl, rfl⟩
  refine' dss_setO 1 pl rfl (df_lst da_nil) ?_
  refine' dss_for 2 pl rfl (di_seq (dv 0 rfl rfl)) (fun n δ => ∃ t2, δ = [.sh (.sq t (l.map (opK true))), .ow ((l.take n).map (opK false)), t2]) ⟨.no, rfl⟩ (fun n d δ' hd hi => ?hs) (fun δ' hi => ?hd)
  case hs =>
    obtain ⟨t2, rfl⟩ := hi
    obtain ⟨o, ho, rfl⟩ := map_get hd
    have hn := lt_of_get ho
    have e : (l.take (n + 1)).map (opK false) = (l.take n).map (opK false) ++ [opK false o] := by rw [List.take_add_one, ho, List.map_append]; rfl
    have hz : ((l.take n).map (opK false)).length < sizeLine := by show _ < 16777216; simp; omega
    rw [e]
    cases o with
    | none =>
      refine' dss_ifT (dt_eq (dt_isN (dv 2 rfl rfl) de_non) rfl) ?_
      exact dss_app 1 rfl rfl de_non hz (dss_nil (dss_nil ⟨_, rfl⟩))
    | some p =>
      refine' dss_ifF (dt_eq (dt_isN (dv 2 rfl rfl) de_non) rfl) ?_
      exact dss_app 1 rfl rfl (de_list (t := true) T.m_list (dv 2 rfl rfl)) hz (dss_nil (dss_nil ⟨_, rfl⟩))
  obtain ⟨t2, rfl⟩ := hi
  rw [List.length_map, List.take_length]
  exact dss_retO 1 rfl rfl (.inl rfl)
theorem d__law_as_lists (T : Top K mg) (dg : base.NoDigits) : Def P w K mg base "_law_as_lists" 1 ["values"] [] R__law_as_lists := by
  obtain ⟨f, fd, hm, F⟩ := T.F__law_as_lists
  exact ⟨f, fd, [], [], fng_data F sc__law_as_lists (by walk_at "len") dg (fun cdv A outer s H E pl => b__law_as_lists T dg pl), hm, F.kp, F.bindsN fun _ _ _ _ _ _ us hl => match us, hl with | [_], _ => rfl, .nil, fun _ => by simp [IsAll]⟩
end K15

set_option Elab.async false
set_option linter.all false
set_option maxRecDepth 100000
set_option maxHeartbeats 4000000
namespace K15
open PySem L2 Dat Pl
local macro_rules | `(tactic| walk_at "c") => `(tactic| first | exact trivial | (show _ ≤ 16777216; simp; done))
local macro_rules | `(tactic| walk_at "len") => `(tactic| (intro ds r h; (repeat obtain ⟨_, h⟩ := h); subst_vars; first | rfl | (simp; done)))
variable {P : Program} {w : World} {K : PySem.W.Frag} {mg : Str → Option Value} {base : Heap} {f : Addr} {cdv : Value} {A : Around} {outer : List PySem.Env} {s : Shared} {H : Hp} {E : XK}
open Bf
theorem ixo {α : Type} {g : Option α → Dt} {t : Bool} {l : List (Option α)} {n : Nat} (h : n < l.length) : ixD (.sq t (l.map g)) (.int (n : Int)) = some (g (l.getD n none)) := by
  have := ix_opt (g := g) (t := t) (l := l) (i := (n : Int)) (by omega) (by simpa using h)
  simpa using this
theorem ixN_nat {n j : Nat} (h : j < n) : ixN n (j : Int) = some j := by
  unfold ixN
  rw [if_pos (by omega), if_pos (by omega)]
  simp
theorem rounds_fix {q n : Nat} {pr cs : List (Option Int)} (h : round q pr (rounds q pr n cs) = rounds q pr n cs) : ∀ k, rounds q pr (n + k) cs = rounds q pr n cs
  | 0 => rfl
  | k + 1 => by
    show round q pr (rounds q pr (n + k) cs) = _
    rw [rounds_fix h k, h]
def R__law_costs (ds : List Dt) (r : Ret) : Prop := ∃ (t : Bool) (pr : List (Option Int)), ds = [.sq t (pr.map oi)] ∧ 2 ≤ pr.length ∧ pr.length ≤ 60 ∧ r = .ow ((bf pr).map oi)
theorem b__law_costs (T : Top K mg) (dg : base.NoDigits) (pl : Plc (BX P w K mg base N__law_costs "_law_costs" s__law_costs f cdv A outer s H E) 0) : ∀ ds r, R__law_costs ds r → DSs (BX P w K mg base N__law_costs "_law_costs" s__law_costs f cdv A outer s H E) (startD N__law_costs ds) (defBody s__law_costs) (fin r) := by
  rintro _ _ ⟨t, pr, rfl, q2, q6, rfl⟩
  have hbf : bf pr = rounds pr.length pr (pr.length + 1) (init pr.length) := rfl
  refine' dss_set 1 pl rfl (de_eq (de_len T.m_len (dv 0 rfl rfl) rfl) (by rw [List.length_map])) ?_
  obtain ⟨q, hq⟩ : ∃ q, pr.length = q := ⟨_, rfl⟩
  rw [hq] at q2 q6 hbf
  rw [hq]
  refine' dss_cons (ds_lc 2 9 pl rfl rfl (sw_true rfl rfl rfl (by decide +kernel)) (di_rng1 rfl T.m_range (dv 1 rfl rfl) (by omega) (by omega)) (blkOk_by (N := N__law_costs) (sc := defScope s__law_costs) (by decide +kernel)) (fun _ _ _ _ _ => pg_name pl.nd rfl (Or.inl rfl)) ?hz ((List.replicate q none).map oi) (by simp [rngD_len]) ?hc ?_)
  case hz => rw [rngD_len]; show _ ≤ 16777216; omega
  case hc =>
    intro n d r h1 h2 s1 H1 C cl fp
    obtain ⟨o, ho, rfl⟩ := map_get h2
    have : o = none := by
      have := List.mem_of_getElem? ho
      exact (List.mem_replicate.mp this).2
    subst this
    exact de_non
  refine' dss_put 2 rfl rfl de_int de_int (j := 0) (ixN_nat (j := 0) (by simp; omega)) ?_
  have e0 : ((List.replicate q none).map oi).set 0 (.int 0) = (init q).map oi := by unfold init; rw [List.map_set]; rfl
  refine' dss_rng 3 pl rfl T.m_range (de_add (dv 1 rfl rfl) de_int rfl (by walk_at "c")) (by omega) (by omega) (fun n δ => ∃ t3 t4 t5 t6 t7 t8, δ = [.sh (.sq t (pr.map oi)), .sh (.int q), .ow ((rounds q pr n (init q)).map oi), t3, t4, t5, t6, t7, t8, .no]) ⟨.no, .no, .no, .no, .no, .no, ?i0⟩ (fun n δ' hn hi => ?hs) (fun δ' hi => ?hd)
  case i0 => show [_, _, Slot.ow (((List.replicate q none).map oi).set 0 (.int 0)), _, _, _, _, _, _, _] = _; rw [e0]; rfl
  case hd =>
    obtain ⟨t3, t4, t5, t6, t7, t8, rfl⟩ := hi
    refine' dss_retO 2 rfl rfl (.inl ?_)
    have : ((q : Int) + 1).toNat = q + 1 := by omega
    rw [this, hbf]
  case hs =>
    obtain ⟨t3, t4, t5, t6, t7, t8, rfl⟩ := hi
    have hl0 : (rounds q pr n (init q)).length = q := by rw [rounds_len, init_len]
    have hfx : round q pr (rounds q pr n (init q)) = rounds q pr n (init q) → rounds q pr n (init q) = bf pr := fun h => by
      have := rounds_fix h (q + 1 - n)
      rw [show n + (q + 1 - n) = q + 1 by omega, ← hbf] at this
      exact this.symm
    have hnx : rounds q pr (n + 1) (init q) = round q pr (rounds q pr n (init q)) := rfl
    rw [hnx]
    generalize rounds q pr n (init q) = cs0 at *
    refine' dss_set 4 pl rfl de_bl ?_
    refine' dss_rng 5 pl rfl T.m_range (dv 1 rfl rfl) (by omega) (by omega) (fun m δ => ∃ (ch : Bool) (t5 t6 t7 t8 : Slot) (cs : List (Option Int)), cs = rels q pr m cs0 ∧ (ch = false → cs = cs0) ∧ δ = [.sh (.sq t (pr.map oi)), .sh (.int q), .ow (cs.map oi), .sh (.int n), .sh (.bl ch), t5, t6, t7, t8, .no]) ⟨false, t5, t6, t7, t8, cs0, rfl, fun _ => rfl, rfl⟩ (fun m δ' hm hi => ?hs2) (fun δ' hi => ?hd2)
    case hd2 =>
      obtain ⟨ch, t5, t6, t7, t8, cs, hcs, hch, rfl⟩ := hi
      simp only [Int.toNat_natCast] at hcs
      refine' dss_ifG (dt_not (dt_val (dv 4 rfl rfl))) (fun h => ?_) (fun h => ?_)
      · have hc := hch (by simpa using h)
        refine dss_break ?_
        refine' dss_retO 2 rfl rfl (.inl ?_)
        rw [hc, hfx (by rw [round, ← hcs, hc])]
      · refine dss_nil ⟨.sh (.int n), .sh (.bl ch), t5, t6, t7, t8, ?_⟩
        rw [hcs]
    case hs2 =>
      obtain ⟨ch, t5, t6, t7, t8, cs1, hcs1, hch1, rfl⟩ := hi
      have hl1 : cs1.length = q := by rw [hcs1, rels_len, hl0]
      have hm' : m < q := by simpa using hm
      have hnx2 : rels q pr (m + 1) cs0 = relRow q pr m (q - 1) cs1 := by rw [hcs1]; rfl
      rw [hnx2]
      refine' dss_rng2 6 pl rfl T.m_range de_int (dv 1 rfl rfl) (by omega) (fun i δ => ∃ (ch : Bool) (t6 t7 t8 : Slot) (cs : List (Option Int)), cs = relRow q pr m i cs1 ∧ (ch = false → cs = cs0) ∧ δ = [.sh (.sq t (pr.map oi)), .sh (.int q), .ow (cs.map oi), .sh (.int n), .sh (.bl ch), .sh (.int m), t6, t7, t8, .no]) ⟨ch, t6, t7, t8, cs1, rfl, hch1, rfl⟩ (fun i δ' hi2 hi => ?hs3) (fun δ' hi => ?hd3)
      case hd3 =>
        obtain ⟨ch, t6, t7, t8, cs, hcs, hch, rfl⟩ := hi
        have : ((q : Int) - 1).toNat = q - 1 := by omega
        rw [this] at hcs
        exact dss_nil ⟨ch, _, t6, t7, t8, cs, hcs, hch, rfl⟩
      case hs3 =>
        obtain ⟨ch, t6, t7, t8, cs, hcs, hch, rfl⟩ := hi
        have hl : cs.length = q := by rw [hcs, relRow_len, hl1]
        have hg : (m + (i + 1)) % q < q := Nat.mod_lt _ (by omega)
        have hnx3 : relRow q pr m (i + 1) cs1 = rel q pr cs m (i + 1) := by rw [hcs]; rfl
        rw [hnx3]
        have e6 : (1 : Int) + (i : Int) = ((i + 1 : Nat) : Int) := by omega
        rw [e6]
        have hix : ixD (.sq false (cs.map oi)) (.int (m : Int)) = some (oi (gt cs m)) := ixo (by omega)
        have hip : ixD (.sq t (pr.map oi)) (.int ((i + 1 : Nat) : Int)) = some (oi (gt pr (i + 1))) := ixo (by omega)
        have hig : ixD (.sq false (cs.map oi)) (.int (((m + (i + 1)) % q : Nat) : Int)) = some (oi (gt cs ((m + (i + 1)) % q))) := ixo (by omega)
        have eg : ((m : Int) + ((i + 1 : Nat) : Int)) % (q : Int) = (((m + (i + 1)) % q : Nat) : Int) := by rw [← Int.natCast_add, ← Int.natCast_emod]
        refine' dss_set 7 pl rfl (de_eq (de_mod (de_intc T.m_int (de_add (dv 5 rfl rfl) (dv 6 rfl rfl) rfl (by walk_at "c")) rfl) (dv 1 rfl rfl) (by omega)) (by rw [eg])) ?_
        cases e1 : gt cs m with
        | none =>
          rw [e1] at hix
          refine' dss_ifF (dt_eq (dt_w (dw_and (j := false) (dt_notN (dixO 2 rfl rfl (dv 5 rfl rfl) hix) de_non) (fun h => absurd h (by decide)))) rfl) (dss_nil ?_)
          exact dss_nil ⟨ch, _, _, t8, cs, by simp only [rel, e1], hch, rfl⟩
        | some c =>
        cases e2 : gt pr (i + 1) with
        | none =>
          rw [e1] at hix
          rw [e2] at hip
          refine' dss_ifF (dt_eq (dt_w (dw_and (dt_notN (dixO 2 rfl rfl (dv 5 rfl rfl) hix) de_non) fun h => (dw_and1 (dt_notN (de_ix (dv 0 rfl rfl) (dv 6 rfl rfl) hip) de_non)))) rfl) (dss_nil ?_)
          exact dss_nil ⟨ch, _, _, t8, cs, by simp only [rel, e1, e2], hch, rfl⟩
        | some p =>
        rw [e1] at hix
        rw [e2] at hip
        refine' dss_ifT (dt_eq (dt_w (dw_and (dt_notN (dixO 2 rfl rfl (dv 5 rfl rfl) hix) de_non) fun h => (dw_and1 (dt_notN (de_ix (dv 0 rfl rfl) (dv 6 rfl rfl) hip) de_non)))) rfl) ?_
        refine' dss_set 8 pl rfl (de_add (dixO 2 rfl rfl (dv 5 rfl rfl) hix) (de_ix (dv 0 rfl rfl) (dv 6 rfl rfl) hip) rfl (by walk_at "c")) ?_
        have eput : (cs.map oi).set ((m + (i + 1)) % q) (.int (c + p)) = (cs.set ((m + (i + 1)) % q) (some (c + p))).map oi := by rw [List.map_set]; rfl
        cases e3 : gt cs ((m + (i + 1)) % q) with
        | none =>
          rw [e3] at hig
          refine' dss_ifT (dt_eq (dt_w (dw_or (j := false) (dt_isN (dixO 2 rfl rfl (dv 7 rfl rfl) hig) de_non) (fun h => absurd h (by decide)))) rfl) ?_
          refine' dss_put 2 rfl rfl (dv 8 rfl rfl) (dv 7 rfl rfl) (ixN_nat (by rw [List.length_map]; omega)) ?_
          refine' dss_set 4 pl rfl de_bl (dss_nil (dss_nil (dss_nil ⟨true, .sh (.int ((i + 1 : Nat) : Int)), .sh (.int (((m + (i + 1)) % q : Nat) : Int)), .sh (.int (c + p)), cs.set ((m + (i + 1)) % q) (some (c + p)), by simp only [rel, e1, e2, e3], fun h => absurd h (by decide), ?_⟩)))
          rw [← eput]; rfl
        | some d =>
          rw [e3] at hig
          by_cases lt : c + p < d
          · refine' dss_ifT (dt_eq (dt_w (dw_or (dt_isN (dixO 2 rfl rfl (dv 7 rfl rfl) hig) de_non) fun h => (dw_or1 (dt_lt (dv 8 rfl rfl) (dixO 2 rfl rfl (dv 7 rfl rfl) hig))))) (by rw [decide_eq_true lt]; rfl)) ?_
            refine' dss_put 2 rfl rfl (dv 8 rfl rfl) (dv 7 rfl rfl) (ixN_nat (by rw [List.length_map]; omega)) ?_
            refine' dss_set 4 pl rfl de_bl (dss_nil (dss_nil (dss_nil ⟨true, .sh (.int ((i + 1 : Nat) : Int)), .sh (.int (((m + (i + 1)) % q : Nat) : Int)), .sh (.int (c + p)), cs.set ((m + (i + 1)) % q) (some (c + p)), by simp only [rel, e1, e2, e3, if_pos lt], fun h => absurd h (by decide), ?_⟩)))
            rw [← eput]; rfl
          · refine' dss_ifF (dt_eq (dt_w (dw_or (dt_isN (dixO 2 rfl rfl (dv 7 rfl rfl) hig) de_non) fun h => (dw_or1 (dt_lt (dv 8 rfl rfl) (dixO 2 rfl rfl (dv 7 rfl rfl) hig))))) (by rw [decide_eq_false lt]; rfl)) (dss_nil (dss_nil (dss_nil ⟨ch, .sh (.int ((i + 1 : Nat) : Int)), .sh (.int (((m + (i + 1)) % q : Nat) : Int)), .sh (.int (c + p)), cs, by simp only [rel, e1, e2, e3, if_neg lt], hch, rfl⟩)))
theorem d__law_costs (T : Top K mg) (dg : base.NoDigits) : Def P w K mg base "_law_costs" 1 ["prices"] [] R__law_costs := by
  obtain ⟨f, fd, hm, F⟩ := T.F__law_costs
  exact ⟨f, fd, [], [], fng_data F sc__law_costs (by walk_at "len") dg (fun cdv A outer s H E pl => b__law_costs T dg pl), hm, F.kp, F.bindsN fun _ _ _ _ _ _ us hl => match us, hl with | [_], _ => rfl, .nil, fun _ => by simp [IsAll]⟩
end K15

set_option Elab.async false
set_option linter.all false
set_option maxRecDepth 100000
set_option maxHeartbeats 4000000
namespace K15
open PySem L2 Dat Pl
local macro_rules | `(tactic| walk_at "c") => `(tactic| first | exact trivial | (show _ ≤ 16777216; simp; done))
local macro_rules | `(tactic| walk_at "len") => `(tactic| (intro ds r h; (repeat obtain ⟨_, h⟩ := h); subst_vars; first | rfl | (simp; done)))
variable {P : Program} {w : World} {K : PySem.W.Frag} {mg : Str → Option Value} {base : Heap} {f : Addr} {cdv : Value} {A : Around} {outer : List PySem.Env} {s : Shared} {H : Hp} {E : XK}
open Bf
/-! ### prices -/
theorem ix_ints {t : Bool} {l : List Int} {n : Nat} (h : n < l.length) : ixD (.sq t (l.map Dt.int)) (.int (n : Int)) = some (.int (l.getD n 0)) := by
  show atI (l.map Dt.int) (n : Int) = _
  refine atI_get (by omega) ?_
  rw [List.getElem?_map, List.getD_eq_getElem?_getD, Int.toNat_natCast, List.getElem?_eq_getElem h]; rfl
def pbots : List Int := [1, 2, 3, 5, 1]
theorem pbots_bd : ∀ x, x ∈ pbots → 1 ≤ x ∧ x ≤ 5 := by decide
def priceF (row : List Int) (k : Nat) : Option (Int × Int) := if row.getD (2 * k) 0 = 8 then none else some (rat (row.getD (2 * k) 0) (pbots.getD (row.getD (2 * k + 1) 0).toNat 0))
def pricesZ (q : Nat) (row : List Int) : List (Option (Int × Int)) := none :: (List.range (q - 1)).map fun i => priceF row (i + 1)
structure RowOk (q : Nat) (row : List Int) : Prop where
  len : row.length = 2 * q
  a : ∀ i, i < q → 0 ≤ row.getD (2 * i) 0 ∧ row.getD (2 * i) 0 < 9
  b : ∀ i, i < q → 0 ≤ row.getD (2 * i + 1) 0 ∧ row.getD (2 * i + 1) 0 < 5
def PrOk (prices : List (Option (Int × Int))) : Prop := ∀ p, some p ∈ prices → Fr p ∧ okF 3 p ∧ 0 ≤ p.1
theorem price_ok {top b : Int} (h0 : 0 ≤ top) (h1 : top < 8) (b0 : 1 ≤ b) (b1 : b ≤ 5) : Fr (rat top b) ∧ okF 3 (rat top b) ∧ 0 ≤ (rat top b).1 := by
  have hb : b ≠ 0 := by omega
  have f := rat_fr (t := top) hb
  refine ⟨f, ⟨rat_B1 hb (.bd (m := 7) h0 (by omega) (by decide)), rat_B2 hb (.bd (m := 5) (by omega) b1 (by decide)), f.pos⟩, ?_⟩
  have e := rat_eq (t := top) hb
  refine Int.not_lt.mp fun h => ?_
  have h2 : (rat top b).1 * b < 0 := Int.mul_neg_of_neg_of_pos h (by omega)
  have h3 : 0 ≤ top * (rat top b).2 := Int.mul_nonneg h0 (Int.le_of_lt f.pos)
  omega
theorem prices_ok {q : Nat} {row : List Int} (h : RowOk q row) : PrOk (pricesZ q row) := by
  intro p hp
  unfold pricesZ at hp
  simp only [List.mem_cons, reduceCtorEq, List.mem_map, List.mem_range, false_or] at hp
  obtain ⟨i, hi, e⟩ := hp
  unfold priceF at e
  split at e
  · cases e
  · rename_i h8
    cases e
    obtain ⟨a0, a1⟩ := h.a (i + 1) (by omega)
    obtain ⟨b0, b1⟩ := h.b (i + 1) (by omega)
    obtain ⟨c0, c1⟩ := pbots_bd _ (lit_ix (l := pbots) b0 b1).2
    exact price_ok a0 (by omega) c0 c1
theorem prices_len {q : Nat} {row : List Int} (h : 1 ≤ q) : (pricesZ q row).length = q := by unfold pricesZ; simp; omega
def R__law_prices (ds : List Dt) (r : Ret) : Prop := ∃ (q : Nat) (t : Bool) (row : List Int), ds = [.int q, .sq t (row.map Dt.int)] ∧ 2 ≤ q ∧ q ≤ 60 ∧ RowOk q row ∧ r = .ow ((pricesZ q row).map (opK true))
theorem b__law_prices (T : Top K mg) (dg : base.NoDigits) (pl : Plc (BX P w K mg base N__law_prices "_law_prices" s__law_prices f cdv A outer s H E) 2) : ∀ ds r, R__law_prices ds r → DSs (BX P w K mg base N__law_prices "_law_prices" s__law_prices f cdv A outer s H E) (startD N__law_prices ds) (defBody s__law_prices) (fin r) := by
  rintro _ _ ⟨q, t, row, rfl, q2, q6, hr, rfl⟩
  refine' dss_setO 2 pl rfl (df_lst (da_cons de_non da_nil)) ?_
  refine' dss_rng2 3 pl rfl T.m_range de_int (dv 0 rfl rfl) (by omega) (fun i δ => ∃ t3 t4, δ = [.sh (.int q), .sh (.sq t (row.map Dt.int)), .ow ((none :: (List.range i).map fun i => priceF row (i + 1)).map (opK true)), t3, t4]) ⟨.no, .no, rfl⟩ (fun i δ' hn hi => ?hs) (fun δ' hi => ?hd)
  case hd =>
    obtain ⟨t3, t4, rfl⟩ := hi
    have : ((q : Int) - 1).toNat = q - 1 := by omega
    rw [this]
    exact dss_retO 2 rfl rfl (.inl rfl)
  case hs =>
    obtain ⟨t3, t4, rfl⟩ := hi
    have e3 : (1 : Int) + (i : Int) = ((i + 1 : Nat) : Int) := by omega
    rw [e3]
    have e2 : (2 : Int) * ((i + 1 : Nat) : Int) = ((2 * (i + 1) : Nat) : Int) := by omega
    have e21 : ((2 * (i + 1) : Nat) : Int) + 1 = ((2 * (i + 1) + 1 : Nat) : Int) := by omega
    have kB : B 7 ((i + 1 : Nat) : Int) := .bd (m := 60) (by omega) (by omega) (by decide)
    have mw : CMulW 2 ((i + 1 : Nat) : Int) := B.mulW (n := 2) (by decide) kB (by decide)
    have h1 : ixD (.sq t (row.map Dt.int)) (.int ((2 * (i + 1) : Nat) : Int)) = some (.int (row.getD (2 * (i + 1)) 0)) := ix_ints (by rw [hr.len]; omega)
    have h2 : ixD (.sq t (row.map Dt.int)) (.int ((2 * (i + 1) + 1 : Nat) : Int)) = some (.int (row.getD (2 * (i + 1) + 1) 0)) := ix_ints (by rw [hr.len]; omega)
    obtain ⟨a0, a1⟩ := hr.a (i + 1) (by omega)
    obtain ⟨b0, b1⟩ := hr.b (i + 1) (by omega)
    have es : ((none :: (List.range (i + 1)).map fun i => priceF row (i + 1)).map (opK true)) = ((none :: (List.range i).map fun i => priceF row (i + 1)).map (opK true)) ++ [opK true (priceF row (i + 1))] := by
      rw [List.range_succ]; simp
    rw [es]
    have hz : ((none :: (List.range i).map fun i => priceF row (i + 1)).map (opK true)).length < sizeLine := by show _ < 16777216; simp; omega
    unfold priceF
    refine' dss_set 4 pl rfl (de_ix (dv 1 rfl rfl) (de_eq (de_mul de_int (dv 3 rfl rfl) rfl (by exact mw)) (by rw [e2])) h1) ?_
    refine' dss_if (dt_eqI (dv 4 rfl rfl) de_int) (fun h => ?_) (fun h => ?_)
    · rw [if_pos (of_decide_eq_true h)]
      exact dss_app 2 rfl rfl de_non hz (dss_nil (dss_nil ⟨_, _, rfl⟩))
    · have h8 : ¬ row.getD (2 * (i + 1)) 0 = 8 := of_decide_eq_false h
      rw [if_neg h8]
      obtain ⟨mi, mm⟩ := lit_ix (l := pbots) b0 b1
      obtain ⟨c0, c1⟩ := pbots_bd _ mm
      refine' dss_app 2 rfl rfl (de_callS pl (d__law_ratio T dg) (by decide) rfl (da_cons (dv 4 rfl rfl) (da_cons (de_ix (dc := .int (pbots.getD (row.getD (2 * (i + 1) + 1) 0).toNat 0)) (de_lst (da_cons de_int (da_cons de_int (da_cons de_int (da_cons de_int (da_cons de_int da_nil)))))) (de_ix (dv 1 rfl rfl) (de_eq (de_add (de_eq (de_mul de_int (dv 3 rfl rfl) rfl (by exact mw)) (by rw [e2])) de_int rfl (by walk_at "c")) (by rw [e21])) h2) mi) da_nil)) ⟨_, _, by omega, .bd (m := 8) a0 (by omega) (by decide), .bd (m := 5) (by omega) c1 (by decide), rfl, rfl⟩) hz (dss_nil (dss_nil ?_))
      exact ⟨_, _, rfl⟩
theorem d__law_prices (T : Top K mg) (dg : base.NoDigits) : Def P w K mg base "_law_prices" 3 ["q", "row"] [] R__law_prices := by
  obtain ⟨f, fd, hm, F⟩ := T.F__law_prices
  exact ⟨f, fd, [], [], fng_data F sc__law_prices (by walk_at "len") dg (fun cdv A outer s H E pl => b__law_prices T dg pl), hm, F.kp, F.bindsN fun _ _ _ _ _ _ us hl => match us, hl with | [_, _], _ => rfl, .nil, fun _ => by simp [IsAll]⟩
/-! ### whole prices -/
def botZ (prices : List (Option (Int × Int))) : Int := lcmF (prices.filterMap id)
def wholeP (prices : List (Option (Int × Int))) : List (Option Int) := prices.map (Option.map fun p => p.1 * (botZ prices / p.2))
theorem bot_ok {prices : List (Option (Int × Int))} (h : PrOk prices) (hl : prices.length ≤ 60) : 0 < botZ prices ∧ B 181 (botZ prices) ∧ (∀ p, some p ∈ prices → p.2 ∣ botZ prices) := by
  have hm : ∀ p, p ∈ prices.filterMap id → some p ∈ prices := fun p hp => by simpa using hp
  have hle : (prices.filterMap id).length ≤ 60 := Nat.le_trans (List.length_filterMap_le _ _) hl
  obtain ⟨a, b⟩ := lcm_bdA (a := 3) (ps := prices.filterMap id) (fun p hp => ⟨(h p (hm p hp)).2.1.2.1, (h p (hm p hp)).2.1.2.2⟩) _ (Nat.le_refl _)
  rw [List.take_length] at a b
  exact ⟨a, b.mono (by omega), fun p hp => (lcm_dvd fun p hp => (h p (hm p hp)).2.1.2.2).2 p (by simpa using hp)⟩
def R__law_whole_prices (ds : List Dt) (r : Ret) : Prop := ∃ (t : Bool) (prices : List (Option (Int × Int))), ds = [.sq t (prices.map (opK true))] ∧ PrOk prices ∧ prices.length ≤ 60 ∧ r = .sh (.sq false [.int (botZ prices), .sq false ((wholeP prices).map oi)])
theorem filt_map (prices : List (Option (Int × Int))) : (prices.map fun o => o.map fr).filterMap id = (prices.filterMap id).map fr := by
  induction prices with
  | nil => rfl
  | cons o l ih => cases o <;> simp [ih]
theorem b__law_whole_prices (T : Top K mg) (dg : base.NoDigits) (pl : Plc (BX P w K mg base N__law_whole_prices "_law_whole_prices" s__law_whole_prices f cdv A outer s H E) 2) : ∀ ds r, R__law_whole_prices ds r → DSs (BX P w K mg base N__law_whole_prices "_law_whole_prices" s__law_whole_prices f cdv A outer s H E) (startD N__law_whole_prices ds) (defBody s__law_whole_prices) (fin r) := by
  rintro _ _ ⟨t, prices, rfl, hp, hl, rfl⟩
  have hm : ∀ p, p ∈ prices.filterMap id → some p ∈ prices := fun p hp => by simpa using hp
  have hle : (prices.filterMap id).length ≤ 60 := Nat.le_trans (List.length_filterMap_le _ _) hl
  have hsm : small (prices.filterMap id) := fun p hq => (hp p (hm p hq)).2.1.mono (by decide)
  obtain ⟨L0, LB, _⟩ := bot_ok hp hl
  refine' dss_set 1 pl rfl (de_ix (de_callS pl (d__law_lift T dg) (by decide) rfl (da_cons (de_eq (de_of (df_lcIf 3 pl (di_seq (dv 0 rfl rfl)) (blkOk_by (N := N__law_whole_prices) (sc := defScope s__law_whole_prices) (by decide +kernel)) (fun _ _ _ _ _ => pg_name pl.nd rfl (Or.inl rfl)) ?hz (prices.map fun o => o.map fr) (by simp) ?hc)) (by rw [filt_map])) da_nil) ⟨false, prices.filterMap id, rfl, hsm, hle, rfl⟩) de_int rfl) ?_
  case hz => rw [List.length_map]; show _ ≤ 16777216; omega
  case hc =>
    intro n d o h1 h2
    obtain ⟨p, hp, rfl⟩ := map_get h1
    rw [List.getElem?_map, hp] at h2
    simp only [Option.map_some, Option.some.injEq] at h2
    subst h2
    cases p with
    | none => exact ⟨fun s1 H1 C cl fp => dt_eq (dt_notN (dv 3 rfl rfl) de_non) rfl, fun r e => by cases e⟩
    | some p => exact ⟨fun s1 H1 C cl fp => dt_eq (dt_notN (dv 3 rfl rfl) de_non) rfl, fun r e s1 H1 C cl fp => by cases e; exact dv 3 rfl rfl⟩
  refine' dss_setO 2 pl rfl (df_lst da_nil) ?_
  refine' dss_for 3 pl rfl (di_seq (dv 0 rfl rfl)) (fun n δ => ∃ t3, δ = [.sh (.sq t (prices.map (opK true))), .sh (.int (botZ prices)), .ow (((prices.take n).map (Option.map fun p => p.1 * (botZ prices / p.2))).map oi), t3]) ⟨.no, rfl⟩ (fun n d δ' hd hi => ?hs) (fun δ' hi => ?hd)
  case hs =>
    obtain ⟨t3, rfl⟩ := hi
    obtain ⟨o, ho, rfl⟩ := map_get hd
    have hn := lt_of_get ho
    have e : ((prices.take (n + 1)).map (Option.map fun p => p.1 * (botZ prices / p.2))).map oi = ((prices.take n).map (Option.map fun p => p.1 * (botZ prices / p.2))).map oi ++ [oi (o.map fun p => p.1 * (botZ prices / p.2))] := by rw [List.take_add_one, ho]; simp
    rw [e]
    have hz : (((prices.take n).map (Option.map fun p => p.1 * (botZ prices / p.2))).map oi).length < sizeLine := by show _ < 16777216; simp; omega
    cases o with
    | none =>
      refine' dss_ifT (dt_eq (dt_isN (dv 3 rfl rfl) de_non) rfl) ?_
      exact dss_app 2 rfl rfl de_non hz (dss_nil (dss_nil ⟨_, rfl⟩))
    | some p =>
      obtain ⟨_, ⟨p1, p2, pp⟩, _⟩ := hp p (List.mem_of_getElem? ho)
      refine' dss_ifF (dt_eq (dt_isN (dv 3 rfl rfl) de_non) rfl) ?_
      refine' dss_app 2 rfl rfl (de_mul (de_ix (dv 3 rfl rfl) de_int rfl) (de_div (dv 1 rfl rfl) (de_ix (dv 3 rfl rfl) de_int rfl) ⟨pp, p2.log (by decide)⟩) rfl (by exact p1.mulW (div_B LB) (by decide))) hz (dss_nil (dss_nil ?_))
      exact ⟨.sh (fr p), rfl⟩
  obtain ⟨t3, rfl⟩ := hi
  rw [List.length_map, List.take_length]
  refine' dss_frz 2 rfl ?_
  exact dss_ret (de_lst (da_cons (dv 1 rfl rfl) (da_cons (dv 2 rfl rfl) da_nil))) (.inl rfl)
theorem d__law_whole_prices (T : Top K mg) (dg : base.NoDigits) : Def P w K mg base "_law_whole_prices" 3 ["prices"] [] R__law_whole_prices := by
  obtain ⟨f, fd, hm, F⟩ := T.F__law_whole_prices
  exact ⟨f, fd, [], [], fng_data F sc__law_whole_prices (by walk_at "len") dg (fun cdv A outer s H E pl => b__law_whole_prices T dg pl), hm, F.kp, F.bindsN fun _ _ _ _ _ _ us hl => match us, hl with | [_], _ => rfl, .nil, fun _ => by simp [IsAll]⟩
end K15

set_option Elab.async false
set_option linter.all false
set_option maxRecDepth 100000
set_option maxHeartbeats 4000000
namespace K15
open PySem L2 Dat Pl
local macro_rules | `(tactic| walk_at "c") => `(tactic| first | exact trivial | (show _ ≤ 16777216; simp; done))
local macro_rules | `(tactic| walk_at "len") => `(tactic| (intro ds r h; (repeat obtain ⟨_, h⟩ := h); subst_vars; first | rfl | (simp; done)))
variable {P : Program} {w : World} {K : PySem.W.Frag} {mg : Str → Option Value} {base : Heap} {f : Addr} {cdv : Value} {A : Around} {outer : List PySem.Env} {s : Shared} {H : Hp} {E : XK}
open Bf
/-! ### what floor costs are -/
abbrev gf (cs : List (Option (Int × Int))) (m : Nat) : Option (Int × Int) := cs.getD m none
def okPair (prices costs : List (Option (Int × Int))) (m s : Nat) : Bool :=
  match gf costs m, gf prices s with
  | some c, some p => match gf costs ((m + s) % prices.length) with
    | none => false
    | some g => decide (cmpZ g (plusZ c p) ≤ 0)
  | _, _ => true
def headB (prices costs : List (Option (Int × Int))) : Bool := decide (costs.length = prices.length) && match gf costs 0 with
  | none => false
  | some c => decide (c.1 = 0)
def rightB (prices costs : List (Option (Int × Int))) : Bool := headB prices costs && (List.range prices.length).all fun m => (List.range (prices.length - 1)).all fun i => okPair prices costs m (i + 1)
theorem right_no {prices costs : List (Option (Int × Int))} {m i : Nat} (hm : m < prices.length) (hi : i < prices.length - 1) (h : okPair prices costs m (i + 1) = false) : rightB prices costs = false := by
  unfold rightB
  rw [Bool.and_eq_false_iff]
  right
  rw [List.all_eq_false]
  refine ⟨m, by simpa using hm, ?_⟩
  rw [Bool.not_eq_true, List.all_eq_false]
  exact ⟨i, by simpa using hi, by simpa using h⟩
theorem right_iff {prices costs : List (Option (Int × Int))} : rightB prices costs = true ↔ headB prices costs = true ∧ ∀ m i, m < prices.length → i < prices.length - 1 → okPair prices costs m (i + 1) = true := by
  unfold rightB
  rw [Bool.and_eq_true, List.all_eq_true]
  constructor
  · rintro ⟨h1, h2⟩
    refine ⟨h1, fun m i hm hi => ?_⟩
    have := h2 m (by simpa using hm)
    rw [List.all_eq_true] at this
    exact this i (by simpa using hi)
  · rintro ⟨h1, h2⟩
    refine ⟨h1, fun m hm => ?_⟩
    rw [List.all_eq_true]
    exact fun i hi => h2 m i (by simpa using hm) (by simpa using hi)
def OkC (n : Nat) (l : List (Option (Int × Int))) : Prop := ∀ p, some p ∈ l → okF n p
theorem OkC.gf {n : Nat} {l : List (Option (Int × Int))} (h : OkC n l) {m : Nat} {p : Int × Int} (e : gf l m = some p) : okF n p := by
  refine h p ?_
  unfold K15.gf at e
  rw [List.getD_eq_getElem?_getD] at e
  cases q : l[m]? with
  | none => rw [q] at e; cases e
  | some o => rw [q] at e; simp at e; subst e; exact List.mem_of_getElem? q
theorem opK_non {k : Bool} {o : Option (Int × Int)} : isNon (opK k o) = o.isNone := by cases o <;> rfl
def R_right (ds : List Dt) (r : Ret) : Prop := ∃ (t k t' k' : Bool) (prices costs : List (Option (Int × Int))), ds = [.sq t (prices.map (opK k)), .sq t' (costs.map (opK k'))] ∧ OkC 300 prices ∧ OkC 300 costs ∧ 2 ≤ prices.length ∧ prices.length ≤ 60 ∧ r = .sh (.bl (rightB prices costs))
abbrev R_are_floor_costs := R_right
abbrev R__law_right := R_right
theorem cmp_gt {a b : Int × Int} : decide (0 < cmpZ a b) = !decide (cmpZ a b ≤ 0) := by
  by_cases h : cmpZ a b ≤ 0
  · rw [decide_eq_true h, decide_eq_false (by omega)]; rfl
  · rw [decide_eq_false h, decide_eq_true (by omega)]; rfl
theorem b_are_floor_costs (T : Top K mg) (dg : base.NoDigits) (pl : Plc (BX P w K mg base N_are_floor_costs "are_floor_costs" s_are_floor_costs f cdv A outer s H E) 2) : ∀ ds r, R_are_floor_costs ds r → DSs (BX P w K mg base N_are_floor_costs "are_floor_costs" s_are_floor_costs f cdv A outer s H E) (startD N_are_floor_costs ds) (defBody s_are_floor_costs) (fin r) := by
  rintro _ _ ⟨t, k, t', k', prices, costs, rfl, hp, hc, q2, q6, rfl⟩
  refine' dss_set 2 pl rfl (de_eq (de_len T.m_len (dv 0 rfl rfl) rfl) (by rw [List.length_map])) ?_
  by_cases hlen : costs.length = prices.length
  case neg =>
    have hr : rightB prices costs = false := by unfold rightB headB; rw [decide_eq_false hlen]; rfl
    rw [hr]
    refine' dss_ifT (dt_eq (dt_w (dw_or (j := false) (dt_neI (de_len T.m_len (dv 1 rfl rfl) rfl) (dv 2 rfl rfl)) (fun h => absurd h ?e))) ?e2) (dss_ret de_bl (.inl rfl))
    case e => rw [List.length_map, decide_eq_false (by omega)]; simp
    case e2 => rw [List.length_map, decide_eq_false (by omega)]; rfl
  have h0 : ixD (.sq t' (costs.map (opK k'))) (.int 0) = some (opK k' (gf costs 0)) := ixo (n := 0) (by omega)
  have e0 : (!decide ((costs.map (opK k')).length = (prices.length : Int))) = false := by rw [List.length_map, decide_eq_true (by omega)]; rfl
  cases c0 : gf costs 0 with
  | none =>
    have hr : rightB prices costs = false := by unfold rightB headB; rw [c0]; simp
    rw [hr]
    rw [c0] at h0
    refine' dss_ifT (dt_eq (dt_w (dw_or (dt_eq (dt_neI (de_len T.m_len (dv 1 rfl rfl) rfl) (dv 2 rfl rfl)) (by exact e0)) fun h => (dw_or (j := false) (dt_isN (de_ix (dv 1 rfl rfl) de_int h0) de_non) (fun h => absurd h (by simp [isNon, opK]))))) rfl) (dss_ret de_bl (.inl rfl))
  | some p0 =>
  rw [c0] at h0
  by_cases hz : p0.1 = 0
  case neg =>
    have hr : rightB prices costs = false := by unfold rightB headB; rw [c0]; simp [hz]
    rw [hr]
    refine' dss_ifT (dt_eq (dt_w (dw_or (dt_eq (dt_neI (de_len T.m_len (dv 1 rfl rfl) rfl) (dv 2 rfl rfl)) (by exact e0)) fun h => (dw_or (dt_isN (de_ix (dv 1 rfl rfl) de_int h0) de_non) fun h => (dw_or1 (dt_neI (de_ix (de_ix (dv 1 rfl rfl) de_int h0) de_int (by rfl)) de_int))))) (by rw [decide_eq_false hz]; rfl)) (dss_ret de_bl (.inl rfl))
  have hh : headB prices costs = true := by unfold headB; rw [c0]; simp [hlen, hz]
  refine' dss_ifF (dt_eq (dt_w (dw_or (dt_eq (dt_neI (de_len T.m_len (dv 1 rfl rfl) rfl) (dv 2 rfl rfl)) (by exact e0)) fun h => (dw_or (dt_isN (de_ix (dv 1 rfl rfl) de_int h0) de_non) fun h => (dw_or1 (dt_neI (de_ix (de_ix (dv 1 rfl rfl) de_int h0) de_int (by rfl)) de_int))))) (by rw [decide_eq_true hz]; rfl)) (dss_nil ?_)
  refine' dss_rng 3 pl rfl T.m_range (dv 2 rfl rfl) (by omega) (by omega) (fun m δ => ∃ t3 t4 t5, (∀ m' i, m' < m → i < prices.length - 1 → okPair prices costs m' (i + 1) = true) ∧ δ = [.sh (.sq t (prices.map (opK k))), .sh (.sq t' (costs.map (opK k'))), .sh (.int prices.length), t3, t4, t5]) ⟨.no, .no, .no, fun _ _ h => by omega, rfl⟩ (fun m δ' hm hi => ?hs) (fun δ' hi => ?hd)
  case hd =>
    obtain ⟨t3, t4, t5, h, rfl⟩ := hi
    rw [right_iff.mpr ⟨hh, fun m i hm hi => h m i (by simpa using hm) hi⟩]
    exact dss_ret de_bl (.inl rfl)
  obtain ⟨t3, t4, t5, hall, rfl⟩ := hi
  have hm' : m < prices.length := by simpa using hm
  refine' dss_rng2 4 pl rfl T.m_range de_int (dv 2 rfl rfl) (by omega) (fun i δ => ∃ t4 t5, (∀ i', i' < i → okPair prices costs m (i' + 1) = true) ∧ δ = [.sh (.sq t (prices.map (opK k))), .sh (.sq t' (costs.map (opK k'))), .sh (.int prices.length), .sh (.int m), t4, t5]) ⟨t4, t5, fun _ h => by omega, rfl⟩ (fun i δ' hn hi => ?hs2) (fun δ' hi => ?hd2)
  case hd2 =>
    obtain ⟨t4, t5, h, rfl⟩ := hi
    have : ((prices.length : Int) - 1).toNat = prices.length - 1 := by omega
    rw [this] at h
    refine dss_nil ⟨_, _, _, fun m' i hm2 hi2 => ?_, rfl⟩
    by_cases e : m' = m
    · subst e; exact h i hi2
    · exact hall m' i (by omega) hi2
  obtain ⟨t4, t5, hin, rfl⟩ := hi
  have hi' : i < prices.length - 1 := by omega
  have e3 : (1 : Int) + (i : Int) = ((i + 1 : Nat) : Int) := by omega
  rw [e3]
  have hg : (m + (i + 1)) % prices.length < prices.length := Nat.mod_lt _ (by omega)
  have hix : ixD (.sq t' (costs.map (opK k'))) (.int (m : Int)) = some (opK k' (gf costs m)) := ixo (by omega)
  have hip : ixD (.sq t (prices.map (opK k))) (.int ((i + 1 : Nat) : Int)) = some (opK k (gf prices (i + 1))) := ixo (by omega)
  have hig : ixD (.sq t' (costs.map (opK k'))) (.int (((m + (i + 1)) % prices.length : Nat) : Int)) = some (opK k' (gf costs ((m + (i + 1)) % prices.length))) := ixo (by omega)
  have eg : ((m : Int) + ((i + 1 : Nat) : Int)) % (prices.length : Int) = (((m + (i + 1)) % prices.length : Nat) : Int) := by rw [← Int.natCast_add, ← Int.natCast_emod]
  have step : okPair prices costs m (i + 1) = true → ∀ i', i' < i + 1 → okPair prices costs m (i' + 1) = true := fun h i' hi2 => by
    by_cases e : i' = i
    · subst e; exact h
    · exact hin i' (by omega)
  cases e1 : gf costs m with
  | none =>
    rw [e1] at hix
    refine' dss_ifF (dt_eq (dt_w (dw_and (j := false) (dt_notN (de_ix (dv 1 rfl rfl) (dv 3 rfl rfl) hix) de_non) (fun h => absurd h (by simp [isNon, opK])))) rfl) (dss_nil ?_)
    exact dss_nil ⟨_, _, step (by simp only [okPair, e1]), rfl⟩
  | some c =>
  cases e2 : gf prices (i + 1) with
  | none =>
    rw [e1] at hix
    rw [e2] at hip
    refine' dss_ifF (dt_eq (dt_w (dw_and (dt_notN (de_ix (dv 1 rfl rfl) (dv 3 rfl rfl) hix) de_non) fun h => (dw_and1 (dt_notN (de_ix (dv 0 rfl rfl) (dv 4 rfl rfl) hip) de_non)))) rfl) (dss_nil ?_)
    exact dss_nil ⟨_, _, step (by simp only [okPair, e1, e2]), rfl⟩
  | some p =>
  rw [e1] at hix
  rw [e2] at hip
  refine' dss_ifT (dt_eq (dt_w (dw_and (dt_notN (de_ix (dv 1 rfl rfl) (dv 3 rfl rfl) hix) de_non) fun h => (dw_and1 (dt_notN (de_ix (dv 0 rfl rfl) (dv 4 rfl rfl) hip) de_non)))) rfl) ?_
  refine' dss_set 5 pl rfl (de_ix (dv 1 rfl rfl) (de_eq (de_mod (de_add (dv 3 rfl rfl) (dv 4 rfl rfl) rfl (by walk_at "c")) (dv 2 rfl rfl) (by omega)) (by rw [eg])) hig) ?_
  obtain ⟨c1, c2, c3⟩ := hc.gf e1
  obtain ⟨p1, p2, p3⟩ := hp.gf e2
  cases e4 : gf costs ((m + (i + 1)) % prices.length) with
  | none =>
    refine' dss_ifT (dt_eq (dt_w (dw_or (j := false) (dt_isN (dv 5 rfl rfl) de_non) (fun h => absurd h (by simp [isNon, opK])))) rfl) ?_
    refine' dss_ret de_bl (.inl ?_)
    rw [right_no hm' hi' (by simp only [okPair, e1, e2, e4])]
  | some g =>
    have hb : c.2 * p.2 ≠ 0 := Int.ne_of_gt (Int.mul_pos c3 p3)
    have okp : okF 601 (plusZ c p) := ⟨(rat_B1 hb (B.add (c1.mul p2) (p1.mul c2))), rat_B2 hb ((c2.mul p2).mono (by decide)), (rat_fr hb).pos⟩
    refine' dss_if (dt_w (dw_or (dt_isN (dv 5 rfl rfl) de_non) fun h => (dw_or1 (dt_gt (de_callS pl (d_compare T dg) (by decide) rfl (da_cons (dv 5 rfl rfl) (da_cons (de_callS pl (d_plus (P := P) (w := w) T dg) (by decide) rfl (da_cons (de_ix (dv 1 rfl rfl) (dv 3 rfl rfl) hix) (da_cons (de_ix (dv 0 rfl rfl) (dv 4 rfl rfl) hip) da_nil)) (by exact ⟨c, p, ⟨⟨_, _, rfl⟩, c1.mono (by decide), c2.mono (by decide), p1.mono (by decide), p2.mono (by decide), c3, p3⟩, (c2.mul p2).mono (by decide), rfl⟩)) da_nil)) (by exact ⟨_, true, g, plusZ c p, rfl, (hc.gf e4).mono (by decide), okp.mono (by decide), rfl⟩)) de_int)))) (fun h => ?_) (fun h => ?_)
    · have h2 : ¬ cmpZ g (plusZ c p) ≤ 0 := by
        have : decide (0 < cmpZ g (plusZ c p)) = true := by simpa [isNon, opK, frK] using h
        have := of_decide_eq_true this; omega
      refine' dss_ret de_bl (.inl ?_)
      rw [right_no hm' hi' (by simp only [okPair, e1, e2, e4]; exact decide_eq_false h2)]
    · have h2 : cmpZ g (plusZ c p) ≤ 0 := by
        have : decide (0 < cmpZ g (plusZ c p)) = false := by simpa [isNon, opK, frK] using h
        have := of_decide_eq_false this; omega
      exact dss_nil (dss_nil (dss_nil ⟨_, _, step (by simp only [okPair, e1, e2, e4]; exact decide_eq_true h2), rfl⟩))
theorem d_are_floor_costs (T : Top K mg) (dg : base.NoDigits) : Def P w K mg base "are_floor_costs" 3 ["prices", "costs"] [] R_are_floor_costs := by
  obtain ⟨f, fd, hm, F⟩ := T.F_are_floor_costs
  exact ⟨f, fd, [], [], fng_data F sc_are_floor_costs (by walk_at "len") dg (fun cdv A outer s H E pl => b_are_floor_costs T dg pl), hm, F.kp, F.bindsN fun _ _ _ _ _ _ us hl => match us, hl with | [_, _], _ => rfl, .nil, fun _ => by simp [IsAll]⟩
theorem b__law_right (T : Top K mg) (dg : base.NoDigits) (pl : Plc (BX P w K mg base N__law_right "_law_right" s__law_right f cdv A outer s H E) 3) : ∀ ds r, R__law_right ds r → DSs (BX P w K mg base N__law_right "_law_right" s__law_right f cdv A outer s H E) (startD N__law_right ds) (defBody s__law_right) (fin r) := by
  rintro _ _ ⟨t, k, t', k', prices, costs, rfl, hp, hc, q2, q6, rfl⟩
  refine' dss_set 2 pl rfl (de_eq (de_len T.m_len (dv 0 rfl rfl) rfl) (by rw [List.length_map])) ?_
  by_cases hlen : costs.length = prices.length
  case neg =>
    have hr : rightB prices costs = false := by unfold rightB headB; rw [decide_eq_false hlen]; rfl
    rw [hr]
    refine' dss_ifT (dt_eq (dt_w (dw_or (j := false) (dt_neI (de_len T.m_len (dv 1 rfl rfl) rfl) (dv 2 rfl rfl)) (fun h => absurd h ?e))) ?e2) (dss_ret de_bl (.inl rfl))
    case e => rw [List.length_map, decide_eq_false (by omega)]; simp
    case e2 => rw [List.length_map, decide_eq_false (by omega)]; rfl
  have h0 : ixD (.sq t' (costs.map (opK k'))) (.int 0) = some (opK k' (gf costs 0)) := ixo (n := 0) (by omega)
  have e0 : (!decide ((costs.map (opK k')).length = (prices.length : Int))) = false := by rw [List.length_map, decide_eq_true (by omega)]; rfl
  cases c0 : gf costs 0 with
  | none =>
    have hr : rightB prices costs = false := by unfold rightB headB; rw [c0]; simp
    rw [hr]
    rw [c0] at h0
    refine' dss_ifT (dt_eq (dt_w (dw_or (dt_eq (dt_neI (de_len T.m_len (dv 1 rfl rfl) rfl) (dv 2 rfl rfl)) (by exact e0)) fun h => (dw_or (j := false) (dt_isN (de_ix (dv 1 rfl rfl) de_int h0) de_non) (fun h => absurd h (by simp [isNon, opK]))))) rfl) (dss_ret de_bl (.inl rfl))
  | some p0 =>
  rw [c0] at h0
  by_cases hz : p0.1 = 0
  case neg =>
    have hr : rightB prices costs = false := by unfold rightB headB; rw [c0]; simp [hz]
    rw [hr]
    refine' dss_ifT (dt_eq (dt_w (dw_or (dt_eq (dt_neI (de_len T.m_len (dv 1 rfl rfl) rfl) (dv 2 rfl rfl)) (by exact e0)) fun h => (dw_or (dt_isN (de_ix (dv 1 rfl rfl) de_int h0) de_non) fun h => (dw_or1 (dt_neI (de_ix (de_ix (dv 1 rfl rfl) de_int h0) de_int (by rfl)) de_int))))) (by rw [decide_eq_false hz]; rfl)) (dss_ret de_bl (.inl rfl))
  have hh : headB prices costs = true := by unfold headB; rw [c0]; simp [hlen, hz]
  refine' dss_ifF (dt_eq (dt_w (dw_or (dt_eq (dt_neI (de_len T.m_len (dv 1 rfl rfl) rfl) (dv 2 rfl rfl)) (by exact e0)) fun h => (dw_or (dt_isN (de_ix (dv 1 rfl rfl) de_int h0) de_non) fun h => (dw_or1 (dt_neI (de_ix (de_ix (dv 1 rfl rfl) de_int h0) de_int (by rfl)) de_int))))) (by rw [decide_eq_true hz]; rfl)) (dss_nil ?_)
  refine' dss_rng 3 pl rfl T.m_range (dv 2 rfl rfl) (by omega) (by omega) (fun m δ => ∃ t3 t4 t5, (∀ m' i, m' < m → i < prices.length - 1 → okPair prices costs m' (i + 1) = true) ∧ δ = [.sh (.sq t (prices.map (opK k))), .sh (.sq t' (costs.map (opK k'))), .sh (.int prices.length), t3, t4, t5]) ⟨.no, .no, .no, fun _ _ h => by omega, rfl⟩ (fun m δ' hm hi => ?hs) (fun δ' hi => ?hd)
  case hd =>
    obtain ⟨t3, t4, t5, h, rfl⟩ := hi
    rw [right_iff.mpr ⟨hh, fun m i hm hi => h m i (by simpa using hm) hi⟩]
    exact dss_ret de_bl (.inl rfl)
  obtain ⟨t3, t4, t5, hall, rfl⟩ := hi
  have hm' : m < prices.length := by simpa using hm
  refine' dss_rng2 4 pl rfl T.m_range de_int (dv 2 rfl rfl) (by omega) (fun i δ => ∃ t4 t5, (∀ i', i' < i → okPair prices costs m (i' + 1) = true) ∧ δ = [.sh (.sq t (prices.map (opK k))), .sh (.sq t' (costs.map (opK k'))), .sh (.int prices.length), .sh (.int m), t4, t5]) ⟨t4, t5, fun _ h => by omega, rfl⟩ (fun i δ' hn hi => ?hs2) (fun δ' hi => ?hd2)
  case hd2 =>
    obtain ⟨t4, t5, h, rfl⟩ := hi
    have : ((prices.length : Int) - 1).toNat = prices.length - 1 := by omega
    rw [this] at h
    refine dss_nil ⟨_, _, _, fun m' i hm2 hi2 => ?_, rfl⟩
    by_cases e : m' = m
    · subst e; exact h i hi2
    · exact hall m' i (by omega) hi2
  obtain ⟨t4, t5, hin, rfl⟩ := hi
  have hi' : i < prices.length - 1 := by omega
  have e3 : (1 : Int) + (i : Int) = ((i + 1 : Nat) : Int) := by omega
  rw [e3]
  have hg : (m + (i + 1)) % prices.length < prices.length := Nat.mod_lt _ (by omega)
  have hix : ixD (.sq t' (costs.map (opK k'))) (.int (m : Int)) = some (opK k' (gf costs m)) := ixo (by omega)
  have hip : ixD (.sq t (prices.map (opK k))) (.int ((i + 1 : Nat) : Int)) = some (opK k (gf prices (i + 1))) := ixo (by omega)
  have hig : ixD (.sq t' (costs.map (opK k'))) (.int (((m + (i + 1)) % prices.length : Nat) : Int)) = some (opK k' (gf costs ((m + (i + 1)) % prices.length))) := ixo (by omega)
  have eg : ((m : Int) + ((i + 1 : Nat) : Int)) % (prices.length : Int) = (((m + (i + 1)) % prices.length : Nat) : Int) := by rw [← Int.natCast_add, ← Int.natCast_emod]
  have step : okPair prices costs m (i + 1) = true → ∀ i', i' < i + 1 → okPair prices costs m (i' + 1) = true := fun h i' hi2 => by
    by_cases e : i' = i
    · subst e; exact h
    · exact hin i' (by omega)
  cases e1 : gf costs m with
  | none =>
    rw [e1] at hix
    refine' dss_ifF (dt_eq (dt_w (dw_and (j := false) (dt_notN (de_ix (dv 1 rfl rfl) (dv 3 rfl rfl) hix) de_non) (fun h => absurd h (by simp [isNon, opK])))) rfl) (dss_nil ?_)
    exact dss_nil ⟨_, _, step (by simp only [okPair, e1]), rfl⟩
  | some c =>
  cases e2 : gf prices (i + 1) with
  | none =>
    rw [e1] at hix
    rw [e2] at hip
    refine' dss_ifF (dt_eq (dt_w (dw_and (dt_notN (de_ix (dv 1 rfl rfl) (dv 3 rfl rfl) hix) de_non) fun h => (dw_and1 (dt_notN (de_ix (dv 0 rfl rfl) (dv 4 rfl rfl) hip) de_non)))) rfl) (dss_nil ?_)
    exact dss_nil ⟨_, _, step (by simp only [okPair, e1, e2]), rfl⟩
  | some p =>
  rw [e1] at hix
  rw [e2] at hip
  refine' dss_ifT (dt_eq (dt_w (dw_and (dt_notN (de_ix (dv 1 rfl rfl) (dv 3 rfl rfl) hix) de_non) fun h => (dw_and1 (dt_notN (de_ix (dv 0 rfl rfl) (dv 4 rfl rfl) hip) de_non)))) rfl) ?_
  refine' dss_set 5 pl rfl (de_ix (dv 1 rfl rfl) (de_eq (de_mod (de_intc T.m_int (de_add (dv 3 rfl rfl) (dv 4 rfl rfl) rfl (by walk_at "c")) rfl) (dv 2 rfl rfl) (by omega)) (by rw [eg])) hig) ?_
  obtain ⟨c1, c2, c3⟩ := hc.gf e1
  obtain ⟨p1, p2, p3⟩ := hp.gf e2
  cases e4 : gf costs ((m + (i + 1)) % prices.length) with
  | none =>
    refine' dss_ifT (dt_eq (dt_w (dw_or (j := false) (dt_isN (dv 5 rfl rfl) de_non) (fun h => absurd h (by simp [isNon, opK])))) rfl) ?_
    refine' dss_ret de_bl (.inl ?_)
    rw [right_no hm' hi' (by simp only [okPair, e1, e2, e4])]
  | some g =>
    have hb : c.2 * p.2 ≠ 0 := Int.ne_of_gt (Int.mul_pos c3 p3)
    have okp : okF 601 (plusZ c p) := ⟨(rat_B1 hb (B.add (c1.mul p2) (p1.mul c2))), rat_B2 hb ((c2.mul p2).mono (by decide)), (rat_fr hb).pos⟩
    refine' dss_if (dt_w (dw_or (dt_isN (dv 5 rfl rfl) de_non) fun h => (dw_or1 (dt_gt (de_callS pl (d__law_compare T dg) (by decide) rfl (da_cons (dv 5 rfl rfl) (da_cons (de_callS pl (d__law_plus (P := P) (w := w) T dg) (by decide) rfl (da_cons (de_ix (dv 1 rfl rfl) (dv 3 rfl rfl) hix) (da_cons (de_ix (dv 0 rfl rfl) (dv 4 rfl rfl) hip) da_nil)) (by exact ⟨_, _, c, p, rfl, ⟨c1.mono (by decide), c2.mono (by decide), c3⟩, ⟨p1.mono (by decide), p2.mono (by decide), p3⟩, rfl⟩)) da_nil)) (by exact ⟨_, true, g, plusZ c p, rfl, (hc.gf e4).mono (by decide), okp.mono (by decide), rfl⟩)) de_int)))) (fun h => ?_) (fun h => ?_)
    · have h2 : ¬ cmpZ g (plusZ c p) ≤ 0 := by
        have : decide (0 < cmpZ g (plusZ c p)) = true := by simpa [isNon, opK, frK] using h
        have := of_decide_eq_true this; omega
      refine' dss_ret de_bl (.inl ?_)
      rw [right_no hm' hi' (by simp only [okPair, e1, e2, e4]; exact decide_eq_false h2)]
    · have h2 : cmpZ g (plusZ c p) ≤ 0 := by
        have : decide (0 < cmpZ g (plusZ c p)) = false := by simpa [isNon, opK, frK] using h
        have := of_decide_eq_false this; omega
      exact dss_nil (dss_nil (dss_nil ⟨_, _, step (by simp only [okPair, e1, e2, e4]; exact decide_eq_true h2), rfl⟩))
theorem d__law_right (T : Top K mg) (dg : base.NoDigits) : Def P w K mg base "_law_right" 4 ["prices", "costs"] [] R__law_right := by
  obtain ⟨f, fd, hm, F⟩ := T.F__law_right
  exact ⟨f, fd, [], [], fng_data F sc__law_right (by walk_at "len") dg (fun cdv A outer s H E pl => b__law_right T dg pl), hm, F.kp, F.bindsN fun _ _ _ _ _ _ us hl => match us, hl with | [_, _], _ => rfl, .nil, fun _ => by simp [IsAll]⟩
end K15

set_option Elab.async false
set_option linter.all false
set_option maxRecDepth 100000
set_option maxHeartbeats 4000000
namespace K15
open PySem L2 Dat Pl
local macro_rules | `(tactic| walk_at "c") => `(tactic| first | exact trivial | (show _ ≤ 16777216; simp; done))
local macro_rules | `(tactic| walk_at "len") => `(tactic| (intro ds r h; (repeat obtain ⟨_, h⟩ := h); subst_vars; first | rfl | (simp; done)))
variable {P : Program} {w : World} {K : PySem.W.Frag} {mg : Str → Option Value} {base : Heap} {f : Addr} {cdv : Value} {A : Around} {outer : List PySem.Env} {s : Shared} {H : Hp} {E : XK}
open Bf
/-! ### the cheapest costs -/
def cheapZ (prices : List (Option (Int × Int))) : List (Option (Int × Int)) := (bf (wholeP prices)).map (Option.map fun c => rat c (botZ prices))
theorem whole_len {prices : List (Option (Int × Int))} : (wholeP prices).length = prices.length := by simp [wholeP]
theorem getD_map {α β : Type} (g : α → β) (l : List (Option α)) (n : Nat) : (l.map (Option.map g)).getD n none = (l.getD n none).map g := by
  rw [List.getD_eq_getElem?_getD, List.getD_eq_getElem?_getD, List.getElem?_map]
  cases l[n]? <;> rfl
theorem whole_gt {prices : List (Option (Int × Int))} (s : Nat) : gt (wholeP prices) s = (gf prices s).map fun p => p.1 * (botZ prices / p.2) := getD_map _ _ _
theorem gf_mem {l : List (Option (Int × Int))} {m : Nat} {p : Int × Int} (e : gf l m = some p) : some p ∈ l := by
  unfold gf at e
  rw [List.getD_eq_getElem?_getD] at e
  cases q : l[m]? with
  | none => rw [q] at e; cases e
  | some o => rw [q] at e; simp at e; subst e; exact List.mem_of_getElem? q
theorem whole_bd {prices : List (Option (Int × Int))} (h : PrOk prices) (hl : prices.length ≤ 60) {s : Nat} {x : Int} (e : gt (wholeP prices) s = some x) : 0 ≤ x ∧ x ≤ 7 * botZ prices := by
  rw [whole_gt] at e
  cases q : gf prices s with
  | none => rw [q] at e; cases e
  | some p =>
    rw [q] at e
    have ex : p.1 * (botZ prices / p.2) = x := Option.some.inj e
    obtain ⟨_, ⟨p1, _, pp⟩, p0⟩ := h p (gf_mem q)
    obtain ⟨L0, _, _⟩ := bot_ok h hl
    have d0 : 0 ≤ botZ prices / p.2 := Int.ediv_nonneg (Int.le_of_lt L0) (Int.le_of_lt pp)
    have d1 : botZ prices / p.2 ≤ botZ prices := Int.ediv_le_self _ (Int.le_of_lt L0)
    have p7 : p.1 ≤ 7 := by have : p.1.natAbs < 2 ^ 3 := p1; omega
    refine ⟨by rw [← ex]; exact Int.mul_nonneg p0 d0, ?_⟩
    rw [← ex]
    calc p.1 * (botZ prices / p.2) ≤ 7 * (botZ prices / p.2) := Int.mul_le_mul_of_nonneg_right p7 d0
      _ ≤ 7 * botZ prices := Int.mul_le_mul_of_nonneg_left d1 (by decide)
theorem whole_neg {prices : List (Option (Int × Int))} (h : PrOk prices) (hl : prices.length ≤ 60) : Neg0 (wholeP prices) := fun s p e => (whole_bd h hl e).1
theorem cheap_good {prices : List (Option (Int × Int))} (h : PrOk prices) (hl : prices.length ≤ 60) (h2 : 2 ≤ prices.length) : Good prices.length (wholeP prices) (bf (wholeP prices)) := by
  have := bf_good (pr := wholeP prices) (by rw [whole_len]; omega) (whole_neg h hl)
  rwa [whole_len] at this
theorem cost_ok {prices : List (Option (Int × Int))} (h : PrOk prices) (hl : prices.length ≤ 60) (h2 : 2 ≤ prices.length) {m : Nat} {c : Int} (e : gt (bf (wholeP prices)) m = some c) : 0 ≤ c ∧ B 190 c := by
  obtain ⟨L0, LB, _⟩ := bot_ok h hl
  obtain ⟨a, b⟩ := (cheap_good h hl h2).bd (by omega) (whole_neg h hl) (M := 7 * botZ prices) (fun s p e => (whole_bd h hl e).2) (by omega) e
  refine ⟨a, .bd a (m := 420 * botZ prices) ?_ (B.mono (B.mul (n := 9) (by decide) LB) (by decide))⟩
  have h3 : (prices.length : Int) * (7 * botZ prices) ≤ 60 * (7 * botZ prices) := Int.mul_le_mul_of_nonneg_right (by omega) (by omega)
  omega
theorem cheap_len {prices : List (Option (Int × Int))} (h : PrOk prices) (hl : prices.length ≤ 60) (h2 : 2 ≤ prices.length) : (cheapZ prices).length = prices.length := by
  unfold cheapZ; rw [List.length_map]; exact (cheap_good h hl h2).len
theorem cheap_gf {prices : List (Option (Int × Int))} (m : Nat) : gf (cheapZ prices) m = (gt (bf (wholeP prices)) m).map fun c => rat c (botZ prices) := getD_map _ _ _
theorem gt_mem {l : List (Option Int)} {c : Int} (h : some c ∈ l) : ∃ m, gt l m = some c := by
  obtain ⟨m, hm⟩ := List.mem_iff_getElem?.mp h
  exact ⟨m, by unfold gt; rw [List.getD_eq_getElem?_getD, hm]; rfl⟩
theorem cheap_ok {prices : List (Option (Int × Int))} (h : PrOk prices) (hl : prices.length ≤ 60) (h2 : 2 ≤ prices.length) : OkC 190 (cheapZ prices) := by
  intro p hp
  unfold cheapZ at hp
  obtain ⟨o, ho, e⟩ := List.mem_map.mp hp
  cases o with
  | none => cases e
  | some c =>
    cases e
    obtain ⟨m, hm⟩ := gt_mem ho
    obtain ⟨L0, LB, _⟩ := bot_ok h hl
    obtain ⟨_, cB⟩ := cost_ok h hl h2 hm
    have hb : botZ prices ≠ 0 := by omega
    exact ⟨rat_B1 hb cB, rat_B2 hb (LB.mono (by decide)), (rat_fr hb).pos⟩
def R__law_cheapest_costs (ds : List Dt) (r : Ret) : Prop := ∃ (t : Bool) (prices : List (Option (Int × Int))), ds = [.sq t (prices.map (opK true))] ∧ PrOk prices ∧ 2 ≤ prices.length ∧ prices.length ≤ 60 ∧ r = .ow ((cheapZ prices).map (opK true))
theorem b__law_cheapest_costs (T : Top K mg) (dg : base.NoDigits) (pl : Plc (BX P w K mg base N__law_cheapest_costs "_law_cheapest_costs" s__law_cheapest_costs f cdv A outer s H E) 3) : ∀ ds r, R__law_cheapest_costs ds r → DSs (BX P w K mg base N__law_cheapest_costs "_law_cheapest_costs" s__law_cheapest_costs f cdv A outer s H E) (startD N__law_cheapest_costs ds) (defBody s__law_cheapest_costs) (fin r) := by
  rintro _ _ ⟨t, prices, rfl, hp, h2, hl, rfl⟩
  obtain ⟨L0, LB, _⟩ := bot_ok hp hl
  have hb : botZ prices ≠ 0 := by omega
  have hcl := (cheap_good hp hl h2).len
  have hco : ∀ c, some c ∈ bf (wholeP prices) → B 190 c := fun c h => by
    obtain ⟨m, hm⟩ := gt_mem h
    exact (cost_ok hp hl h2 hm).2
  have hz0 : cheapZ prices = (bf (wholeP prices)).map (Option.map fun c => rat c (botZ prices)) := rfl
  rw [hz0]
  refine' dss_set 1 pl rfl (de_callS pl (d__law_whole_prices T dg) (by decide) rfl (da_cons (dv 0 rfl rfl) da_nil) ⟨t, prices, rfl, hp, hl, rfl⟩) ?_
  refine' dss_setO 2 pl rfl (df_lst da_nil) ?_
  refine' dss_for 3 pl rfl (di_seq (de_call pl (d__law_costs T dg) (by decide) rfl (da_cons (de_ix (dv 1 rfl rfl) de_int rfl) da_nil) ⟨false, wholeP prices, rfl, by rw [whole_len]; exact h2, by rw [whole_len]; exact hl, rfl⟩)) (fun n δ => ∃ t3, δ = [.sh (.sq t (prices.map (opK true))), .sh (.sq false [.int (botZ prices), .sq false ((wholeP prices).map oi)]), .ow ((((bf (wholeP prices)).take n).map (Option.map fun c => rat c (botZ prices))).map (opK true)), t3]) ⟨.no, rfl⟩ (fun n d δ' hd hi => ?hs) (fun δ' hi => ?hd)
  case hs =>
    obtain ⟨t3, rfl⟩ := hi
    generalize bf (wholeP prices) = cs at *
    obtain ⟨o, ho, rfl⟩ := map_get hd
    have hn := lt_of_get ho
    have e : ((cs.take (n + 1)).map (Option.map fun c => rat c (botZ prices))).map (opK true) = ((cs.take n).map (Option.map fun c => rat c (botZ prices))).map (opK true) ++ [opK true (o.map fun c => rat c (botZ prices))] := by rw [List.take_add_one, ho]; simp
    rw [e]
    have hz : (((cs.take n).map (Option.map fun c => rat c (botZ prices))).map (opK true)).length < sizeLine := by show _ < 16777216; simp; omega
    cases o with
    | none =>
      refine' dss_ifT (dt_eq (dt_isN (dv 3 rfl rfl) de_non) rfl) ?_
      exact dss_app 2 rfl rfl de_non hz (dss_nil (dss_nil ⟨_, rfl⟩))
    | some c =>
      have cB := hco c (List.mem_of_getElem? ho)
      refine' dss_ifF (dt_eq (dt_isN (dv 3 rfl rfl) de_non) rfl) ?_
      refine' dss_app 2 rfl rfl (de_callS pl (d__law_ratio T dg) (by decide) rfl (da_cons (dv 3 rfl rfl) (da_cons (de_ix (dv 1 rfl rfl) de_int rfl) da_nil)) (by exact ⟨c, botZ prices, hb, cB.mono (by decide), LB.mono (by decide), rfl, rfl⟩)) hz (dss_nil (dss_nil ?_))
      exact ⟨.sh (.int c), rfl⟩
  obtain ⟨t3, rfl⟩ := hi
  rw [List.length_map, List.take_length]
  exact dss_retO 2 rfl rfl (.inl rfl)
theorem d__law_cheapest_costs (T : Top K mg) (dg : base.NoDigits) : Def P w K mg base "_law_cheapest_costs" 4 ["prices"] [] R__law_cheapest_costs := by
  obtain ⟨f, fd, hm, F⟩ := T.F__law_cheapest_costs
  exact ⟨f, fd, [], [], fng_data F sc__law_cheapest_costs (by walk_at "len") dg (fun cdv A outer s H E pl => b__law_cheapest_costs T dg pl), hm, F.kp, F.bindsN fun _ _ _ _ _ _ us hl => match us, hl with | [_], _ => rfl, .nil, fun _ => by simp [IsAll]⟩
end K15

set_option Elab.async false
set_option linter.all false
set_option maxRecDepth 100000
set_option maxHeartbeats 4000000
namespace K15
open PySem L2 Dat Pl
local macro_rules | `(tactic| walk_at "c") => `(tactic| first | exact trivial | (show _ ≤ 16777216; simp; done))
local macro_rules | `(tactic| walk_at "len") => `(tactic| (intro ds r h; (repeat obtain ⟨_, h⟩ := h); subst_vars; first | rfl | (simp; done)))
variable {P : Program} {w : World} {K : PySem.W.Frag} {mg : Str → Option Value} {base : Heap} {f : Addr} {cdv : Value} {A : Around} {outer : List PySem.Env} {s : Shared} {H : Hp} {E : XK}
open Bf
/-! ### costs changed -/
def chZ (cs : List (Option (Int × Int))) (r0 r1 r2 r3 : Int) : List (Option (Int × Int)) :=
  if r0 = 0 then cs.map (Option.map fun p => timesZ p (rat r2 8))
  else if r0 = 1 then (match gf cs (r1 % (cs.length : Int)).toNat with | some p => cs.set (r1 % (cs.length : Int)).toNat (some (minusZ p (rat (1 + r2) (1 + r3)))) | none => cs)
  else if r0 = 2 then (match gf cs (r1 % (cs.length : Int)).toNat with | some p => cs.set (r1 % (cs.length : Int)).toNat (some (plusZ p (rat (1 + r2) (1 + r3)))) | none => cs)
  else if r0 = 3 then cs.set (r1 % (cs.length : Int)).toNat none
  else if r0 = 4 then cs.set 0 ([none, some (rat (1 + r2) (1 + r3)), some (minusZ (0, 1) (rat (1 + r2) (1 + r3)))].getD (r2 % 3).toNat none)
  else if r0 = 5 then cs.take (r1 % (cs.length : Int)).toNat
  else if r0 = 6 then cs ++ [some (0, 1)]
  else match gf cs (r1 % (cs.length : Int)).toNat with | none => cs.set (r1 % (cs.length : Int)).toNat (some (rat (1 + r2) (1 + r3))) | some _ => cs
theorem okF_times {a b : Nat} {p q : Int × Int} (hp : okF a p) (hq : okF b q) : okF (a + b) (timesZ p q) := by
  have h0 : p.2 * q.2 ≠ 0 := Int.ne_of_gt (Int.mul_pos hp.2.2 hq.2.2)
  exact ⟨rat_B1 h0 (hp.1.mul hq.1), rat_B2 h0 (hp.2.1.mul hq.2.1), (rat_fr h0).pos⟩
theorem okF_plus {a b : Nat} {p q : Int × Int} (hp : okF a p) (hq : okF b q) : okF (a + b + 1) (plusZ p q) := by
  have h0 : p.2 * q.2 ≠ 0 := Int.ne_of_gt (Int.mul_pos hp.2.2 hq.2.2)
  exact ⟨rat_B1 h0 (B.add (hp.1.mul hq.2.1) ((hq.1.mul hp.2.1).mono (by omega))), (rat_B2 h0 (hp.2.1.mul hq.2.1)).mono (by omega), (rat_fr h0).pos⟩
theorem okF_minus {a b : Nat} {p q : Int × Int} (hp : okF a p) (hq : okF b q) : okF (a + b + 1) (minusZ p q) := by
  have h0 : p.2 * q.2 ≠ 0 := Int.ne_of_gt (Int.mul_pos hp.2.2 hq.2.2)
  exact ⟨rat_B1 h0 (B.sub (hp.1.mul hq.2.1) ((hq.1.mul hp.2.1).mono (by omega))), (rat_B2 h0 (hp.2.1.mul hq.2.1)).mono (by omega), (rat_fr h0).pos⟩
theorem okC_set {n : Nat} {l : List (Option (Int × Int))} {k : Nat} {o : Option (Int × Int)} (h : OkC n l) (ho : ∀ p, o = some p → okF n p) : OkC n (l.set k o) := by
  intro p hp
  rcases List.mem_or_eq_of_mem_set hp with z | z
  · exact h p z
  · exact ho p z.symm
theorem OkC.mono {n m : Nat} {l : List (Option (Int × Int))} (h : OkC n l) (e : n ≤ m) : OkC m l := fun p hp => (h p hp).mono e
theorem step_ok {r2 r3 : Int} (c0 : 0 ≤ r2) (c1 : r2 < 9) (d0 : 0 ≤ r3) (d1 : r3 < 9) : okF 4 (rat (1 + r2) (1 + r3)) := by
  have hb : 1 + r3 ≠ 0 := by omega
  exact ⟨rat_B1 hb (.bd (m := 9) (by omega) (by omega) (by decide)), rat_B2 hb (.bd (m := 9) (by omega) (by omega) (by decide)), (rat_fr hb).pos⟩
theorem part_ok {r2 : Int} (c0 : 0 ≤ r2) (c1 : r2 < 9) : okF 4 (rat r2 8) := ⟨rat_B1 (by decide) (.bd (m := 9) (by omega) (by omega) (by decide)), rat_B2 (by decide) (by decide), (rat_fr (by decide)).pos⟩
theorem opt3_ok {n : Nat} {s m : Int × Int} (hs : okF n s) (hm : okF n m) (i : Nat) : ∀ p, [none, some s, some m].getD i none = some p → okF n p := by
  intro p e
  match i, e with
  | 0, e => cases e
  | 1, e => cases e; exact hs
  | 2, e => cases e; exact hm
  | i + 3, e => simp at e
theorem ch_ok {cs : List (Option (Int × Int))} {r0 r1 r2 r3 : Int} (h : OkC 190 cs) (c0 : 0 ≤ r2) (c1 : r2 < 9) (d0 : 0 ≤ r3) (d1 : r3 < 9) : OkC 195 (chZ cs r0 r1 r2 r3) := by
  have st := step_ok c0 c1 d0 d1
  have zo : okF 1 (0, 1) := ⟨by decide, by decide, by decide⟩
  have h' : OkC 195 cs := h.mono (by decide)
  unfold chZ
  split
  · intro p hp
    obtain ⟨o, ho, e⟩ := List.mem_map.mp hp
    cases o with
    | none => cases e
    | some q => cases e; exact (okF_times (h q ho) (part_ok c0 c1)).mono (by decide)
  split
  · split
    · rename_i p e
      refine okC_set h' fun q hq => ?_
      cases hq; exact okF_minus (h p (gf_mem e)) st
    · exact h'
  split
  · split
    · rename_i p e
      refine okC_set h' fun q hq => ?_
      cases hq; exact okF_plus (h p (gf_mem e)) st
    · exact h'
  split
  · exact okC_set h' fun q hq => by cases hq
  split
  · exact okC_set h' (opt3_ok (st.mono (by decide)) ((okF_minus zo st).mono (by decide)) _)
  split
  · exact fun p hp => h' p (List.mem_of_mem_take hp)
  split
  · intro p hp
    simp only [List.mem_append, List.mem_cons, List.not_mem_nil, or_false] at hp
    rcases hp with z | z
    · exact h' p z
    · cases z; exact zo.mono (by decide)
  · split
    · refine okC_set h' fun q hq => ?_
      cases hq; exact st.mono (by decide)
    · exact h'
theorem ch_len {cs : List (Option (Int × Int))} {r0 r1 r2 r3 : Int} : (chZ cs r0 r1 r2 r3).length ≤ cs.length + 1 := by
  unfold chZ
  repeat' split
  all_goals simp
  all_goals omega
theorem set_mid {α : Type} {x y : α} {l2 : List α} : ∀ l1 : List α, (l1 ++ x :: l2).set l1.length y = l1 ++ y :: l2
  | [] => rfl
  | a :: l1 => by simp [set_mid l1]
def part (F : Option (Int × Int) → Option (Int × Int)) (cs : List (Option (Int × Int))) (n : Nat) : List (Option (Int × Int)) := (cs.take n).map F ++ cs.drop n
theorem part_len {F : Option (Int × Int) → Option (Int × Int)} {cs : List (Option (Int × Int))} {n : Nat} (h : n ≤ cs.length) : (part F cs n).length = cs.length := by unfold part; simp; omega
theorem part_cut {F : Option (Int × Int) → Option (Int × Int)} {cs : List (Option (Int × Int))} {n : Nat} (h : n < cs.length) : part F cs n = (cs.take n).map F ++ cs[n] :: cs.drop (n + 1) := by
  unfold part; rw [List.drop_eq_getElem_cons h]
theorem part_get {F : Option (Int × Int) → Option (Int × Int)} {cs : List (Option (Int × Int))} {n : Nat} (h : n < cs.length) : gf (part F cs n) n = cs[n] := by
  rw [part_cut h]; unfold gf
  rw [List.getD_eq_getElem?_getD, List.getElem?_append_right (by simp; omega)]
  have : n - (List.map F (List.take n cs)).length = 0 := by simp; omega
  rw [this]; rfl
theorem part_next {F : Option (Int × Int) → Option (Int × Int)} {cs : List (Option (Int × Int))} {n : Nat} (h : n < cs.length) : part F cs (n + 1) = (part F cs n).set n (F cs[n]) := by
  rw [part_cut h]
  have e : ((cs.take n).map F).length = n := by simp; omega
  have := set_mid (x := cs[n]) (y := F cs[n]) (l2 := cs.drop (n + 1)) ((cs.take n).map F)
  rw [e] at this
  rw [this]
  unfold part
  rw [List.take_add_one, List.getElem?_eq_getElem h, List.map_append, List.append_assoc]
  rfl
theorem part_same {F : Option (Int × Int) → Option (Int × Int)} {cs : List (Option (Int × Int))} {n : Nat} (h : n < cs.length) (e : F cs[n] = cs[n]) : part F cs (n + 1) = part F cs n := by
  rw [part_next h, e, part_cut h]
  have e : ((cs.take n).map F).length = n := by simp; omega
  have := set_mid (x := cs[n]) (y := cs[n]) (l2 := cs.drop (n + 1)) ((cs.take n).map F)
  rw [e] at this
  exact this
def R__law_changed (ds : List Dt) (r : Ret) : Prop := ∃ (t t' : Bool) (cs : List (Option (Int × Int))) (r0 r1 r2 r3 : Int), ds = [.sq t (cs.map (opK true)), .sq t' [.int r0, .int r1, .int r2, .int r3]] ∧ OkC 190 cs ∧ 1 ≤ cs.length ∧ cs.length ≤ 60 ∧ 0 ≤ r0 ∧ r0 < 8 ∧ 0 ≤ r2 ∧ r2 < 9 ∧ 0 ≤ r3 ∧ r3 < 9 ∧ r = .ow ((chZ cs r0 r1 r2 r3).map (opK true))
theorem b__law_changed (T : Top K mg) (dg : base.NoDigits) (pl : Plc (BX P w K mg base N__law_changed "_law_changed" s__law_changed f cdv A outer s H E) 3) : ∀ ds r, R__law_changed ds r → DSs (BX P w K mg base N__law_changed "_law_changed" s__law_changed f cdv A outer s H E) (startD N__law_changed ds) (defBody s__law_changed) (fin r) := by
  rintro _ _ ⟨t, t', cs, r0, r1, r2, r3, rfl, hc, h1, h60, a0, a1, c0, c1, d0, d1, rfl⟩
  have st := step_ok c0 c1 d0 d1
  have hlen : ((cs.map (opK true)).length : Int) = (cs.length : Int) := by rw [List.length_map]
  refine' dss_setO 2 pl rfl (df_list rfl T.m_list (dv 0 rfl rfl)) ?_
  refine' dss_set 3 pl rfl (de_mod (de_ix (dv 1 rfl rfl) de_int rfl) (de_eq (de_lenO 2 T.m_len rfl rfl) (by rw [hlen])) (by omega)) ?_
  obtain ⟨kk, hk⟩ : ∃ kk : Nat, r1 % (cs.length : Int) = kk := ⟨(r1 % (cs.length : Int)).toNat, by have := Int.emod_nonneg r1 (b := (cs.length : Int)) (by omega); omega⟩
  have hkl : kk < cs.length := by have := Int.emod_lt_of_pos r1 (b := (cs.length : Int)) (by omega); omega
  have hkN : (r1 % (cs.length : Int)).toNat = kk := by omega
  rw [hk]
  refine' dss_set 4 pl rfl (de_callS pl (d__law_ratio T dg) (by decide) rfl (da_cons (de_add de_int (de_ix (dv 1 rfl rfl) de_int rfl) rfl (by walk_at "c")) (da_cons (de_add de_int (de_ix (dv 1 rfl rfl) de_int rfl) rfl (by walk_at "c")) da_nil)) ⟨_, _, by omega, .bd (m := 9) (by omega) (by omega) (by decide), .bd (m := 9) (by omega) (by omega) (by decide), rfl, rfl⟩) ?_
  have hkx : ixD (.sq false (cs.map (opK true))) (.int (kk : Int)) = some (opK true (gf cs kk)) := ixo hkl
  have hkj : ixN (cs.map (opK true)).length (kk : Int) = some kk := ixN_nat (by rw [List.length_map]; exact hkl)
  have hset : ∀ o, (cs.map (opK true)).set kk (opK true o) = (cs.set kk o).map (opK true) := fun o => by rw [List.map_set]
  have hr : r0 = 0 ∨ r0 = 1 ∨ r0 = 2 ∨ r0 = 3 ∨ r0 = 4 ∨ r0 = 5 ∨ r0 = 6 ∨ r0 = 7 := by omega
  rcases hr with rfl | rfl | rfl | rfl | rfl | rfl | rfl | rfl
  · have hz : chZ cs 0 r1 r2 r3 = cs.map (Option.map fun p => timesZ p (rat r2 8)) := rfl
    rw [hz]
    have pk := part_ok c0 c1
    refine' dss_ifT (dt_eq (dt_eqI (de_ix (dv 1 rfl rfl) de_int rfl) de_int) rfl) ?_
    refine' dss_frz 2 rfl ?_
    refine' dss_cons (ds_lc 2 6 pl rfl rfl (sw_true rfl rfl rfl (by decide +kernel)) (di_seq (dv 2 rfl rfl)) (blkOk_by (N := N__law_changed) (sc := defScope s__law_changed) (by decide +kernel)) (fun _ _ _ _ _ => pg_name pl.nd rfl (Or.inl rfl)) ?hz (cs.map (opK true)) (by simp) ?hc ?_)
    case hz => rw [List.length_map]; show _ ≤ 16777216; omega
    case hc =>
      intro n d r e1 e2 s1 H1 C cl fp
      rw [e1] at e2
      obtain rfl := Option.some.inj e2
      obtain ⟨o, _, rfl⟩ := map_get e1
      cases o with
      | none => exact de_ix (de_lst (da_cons (dv 6 rfl rfl) (da_cons de_non da_nil))) (de_intc (n := 1) T.m_int (de_isN (dv 6 rfl rfl) de_non) rfl) rfl
      | some p => exact de_ix (de_lst (da_cons (dv 6 rfl rfl) (da_cons de_non da_nil))) (de_intc (n := 0) T.m_int (de_isN (dv 6 rfl rfl) de_non) rfl) rfl
    refine' dss_rng 5 pl rfl T.m_range (de_lenO 2 T.m_len rfl rfl) (by omega) (by rw [hlen]; omega) (fun n δ => ∃ t5, δ = [.sh (.sq t (cs.map (opK true))), .sh (.sq t' [.int 0, .int r1, .int r2, .int r3]), .ow ((part (Option.map fun p => timesZ p (rat r2 8)) cs n).map (opK true)), .sh (.int kk), .sh (fr (rat (1 + r2) (1 + r3))), t5, .no]) ⟨.no, by rw [show part (Option.map fun p => timesZ p (rat r2 8)) cs 0 = cs by simp [part]]; rfl⟩ (fun n δ' hn hi => ?hs) (fun δ' hi => ?hd)
    case hs =>
      obtain ⟨t5, rfl⟩ := hi
      rw [List.length_map] at hn
      have hn' : n < cs.length := by simpa using hn
      have hx : ixD (.sq false ((part (Option.map fun p => timesZ p (rat r2 8)) cs n).map (opK true))) (.int (n : Int)) = some (opK true cs[n]) := by
        rw [ixo (by rw [part_len (by omega)]; exact hn')]
        exact congrArg (fun o => some (opK true o)) (part_get hn')
      have hmem := List.getElem_mem hn'
      have pn := part_next (F := Option.map fun p => timesZ p (rat r2 8)) hn'
      have ps := part_same (F := Option.map fun p => timesZ p (rat r2 8)) hn'
      have plen := part_len (F := Option.map fun p => timesZ p (rat r2 8)) (Nat.le_of_lt hn')
      generalize part (Option.map fun p => timesZ p (rat r2 8)) cs n = now at *
      generalize part (Option.map fun p => timesZ p (rat r2 8)) cs (n + 1) = next at *
      cases e : cs[n] with
      | none =>
        rw [e] at hx ps
        refine' dss_ifF (dt_eq (dt_notN (dixO 2 rfl rfl (dv 5 rfl rfl) hx) de_non) rfl) (dss_nil ?_)
        rw [ps rfl]
        exact dss_nil ⟨_, rfl⟩
      | some p =>
        rw [e] at hx pn hmem
        have okp := hc p hmem
        refine' dss_ifT (dt_eq (dt_notN (dixO 2 rfl rfl (dv 5 rfl rfl) hx) de_non) rfl) ?_
        refine' dss_put 2 rfl rfl (de_callS pl (d__law_times T dg) (by decide) rfl (da_cons (dixO 2 rfl rfl (dv 5 rfl rfl) hx) (da_cons (de_callS pl (d__law_ratio T dg) (by decide) rfl (da_cons (de_ix (dv 1 rfl rfl) de_int rfl) (da_cons de_int da_nil)) (by exact ⟨r2, 8, by decide, .bd (m := 9) (by omega) (by omega) (by decide), B.mono (n := 4) (by decide) (by decide), rfl, rfl⟩)) da_nil)) (by exact ⟨true, true, p, rat r2 8, rfl, okp.mono (by decide), pk.mono (by decide), rfl⟩)) (dv 5 rfl rfl) (ixN_nat (by rw [List.length_map, plen]; exact hn')) ?_
        refine dss_nil (dss_nil ⟨.sh (.int n), ?_⟩)
        rw [pn, List.map_set]; rfl
    obtain ⟨t5, rfl⟩ := hi
    have e9 : part (Option.map fun p => timesZ p (rat r2 8)) cs ((cs.map (opK true)).length : Int).toNat = cs.map (Option.map fun p => timesZ p (rat r2 8)) := by
      rw [hlen]; unfold part; simp
    rw [e9]
    refine dss_nil ?_
    refine' dss_ifF (dt_eq (dt_w (dw_and (j := false) (dt_eqI (de_ix (dv 1 rfl rfl) de_int rfl) de_int) (fun h => absurd h (by decide)))) rfl) (dss_nil ?_); refine' dss_ifF (dt_eq (dt_w (dw_and (j := false) (dt_eqI (de_ix (dv 1 rfl rfl) de_int rfl) de_int) (fun h => absurd h (by decide)))) rfl) (dss_nil ?_); refine' dss_ifF (dt_eq (dt_eqI (de_ix (dv 1 rfl rfl) de_int rfl) de_int) rfl) (dss_nil ?_); refine' dss_ifF (dt_eq (dt_eqI (de_ix (dv 1 rfl rfl) de_int rfl) de_int) rfl) (dss_nil ?_); refine' dss_ifF (dt_eq (dt_eqI (de_ix (dv 1 rfl rfl) de_int rfl) de_int) rfl) (dss_nil ?_); refine' dss_ifF (dt_eq (dt_eqI (de_ix (dv 1 rfl rfl) de_int rfl) de_int) rfl) (dss_nil ?_); refine' dss_ifF (dt_eq (dt_w (dw_and (j := false) (dt_eqI (de_ix (dv 1 rfl rfl) de_int rfl) de_int) (fun h => absurd h (by decide)))) rfl) (dss_nil ?_)
    exact dss_retO 2 rfl rfl (.inl rfl)
  · have hz : chZ cs 1 r1 r2 r3 = match gf cs kk with | some p => cs.set kk (some (minusZ p (rat (1 + r2) (1 + r3)))) | none => cs := by rw [← hkN]; rfl
    rw [hz]
    refine' dss_ifF (dt_eq (dt_eqI (de_ix (dv 1 rfl rfl) de_int rfl) de_int) rfl) (dss_nil ?_)
    cases e : gf cs kk with
    | none =>
      rw [e] at hkx
      refine' dss_ifF (dt_eq (dt_w (dw_and (dt_eqI (de_ix (dv 1 rfl rfl) de_int rfl) de_int) fun h => (dw_and1 (dt_notN (dixO 2 rfl rfl (dv 3 rfl rfl) hkx) de_non)))) rfl) (dss_nil ?_)
      refine' dss_ifF (dt_eq (dt_w (dw_and (j := false) (dt_eqI (de_ix (dv 1 rfl rfl) de_int rfl) de_int) (fun h => absurd h (by decide)))) rfl) (dss_nil ?_); refine' dss_ifF (dt_eq (dt_eqI (de_ix (dv 1 rfl rfl) de_int rfl) de_int) rfl) (dss_nil ?_); refine' dss_ifF (dt_eq (dt_eqI (de_ix (dv 1 rfl rfl) de_int rfl) de_int) rfl) (dss_nil ?_); refine' dss_ifF (dt_eq (dt_eqI (de_ix (dv 1 rfl rfl) de_int rfl) de_int) rfl) (dss_nil ?_); refine' dss_ifF (dt_eq (dt_eqI (de_ix (dv 1 rfl rfl) de_int rfl) de_int) rfl) (dss_nil ?_); refine' dss_ifF (dt_eq (dt_w (dw_and (j := false) (dt_eqI (de_ix (dv 1 rfl rfl) de_int rfl) de_int) (fun h => absurd h (by decide)))) rfl) (dss_nil ?_)
      exact dss_retO 2 rfl rfl (.inl rfl)
    | some p =>
      rw [e] at hkx
      have okp := hc.gf e
      refine' dss_ifT (dt_eq (dt_w (dw_and (dt_eqI (de_ix (dv 1 rfl rfl) de_int rfl) de_int) fun h => (dw_and1 (dt_notN (dixO 2 rfl rfl (dv 3 rfl rfl) hkx) de_non)))) rfl) ?_
      refine' dss_put 2 rfl rfl (de_callS pl (d__law_minus T dg) (by decide) rfl (da_cons (dixO 2 rfl rfl (dv 3 rfl rfl) hkx) (da_cons (dv 4 rfl rfl) da_nil)) (by exact ⟨true, true, p, _, rfl, okp.mono (by decide), st.mono (by decide), rfl⟩)) (dv 3 rfl rfl) hkj (dss_nil ?_)
      rw [show fr (minusZ p (rat (1 + r2) (1 + r3))) = opK true (some (minusZ p (rat (1 + r2) (1 + r3)))) from rfl, hset]
      refine' dss_ifF (dt_eq (dt_w (dw_and (j := false) (dt_eqI (de_ix (dv 1 rfl rfl) de_int rfl) de_int) (fun h => absurd h (by decide)))) rfl) (dss_nil ?_); refine' dss_ifF (dt_eq (dt_eqI (de_ix (dv 1 rfl rfl) de_int rfl) de_int) rfl) (dss_nil ?_); refine' dss_ifF (dt_eq (dt_eqI (de_ix (dv 1 rfl rfl) de_int rfl) de_int) rfl) (dss_nil ?_); refine' dss_ifF (dt_eq (dt_eqI (de_ix (dv 1 rfl rfl) de_int rfl) de_int) rfl) (dss_nil ?_); refine' dss_ifF (dt_eq (dt_eqI (de_ix (dv 1 rfl rfl) de_int rfl) de_int) rfl) (dss_nil ?_); refine' dss_ifF (dt_eq (dt_w (dw_and (j := false) (dt_eqI (de_ix (dv 1 rfl rfl) de_int rfl) de_int) (fun h => absurd h (by decide)))) rfl) (dss_nil ?_)
      exact dss_retO 2 rfl rfl (.inl rfl)
  · have hz : chZ cs 2 r1 r2 r3 = match gf cs kk with | some p => cs.set kk (some (plusZ p (rat (1 + r2) (1 + r3)))) | none => cs := by rw [← hkN]; rfl
    rw [hz]
    refine' dss_ifF (dt_eq (dt_eqI (de_ix (dv 1 rfl rfl) de_int rfl) de_int) rfl) (dss_nil ?_); refine' dss_ifF (dt_eq (dt_w (dw_and (j := false) (dt_eqI (de_ix (dv 1 rfl rfl) de_int rfl) de_int) (fun h => absurd h (by decide)))) rfl) (dss_nil ?_)
    cases e : gf cs kk with
    | none =>
      rw [e] at hkx
      refine' dss_ifF (dt_eq (dt_w (dw_and (dt_eqI (de_ix (dv 1 rfl rfl) de_int rfl) de_int) fun h => (dw_and1 (dt_notN (dixO 2 rfl rfl (dv 3 rfl rfl) hkx) de_non)))) rfl) (dss_nil ?_)
      refine' dss_ifF (dt_eq (dt_eqI (de_ix (dv 1 rfl rfl) de_int rfl) de_int) rfl) (dss_nil ?_); refine' dss_ifF (dt_eq (dt_eqI (de_ix (dv 1 rfl rfl) de_int rfl) de_int) rfl) (dss_nil ?_); refine' dss_ifF (dt_eq (dt_eqI (de_ix (dv 1 rfl rfl) de_int rfl) de_int) rfl) (dss_nil ?_); refine' dss_ifF (dt_eq (dt_eqI (de_ix (dv 1 rfl rfl) de_int rfl) de_int) rfl) (dss_nil ?_); refine' dss_ifF (dt_eq (dt_w (dw_and (j := false) (dt_eqI (de_ix (dv 1 rfl rfl) de_int rfl) de_int) (fun h => absurd h (by decide)))) rfl) (dss_nil ?_)
      exact dss_retO 2 rfl rfl (.inl rfl)
    | some p =>
      rw [e] at hkx
      have okp := hc.gf e
      refine' dss_ifT (dt_eq (dt_w (dw_and (dt_eqI (de_ix (dv 1 rfl rfl) de_int rfl) de_int) fun h => (dw_and1 (dt_notN (dixO 2 rfl rfl (dv 3 rfl rfl) hkx) de_non)))) rfl) ?_
      refine' dss_put 2 rfl rfl (de_callS pl (d__law_plus T dg) (by decide) rfl (da_cons (dixO 2 rfl rfl (dv 3 rfl rfl) hkx) (da_cons (dv 4 rfl rfl) da_nil)) (by exact ⟨true, true, p, _, rfl, okp.mono (by decide), st.mono (by decide), rfl⟩)) (dv 3 rfl rfl) hkj (dss_nil ?_)
      rw [show fr (plusZ p (rat (1 + r2) (1 + r3))) = opK true (some (plusZ p (rat (1 + r2) (1 + r3)))) from rfl, hset]
      refine' dss_ifF (dt_eq (dt_eqI (de_ix (dv 1 rfl rfl) de_int rfl) de_int) rfl) (dss_nil ?_); refine' dss_ifF (dt_eq (dt_eqI (de_ix (dv 1 rfl rfl) de_int rfl) de_int) rfl) (dss_nil ?_); refine' dss_ifF (dt_eq (dt_eqI (de_ix (dv 1 rfl rfl) de_int rfl) de_int) rfl) (dss_nil ?_); refine' dss_ifF (dt_eq (dt_eqI (de_ix (dv 1 rfl rfl) de_int rfl) de_int) rfl) (dss_nil ?_); refine' dss_ifF (dt_eq (dt_w (dw_and (j := false) (dt_eqI (de_ix (dv 1 rfl rfl) de_int rfl) de_int) (fun h => absurd h (by decide)))) rfl) (dss_nil ?_)
      exact dss_retO 2 rfl rfl (.inl rfl)
  · have hz : chZ cs 3 r1 r2 r3 = cs.set kk none := by rw [← hkN]; rfl
    rw [hz]
    refine' dss_ifF (dt_eq (dt_eqI (de_ix (dv 1 rfl rfl) de_int rfl) de_int) rfl) (dss_nil ?_); refine' dss_ifF (dt_eq (dt_w (dw_and (j := false) (dt_eqI (de_ix (dv 1 rfl rfl) de_int rfl) de_int) (fun h => absurd h (by decide)))) rfl) (dss_nil ?_); refine' dss_ifF (dt_eq (dt_w (dw_and (j := false) (dt_eqI (de_ix (dv 1 rfl rfl) de_int rfl) de_int) (fun h => absurd h (by decide)))) rfl) (dss_nil ?_); refine' dss_ifT (dt_eq (dt_eqI (de_ix (dv 1 rfl rfl) de_int rfl) de_int) rfl) ?_
    refine' dss_put 2 rfl rfl de_non (dv 3 rfl rfl) hkj (dss_nil ?_)
    rw [show Dt.non = opK true none from rfl, hset]
    refine' dss_ifF (dt_eq (dt_eqI (de_ix (dv 1 rfl rfl) de_int rfl) de_int) rfl) (dss_nil ?_); refine' dss_ifF (dt_eq (dt_eqI (de_ix (dv 1 rfl rfl) de_int rfl) de_int) rfl) (dss_nil ?_); refine' dss_ifF (dt_eq (dt_eqI (de_ix (dv 1 rfl rfl) de_int rfl) de_int) rfl) (dss_nil ?_); refine' dss_ifF (dt_eq (dt_w (dw_and (j := false) (dt_eqI (de_ix (dv 1 rfl rfl) de_int rfl) de_int) (fun h => absurd h (by decide)))) rfl) (dss_nil ?_)
    exact dss_retO 2 rfl rfl (.inl rfl)
  · have hz : chZ cs 4 r1 r2 r3 = cs.set 0 ([none, some (rat (1 + r2) (1 + r3)), some (minusZ (0, 1) (rat (1 + r2) (1 + r3)))].getD (r2 % 3).toNat none) := rfl
    rw [hz]
    have zo : okF 4000 (0, 1) := ⟨B.mono (n := 1) (by decide) (by decide), B.mono (n := 1) (by decide) (by decide), by decide⟩
    refine' dss_ifF (dt_eq (dt_eqI (de_ix (dv 1 rfl rfl) de_int rfl) de_int) rfl) (dss_nil ?_); refine' dss_ifF (dt_eq (dt_w (dw_and (j := false) (dt_eqI (de_ix (dv 1 rfl rfl) de_int rfl) de_int) (fun h => absurd h (by decide)))) rfl) (dss_nil ?_); refine' dss_ifF (dt_eq (dt_w (dw_and (j := false) (dt_eqI (de_ix (dv 1 rfl rfl) de_int rfl) de_int) (fun h => absurd h (by decide)))) rfl) (dss_nil ?_); refine' dss_ifF (dt_eq (dt_eqI (de_ix (dv 1 rfl rfl) de_int rfl) de_int) rfl) (dss_nil ?_); refine' dss_ifT (dt_eq (dt_eqI (de_ix (dv 1 rfl rfl) de_int rfl) de_int) rfl) ?_
    have g0 := Int.emod_nonneg r2 (b := 3) (by decide)
    have g1 := Int.emod_lt_of_pos r2 (b := 3) (by decide)
    have hx : ixD (.sq false ([none, some (rat (1 + r2) (1 + r3)), some (minusZ (0, 1) (rat (1 + r2) (1 + r3)))].map (opK true))) (.int (r2 % 3)) = some (opK true ([none, some (rat (1 + r2) (1 + r3)), some (minusZ (0, 1) (rat (1 + r2) (1 + r3)))].getD (r2 % 3).toNat none)) := ix_opt g0 (by simp; omega)
    refine' dss_put 2 (j := 0) rfl rfl (de_ix (de_lst (da_cons de_non (da_cons (dv 4 rfl rfl) (da_cons (de_callS pl (d__law_minus T dg) (by decide) rfl (da_cons (de_tup (da_cons de_int (da_cons de_int da_nil))) (da_cons (dv 4 rfl rfl) da_nil)) (by exact ⟨true, true, (0, 1), _, rfl, zo, st.mono (by decide), rfl⟩)) da_nil)))) (de_mod (de_ix (dv 1 rfl rfl) de_int rfl) de_int (by decide)) hx) de_int (ixN_nat (j := 0) (by rw [List.length_map]; omega)) (dss_nil ?_)
    rw [← List.map_set]
    refine' dss_ifF (dt_eq (dt_eqI (de_ix (dv 1 rfl rfl) de_int rfl) de_int) rfl) (dss_nil ?_); refine' dss_ifF (dt_eq (dt_eqI (de_ix (dv 1 rfl rfl) de_int rfl) de_int) rfl) (dss_nil ?_); refine' dss_ifF (dt_eq (dt_w (dw_and (j := false) (dt_eqI (de_ix (dv 1 rfl rfl) de_int rfl) de_int) (fun h => absurd h (by decide)))) rfl) (dss_nil ?_)
    exact dss_retO 2 rfl rfl (.inl rfl)
  · have hz : chZ cs 5 r1 r2 r3 = cs.take kk := by rw [← hkN]; rfl
    rw [hz]
    refine' dss_ifF (dt_eq (dt_eqI (de_ix (dv 1 rfl rfl) de_int rfl) de_int) rfl) (dss_nil ?_); refine' dss_ifF (dt_eq (dt_w (dw_and (j := false) (dt_eqI (de_ix (dv 1 rfl rfl) de_int rfl) de_int) (fun h => absurd h (by decide)))) rfl) (dss_nil ?_); refine' dss_ifF (dt_eq (dt_w (dw_and (j := false) (dt_eqI (de_ix (dv 1 rfl rfl) de_int rfl) de_int) (fun h => absurd h (by decide)))) rfl) (dss_nil ?_); refine' dss_ifF (dt_eq (dt_eqI (de_ix (dv 1 rfl rfl) de_int rfl) de_int) rfl) (dss_nil ?_); refine' dss_ifF (dt_eq (dt_eqI (de_ix (dv 1 rfl rfl) de_int rfl) de_int) rfl) (dss_nil ?_); refine' dss_ifT (dt_eq (dt_eqI (de_ix (dv 1 rfl rfl) de_int rfl) de_int) rfl) ?_
    refine' dss_frz 2 rfl ?_
    have ecut : cutD (cs.map (opK true)) none (some (kk : Int)) = (cs.take kk).map (opK true) := by
      unfold cutD
      rw [HT.sIx_none, HT.sIx_nat, List.drop_zero, List.map_take]
      congr 1
      rw [List.length_map]; omega
    refine' dss_setO 2 pl rfl (df_sl (dv 2 rfl rfl) do_none (do_some (dv 3 rfl rfl))) (dss_nil ?_)
    rw [ecut]
    refine' dss_ifF (dt_eq (dt_eqI (de_ix (dv 1 rfl rfl) de_int rfl) de_int) rfl) (dss_nil ?_); refine' dss_ifF (dt_eq (dt_w (dw_and (j := false) (dt_eqI (de_ix (dv 1 rfl rfl) de_int rfl) de_int) (fun h => absurd h (by decide)))) rfl) (dss_nil ?_)
    exact dss_retO 2 rfl rfl (.inl rfl)
  · have hz : chZ cs 6 r1 r2 r3 = cs ++ [some (0, 1)] := rfl
    rw [hz]
    refine' dss_ifF (dt_eq (dt_eqI (de_ix (dv 1 rfl rfl) de_int rfl) de_int) rfl) (dss_nil ?_); refine' dss_ifF (dt_eq (dt_w (dw_and (j := false) (dt_eqI (de_ix (dv 1 rfl rfl) de_int rfl) de_int) (fun h => absurd h (by decide)))) rfl) (dss_nil ?_); refine' dss_ifF (dt_eq (dt_w (dw_and (j := false) (dt_eqI (de_ix (dv 1 rfl rfl) de_int rfl) de_int) (fun h => absurd h (by decide)))) rfl) (dss_nil ?_); refine' dss_ifF (dt_eq (dt_eqI (de_ix (dv 1 rfl rfl) de_int rfl) de_int) rfl) (dss_nil ?_); refine' dss_ifF (dt_eq (dt_eqI (de_ix (dv 1 rfl rfl) de_int rfl) de_int) rfl) (dss_nil ?_); refine' dss_ifF (dt_eq (dt_eqI (de_ix (dv 1 rfl rfl) de_int rfl) de_int) rfl) (dss_nil ?_); refine' dss_ifT (dt_eq (dt_eqI (de_ix (dv 1 rfl rfl) de_int rfl) de_int) rfl) ?_
    refine' dss_app 2 rfl rfl (de_tup (da_cons de_int (da_cons de_int da_nil))) (by show _ < 16777216; rw [List.length_map]; omega) (dss_nil ?_)
    refine' dss_ifF (dt_eq (dt_w (dw_and (j := false) (dt_eqI (de_ix (dv 1 rfl rfl) de_int rfl) de_int) (fun h => absurd h (by decide)))) rfl) (dss_nil ?_)
    refine' dss_retO 2 rfl rfl (.inl ?_)
    rw [List.map_append]; rfl
  · have hz : chZ cs 7 r1 r2 r3 = match gf cs kk with | none => cs.set kk (some (rat (1 + r2) (1 + r3))) | some _ => cs := by rw [← hkN]; rfl
    rw [hz]
    refine' dss_ifF (dt_eq (dt_eqI (de_ix (dv 1 rfl rfl) de_int rfl) de_int) rfl) (dss_nil ?_); refine' dss_ifF (dt_eq (dt_w (dw_and (j := false) (dt_eqI (de_ix (dv 1 rfl rfl) de_int rfl) de_int) (fun h => absurd h (by decide)))) rfl) (dss_nil ?_); refine' dss_ifF (dt_eq (dt_w (dw_and (j := false) (dt_eqI (de_ix (dv 1 rfl rfl) de_int rfl) de_int) (fun h => absurd h (by decide)))) rfl) (dss_nil ?_); refine' dss_ifF (dt_eq (dt_eqI (de_ix (dv 1 rfl rfl) de_int rfl) de_int) rfl) (dss_nil ?_); refine' dss_ifF (dt_eq (dt_eqI (de_ix (dv 1 rfl rfl) de_int rfl) de_int) rfl) (dss_nil ?_); refine' dss_ifF (dt_eq (dt_eqI (de_ix (dv 1 rfl rfl) de_int rfl) de_int) rfl) (dss_nil ?_); refine' dss_ifF (dt_eq (dt_eqI (de_ix (dv 1 rfl rfl) de_int rfl) de_int) rfl) (dss_nil ?_)
    cases e : gf cs kk with
    | none =>
      rw [e] at hkx
      refine' dss_ifT (dt_eq (dt_w (dw_and (dt_eqI (de_ix (dv 1 rfl rfl) de_int rfl) de_int) fun h => (dw_and1 (dt_isN (dixO 2 rfl rfl (dv 3 rfl rfl) hkx) de_non)))) rfl) ?_
      refine' dss_put 2 rfl rfl (dv 4 rfl rfl) (dv 3 rfl rfl) hkj (dss_nil ?_)
      rw [show fr (rat (1 + r2) (1 + r3)) = opK true (some (rat (1 + r2) (1 + r3))) from rfl, hset]
      exact dss_retO 2 rfl rfl (.inl rfl)
    | some p =>
      rw [e] at hkx
      refine' dss_ifF (dt_eq (dt_w (dw_and (dt_eqI (de_ix (dv 1 rfl rfl) de_int rfl) de_int) fun h => (dw_and1 (dt_isN (dixO 2 rfl rfl (dv 3 rfl rfl) hkx) de_non)))) rfl) (dss_nil ?_)
      exact dss_retO 2 rfl rfl (.inl rfl)
theorem d__law_changed (T : Top K mg) (dg : base.NoDigits) : Def P w K mg base "_law_changed" 4 ["costs", "row"] [] R__law_changed := by
  obtain ⟨f, fd, hm, F⟩ := T.F__law_changed
  exact ⟨f, fd, [], [], fng_data F sc__law_changed (by walk_at "len") dg (fun cdv A outer s H E pl => b__law_changed T dg pl), hm, F.kp, F.bindsN fun _ _ _ _ _ _ us hl => match us, hl with | [_, _], _ => rfl, .nil, fun _ => by simp [IsAll]⟩
end K15

set_option Elab.async false
set_option linter.all false
set_option maxRecDepth 100000
set_option maxHeartbeats 4000000
namespace K15
open PySem L2 Dat Pl
local macro_rules | `(tactic| walk_at "c") => `(tactic| first | exact trivial | (show _ ≤ 16777216; simp; done))
local macro_rules | `(tactic| walk_at "len") => `(tactic| (intro ds r h; (repeat obtain ⟨_, h⟩ := h); subst_vars; first | rfl | (simp; done)))
variable {P : Program} {w : World} {K : PySem.W.Frag} {mg : Str → Option Value} {base : Heap} {f : Addr} {cdv : Value} {A : Around} {outer : List PySem.Env} {s : Shared} {H : Hp} {E : XK}
open Bf
/-! ### the law: what the two sides have to do with each other -/
theorem cmp_le {a b : Int × Int} : cmpZ a b ≤ 0 ↔ a.1 * b.2 ≤ b.1 * a.2 := by
  unfold cmpZ
  split
  · constructor <;> intro _ <;> omega
  · split
    · constructor <;> intro _ <;> omega
    · constructor <;> intro _ <;> omega
theorem add_step {a1 a2 u1 u2 r1 r2 N W C : Int} (h : a2 * u2 ≠ 0) (e : r1 * (a2 * u2) = (a1 * u2 + u1 * a2) * r2) (i : a1 * N = W * a2) (j : u1 * N = C * u2) : r1 * N = (W + C) * r2 := by
  apply Int.eq_of_mul_eq_mul_right h
  grind
theorem le_cut {a b c : Int} (hc : 0 < c) (h : a * c ≤ b * c) : a ≤ b := Int.le_of_mul_le_mul_right h hc
theorem right_cheap {prices : List (Option (Int × Int))} (h : PrOk prices) (hl : prices.length ≤ 60) (h2 : 2 ≤ prices.length) : rightB prices (cheapZ prices) = true := by
  obtain ⟨L0, LB, Ld⟩ := bot_ok h hl
  have hb : botZ prices ≠ 0 := by omega
  have good := cheap_good h hl h2
  rw [right_iff]
  refine ⟨?_, fun m i hm hi => ?_⟩
  · unfold headB
    rw [decide_eq_true (cheap_len h hl h2), cheap_gf, good.zero (whole_neg h hl)]
    have e := rat_eq (t := 0) hb
    rw [Int.zero_mul] at e
    have : (rat 0 (botZ prices)).1 = 0 := (Int.mul_eq_zero.mp e).resolve_right hb
    simp [this]
  · unfold okPair
    rw [cheap_gf, cheap_gf]
    cases e1 : gt (bf (wholeP prices)) m with
    | none => rfl
    | some c =>
    cases e2 : gf prices (i + 1) with
    | none => rfl
    | some p =>
      have e3 : gt (wholeP prices) (i + 1) = some (p.1 * (botZ prices / p.2)) := by rw [whole_gt, e2]; rfl
      obtain ⟨d, ed, ld⟩ := good.closed (s := i + 1) (by omega) (by omega) e1 e3
      rw [ed]
      simp only [Option.map_some]
      refine decide_eq_true (cmp_le.mpr ?_)
      obtain ⟨_, ⟨_, _, pp⟩, _⟩ := h p (gf_mem e2)
      obtain ⟨k, hk⟩ := Ld p (gf_mem e2)
      have ek : botZ prices / p.2 = k := by rw [hk, Int.mul_ediv_cancel_left _ (Int.ne_of_gt pp)]
      rw [ek] at ld
      have ga := rat_eq (t := c) hb
      have gd := rat_eq (t := d) hb
      have fa := (rat_fr (t := c) hb).pos
      have fd := (rat_fr (t := d) hb).pos
      generalize rat c (botZ prices) = a at *
      generalize rat d (botZ prices) = g at *
      have h0 : a.2 * p.2 ≠ 0 := Int.ne_of_gt (Int.mul_pos fa pp)
      have er := rat_eq (t := a.1 * p.2 + p.1 * a.2) h0
      have fr' := (rat_fr (t := a.1 * p.2 + p.1 * a.2) h0).pos
      have eq : plusZ a p = rat (a.1 * p.2 + p.1 * a.2) (a.2 * p.2) := rfl
      rw [← eq] at er fr'
      generalize plusZ a p = r at *
      have s1 : r.1 * botZ prices = (c + p.1 * k) * r.2 := add_step h0 er ga (by rw [hk]; grind)
      refine le_cut L0 ?_
      have m1 : d * (g.2 * r.2) ≤ (c + p.1 * k) * (g.2 * r.2) := Int.mul_le_mul_of_nonneg_right ld (Int.le_of_lt (Int.mul_pos fd fr'))
      have t1 : g.1 * r.2 * botZ prices = d * (g.2 * r.2) := by
        have : g.1 * r.2 * botZ prices = (g.1 * botZ prices) * r.2 := by grind
        rw [this, gd]; grind
      have t2 : r.1 * g.2 * botZ prices = (c + p.1 * k) * (g.2 * r.2) := by
        have : r.1 * g.2 * botZ prices = (r.1 * botZ prices) * g.2 := by grind
        rw [this, s1]; grind
      rw [t1, t2]; exact m1
theorem right_walk {prices cs : List (Option (Int × Int))} {n : Nat} (h : PrOk prices) (hl : prices.length ≤ 60) (h2 : 2 ≤ prices.length) (hc : OkC n cs) (hr : rightB prices cs = true) :
    ∀ (j : Nat) (l : List Nat), l.length ≤ j → Ok prices.length (wholeP prices) l → ∃ g, gf cs (Bf.fin prices.length l) = some g ∧ g.1 * botZ prices ≤ cost (wholeP prices) l * g.2 := by
  obtain ⟨L0, LB, Ld⟩ := bot_ok h hl
  obtain ⟨hh, hp⟩ := right_iff.mp hr
  have hnil : ∃ g, gf cs (Bf.fin prices.length []) = some g ∧ g.1 * botZ prices ≤ cost (wholeP prices) [] * g.2 := by
    unfold headB at hh
    rw [Bool.and_eq_true] at hh
    have e0 : Bf.fin prices.length [] = 0 := by simp [Bf.fin]
    rw [e0]
    cases e : gf cs 0 with
    | none => rw [e] at hh; simp at hh
    | some p0 =>
      rw [e] at hh
      have : p0.1 = 0 := of_decide_eq_true hh.2
      exact ⟨p0, rfl, by rw [this]; simp [cost]⟩
  intro j
  induction j with
  | zero =>
    intro l hj _
    obtain rfl : l = [] := List.length_eq_zero_iff.mp (by omega)
    exact hnil
  | succ j ih =>
    intro l hj ho
    rcases List.eq_nil_or_concat l with rfl | ⟨l', s, rfl⟩
    · exact hnil
    · simp only [List.concat_eq_append] at *
      obtain ⟨h1, h3, x, hx⟩ := ho s (by simp)
      obtain ⟨g, eg, lg⟩ := ih l' (by simp at hj; omega) (fun y hy => ho y (by simp [hy]))
      rw [fin_snoc, cost_snoc l' hx]
      have hm : Bf.fin prices.length l' < prices.length := fin_lt (by omega) l'
      have op := hp (Bf.fin prices.length l') (s - 1) hm (by omega)
      have es : s - 1 + 1 = s := by omega
      rw [es] at op
      rw [whole_gt] at hx
      cases e2 : gf prices s with
      | none => rw [e2] at hx; cases hx
      | some p =>
        rw [e2] at hx
        have ex : p.1 * (botZ prices / p.2) = x := Option.some.inj hx
        obtain ⟨_, ⟨_, _, pp⟩, _⟩ := h p (gf_mem e2)
        obtain ⟨k, hk⟩ := Ld p (gf_mem e2)
        have ek : botZ prices / p.2 = k := by rw [hk, Int.mul_ediv_cancel_left _ (Int.ne_of_gt pp)]
        rw [ek] at ex
        unfold okPair at op
        rw [eg, e2] at op
        dsimp only at op
        generalize cost (wholeP prices) l' = cc at *
        generalize (Bf.fin prices.length l' + s) % prices.length = goal at *
        cases e4 : gf cs goal with
        | none => rw [e4] at op; cases op
        | some g' =>
          rw [e4] at op
          have le := cmp_le.mp (of_decide_eq_true op)
          refine ⟨g', rfl, ?_⟩
          have gp := (hc.gf eg).2.2
          have gp' := (hc.gf e4).2.2
          have h0 : g.2 * p.2 ≠ 0 := Int.ne_of_gt (Int.mul_pos gp pp)
          have er := rat_eq (t := g.1 * p.2 + p.1 * g.2) h0
          have fr' := (rat_fr (t := g.1 * p.2 + p.1 * g.2) h0).pos
          have eq : plusZ g p = rat (g.1 * p.2 + p.1 * g.2) (g.2 * p.2) := rfl
          rw [← eq] at er fr'
          generalize plusZ g p = r at *
          have s1 : r.1 * botZ prices ≤ (cc + x) * r.2 := by
            refine le_cut (c := g.2 * p.2) (Int.mul_pos gp pp) ?_
            have t1 : r.1 * botZ prices * (g.2 * p.2) = (g.1 * botZ prices) * (p.2 * r.2) + x * p.2 * g.2 * r.2 := by
              have : r.1 * botZ prices * (g.2 * p.2) = (r.1 * (g.2 * p.2)) * botZ prices := by grind
              rw [this, er, ← ex]
              have : (g.1 * p.2 + p.1 * g.2) * r.2 * botZ prices = (g.1 * botZ prices) * (p.2 * r.2) + p.1 * g.2 * r.2 * botZ prices := by grind
              rw [this]
              conv => lhs; rhs; rw [hk]
              grind
            have t2 : (cc + x) * r.2 * (g.2 * p.2) = cc * g.2 * (p.2 * r.2) + x * p.2 * g.2 * r.2 := by grind
            rw [t1, t2]
            have := Int.mul_le_mul_of_nonneg_right lg (Int.le_of_lt (Int.mul_pos pp fr'))
            omega
          refine le_cut fr' ?_
          have m1 : g'.1 * r.2 * botZ prices ≤ r.1 * g'.2 * botZ prices := Int.mul_le_mul_of_nonneg_right le (Int.le_of_lt L0)
          have m2 : r.1 * botZ prices * g'.2 ≤ (cc + x) * r.2 * g'.2 := Int.mul_le_mul_of_nonneg_right s1 (Int.le_of_lt gp')
          have u1 : g'.1 * botZ prices * r.2 = g'.1 * r.2 * botZ prices := by grind
          have u2 : r.1 * g'.2 * botZ prices = r.1 * botZ prices * g'.2 := by grind
          have u3 : (cc + x) * g'.2 * r.2 = (cc + x) * r.2 * g'.2 := by grind
          omega
theorem right_least {prices cs : List (Option (Int × Int))} {n m : Nat} {cst : Int × Int} (h : PrOk prices) (hl : prices.length ≤ 60) (h2 : 2 ≤ prices.length) (hc : OkC n cs) (hr : rightB prices cs = true) (e : gf (cheapZ prices) m = some cst) :
    ∃ g, gf cs m = some g ∧ cmpZ g cst ≤ 0 := by
  obtain ⟨L0, LB, Ld⟩ := bot_ok h hl
  have hb : botZ prices ≠ 0 := by omega
  rw [cheap_gf] at e
  cases e1 : gt (bf (wholeP prices)) m with
  | none => rw [e1] at e; cases e
  | some c =>
    rw [e1] at e
    have ec : rat c (botZ prices) = cst := Option.some.inj e
    obtain ⟨l, o, f, k⟩ := (cheap_good h hl h2).snd m c e1
    obtain ⟨g, eg, lg⟩ := right_walk h hl h2 hc hr l.length l (Nat.le_refl _) o
    rw [f] at eg
    rw [k] at lg
    refine ⟨g, eg, cmp_le.mpr ?_⟩
    have gp := (hc.gf eg).2.2
    have ga := rat_eq (t := c) hb
    have fa := (rat_fr (t := c) hb).pos
    rw [ec] at ga fa
    refine le_cut L0 ?_
    have m1 := Int.mul_le_mul_of_nonneg_right lg (Int.le_of_lt fa)
    have u1 : g.1 * cst.2 * botZ prices = g.1 * botZ prices * cst.2 := by grind
    have u2 : cst.1 * g.2 * botZ prices = c * g.2 * cst.2 := by
      have : cst.1 * g.2 * botZ prices = cst.1 * botZ prices * g.2 := by grind
      rw [this, ga]; grind
    omega
/-! sizes of prices; every second price left out -/
def psz (q : Nat) : List Int := (List.replicate q [9, 5]).flatten
theorem psz_succ (q : Nat) : psz (q + 1) = 9 :: 5 :: psz q := by simp [psz, List.replicate_succ]
theorem psz_len : ∀ q, (psz q).length = 2 * q
  | 0 => rfl
  | q + 1 => by rw [psz_succ]; simp [psz_len q]; omega
theorem psz_mem : ∀ q s, s ∈ psz q → s = 9 ∨ s = 5
  | 0, s, h => by simp [psz] at h
  | q + 1, s, h => by
    rw [psz_succ] at h
    simp only [List.mem_cons] at h
    rcases h with h | h | h
    · exact .inl h
    · exact .inr h
    · exact psz_mem q s h
theorem psz_ok (q : Nat) : ∀ s, s ∈ psz q → 0 < s ∧ B 8990 s := fun s h => by
  rcases psz_mem q s h with rfl | rfl
  · exact ⟨by decide, B.mono (n := 4) (by decide) (by decide)⟩
  · exact ⟨by decide, B.mono (n := 4) (by decide) (by decide)⟩
theorem row_ok : ∀ (q : Nat) (row : List Int), Dg (psz q) row → RowOk q row
  | 0, row, h => by
    obtain rfl : row = [] := h
    exact ⟨rfl, fun i hi => by omega, fun i hi => by omega⟩
  | q + 1, row, h => by
    rw [psz_succ] at h
    obtain ⟨a, _, rfl, a0, a1, b, r, rfl, b0, b1, h'⟩ := h
    have ih := row_ok q r h'
    refine ⟨by simp [ih.len]; omega, fun i hi => ?_, fun i hi => ?_⟩
    · cases i with
      | zero => exact ⟨a0, a1⟩
      | succ i =>
        have := ih.a i (by omega)
        rw [show 2 * (i + 1) = 2 * i + 1 + 1 by omega]
        simpa using this
    · cases i with
      | zero => exact ⟨b0, b1⟩
      | succ i =>
        have := ih.b i (by omega)
        rw [show 2 * (i + 1) + 1 = 2 * i + 1 + 1 + 1 by omega]
        simpa using this
def altZ (prices : List (Option (Int × Int))) : List (Option (Int × Int)) := prices.zipIdx.map fun x => if x.2 % 2 = 1 then none else x.1
theorem alt_len {prices : List (Option (Int × Int))} : (altZ prices).length = prices.length := by simp [altZ]
theorem alt_ok {prices : List (Option (Int × Int))} (h : PrOk prices) : PrOk (altZ prices) := by
  intro p hp
  obtain ⟨x, hx, e⟩ := List.mem_map.mp hp
  split at e
  · cases e
  · obtain ⟨i, hi⟩ := List.mem_iff_getElem?.mp hx
    rw [List.getElem?_zipIdx] at hi
    cases q : prices[i]? with
    | none => rw [q] at hi; simp at hi
    | some o =>
      rw [q] at hi
      simp at hi
      subst hi
      dsimp only at e
      subst e
      exact h p (List.mem_of_getElem? q)
theorem alt_get {prices : List (Option (Int × Int))} {n : Nat} : (altZ prices)[n]? = (prices[n]?).map fun o => if n % 2 = 1 then none else o := by
  unfold altZ
  rw [List.getElem?_map, List.getElem?_zipIdx]
  cases prices[n]? <;> simp
theorem wts_opt (k : Bool) : ∀ l : List (Option (Int × Int)), wts (l.map (opK k)) ≤ 3869 * l.length
  | [] => by simp [wts]
  | o :: l => by
    have ih := wts_opt k l
    cases o <;> simp only [List.map_cons, wts, opK, frK, wt, List.length_cons] at * <;> omega
theorem okDs_opt {n : Nat} (k : Bool) (hn : n ≤ 1900) : ∀ l : List (Option (Int × Int)), OkC n l → okDs (l.map (opK k))
  | [], _ => trivial
  | o :: l, h => by
    have ih := okDs_opt k hn l fun p hp => h p (List.mem_cons_of_mem _ hp)
    simp only [List.map_cons, okDs]
    refine ⟨?_, ih⟩
    cases o with
    | none => trivial
    | some p =>
      obtain ⟨h1, h2, _⟩ := h p List.mem_cons_self
      simp only [opK, frK, okD, okDs]
      exact ⟨h1.mono hn, h2.mono hn, trivial⟩
theorem deeps_opt (k : Bool) : ∀ l : List (Option (Int × Int)), deeps (l.map (opK k)) ≤ 1
  | [] => by simp [deeps]
  | o :: l => by
    have ih := deeps_opt k l
    cases o <;> simp only [List.map_cons, deeps, opK, frK, deep] at * <;> omega
theorem sh_two {n m : Nat} {a b : List (Option (Int × Int))} (ha : OkC n a) (hb : OkC m b) (hn : n ≤ 1900) (hm : m ≤ 1900) (la : a.length ≤ 100) (lb : b.length ≤ 100) : shC (.sq false [.sq false (a.map (opK false)), .sq false (b.map (opK false))]) := by
  have w1 := wts_opt false a
  have w2 := wts_opt false b
  have d1 := deeps_opt false a
  have d2 := deeps_opt false b
  refine sh_ok ?_ ?_ ?_
  · simp only [okD, okDs]
    exact ⟨okDs_opt false hn a ha, okDs_opt false hm b hb, trivial⟩
  · simp only [deep, deeps]; omega
  · simp only [wt, wts]; omega
theorem sh_bl (b : Bool) : shC (.bl b) := sh_ok (by cases b <;> trivial) (by cases b <;> decide) (by cases b <;> decide)
end K15

set_option Elab.async false
set_option linter.all false
set_option maxRecDepth 100000
set_option maxHeartbeats 4000000
namespace K15
open PySem L2 Dat Pl
local macro_rules | `(tactic| walk_at "c") => `(tactic| first | exact trivial | (show _ ≤ 16777216; simp; done))
local macro_rules | `(tactic| walk_at "len") => `(tactic| (intro ds r h; (repeat obtain ⟨_, h⟩ := h); subst_vars; first | rfl | (simp; done)))
variable {P : Program} {w : World} {K : PySem.W.Frag} {mg : Str → Option Value} {base : Heap} {f : Addr} {cdv : Value} {A : Around} {outer : List PySem.Env} {s : Shared} {H : Hp} {E : XK}
open Bf
def d1 : List Int := [10, 60]
def d2 : List Int := [4, 20]
def d3 : List Int := [4]
def d4 : List Int := [8, 60, 9, 9]
theorem sz_ok {l : List Int} (h : ∀ s, s ∈ l → 0 < s ∧ s.natAbs < 2 ^ 40) : ∀ s, s ∈ l → 0 < s ∧ B 8990 s := fun s hs => ⟨(h s hs).1, B.mono (n := 40) (h s hs).2 (by decide)⟩
theorem d1_ok : ∀ s, s ∈ d1 → 0 < s ∧ B 8990 s := sz_ok (by decide)
theorem d2_ok : ∀ s, s ∈ d2 → 0 < s ∧ B 8990 s := sz_ok (by decide)
theorem d3_ok : ∀ s, s ∈ d3 → 0 < s ∧ B 8990 s := sz_ok (by decide)
theorem d4_ok : ∀ s, s ∈ d4 → 0 < s ∧ B 8990 s := sz_ok (by decide)
def R_law (ds : List Dt) (r : Ret) : Prop := ∃ ns : List Int, ds = [.scr ns] ∧ r = .sh (.bl true)
theorem prOk_C {prices : List (Option (Int × Int))} (h : PrOk prices) : OkC 300 prices := fun p hp => (h p hp).2.1.mono (by decide)
theorem b_law (T : Top K mg) (dg : base.NoDigits) (pl : Plc (BX P w K mg base N_law "law" s_law f cdv A outer s H E) 4) : ∀ ds r, R_law ds r → DSs (BX P w K mg base N_law "law" s_law f cdv A outer s H E) (startD N_law ds) (defBody s_law) (fin r) := by
  rintro _ _ ⟨ns, rfl, rfl⟩
  have cell : ∀ k : Int, 0 ≤ k → k ≤ 1000 → R__law_cell [.scr ns, .int k] (.sh (.int (cellZ ns k))) := fun k a b => ⟨ns, k, a, b, rfl, rfl⟩
  obtain ⟨w0, _, ew, w00, w01, w1, _, rfl, w10, w11, rfl⟩ := dg_Z (ss := d1) (c := cellZ ns 0) fun s hs => (d1_ok s hs).1
  have hw := wheels_bd _ (lit_ix (l := wheels) w00 w01).2
  refine' dss_set 1 pl rfl (de_callS pl (d__law_wheel T dg) (by decide) rfl (da_cons (de_call pl (d__law_digits T dg) (by decide) rfl (da_cons (de_callS pl (d__law_cell T dg) (by decide) rfl (da_cons (dv 0 rfl rfl) (da_cons de_int da_nil)) (cell 0 (by decide) (by decide))) (da_cons (de_lst (da_cons de_int (da_cons de_int da_nil))) da_nil)) ⟨_, false, d1, d1_ok, by decide, rfl, rfl⟩) da_nil) ⟨false, w0, w1, (by rw [ew]; try rfl), w00, w01, rfl⟩) ?_
  refine' dss_set 2 pl rfl (de_ix (dv 1 rfl rfl) de_int rfl) ?_
  obtain ⟨s0, _, es, s00, s01, s1, _, rfl, s10, s11, rfl⟩ := dg_Z (ss := d2) (c := cellZ ns 9) fun s hs => (d2_ok s hs).1
  refine' dss_set 3 pl rfl (de_eq (de_call pl (d__law_digits T dg) (by decide) rfl (da_cons (de_callS pl (d__law_cell T dg) (by decide) rfl (da_cons (dv 0 rfl rfl) (da_cons de_int da_nil)) (cell 9 (by decide) (by decide))) (da_cons (de_lst (da_cons de_int (da_cons de_int da_nil))) da_nil)) ⟨_, false, d2, d2_ok, by decide, rfl, rfl⟩) (by rw [es]; try rfl)) ?_
  generalize Dt.sq false [.int (wheels.getD w0.toNat 0), .int (1 + w1 % (wheels.getD w0.toNat 0 - 1))] = wd at *
  generalize wheels.getD w0.toNat 0 = w at *
  refine' dss_ifJ (fun δ => ∃ q : Nat, 2 ≤ q ∧ q ≤ 30 ∧ δ = [.sh (.scr ns), .sh wd, .sh (.int q), .sh (.sq false [.int s0, .int s1]), .no, .no, .no, .no, .no, .no, .no, .no, .no, .no]) (dt_eqI (de_ix (dv 3 rfl rfl) de_int rfl) de_int) (fun h => ?_) (fun h => ?_) (fun δ' hi => ?_)
  · refine' dss_set 2 pl rfl (de_add de_int (de_ix (dv 3 rfl rfl) de_int rfl) rfl (by walk_at "c")) (dss_nil ⟨(11 + s1).toNat, by omega, by omega, ?_⟩)
    rw [show ((11 + s1).toNat : Int) = 11 + s1 by omega]; rfl
  · refine ⟨w.toNat, by omega, by omega, ?_⟩
    rw [show (w.toNat : Int) = w by omega]; rfl
  obtain ⟨q, q2, q30, rfl⟩ := hi
  have hrow := row_ok q _ (dg_Z (ss := psz q) (c := cellZ ns 1) fun s hs => (psz_ok q s hs).1)
  have hp0 := prices_ok hrow
  have hpl0 := prices_len (row := digZ (cellZ ns 1) (psz q)) (show 1 ≤ q by omega)
  have emul : (List.replicate ((q : Int)).toNat [Dt.int 9, Dt.int 5]).flatten = (psz q).map Dt.int := by
    unfold psz
    rw [List.map_flatten, List.map_replicate]; rfl
  refine' dss_set 4 pl rfl (de_call pl (d__law_prices T dg) (by decide) rfl (da_cons (dv 2 rfl rfl) (da_cons (de_call pl (d__law_digits T dg) (by decide) rfl (da_cons (de_callS pl (d__law_cell T dg) (by decide) rfl (da_cons (dv 0 rfl rfl) (da_cons de_int da_nil)) (cell 1 (by decide) (by decide))) (da_cons (de_eq (de_of (df_mul (de_lst (da_cons de_int (da_cons de_int da_nil))) (dv 2 rfl rfl) (by omega) (by omega) (by show _ ≤ 16777216; simp; omega))) (by rw [emul])) da_nil)) ⟨cellZ ns 1, false, psz q, psz_ok q, by rw [psz_len]; omega, rfl, rfl⟩) da_nil)) ⟨q, false, digZ (cellZ ns 1) (psz q), rfl, q2, by omega, hrow, rfl⟩) ?_
  generalize pricesZ q (digZ (cellZ ns 1) (psz q)) = pr0 at *
  obtain ⟨v0, _, ev, v00, v01, rfl⟩ := dg_Z (ss := d3) (c := cellZ ns 2) fun s hs => (d3_ok s hs).1
  refine' dss_ifJ (fun δ => ∃ prices, PrOk prices ∧ prices.length = q ∧ δ = [.sh (.scr ns), .sh wd, .sh (.int q), .sh (.sq false [.int s0, .int s1]), .sh (.sq false (prices.map (opK true))), .no, .no, .no, .no, .no, .no, .no, .no, .no])
    (dt_eqI (de_ix (de_eq (de_call pl (d__law_digits T dg) (by decide) rfl (da_cons (de_callS pl (d__law_cell T dg) (by decide) rfl (da_cons (dv 0 rfl rfl) (da_cons de_int da_nil)) (cell 2 (by decide) (by decide))) (da_cons (de_lst (da_cons de_int da_nil)) da_nil)) ⟨_, false, d3, d3_ok, by decide, rfl, rfl⟩) (by rw [ev])) de_int rfl) de_int) (fun h => ?_) (fun h => ?_) (fun δ' hi => ?_)
  · refine' dss_cons (ds_lc2 4 12 13 pl rfl rfl (sw_true rfl rfl rfl (by decide +kernel)) (di_enum T.m_enumerate (dv 4 rfl rfl)) (blkOk_by (N := N_law) (sc := defScope s_law) (by decide +kernel)) (fun _ _ _ _ _ => pg_tup pl.calm (pgs_cons (pg_name pl.nd rfl (Or.inl rfl)) (pgs_cons (pg_name pl.nd rfl (Or.inl rfl)) pgs_nil))) (by decide) ?hz ((altZ pr0).map (opK true)) (by rw [List.length_map, alt_len, enD_len, List.length_map]) ?hc ?_)
    case hz => rw [enD_len, List.length_map]; show _ ≤ 16777216; omega
    case hc =>
      intro n d r e1 e2
      obtain ⟨e, h1, rfl⟩ := enD_get e1
      obtain ⟨o, ho, rfl⟩ := map_get h1
      obtain ⟨o', ho', rfl⟩ := map_get e2
      rw [alt_get, ho] at ho'
      have ho2 : o' = (if n % 2 = 1 then none else o) := (Option.some.inj ho').symm
      subst ho2
      refine ⟨_, _, rfl, fun s H1 C cl fp => ?_⟩
      by_cases odd : n % 2 = 1
      · have eo : decide ((n : Int) % 2 = 1) = true := decide_eq_true (by omega)
        rw [if_pos odd]
        exact de_ix (de_lst (da_cons (dv 13 rfl rfl) (da_cons de_non da_nil))) (de_intc (n := 1) T.m_int (de_eqI (de_mod (dv 12 rfl rfl) de_int (by decide)) de_int) (by rw [eo]; rfl)) rfl
      · have eo : decide ((n : Int) % 2 = 1) = false := decide_eq_false (by omega)
        rw [if_neg odd]
        exact de_ix (de_lst (da_cons (dv 13 rfl rfl) (da_cons de_non da_nil))) (de_intc (n := 0) T.m_int (de_eqI (de_mod (dv 12 rfl rfl) de_int (by decide)) de_int) (by rw [eo]; rfl)) rfl
    refine' dss_frz 4 rfl ?_
    exact dss_nil ⟨altZ pr0, alt_ok hp0, by rw [alt_len, hpl0], rfl⟩
  · exact ⟨pr0, hp0, hpl0, rfl⟩
  obtain ⟨prices, hp, hlen, rfl⟩ := hi
  have h2 : 2 ≤ prices.length := by omega
  have h60 : prices.length ≤ 60 := by omega
  have hcl := cheap_len hp h60 h2
  have hco := cheap_ok hp h60 h2
  have hrc := right_cheap hp h60 h2
  have least := fun (cs : List (Option (Int × Int))) (m : Nat) (cst : Int × Int) (hc : OkC 195 cs) (hr : rightB prices cs = true) (e : gf (cheapZ prices) m = some cst) => right_least hp h60 h2 hc hr e
  have hpC := prOk_C hp
  have hcC : OkC 300 (cheapZ prices) := hco.mono (by decide)
  refine' dss_set 5 pl rfl (de_call pl (d__law_cheapest_costs T dg) (by decide) rfl (da_cons (dv 4 rfl rfl) da_nil) ⟨false, prices, rfl, hp, h2, h60, rfl⟩) ?_
  generalize cheapZ prices = cheap at *
  have rr : ∀ (t k t' k' : Bool) (cs : List (Option (Int × Int))), OkC 300 cs → R_right [.sq t (prices.map (opK k)), .sq t' (cs.map (opK k'))] (.sh (.bl (rightB prices cs))) := fun t k t' k' cs h => ⟨t, k, t', k', prices, cs, rfl, hpC, h, h2, h60, rfl⟩
  have rt : ∀ (t k t' k' : Bool), R_right [.sq t (prices.map (opK k)), .sq t' (cheap.map (opK k'))] (.sh (.bl true)) := fun t k t' k' => hrc ▸ rr t k t' k' cheap hcC
  refine' dss_ifF (dt_eq (dt_w (dw_or (dt_not (dt_val (de_callS pl (d__law_is T dg) (by decide) rfl (da_cons (de_callS pl (d_are_floor_costs T dg) (by decide) rfl (da_cons (dv 4 rfl rfl) (da_cons (de_tuple T.m_tuple (dv 5 rfl rfl)) da_nil)) (rt _ _ _ _)) (da_cons de_bl da_nil)) (is_same (sh_bl true))))) fun h => (dw_or1 (dt_not (dt_val (de_callS pl (d__law_right T dg) (by decide) rfl (da_cons (dv 4 rfl rfl) (da_cons (dv 5 rfl rfl) da_nil)) (by exact rt _ _ _ _))))))) rfl) (dss_nil ?_)
  refine' dss_rng 6 pl rfl T.m_range de_int (by decide) (by decide) (fun n δ => ∃ t6 t7 t8 t9 t10 t11, δ = [.sh (.scr ns), .sh wd, .sh (.int q), .sh (.sq false [.int s0, .int s1]), .sh (.sq false (prices.map (opK true))), .sh (.sq false (cheap.map (opK true))), t6, t7, t8, t9, t10, t11, .no, .no]) ⟨.no, .no, .no, .no, .no, .no, rfl⟩ (fun n δ' hn hi => ?hs) (fun δ' hi => ?hd)
  case hd =>
    obtain ⟨t6, t7, t8, t9, t10, t11, rfl⟩ := hi
    exact dss_ret de_bl (.inl rfl)
  obtain ⟨t6, t7, t8, t9, t10, t11, rfl⟩ := hi
  obtain ⟨r0, _, er, a0, b0, r1, _, rfl, a1, b1, r2, _, rfl, a2, b2, r3, _, rfl, a3, b3, rfl⟩ := dg_Z (ss := d4) (c := cellZ ns (3 + (n : Int))) fun s hs => (d4_ok s hs).1
  have hn6 : n < 6 := by simpa using hn
  refine' dss_set 7 pl rfl (de_eq (de_call pl (d__law_digits T dg) (by decide) rfl (da_cons (de_callS pl (d__law_cell T dg) (by decide) rfl (da_cons (dv 0 rfl rfl) (da_cons (de_add de_int (dv 6 rfl rfl) rfl (by walk_at "c")) da_nil)) (cell _ (by omega) (by omega))) (da_cons (de_lst (da_cons de_int (da_cons de_int (da_cons de_int (da_cons de_int da_nil))))) da_nil)) ⟨cellZ ns (3 + (n : Int)), false, d4, d4_ok, by decide, rfl, rfl⟩) (by rw [er]; try rfl)) ?_
  have hchC := ch_ok (r0 := r0) (r1 := r1) hco a2 b2 a3 b3
  have hchl := ch_len (cs := cheap) (r0 := r0) (r1 := r1) (r2 := r2) (r3 := r3)
  refine' dss_set 8 pl rfl (de_call pl (d__law_changed T dg) (by decide) rfl (da_cons (dv 5 rfl rfl) (da_cons (dv 7 rfl rfl) da_nil)) ⟨false, false, cheap, r0, r1, r2, r3, rfl, hco, by omega, by omega, a0, b0, a2, b2, a3, b3, rfl⟩) ?_
  generalize chZ cheap r0 r1 r2 r3 = ch at *
  have hch3 : OkC 300 ch := hchC.mono (by decide)
  refine' dss_set 9 pl rfl (de_callS pl (d__law_right T dg) (by decide) rfl (da_cons (dv 4 rfl rfl) (da_cons (dv 8 rfl rfl) da_nil)) (rr _ _ _ _ ch hch3)) ?_
  have al : ∀ l : List (Option (Int × Int)), l.length ≤ 1000 → R__law_as_lists [.sq false (l.map (opK true))] (.ow (l.map (opK false))) := fun l h => ⟨false, l, rfl, h, rfl⟩
  refine' dss_set 10 pl rfl (de_lst (da_cons (de_call pl (d__law_as_lists T dg) (by decide) rfl (da_cons (dv 4 rfl rfl) da_nil) (al prices (by omega))) (da_cons (de_call pl (d__law_as_lists T dg) (by decide) rfl (da_cons (dv 8 rfl rfl) da_nil) (al ch (by omega))) da_nil))) ?_
  refine' dss_ifF (dt_eq (dt_w (dw_or (dt_not (dt_val (de_callS pl (d__law_is T dg) (by decide) rfl (da_cons (de_callS pl (d_are_floor_costs T dg) (by decide) rfl (da_cons (de_ix (dv 10 rfl rfl) de_int rfl) (da_cons (de_ix (dv 10 rfl rfl) de_int rfl) da_nil)) (rr _ false _ false ch hch3)) (da_cons (dv 9 rfl rfl) da_nil)) (is_same (sh_bl _))))) fun h => (dw_or1 (dt_not (dt_val (de_callS pl (d__law_is T dg) (by decide) rfl (da_cons (dv 10 rfl rfl) (da_cons (de_lst (da_cons (de_call pl (d__law_as_lists T dg) (by decide) rfl (da_cons (dv 4 rfl rfl) da_nil) (by exact al prices (by omega))) (da_cons (de_call pl (d__law_as_lists T dg) (by decide) rfl (da_cons (dv 8 rfl rfl) da_nil) (by exact al ch (by omega))) da_nil))) da_nil)) (by exact is_same (sh_two hpC hch3 (by decide) (by decide) (by omega) (by omega))))))))) rfl) (dss_nil ?_)
  refine' dss_ifG (dt_val (dv 9 rfl rfl)) (fun hr => ?_) (fun h => ?_)
  · have hlc : ch.length = prices.length := by
      have := (right_iff.mp hr).1
      unfold headB at this
      rw [Bool.and_eq_true] at this
      exact of_decide_eq_true this.1
    refine' dss_rng 11 pl rfl T.m_range (dv 2 rfl rfl) (by omega) (by omega) (fun m δ => ∃ t11, δ = [.sh (.scr ns), .sh wd, .sh (.int q), .sh (.sq false [.int s0, .int s1]), .sh (.sq false (prices.map (opK true))), .sh (.sq false (cheap.map (opK true))), .sh (.int n), .sh (.sq false [.int r0, .int r1, .int r2, .int r3]), .sh (.sq false (ch.map (opK true))), .sh (.bl (rightB prices ch)), .sh (.sq false [.sq false (prices.map (opK false)), .sq false (ch.map (opK false))]), t11, .no, .no]) ⟨t11, rfl⟩ (fun m δ' hm hi => ?hs2) (fun δ' hi => ?hd2)
    case hd2 =>
      obtain ⟨t11, rfl⟩ := hi
      exact dss_nil (dss_nil ⟨_, _, _, _, _, _, rfl⟩)
    obtain ⟨t11, rfl⟩ := hi
    have hm' : m < q := by simpa using hm
    have hx : ixD (.sq false (ch.map (opK true))) (.int (m : Int)) = some (opK true (gf ch m)) := ixo (by omega)
    have hy : ixD (.sq false (cheap.map (opK true))) (.int (m : Int)) = some (opK true (gf cheap m)) := ixo (by omega)
    have le := fun cst e => least ch m cst hchC hr e
    cases e2 : gf cheap m with
    | none =>
      rw [e2] at hy
      cases e1 : gf ch m with
      | none =>
        rw [e1] at hx
        refine' dss_ifF (dt_eq (dt_w (dw_and (dt_isN (de_ix (dv 8 rfl rfl) (dv 11 rfl rfl) hx) de_non) fun h => (dw_and1 (dt_notN (de_ix (dv 5 rfl rfl) (dv 11 rfl rfl) (by exact hy)) de_non)))) rfl) (dss_nil ?_)
        refine' dss_ifF (dt_eq (dt_w (dw_and (j := false) (dt_notN (de_ix (dv 8 rfl rfl) (dv 11 rfl rfl) hx) de_non) (fun h => absurd h (by decide)))) rfl) (dss_nil ?_)
        exact dss_nil ⟨_, rfl⟩
      | some g =>
        rw [e1] at hx
        refine' dss_ifF (dt_eq (dt_w (dw_and (j := false) (dt_isN (de_ix (dv 8 rfl rfl) (dv 11 rfl rfl) hx) de_non) (fun h => absurd h (by simp [isNon, opK, frK])))) rfl) (dss_nil ?_)
        refine' dss_ifF (dt_eq (dt_w (dw_and (dt_notN (de_ix (dv 8 rfl rfl) (dv 11 rfl rfl) hx) de_non) fun h => (dw_and1 (dt_notN (de_ix (dv 5 rfl rfl) (dv 11 rfl rfl) (by exact hy)) de_non)))) rfl) (dss_nil ?_)
        exact dss_nil ⟨_, rfl⟩
    | some cst =>
      rw [e2] at hy
      obtain ⟨g, e1, lg⟩ := le cst e2
      rw [e1] at hx
      refine' dss_ifF (dt_eq (dt_w (dw_and (j := false) (dt_isN (de_ix (dv 8 rfl rfl) (dv 11 rfl rfl) hx) de_non) (fun h => absurd h (by simp [isNon, opK, frK])))) rfl) (dss_nil ?_)
      refine' dss_ifT (dt_eq (dt_w (dw_and (dt_notN (de_ix (dv 8 rfl rfl) (dv 11 rfl rfl) hx) de_non) fun h => (dw_and1 (dt_notN (de_ix (dv 5 rfl rfl) (dv 11 rfl rfl) (by exact hy)) de_non)))) rfl) ?_
      refine' dss_ifF (dt_eq (dt_gt (de_callS pl (d__law_compare T dg) (by decide) rfl (da_cons (de_ix (dv 8 rfl rfl) (dv 11 rfl rfl) hx) (da_cons (de_ix (dv 5 rfl rfl) (dv 11 rfl rfl) hy) da_nil)) ⟨true, true, g, cst, rfl, (hchC.gf e1).mono (by decide), (hco.gf e2).mono (by decide), rfl⟩) de_int) (decide_eq_false (by omega))) (dss_nil ?_)
      exact dss_nil (dss_nil ⟨_, rfl⟩)
  · exact dss_nil ⟨_, _, _, _, _, _, rfl⟩
theorem d_law (T : Top K mg) (dg : base.NoDigits) : Def P w K mg base "law" 5 ["script"] [] R_law := by
  obtain ⟨f, fd, hm, F⟩ := T.F_law
  exact ⟨f, fd, [], [], fng_data F sc_law (by walk_at "len") dg (fun cdv A outer s H E pl => b_law T dg pl), hm, F.kp, F.bindsN fun _ _ _ _ _ _ us hl => match us, hl with | [_], _ => rfl, .nil, fun _ => by simp [IsAll]⟩
end K15

set_option Elab.async false
set_option linter.all false
set_option maxRecDepth 100000
set_option maxHeartbeats 0
namespace K15
open PySem L2 Dat
abbrev Rw : PySem.W.OpenRow := PySem.W.OpenLaw.row PySem.Challenge.rw_cutmakers_k15_floor_costs_judge
abbrev hk : PySem.W.Hook := hookX 4 fa fn bs
def ob (s : PySem.W.SharedT) : AlX := obsX 4 fa fn bs (HandSHeadRun.getT s)
theorem ob_eq (s : PySem.W.SharedT) : ob s = hk.obs s.abs := obsX_eq (HandSHeadRun.getT_eq s)
def loose0 : List Str := ["CutError", "ZeroBottom", "ratio", "plus", "compare", "are_floor_costs", "_law_is", "_law_cell", "_law_digits", "_law_gcd", "_law_ratio", "_law_plus", "_law_minus", "_law_times", "_law_compare"]
def loose1 : List Str := ["_law_lift", "_law_wheel", "_law_costs", "_law_prices", "_law_whole_prices", "_law_right", "_law_cheapest_costs", "_law_as_lists", "_law_changed"]
abbrev loose : List Str := loose0 ++ loose1
abbrev qv : Program := PySem.W.view Rw.prog [0, 29]
theorem run (w : World) : HandSHeadRun.RunEqI Rw qv hk ob 4000 loose w := by
  unfold HandSHeadRun.RunEqI
  kernel_rfl
theorem top_ok {K : PySem.W.Frag} {h : Heap} {mg : Str → Option Value} (X : K.In h) (G : h.Ns mainGlobals mg) (c : SaysX fa fn bs K) : Top K mg where
  F_ratio := (c.1.def_ 0 (d := q_ratio) rfl).elim fun fd F => ⟨_, fd, He.glo_ok X G (c.1.fact 0 (f := .glo "ratio") rfl), F⟩
  F_plus := (c.1.def_ 1 (d := q_plus) rfl).elim fun fd F => ⟨_, fd, He.glo_ok X G (c.1.fact 1 (f := .glo "plus") rfl), F⟩
  F_compare := (c.1.def_ 2 (d := q_compare) rfl).elim fun fd F => ⟨_, fd, He.glo_ok X G (c.1.fact 2 (f := .glo "compare") rfl), F⟩
  F_are_floor_costs := (c.1.def_ 3 (d := q_are_floor_costs) rfl).elim fun fd F => ⟨_, fd, He.glo_ok X G (c.1.fact 3 (f := .glo "are_floor_costs") rfl), F⟩
  F__law_is := (c.1.def_ 4 (d := q__law_is) rfl).elim fun fd F => ⟨_, fd, He.glo_ok X G (c.1.fact 4 (f := .glo "_law_is") rfl), F⟩
  F__law_cell := (c.1.def_ 5 (d := q__law_cell) rfl).elim fun fd F => ⟨_, fd, He.glo_ok X G (c.1.fact 5 (f := .glo "_law_cell") rfl), F⟩
  F__law_digits := (c.1.def_ 6 (d := q__law_digits) rfl).elim fun fd F => ⟨_, fd, He.glo_ok X G (c.1.fact 6 (f := .glo "_law_digits") rfl), F⟩
  F__law_gcd := (c.1.def_ 7 (d := q__law_gcd) rfl).elim fun fd F => ⟨_, fd, He.glo_ok X G (c.1.fact 7 (f := .glo "_law_gcd") rfl), F⟩
  F__law_ratio := (c.1.def_ 8 (d := q__law_ratio) rfl).elim fun fd F => ⟨_, fd, He.glo_ok X G (c.1.fact 8 (f := .glo "_law_ratio") rfl), F⟩
  F__law_plus := (c.1.def_ 9 (d := q__law_plus) rfl).elim fun fd F => ⟨_, fd, He.glo_ok X G (c.1.fact 9 (f := .glo "_law_plus") rfl), F⟩
  F__law_minus := (c.1.def_ 10 (d := q__law_minus) rfl).elim fun fd F => ⟨_, fd, He.glo_ok X G (c.1.fact 10 (f := .glo "_law_minus") rfl), F⟩
  F__law_times := (c.1.def_ 11 (d := q__law_times) rfl).elim fun fd F => ⟨_, fd, He.glo_ok X G (c.1.fact 11 (f := .glo "_law_times") rfl), F⟩
  F__law_compare := (c.1.def_ 12 (d := q__law_compare) rfl).elim fun fd F => ⟨_, fd, He.glo_ok X G (c.1.fact 12 (f := .glo "_law_compare") rfl), F⟩
  F__law_lift := (c.1.def_ 13 (d := q__law_lift) rfl).elim fun fd F => ⟨_, fd, He.glo_ok X G (c.1.fact 13 (f := .glo "_law_lift") rfl), F⟩
  F__law_wheel := (c.1.def_ 14 (d := q__law_wheel) rfl).elim fun fd F => ⟨_, fd, He.glo_ok X G (c.1.fact 14 (f := .glo "_law_wheel") rfl), F⟩
  F__law_costs := (c.1.def_ 15 (d := q__law_costs) rfl).elim fun fd F => ⟨_, fd, He.glo_ok X G (c.1.fact 15 (f := .glo "_law_costs") rfl), F⟩
  F__law_prices := (c.1.def_ 16 (d := q__law_prices) rfl).elim fun fd F => ⟨_, fd, He.glo_ok X G (c.1.fact 16 (f := .glo "_law_prices") rfl), F⟩
  F__law_whole_prices := (c.1.def_ 17 (d := q__law_whole_prices) rfl).elim fun fd F => ⟨_, fd, He.glo_ok X G (c.1.fact 17 (f := .glo "_law_whole_prices") rfl), F⟩
  F__law_right := (c.1.def_ 18 (d := q__law_right) rfl).elim fun fd F => ⟨_, fd, He.glo_ok X G (c.1.fact 18 (f := .glo "_law_right") rfl), F⟩
  F__law_cheapest_costs := (c.1.def_ 19 (d := q__law_cheapest_costs) rfl).elim fun fd F => ⟨_, fd, He.glo_ok X G (c.1.fact 19 (f := .glo "_law_cheapest_costs") rfl), F⟩
  F__law_as_lists := (c.1.def_ 20 (d := q__law_as_lists) rfl).elim fun fd F => ⟨_, fd, He.glo_ok X G (c.1.fact 20 (f := .glo "_law_as_lists") rfl), F⟩
  F__law_changed := (c.1.def_ 21 (d := q__law_changed) rfl).elim fun fd F => ⟨_, fd, He.glo_ok X G (c.1.fact 21 (f := .glo "_law_changed") rfl), F⟩
  F_law := (c.1.def_ 22 (d := q_law) rfl).elim fun fd F => ⟨_, fd, He.glo_ok X G (c.1.fact 22 (f := .glo "law") rfl), F⟩
  m_abs := He.free_ok X G (c.1.fact 23 (f := .free "abs") rfl)
  m_enumerate := He.free_ok X G (c.1.fact 24 (f := .free "enumerate") rfl)
  m_int := He.free_ok X G (c.1.fact 25 (f := .free "int") rfl)
  m_len := He.free_ok X G (c.1.fact 26 (f := .free "len") rfl)
  m_list := He.free_ok X G (c.1.fact 27 (f := .free "list") rfl)
  m_range := He.free_ok X G (c.1.fact 28 (f := .free "range") rfl)
  m_repr := He.free_ok X G (c.1.fact 29 (f := .free "repr") rfl)
  m_tuple := He.free_ok X G (c.1.fact 30 (f := .free "tuple") rfl)
  m_gcd := c.blt X G 0 (b := ("gcd", "math.gcd")) rfl
end K15

set_option Elab.async false
set_option linter.all false
set_option maxRecDepth 100000
set_option maxHeartbeats 0
open PySem PySem.W PySem.Calls PyProof.Rows L2 Dat
theorem PySem.Challenge.cw_cutmakers_k15_floor_costs_judge_holds : PySem.Challenge.rw_cutmakers_k15_floor_costs_judge.Holds := by
  w_on; o_law
  refine HandSHeadRun.head_imp (r := OpenLaw.row PySem.Challenge.rw_cutmakers_k15_floor_costs_judge) (q := K15.qv) (H := K15.hk) (ob := K15.ob) (M := 4000) (loose := K15.loose) (d := HandSHeadRun.topDef (OpenLaw.row PySem.Challenge.rw_cutmakers_k15_floor_costs_judge).prog 29) (kwd := []) K15.ob_eq K15.run
    (by kernel_rfl) (by kernel_rfl) (by kernel_rfl) (by rfl) (by first | assumption | decide +kernel) (by decide +kernel) ⟨rfl, rfl, rfl, rfl, rfl, by decide +kernel⟩ ?hw ?hc
  case hw => w_witness2
  case hc =>
    refine Dat.walk_ofX (l := PySem.Challenge.rw_cutmakers_k15_floor_costs_judge) (n := 63) (k := 5) (x := "script") rfl (by decide) (by kernel_rfl) ⟨rfl, by decide, by decide⟩ ?F
    intro w mg fa h Y G hmg0
    obtain ⟨K, KX, c⟩ := Y
    have T := K15.top_ok KX G c
    have hmg : mg ("law" : PySem.Str) = some (.ref fa) := by
      have e : (HandSHeadRun.topDef (OpenLaw.row PySem.Challenge.rw_cutmakers_k15_floor_costs_judge).prog 29).name = ("law" : PySem.Str) := by kernel_rfl
      rw [← e]; exact hmg0
    obtain ⟨f0, fd, h0, F⟩ := id T.F_law
    have ef : f0 = fa := by
      have := h0.symm.trans hmg
      cases this; rfl
    subst ef
    have b := FunD.bindsA (ps := ["script"]) F fun _ _ _ _ _ _ us hl => match us, hl with | [_], _ => rfl
    refine ⟨K, fd, K15.R_law, KX, fun s u => b s [u] rfl, fun ns _ _ => ⟨ns, rfl, rfl⟩, fun base kb gb dg => ?_⟩
    exact fng_data F K15.sc_law (by rintro _ _ ⟨_, rfl, _⟩; rfl) dg (fun cdv A outer s H E pl => K15.b_law T dg pl)
