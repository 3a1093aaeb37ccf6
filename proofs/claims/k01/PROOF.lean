import PyProof.Rows.All
import Wide.All
import OpenK.AllK
import Wide.FinOn
import HandS.ForMost
import HandS.ForExc
import HandS.Wide
import HandS.IsInst
import HandS.Gcd
import HandS.Zip
import HandS.TupAny
import HandS.Defaults
import PyProof.ReprRoads
import HandS.EndBits
import HandS.Head3
import HandS.HeadEnd
import HandS.HeadHook2
import PySem.Challenge.RW_cutmakers_k01_parts_and_marks
set_option Elab.async false
set_option linter.all false
set_option maxRecDepth 100000
set_option maxHeartbeats 2000000
/-! Data upon the hand layer: values told as plain data, the state as data by slot -/
namespace Dat
open PySem L2

/-- plain data; sq true: a tuple, sq false: a list -/
inductive Dt where
  | non | bl (b : Bool) | int (i : Int) | str (x : Str)
  | sq (t : Bool) (ds : List Dt)
  | obj (C : Addr) (fs : List (Str × Dt))
  | scr (ns : List Int)
  | ty (n : String) | cls (C : Addr)

def Sq (K : PySem.W.Frag) (H : Hp) (t : Bool) (a : Addr) (xs : List V) : Prop := match t with
  | true => SqT K H a xs
  | false => H a = some (.lst xs)

def Ex (H H' : Hp) : Prop := ∀ a o, H a = some o → H' a = some o
theorem Ex.refl (H : Hp) : Ex H H := fun _ _ h => h
theorem Ex.trans {H H1 H2 : Hp} (a : Ex H H1) (b : Ex H1 H2) : Ex H H2 := fun x o h => b x o (a x o h)
theorem Ex.new {H : Hp} {p : Addr} {o : HO} (h : H p = none) : Ex H (upd H p o) := fun a u e => by
  rw [upd_ne (ne_of_none e h)]; exact e
theorem Ex.free {H H' : Hp} (e : Ex H H') {p : Addr} (h : H' p = none) : H p = none := by
  cases h1 : H p with
  | none => rfl
  | some o => rw [e p o h1] at h; cases h
theorem Ex.rd {H H' : Hp} {a : Addr} {u : HO} (e : Ex H H') (h : Rd H a u) : Rd H' a u := by
  rcases h with h | ⟨o, h⟩
  · exact .inl (e a _ h)
  · exact .inr ⟨o, e a _ h⟩
theorem Ex.sqL {K : PySem.W.Frag} {H H' : Hp} {a : Addr} {xs : List V} (e : Ex H H') (h : SqL K H a xs) : SqL K H' a xs := by
  rcases h with h | h
  · exact .inl (e.rd h)
  · exact .inr h
theorem Ex.sqT {K : PySem.W.Frag} {H H' : Hp} {a : Addr} {xs : List V} (e : Ex H H') (h : SqT K H a xs) : SqT K H' a xs := by
  rcases h with h | h
  · exact .inl (e.rd h)
  · exact .inr h
theorem Ex.sq {K : PySem.W.Frag} {H H' : Hp} {t : Bool} {a : Addr} {xs : List V} (e : Ex H H') (h : Sq K H t a xs) : Sq K H' t a xs := by
  cases t with
  | true => exact e.sqT h
  | false => exact e _ _ h

/-- the heap without the addresses M -/
def hid (M : List Addr) (H : Hp) : Hp := fun a => if a ∈ M then none else H a
theorem hid_nil (H : Hp) : hid [] H = H := by funext a; simp [hid]
theorem hid_le (M : List Addr) (H : Hp) : Ex (hid M H) H := fun a o h => by
  unfold hid at h; split at h
  · cases h
  · exact h
theorem hid_sub {M M' : List Addr} (H : Hp) (h : ∀ p, p ∈ M' → p ∈ M) : Ex (hid M H) (hid M' H) := fun a o e => by
  unfold hid at e ⊢; split at e
  · cases e
  · rename_i n; rw [if_neg (fun z => n (h _ z))]; exact e
theorem hid_ex {M : List Addr} {H H' : Hp} (h : Ex H H') : Ex (hid M H) (hid M H') := fun a o e => by
  unfold hid at e ⊢; split at e
  · cases e
  · rename_i n; rw [if_neg n]; exact h a o e
theorem hid_in {M : List Addr} {H : Hp} {a : Addr} (h : a ∈ M) : hid M H a = none := if_pos h
theorem hid_out {M : List Addr} {H : Hp} {a : Addr} (h : a ∉ M) : hid M H a = H a := if_neg h
theorem hid_upd {M : List Addr} {H : Hp} {a : Addr} {o : HO} (h : a ∈ M) : hid M (upd H a o) = hid M H := by
  funext b
  by_cases hb : b ∈ M
  · rw [hid_in hb, hid_in hb]
  · rw [hid_out hb, hid_out hb, upd_ne (fun e => hb (by rw [e]; exact h))]

section
variable (K : PySem.W.Frag)
mutual
/-- the value v is the data d in H -/
def Is (H : Hp) : Dt → V → Prop
  | .non, v => v = .non
  | .bl b, v => v = .bl b
  | .int i, v => v = .int i
  | .str x, v => v = .str x
  | .sq t ds, v => ∃ a xs, v = .ref a ∧ Sq K H t a xs ∧ IsAll H ds xs
  | .obj C fs, v => ∃ a dx vs, v = .ref a ∧ H a = some (.ins C dx vs) ∧ IsFs H fs vs
  | .scr ns, v => ∃ a, v = .ref a ∧ SqL K H a (ns.map V.int)
  | .ty n, v => v = .ty n
  | .cls C, v => v = .ref C
def IsAll (H : Hp) : List Dt → List V → Prop
  | [], xs => xs = []
  | d :: ds, xs => ∃ x ys, xs = x :: ys ∧ Is H d x ∧ IsAll H ds ys
def IsFs (H : Hp) : List (Str × Dt) → List (Str × V) → Prop
  | [], xs => xs = []
  | (k, d) :: ds, xs => ∃ x ys, xs = (k, x) :: ys ∧ Is H d x ∧ IsFs H ds ys
end
end
section
variable {K : PySem.W.Frag} {H H' : Hp}
mutual
theorem Is.mono (e : Ex H H') : ∀ {d : Dt} {v : V}, Is K H d v → Is K H' d v
  | .non, _, h => by simp only [Is] at h ⊢; exact h
  | .bl _, _, h => by simp only [Is] at h ⊢; exact h
  | .int _, _, h => by simp only [Is] at h ⊢; exact h
  | .str _, _, h => by simp only [Is] at h ⊢; exact h
  | .sq _ _, _, h => by
    simp only [Is] at h ⊢
    obtain ⟨a, xs, e1, h1, h2⟩ := h
    exact ⟨a, xs, e1, e.sq h1, IsAll.mono e h2⟩
  | .obj _ _, _, h => by
    simp only [Is] at h ⊢
    obtain ⟨a, dx, vs, e1, h1, h2⟩ := h
    exact ⟨a, dx, vs, e1, e _ _ h1, IsFs.mono e h2⟩
  | .scr _, _, h => by
    simp only [Is] at h ⊢
    obtain ⟨a, e1, h1⟩ := h
    exact ⟨a, e1, e.sqL h1⟩
  | .ty _, _, h => by simp only [Is] at h ⊢; exact h
  | .cls _, _, h => by simp only [Is] at h ⊢; exact h
theorem IsAll.mono (e : Ex H H') : ∀ {ds : List Dt} {xs : List V}, IsAll K H ds xs → IsAll K H' ds xs
  | [], _, h => by simp only [IsAll] at h ⊢; exact h
  | _ :: _, _, h => by
    simp only [IsAll] at h ⊢
    obtain ⟨x, ys, e1, h1, h2⟩ := h
    exact ⟨x, ys, e1, Is.mono e h1, IsAll.mono e h2⟩
theorem IsFs.mono (e : Ex H H') : ∀ {ds : List (Str × Dt)} {xs : List (Str × V)}, IsFs K H ds xs → IsFs K H' ds xs
  | [], _, h => by simp only [IsFs] at h ⊢; exact h
  | (_, _) :: _, _, h => by
    simp only [IsFs] at h ⊢
    obtain ⟨x, ys, e1, h1, h2⟩ := h
    exact ⟨x, ys, e1, Is.mono e h1, IsFs.mono e h2⟩
end
theorem IsAll.length : ∀ {ds : List Dt} {xs : List V}, IsAll K H ds xs → xs.length = ds.length
  | [], _, h => by simp only [IsAll] at h; subst h; rfl
  | d :: ds, _, h => by
    simp only [IsAll] at h
    obtain ⟨x, ys, e1, h1, h2⟩ := h
    subst e1; simp [h2.length]
theorem IsAll.get : ∀ {ds : List Dt} {xs : List V} {i : Nat} {d : Dt}, IsAll K H ds xs → ds[i]? = some d → ∃ x, xs[i]? = some x ∧ Is K H d x
  | [], _, _, _, _, e => by simp at e
  | c :: ds, _, 0, d, h, e => by
    simp only [IsAll] at h
    obtain ⟨x, ys, e1, h1, h2⟩ := h
    subst e1; simp at e; subst e; exact ⟨x, rfl, h1⟩
  | c :: ds, _, i + 1, d, h, e => by
    simp only [IsAll] at h
    obtain ⟨x, ys, e1, h1, h2⟩ := h
    subst e1
    obtain ⟨y, q1, q2⟩ := IsAll.get (i := i) (d := d) h2 (by simpa using e)
    exact ⟨y, by simpa using q1, q2⟩
theorem IsAll.back : ∀ {ds : List Dt} {xs : List V} {i : Nat} {x : V}, IsAll K H ds xs → xs[i]? = some x → ∃ d, ds[i]? = some d ∧ Is K H d x := fun {ds xs i x} h e => by
  have hl := h.length
  have hi : i < ds.length := by
    have := (List.getElem?_eq_some_iff.mp e).1
    omega
  obtain ⟨y, q1, q2⟩ := h.get (i := i) (d := ds[i]) (by simp [hi])
  rw [q1] at e; cases e
  exact ⟨ds[i], by simp [hi], q2⟩
theorem IsAll.append : ∀ {ds es : List Dt} {xs ys : List V}, IsAll K H ds xs → IsAll K H es ys → IsAll K H (ds ++ es) (xs ++ ys)
  | [], _, _, _, h, g => by simp only [IsAll] at h; subst h; simpa using g
  | d :: ds, es, _, ys, h, g => by
    simp only [IsAll] at h
    obtain ⟨x, zs, e1, h1, h2⟩ := h
    subst e1
    simp only [List.cons_append, IsAll]
    exact ⟨x, zs ++ ys, rfl, h1, IsAll.append h2 g⟩
theorem IsAll.one {d : Dt} {x : V} (h : Is K H d x) : IsAll K H [d] [x] := by
  simp only [IsAll]; exact ⟨x, [], rfl, h, rfl⟩
theorem IsAll.set {d : Dt} {x : V} (hd : Is K H d x) : ∀ {ds : List Dt} {xs : List V} (i : Nat), IsAll K H ds xs → IsAll K H (ds.set i d) (xs.set i x)
  | [], _, _, h => by simp only [IsAll] at h; subst h; simp [IsAll]
  | c :: ds, _, 0, h => by
    simp only [IsAll] at h
    obtain ⟨y, ys, e1, h1, h2⟩ := h
    subst e1
    simp only [List.set, IsAll]; exact ⟨x, ys, rfl, hd, h2⟩
  | c :: ds, _, i + 1, h => by
    simp only [IsAll] at h
    obtain ⟨y, ys, e1, h1, h2⟩ := h
    subst e1
    simp only [List.set, IsAll]; exact ⟨y, ys.set i x, rfl, h1, IsAll.set hd i h2⟩
theorem IsAll.take : ∀ {ds : List Dt} {xs : List V} (n : Nat), IsAll K H ds xs → IsAll K H (ds.take n) (xs.take n)
  | _, _, 0, _ => by simp [IsAll]
  | [], _, n + 1, h => by simp only [IsAll] at h; subst h; simp [IsAll]
  | c :: ds, _, n + 1, h => by
    simp only [IsAll] at h
    obtain ⟨y, ys, e1, h1, h2⟩ := h
    subst e1
    simp only [List.take_succ_cons, IsAll]; exact ⟨y, ys.take n, rfl, h1, IsAll.take n h2⟩
theorem IsAll.drop : ∀ {ds : List Dt} {xs : List V} (n : Nat), IsAll K H ds xs → IsAll K H (ds.drop n) (xs.drop n)
  | _, _, 0, h => by simpa using h
  | [], _, n + 1, h => by simp only [IsAll] at h; subst h; simp [IsAll]
  | c :: ds, _, n + 1, h => by
    simp only [IsAll] at h
    obtain ⟨y, ys, e1, h1, h2⟩ := h
    subst e1
    simpa using IsAll.drop n h2
theorem IsAll.intsX {ns : List Int} : IsAll K H (ns.map Dt.int) (ns.map V.int) := by
  induction ns with
  | nil => simp [IsAll]
  | cons n ns ih => simp only [List.map, IsAll]; exact ⟨_, _, rfl, by simp [Is], ih⟩
end
end Dat

set_option Elab.async false
set_option linter.all false
set_option maxRecDepth 100000
set_option maxHeartbeats 2000000
namespace Dat
open PySem L2

/-! ### the state by slot -/
inductive Slot where
  | no | sh (d : Dt) | ow (ds : List Dt)

structure SEnv (K : PySem.W.Frag) (S O : List Addr) (H : Hp) (σ : St) (δ : List Slot) : Prop where
  trk : ∀ p, p ∈ O ++ S → H p ≠ none
  dis : ∀ p, p ∈ O → p ∉ S
  len : σ.length = δ.length
  sh : ∀ (i : Nat) (d : Dt), δ[i]? = some (.sh d) → ∃ v, σ[i]? = some (some v) ∧ Is K (hid (O ++ S) H) d v
  ow : ∀ (i : Nat) (ds : List Dt), δ[i]? = some (.ow ds) → ∃ p xs, σ[i]? = some (some (.ref p)) ∧ p ∈ O ∧ H p = some (.lst xs) ∧ IsAll K (hid (O ++ S) H) ds xs
  inj : ∀ (i j : Nat) (ds es : List Dt) (p : Addr), δ[i]? = some (.ow ds) → δ[j]? = some (.ow es) → σ[i]? = some (some (.ref p)) → σ[j]? = some (some (.ref p)) → i = j

/-- from one state to a later one: what does not belong to a slot of its own stays -/
structure Step (S O : List Addr) (H : Hp) (O' : List Addr) (H' : Hp) : Prop where
  ex : Ex (hid (O ++ S) H) (hid (O' ++ S) H')
  hold : ∀ p, p ∈ S → H' p = H p
theorem Step.refl (S O : List Addr) (H : Hp) : Step S O H O H := ⟨Ex.refl _, fun _ _ => rfl⟩
theorem Step.trans {S O O1 O2 : List Addr} {H H1 H2 : Hp} (a : Step S O H O1 H1) (b : Step S O1 H1 O2 H2) : Step S O H O2 H2 :=
  ⟨a.ex.trans b.ex, fun p hp => (b.hold p hp).trans (a.hold p hp)⟩
theorem hold_of {M : List Addr} {H H' : Hp} (e : Ex H H') {p : Addr} (h : H p ≠ none) : H' p = H p := by
  cases q : H p with
  | none => exact absurd q h
  | some o => exact e p o q

section
variable {K : PySem.W.Frag} {S O O' : List Addr} {H H' : Hp} {σ σ' : St} {δ δ' : List Slot}
theorem SEnv.step (E : SEnv K S O H σ δ) (e : Ex H H') : Step S O H O H' :=
  ⟨hid_ex e, fun p hp => hold_of (M := []) e (E.trk p (List.mem_append_right _ hp))⟩
theorem SEnv.mono (E : SEnv K S O H σ δ) (e : Ex H H') : SEnv K S O H' σ δ where
  trk p hp z := by
    have h := E.trk p hp
    rw [← hold_of (M := []) e h] at h
    exact h z
  dis := E.dis
  len := E.len
  sh i d h := by
    obtain ⟨v, h1, h2⟩ := E.sh i d h
    exact ⟨v, h1, h2.mono (hid_ex e)⟩
  ow i ds h := by
    obtain ⟨p, xs, h1, h2, h3, h4⟩ := E.ow i ds h
    exact ⟨p, xs, h1, h2, e _ _ h3, h4.mono (hid_ex e)⟩
  inj := E.inj
theorem SEnv.fresh (E : SEnv K S O H σ δ) {p : Addr} (h : H p = none) : p ∉ O ++ S := fun z => E.trk p z h
theorem lt_of_get {α : Type} {l : List α} {i : Nat} {x : α} (h : l[i]? = some x) : i < l.length := (List.getElem?_eq_some_iff.mp h).1
theorem set_get {α : Type} {l : List α} {i j : Nat} {x y : α} (h : (l.set i x)[j]? = some y) : (i = j ∧ y = x) ∨ (i ≠ j ∧ l[j]? = some y) := by
  rw [List.getElem?_set] at h
  by_cases e : i = j
  · rw [if_pos e] at h
    split at h
    · cases h; exact .inl ⟨e, rfl⟩
    · cases h
  · rw [if_neg e] at h; exact .inr ⟨e, h⟩
/-- a slot that the data do not know -/
theorem SEnv.setNo (E : SEnv K S O H σ δ) (i : Nat) (x : Option V) : SEnv K S O H (σ.set i x) (δ.set i .no) where
  trk := E.trk
  dis := E.dis
  len := by rw [List.length_set, List.length_set]; exact E.len
  sh j d h := by
    rcases set_get h with ⟨_, h⟩ | ⟨n, h⟩
    · cases h
    · rw [List.getElem?_set, if_neg n]; exact E.sh j d h
  ow j ds h := by
    rcases set_get h with ⟨_, h⟩ | ⟨n, h⟩
    · cases h
    · rw [List.getElem?_set, if_neg n]; exact E.ow j ds h
  inj j k ds es p h1 h2 h3 h4 := by
    rcases set_get h1 with ⟨_, h1⟩ | ⟨n1, h1⟩
    · cases h1
    rcases set_get h2 with ⟨_, h2⟩ | ⟨n2, h2⟩
    · cases h2
    rw [List.getElem?_set, if_neg n1] at h3
    rw [List.getElem?_set, if_neg n2] at h4
    exact E.inj j k ds es p h1 h2 h3 h4
theorem SEnv.setSh (E : SEnv K S O H σ δ) (i : Nat) {d : Dt} {v : V} (hv : Is K (hid (O ++ S) H) d v) : SEnv K S O H (σ.set i (some v)) (δ.set i (.sh d)) where
  trk := E.trk
  dis := E.dis
  len := by rw [List.length_set, List.length_set]; exact E.len
  sh j c h := by
    have hj := lt_of_get h
    rw [List.length_set, ← E.len] at hj
    rcases set_get h with ⟨e, h⟩ | ⟨n, h⟩
    · cases h; subst e
      exact ⟨v, by rw [List.getElem?_set, if_pos rfl, if_pos hj], hv⟩
    · rw [List.getElem?_set, if_neg n]; exact E.sh j c h
  ow j ds h := by
    rcases set_get h with ⟨_, h⟩ | ⟨n, h⟩
    · cases h
    · rw [List.getElem?_set, if_neg n]; exact E.ow j ds h
  inj j k ds es p h1 h2 h3 h4 := by
    rcases set_get h1 with ⟨_, h1⟩ | ⟨n1, h1⟩
    · cases h1
    rcases set_get h2 with ⟨_, h2⟩ | ⟨n2, h2⟩
    · cases h2
    rw [List.getElem?_set, if_neg n1] at h3
    rw [List.getElem?_set, if_neg n2] at h4
    exact E.inj j k ds es p h1 h2 h3 h4
/-- a slot takes a list of its own: p was not there ahead -/
theorem SEnv.setOw (E : SEnv K S O H σ δ) (i : Nat) {p : Addr} {ds : List Dt} {xs : List V} (h0 : H p = none) (e : Ex H H') (hp : H' p = some (.lst xs)) (hx : IsAll K (hid (p :: O ++ S) H') ds xs) :
    SEnv K S (p :: O) H' (σ.set i (some (.ref p))) (δ.set i (.ow ds)) ∧ Step S O H (p :: O) H' := by
  have hf := E.fresh h0
  have hs : Ex (hid (O ++ S) H) (hid (p :: O ++ S) H') := fun a o q => by
    by_cases ha : a ∈ O ++ S
    · rw [hid_in ha] at q; cases q
    · rw [hid_out ha] at q
      have hap : a ≠ p := ne_of_none q h0
      have : a ∉ p :: O ++ S := by
        intro z
        rcases List.mem_cons.mp (show a ∈ p :: (O ++ S) from z) with z | z
        · exact hap z
        · exact ha z
      rw [hid_out this]; exact e a o q
  refine ⟨⟨fun q hq => ?_, fun q hq => ?_, by rw [List.length_set, List.length_set]; exact E.len, fun j c h => ?_, fun j es h => ?_, fun j k es fs q h1 h2 h3 h4 => ?_⟩, ⟨hs, fun q hq => hold_of (M := []) e (E.trk q (List.mem_append_right _ hq))⟩⟩
  · rcases List.mem_cons.mp (show q ∈ p :: (O ++ S) from hq) with z | z
    · rw [z, hp]; simp
    · have := E.trk q z
      rw [hold_of (M := []) e this]; exact this
  · rcases List.mem_cons.mp hq with z | z
    · rw [z]; exact fun y => hf (List.mem_append_right _ y)
    · exact E.dis q z
  · rcases set_get h with ⟨_, h⟩ | ⟨n, h⟩
    · cases h
    · obtain ⟨v, h1, h2⟩ := E.sh j c h
      exact ⟨v, by rw [List.getElem?_set, if_neg n]; exact h1, h2.mono hs⟩
  · have hj := lt_of_get h
    rw [List.length_set, ← E.len] at hj
    rcases set_get h with ⟨e1, h⟩ | ⟨n, h⟩
    · cases h; subst e1
      exact ⟨p, xs, by rw [List.getElem?_set, if_pos rfl, if_pos hj], List.mem_cons_self, hp, hx⟩
    · obtain ⟨q, ys, h1, h2, h3, h4⟩ := E.ow j es h
      exact ⟨q, ys, by rw [List.getElem?_set, if_neg n]; exact h1, List.mem_cons_of_mem _ h2, e _ _ h3, h4.mono hs⟩
  · have hj := lt_of_get h3
    have hk := lt_of_get h4
    rw [List.length_set] at hj hk
    rcases set_get h1 with ⟨e1, _⟩ | ⟨n1, h1⟩
    · rcases set_get h2 with ⟨e2, _⟩ | ⟨n2, h2⟩
      · rw [← e1, ← e2]
      · subst e1
        rw [List.getElem?_set, if_pos rfl, if_pos hj] at h3
        rw [List.getElem?_set, if_neg n2] at h4
        cases h3
        obtain ⟨q, ys, g1, g2, _⟩ := E.ow k fs h2
        rw [g1] at h4; cases h4
        exact absurd (List.mem_append_left _ g2) hf
    · rcases set_get h2 with ⟨e2, _⟩ | ⟨n2, h2⟩
      · subst e2
        rw [List.getElem?_set, if_pos rfl, if_pos hk] at h4
        rw [List.getElem?_set, if_neg n1] at h3
        cases h4
        obtain ⟨q, ys, g1, g2, _⟩ := E.ow j es h1
        rw [g1] at h3; cases h3
        exact absurd (List.mem_append_left _ g2) hf
      · rw [List.getElem?_set, if_neg n1] at h3
        rw [List.getElem?_set, if_neg n2] at h4
        exact E.inj j k es fs q h1 h2 h3 h4
/-- the own list of a slot is changed -/
theorem SEnv.putOw (E : SEnv K S O H σ δ) {i : Nat} {p : Addr} {ds es : List Dt} {ys : List V} (hi : δ[i]? = some (.ow ds)) (hp : σ[i]? = some (some (.ref p))) (hx : IsAll K (hid (O ++ S) H) es ys) :
    SEnv K S O (upd H p (.lst ys)) σ (δ.set i (.ow es)) ∧ Step S O H O (upd H p (.lst ys)) := by
  obtain ⟨q, xs, g1, g2, g3, g4⟩ := E.ow i ds hi
  obtain rfl : q = p := by rw [g1] at hp; cases hp; rfl
  have hm : q ∈ O ++ S := List.mem_append_left _ g2
  have hh : hid (O ++ S) (upd H q (.lst ys)) = hid (O ++ S) H := hid_upd hm
  refine ⟨⟨fun r hr => ?_, E.dis, by rw [List.length_set]; exact E.len, fun j c h => ?_, fun j fs h => ?_, fun j k fs gs r h1 h2 h3 h4 => ?_⟩, ⟨by rw [hh]; exact Ex.refl _, fun r hr => ?_⟩⟩
  · by_cases e : r = q
    · rw [e, upd_same]; simp
    · rw [upd_ne e]; exact E.trk r hr
  · rcases set_get h with ⟨_, h⟩ | ⟨n, h⟩
    · cases h
    · rw [hh]; exact E.sh j c h
  · rcases set_get h with ⟨e1, h⟩ | ⟨n, h⟩
    · cases h; subst e1
      exact ⟨q, ys, g1, g2, upd_same, by rw [hh]; exact hx⟩
    · obtain ⟨r, zs, k1, k2, k3, k4⟩ := E.ow j fs h
      have hr : r ≠ q := fun z => by
        subst z
        exact n (E.inj i j _ _ _ hi h g1 k1)
      exact ⟨r, zs, k1, k2, by rw [upd_ne hr]; exact k3, by rw [hh]; exact k4⟩
  · have old : ∀ (k : Nat) (fs : List Dt), (δ.set i (.ow es))[k]? = some (.ow fs) → ∃ gs, δ[k]? = some (.ow gs) := fun k fs h => by
      rcases set_get h with ⟨e1, _⟩ | ⟨_, h⟩
      · exact ⟨ds, by rw [← e1]; exact hi⟩
      · exact ⟨fs, h⟩
    obtain ⟨fs', h1'⟩ := old j fs h1
    obtain ⟨gs', h2'⟩ := old k gs h2
    exact E.inj j k fs' gs' r h1' h2' h3 h4
  · have : r ≠ q := fun z => E.dis q g2 (by rw [← z]; exact hr)
    rw [upd_ne this]
/-- an own list becomes plain data -/
theorem SEnv.freeze (E : SEnv K S O H σ δ) {i : Nat} {ds : List Dt} (hi : δ[i]? = some (.ow ds)) : ∃ O', SEnv K S O' H σ (δ.set i (.sh (.sq false ds))) ∧ Step S O H O' H ∧ ∀ p, p ∈ O' → p ∈ O := by
  obtain ⟨q, xs, g1, g2, g3, g4⟩ := E.ow i ds hi
  have sub : ∀ p, p ∈ (O.filter fun p => decide (p ≠ q)) ++ S → p ∈ O ++ S := fun p hp => by
    rcases List.mem_append.mp hp with z | z
    · exact List.mem_append_left _ (List.mem_filter.mp z).1
    · exact List.mem_append_right _ z
  have ex := hid_sub H sub
  have hq : q ∉ (O.filter fun p => decide (p ≠ q)) ++ S := fun z => by
    rcases List.mem_append.mp z with z | z
    · have := (List.mem_filter.mp z).2; simp at this
    · exact E.dis q g2 z
  refine ⟨O.filter fun p => decide (p ≠ q), ⟨fun p hp => E.trk p (sub p hp), fun p hp => E.dis p (List.mem_filter.mp hp).1, by rw [List.length_set]; exact E.len, fun j c h => ?_, fun j fs h => ?_, fun j k fs gs r h1 h2 h3 h4 => ?_⟩, ⟨ex, fun _ _ => rfl⟩, fun p hp => (List.mem_filter.mp hp).1⟩
  · rcases set_get h with ⟨e1, h⟩ | ⟨n, h⟩
    · cases h; subst e1
      refine ⟨.ref q, g1, ?_⟩
      simp only [Is]
      exact ⟨q, xs, rfl, by show hid _ H q = _; rw [hid_out hq]; exact g3, g4.mono ex⟩
    · obtain ⟨v, h1, h2⟩ := E.sh j c h
      exact ⟨v, h1, h2.mono ex⟩
  · rcases set_get h with ⟨_, h⟩ | ⟨n, h⟩
    · cases h
    · obtain ⟨r, zs, k1, k2, k3, k4⟩ := E.ow j fs h
      have hr : r ≠ q := fun z => by
        subst z
        exact n (E.inj i j _ _ _ hi h g1 k1)
      exact ⟨r, zs, k1, List.mem_filter.mpr ⟨k2, by simpa using hr⟩, k3, k4.mono ex⟩
  · rcases set_get h1 with ⟨_, h1⟩ | ⟨_, h1⟩
    · cases h1
    rcases set_get h2 with ⟨_, h2⟩ | ⟨_, h2⟩
    · cases h2
    exact E.inj j k fs gs r h1 h2 h3 h4
/-- less is known of the slots -/
theorem SEnv.weak (E : SEnv K S O H σ δ) (hl : δ'.length = δ.length) (h : ∀ (i : Nat) (x : Slot), δ'[i]? = some x → x = .no ∨ δ[i]? = some x) : SEnv K S O H σ δ' where
  trk := E.trk
  dis := E.dis
  len := by rw [hl]; exact E.len
  sh i d q := by
    rcases h i _ q with z | z
    · cases z
    · exact E.sh i d z
  ow i ds q := by
    rcases h i _ q with z | z
    · cases z
    · exact E.ow i ds z
  inj i j ds es p h1 h2 h3 h4 := by
    rcases h i _ h1 with z | z
    · cases z
    rcases h j _ h2 with y | y
    · cases y
    exact E.inj i j ds es p z y h3 h4
end
end Dat

set_option Elab.async false
set_option linter.all false
set_option maxRecDepth 100000
set_option maxHeartbeats 2000000
namespace Dat
open PySem L2

/-! ### what an expression is worth -/
/-- what is known of the place where code runs -/
structure Plc (X : Cx) (k : Nat) : Prop where
  room : Room k X.A
  calm : X.calm = true
  gds : X.A.guards = some []
  own : PassesOwn (model X.prog X.w) X.A X.env X.xe
  nd : X.N.Nodup
  dig : X.base.NoDigits

def tD (K : PySem.W.Frag) (δ : List Slot) (d : Dt) : TE := fun σ H Q => ∃ S O, SEnv K S O H σ δ ∧ ∀ v H', Ex H H' → Is K (hid (O ++ S) H') d v → Q v H'
def tDT (K : PySem.W.Frag) (δ : List Slot) (b : Bool) : TT := fun σ H Q => ∃ S O, SEnv K S O H σ δ ∧ ∀ H', Ex H H' → Q b H'
def tDA (K : PySem.W.Frag) (δ : List Slot) (ds : List Dt) : TA := fun σ H Q => ∃ S O, SEnv K S O H σ δ ∧ ∀ vs H', Ex H H' → IsAll K (hid (O ++ S) H') ds vs → Q vs H'
def tDO (K : PySem.W.Frag) (δ : List Slot) (o : Option Int) : TO := fun σ H Q => ∃ S O, SEnv K S O H σ δ ∧ ∀ H', Ex H H' → Q o H'
abbrev DE (X : Cx) (δ : List Slot) (e : Expr) (d : Dt) : Prop := PE X e (tD X.K δ d)
abbrev DT (X : Cx) (δ : List Slot) (e : Expr) (b : Bool) : Prop := PT X e (tDT X.K δ b)
abbrev DW (X : Cx) (δ : List Slot) (e : Expr) (b : Bool) : Prop := PW X e (tDT X.K δ b)
abbrev DA (X : Cx) (δ : List Slot) (es : List Expr) (ds : List Dt) : Prop := PA X es (tDA X.K δ ds)
abbrev DO (X : Cx) (δ : List Slot) (e : Option Expr) (o : Option Int) : Prop := PO X e (tDO X.K δ o)

section
variable {X : Cx} {δ : List Slot} {e a b c : Expr} {es : List Expr} {da db dc d : Dt} {ds : List Dt} {pos p : Pos} {x : Str}
theorem imE {t t' : TE} (h : PE X e t) (hi : ∀ σ H Q, t' σ H Q → t σ H Q) : PE X e t' := ⟨fun pins s σ H Q I q => h.run pins s σ H Q I (hi _ _ _ q)⟩
theorem imT {t t' : TT} (h : PT X e t) (hi : ∀ σ H Q, t' σ H Q → t σ H Q) : PT X e t' := ⟨fun pins s σ H Q I q => h.run pins s σ H Q I (hi _ _ _ q)⟩
theorem imW {t t' : TT} (h : PW X e t) (hi : ∀ σ H Q, t' σ H Q → t σ H Q) : PW X e t' := ⟨fun w pins s σ H Q I q => h.run w pins s σ H Q I (hi _ _ _ q)⟩
theorem imA {t t' : TA} (h : PA X es t) (hi : ∀ σ H Q, t' σ H Q → t σ H Q) : PA X es t' := ⟨fun ps pins s σ H Q I q => h.run ps pins s σ H Q I (hi _ _ _ q)⟩
theorem imO {o : Option Expr} {t t' : TO} (h : PO X o t) (hi : ∀ σ H Q, t' σ H Q → t σ H Q) : PO X o t' := ⟨fun pins s σ H Q I q => h.run pins s σ H Q I (hi _ _ _ q)⟩

theorem de_eq (h : DE X δ e d) {d' : Dt} (q : d = d') : DE X δ e d' := q ▸ h
theorem dt_eq {b b' : Bool} (h : DT X δ e b) (q : b = b') : DT X δ e b' := q ▸ h

theorem de_var (i : Nat) (hN : X.N[i]? = some x) (hv : Vis X.env.scope x) (hs : δ[i]? = some (.sh d))
    (hd : (x == ("__debug__" : Str)) = false := by decide) (hcd : (x == ("__classdict__" : Str)) = false := by decide) : DE X δ (.Name x pos) d :=
  imE (pe_var hN hv hd hcd) fun σ H Q ⟨S, O, E, k⟩ => by
    obtain ⟨v, h1, h2⟩ := E.sh i d hs
    exact ⟨v, h1, k v H (Ex.refl H) h2⟩
theorem de_int {i : Int} {j} : DE X δ (.Constant (.int i) j pos) (.int i) := imE pe_int fun σ H Q ⟨S, O, E, k⟩ => k _ H (Ex.refl H) (by simp [Is])
theorem de_bl {i : Bool} {j} : DE X δ (.Constant (.bool i) j pos) (.bl i) := imE pe_bl fun σ H Q ⟨S, O, E, k⟩ => k _ H (Ex.refl H) (by simp [Is])
theorem de_non {j} : DE X δ (.Constant .none j pos) .non := imE pe_non fun σ H Q ⟨S, O, E, k⟩ => k _ H (Ex.refl H) (by simp [Is])
theorem de_str {i : Str} {j} : DE X δ (.Constant (.str i) j pos) (.str i) := imE pe_str fun σ H Q ⟨S, O, E, k⟩ => k _ H (Ex.refl H) (by simp [Is])

/-- a two-place operation upon data -/
def RD (K : PySem.W.Frag) (r : R2) (da db dc : Dt) : Prop :=
  ∀ (M : List Addr) (H : Hp) (x y : V) (Q : VK), (∀ p, p ∈ M → H p ≠ none) → Is K (hid M H) da x → Is K (hid M H) db y → (∀ z H', Ex H H' → Is K (hid M H') dc z → Q z H') → r x y H Q
theorem RD.inl {K : PySem.W.Frag} {r r' : R2} (h : RD K r da db dc) : RD K (fun x y H Q => r x y H Q ∨ r' x y H Q) da db dc := fun M H x y Q t h1 h2 k => .inl (h M H x y Q t h1 h2 k)
theorem RD.inr {K : PySem.W.Frag} {r r' : R2} (h : RD K r' da db dc) : RD K (fun x y H Q => r x y H Q ∨ r' x y H Q) da db dc := fun M H x y Q t h1 h2 k => .inr (h M H x y Q t h1 h2 k)
theorem tOp_of {K : PySem.W.Frag} {r : R2} (hr : RD K r da db dc) (σ : L2.St) (H : Hp) (Q : VK) (h : tD K δ dc σ H Q) : tOp r (tD K δ da) (tD K δ db) σ H Q := by
  obtain ⟨S, O, E, k⟩ := h
  refine ⟨S, O, E, fun v H1 e1 i1 => ⟨S, O, E.mono e1, fun w H2 e2 i2 => ?_⟩⟩
  exact hr (O ++ S) H2 v w Q ((E.mono e1).mono e2).trk (i1.mono (hid_ex e2)) i2 fun z H' e3 i3 => k z H' ((e1.trans e2).trans e3) i3
theorem de_bin {op : Operator} {r : R2} (ha : DE X δ a da) (hb : DE X δ b db) (ho : OpR X (binaryOp op) r) (hr : RD X.K r da db dc) : DE X δ (.BinOp a op b pos) dc := imE (pe_op ho ha hb) (tOp_of hr)
theorem de_cmp {op : CmpOp} {r : R2} (ha : DE X δ a da) (hb : DE X δ b db) (ho : OpR X (compareOp op) r) (hm : behindInMarks op b = false) (hr : RD X.K r da db dc) : DE X δ (.Compare a [op] [b] pos) dc := imE (pe_cmpR ho ha hb hm) (tOp_of hr)
theorem de_ix0 {r : R2} (ha : DE X δ a da) (hb : DE X δ b db) (ho : IxR X r) (hs : PlainIx b) (hr : RD X.K r da db dc) : DE X δ (.Subscript a b pos) dc := imE (pe_ix ho ha hb hs) (tOp_of hr)
theorem dt_cmp {op : CmpOp} {r : R2} {k : Bool} (ha : DE X δ a da) (hb : DE X δ b db) (ho : OpR X (compareOp op) r) (hm : behindInMarks op b = false) (hr : RD X.K r da db (.bl k)) : DT X δ (.Compare a [op] [b] pos) k :=
  imT (pt_cmpR ho ha hb hm) fun σ H Q ⟨S, O, E, q⟩ => tOp_of hr σ H _ ⟨S, O, E, fun v H' e i => by
    simp only [Is] at i
    exact ⟨k, i, q H' e⟩⟩

/-- a one-place operation -/
def RU (K : PySem.W.Frag) (r : V → Hp → VK → Prop) (da dc : Dt) : Prop :=
  ∀ (M : List Addr) (H : Hp) (x : V) (Q : VK), (∀ p, p ∈ M → H p ≠ none) → Is K (hid M H) da x → (∀ z H', Ex H H' → Is K (hid M H') dc z → Q z H') → r x H Q
/-- a call of a built-in upon data -/
def RC (K : PySem.W.Frag) (r : List V → Hp → VK → Prop) (ds : List Dt) (dc : Dt) : Prop :=
  ∀ (M : List Addr) (H : Hp) (xs : List V) (Q : VK), (∀ p, p ∈ M → H p ≠ none) → IsAll K (hid M H) ds xs → (∀ z H', Ex H H' → Is K (hid M H') dc z → Q z H') → r xs H Q
theorem tCB_of {K : PySem.W.Frag} {r : List V → Hp → VK → Prop} (hr : RC K r ds dc) (σ : L2.St) (H : Hp) (Q : VK) (h : tD K δ dc σ H Q) : tCB r (tDA K δ ds) σ H Q := by
  obtain ⟨S, O, E, k⟩ := h
  exact ⟨S, O, E, fun vs H1 e1 i1 => hr (O ++ S) H1 vs Q (E.mono e1).trk i1 fun z H' e3 i3 => k z H' (e1.trans e3) i3⟩
theorem de_un {op : UnaryOp} {r : V → Hp → VK → Prop} (ha : DE X δ a da) (ho : UnR X (unaryOp op) r) (hr : RU X.K r da dc) : DE X δ (.UnaryOp op a pos) dc :=
  imE (pe_un ho ha) fun σ H Q ⟨S, O, E, k⟩ => ⟨S, O, E, fun v H1 e1 i1 => hr (O ++ S) H1 v Q (E.mono e1).trk i1 fun z H' e3 i3 => k z H' (e1.trans e3) i3⟩

/-! ### lists of expressions -/
theorem da_nil : DA X δ [] [] := imA pa_nil fun σ H Q ⟨S, O, E, k⟩ => k [] H (Ex.refl H) (by simp [IsAll])
theorem da_cons (ha : DE X δ a d) (hr : DA X δ es ds) (hs : starEach (a :: es) X.env = (false, eval a X.env) :: starEach es X.env := by rfl) : DA X δ (a :: es) (d :: ds) :=
  imA (pa_cons ha hr hs) fun σ H Q ⟨S, O, E, k⟩ => ⟨S, O, E, fun v H1 e1 i1 => ⟨S, O, E.mono e1, fun vs H2 e2 i2 => k (v :: vs) H2 (e1.trans e2) (by
    simp only [IsAll]; exact ⟨v, vs, rfl, i1.mono (hid_ex e2), i2⟩)⟩⟩
theorem fresh_is {K : PySem.W.Frag} {M : List Addr} {H : Hp} {p : Addr} {t : Bool} {ds : List Dt} {xs : List V} (hM : ∀ p, p ∈ M → H p ≠ none) (hp : H p = none) (h : IsAll K (hid M H) ds xs) :
    Is K (hid M (upd H p (if t then .tup xs else .lst xs))) (.sq t ds) (.ref p) := by
  have hm : p ∉ M := fun z => hM p z hp
  simp only [Is]
  refine ⟨p, xs, rfl, ?_, h.mono (hid_ex (Ex.new hp))⟩
  cases t with
  | true => exact .inl (.inl (by rw [hid_out hm]; exact upd_same))
  | false => show hid M _ p = _; rw [hid_out hm]; exact upd_same
theorem de_tup {x1} (h : DA X δ es ds) (hl : ds.length ≤ sizeLine := by show _ ≤ 16777216; simp) : DE X δ (.Tuple es x1 pos) (.sq true ds) :=
  imE (pe_tup h) fun σ H Q ⟨S, O, E, k⟩ => ⟨S, O, E, fun vs H1 e1 i1 => ⟨by rw [i1.length]; exact hl, fun p hp => k _ _ (e1.trans (Ex.new hp)) (fresh_is (t := true) (E.mono e1).trk hp i1)⟩⟩
theorem de_lst (h : DA X δ es ds) (hl : ds.length ≤ sizeLine := by show _ ≤ 16777216; simp) : DE X δ (.List es pos) (.sq false ds) :=
  imE (pe_lst h) fun σ H Q ⟨S, O, E, k⟩ => ⟨S, O, E, fun vs H1 e1 i1 => ⟨by rw [i1.length]; exact hl, fun p hp => k _ _ (e1.trans (Ex.new hp)) (fresh_is (t := false) (E.mono e1).trk hp i1)⟩⟩

/-! ### tests -/
theorem dt_val {k : Bool} (h : DE X δ e (.bl k)) (he : ∀ whole, isTrue e X.env whole = (do let v ← whole; standAt e.pos; holding [v] (truthy v)) := by intro _; rfl) : DT X δ e k :=
  imT (pt_val h he) fun σ H Q ⟨S, O, E, q⟩ => ⟨S, O, E, fun v H' e i => by
    simp only [Is] at i
    exact ⟨k, i, q H' e⟩⟩
theorem dt_not {k : Bool} (h : DT X δ a k) : DT X δ (.UnaryOp .Not a pos) (!k) :=
  imT (pt_not h) fun σ H Q ⟨S, O, E, q⟩ => ⟨S, O, E, fun H' e => q H' e⟩
theorem never_W {t : TT} (h : ∀ σ H Q, ¬ t σ H Q) : PW X e t := ⟨fun _ _ _ _ _ _ _ z => (h _ _ _ z).elim⟩
theorem dw_and1 {k : Bool} (h : DT X δ a k) : DW X δ (.BoolOp .And [a] pos) k := pw_and1 h
theorem dw_or1 {k : Bool} (h : DT X δ a k) : DW X δ (.BoolOp .Or [a] pos) k := pw_or1 h
theorem dw_and {k j : Bool} {rest : List Expr} (ha : DT X δ a k) (hb : k = true → DW X δ (.BoolOp .And (b :: rest) pos) j) : DW X δ (.BoolOp .And (a :: b :: rest) pos) (k && j) := by
  cases k with
  | true => exact imW (pw_and ha (hb rfl)) fun σ H Q ⟨S, O, E, q⟩ => ⟨S, O, E, fun H1 e1 => by
      dsimp only; rw [if_pos rfl]; exact ⟨S, O, E.mono e1, fun H2 e2 => q H2 (e1.trans e2)⟩⟩
  | false => exact imW (pw_and (tB' := fun _ _ _ => False) ha (never_W fun _ _ _ z => z)) fun σ H Q ⟨S, O, E, q⟩ => ⟨S, O, E, fun H1 e1 => by
      dsimp only; rw [if_neg Bool.false_ne_true]; exact q H1 e1⟩
theorem dw_or {k j : Bool} {rest : List Expr} (ha : DT X δ a k) (hb : k = false → DW X δ (.BoolOp .Or (b :: rest) pos) j) : DW X δ (.BoolOp .Or (a :: b :: rest) pos) (k || j) := by
  cases k with
  | false => exact imW (pw_or ha (hb rfl)) fun σ H Q ⟨S, O, E, q⟩ => ⟨S, O, E, fun H1 e1 => by
      dsimp only; rw [if_neg Bool.false_ne_true]; exact ⟨S, O, E.mono e1, fun H2 e2 => q H2 (e1.trans e2)⟩⟩
  | true => exact imW (pw_or (tB' := fun _ _ _ => False) ha (never_W fun _ _ _ z => z)) fun σ H Q ⟨S, O, E, q⟩ => ⟨S, O, E, fun H1 e1 => by
      dsimp only; rw [if_pos rfl]; exact q H1 e1⟩
theorem dt_w {k : Bool} (h : DW X δ e k) : DT X δ e k := h.pt
theorem de_not {k : Bool} (h : DE X δ a (.bl k)) : DE X δ (.UnaryOp .Not a pos) (.bl (!k)) :=
  imE (pe_not h) fun σ H Q ⟨S, O, E, q⟩ => ⟨S, O, E, fun v H' e i => by
    simp only [Is] at i
    exact ⟨k, i, q _ H' e (by simp [Is])⟩⟩
theorem never_E {t : TE} (h : ∀ σ H Q, ¬ t σ H Q) : PE X e t := ⟨fun _ _ _ _ _ _ z => (h _ _ _ z).elim⟩
theorem de_one {op} (h : DE X δ a d) : DE X δ (.BoolOp op [a] pos) d := pe_one h
theorem de_and {k : Bool} {d : Dt} {rest : List Expr} (ha : DE X δ a (.bl k)) (hb : k = true → DE X δ (.BoolOp .And (b :: rest) pos) d) (hd : k = false → d = .bl false) : DE X δ (.BoolOp .And (a :: b :: rest) pos) d := by
  cases k with
  | true => exact imE (pe_and ha (hb rfl)) fun σ H Q ⟨S, O, E, q⟩ => ⟨S, O, E, fun v H1 e1 i => by
      simp only [Is] at i
      exact ⟨true, i, by rw [if_pos rfl]; exact ⟨S, O, E.mono e1, fun w H2 e2 => q w H2 (e1.trans e2)⟩⟩⟩
  | false => exact imE (pe_and (tb := fun _ _ _ => False) ha (never_E fun _ _ _ z => z)) fun σ H Q ⟨S, O, E, q⟩ => ⟨S, O, E, fun v H1 e1 i => by
      simp only [Is] at i
      exact ⟨false, i, by rw [if_neg Bool.false_ne_true]; exact q _ H1 e1 (by rw [hd rfl]; simp [Is])⟩⟩
theorem de_or {k : Bool} {d : Dt} {rest : List Expr} (ha : DE X δ a (.bl k)) (hb : k = false → DE X δ (.BoolOp .Or (b :: rest) pos) d) (hd : k = true → d = .bl true) : DE X δ (.BoolOp .Or (a :: b :: rest) pos) d := by
  cases k with
  | false => exact imE (pe_or ha (hb rfl)) fun σ H Q ⟨S, O, E, q⟩ => ⟨S, O, E, fun v H1 e1 i => by
      simp only [Is] at i
      exact ⟨false, i, by rw [if_neg Bool.false_ne_true]; exact ⟨S, O, E.mono e1, fun w H2 e2 => q w H2 (e1.trans e2)⟩⟩⟩
  | true => exact imE (pe_or (tb := fun _ _ _ => False) ha (never_E fun _ _ _ z => z)) fun σ H Q ⟨S, O, E, q⟩ => ⟨S, O, E, fun v H1 e1 i => by
      simp only [Is] at i
      exact ⟨true, i, by rw [if_pos rfl]; exact q _ H1 e1 (by rw [hd rfl]; simp [Is])⟩⟩
/-- and, or of tests by their joint answer -/
theorem de_andB {k j : Bool} {rest : List Expr} (ha : DE X δ a (.bl k)) (hb : k = true → DE X δ (.BoolOp .And (b :: rest) pos) (.bl j)) : DE X δ (.BoolOp .And (a :: b :: rest) pos) (.bl (k && j)) :=
  de_and ha (fun h => by subst h; exact hb rfl) fun h => by subst h; rfl
theorem de_orB {k j : Bool} {rest : List Expr} (ha : DE X δ a (.bl k)) (hb : k = false → DE X δ (.BoolOp .Or (b :: rest) pos) (.bl j)) : DE X δ (.BoolOp .Or (a :: b :: rest) pos) (.bl (k || j)) :=
  de_or ha (fun h => by subst h; exact hb rfl) fun h => by subst h; rfl
theorem de_ife {k : Bool} (hc : DT X δ c k) (ha : k = true → DE X δ a d) (hb : k = false → DE X δ b d) : DE X δ (.IfExp c a b pos) d := by
  cases k with
  | true => exact imE (pe_ifExp (tb := fun _ _ _ => False) hc (ha rfl) (never_E fun _ _ _ z => z)) fun σ H Q ⟨S, O, E, q⟩ => ⟨S, O, E, fun H1 e1 => by
      dsimp only; rw [if_pos rfl]; exact ⟨S, O, E.mono e1, fun w H2 e2 => q w H2 (e1.trans e2)⟩⟩
  | false => exact imE (pe_ifExp (ta := fun _ _ _ => False) hc (never_E fun _ _ _ z => z) (hb rfl)) fun σ H Q ⟨S, O, E, q⟩ => ⟨S, O, E, fun H1 e1 => by
      dsimp only; rw [if_neg Bool.false_ne_true]; exact ⟨S, O, E.mono e1, fun w H2 e2 => q w H2 (e1.trans e2)⟩⟩
end
end Dat

set_option Elab.async false
set_option linter.all false
set_option maxRecDepth 100000
set_option maxHeartbeats 2000000
namespace Dat
open PySem L2

/-! ### operators by data -/
section
variable {K : PySem.W.Frag} {X : Cx} {δ : List Slot}
theorem is_int {H : Hp} {i : Int} : Is K H (.int i) (.int i) := by simp [Is]
theorem is_bl {H : Hp} {i : Bool} : Is K H (.bl i) (.bl i) := by simp [Is]
theorem is_str {H : Hp} {i : Str} : Is K H (.str i) (.str i) := by simp [Is]
theorem rd_I0 {g : Int → Int → Int} {i j : Int} : RD K (rI0 fun i j => .int (g i j)) (.int i) (.int j) (.int (g i j)) := fun M H x y Q t h1 h2 k => by
  simp only [Is] at h1 h2
  exact ⟨i, j, h1, h2, k _ H (Ex.refl H) is_int⟩
theorem rd_I {C : Int → Int → Prop} {g : Int → Int → Int} {i j : Int} (hc : C i j) : RD K (rI C fun i j => .int (g i j)) (.int i) (.int j) (.int (g i j)) := fun M H x y Q t h1 h2 k => by
  simp only [Is] at h1 h2
  exact ⟨i, j, h1, h2, hc, k _ H (Ex.refl H) is_int⟩
theorem rd_B0 {g : Int → Int → Bool} {i j : Int} : RD K (rI0 fun i j => .bl (g i j)) (.int i) (.int j) (.bl (g i j)) := fun M H x y Q t h1 h2 k => by
  simp only [Is] at h1 h2
  exact ⟨i, j, h1, h2, k _ H (Ex.refl H) is_bl⟩

/-! a + b -/
def rAddU (K : PySem.W.Frag) : R2 := fun x y H Q => rI0 (fun i j => .int (i + j)) x y H Q ∨ ((∃ i j, x = .str i ∧ y = .str j ∧ i.length + j.length ≤ sizeLine ∧ Q (.str (i ++ j)) H) ∨ (rCat x y H Q ∨ rCatA K x y H Q))
theorem op_addU : OpR X (binaryOp .Add) (rAddU X.K) := op_add.or (op_add_str.or (op_cat.or op_catA))
def addD : Dt → Dt → Option Dt
  | .int i, .int j => some (.int (i + j))
  | .str x, .str y => some (.str (x ++ y))
  | .sq false xs, .sq false ys => some (.sq false (xs ++ ys))
  | .sq true xs, .sq true ys => some (.sq true (xs ++ ys))
  | _, _ => none
def addC : Dt → Dt → Prop
  | .str x, .str y => x.length + y.length ≤ sizeLine
  | .sq _ xs, .sq _ ys => xs.length + ys.length ≤ sizeLine
  | _, _ => True
theorem rd_add {a b c : Dt} (h : addD a b = some c) (hc : addC a b) : RD K (rAddU K) a b c := by
  cases a <;> cases b <;> try (simp [addD] at h; done)
  · simp only [addD, Option.some.injEq] at h; subst h
    exact fun M H x y Q t h1 h2 k => .inl (rd_I0 M H x y Q t h1 h2 k)
  · simp only [addD, Option.some.injEq] at h; subst h
    intro M H x y Q t h1 h2 k
    simp only [Is] at h1 h2
    exact .inr (.inl ⟨_, _, h1, h2, hc, k _ H (Ex.refl H) is_str⟩)
  · rename_i s xs u ys
    intro M H x y Q t h1 h2 k
    simp only [Is] at h1 h2
    obtain ⟨p, vs, e1, q1, r1⟩ := h1
    obtain ⟨q, ws, e2, q2, r2⟩ := h2
    have hl : vs.length + ws.length ≤ sizeLine := by rw [r1.length, r2.length]; exact hc
    have fin : ∀ (b : Bool) (r : Addr), H r = none → Is K (hid M (upd H r (if b then .tup (vs ++ ws) else .lst (vs ++ ws)))) (.sq b (xs ++ ys)) (.ref r) := fun b r hr => fresh_is t hr (r1.append r2)
    cases s <;> cases u <;> simp only [addD, Option.some.injEq, reduceCtorEq] at h
    · subst h
      exact .inr (.inr (.inl ⟨p, q, vs, ws, e1, e2, hid_le _ _ _ _ q1, hid_le _ _ _ _ q2, hl, fun r hr => k _ _ (Ex.new hr) (fin false r hr)⟩))
    · subst h
      refine .inr (.inr (.inr ⟨p, q, vs, ws, e1, e2, (hid_le M H).sqT q1, (hid_le M H).sqT q2, hl, fun z => ?_, fun _ z => ?_, fun _ _ r hr => k _ _ (Ex.new hr) (fin true r hr)⟩))
      · subst z
        have : xs = [] := by have := r1.length; simpa using this.symm
        subst this
        exact k _ H (Ex.refl H) (by simp only [Is]; exact ⟨q, ws, rfl, q2, r2⟩)
      · subst z
        have : ys = [] := by have := r2.length; simpa using this.symm
        subst this
        exact k _ H (Ex.refl H) (by simp only [Is, List.append_nil]; exact ⟨p, vs, rfl, q1, r1⟩)
variable {a b : Expr} {da db dc : Dt} {pos : Pos}
theorem de_add (ha : DE X δ a da) (hb : DE X δ b db) (h : addD da db = some dc) (hc : addC da db) : DE X δ (.BinOp a .Add b pos) dc := de_bin ha hb op_addU (rd_add h hc)
theorem de_sub {i j : Int} (ha : DE X δ a (.int i)) (hb : DE X δ b (.int j)) : DE X δ (.BinOp a .Sub b pos) (.int (i - j)) := de_bin ha hb op_sub rd_I0

/-! a * b -/
def rMulU (K : PySem.W.Frag) : R2 := fun x y H Q => rI CMulW (fun i j => .int (i * j)) x y H Q ∨ rRep x y H Q
theorem op_mulU : OpR X (binaryOp .Mult) (rMulU X.K) := op_mulW.or op_rep
def mulD : Dt → Dt → Option Dt
  | .int i, .int j => some (.int (i * j))
  | .sq false xs, .int j => some (.sq false (List.replicate j.toNat xs).flatten)
  | _, _ => none
def mulC : Dt → Dt → Prop
  | .int i, .int j => CMulW i j
  | .sq _ xs, .int j => -(2 ^ 63) ≤ j ∧ j < 2 ^ 63 ∧ xs.length * j.toNat ≤ sizeLine
  | _, _ => True
theorem IsAll.rep {H : Hp} {ds : List Dt} {xs : List V} (h : IsAll K H ds xs) : ∀ n : Nat, IsAll K H (List.replicate n ds).flatten (List.replicate n xs).flatten
  | 0 => by simp [IsAll]
  | n + 1 => by simp only [List.replicate_succ, List.flatten_cons]; exact h.append (IsAll.rep h n)
theorem rd_mul {a b c : Dt} (h : mulD a b = some c) (hc : mulC a b) : RD K (rMulU K) a b c := by
  cases a <;> cases b <;> try (simp [mulD] at h; done)
  · simp only [mulD, Option.some.injEq] at h; subst h
    exact fun M H x y Q t h1 h2 k => .inl (rd_I (C := CMulW) hc M H x y Q t h1 h2 k)
  · rename_i s xs j
    intro M H x y Q t h1 h2 k
    simp only [Is] at h1 h2
    obtain ⟨p, vs, e1, q1, r1⟩ := h1
    cases s <;> simp only [mulD, Option.some.injEq, reduceCtorEq] at h
    subst h
    obtain ⟨c1, c2, c3⟩ := hc
    exact .inr ⟨p, j, vs, e1, h2, hid_le _ _ _ _ q1, c1, c2, by rw [r1.length]; exact c3, fun r hr => k _ _ (Ex.new hr) (fresh_is (t := false) t hr (r1.rep _))⟩
theorem de_mul (ha : DE X δ a da) (hb : DE X δ b db) (h : mulD da db = some dc) (hc : mulC da db) : DE X δ (.BinOp a .Mult b pos) dc := de_bin ha hb op_mulU (rd_mul h hc)

def CDivG (_ j : Int) : Prop := j ≠ 0 ∧ j.natAbs.log2 < 9000
theorem op_divG : OpR X (binaryOp .FloorDiv) (rI CDivG fun i j => .int (i.fdiv j)) := opI fun i j _ _ _ _ _ hc q => PyProof.Rows.floordiv_int hc.1 q (.inl (PyProof.noPylong_of_log2 hc.2))
theorem de_divG {i j : Int} (ha : DE X δ a (.int i)) (hb : DE X δ b (.int j)) (hc : CDivG i j) : DE X δ (.BinOp a .FloorDiv b pos) (.int (i.fdiv j)) := de_bin ha hb op_divG (rd_I hc)
theorem de_div {i j : Int} (ha : DE X δ a (.int i)) (hb : DE X δ b (.int j)) (hc : CDivW i j) : DE X δ (.BinOp a .FloorDiv b pos) (.int (i / j)) := de_bin ha hb op_fdivW (rd_I hc)
theorem de_mod {i j : Int} (ha : DE X δ a (.int i)) (hb : DE X δ b (.int j)) (hc : 0 < j) : DE X δ (.BinOp a .Mod b pos) (.int (i % j)) := de_bin ha hb op_mod (rd_I (C := fun _ j => 0 < j) hc)
theorem de_modG {i j : Int} (ha : DE X δ a (.int i)) (hb : DE X δ b (.int j)) (hc : j ≠ 0) : DE X δ (.BinOp a .Mod b pos) (.int (i.fmod j)) := de_bin ha hb op_modN (rd_I (C := fun _ j => j ≠ 0) hc)
theorem de_pow {i j : Int} (ha : DE X δ a (.int i)) (hb : DE X δ b (.int j)) (hc : CPow i j) : DE X δ (.BinOp a .Pow b pos) (.int (i ^ j.toNat)) := de_bin ha hb op_pow (rd_I hc)
theorem de_neg {i : Int} (ha : DE X δ a (.int i)) : DE X δ (.UnaryOp .USub a pos) (.int (-i)) := de_un ha un_neg fun M H x Q t h k => by
  simp only [Is] at h
  exact ⟨i, h, k _ H (Ex.refl H) is_int⟩

/-! comparisons -/
theorem de_lt {i j : Int} (ha : DE X δ a (.int i)) (hb : DE X δ b (.int j)) : DE X δ (.Compare a [.Lt] [b] pos) (.bl (decide (i < j))) := de_cmp ha hb op_lt (nomark _) rd_B0
theorem de_le {i j : Int} (ha : DE X δ a (.int i)) (hb : DE X δ b (.int j)) : DE X δ (.Compare a [.LtE] [b] pos) (.bl (decide (i ≤ j))) := de_cmp ha hb op_le (nomark _) rd_B0
theorem de_gt {i j : Int} (ha : DE X δ a (.int i)) (hb : DE X δ b (.int j)) : DE X δ (.Compare a [.Gt] [b] pos) (.bl (decide (j < i))) := de_cmp ha hb op_gt (nomark _) rd_B0
theorem de_ge {i j : Int} (ha : DE X δ a (.int i)) (hb : DE X δ b (.int j)) : DE X δ (.Compare a [.GtE] [b] pos) (.bl (decide (j ≤ i))) := de_cmp ha hb op_ge (nomark _) rd_B0
theorem dt_lt {i j : Int} (ha : DE X δ a (.int i)) (hb : DE X δ b (.int j)) : DT X δ (.Compare a [.Lt] [b] pos) (decide (i < j)) := dt_cmp ha hb op_lt (nomark _) rd_B0
theorem dt_le {i j : Int} (ha : DE X δ a (.int i)) (hb : DE X δ b (.int j)) : DT X δ (.Compare a [.LtE] [b] pos) (decide (i ≤ j)) := dt_cmp ha hb op_le (nomark _) rd_B0
theorem dt_gt {i j : Int} (ha : DE X δ a (.int i)) (hb : DE X δ b (.int j)) : DT X δ (.Compare a [.Gt] [b] pos) (decide (j < i)) := dt_cmp ha hb op_gt (nomark _) rd_B0
theorem dt_ge {i j : Int} (ha : DE X δ a (.int i)) (hb : DE X δ b (.int j)) : DT X δ (.Compare a [.GtE] [b] pos) (decide (j ≤ i)) := dt_cmp ha hb op_ge (nomark _) rd_B0

/-! data as the library's data -/
mutual
def toP : Dt → PyData
  | .non => .none | .bl b => .bool b | .int i => .int i | .str x => .str x
  | .sq t ds => if t then .tuple (toPs ds) else .list (toPs ds)
  | _ => .none
def toPs : List Dt → List PyData
  | [] => []
  | d :: ds => toP d :: toPs ds
end
mutual
/-- ints, texts, lists, tuples; texts that can be laid -/
def plain : Dt → Bool
  | .non => true | .bl _ => true | .int _ => true | .str x => PyData.canLay0 (.str x)
  | .sq _ ds => plains ds
  | _ => false
def plains : List Dt → Bool
  | [] => true
  | d :: ds => plain d && plains ds
end
mutual
def deep : Dt → Nat
  | .sq _ ds => deeps ds + 1
  | _ => 0
def deeps : List Dt → Nat
  | [] => 0
  | d :: ds => max (deep d) (deeps ds)
end
mutual
theorem toP_depth : ∀ d : Dt, (toP d).depth ≤ deep d
  | .non => by simp [toP, PyData.depth]
  | .bl _ => by simp [toP, PyData.depth]
  | .int _ => by simp [toP, PyData.depth]
  | .str _ => by simp [toP, PyData.depth]
  | .obj _ _ => by simp [toP, PyData.depth]
  | .scr _ => by simp [toP, PyData.depth]
  | .ty _ => by simp [toP, PyData.depth]
  | .cls _ => by simp [toP, PyData.depth]
  | .sq t ds => by
    have := toPs_depth ds
    cases t <;> simp only [toP, deep, PyData.depth, if_true, if_false, Bool.false_eq_true] <;> omega
theorem toPs_depth : ∀ ds : List Dt, PyData.depthAll (toPs ds) ≤ deeps ds
  | [] => by simp [toPs, PyData.depthAll]
  | d :: ds => by
    have h1 := toP_depth d
    have h2 := toPs_depth ds
    simp only [toPs, PyData.depthAll, deeps]; omega
end
mutual
theorem toP_lay : ∀ d : Dt, plain d = true → (toP d).canLay0 = true
  | .non, _ => by simp [toP, PyData.canLay0]
  | .bl _, _ => by simp [toP, PyData.canLay0]
  | .int _, _ => by simp [toP, PyData.canLay0]
  | .str _, h => by simpa [toP, plain] using h
  | .obj _ _, h => by simp [plain] at h
  | .scr _, h => by simp [plain] at h
  | .ty _, h => by simp [plain] at h
  | .cls _, h => by simp [plain] at h
  | .sq t ds, h => by
    have := toPs_lay ds (by simpa [plain] using h)
    cases t <;> simpa [toP, PyData.canLay0] using this
theorem toPs_lay : ∀ ds : List Dt, plains ds = true → PyData.canLayAll0 (toPs ds) = true
  | [], _ => by simp [toPs, PyData.canLayAll0]
  | d :: ds, h => by
    simp only [plains, Bool.and_eq_true] at h
    simp only [toPs, PyData.canLayAll0, Bool.and_eq_true]
    exact ⟨toP_lay d h.1, toPs_lay ds h.2⟩
end
mutual
theorem Is.dp {H : Hp} : ∀ (d : Dt) (v : V), plain d = true → Is K H d v → Dp K H v (toP d)
  | .non, v, _, h => by simp only [Is] at h; subst h; exact .non
  | .bl b, v, _, h => by simp only [Is] at h; subst h; exact .bl b
  | .int b, v, _, h => by simp only [Is] at h; subst h; exact .int b
  | .str b, v, _, h => by simp only [Is] at h; subst h; exact .str b
  | .obj _ _, _, h, _ => by simp [plain] at h
  | .scr _, _, h, _ => by simp [plain] at h
  | .ty _, _, h, _ => by simp [plain] at h
  | .cls _, _, h, _ => by simp [plain] at h
  | .sq t ds, v, h, i => by
    simp only [Is] at i
    obtain ⟨a, xs, e, q, r⟩ := i
    subst e
    have z := IsAll.dp ds xs (by simpa [plain] using h) r
    cases t with
    | true => simpa [toP] using Dp.tup q z
    | false => simpa [toP] using Dp.lst (SqL.of q) z
theorem IsAll.dp {H : Hp} : ∀ (ds : List Dt) (vs : List V), plains ds = true → IsAll K H ds vs → DpAll K H vs (toPs ds)
  | [], vs, _, i => by simp only [IsAll] at i; subst i; exact .nil
  | d :: ds, vs, h, i => by
    simp only [plains, Bool.and_eq_true] at h
    simp only [IsAll] at i
    obtain ⟨x, ys, e, i1, i2⟩ := i
    subst e
    exact .cons (Is.dp d x h.1 i1) (IsAll.dp ds ys h.2 i2)
end
def eqB (a b : Dt) : Bool := PyData.eqv (toP a) (toP b)
def eqC (a b : Dt) : Prop := plain a = true ∧ plain b = true ∧ deep a ≤ 64 ∧ deep b ≤ 64
theorem shaped_of {d : Dt} (h : plain d = true) (hd : deep d ≤ 64) : SeqAt.shaped (toP d) = true := by
  unfold SeqAt.shaped
  rw [toP_lay d h]
  have := toP_depth d
  simp; omega
theorem rd_eq (hc : eqC da db) : RD K (rEqD K) da db (.bl (eqB da db)) := fun M H x y Q t h1 h2 k =>
  ⟨toP da, toP db, Is.dp da x hc.1 (h1.mono (hid_le M H)), Is.dp db y hc.2.1 (h2.mono (hid_le M H)), shaped_of hc.1 hc.2.2.1, shaped_of hc.2.1 hc.2.2.2, k _ H (Ex.refl H) is_bl⟩
theorem rd_ne (hc : eqC da db) : RD K (rNeD K) da db (.bl (!eqB da db)) := fun M H x y Q t h1 h2 k =>
  ⟨toP da, toP db, Is.dp da x hc.1 (h1.mono (hid_le M H)), Is.dp db y hc.2.1 (h2.mono (hid_le M H)), shaped_of hc.1 hc.2.2.1, shaped_of hc.2.1 hc.2.2.2, k _ H (Ex.refl H) is_bl⟩
variable {k : Nat}
theorem de_eqq (P : Plc X k) (ha : DE X δ a da) (hb : DE X δ b db) (hc : eqC da db) : DE X δ (.Compare a [.Eq] [b] pos) (.bl (eqB da db)) := de_cmp ha hb (op_eqD P.room.units) (nomark _) (rd_eq hc)
theorem de_neq (P : Plc X k) (ha : DE X δ a da) (hb : DE X δ b db) (hc : eqC da db) : DE X δ (.Compare a [.NotEq] [b] pos) (.bl (!eqB da db)) := de_cmp ha hb (op_neD P.room.units) (nomark _) (rd_ne hc)
theorem dt_eqq (P : Plc X k) (ha : DE X δ a da) (hb : DE X δ b db) (hc : eqC da db) : DT X δ (.Compare a [.Eq] [b] pos) (eqB da db) := dt_cmp ha hb (op_eqD P.room.units) (nomark _) (rd_eq hc)
theorem dt_neq (P : Plc X k) (ha : DE X δ a da) (hb : DE X δ b db) (hc : eqC da db) : DT X δ (.Compare a [.NotEq] [b] pos) (!eqB da db) := dt_cmp ha hb (op_neD P.room.units) (nomark _) (rd_ne hc)
/-- of ints -/
theorem rd_eqI {i j : Int} : RD K rEq (.int i) (.int j) (.bl (decide (i = j))) := fun M H x y Q t h1 h2 k => by
  simp only [Is] at h1 h2
  subst h1; subst h2
  refine ⟨rfl, ?_⟩
  have e : decide (V.int i = V.int j) = decide (i = j) := by rw [decide_eq_decide]; simp
  rw [e]; exact k _ H (Ex.refl H) is_bl
theorem rd_neI {i j : Int} : RD K rNe (.int i) (.int j) (.bl (!decide (i = j))) := fun M H x y Q t h1 h2 k => by
  simp only [Is] at h1 h2
  subst h1; subst h2
  refine ⟨rfl, ?_⟩
  have e : decide (V.int i = V.int j) = decide (i = j) := by rw [decide_eq_decide]; simp
  rw [e]; exact k _ H (Ex.refl H) is_bl
theorem de_eqI {i j : Int} (ha : DE X δ a (.int i)) (hb : DE X δ b (.int j)) : DE X δ (.Compare a [.Eq] [b] pos) (.bl (decide (i = j))) := de_cmp ha hb op_eq (nomark _) rd_eqI
theorem de_neI {i j : Int} (ha : DE X δ a (.int i)) (hb : DE X δ b (.int j)) : DE X δ (.Compare a [.NotEq] [b] pos) (.bl (!decide (i = j))) := de_cmp ha hb op_ne (nomark _) rd_neI
theorem dt_eqI {i j : Int} (ha : DE X δ a (.int i)) (hb : DE X δ b (.int j)) : DT X δ (.Compare a [.Eq] [b] pos) (decide (i = j)) := dt_cmp ha hb op_eq (nomark _) rd_eqI
theorem dt_neI {i j : Int} (ha : DE X δ a (.int i)) (hb : DE X δ b (.int j)) : DT X δ (.Compare a [.NotEq] [b] pos) (!decide (i = j)) := dt_cmp ha hb op_ne (nomark _) rd_neI
theorem rd_eqS {i j : Str} : RD K rEq (.str i) (.str j) (.bl (decide (i = j))) := fun M H x y Q t h1 h2 k => by
  simp only [Is] at h1 h2
  subst h1; subst h2
  refine ⟨rfl, ?_⟩
  have e : decide (V.str i = V.str j) = decide (i = j) := by rw [decide_eq_decide]; simp
  rw [e]; exact k _ H (Ex.refl H) is_bl
theorem de_eqS {i j : Str} (ha : DE X δ a (.str i)) (hb : DE X δ b (.str j)) : DE X δ (.Compare a [.Eq] [b] pos) (.bl (decide (i = j))) := de_cmp ha hb op_eq (nomark _) rd_eqS
theorem dt_eqS {i j : Str} (ha : DE X δ a (.str i)) (hb : DE X δ b (.str j)) : DT X δ (.Compare a [.Eq] [b] pos) (decide (i = j)) := dt_cmp ha hb op_eq (nomark _) rd_eqS

/-! is None -/
def isNon : Dt → Bool
  | .non => true
  | _ => false
theorem is_isNon {H : Hp} {d : Dt} {v : V} (h : Is K H d v) : decide (v = .non) = isNon d := by
  cases d <;> simp only [Is] at h <;> try (subst h; simp [isNon]; done)
  · obtain ⟨a, xs, e, _⟩ := h; subst e; simp [isNon]
  · obtain ⟨a, xs, vs, e, _⟩ := h; subst e; simp [isNon]
  · obtain ⟨a, e, _⟩ := h; subst e; simp [isNon]
theorem rd_isN : RD K (fun x y H Q => y = .non ∧ Q (.bl (decide (x = .non))) H) da .non (.bl (isNon da)) := fun M H x y Q t h1 h2 k => by
  have := is_isNon h1
  simp only [Is] at h2
  exact ⟨h2, by rw [this]; exact k _ H (Ex.refl H) is_bl⟩
theorem rd_notN : RD K (fun x y H Q => y = .non ∧ Q (.bl (!decide (x = .non))) H) da .non (.bl (!isNon da)) := fun M H x y Q t h1 h2 k => by
  have := is_isNon h1
  simp only [Is] at h2
  exact ⟨h2, by rw [this]; exact k _ H (Ex.refl H) is_bl⟩
theorem de_isN (ha : DE X δ a da) (hb : DE X δ b .non) : DE X δ (.Compare a [.Is] [b] pos) (.bl (isNon da)) := de_cmp ha hb op_isN (nomark _) rd_isN
theorem de_notN (ha : DE X δ a da) (hb : DE X δ b .non) : DE X δ (.Compare a [.IsNot] [b] pos) (.bl (!isNon da)) := de_cmp ha hb op_notN (nomark _) rd_notN
theorem dt_isN (ha : DE X δ a da) (hb : DE X δ b .non) : DT X δ (.Compare a [.Is] [b] pos) (isNon da) := dt_cmp ha hb op_isN (nomark _) rd_isN
theorem dt_notN (ha : DE X δ a da) (hb : DE X δ b .non) : DT X δ (.Compare a [.IsNot] [b] pos) (!isNon da) := dt_cmp ha hb op_notN (nomark _) rd_notN

/-! a[i] -/
def ixD : Dt → Dt → Option Dt
  | .sq _ ds, .int i => atI ds i
  | .scr ns, .int i => (atI ns i).map Dt.int
  | _, _ => none
theorem IsAll.at {H : Hp} {ds : List Dt} {xs : List V} {i : Int} {d : Dt} (h : IsAll K H ds xs) (e : atI ds i = some d) : ∃ x, atI xs i = some x ∧ Is K H d x := by
  unfold atI at e ⊢
  rw [h.length]
  cases q : ixN ds.length i with
  | none => rw [q] at e; cases e
  | some j =>
    rw [q] at e
    exact h.get e
theorem atI_map {ns : List Int} {i : Int} : atI (ns.map V.int) i = (atI ns i).map V.int := by
  unfold atI
  rw [List.length_map]
  cases ixN ns.length i with
  | none => rfl
  | some j => simp
theorem rd_ix (h : ixD da db = some dc) : RD K (rIx K) da db dc := fun M H x y Q t h1 h2 k => by
  cases da <;> cases db <;> simp only [ixD, reduceCtorEq] at h
  · rename_i s ds i
    simp only [Is] at h1 h2
    obtain ⟨p, vs, e1, q1, r1⟩ := h1
    obtain ⟨v, hv, iv⟩ := r1.at h
    cases s with
    | false => exact .inl ⟨p, vs, i, v, e1, h2, SqL.of (hid_le _ _ _ _ q1), hv, k _ H (Ex.refl H) iv⟩
    | true => exact .inr (.inl ⟨p, vs, i, v, e1, h2, (hid_le M H).sqT q1, hv, k _ H (Ex.refl H) iv⟩)
  · rename_i ns i
    simp only [Is] at h1 h2
    obtain ⟨p, e1, q1⟩ := h1
    cases hn : atI ns i with
    | none => rw [hn] at h; cases h
    | some n =>
      rw [hn] at h
      simp only [Option.map_some, Option.some.injEq] at h
      subst h
      exact .inl ⟨p, ns.map V.int, i, .int n, e1, h2, (hid_le M H).sqL q1, by rw [atI_map, hn]; rfl, k _ H (Ex.refl H) is_int⟩
theorem de_ix (ha : DE X δ a da) (hb : DE X δ b db) (h : ixD da db = some dc) (hs : PlainIx b := by exact fun _ _ => rfl) : DE X δ (.Subscript a b pos) dc := de_ix0 ha hb ix_seq hs (rd_ix h)
/-- an item of a list of the slot's own -/
theorem de_ixO {x : Str} {p : Pos} {ds : List Dt} (i : Nat) (hN : X.N[i]? = some x) (hv : Vis X.env.scope x) (hs : δ[i]? = some (.ow ds)) (hb : DE X δ b db) (h : ixD (.sq false ds) db = some dc)
    (hd : (x == ("__debug__" : Str)) = false := by decide) (hcd : (x == ("__classdict__" : Str)) = false := by decide) (hx : PlainIx b := by exact fun _ _ => rfl) : DE X δ (.Subscript (.Name x p) b pos) dc :=
  imE (pe_ix ix_seq (pe_var hN hv hd hcd) hb hx) fun σ H Q ⟨S, O, E, k⟩ => by
    obtain ⟨p, xs, h1, h2, h3, h4⟩ := E.ow i ds hs
    refine ⟨_, h1, S, O, E, fun y H1 e1 i1 => ?_⟩
    cases db <;> simp only [ixD, reduceCtorEq] at h
    simp only [Is] at i1
    obtain ⟨v, hv, iv⟩ := (h4.mono (hid_ex e1)).at h
    exact .inl ⟨p, xs, _, v, rfl, i1, SqL.of (e1 _ _ h3), hv, k _ H1 e1 iv⟩

/-! a[i:j] -/
def cutD (ds : List Dt) (lo hi : Option Int) : List Dt := (ds.drop (HT.sIx ds.length 0 lo)).take (HT.sIx ds.length ds.length hi - HT.sIx ds.length 0 lo)
theorem IsAll.cut {H : Hp} {ds : List Dt} {xs : List V} (h : IsAll K H ds xs) (lo hi : Option Int) : IsAll K H (cutD ds lo hi) (cutV xs lo hi) := by
  unfold cutD cutV
  rw [h.length]
  exact (h.drop _).take _
theorem do_none : DO X δ none none := imO po_none fun σ H Q ⟨S, O, E, k⟩ => k H (Ex.refl H)
theorem do_some {i : Int} (h : DE X δ a (.int i)) : DO X δ (some a) (some i) := imO (po_some h) fun σ H Q ⟨S, O, E, k⟩ => ⟨S, O, E, fun v H' e j => by
  simp only [Is] at j
  exact ⟨i, j, k H' e⟩⟩
theorem cut_all {α : Type} (l : List α) (a b : Nat) (h : a = 0 ∧ b = l.length) : (l.drop a).take (b - a) = l := by
  obtain ⟨h1, h2⟩ := h
  subst h1; subst h2
  simp
theorem de_sl {t : Bool} {ds : List Dt} {lo hi : Option Expr} {i j : Option Int} {p2 : Pos} (ha : DE X δ a (.sq t ds)) (hl : DO X δ lo i) (hu : DO X δ hi j) : DE X δ (.Subscript a (.Slice lo hi none p2) pos) (.sq t (cutD ds i j)) := by
  cases t with
  | false =>
    refine imE (pe_slice sl_list ha hl hu) fun σ H Q ⟨S, O, E, k⟩ => ⟨S, O, E, fun v H1 e1 i1 => ⟨S, O, E.mono e1, fun H2 e2 => ⟨S, O, (E.mono e1).mono e2, fun H3 e3 => ?_⟩⟩⟩
    simp only [Is] at i1
    obtain ⟨p, vs, e, q, r⟩ := i1
    have e13 := e2.trans e3
    refine ⟨p, vs, e, SqL.of (e13 _ _ (hid_le _ _ _ _ q)), fun l hl => k _ _ ((e1.trans e13).trans (Ex.new hl)) (fresh_is (t := false) (E.mono (e1.trans e13)).trk hl ((r.mono (hid_ex e13)).cut i j))⟩
  | true =>
    refine imE (pe_slice sl_tupA ha hl hu) fun σ H Q ⟨S, O, E, k⟩ => ⟨S, O, E, fun v H1 e1 i1 => ⟨S, O, E.mono e1, fun H2 e2 => ⟨S, O, (E.mono e1).mono e2, fun H3 e3 => ?_⟩⟩⟩
    simp only [Is] at i1
    obtain ⟨p, vs, e, q, r⟩ := i1
    have e13 := e2.trans e3
    have r3 := r.mono (hid_ex (M := O ++ S) e13)
    refine ⟨p, vs, e, e13.sqT ((hid_le _ _).sqT q), fun z => k _ _ (e1.trans e13) ?_, fun _ l hl => k _ _ ((e1.trans e13).trans (Ex.new hl)) (fresh_is (t := true) (E.mono (e1.trans e13)).trk hl (r3.cut i j))⟩
    rw [r.length] at z
    have hz : cutD ds i j = ds := by unfold cutD; exact cut_all ds _ _ z
    rw [hz]
    simp only [Is]
    exact ⟨p, vs, rfl, (hid_ex e13).sqT q, r3⟩
end
end Dat

set_option Elab.async false
set_option linter.all false
set_option maxRecDepth 100000
set_option maxHeartbeats 2000000
namespace Dat
open PySem L2

/-! ### built-ins by data -/
section
variable {K : PySem.W.Frag} {X : Cx} {δ : List Slot} {k : Nat}
theorem IsAll.one_inv {H : Hp} {d : Dt} {xs : List V} (h : IsAll K H [d] xs) : ∃ x, xs = [x] ∧ Is K H d x := by
  simp only [IsAll] at h
  obtain ⟨x, ys, e, i, rfl⟩ := h
  exact ⟨x, e, i⟩
theorem IsAll.two_inv {H : Hp} {d d' : Dt} {xs : List V} (h : IsAll K H [d, d'] xs) : ∃ x y, xs = [x, y] ∧ Is K H d x ∧ Is K H d' y := by
  simp only [IsAll] at h
  obtain ⟨x, ys, e, i, y, zs, rfl, j, rfl⟩ := h
  exact ⟨x, y, e, i, j⟩

def lenD : Dt → Option Nat
  | .sq _ ds => some ds.length
  | .scr ns => some ns.length
  | _ => none
theorem rc_len {d : Dt} {n : Nat} (h : lenD d = some n) : RC K (fun xs H Q => ∃ p ys, xs = [.ref p] ∧ (SqL K H p ys ∨ SqT K H p ys) ∧ Q (.int ys.length) H) [d] (.int n) := fun M H xs Q t ia q => by
  obtain ⟨x, rfl, i⟩ := ia.one_inv
  cases d <;> simp only [lenD, reduceCtorEq, Option.some.injEq] at h
  · rename_i s ds
    simp only [Is] at i
    obtain ⟨p, vs, rfl, q1, r1⟩ := i
    refine ⟨p, vs, rfl, ?_, ?_⟩
    · cases s with
      | false => exact .inl (SqL.of (hid_le _ _ _ _ q1))
      | true => exact .inr ((hid_le M H).sqT q1)
    · rw [r1.length, h]; exact q _ H (Ex.refl H) is_int
  · simp only [Is] at i
    obtain ⟨p, rfl, q1⟩ := i
    exact ⟨p, _, rfl, .inl ((hid_le M H).sqL q1), by rw [List.length_map, h]; exact q _ H (Ex.refl H) is_int⟩
def intD : Dt → Option Int
  | .int i => some i
  | .bl b => some (if b then 1 else 0)
  | _ => none
theorem rc_int {d : Dt} {n : Int} (h : intD d = some n) : RC K (fun xs H Q => (∃ i, xs = [.int i] ∧ Q (.int i) H) ∨ ∃ k, xs = [.bl k] ∧ Q (.int (if k then 1 else 0)) H) [d] (.int n) := fun M H xs Q t ia q => by
  obtain ⟨x, rfl, i⟩ := ia.one_inv
  cases d <;> simp only [intD, reduceCtorEq, Option.some.injEq] at h <;> subst h <;> simp only [Is] at i <;> subst i
  · rename_i b
    exact .inr ⟨b, rfl, q _ H (Ex.refl H) is_int⟩
  · exact .inl ⟨_, rfl, q _ H (Ex.refl H) is_int⟩
theorem rc_abs {n : Int} : RC K (fun xs H Q => ∃ i, xs = [.int i] ∧ Q (.int (if i < 0 then -i else i)) H) [.int n] (.int (n.natAbs : Int)) := fun M H xs Q t ia q => by
  obtain ⟨x, rfl, i⟩ := ia.one_inv
  simp only [Is] at i; subst i
  refine ⟨n, rfl, ?_⟩
  have e : (if n < 0 then -n else n) = (n.natAbs : Int) := by split <;> omega
  rw [e]; exact q _ H (Ex.refl H) is_int
theorem rc_max2 {n m : Int} : RC K (fun xs H Q => ∃ i j, xs = [.int i, .int j] ∧ Q (.int (if j > i then j else i)) H) [.int n, .int m] (.int (max n m)) := fun M H xs Q t ia q => by
  obtain ⟨x, y, rfl, i, j⟩ := ia.two_inv
  simp only [Is] at i j; subst i; subst j
  refine ⟨n, m, rfl, ?_⟩
  have e : (if m > n then m else n) = max n m := by split <;> omega
  rw [e]; exact q _ H (Ex.refl H) is_int
theorem rc_min2 {n m : Int} : RC K (fun xs H Q => ∃ i j, xs = [.int i, .int j] ∧ Q (.int (if j < i then j else i)) H) [.int n, .int m] (.int (min n m)) := fun M H xs Q t ia q => by
  obtain ⟨x, y, rfl, i, j⟩ := ia.two_inv
  simp only [Is] at i j; subst i; subst j
  refine ⟨n, m, rfl, ?_⟩
  have e : (if m < n then m else n) = min n m := by split <;> omega
  rw [e]; exact q _ H (Ex.refl H) is_int
theorem rc_gcd {n m : Int} : RC K rGcd [.int n, .int m] (.int (Nat.gcd n.natAbs m.natAbs : Nat)) := fun M H xs Q t ia q => by
  obtain ⟨x, y, rfl, i, j⟩ := ia.two_inv
  simp only [Is] at i j; subst i; subst j
  exact ⟨n, m, rfl, q _ H (Ex.refl H) is_int⟩
theorem rc_list {t : Bool} {ds : List Dt} : RC K (fun xs H Q => ∃ p ys, xs = [.ref p] ∧ (SqL K H p ys ∨ SqT K H p ys) ∧ ∀ l, H l = none → Q (.ref l) (upd H l (.lst ys))) [.sq t ds] (.sq false ds) := fun M H xs Q tr ia q => by
  obtain ⟨x, rfl, i⟩ := ia.one_inv
  simp only [Is] at i
  obtain ⟨p, vs, rfl, q1, r1⟩ := i
  refine ⟨p, vs, rfl, ?_, fun l hl => q _ _ (Ex.new hl) (fresh_is (t := false) tr hl r1)⟩
  cases t with
  | false => exact .inl (SqL.of (hid_le _ _ _ _ q1))
  | true => exact .inr ((hid_le M H).sqT q1)
theorem rc_tuple {t : Bool} {ds : List Dt} : RC K (fun xs H Q => ∃ p ys, xs = [.ref p] ∧ ((SqL K H p ys ∧ ∀ l, H l = none → Q (.ref l) (upd H l (.tup ys))) ∨ (SqT K H p ys ∧ Q (.ref p) H))) [.sq t ds] (.sq true ds) := fun M H xs Q tr ia q => by
  obtain ⟨x, rfl, i⟩ := ia.one_inv
  simp only [Is] at i
  obtain ⟨p, vs, rfl, q1, r1⟩ := i
  refine ⟨p, vs, rfl, ?_⟩
  cases t with
  | false => exact .inl ⟨SqL.of (hid_le _ _ _ _ q1), fun l hl => q _ _ (Ex.new hl) (fresh_is (t := true) tr hl r1)⟩
  | true => exact .inr ⟨(hid_le M H).sqT q1, q _ H (Ex.refl H) (by simp only [Is]; exact ⟨p, vs, rfl, q1, r1⟩)⟩

/-! isinstance -/
def isInt : Dt → Bool
  | .int _ => true | .bl _ => true | _ => false
def isBl : Dt → Bool
  | .bl _ => true | _ => false
def isTup : Dt → Bool
  | .sq t _ => t | _ => false
def isLst : Dt → Bool
  | .sq t _ => !t | _ => false
def isStr : Dt → Bool
  | .str _ => true | _ => false
theorem kit_all : kitB "NoneType" "int" = some false ∧ kitB "bool" "int" = some true ∧ kitB "int" "int" = some true ∧ kitB "str" "int" = some false ∧ kitB "tuple" "int" = some false ∧ kitB "list" "int" = some false ∧
    kitB "NoneType" "bool" = some false ∧ kitB "bool" "bool" = some true ∧ kitB "int" "bool" = some false ∧ kitB "str" "bool" = some false ∧ kitB "tuple" "bool" = some false ∧ kitB "list" "bool" = some false := by decide +kernel
theorem kit_all2 : kitB "NoneType" "tuple" = some false ∧ kitB "bool" "tuple" = some false ∧ kitB "int" "tuple" = some false ∧ kitB "str" "tuple" = some false ∧ kitB "tuple" "tuple" = some true ∧ kitB "list" "tuple" = some false ∧
    kitB "NoneType" "list" = some false ∧ kitB "bool" "list" = some false ∧ kitB "int" "list" = some false ∧ kitB "str" "list" = some false ∧ kitB "tuple" "list" = some false ∧ kitB "list" "list" = some true := by decide +kernel
theorem kit_all3 : kitB "NoneType" "str" = some false ∧ kitB "bool" "str" = some false ∧ kitB "int" "str" = some false ∧ kitB "str" "str" = some true ∧ kitB "tuple" "str" = some false ∧ kitB "list" "str" = some false := by decide +kernel
def tyS : Dt → String
  | .non => "NoneType" | .bl _ => "bool" | .int _ => "int" | .str _ => "str" | .sq t _ => if t then "tuple" else "list" | _ => ""
/-- the data whose type is told by tyS -/
def flatK : Dt → Bool
  | .non => true | .bl _ => true | .int _ => true | .str _ => true | .sq _ _ => true | _ => false
theorem tyx_of {H : Hp} {d : Dt} {x : V} (i : Is K H d x) (h : flatK d = true) : TyX K H x (.type (tyS d)) := by
  cases d <;> simp only [flatK, Bool.false_eq_true] at h <;> simp only [Is] at i
  · subst i; exact .base .non
  · subst i; exact .base (.bl _)
  · subst i; exact .base (.int _)
  · subst i; exact .base (.str _)
  · rename_i t ds
    obtain ⟨p, vs, rfl, q1, r1⟩ := i
    cases t with
    | false => exact .base (.lst q1)
    | true =>
      rcases q1 with (q1 | ⟨o, q1⟩) | ⟨o, its, n, q1, q2, _⟩
      · exact .base (.tup q1)
      · exact .fTuple q1
      · exact .kTuple q1 q2
theorem rc_isi {d : Dt} {n : String} {b : Bool} (h : flatK d = true) (e : kitB (tyS d) n = some b) : RC K (rIsi K) [d, .ty n] (.bl b) := fun M H xs Q tr ia q => by
  obtain ⟨x, y, rfl, i, j⟩ := ia.two_inv
  simp only [Is] at j; subst j
  exact ⟨x, .ty n, .type (tyS d), .type n, b, rfl, .ty n, tyx_of (i.mono (hid_le M H)) h, kit_ty e, q _ H (Ex.refl H) is_bl⟩
theorem rc_isInt {d : Dt} (h : flatK d = true) : RC K (rIsi K) [d, .ty "int"] (.bl (isInt d)) := rc_isi h (by
  have z := kit_all
  cases d <;> simp only [flatK, Bool.false_eq_true] at h <;> simp only [tyS, isInt]
  · exact z.1
  · exact z.2.1
  · exact z.2.2.1
  · exact z.2.2.2.1
  · rename_i t _; cases t <;> simp only [if_true, if_false, Bool.false_eq_true]
    · exact z.2.2.2.2.2.1
    · exact z.2.2.2.2.1)
theorem rc_isBl {d : Dt} (h : flatK d = true) : RC K (rIsi K) [d, .ty "bool"] (.bl (isBl d)) := rc_isi h (by
  have z := kit_all.2.2.2.2.2.2
  cases d <;> simp only [flatK, Bool.false_eq_true] at h <;> simp only [tyS, isBl]
  · exact z.1
  · exact z.2.1
  · exact z.2.2.1
  · exact z.2.2.2.1
  · rename_i t _; cases t <;> simp only [if_true, if_false, Bool.false_eq_true]
    · exact z.2.2.2.2.2
    · exact z.2.2.2.2.1)
theorem rc_isTup {d : Dt} (h : flatK d = true) : RC K (rIsi K) [d, .ty "tuple"] (.bl (isTup d)) := rc_isi h (by
  have z := kit_all2
  cases d <;> simp only [flatK, Bool.false_eq_true] at h <;> simp only [tyS, isTup]
  · exact z.1
  · exact z.2.1
  · exact z.2.2.1
  · exact z.2.2.2.1
  · rename_i t _; cases t <;> simp only [if_true, if_false, Bool.false_eq_true]
    · exact z.2.2.2.2.2.1
    · exact z.2.2.2.2.1)
theorem rc_isLst {d : Dt} (h : flatK d = true) : RC K (rIsi K) [d, .ty "list"] (.bl (isLst d)) := rc_isi h (by
  have z := kit_all2.2.2.2.2.2.2
  cases d <;> simp only [flatK, Bool.false_eq_true] at h <;> simp only [tyS, isLst]
  · exact z.1
  · exact z.2.1
  · exact z.2.2.1
  · exact z.2.2.2.1
  · rename_i t _; cases t <;> simp only [if_true, if_false, Bool.false_eq_true]
    · exact z.2.2.2.2.2
    · exact z.2.2.2.2.1)
theorem rc_isStr {d : Dt} (h : flatK d = true) : RC K (rIsi K) [d, .ty "str"] (.bl (isStr d)) := rc_isi h (by
  have z := kit_all3
  cases d <;> simp only [flatK, Bool.false_eq_true] at h <;> simp only [tyS, isStr]
  · exact z.1
  · exact z.2.1
  · exact z.2.2.1
  · exact z.2.2.2.1
  · rename_i t _; cases t <;> simp only [if_true, if_false, Bool.false_eq_true]
    · exact z.2.2.2.2.2
    · exact z.2.2.2.2.1)

/-! repr -/
mutual
theorem toP_dict : ∀ d : Dt, (toP d).hasDict = false
  | .non => by simp [toP, PyData.hasDict]
  | .bl _ => by simp [toP, PyData.hasDict]
  | .int _ => by simp [toP, PyData.hasDict]
  | .str _ => by simp [toP, PyData.hasDict]
  | .obj _ _ => by simp [toP, PyData.hasDict]
  | .scr _ => by simp [toP, PyData.hasDict]
  | .ty _ => by simp [toP, PyData.hasDict]
  | .cls _ => by simp [toP, PyData.hasDict]
  | .sq t ds => by
    have := toPs_dict ds
    cases t <;> simpa [toP, PyData.hasDict] using this
theorem toPs_dict : ∀ ds : List Dt, PyData.hasDictAll (toPs ds) = false
  | [] => by simp [toPs, PyData.hasDictAll]
  | d :: ds => by simp [toPs, PyData.hasDictAll, toP_dict d, toPs_dict ds]
end
def rRepr (K : PySem.W.Frag) : List V → Hp → VK → Prop := fun xs H Q => (∃ i : Int, xs = [.int i] ∧ i.natAbs < 10 ^ 4300 ∧ Q (.str (toString i)) H) ∨ ∃ x d, xs = [x] ∧ Dp K H x d ∧ d.showable = true ∧ d.hasDict = false ∧ d.depth ≤ 100 ∧ d.shown.length ≤ sizeLine ∧ Q (.str d.shown) H
theorem cr_repr (P : Plc X k) : CallR X (.builtin "repr") (rRepr X.K) := by
  intro pins s σ H xs us Q I r h
  rcases h with ⟨i, rfl, hi, q⟩ | ⟨x, d, rfl, hd, hs, hn, hdp, hz, q⟩
  · obtain ⟨u, rfl, t, rfl⟩ := vals1 r
    have dg : s.heap.NoDigits := P.dig.keeps I.bk
    generalize hP : 10 ^ 4300 = L at hi
    have un := P.room.un
    refine call_repr_slot (by omega) (typeIs_int s i t) PySem.F.slot_int_repr.toG ?_
    refine wpAny_call (codeAny_call_builtin PySem.F.slot_int_repr.plain PySem.F.entry_int_repr (PySem.F.slot_int_repr.check _ _ _ _ _ _ _ _ (typeIs_int s i t) (PySem.F.args_int_repr_1 _) ?_))
    unfold Builtin.«int.__repr__»
    show wpAny _ _ (do let r ← Builtin.overDigitLimit? i; _) _ _ s
    refine wpAny_bind (PyProof.Rows.overDigitLimit_any dg (fun hlt => ?_) fun hge => ?_)
    · exact wpAny_bind (wpAny_mkStr (wpAny_pure ⟨_, _, rfl, .str (toString i), H, I.tok _, ⟨_, rfl⟩, q⟩) (int_text_fits10 hlt))
    · rw [hP] at hge
      exact absurd hi (Nat.not_lt.mpr hge)
  obtain ⟨u, rfl, rx⟩ := vals1 r
  have fin : ∀ h' tk u', (∀ b o, s.heap.get? b = some o → h'.get? b = some o) → EP X pins σ Q (.str d.shown u') { s with heap := h', toks := tk } := fun h' tk u' hk => ⟨.str d.shown, H, I.kept hk, ⟨_, rfl⟩, q⟩
  have keep : ∀ b o, s.heap.get? b = some o → s.heap.get? b = some o := fun _ _ e => e
  have isref : (∃ a, x = .ref a) → wpAny (model X.prog X.w) X.A (call (.builtin "repr") [u]) (EP X pins σ Q) X.xe s := by
    rintro ⟨a, rfl⟩
    cases rx
    obtain ⟨as, rd⟩ := Dp.reads I d _ _ hd rfl
    refine repr_of_reads' rd hs (PyData.noDict_hsm hn) P.gds ?_ keep (fun h' u' tk hk => fin h' tk u' hk) hz
    have := P.room.un
    omega
  cases hd with
  | non => cases rx; exact PySem.P.repr_of_none (fin _ _ _ keep)
  | bl b => cases rx; exact PySem.P.repr_of_bool (fin _ _ _ keep)
  | int i => obtain ⟨t, rfl⟩ := rx; exact PySem.P.repr_of_int (by simpa [PyData.showable] using hs) (fin _ _ _ keep)
  | str y => obtain ⟨t, rfl⟩ := rx; exact PySem.P.repr_of_str (fin _ _ _ keep) (by simpa [PyData.shown] using hz)
  | lst _ _ => exact isref ⟨_, rfl⟩
  | tup _ _ => exact isref ⟨_, rfl⟩
def shown (d : Dt) : Str := (toP d).shown
def shC (d : Dt) : Prop := (∃ i, d = .int i ∧ i.natAbs < 10 ^ 4300) ∨ (plain d = true ∧ (toP d).showable = true ∧ deep d ≤ 64 ∧ (shown d).length ≤ sizeLine)
theorem rc_repr {d : Dt} (h : shC d) : RC K (rRepr K) [d] (.str (shown d)) := fun M H xs Q tr ia q => by
  obtain ⟨x, rfl, i⟩ := ia.one_inv
  have := toP_depth d
  rcases h with ⟨j, rfl, hj⟩ | h
  · simp only [Is] at i; subst i
    exact .inl ⟨j, rfl, hj, by simpa [shown, toP, PyData.shown] using q _ H (Ex.refl H) (is_str (i := shown (.int j)))⟩
  exact .inr ⟨x, toP d, rfl, Is.dp d x h.1 (i.mono (hid_le M H)), h.2.1, toP_dict d, by have := h.2.2.1; omega, h.2.2.2, q _ H (Ex.refl H) is_str⟩

/-! the calls -/
variable {x : Str} {p pos : Pos} {e : Expr} {es : List Expr} {ds : List Dt} {dc : Dt} {id T : String} {r : List V → Hp → VK → Prop}
theorem de_callB (hc : CallR X (.builtin id) r) (hr : RC X.K r ds dc) (hg : Gl X x) (hm : X.mg x = none) (hv : bootBuiltins x = some (.builtin id)) (ha : DA X δ (e :: es) ds)
    (h1 : x ≠ "__name__" := by decide) (h2 : (x == ("__debug__" : Str)) = false := by decide) (he : starEach (e :: es) X.env = (false, eval e X.env) :: starEach es X.env := by rfl) (hpl : (backTo pos (starEach es X.env)).any (·.1) = false := by rfl) :
    DE X δ (.Call (.Name x p) (e :: es) [] pos) dc := by
  exact imE (pe_callB hc hg hm hv ha h1 h2 he hpl) (tCB_of hr)
theorem de_callTy (hc : CallR X (.type T) r) (hr : RC X.K r ds dc) (hg : Gl X x) (hm : X.mg x = none) (hv : bootBuiltins x = some (.type T)) (ha : DA X δ (e :: es) ds)
    (h1 : x ≠ "__name__" := by decide) (h2 : (x == ("__debug__" : Str)) = false := by decide) (he : starEach (e :: es) X.env = (false, eval e X.env) :: starEach es X.env := by rfl) (hpl : (backTo pos (starEach es X.env)).any (·.1) = false := by rfl) :
    DE X δ (.Call (.Name x p) (e :: es) [] pos) dc := imE (pe_callTy hc hg hm hv ha h1 h2 he hpl) (tCB_of hr)
theorem de_ty {T : String} (hg : Gl X x) (hm : X.mg x = none) (hv : bootBuiltins x = some (.type T)) (h1 : x ≠ "__name__" := by decide) (h2 : (x == ("__debug__" : Str)) = false := by decide) : DE X δ (.Name x p) (.ty T) :=
  imE (pe_bltn (v := .ty T) hg hm hv rfl h1 h2) fun σ H Q ⟨S, O, E, k⟩ => k _ H (Ex.refl H) (by simp [Is])
end
end Dat

set_option Elab.async false
set_option linter.all false
set_option maxRecDepth 100000
set_option maxHeartbeats 2000000
namespace Dat
open PySem L2

/-! ### a def's promise, where no text of an object is being made around the call -/
structure FnG (P : Program) (w : World) (K : PySem.W.Frag) (mg : Str → Option Value) (base : Heap) (CX : CXT) (k : Nat)
    (f : Addr) (fd : FuncData) (ps : List Str) (sp : Sp) : Prop where
  cnt : ∀ vs H Q E, sp vs H Q E → vs.length = ps.length
  go : ∀ (A : Around) (outer : List Env) (s : Shared) (H : Hp) (args : Args) (us : List Value) (vs : List V) (Q : VK) (E : XK),
    A.guards = some [] → Room k A → Env0 P w K mg base A outer s H → BindsTo s fd args (ps.zip us) → Vals vs us →
    sp vs H Q E → codeAny (model P w) A (.call (.ref f) args) (CR CX outer P w H s Q E) s
section
variable {P : Program} {w : World} {K : PySem.W.Frag} {mg : Str → Option Value} {base : Heap} {CX : CXT} {k j : Nat}
  {f : Addr} {fd : FuncData} {ps N : List Str} {sp : Sp}
theorem FnG.of (F : FnOk P w K mg base CX k f fd ps sp) : FnG P w K mg base CX k f fd ps sp :=
  ⟨F.len, fun A outer s H args us vs Q E _ => F.run A outer s H args us vs Q E⟩
theorem FnG.up (F : FnG P w K mg base CX k f fd ps sp) (h : k ≤ j) : FnG P w K mg base CX j f fd ps sp :=
  ⟨F.cnt, fun A outer s H args us vs Q E g r => F.go A outer s H args us vs Q E g (r.mono h)⟩

/-- a def by its body -/
theorem fng_of {x qual : Str} {st : Stmt} {dvs : List V} {kws : List (Str × V)} (F : FunD K x qual (defArgs st) (defBody st) (defScope st) dvs kws f fd) (S : FnScope N ps (defScope st))
    (hc : ∀ vs H Q E, sp vs H Q E → vs.length = ps.length)
    (hb : ∀ (cdv : Value) (A : Around) (outer : List Env) (s : Shared) (H : Hp) (vs : List V) (Q : VK) (E : XK), A.guards = some [] →
      Room k (A.deeper (PyProof.Rows.envOfC qual (defScope st) s.heap.objs.size f cdv)) → sp vs H Q E →
      ∃ t, PSs (cxOf CX P w K mg base N qual (defScope st) f cdv A outer s H E) (defBody st) t ∧
        t { nx := fun _ H' => Q .non H', rt := Q } (start N vs) H) : FnG P w K mg base CX (k + 1) f fd ps sp := by
  obtain ⟨oc, od, dV, kV, doc, pm, an, cdv, ct, osl, rfl, lk, hcd, _, _⟩ := F.ex
  refine ⟨hc, ?_⟩
  intro A outer s H args us vs Q E hg hr e0 bd rv hs
  have old : ∀ (b : Addr) (o : Obj), base.get? b = some o → s.heap.get? b = some o := fun b o q => (e0.bs b o q).1
  have KX : K.In s.heap := e0.mod.kin.keeps old
  have NL : s.heap.NoLimit := e0.mod.nolimit.keeps old
  have kinds : ∀ y, y ∈ ps.zip us → (defScope st).names.lookup y.1 = some .local ∨
      ((defScope st).names.lookup y.1 = some .cell ∧ ((cellsFrom (s.heap.objs.size + 1) (defScope st).names []).lookup y.1).isSome = true) := by
    rintro ⟨n, v⟩ hy
    rcases S.par n (List.of_mem_zip hy).1 with z | z
    · exact Or.inl z
    · exact Or.inr ⟨z, PySem.W.cellsFrom_some _ _ _ (Or.inl z)⟩
  apply codeAny_call_function hr.depth (KX _ _ lk) rfl S.co S.gen rfl (PySem.W.codeRec_of KX hcd)
  apply bd
  apply wpAny_newFunctionEnv_cells S.kind kinds
  intro env he s1 x1
  subst he
  refine And.intro (NL.keeps x1.toInCall.keep) (codeAny_func ?_)
  obtain ⟨t, ht, q⟩ := hb cdv A outer s H vs Q E hg (hr.deeper _) hs
  have I := inv_start (CX := CX) (E := E) S hr.hd e0 (hc _ _ _ _ hs) rv x1
  apply wpAny_mono (ht.run [] s1 (start N vs) H _ I q)
  · intro fl s' z
    cases fl with
    | next =>
      obtain ⟨σ', H', J, y⟩ := z
      exact ⟨.non, H', J.os, J.bare, J.base, J.hok, rfl, y⟩
    | ret u =>
      obtain ⟨v, σ', H', J, r, y⟩ := z
      exact ⟨v, H', J.os, J.bare, J.base, J.hok, r, y⟩
    | brk => exact (show False from z.elim fun _ z => z.elim fun _ z => z.2).elim
    | cont => exact (show False from z.elim fun _ z => z.elim fun _ z => z.2).elim
  · exact fun _ _ z => z
end

section
variable {X : Cx} {CX : CXT} {k : Nat} {f : Addr} {fd : FuncData} {ps : List Str} {sp : Sp} {dvs : List V} {dfs : List Value} {E : XK} {x : Str} {p pos : Pos} {e : Expr} {es : List Expr} {t : TA}
theorem go_fn {pins : List (Addr × Obj)} {σ : L2.St} {H : Hp} {s : Shared} {Q : VK} {us : List Value} {vs : List V} (F : FnG X.prog X.w X.K X.mg X.base CX k f fd ps sp) (hg : X.A.guards = some []) (hr : Room k X.A)
    (hb : Binds X.K fd ps dfs) (hd : Vals dvs dfs) (hx : Passes CX X E) (I : Inv X pins σ H s) (r : Vals vs us) (h : sp (vs ++ dvs) H Q E) :
    wpAny (model X.prog X.w) X.A (call (.ref f) us) (EP X pins σ Q) X.xe s := by
  have both := r.append hd
  have n : (us ++ dfs).length = ps.length := both.length.symm.trans (F.cnt _ _ _ _ h)
  apply wpAny_call
  apply codeAny_mono (F.go X.A X.stack s H ⟨us, []⟩ _ _ Q E hg hr I.env0 (hb s us I.kIn n) both h)
  intro r s' z
  match r with
  | .error e => exact hx pins σ H s e s' I z
  | .ok (.ret u) => exact I.after z
  | .ok .next => exact absurd z id
  | .ok .brk => exact absurd z id
  | .ok .cont => exact absurd z id
/-- f(..) -/
theorem pe_callG (F : FnG X.prog X.w X.K X.mg X.base CX k f fd ps sp) (hgd : X.A.guards = some []) (hr : Room k X.A) (hg : Gl X x) (hm : X.mg x = some (.ref f)) (hk : PySem.W.keepIn X.K (.ref f) = true) (hb : Binds X.K fd ps dfs) (hd : Vals dvs dfs) (hx : Passes CX X E)
    (ha : PA X (e :: es) t) (hdb : (x == ("__debug__" : Str)) = false := by decide) (he : starEach (e :: es) X.env = (false, eval e X.env) :: starEach es X.env := by rfl) (hpl : (backTo pos (starEach es X.env)).any (·.1) = false := by rfl) :
    PE X (.Call (.Name x p) (e :: es) [] pos) (tCall sp dvs E t) := by
  constructor
  intro pins s σ H Q I h
  apply wpAny_Call_Name_kw
  apply ld_glob I hg hm _ hdb
  apply PySem.W.callWith_K (h₀ := X.base) I.ok.mod.kin hk _ he hpl
  apply thn (ha.run pos pins s σ H _ I h)
  rintro us s1 ⟨vs, H1, I1, r, q⟩
  exact ⟨I1.kIn, go_fn F hgd hr hb hd hx I1 r q⟩
theorem pe_callG0 (F : FnG X.prog X.w X.K X.mg X.base CX k f fd ps sp) (hgd : X.A.guards = some []) (hr : Room k X.A) (hg : Gl X x) (hm : X.mg x = some (.ref f)) (hk : PySem.W.keepIn X.K (.ref f) = true) (hb : Binds X.K fd ps dfs) (hd : Vals dvs dfs) (hx : Passes CX X E)
    (hdb : (x == ("__debug__" : Str)) = false := by decide) : PE X (.Call (.Name x p) [] [] pos) (tCall sp dvs E tNil) := by
  constructor
  intro pins s σ H Q I h
  apply wpAny_Call_Name_kw
  apply ld_glob I hg hm _ hdb
  apply PySem.W.callWith_K0 I.kIn hk
  exact go_fn (us := []) F hgd hr hb hd hx I .nil h
end

/-! ### promises by data -/
/-- how a result stands: shared data, or a list of its own (new) -/
inductive Ret where
  | sh (d : Dt) | ow (ds : List Dt)
def Ret.dt : Ret → Dt
  | .sh d => d
  | .ow ds => .sq false ds
def RetIs (K : PySem.W.Frag) (S : List Addr) (H H' : Hp) : Ret → V → Prop
  | .sh d, v => Is K (hid S H') d v
  | .ow ds, v => ∃ p xs, v = .ref p ∧ H p = none ∧ H' p = some (.lst xs) ∧ IsAll K (hid (p :: S) H') ds xs
/-- R ds r: upon the data ds the def hands back r -/
def spD (K : PySem.W.Frag) (R : List Dt → Ret → Prop) : Sp := fun vs H Q _ => ∃ S ds r, (∀ p, p ∈ S → H p ≠ none) ∧ IsAll K (hid S H) ds vs ∧ R ds r ∧ ∀ v H', Ex H H' → RetIs K S H H' r v → Q v H'
theorem RetIs.is {K : PySem.W.Frag} {S : List Addr} {H H' : Hp} {r : Ret} {v : V} (hS : ∀ p, p ∈ S → H p ≠ none) (h : RetIs K S H H' r v) : Is K (hid S H') r.dt v := by
  cases r with
  | sh d => exact h
  | ow ds =>
    obtain ⟨p, xs, rfl, h0, h1, h2⟩ := h
    simp only [Ret.dt, Is]
    refine ⟨p, xs, rfl, ?_, h2.mono (hid_sub H' fun q hq => List.mem_cons_of_mem _ hq)⟩
    show hid S H' p = _
    rw [hid_out (fun z => hS p z h0)]; exact h1
section
variable {X : Cx} {δ : List Slot} {k j : Nat} {f : Addr} {fd : FuncData} {ps : List Str} {R : List Dt → Ret → Prop} {dvs : List V} {dfs : List Value} {x : Str} {p pos : Pos} {e : Expr} {es : List Expr} {ds dds : List Dt} {r : Ret}
/-- a def as it is known where it is called -/
structure Def (P : Program) (w : World) (K : PySem.W.Frag) (mg : Str → Option Value) (base : Heap) (x : Str) (j : Nat) (ps : List Str) (dds : List Dt) (R : List Dt → Ret → Prop) : Prop where
  is : ∃ f fd dvs dfs, FnG P w K mg base CX0 j f fd ps (spD K R) ∧ mg x = some (.ref f) ∧ PySem.W.keepIn K (.ref f) = true ∧ Binds K fd ps dfs ∧ Vals dvs dfs ∧ ∀ H, IsAll K H dds dvs
theorem tCall_of {K : PySem.W.Frag} {dvs : List V} (hd : ∀ H, IsAll K H dds dvs) (hR : R (ds ++ dds) r) (σ : L2.St) (H : Hp) (Q : VK) (E : XK) (h : tD K δ r.dt σ H Q) : tCall (spD K R) dvs E (tDA K δ ds) σ H Q := by
  obtain ⟨S, O, En, q⟩ := h
  refine ⟨S, O, En, fun vs H1 e1 i1 => ?_⟩
  exact ⟨O ++ S, ds ++ dds, r, (En.mono e1).trk, i1.append (hd _), hR, fun v H' e2 z => q v H' (e1.trans e2) (z.is (En.mono e1).trk)⟩
theorem de_call (P : Plc X k) (F : Def X.prog X.w X.K X.mg X.base x j ps dds R) (hj : j ≤ k) (hg : Gl X x) (ha : DA X δ (e :: es) ds) (hR : R (ds ++ dds) r)
    (hdb : (x == ("__debug__" : Str)) = false := by decide) (he : starEach (e :: es) X.env = (false, eval e X.env) :: starEach es X.env := by rfl) (hpl : (backTo pos (starEach es X.env)).any (·.1) = false := by rfl) :
    DE X δ (.Call (.Name x p) (e :: es) [] pos) r.dt := by
  obtain ⟨f, fd, dvs, dfs, F, hm, hk, hb, hv, hd⟩ := F.is
  exact imE (pe_callG F P.gds (P.room.mono hj) hg hm hk hb hv pass0 ha hdb he hpl) fun σ H Q h => tCall_of hd hR σ H Q E0 h
theorem de_callS {d : Dt} (P : Plc X k) (F : Def X.prog X.w X.K X.mg X.base x j ps dds R) (hj : j ≤ k) (hg : Gl X x) (ha : DA X δ (e :: es) ds) (hR : R (ds ++ dds) (.sh d))
    (hdb : (x == ("__debug__" : Str)) = false := by decide) (he : starEach (e :: es) X.env = (false, eval e X.env) :: starEach es X.env := by rfl) (hpl : (backTo pos (starEach es X.env)).any (·.1) = false := by rfl) :
    DE X δ (.Call (.Name x p) (e :: es) [] pos) d := de_call (r := .sh d) P F hj hg ha hR hdb he hpl
end
end Dat

set_option Elab.async false
set_option linter.all false
set_option maxRecDepth 100000
set_option maxHeartbeats 2000000
namespace Dat
open PySem L2

/-! ### statements by data -/
structure DEnds where
  nx : List Slot → Prop
  rt : Ret → Prop := fun _ => False
  bk : List Slot → Prop := fun _ => False
  ct : List Slot → Prop := fun _ => False
def RetW (K : PySem.W.Frag) (S O : List Addr) (H : Hp) : Ret → V → Prop
  | .sh d, v => Is K (hid (O ++ S) H) d v
  | .ow ds, v => ∃ p xs, v = .ref p ∧ p ∈ O ∧ H p = some (.lst xs) ∧ IsAll K (hid (O ++ S) H) ds xs
/-- what the ends of the data promise to the ends of the walk -/
structure Links (K : PySem.W.Frag) (S O : List Addr) (H : Hp) (D : DEnds) (L : Ends) : Prop where
  nx : ∀ O' σ' H' δ', Step S O H O' H' → SEnv K S O' H' σ' δ' → D.nx δ' → L.nx σ' H'
  bk : ∀ O' σ' H' δ', Step S O H O' H' → SEnv K S O' H' σ' δ' → D.bk δ' → L.bk σ' H'
  ct : ∀ O' σ' H' δ', Step S O H O' H' → SEnv K S O' H' σ' δ' → D.ct δ' → L.ct σ' H'
  rt : ∀ O' σ' H' δ' v r, Step S O H O' H' → SEnv K S O' H' σ' δ' → RetW K S O' H' r v → D.rt r → L.rt v H'
theorem Links.step {K : PySem.W.Frag} {S O O1 : List Addr} {H H1 : Hp} {D : DEnds} {L : Ends} (l : Links K S O H D L) (s : Step S O H O1 H1) : Links K S O1 H1 D L :=
  ⟨fun O' σ' H' δ' t => l.nx O' σ' H' δ' (s.trans t), fun O' σ' H' δ' t => l.bk O' σ' H' δ' (s.trans t), fun O' σ' H' δ' t => l.ct O' σ' H' δ' (s.trans t), fun O' σ' H' δ' v r t => l.rt O' σ' H' δ' v r (s.trans t)⟩
def tW (K : PySem.W.Frag) (δ : List Slot) (D : DEnds) : TS := fun L σ H => ∃ S O, SEnv K S O H σ δ ∧ Links K S O H D L
abbrev DS (X : Cx) (δ : List Slot) (st : Stmt) (D : DEnds) : Prop := PS X st (tW X.K δ D)
abbrev DSs (X : Cx) (δ : List Slot) (sts : List Stmt) (D : DEnds) : Prop := PSs X sts (tW X.K δ D)
/-- a new list as a value -/
def tF (K : PySem.W.Frag) (δ : List Slot) (ds : List Dt) : TE := fun σ H Q => ∃ S O, SEnv K S O H σ δ ∧ ∀ p xs H', Ex H H' → H p = none → H' p = some (.lst xs) → IsAll K (hid (p :: (O ++ S)) H') ds xs → Q (.ref p) H'
abbrev DF (X : Cx) (δ : List Slot) (e : Expr) (ds : List Dt) : Prop := PE X e (tF X.K δ ds)

section
variable {X : Cx} {δ : List Slot} {e a b c iter : Expr} {es : List Expr} {d da db : Dt} {ds items : List Dt} {pos p : Pos} {x : Str} {st : Stmt} {rest sts : List Stmt} {D : DEnds} {k i : Nat}
def tAny (X : Cx) (sts : List Stmt) : TS := fun L σ H => ∃ t, PSs X sts t ∧ t L σ H
theorem pss_any : PSs X sts (tAny X sts) := ⟨fun pins s σ H L I ⟨t, h, q⟩ => h.run pins s σ H L I q⟩
theorem imS {t t' : TS} (h : PS X st t) (hi : ∀ L σ H, t' L σ H → t L σ H) : PS X st t' := ⟨fun pins s σ H L I q => h.run pins s σ H L I (hi _ _ _ q)⟩
theorem imSs {t t' : TS} (h : PSs X sts t) (hi : ∀ L σ H, t' L σ H → t L σ H) : PSs X sts t' := ⟨fun pins s σ H L I q => h.run pins s σ H L I (hi _ _ _ q)⟩
theorem dss_nil (h : D.nx δ) : DSs X δ [] D := imSs pss_nil fun L σ H ⟨S, O, E, l⟩ => l.nx O σ H δ (Step.refl _ _ _) E h
theorem dss_cons (h : DS X δ st { D with nx := fun δ' => DSs X δ' rest D }) : DSs X δ (st :: rest) D :=
  imSs (pss_cons h pss_any) fun L σ H ⟨S, O, E, l⟩ => ⟨S, O, E, ⟨fun O' σ' H' δ' t E' n => ⟨_, n, S, O', E', l.step t⟩, l.bk, l.ct, l.rt⟩⟩
theorem dss_one (h : DS X δ st D) : DSs X δ [st] D := imSs (pss_one h) fun L σ H q => q
/-- less is asked -/
theorem dss_weak {D' : DEnds} (h : DSs X δ sts D') (hn : ∀ δ', D'.nx δ' → D.nx δ') (hb : ∀ δ', D'.bk δ' → D.bk δ') (hc : ∀ δ', D'.ct δ' → D.ct δ') (hr : ∀ r, D'.rt r → D.rt r) : DSs X δ sts D :=
  imSs h fun L σ H ⟨S, O, E, l⟩ => ⟨S, O, E, ⟨fun O' σ' H' δ' t E' n => l.nx O' σ' H' δ' t E' (hn _ n), fun O' σ' H' δ' t E' n => l.bk O' σ' H' δ' t E' (hb _ n), fun O' σ' H' δ' t E' n => l.ct O' σ' H' δ' t E' (hc _ n), fun O' σ' H' δ' v r t E' w n => l.rt O' σ' H' δ' v r t E' w (hr _ n)⟩⟩

theorem ds_set (i : Nat) (P : Plc X k) (hi : X.N[i]? = some x) (hx : Loc X.env.scope x) (he : DE X δ e d) (h : D.nx (δ.set i (.sh d))) (hs : swapsWith e (some (.Name x p)) pos.line X.env = pure false := by rfl)
    (hf : X.fn x = true ∨ X.env.scope.names.lookup x = some .local := by first | exact .inl rfl | exact .inr rfl | assumption) : DS X δ (.Assign [.Name x p] e pos) D :=
  imS (ps_set P.nd hi hx he hs hf) fun L σ H ⟨S, O, E, l⟩ => ⟨S, O, E, fun v H1 e1 i1 => l.nx O _ H1 _ (E.step e1) ((E.mono e1).setSh i i1) h⟩
theorem setF {L : Ends} {σ : L2.St} {H : Hp} (q : tW X.K δ D L σ H) (h : D.nx (δ.set i (.ow ds))) : tAsg (tF X.K δ ds) (gName i) L σ H := by
  obtain ⟨S, O, E, l⟩ := q
  refine ⟨S, O, E, fun p xs H1 e1 h0 h1 i1 => ?_⟩
  obtain ⟨E2, s2⟩ := E.setOw i h0 e1 h1 i1
  exact l.nx (p :: O) _ H1 _ s2 E2 h
theorem ds_setO (i : Nat) (P : Plc X k) (hi : X.N[i]? = some x) (hx : Loc X.env.scope x) (he : DF X δ e ds) (h : D.nx (δ.set i (.ow ds))) (hs : swapsWith e (some (.Name x p)) pos.line X.env = pure false := by rfl)
    (hf : X.fn x = true ∨ X.env.scope.names.lookup x = some .local := by first | exact .inl rfl | exact .inr rfl | assumption) : DS X δ (.Assign [.Name x p] e pos) D :=
  imS (ps_set P.nd hi hx he hs hf) fun L σ H q => setF q h
theorem dss_frz (i : Nat) (hs : δ[i]? = some (.ow ds)) (h : DSs X (δ.set i (.sh (.sq false ds))) sts D) : DSs X δ sts D :=
  imSs h fun L σ H ⟨S, O, E, l⟩ => by
    obtain ⟨O', E', s, _⟩ := E.freeze hs
    exact ⟨S, O', E', l.step s⟩
theorem ds_app (i : Nat) {ap cp : Pos} (hi : X.N[i]? = some x) (hv : Vis X.env.scope x) (hs : δ[i]? = some (.ow ds)) (he : DE X δ e d) (hz : ds.length < sizeLine) (h : D.nx (δ.set i (.ow (ds ++ [d]))))
    (hbase : attributeBase (.Name x p) "append" X.env (eval (.Name x p) X.env) = eval (.Name x p) X.env := by rfl) (hline : (ap.endLine == cp.line) = true := by rfl)
    (hfew : ((backTo cp (starEach (e :: []) X.env)).all (fun z => !z.1) && ((backToKw cp (keywordEach [] X.env)).all (fun z => z.1.isSome)) && decide ((e :: []).length + ([] : List Keyword).length + (if ([] : List Keyword).isEmpty then 0 else 1) < 30)) = true := by rfl)
    (hd : (x == ("__debug__" : Str)) = false := by decide) (hcd : (x == ("__classdict__" : Str)) = false := by decide)
    (hst : starEach (e :: []) X.env = (false, eval e X.env) :: starEach [] X.env := by rfl) (hpl : (backTo cp (starEach [] X.env)).any (·.1) = false := by rfl)
    (hsw : swapsWith (.Call (.Attribute (.Name x p) "append" ap) [e] [] cp) none pos.line X.env = pure false := by rfl) :
    DS X δ (.Expr (.Call (.Attribute (.Name x p) "append" ap) [e] [] cp) pos) D :=
  imS (ps_expr (pe_bm PySem.F.plainAttrs_list PySem.F.slot_list_append PySem.F.type_list_append mt_append (pe_var hi hv hd hcd) (pa_cons he pa_nil hst) hbase hfew hline hst hpl) hsw) fun L σ H ⟨S, O, E, l⟩ => by
    obtain ⟨p, xs, g1, g2, g3, g4⟩ := E.ow i ds hs
    refine ⟨_, g1, .inl ⟨rfl, xs, SqL.of g3⟩, S, O, E, fun v H1 e1 i1 => ?_⟩
    have E1 := E.mono e1
    have r1 := g4.mono (hid_ex (M := O ++ S) e1)
    obtain ⟨E2, s2⟩ := E1.putOw hs g1 (r1.append (.one i1))
    exact ⟨p, xs, v, rfl, rfl, e1 _ _ g3, by rw [g4.length]; exact hz, l.nx O _ _ _ ((E.step e1).trans s2) E2 h⟩
theorem ds_put (i : Nat) {n : Int} {j : Nat} {tp : Pos} (hi : X.N[i]? = some x) (hv : Vis X.env.scope x) (hs : δ[i]? = some (.ow ds)) (he : DE X δ e d) (hb : DE X δ b (.int n)) (hj : ixN ds.length n = some j) (h : D.nx (δ.set i (.ow (ds.set j d))))
    (hd : (x == ("__debug__" : Str)) = false := by decide) (hcd : (x == ("__classdict__" : Str)) = false := by decide)
    (hsw : swapsWithSole [.Subscript (.Name x p) b tp] e pos.line X.env = pure false := by rfl)
    (hasg : ∀ v, assign (.Subscript (.Name x p) b tp) X.env v = (do
      let u1 ← holding [v] (eval (.Name x p) X.env)
      let u2 ← holding [v, u1] (eval b X.env)
      standAt tp
      holding [v, u1, u2] (setItem u1 u2 v)
      release [v, u1, u2] []) := by intro _; rfl) (hw : swappedStores [.Subscript (.Name x p) b tp] e X.env = pure none := by rfl) :
    DS X δ (.Assign [.Subscript (.Name x p) b tp] e pos) D :=
  imS (ps_asg he (pg_sub (pe_var hi hv hd hcd) hb set_list hasg) hsw hw) fun L σ H ⟨S, O, E, l⟩ => ⟨S, O, E, fun v H1 e1 i1 => by
    obtain ⟨p, xs, g1, g2, g3, g4⟩ := E.ow i ds hs
    refine ⟨_, g1, S, O, E.mono e1, fun y H2 e2 i2 => ?_⟩
    simp only [Is] at i2
    have e12 := e1.trans e2
    have r2 := g4.mono (hid_ex (M := O ++ S) e12)
    obtain ⟨E2, s2⟩ := (E.mono e12).putOw hs g1 (r2.set (i1.mono (hid_ex e2)) j)
    exact ⟨p, xs, n, j, rfl, i2, e12 _ _ g3, by rw [g4.length]; exact hj, l.nx O _ _ _ ((E.step e12).trans s2) E2 h⟩⟩
theorem ds_drop (he : DE X δ e d) (h : D.nx δ) (hs : swapsWith e none pos.line X.env = pure false := by rfl) : DS X δ (.Expr e pos) D :=
  imS (ps_expr he hs) fun L σ H ⟨S, O, E, l⟩ => ⟨S, O, E, fun v H1 e1 i1 => l.nx O _ H1 _ (E.step e1) (E.mono e1) h⟩
theorem ds_ret (he : DE X δ e d) (h : D.rt (.sh d)) : DS X δ (.Return (some e) pos) D :=
  imS (ps_ret he) fun L σ H ⟨S, O, E, l⟩ => ⟨S, O, E, fun v H1 e1 i1 => l.rt O _ H1 _ v (.sh d) (E.step e1) (E.mono e1) i1 h⟩
theorem ds_retF (he : DF X δ e ds) (h : D.rt (.ow ds)) : DS X δ (.Return (some e) pos) D :=
  imS (ps_ret he) fun L σ H ⟨S, O, E, l⟩ => ⟨S, O, E, fun q xs H1 e1 h0 h1 i1 => by
    obtain ⟨E2, s2⟩ := (E.setOw σ.length h0 e1 h1 i1)
    exact l.rt (q :: O) _ H1 _ (.ref q) (.ow ds) s2 E2 ⟨q, xs, rfl, List.mem_cons_self, h1, i1⟩ h⟩
theorem ds_retO (i : Nat) (hi : X.N[i]? = some x) (hv : Vis X.env.scope x) (hs : δ[i]? = some (.ow ds)) (h : D.rt (.ow ds))
    (hd : (x == ("__debug__" : Str)) = false := by decide) (hcd : (x == ("__classdict__" : Str)) = false := by decide) : DS X δ (.Return (some (.Name x p)) pos) D :=
  imS (ps_ret (pe_var hi hv hd hcd)) fun L σ H ⟨S, O, E, l⟩ => by
    obtain ⟨q, xs, g1, g2, g3, g4⟩ := E.ow i ds hs
    exact ⟨_, g1, l.rt O σ H δ _ (.ow ds) (Step.refl _ _ _) E ⟨q, xs, rfl, g2, g3, g4⟩ h⟩
theorem ds_retN (h : D.rt (.sh .non)) : DS X δ (.Return none pos) D :=
  imS ps_retN fun L σ H ⟨S, O, E, l⟩ => l.rt O σ H δ _ (.sh .non) (Step.refl _ _ _) E (by simp [RetW, Is]) h
theorem ds_if {t : Bool} {u v : List Stmt} (hc : DT X δ c t) (h1 : t = true → DSs X δ u D) (h2 : t = false → DSs X δ v D) : DS X δ (.If c u v pos) D := by
  cases t with
  | true => exact imS (ps_if (u := tNever) hc (h1 rfl) pss_never) fun L σ H ⟨S, O, E, l⟩ => ⟨S, O, E, fun H1 e1 => by
      dsimp only; rw [if_pos rfl]; exact ⟨S, O, E.mono e1, l.step (E.step e1)⟩⟩
  | false => exact imS (ps_if (t := tNever) hc pss_never (h2 rfl)) fun L σ H ⟨S, O, E, l⟩ => ⟨S, O, E, fun H1 e1 => by
      dsimp only; rw [if_neg Bool.false_ne_true]; exact ⟨S, O, E.mono e1, l.step (E.step e1)⟩⟩
theorem ds_pass (h : D.nx δ) : DS X δ (.Pass pos) D := imS ps_pass fun L σ H ⟨S, O, E, l⟩ => l.nx O σ H δ (Step.refl _ _ _) E h
theorem ds_break (h : D.bk δ) : DS X δ (.Break pos) D := imS ps_break fun L σ H ⟨S, O, E, l⟩ => l.bk O σ H δ (Step.refl _ _ _) E h
theorem ds_cont (h : D.ct δ) : DS X δ (.Continue pos) D := imS ps_continue fun L σ H ⟨S, O, E, l⟩ => l.ct O σ H δ (Step.refl _ _ _) E h
theorem ds_never (h : False) : DS X δ st D := h.elim
theorem dss_never (h : False) : DSs X δ sts D := h.elim

/-! ### new lists -/
theorem all_new {K : PySem.W.Frag} {M : List Addr} {H : Hp} {p : Addr} {o : HO} {ds : List Dt} {xs : List V} (hp : H p = none) (h : IsAll K (hid M H) ds xs) : IsAll K (hid (p :: M) (upd H p o)) ds xs :=
  h.mono fun a u q => by
    by_cases ha : a ∈ M
    · rw [hid_in ha] at q; cases q
    · rw [hid_out ha] at q
      have hap : a ≠ p := ne_of_none q hp
      rw [hid_out (fun z => (List.mem_cons.mp z).elim hap ha), upd_ne hap]; exact q
theorem df_lst (h : DA X δ es ds) (hl : ds.length ≤ sizeLine := by show _ ≤ 16777216; simp) : DF X δ (.List es pos) ds :=
  imE (pe_lst h) fun σ H Q ⟨S, O, E, k⟩ => ⟨S, O, E, fun vs H1 e1 i1 => ⟨by rw [i1.length]; exact hl, fun p hp => k p vs _ (e1.trans (Ex.new hp)) (e1.free hp) upd_same (all_new hp i1)⟩⟩
theorem de_of (h : DF X δ e ds) : DE X δ e (.sq false ds) := imE h fun σ H Q ⟨S, O, E, k⟩ => ⟨S, O, E, fun p xs H1 e1 h0 h1 i1 => k _ H1 e1 (by
  simp only [Is]
  refine ⟨p, xs, rfl, ?_, i1.mono (hid_sub H1 fun q hq => List.mem_cons_of_mem _ hq)⟩
  show hid _ H1 p = _
  rw [hid_out (E.fresh h0)]; exact h1)⟩
/-- list(x) -/
theorem df_list {t : Bool} (hg : Gl X "list") (hm : X.mg "list" = none) (ha : DE X δ e (.sq t ds)) (he : starEach (e :: []) X.env = (false, eval e X.env) :: starEach [] X.env := by rfl) (hpl : (backTo pos (starEach [] X.env)).any (·.1) = false := by rfl) :
    DF X δ (.Call (.Name "list" p) [e] [] pos) ds :=
  imE (pe_callTy call_list_of hg hm (by decide +kernel) (da_cons ha da_nil he) (by decide) (by decide) he hpl) fun σ H Q ⟨S, O, E, k⟩ => ⟨S, O, E, fun vs H1 e1 i1 => by
    obtain ⟨y, rfl, i⟩ := i1.one_inv
    simp only [Is] at i
    obtain ⟨a, ys, rfl, q1, r1⟩ := i
    refine ⟨a, ys, rfl, ?_, fun l hl => k l ys _ (e1.trans (Ex.new hl)) (e1.free hl) upd_same (all_new hl r1)⟩
    cases t with
    | false => exact .inl (SqL.of (hid_le _ _ _ _ q1))
    | true => exact .inr ((hid_le _ _).sqT q1)⟩
/-- a + b of lists -/
theorem df_cat {ds' : List Dt} (ha : DE X δ a (.sq false ds)) (hb : DE X δ b (.sq false ds')) (hz : ds.length + ds'.length ≤ sizeLine) : DF X δ (.BinOp a .Add b pos) (ds ++ ds') :=
  imE (pe_op op_cat ha hb) fun σ H Q ⟨S, O, E, k⟩ => ⟨S, O, E, fun v H1 e1 i1 => ⟨S, O, E.mono e1, fun w H2 e2 i2 => by
    have i1 := i1.mono (hid_ex (M := O ++ S) e2)
    simp only [Is] at i1 i2
    obtain ⟨p, vs, rfl, q1, r1⟩ := i1
    obtain ⟨q, ws, rfl, q2, r2⟩ := i2
    exact ⟨p, q, vs, ws, rfl, rfl, hid_le _ _ _ _ q1, hid_le _ _ _ _ q2, by rw [r1.length, r2.length]; exact hz, fun r hr => k r _ _ ((e1.trans e2).trans (Ex.new hr)) ((e1.trans e2).free hr) upd_same (all_new hr (r1.append r2))⟩⟩⟩
theorem df_mul {n : Int} (ha : DE X δ a (.sq false ds)) (hb : DE X δ b (.int n)) (h1 : -(2 ^ 63) ≤ n) (h2 : n < 2 ^ 63) (hz : ds.length * n.toNat ≤ sizeLine) : DF X δ (.BinOp a .Mult b pos) (List.replicate n.toNat ds).flatten :=
  imE (pe_op op_rep ha hb) fun σ H Q ⟨S, O, E, k⟩ => ⟨S, O, E, fun v H1 e1 i1 => ⟨S, O, E.mono e1, fun w H2 e2 i2 => by
    have i1 := i1.mono (hid_ex (M := O ++ S) e2)
    simp only [Is] at i1 i2
    obtain ⟨p, vs, rfl, q1, r1⟩ := i1
    exact ⟨p, n, vs, rfl, i2, hid_le _ _ _ _ q1, h1, h2, by rw [r1.length]; exact hz, fun r hr => k r _ _ ((e1.trans e2).trans (Ex.new hr)) ((e1.trans e2).free hr) upd_same (all_new hr (r1.rep _))⟩⟩⟩
theorem df_sl {lo hi : Option Expr} {i j : Option Int} {p2 : Pos} (ha : DE X δ a (.sq false ds)) (hl : DO X δ lo i) (hu : DO X δ hi j) : DF X δ (.Subscript a (.Slice lo hi none p2) pos) (cutD ds i j) :=
  imE (pe_slice sl_list ha hl hu) fun σ H Q ⟨S, O, E, k⟩ => ⟨S, O, E, fun v H1 e1 i1 => ⟨S, O, E.mono e1, fun H2 e2 => ⟨S, O, (E.mono e1).mono e2, fun H3 e3 => by
    simp only [Is] at i1
    obtain ⟨p, vs, e, q, r⟩ := i1
    have e13 := e2.trans e3
    exact ⟨p, vs, e, SqL.of (e13 _ _ (hid_le _ _ _ _ q)), fun l hl => k l _ _ ((e1.trans e13).trans (Ex.new hl)) ((e1.trans e13).free hl) upd_same (all_new hl ((r.mono (hid_ex e13)).cut i j))⟩⟩⟩⟩
theorem df_call {j : Nat} {ps : List Str} {R : List Dt → Ret → Prop} {ds dds es' : List Dt} (P : Plc X k) (F : Def X.prog X.w X.K X.mg X.base x j ps dds R) (hj : j ≤ k) (hg : Gl X x) (ha : DA X δ (e :: es) ds) (hR : R (ds ++ dds) (.ow es'))
    (hdb : (x == ("__debug__" : Str)) = false := by decide) (he : starEach (e :: es) X.env = (false, eval e X.env) :: starEach es X.env := by rfl) (hpl : (backTo pos (starEach es X.env)).any (·.1) = false := by rfl) :
    DF X δ (.Call (.Name x p) (e :: es) [] pos) es' := by
  obtain ⟨f, fd, dvs, dfs, F, hm, hk, hb, hv, hd⟩ := F.is
  refine imE (pe_callG F P.gds (P.room.mono hj) hg hm hk hb hv pass0 ha hdb he hpl) fun σ H Q ⟨S, O, En, q⟩ => ⟨S, O, En, fun vs H1 e1 i1 => ?_⟩
  exact ⟨O ++ S, ds ++ dds, .ow es', (En.mono e1).trk, i1.append (hd _), hR, fun v H' e2 ⟨p, xs, ev, h0, h1, h2⟩ => by subst ev; exact q p xs H' (e1.trans e2) (e1.free h0) h1 h2⟩

/-! ### what is walked -/
def ItOk (K : PySem.W.Frag) (J : It) (B : Hp) (items : List Dt) : Prop := ∀ (n : Nat) (M' : List Addr) (H' : Hp), Ex B (hid M' H') → (∀ p, p ∈ M' → H' p ≠ none) → n ≤ items.length →
  (n = items.length → J.stop n H') ∧ ∀ d, items[n]? = some d → J.go n H' ∧ ∀ x H'', J.yld n H' x H'' → Ex H' H'' ∧ Is K (hid M' H'') d x
def tI (K : PySem.W.Frag) (δ : List Slot) (items : List Dt) : TI := fun σ H R => ∃ S O, SEnv K S O H σ δ ∧ ∀ J H1, Ex H H1 → ItOk K J (hid (O ++ S) H1) items → R J H1
abbrev DI (X : Cx) (δ : List Slot) (tg iter : Expr) (items : List Dt) : Prop := PI X tg iter (tI X.K δ items)
theorem imI {tg : Expr} {t t' : TI} (h : PI X tg iter t) (hi : ∀ σ H R, t' σ H R → t σ H R) : PI X tg iter t' := ⟨fun pins s σ H R I q => h.run pins s σ H R I (hi _ _ _ q)⟩
theorem di_seq {tg : Expr} {t : Bool} (ha : DE X δ iter (.sq t items)) : DI X δ tg iter items := by
  cases t with
  | false =>
    refine imI (pi_list ha) fun σ H R ⟨S, O, E, k⟩ => ⟨S, O, E, fun v H1 e1 i1 => ?_⟩
    simp only [Is] at i1
    obtain ⟨a, xs, rfl, q1, r1⟩ := i1
    refine ⟨a, rfl, ⟨xs, SqL.of (hid_le _ _ _ _ q1)⟩, k _ H1 e1 fun n M' H' ex _ hn => ?_⟩
    have q2 : H' a = some (.lst xs) := hid_le _ _ _ _ (ex _ _ q1)
    refine ⟨fun z => ⟨xs, SqL.of q2, by rw [r1.length, z]; exact Nat.le_refl _⟩, fun d hd => ?_⟩
    obtain ⟨y, hy, iy⟩ := (r1.mono ex).get hd
    exact ⟨⟨xs, y, SqL.of q2, hy⟩, fun w H'' ⟨e2, z⟩ => by
      subst e2
      have := z xs (SqL.of q2)
      rw [hy] at this; cases this
      exact ⟨Ex.refl _, iy⟩⟩
  | true =>
    refine imI (pi_tup ha) fun σ H R ⟨S, O, E, k⟩ => ⟨S, O, E, fun v H1 e1 i1 => ?_⟩
    simp only [Is] at i1
    obtain ⟨a, xs, rfl, q1, r1⟩ := i1
    refine ⟨a, rfl, ⟨xs, (hid_le _ _).sqT q1⟩, k _ H1 e1 fun n M' H' ex _ hn => ?_⟩
    have q2 : SqT X.K H' a xs := (hid_le _ _).sqT (ex.sqT q1)
    refine ⟨fun z => ⟨xs, q2, by rw [r1.length, z]; exact Nat.le_refl _⟩, fun d hd => ?_⟩
    obtain ⟨y, hy, iy⟩ := (r1.mono ex).get hd
    exact ⟨⟨xs, y, q2, hy⟩, fun w H'' ⟨e2, z⟩ => by
      subst e2
      have := z xs q2
      rw [hy] at this; cases this
      exact ⟨Ex.refl _, iy⟩⟩
theorem di_scr {tg : Expr} {ns : List Int} (ha : DE X δ iter (.scr ns)) : DI X δ tg iter (ns.map Dt.int) := by
  refine imI (pi_list ha) fun σ H R ⟨S, O, E, k⟩ => ⟨S, O, E, fun v H1 e1 i1 => ?_⟩
  simp only [Is] at i1
  obtain ⟨a, rfl, q1⟩ := i1
  refine ⟨a, rfl, ⟨_, (hid_le _ _).sqL q1⟩, k _ H1 e1 fun n M' H' ex _ hn => ?_⟩
  have q2 : SqL X.K H' a (ns.map V.int) := (hid_le _ _).sqL (ex.sqL q1)
  refine ⟨fun z => ⟨_, q2, by rw [z]; simp⟩, fun d hd => ?_⟩
  rw [List.getElem?_map] at hd
  cases hn : ns[n]? with
  | none => rw [hn] at hd; cases hd
  | some m =>
    rw [hn] at hd
    simp only [Option.map_some, Option.some.injEq] at hd
    subst hd
    have hy : (ns.map V.int)[n]? = some (.int m) := by rw [List.getElem?_map, hn]; rfl
    exact ⟨⟨_, _, q2, hy⟩, fun w H'' ⟨e2, z⟩ => by
      subst e2
      have := z _ q2
      rw [hy] at this; cases this
      exact ⟨Ex.refl _, is_int⟩⟩
def rngD (lo : Int) (n : Nat) : List Dt := (List.range n).map fun (i : Nat) => .int (lo + (i : Int))
theorem rngD_len {lo : Int} {n : Nat} : (rngD lo n).length = n := by simp [rngD]
theorem rngD_get {lo : Int} {n i : Nat} {d : Dt} (h : (rngD lo n)[i]? = some d) : i < n ∧ d = .int (lo + (i : Int)) := by
  have hi := lt_of_get h
  rw [rngD_len] at hi
  refine ⟨hi, ?_⟩
  unfold rngD at h
  rw [List.getElem?_map, List.getElem?_range hi] at h
  simpa using h.symm
theorem itr_ok {K : PySem.W.Frag} {lo : Int} {n : Nat} {B : Hp} : ItOk K (Itr lo n) B (rngD lo n) := fun m M' H' ex _ hm =>
  ⟨fun z => by rw [rngD_len] at z; exact Nat.le_of_eq z.symm, fun d hd => by
    obtain ⟨h1, h2⟩ := rngD_get hd
    exact ⟨h1, fun x H'' ⟨e2, z⟩ => by
      subst e2; rw [h2, z]; exact ⟨Ex.refl _, is_int⟩⟩⟩
theorem di_rng1 {tg : Expr} {n : Int} (hg : Gl X "range") (hm : X.mg "range" = none) (ha : DE X δ a (.int n)) (h1 : -(2 ^ 62) ≤ n) (h2 : n < 2 ^ 62) (hs : starEach [a] X.env = [(false, eval a X.env)] := by rfl) (he : starEach (a :: []) X.env = (false, eval a X.env) :: starEach [] X.env := by rfl) :
    DI X δ tg (.Call (.Name "range" p) [a] [] pos) (rngD 0 n.toNat) :=
  imI (pi_range1 hg hm (da_cons ha da_nil he) hs) fun σ H R ⟨S, O, E, k⟩ => ⟨S, O, E, fun vs H1 e1 i1 => by
    obtain ⟨y, rfl, i⟩ := i1.one_inv
    simp only [Is] at i; subst i
    exact ⟨n, rfl, h1, h2, k _ H1 e1 itr_ok⟩⟩
theorem di_rng2 {tg : Expr} {m n : Int} (hg : Gl X "range") (hm : X.mg "range" = none) (ha : DE X δ a (.int m)) (hb : DE X δ b (.int n)) (h0 : -(2 ^ 62) ≤ m ∧ m < 2 ^ 62 ∧ -(2 ^ 62) ≤ n ∧ n < 2 ^ 62)
    (hs : starEach [a, b] X.env = [(false, eval a X.env), (false, eval b X.env)] := by rfl) (hs2 : starEach [b] X.env = [(false, eval b X.env)] := by rfl) (he : starEach (a :: [b]) X.env = (false, eval a X.env) :: starEach [b] X.env := by rfl) (he2 : starEach (b :: []) X.env = (false, eval b X.env) :: starEach [] X.env := by rfl) :
    DI X δ tg (.Call (.Name "range" p) [a, b] [] pos) (rngD m (n - m).toNat) :=
  imI (pi_range2 hg hm (da_cons ha (da_cons hb da_nil he2) he) hs hs2) fun σ H R ⟨S, O, E, k⟩ => ⟨S, O, E, fun vs H1 e1 i1 => by
    obtain ⟨y, z, rfl, i, j⟩ := i1.two_inv
    simp only [Is] at i j; subst i; subst j
    exact ⟨m, n, rfl, h0, k _ H1 e1 itr_ok⟩⟩

/-! ### for -/
theorem ds_for0 {tg : Expr} {body : List Stmt} {g : TG} (P : Plc X k) (hi : DI X δ tg iter items) (hg : PG X tg g) (hs0 : ∀ x, foldedSetIterable iter X.env x = pure x)
    (Inv : Nat → List Slot → Prop) (h0 : Inv 0 δ)
    (hs : ∀ n d δ', items[n]? = some d → Inv n δ' → ∃ δ'', (∀ S O H σ v, SEnv X.K S O H σ δ' → Is X.K (hid (O ++ S) H) d v → ∀ Q : L2.St → Hp → Prop, (∀ σ', SEnv X.K S O H σ' δ'' → Q σ' H) → g v σ H Q) ∧
      DSs X δ'' body { nx := Inv (n + 1), ct := Inv (n + 1), bk := D.nx, rt := D.rt })
    (hd : ∀ δ', Inv items.length δ' → D.nx δ') : DS X δ (.For tg iter body [] pos) D :=
  imS (ps_for P.own P.calm hi hg pss_any hs0) fun L σ H ⟨S, O, E, l⟩ => ⟨S, O, E, fun J H1 e1 it => by
    refine ⟨fun n m σ' H' => m = items.length - n ∧ n ≤ items.length ∧ ∃ O' δ', Step S O H1 O' H' ∧ SEnv X.K S O' H' σ' δ' ∧ Inv n δ', ⟨_, rfl, Nat.zero_le _, O, δ, Step.refl _ _ _, E.mono e1, h0⟩, ?_⟩
    rintro n m σ' H' ⟨rfl, hn, O', δ', s', E', i'⟩
    have ok := it n (O' ++ S) H' s'.ex E'.trk hn
    have l' := l.step (E.step e1)
    by_cases hlt : n < items.length
    · obtain ⟨go, yl⟩ := ok.2 items[n] (by simp [hlt])
      refine .inr ⟨go, fun σ2 H2 => ∃ O2 δ2, Step S O H1 O2 H2 ∧ SEnv X.K S O2 H2 σ2 δ2 ∧ Inv (n + 1) δ2, ?_, ?_⟩
      · rintro σ2 H2 ⟨O2, δ2, s2, E2, i2⟩
        exact ⟨items.length - (n + 1), by omega, rfl, hlt, O2, δ2, s2, E2, i2⟩
      · intro v H2 y
        obtain ⟨ex2, iv⟩ := yl v H2 y
        obtain ⟨δ'', hgo, hbody⟩ := hs n items[n] δ' (by simp [hlt]) i'
        have E2 := E'.mono ex2
        have s2 := s'.trans (E'.step ex2)
        refine hgo S O' H2 σ' v E2 iv _ fun σ'' E3 => ⟨_, hbody, S, O', E3, ⟨fun O4 σ4 H4 δ4 t4 E4 n4 => ⟨O4, δ4, s2.trans t4, E4, n4⟩, fun O4 σ4 H4 δ4 t4 E4 n4 => l'.nx O4 σ4 H4 δ4 (s2.trans t4) E4 n4, fun O4 σ4 H4 δ4 t4 E4 n4 => ⟨O4, δ4, s2.trans t4, E4, n4⟩, fun O4 σ4 H4 δ4 v r t4 E4 w n4 => l'.rt O4 σ4 H4 δ4 v r (s2.trans t4) E4 w n4⟩⟩
    · have e : n = items.length := by omega
      subst e
      exact .inl ⟨ok.1 rfl, l'.nx O' σ' H' δ' s' E' (hd δ' i')⟩⟩
theorem ds_for (i : Nat) {body : List Stmt} (P : Plc X k) (hN : X.N[i]? = some x) (hx : Loc X.env.scope x) (hi : DI X δ (.Name x p) iter items)
    (Inv : Nat → List Slot → Prop) (h0 : Inv 0 δ)
    (hs : ∀ n d δ', items[n]? = some d → Inv n δ' → DSs X (δ'.set i (.sh d)) body { nx := Inv (n + 1), ct := Inv (n + 1), bk := D.nx, rt := D.rt })
    (hd : ∀ δ', Inv items.length δ' → D.nx δ') (hs0 : ∀ x, foldedSetIterable iter X.env x = pure x := by intro _; rfl)
    (hf : X.fn x = true ∨ X.env.scope.names.lookup x = some .local := by first | exact .inl rfl | exact .inr rfl | assumption) : DS X δ (.For (.Name x p) iter body [] pos) D :=
  ds_for0 P hi (pg_name P.nd hN hx hf) hs0 Inv h0 (fun n d δ' hd i' => ⟨_, fun S O H σ v E iv Q q => q _ (E.setSh i iv), hs n d δ' hd i'⟩) hd
/-- for a, b in .. over pairs that are tuples -/
theorem ds_for2 (i j : Nat) {y : Str} {py pt : Pos} {body : List Stmt} {kk} (P : Plc X k) (hN : X.N[i]? = some x) (hx : Loc X.env.scope x) (hN2 : X.N[j]? = some y) (hy : Loc X.env.scope y)
    (hi : DI X δ (.Tuple [.Name x p, .Name y py] kk pt) iter items)
    (Inv : Nat → List Slot → Prop) (h0 : Inv 0 δ)
    (hs : ∀ n d δ', items[n]? = some d → Inv n δ' → ∃ d1 d2, d = .sq true [d1, d2] ∧ DSs X ((δ'.set i (.sh d1)).set j (.sh d2)) body { nx := Inv (n + 1), ct := Inv (n + 1), bk := D.nx, rt := D.rt })
    (hd : ∀ δ', Inv items.length δ' → D.nx δ') (hs0 : ∀ x, foldedSetIterable iter X.env x = pure x := by intro _; rfl)
    (hf : X.fn x = true ∨ X.env.scope.names.lookup x = some .local := by first | exact .inl rfl | exact .inr rfl | assumption)
    (hf2 : X.fn y = true ∨ X.env.scope.names.lookup y = some .local := by first | exact .inl rfl | exact .inr rfl | assumption) : DS X δ (.For (.Tuple [.Name x p, .Name y py] kk pt) iter body [] pos) D :=
  ds_for0 P hi (pg_tup P.calm (pgs_cons (pg_name P.nd hN hx hf) (pgs_cons (pg_name P.nd hN2 hy hf2) pgs_nil))) hs0 Inv h0 (fun n d δ' hd i' => by
    obtain ⟨d1, d2, rfl, h⟩ := hs n d δ' hd i'
    refine ⟨_, fun S O H σ v E iv Q q => ?_, h⟩
    simp only [Is] at iv
    obtain ⟨a, xs, rfl, q1, r1⟩ := iv
    obtain ⟨v1, v2, rfl, i1, i2⟩ := r1.two_inv
    exact ⟨a, _, rfl, (hid_le _ _).sqT q1, rfl, v1, _, rfl, v2, _, rfl, rfl, q _ ((E.setSh i i1).setSh j i2)⟩) hd
end
end Dat

set_option Elab.async false
set_option linter.all false
set_option maxRecDepth 100000
set_option maxHeartbeats 2000000
namespace Dat
open PySem L2

/-! ### list comprehensions -/
def wipeD (δ : List Slot) : List Nat → List Slot
  | [] => δ
  | v :: vs => (wipeD δ vs).set v .no
theorem SEnv.wipe {K : PySem.W.Frag} {S O : List Addr} {H : Hp} {σ : L2.St} {δ : List Slot} (E : SEnv K S O H σ δ) : ∀ vs : List Nat, SEnv K S O H (L2.wipe σ vs) (wipeD δ vs)
  | [] => E
  | v :: vs => (E.wipe vs).setNo v none
section
variable {K : PySem.W.Frag} {S O : List Addr} {H H' : Hp} {σ : L2.St} {δ : List Slot} {p : Addr} {o : HO}
/-- a list that is being made stands aside -/
theorem park_ex (ht : ∀ q, q ∈ O ++ S → H q ≠ none) (hp : H p = none) (e : Ex H H') : Ex (hid (O ++ S) H) (hid (O ++ p :: S) H') := fun a u q => by
  by_cases ha : a ∈ O ++ S
  · rw [hid_in ha] at q; cases q
  · rw [hid_out ha] at q
    have hap : a ≠ p := ne_of_none q hp
    rw [hid_out, e a u q]
    intro z
    rcases List.mem_append.mp z with z | z
    · exact ha (List.mem_append_left _ z)
    · rcases List.mem_cons.mp z with z | z
      · exact hap z
      · exact ha (List.mem_append_right _ z)
theorem SEnv.park (E : SEnv K S O H σ δ) (hp : H p = none) (e : Ex H H') (hp' : H' p ≠ none) : SEnv K (p :: S) O H' σ δ := by
  have hs := park_ex E.trk hp e
  have hf := E.fresh hp
  refine ⟨fun q hq => ?_, fun q hq z => ?_, E.len, fun i d h => ?_, fun i ds h => ?_, E.inj⟩
  · by_cases z : q = p
    · rw [z]; exact hp'
    · have : q ∈ O ++ S := by
        rcases List.mem_append.mp hq with y | y
        · exact List.mem_append_left _ y
        · exact List.mem_append_right _ ((List.mem_cons.mp y).resolve_left z)
      have h0 := E.trk q this
      rw [hold_of (M := []) e h0]; exact h0
  · rcases List.mem_cons.mp z with z | z
    · exact hf (List.mem_append_left _ (z ▸ hq))
    · exact E.dis q hq z
  · obtain ⟨v, h1, h2⟩ := E.sh i d h
    exact ⟨v, h1, h2.mono hs⟩
  · obtain ⟨q, xs, h1, h2, h3, h4⟩ := E.ow i ds h
    exact ⟨q, xs, h1, h2, e _ _ h3, h4.mono hs⟩
theorem SEnv.parked (E : SEnv K (p :: S) O H σ δ) : SEnv K (p :: S) O (upd H p o) σ δ := by
  have hh : hid (O ++ p :: S) (upd H p o) = hid (O ++ p :: S) H := hid_upd (List.mem_append_right _ List.mem_cons_self)
  refine ⟨fun q hq => ?_, E.dis, E.len, fun i d h => by rw [hh]; exact E.sh i d h, fun i ds h => ?_, E.inj⟩
  · by_cases e : q = p
    · rw [e, upd_same]; simp
    · rw [upd_ne e]; exact E.trk q hq
  · obtain ⟨q, xs, h1, h2, h3, h4⟩ := E.ow i ds h
    have : q ≠ p := fun z => E.dis q h2 (by rw [z]; exact List.mem_cons_self)
    exact ⟨q, xs, h1, h2, by rw [upd_ne this]; exact h3, by rw [hh]; exact h4⟩
theorem filterMap_take {α β : Type} (f : α → Option β) {l : List α} {n : Nat} {a : α} (h : l[n]? = some a) : (l.take (n + 1)).filterMap f = (l.take n).filterMap f ++ (f a).toList := by
  rw [List.take_add_one, h, List.filterMap_append]
  cases q : f a <;> simp [q]
end

section
variable {X : Cx} {δ : List Slot} {iter tg elt : Expr} {ifs : List Expr} {scope : Scope} {own : List (Str × Nat)} {g : TG} {items : List Dt} {pos : Pos} {k : Nat}
/-- the block of a comprehension -/
abbrev Blk (X : Cx) (scope : Scope) (s : Shared) (H : Hp) (C : Addr) (cl : List (Str × Addr)) (fp : List Addr) : Cx := X.blk s H scope (compEnvC scope cl C X.env) fp
def tEB (X : Cx) (scope : Scope) (elt : Expr) : TE := fun σ H Q => ∃ t, (∀ s H C cl fp, PE (Blk X scope s H C cl fp) elt t) ∧ t σ H Q
def tTB (X : Cx) (scope : Scope) (ifs : List Expr) : TT := fun σ H Q => ∃ t, (∀ s H C cl fp, PTs (Blk X scope s H C cl fp) ifs t) ∧ t σ H Q
/-- what the block does at an item: d the item, o what is put into the list -/
def Turns (X : Cx) (δ : List Slot) (scope : Scope) (g : TG) (vs : List Nat) (ifs : List Expr) (elt : Expr) (d : Dt) (o : Option Dt) : Prop :=
  ∃ δ'', (∀ S O H σ v, SEnv X.K S O H (L2.wipe σ vs) (wipeD δ vs) → Is X.K (hid (O ++ S) H) d v → ∀ Q : L2.St → Hp → Prop, (∀ σ', SEnv X.K S O H σ' δ'' → L2.wipe σ' vs = L2.wipe σ vs → Q σ' H) → g v (L2.wipe σ vs) H Q) ∧
    (∀ s H C cl fp, PTs (Blk X scope s H C cl fp) ifs (tDT X.K δ'' o.isSome)) ∧ ∀ r, o = some r → ∀ s H C cl fp, DE (Blk X scope s H C cl fp) δ'' elt r
theorem lc_of (os : List (Option Dt)) (hl : os.length = items.length) (hz : items.length ≤ sizeLine) (hs : ∀ (n : Nat) d o, items[n]? = some d → os[n]? = some o → Turns X δ scope g (own.map (·.2)) ifs elt d o)
    (σ : L2.St) (H : Hp) (Q : VK) (h : tF X.K δ (os.filterMap id) σ H Q) : tLc (tI X.K δ items) g (tTB X scope ifs) (tEB X scope elt) (own.map (·.2)) σ H Q := by
  obtain ⟨S, O, E, q⟩ := h
  refine ⟨S, O, E, fun J H1 e1 it D hD => ?_⟩
  have E1 := E.mono e1
  refine ⟨fun n m H' => m = items.length - n ∧ n ≤ items.length ∧ Ex H1 H' ∧ SEnv X.K (D :: S) O H' (L2.wipe σ (own.map (·.2))) (wipeD δ (own.map (·.2))) ∧
    ∃ acc, H' D = some (.lst acc) ∧ acc.length ≤ n ∧ IsAll X.K (hid (O ++ D :: S) H') ((os.take n).filterMap id) acc, ⟨_, rfl, Nat.zero_le _, Ex.new hD, ?_, [], upd_same, Nat.le_refl _, by simp [IsAll]⟩, ?_⟩
  · exact (E1.park hD (Ex.new hD) (by rw [upd_same]; simp)).wipe _
  · rintro n m H' ⟨rfl, hn, ex, E', acc, ha, hal, hi⟩
    have ok := it n (O ++ D :: S) H' (park_ex E1.trk hD ex) E'.trk hn
    by_cases hlt : n < items.length
    · have hd : items[n]? = some items[n] := by simp [hlt]
      have ho : os[n]? = some (os[n]'(by omega)) := by simp [hl, hlt]
      generalize items[n] = d at hd
      generalize os[n]'(by omega) = o at ho
      obtain ⟨go, yl⟩ := ok.2 d hd
      obtain ⟨δ'', hgo, htest, helt⟩ := hs n d o hd ho
      refine .inr ⟨go, fun H2 => n + 1 ≤ items.length ∧ Ex H1 H2 ∧ SEnv X.K (D :: S) O H2 (L2.wipe σ (own.map (·.2))) (wipeD δ (own.map (·.2))) ∧
        ∃ acc, H2 D = some (.lst acc) ∧ acc.length ≤ n + 1 ∧ IsAll X.K (hid (O ++ D :: S) H2) ((os.take (n + 1)).filterMap id) acc, fun H2 z => ⟨_, by omega, rfl, z⟩, fun v H2 y => ?_⟩
      obtain ⟨ex2, iv⟩ := yl v H2 y
      have E2 := E'.mono ex2
      refine hgo (D :: S) O H2 σ v E2 iv _ fun σ' E3 hw => ⟨hw, _, htest, D :: S, O, E3, fun H3 e3 => ?_⟩
      have e23 := ex2.trans e3
      have i3 := hi.mono (hid_ex (M := O ++ D :: S) e23)
      have Ew := E2.mono e3
      cases o with
      | none =>
        simp only [Option.isSome_none, Bool.false_eq_true, if_false]
        refine ⟨hlt, ex.trans e23, Ew, acc, e23 _ _ ha, by omega, ?_⟩
        rw [filterMap_take id ho]
        simpa using i3
      | some r =>
        simp only [Option.isSome_some, if_true]
        refine ⟨tD X.K δ'' r, helt r rfl, D :: S, O, E3.mono e3, fun w H4 e4 i4 => ⟨acc, e4 _ _ (e23 _ _ ha), by omega, hlt, fun a u z => ?_, (Ew.mono e4).parked, _, upd_same, by simp; omega, ?_⟩⟩
        · rw [upd_ne (ne_of_none z hD)]
          exact e4 _ _ (e23 _ _ (ex _ _ z))
        · rw [filterMap_take id ho, hid_upd (List.mem_append_right _ List.mem_cons_self)]
          exact (i3.mono (hid_ex e4)).append (.one i4)
    · have e : n = items.length := by omega
      subst e
      refine .inl ⟨ok.1 rfl, q D acc H' (e1.trans ex) (e1.free hD) ha ?_⟩
      rw [List.take_of_length_le (by omega)] at hi
      refine hi.mono (hid_sub H' fun z hz => ?_)
      rcases List.mem_cons.mp hz with y | y
      · rw [y]; exact List.mem_append_right _ List.mem_cons_self
      · rcases List.mem_append.mp y with y | y
        · exact List.mem_append_left _ y
        · exact List.mem_append_right _ (List.mem_cons_of_mem _ y)
theorem tEB_ok {s : Shared} {H : Hp} {C : Addr} {cl : List (Str × Addr)} {fp : List Addr} : PE (Blk X scope s H C cl fp) elt (tEB X scope elt) := ⟨fun pins s1 σ H1 Q I ⟨t, h, q⟩ => (h s H C cl fp).run pins s1 σ H1 Q I q⟩
theorem tTB_ok {s : Shared} {H : Hp} {C : Addr} {cl : List (Str × Addr)} {fp : List Addr} : PTs (Blk X scope s H C cl fp) ifs (tTB X scope ifs) := ⟨fun pins s1 σ H1 Q I ⟨t, h, q⟩ => (h s H C cl fp).run pins s1 σ H1 Q I q⟩
theorem df_lc0 (P : Plc X k) (hi : DI X δ tg iter items) (ok : BlkOk X.N X.env.scope scope own) (hg : ∀ s H C cl fp, PG (Blk X scope s H C cl fp) tg g) (hs0 : ∀ x, foldedSetIterable iter X.env x = pure x)
    (os : List (Option Dt)) (hl : os.length = items.length) (hz : items.length ≤ sizeLine) (hs : ∀ (n : Nat) d o, items[n]? = some d → os[n]? = some o → Turns X δ scope g (own.map (·.2)) ifs elt d o) :
    DF X δ (.ListComp elt [⟨tg, iter, ifs, 0⟩] scope pos) (os.filterMap id) :=
  imE (pe_lc P.calm P.nd hi ok hg (fun _ _ _ _ _ => tTB_ok) (fun _ _ _ _ _ => tEB_ok) hs0) (lc_of os hl hz hs)
theorem ds_lc0 {y : Str} {py spos : Pos} {i : Nat} {D : DEnds} (P : Plc X k) (hy : X.N[i]? = some y) (hyl : X.env.scope.names.lookup y = some .local) (hsw : swapsWith (.ListComp elt [⟨tg, iter, ifs, 0⟩] scope pos) (some (.Name y py)) spos.line X.env = pure true)
    (hi : DI X δ tg iter items) (ok : BlkOk X.N X.env.scope scope own) (hg : ∀ s H C cl fp, PG (Blk X scope s H C cl fp) tg g) (hs0 : ∀ x, foldedSetIterable iter X.env x = pure x)
    (os : List (Option Dt)) (hl : os.length = items.length) (hz : items.length ≤ sizeLine) (hs : ∀ (n : Nat) d o, items[n]? = some d → os[n]? = some o → Turns X δ scope g (own.map (·.2)) ifs elt d o) (h : D.nx (δ.set i (.ow (os.filterMap id)))) :
    DS X δ (.Assign [.Name y py] (.ListComp elt [⟨tg, iter, ifs, 0⟩] scope pos) spos) D :=
  imS (ps_setLc P.calm P.nd hy hyl hsw hi ok hg (fun _ _ _ _ _ => tTB_ok) (fun _ _ _ _ _ => tEB_ok) hs0) fun L σ H q => lc_of os hl hz hs σ H _ (setF q h)
/-! one name, no test; one name, a test; two names -/
theorem pts_nilD {X : Cx} {δ : List Slot} : PTs X [] (tDT X.K δ true) := ⟨fun pins s σ H Q I ⟨S, O, E, q⟩ => pts_nil.run pins s σ H Q I (q H (Ex.refl H))⟩
theorem set_wipe {σ : L2.St} {i : Nat} {v : V} : L2.wipe ((L2.wipe σ [i]).set i (some v)) [i] = L2.wipe σ [i] := by
  simp [L2.wipe, List.set_set]
theorem turns1 {x : Str} {i : Nat} {d r : Dt} {fl : List Expr} {o : Option Dt} (ht : ∀ s H C cl fp, PTs (Blk X scope s H C cl fp) fl (tDT X.K (δ.set i (.sh d)) o.isSome)) (he : ∀ r, o = some r → ∀ s H C cl fp, DE (Blk X scope s H C cl fp) (δ.set i (.sh d)) elt r) :
    Turns X δ scope (gName i) ([(x, i)].map (·.2)) fl elt d o :=
  ⟨δ.set i (.sh d), fun S O H σ v E iv Q q => q _ (by
    have := E.setSh i iv
    simpa [wipeD, List.set_set] using this) set_wipe, ht, he⟩
theorem map_some_get {α β : Type} {l : List α} {n : Nat} {o : Option α} (h : (l.map some)[n]? = some o) : ∃ a, l[n]? = some a ∧ o = some a := by
  rw [List.getElem?_map] at h
  cases q : l[n]? with
  | none => rw [q] at h; cases h
  | some a => rw [q] at h; simp at h; exact ⟨a, rfl, h.symm⟩
theorem filterMap_somes {α : Type} (l : List α) : (l.map some).filterMap id = l := by
  induction l with
  | nil => rfl
  | cons a l ih => simp [ih]
variable {x : Str} {i : Nat} {p : Pos}
theorem df_lc (i : Nat) (P : Plc X k) (hi : DI X δ (.Name x p) iter items) (ok : BlkOk X.N X.env.scope scope [(x, i)]) (hg : ∀ s H C cl fp, PG (Blk X scope s H C cl fp) (.Name x p) (gName i)) (hz : items.length ≤ sizeLine)
    (rs : List Dt) (hl : rs.length = items.length) (hs : ∀ (n : Nat) d r, items[n]? = some d → rs[n]? = some r → ∀ s H C cl fp, DE (Blk X scope s H C cl fp) (δ.set i (.sh d)) elt r) (hs0 : ∀ x, foldedSetIterable iter X.env x = pure x := by intro _; rfl) :
    DF X δ (.ListComp elt [⟨.Name x p, iter, [], 0⟩] scope pos) rs := by
  have z := df_lc0 (pos := pos) (ifs := []) P hi ok hg hs0 (rs.map some) (by rw [List.length_map, hl]) hz (fun n d o h1 h2 => by
    obtain ⟨r, h3, rfl⟩ := map_some_get (β := Unit) h2
    exact turns1 (r := r) (fun _ _ _ _ _ => pts_nilD) fun r' e => by cases e; exact hs n d _ h1 h3)
  rwa [filterMap_somes] at z
theorem ds_lc (j i : Nat) {y : Str} {py spos : Pos} {D : DEnds} (P : Plc X k) (hy : X.N[j]? = some y) (hyl : X.env.scope.names.lookup y = some .local) (hsw : swapsWith (.ListComp elt [⟨.Name x p, iter, [], 0⟩] scope pos) (some (.Name y py)) spos.line X.env = pure true)
    (hi : DI X δ (.Name x p) iter items) (ok : BlkOk X.N X.env.scope scope [(x, i)]) (hg : ∀ s H C cl fp, PG (Blk X scope s H C cl fp) (.Name x p) (gName i)) (hz : items.length ≤ sizeLine)
    (rs : List Dt) (hl : rs.length = items.length) (hs : ∀ (n : Nat) d r, items[n]? = some d → rs[n]? = some r → ∀ s H C cl fp, DE (Blk X scope s H C cl fp) (δ.set i (.sh d)) elt r) (h : D.nx (δ.set j (.ow rs))) (hs0 : ∀ x, foldedSetIterable iter X.env x = pure x := by intro _; rfl) :
    DS X δ (.Assign [.Name y py] (.ListComp elt [⟨.Name x p, iter, [], 0⟩] scope pos) spos) D := by
  refine ds_lc0 (ifs := []) P hy hyl hsw hi ok hg hs0 (rs.map some) (by rw [List.length_map, hl]) hz (fun n d o h1 h2 => ?_) (by rw [filterMap_somes]; exact h)
  obtain ⟨r, h3, rfl⟩ := map_some_get (β := Unit) h2
  exact turns1 (r := r) (fun _ _ _ _ _ => pts_nilD) fun r' e => by cases e; exact hs n d _ h1 h3
theorem df_lcIf (i : Nat) {t : Expr} (P : Plc X k) (hi : DI X δ (.Name x p) iter items) (ok : BlkOk X.N X.env.scope scope [(x, i)]) (hg : ∀ s H C cl fp, PG (Blk X scope s H C cl fp) (.Name x p) (gName i)) (hz : items.length ≤ sizeLine)
    (os : List (Option Dt)) (hl : os.length = items.length) (hs : ∀ (n : Nat) d o, items[n]? = some d → os[n]? = some o → (∀ s H C cl fp, DT (Blk X scope s H C cl fp) (δ.set i (.sh d)) t o.isSome) ∧ ∀ r, o = some r → ∀ s H C cl fp, DE (Blk X scope s H C cl fp) (δ.set i (.sh d)) elt r) (hs0 : ∀ x, foldedSetIterable iter X.env x = pure x := by intro _; rfl) :
    DF X δ (.ListComp elt [⟨.Name x p, iter, [t], 0⟩] scope pos) (os.filterMap id) :=
  df_lc0 P hi ok hg hs0 os hl hz fun n d o h1 h2 => turns1 (r := .non) (fun s H C cl fp => pts_one ((hs n d o h1 h2).1 s H C cl fp)) (hs n d o h1 h2).2
theorem ds_lcIf (j i : Nat) {t : Expr} {y : Str} {py spos : Pos} {D : DEnds} (P : Plc X k) (hy : X.N[j]? = some y) (hyl : X.env.scope.names.lookup y = some .local) (hsw : swapsWith (.ListComp elt [⟨.Name x p, iter, [t], 0⟩] scope pos) (some (.Name y py)) spos.line X.env = pure true)
    (hi : DI X δ (.Name x p) iter items) (ok : BlkOk X.N X.env.scope scope [(x, i)]) (hg : ∀ s H C cl fp, PG (Blk X scope s H C cl fp) (.Name x p) (gName i)) (hz : items.length ≤ sizeLine)
    (os : List (Option Dt)) (hl : os.length = items.length) (hs : ∀ (n : Nat) d o, items[n]? = some d → os[n]? = some o → (∀ s H C cl fp, DT (Blk X scope s H C cl fp) (δ.set i (.sh d)) t o.isSome) ∧ ∀ r, o = some r → ∀ s H C cl fp, DE (Blk X scope s H C cl fp) (δ.set i (.sh d)) elt r) (h : D.nx (δ.set j (.ow (os.filterMap id)))) (hs0 : ∀ x, foldedSetIterable iter X.env x = pure x := by intro _; rfl) :
    DS X δ (.Assign [.Name y py] (.ListComp elt [⟨.Name x p, iter, [t], 0⟩] scope pos) spos) D :=
  ds_lc0 P hy hyl hsw hi ok hg hs0 os hl hz (fun n d o h1 h2 => turns1 (r := .non) (fun s H C cl fp => pts_one ((hs n d o h1 h2).1 s H C cl fp)) (hs n d o h1 h2).2) h
/-- the place within a block -/
theorem Plc.blk (P : Plc X k) {s : Shared} {H : Hp} {C : Addr} {cl : List (Str × Addr)} {fp : List Addr} : Plc (Blk X scope s H C cl fp) k := ⟨P.room, P.calm, P.gds, PassesOwn.never, P.nd, P.dig⟩
end
end Dat

set_option Elab.async false
set_option linter.all false
set_option maxRecDepth 100000
set_option maxHeartbeats 2000000
namespace Dat
open PySem L2
open PyProof.Rows (IntsAre AllBare)

/-! ### a def by its body's data -/
abbrev BX (P : Program) (w : World) (K : PySem.W.Frag) (mg : Str → Option Value) (base : Heap) (N : List Str) (qual : Str) (st : Stmt) (f : Addr) (cdv : Value) (A : Around) (outer : List Env) (s : Shared) (H : Hp) (E : XK) : Cx :=
  (cxOf CX0 P w K mg base N qual (defScope st) f cdv A outer s H E).nox
def startD (N : List Str) (ds : List Dt) : List Slot := ds.map .sh ++ List.replicate (N.length - ds.length) .no
def okR (r' r : Ret) : Prop := r' = r ∨ r = .sh r'.dt
def fin (r : Ret) : DEnds := { nx := fun _ => r = .sh .non, rt := fun r' => okR r' r }
section
variable {P : Program} {w : World} {K : PySem.W.Frag} {mg : Str → Option Value} {base : Heap} {k : Nat} {f : Addr} {fd : FuncData} {ps N : List Str} {qual x : Str} {st : Stmt} {R : List Dt → Ret → Prop}
theorem start_env {S : List Addr} {H : Hp} {ds : List Dt} {vs : List V} (ht : ∀ p, p ∈ S → H p ≠ none) (h : IsAll K (hid S H) ds vs) : SEnv K S [] H (L2.start N vs) (startD N ds) where
  trk := ht
  dis p hp := by cases hp
  len := by simp [L2.start, startD, h.length]
  sh i d q := by
    unfold startD at q
    by_cases hi : i < ds.length
    · rw [List.getElem?_append_left (by simpa using hi), List.getElem?_map] at q
      cases e : ds[i]? with
      | none => rw [e] at q; cases q
      | some c =>
        rw [e] at q
        simp only [Option.map_some, Option.some.injEq, Slot.sh.injEq] at q
        subst q
        obtain ⟨v, h1, h2⟩ := h.get e
        refine ⟨v, ?_, h2⟩
        unfold L2.start
        rw [List.getElem?_append_left (by simpa [h.length] using hi), List.getElem?_map, h1]
        rfl
    · rw [List.getElem?_append_right (by simpa using Nat.le_of_not_lt hi), List.getElem?_replicate] at q
      split at q <;> cases q
  ow i c q := by
    unfold startD at q
    by_cases hi : i < ds.length
    · rw [List.getElem?_append_left (by simpa using hi), List.getElem?_map] at q
      cases e : ds[i]? with
      | none => rw [e] at q; cases q
      | some c => rw [e] at q; cases q
    · rw [List.getElem?_append_right (by simpa using Nat.le_of_not_lt hi), List.getElem?_replicate] at q
      split at q <;> cases q
  inj i j c es p q := by
    exfalso
    unfold startD at q
    by_cases hi : i < ds.length
    · rw [List.getElem?_append_left (by simpa using hi), List.getElem?_map] at q
      cases e : ds[i]? with
      | none => rw [e] at q; cases q
      | some c => rw [e] at q; cases q
    · rw [List.getElem?_append_right (by simpa using Nat.le_of_not_lt hi), List.getElem?_replicate] at q
      split at q <;> cases q
theorem step_ex {S O : List Addr} {H H' : Hp} (s : Step S [] H O H') : Ex H H' := fun a o q => by
  by_cases ha : a ∈ S
  · rw [s.hold a ha]; exact q
  · exact hid_le _ _ _ _ (s.ex a o (by rw [hid_out (by simpa using ha)]; exact q))
theorem ret_ok {S O : List Addr} {H H' : Hp} {r' r : Ret} {v : V} {σ : L2.St} {δ : List Slot} (s : Step S [] H O H') (E : SEnv K S O H' σ δ) (h : RetW K S O H' r' v) (e : okR r' r) : RetIs K S H H' r v := by
  have sub : Ex (hid (O ++ S) H') (hid S H') := hid_sub H' fun p hp => List.mem_append_right _ hp
  have new : ∀ p, p ∈ O → H p = none := fun p hp => by
    have h1 : hid (O ++ S) H' p = none := hid_in (List.mem_append_left _ hp)
    have h2 := s.ex.free h1
    rwa [hid_out (by simpa using E.dis p hp)] at h2
  rcases e with e | e
  · subst e
    cases r' with
    | sh d => exact Is.mono sub h
    | ow ds =>
      obtain ⟨p, xs, e, h1, h2, h3⟩ := h
      refine ⟨p, xs, e, new p h1, h2, h3.mono (hid_sub H' fun q hq => ?_)⟩
      rcases List.mem_cons.mp hq with z | z
      · rw [z]; exact List.mem_append_left _ h1
      · exact List.mem_append_right _ z
  · subst e
    cases r' with
    | sh d => exact Is.mono sub h
    | ow ds =>
      obtain ⟨p, xs, e, h1, h2, h3⟩ := h
      subst e
      simp only [RetIs, Ret.dt, Is]
      refine ⟨p, xs, rfl, ?_, h3.mono sub⟩
      show hid S H' p = _
      rw [hid_out (E.dis p h1)]; exact h2
theorem fng_data {dvs : List V} {kws : List (Str × V)} (F : FunD K x qual (defArgs st) (defBody st) (defScope st) dvs kws f fd) (S : FnScope N ps (defScope st)) (hlen : ∀ ds r, R ds r → ds.length = ps.length) (hdig : base.NoDigits)
    (hb : ∀ (cdv : Value) (A : Around) (outer : List Env) (s : Shared) (H : Hp) (E : XK), Plc (BX P w K mg base N qual st f cdv A outer s H E) k → ∀ ds r, R ds r → DSs (BX P w K mg base N qual st f cdv A outer s H E) (startD N ds) (defBody st) (fin r)) :
    FnG P w K mg base CX0 (k + 1) f fd ps (spD K R) := by
  refine fng_of F S (fun vs H Q E ⟨S', ds, r, _, h1, h2, _⟩ => by rw [h1.length]; exact hlen _ _ h2) fun cdv A outer s H vs Q E hg hr ⟨S', ds, r, h0, h1, h2, q⟩ => ?_
  have pl : Plc (BX P w K mg base N qual st f cdv A outer s H E) k := ⟨hr, rfl, hg, PassesOwn.never, S.nd, hdig⟩
  refine ⟨_, PSs.nox (hb cdv A outer s H E pl ds r h2), S', [], start_env h0 h1, ⟨fun O' σ' H' δ' s' E' z => ?_, fun O' σ' H' δ' s' E' z => z.elim, fun O' σ' H' δ' s' E' z => z.elim, fun O' σ' H' δ' v r' s' E' w' z => ?_⟩⟩
  · subst z
    exact q .non H' (step_ex s') (by simp [RetIs, Is])
  · exact q v H' (step_ex s') (ret_ok s' E' w' z)
end

/-! ### the end of a law's row -/
theorem law_callG {P : Program} {w : World} {K : PySem.W.Frag} {mg mb : Str → Option Value} {k : Nat} {fa a : Addr} {fd : FuncData} {x : Str}
    {R : List Dt → Ret → Prop} {s1 : Shared} {vs : List Value} {ns : List Int}
    (KX : K.In s1.heap) (gl : s1.heap.Ns mainGlobals mg) (bl : s1.heap.Ns builtinsNs mb) (bb : ∀ y : Str, y ≠ "__name__" → mb y = bootBuiltins y)
    (nl : s1.heap.NoLimit) (nd : s1.heap.NoDigits) (gn : s1.gens = #[]) (ob : s1.heap.get? a = some { cls := .type "list", data := .seq vs.toArray })
    (ia : IntsAre vs ns) (hl : ns.length ≤ sizeLine) (hr : Room k callerA)
    (F : ∀ base : Heap, K.In base → base.Ns mainGlobals mg → base.NoDigits → FnG P w K mg base CX0 k fa fd [x] (spD K R))
    (hbind : ∀ (s : Shared) (u : Value), BindsTo s fd ⟨[u], []⟩ [(x, u)]) (hR : R [.scr ns] (.sh (.bl true))) :
    codeAny (model P w) callerA (.call (.ref fa) ⟨[.ref a], []⟩) (fun r s' => r = .ok (.ret (.bool true)) ∧ OldK s1.heap s'.heap ∧ s'.os = s1.os ∧ AllBare s'.gens) s1 := by
  have rv := vals_ints ia
  have many := ia.length
  -- the walk, from whatever tells of the script alone
  have walk : ∀ H : Hp, (∀ b, H b = none ∨ ∃ o xs, H b = some (.frz o (.lst xs))) → SqL K H a (ns.map V.int) → HOk P w H s1.heap →
      (∀ b, H b ≠ none → b = a ∧ K.lookup a = none) →
      codeAny (model P w) callerA (.call (.ref fa) ⟨[.ref a], []⟩) (fun r s' => r = .ok (.ret (.bool true)) ∧ OldK s1.heap s'.heap ∧ s'.os = s1.os ∧ AllBare s'.gens) s1 := by
    intro H only sq hok mine
    let g := hidT s1.heap H
    have inG : ∀ (b : Addr) (o : Obj), s1.heap.get? b = some o → H b = none → g.get? b = some o := fun b o e n => hidT_get e n
    have free : ∀ (b : Addr) (o : Obj), s1.heap.get? b = some o → (b = a → o ≠ { cls := .type "list", data := .seq vs.toArray }) → H b = none := by
      intro b o e ne
      by_cases hb : H b = none
      · exact hb
      · obtain ⟨z, _⟩ := mine b hb
        refine absurd ?_ (ne z)
        rw [z, ob] at e
        exact (Option.some.inj e).symm
    have ns' : ∀ {b : Addr} {m : Str → Option Value}, s1.heap.Ns b m → g.Ns b m := by
      rintro b m ⟨o, es, ep, e, d, rest⟩
      refine ⟨o, es, ep, inG b o e (free b o e fun _ z => ?_), d, rest⟩
      rw [z] at d
      cases d
    have kG : K.In g := by
      intro b o e
      apply inG b o (KX b o e)
      by_cases hb : H b = none
      · exact hb
      · obtain ⟨z, z2⟩ := mine b hb
        rw [z, z2] at e
        cases e
    obtain ⟨mc, c1, c2⟩ := nl
    obtain ⟨md, d1, d2⟩ := nd
    have md' : Mod K mg g := { kin := kG, glob := ns' gl, blt := ⟨mb, ns' bl, bb⟩, nolimit := ⟨mc, ns' c1, c2⟩ }
    have e0 : Env0 P w K mg g callerA [] s1 H :=
      { frames := rfl, mod := md', bs := fun b o e => of_hidT e, bsz := Nat.le_of_eq (hidT_size _ _), funs := trivial, frf := (fun b hb => by cases hb), hok := hok, bare := .of_eq gn }
    have sp : spD K R [.ref a] H (fun v _ => v = .bl true) (fun _ _ _ => False) := by
      refine ⟨[], [.scr ns], .sh (.bl true), (fun p hp => nomatch hp), ?_, hR, fun v H' _ i => ?_⟩
      · rw [hid_nil]
        apply IsAll.one
        simp only [Is]
        exact ⟨a, rfl, sq⟩
      · simpa [RetIs, Is] using i
    apply codeAny_mono ((F g kG (ns' gl) ⟨md, ns' d1, d2⟩).go callerA [] s1 H ⟨[.ref a], []⟩ [.ref a] [.ref a] _ _ rfl hr e0 (hbind s1 (.ref a)) (.cons rfl .nil) sp)
    intro r s' z
    match r with
    | .error e => exact False.elim z
    | .ok .next => exact False.elim z
    | .ok .brk => exact False.elim z
    | .ok .cont => exact False.elim z
    | .ok (.ret u) =>
      obtain ⟨v, H', os, bare, un, hok', rl, q⟩ := z
      obtain rfl : v = V.bl true := q
      obtain rfl : u = Value.bool true := rl
      refine ⟨rfl, OldK.of_keep ?_, os, bare⟩
      intro b o e
      rcases only b with n | ⟨o', xs, n⟩
      · exact un.keep b o e n (List.not_mem_nil) (List.not_mem_nil)
      · have q1 := (hok b _ n).1
        have q2 := (hok' b _ (un.frzs b o' _ n)).1
        rw [q1] at e
        rw [q2, e]
  cases hk : K.lookup a with
  | some o =>
    have e := KX a o hk
    rw [ob] at e
    obtain rfl := Option.some.inj e
    refine walk (fun _ => none) (fun _ => Or.inl rfl) (Or.inr ⟨_, _, _, hk, rfl, rfl, rfl, ?_, ?_⟩) (fun b u z => by cases z) fun b z => absurd rfl z
    · rw [List.size_toArray, many]; exact hl
    · simpa using rv
  | none =>
    let o : Obj := { cls := .type "list", data := .seq vs.toArray }
    have at_a : (fun b => if b = a then some (HO.frz o (.lst (ns.map V.int))) else none) a = some (HO.frz o (.lst (ns.map V.int))) := if_pos rfl
    refine walk (fun b => if b = a then some (.frz o (.lst (ns.map V.int))) else none) (fun b => ?_) (Or.inl (Or.inr ⟨o, at_a⟩)) (fun b u z => ?_) fun b z => ?_
    · by_cases hb : b = a
      · exact Or.inr ⟨o, _, if_pos hb⟩
      · exact Or.inl (if_neg hb)
    · by_cases hb : b = a
      · subst hb
        dsimp only at z
        rw [if_pos rfl] at z
        cases z
        exact ⟨ob, by rw [List.length_map]; exact hl, vs, _, rv, ob⟩
      · dsimp only at z
        rw [if_neg hb] at z
        cases z
    · by_cases hb : b = a
      · exact ⟨hb, hk⟩
      · exact absurd (if_neg hb) z

/-! ### the head's facts: the library's, and names that hold built-in functions -/
abbrev AlX : Type := He.AlD × Bool
def bltB (bs : List (Str × String)) (K : PySem.W.Frag) : Bool := bs.all fun b => decide (PySem.W.nsIn K mainGlobals b.1 = some (some (.builtin b.2)))
def obsX (n : Nat) (fa : List He.Fa) (fn : List He.DefD) (bs : List (Str × String)) (g : Addr → Option Obj) : AlX := (He.obsD fa fn (He.frG g (He.asD g n)), bltB bs (He.frG g (He.asD g n)))
def SaysX (fa : List He.Fa) (fn : List He.DefD) (bs : List (Str × String)) (K : PySem.W.Frag) : Prop := He.SaysD fa fn K ∧ bltB bs K = true
def hookX (n : Nat) (fa : List He.Fa) (fn : List He.DefD) (bs : List (Str × String)) : PySem.W.Hook where
  α := AlX
  obs := fun s => obsX n fa fn bs s.heap.get?
  val := fun _ => (He.valD fn, true)
  says := fun _ h => ∃ K : PySem.W.Frag, K.In h ∧ SaysX fa fn bs K
  of := fun _ _ e => ⟨_, He.frG_in, congrArg Prod.fst e, congrArg Prod.snd e⟩
  keeps := fun _ _ _ ⟨K, hK, c⟩ k => ⟨K, PySem.W.Frag.In.keeps hK k, c⟩
theorem obsX_eq {n : Nat} {fa : List He.Fa} {fn : List He.DefD} {bs : List (Str × String)} {g : Addr → Option Obj} {s : Shared} (h : ∀ a, g a = s.heap.get? a) : obsX n fa fn bs g = (hookX n fa fn bs).obs s := by
  have e : g = s.heap.get? := funext h
  rw [e] <;> rfl
theorem SaysX.blt {fa : List He.Fa} {fn : List He.DefD} {bs : List (Str × String)} {K : PySem.W.Frag} {h : Heap} {mg : Str → Option Value} (c : SaysX fa fn bs K) (X : K.In h) (G : h.Ns mainGlobals mg) (i : Nat) {b : Str × String} (hb : bs[i]? = some b := by rfl) : mg b.1 = some (.builtin b.2) :=
  PySem.W.mg_of X G (of_decide_eq_true (List.all_eq_true.mp c.2 b (List.mem_of_getElem? hb)))
/-- the row's end, from the law's promise -/
theorem walk_ofX {l : PySem.W.OpenLaw} {n k : Nat} {q : Program} {loose : List Str} {XP : (Str → Option Value) → Heap → Prop} {YP : World → Heap → Prop} {d : DefRec} {x : Str}
    (hn : l.most = some n) (hn2 : n ≤ sizeLine) (hdf : d.params.defaults = []) (hr : Room k callerA)
    (F : ∀ (w : World) (mg : Str → Option Value) (fa : Addr) (h : Heap), YP w h → h.Ns mainGlobals mg → mg d.name = some (.ref fa) →
      ∃ (K : PySem.W.Frag) (fd : FuncData) (R : List Dt → Ret → Prop), K.In h ∧ (∀ (s : Shared) (u : Value), BindsTo s fd ⟨[u], []⟩ [(x, u)]) ∧
        (∀ ns : List Int, ns.length ≤ n → (∀ i, i ∈ ns → Builtin.Int.intBits i ≤ 1048576) → R [.scr ns] (.sh (.bl true))) ∧
        ∀ base : Heap, K.In base → base.Ns mainGlobals mg → base.NoDigits → FnG l.prog w K mg base CX0 k fa fd [x] (spD K R)) :
    PySem.W.WalkO q loose XP YP l.row.toRowW d [] (fun f vs => PySem.call f vs) := by
  apply Att.attach_callB hn hdf
  intro w s0 s1 mg mb fa o pm cd doc a vs ns G Y ho hd hcd hmg hobj hints hlen hbits hg
  obtain ⟨K, fd, R, KX, hb, hR, hF⟩ := F w mg fa _ Y G.T.g hmg
  exact law_callG KX G.T.g G.T.b G.T.builtins G.T.nolimit G.T.nodigits hg hobj hints (Nat.le_trans hlen hn2) hr hF hb (hR ns hlen hbits)
end Dat

set_option Elab.async false
set_option linter.all false
set_option maxRecDepth 100000
set_option maxHeartbeats 2000000
namespace Dat
open PySem L2

/-! ### the forms one uses -/
section
variable {X : Cx} {δ : List Slot} {e e2 a b c iter : Expr} {es : List Expr} {d da db : Dt} {ds items : List Dt} {pos p : Pos} {x : Str} {st : Stmt} {rest sts : List Stmt} {D : DEnds} {k i : Nat}
theorem dv (i : Nat) (hN : X.N[i]? = some x) (hs : δ[i]? = some (.sh d)) (hv : Vis X.env.scope x := by first | exact Or.inl rfl | exact Or.inr (Or.inl rfl) | exact Or.inr (Or.inr rfl))
    (hd : (x == ("__debug__" : Str)) = false := by decide) (hcd : (x == ("__classdict__" : Str)) = false := by decide) : DE X δ (.Name x pos) d := de_var i hN hv hs hd hcd
theorem dixO {x : Str} {p : Pos} {dc : Dt} (i : Nat) (hN : X.N[i]? = some x) (hs : δ[i]? = some (.ow ds)) (hb : DE X δ b db) (h : ixD (.sq false ds) db = some dc) (hv : Vis X.env.scope x := by first | exact Or.inl rfl | exact Or.inr (Or.inl rfl) | exact Or.inr (Or.inr rfl))
    (hd : (x == ("__debug__" : Str)) = false := by decide) (hcd : (x == ("__classdict__" : Str)) = false := by decide) (hx : PlainIx b := by exact fun _ _ => rfl) : DE X δ (.Subscript (.Name x p) b pos) dc := de_ixO i hN hv hs hb h hd hcd hx
theorem dss_set (i : Nat) (P : Plc X k) (hi : X.N[i]? = some x) (he : DE X δ e d) (h : DSs X (δ.set i (.sh d)) rest D) (hs : swapsWith e (some (.Name x p)) pos.line X.env = pure false := by rfl)
    (hf : X.fn x = true ∨ X.env.scope.names.lookup x = some .local := by first | exact .inl rfl | exact .inr rfl | assumption) (hx : Loc X.env.scope x := by first | exact Or.inl rfl | exact Or.inr rfl) : DSs X δ (.Assign [.Name x p] e pos :: rest) D := dss_cons (ds_set i P hi hx he h hs hf)
theorem dss_setO (i : Nat) (P : Plc X k) (hi : X.N[i]? = some x) (he : DF X δ e ds) (h : DSs X (δ.set i (.ow ds)) rest D) (hs : swapsWith e (some (.Name x p)) pos.line X.env = pure false := by rfl)
    (hf : X.fn x = true ∨ X.env.scope.names.lookup x = some .local := by first | exact .inl rfl | exact .inr rfl | assumption) (hx : Loc X.env.scope x := by first | exact Or.inl rfl | exact Or.inr rfl) : DSs X δ (.Assign [.Name x p] e pos :: rest) D := dss_cons (ds_setO i P hi hx he h hs hf)
theorem dss_ret (he : DE X δ e d) (h : D.rt (.sh d)) : DSs X δ (.Return (some e) pos :: rest) D := dss_cons (ds_ret he h)
theorem dss_retF (he : DF X δ e ds) (h : D.rt (.ow ds)) : DSs X δ (.Return (some e) pos :: rest) D := dss_cons (ds_retF he h)
theorem dss_if {t : Bool} {u v : List Stmt} (hc : DT X δ c t) (h1 : t = true → DSs X δ u { D with nx := fun δ' => DSs X δ' rest D }) (h2 : t = false → DSs X δ v { D with nx := fun δ' => DSs X δ' rest D }) : DSs X δ (.If c u v pos :: rest) D := dss_cons (ds_if hc h1 h2)
/-- an if whose other branch is not reached -/
theorem dss_ifF {u v : List Stmt} (hc : DT X δ c false) (h2 : DSs X δ v { D with nx := fun δ' => DSs X δ' rest D }) : DSs X δ (.If c u v pos :: rest) D := dss_if hc (fun h => nomatch h) fun _ => h2
theorem dss_ifT {u v : List Stmt} (hc : DT X δ c true) (h1 : DSs X δ u { D with nx := fun δ' => DSs X δ' rest D }) : DSs X δ (.If c u v pos :: rest) D := dss_if hc (fun _ => h1) fun h => nomatch h
/-- an if with no else: the way that goes on -/
theorem dss_ifG {t : Bool} {u : List Stmt} (hc : DT X δ c t) (h1 : t = true → DSs X δ u { D with nx := fun δ' => DSs X δ' rest D }) (h2 : t = false → DSs X δ rest D) : DSs X δ (.If c u [] pos :: rest) D := dss_if hc h1 fun h => dss_nil (h2 h)
/-- an if whose ways meet -/
theorem dss_ifJ (J : List Slot → Prop) {t : Bool} {u : List Stmt} (hc : DT X δ c t) (h1 : t = true → DSs X δ u { D with nx := J }) (h2 : t = false → J δ) (hr : ∀ δ', J δ' → DSs X δ' rest D) : DSs X δ (.If c u [] pos :: rest) D :=
  dss_if hc (fun h => dss_weak (h1 h) (fun δ' j => hr δ' j) (fun _ z => z) (fun _ z => z) (fun _ z => z)) fun h => dss_nil (hr _ (h2 h))
theorem dss_go (h : DSs X δ rest D) : DSs X δ [] { D with nx := fun δ' => DSs X δ' rest D } := dss_nil h

theorem de_len {n : Nat} (hm : X.mg "len" = none) (ha : DE X δ a d) (h : lenD d = some n) (hg : Gl X "len" := by rfl) (he : starEach (a :: []) X.env = (false, eval a X.env) :: starEach [] X.env := by rfl) (hpl : (backTo pos (starEach [] X.env)).any (·.1) = false := by rfl) :
    DE X δ (.Call (.Name "len" p) [a] [] pos) (.int n) := de_callB call_len_seq (rc_len h) hg hm boot_len (da_cons ha da_nil he) (by decide) (by decide) he hpl
/-- len of a list of the slot's own -/
theorem de_lenO {y : Str} {q : Pos} (i : Nat) (hm : X.mg "len" = none) (hN : X.N[i]? = some y) (hs : δ[i]? = some (.ow ds)) (hg : Gl X "len" := by rfl) (hd : (y == ("__debug__" : Str)) = false := by decide) (hcd : (y == ("__classdict__" : Str)) = false := by decide)
    (he : starEach (Expr.Name y q :: []) X.env = (false, eval (.Name y q) X.env) :: starEach [] X.env := by rfl) (hpl : (backTo pos (starEach [] X.env)).any (·.1) = false := by rfl) (hv : Vis X.env.scope y := by first | exact Or.inl rfl | exact Or.inr (Or.inl rfl) | exact Or.inr (Or.inr rfl)) :
    DE X δ (.Call (.Name "len" p) [.Name y q] [] pos) (.int ds.length) :=
  imE (pe_callB call_len_seq hg hm boot_len (pa_cons (pe_var hN hv hd hcd) pa_nil he) (by decide) (by decide) he hpl) fun σ H Q ⟨S, O, E, k⟩ => by
    obtain ⟨p, xs, h1, h2, h3, h4⟩ := E.ow i ds hs
    exact ⟨_, h1, p, xs, rfl, .inl (SqL.of h3), by rw [h4.length]; exact k _ H (Ex.refl H) is_int⟩
theorem de_intc {n : Int} (hm : X.mg "int" = none) (ha : DE X δ a d) (h : intD d = some n) (hg : Gl X "int" := by rfl) (he : starEach (a :: []) X.env = (false, eval a X.env) :: starEach [] X.env := by rfl) (hpl : (backTo pos (starEach [] X.env)).any (·.1) = false := by rfl) :
    DE X δ (.Call (.Name "int" p) [a] [] pos) (.int n) := de_callTy call_int1 (rc_int h) hg hm (by decide +kernel) (da_cons ha da_nil he) (by decide) (by decide) he hpl
theorem de_abs {n : Int} (hm : X.mg "abs" = none) (ha : DE X δ a (.int n)) (hg : Gl X "abs" := by rfl) (he : starEach (a :: []) X.env = (false, eval a X.env) :: starEach [] X.env := by rfl) (hpl : (backTo pos (starEach [] X.env)).any (·.1) = false := by rfl) :
    DE X δ (.Call (.Name "abs" p) [a] [] pos) (.int (n.natAbs : Int)) := de_callB call_abs rc_abs hg hm (by decide +kernel) (da_cons ha da_nil he) (by decide) (by decide) he hpl
theorem de_max {n m : Int} (P : Plc X k) (hm : X.mg "max" = none) (ha : DE X δ a (.int n)) (hb : DE X δ b (.int m)) (hg : Gl X "max" := by rfl) (he : starEach (a :: [b]) X.env = (false, eval a X.env) :: starEach [b] X.env := by rfl) (he2 : starEach (b :: []) X.env = (false, eval b X.env) :: starEach [] X.env := by rfl) (hpl : (backTo pos (starEach [b] X.env)).any (·.1) = false := by rfl) :
    DE X δ (.Call (.Name "max" p) [a, b] [] pos) (.int (max n m)) := de_callB (call_max2 P.calm) rc_max2 hg hm (by decide +kernel) (da_cons ha (da_cons hb da_nil he2) he) (by decide) (by decide) he hpl
theorem de_min {n m : Int} (P : Plc X k) (hm : X.mg "min" = none) (ha : DE X δ a (.int n)) (hb : DE X δ b (.int m)) (hg : Gl X "min" := by rfl) (he : starEach (a :: [b]) X.env = (false, eval a X.env) :: starEach [b] X.env := by rfl) (he2 : starEach (b :: []) X.env = (false, eval b X.env) :: starEach [] X.env := by rfl) (hpl : (backTo pos (starEach [b] X.env)).any (·.1) = false := by rfl) :
    DE X δ (.Call (.Name "min" p) [a, b] [] pos) (.int (min n m)) := de_callB (call_min2 P.calm) rc_min2 hg hm (by decide +kernel) (da_cons ha (da_cons hb da_nil he2) he) (by decide) (by decide) he hpl
theorem de_gcd {n m : Int} (hm : X.mg "gcd" = some (.builtin "math.gcd")) (ha : DE X δ a (.int n)) (hb : DE X δ b (.int m)) (hg : Gl X "gcd" := by rfl) (he : starEach (a :: [b]) X.env = (false, eval a X.env) :: starEach [b] X.env := by rfl) (he2 : starEach (b :: []) X.env = (false, eval b X.env) :: starEach [] X.env := by rfl) (hpl : (backTo pos (starEach [b] X.env)).any (·.1) = false := by rfl) :
    DE X δ (.Call (.Name "gcd" p) [a, b] [] pos) (.int (Nat.gcd n.natAbs m.natAbs : Nat)) := imE (pe_callBfun cr_gcd hg hm (da_cons ha (da_cons hb da_nil he2) he) (by decide) he hpl) (tCB_of rc_gcd)
theorem de_list {t : Bool} (hm : X.mg "list" = none) (ha : DE X δ a (.sq t ds)) (hg : Gl X "list" := by rfl) (he : starEach (a :: []) X.env = (false, eval a X.env) :: starEach [] X.env := by rfl) (hpl : (backTo pos (starEach [] X.env)).any (·.1) = false := by rfl) :
    DE X δ (.Call (.Name "list" p) [a] [] pos) (.sq false ds) := de_callTy call_list_of rc_list hg hm (by decide +kernel) (da_cons ha da_nil he) (by decide) (by decide) he hpl
theorem de_tuple {t : Bool} (hm : X.mg "tuple" = none) (ha : DE X δ a (.sq t ds)) (hg : Gl X "tuple" := by rfl) (he : starEach (a :: []) X.env = (false, eval a X.env) :: starEach [] X.env := by rfl) (hpl : (backTo pos (starEach [] X.env)).any (·.1) = false := by rfl) :
    DE X δ (.Call (.Name "tuple" p) [a] [] pos) (.sq true ds) := de_callTy call_tuple_of rc_tuple hg hm (by decide +kernel) (da_cons ha da_nil he) (by decide) (by decide) he hpl
theorem de_repr (P : Plc X k) (hm : X.mg "repr" = none) (ha : DE X δ a d) (h : shC d) (hg : Gl X "repr" := by rfl) (he : starEach (a :: []) X.env = (false, eval a X.env) :: starEach [] X.env := by rfl) (hpl : (backTo pos (starEach [] X.env)).any (·.1) = false := by rfl) :
    DE X δ (.Call (.Name "repr" p) [a] [] pos) (.str (shown d)) := de_callB (cr_repr P) (rc_repr h) hg hm (by decide +kernel) (da_cons ha da_nil he) (by decide) (by decide) he hpl
variable {q : Pos}
theorem de_isi {n : Str} {T : String} {r : Bool} (hm : X.mg "isinstance" = none) (hn : X.mg n = none) (ha : DE X δ a d) (hr : RC X.K (rIsi X.K) [d, .ty T] (.bl r)) (hg : Gl X "isinstance") (hgn : Gl X n) (hv : bootBuiltins n = some (.type T)) (n1 : n ≠ "__name__") (n2 : (n == ("__debug__" : Str)) = false)
    (he : starEach (a :: [.Name n q]) X.env = (false, eval a X.env) :: starEach [.Name n q] X.env) (he2 : starEach (Expr.Name n q :: []) X.env = (false, eval (.Name n q) X.env) :: starEach [] X.env) (hpl : (backTo pos (starEach [.Name n q] X.env)).any (·.1) = false) :
    DE X δ (.Call (.Name "isinstance" p) [a, .Name n q] [] pos) (.bl r) := de_callB call_isi hr hg hm (by decide +kernel) (da_cons ha (da_cons (de_ty hgn hn hv n1 n2) da_nil he2) he) (by decide) (by decide) he hpl
theorem de_isInt (hm : X.mg "isinstance" = none) (hn : X.mg "int" = none) (ha : DE X δ a d) (hf : flatK d = true) (hg : Gl X "isinstance" := by rfl) (hgn : Gl X "int" := by rfl)
    (he : starEach (a :: [.Name "int" q]) X.env = (false, eval a X.env) :: starEach [.Name "int" q] X.env := by rfl) (he2 : starEach (Expr.Name "int" q :: []) X.env = (false, eval (.Name "int" q) X.env) :: starEach [] X.env := by rfl) (hpl : (backTo pos (starEach [.Name "int" q] X.env)).any (·.1) = false := by rfl) :
    DE X δ (.Call (.Name "isinstance" p) [a, .Name "int" q] [] pos) (.bl (isInt d)) := de_isi hm hn ha (rc_isInt hf) hg hgn (by decide +kernel) (by decide) (by decide) he he2 hpl
theorem de_isBl (hm : X.mg "isinstance" = none) (hn : X.mg "bool" = none) (ha : DE X δ a d) (hf : flatK d = true) (hg : Gl X "isinstance" := by rfl) (hgn : Gl X "bool" := by rfl)
    (he : starEach (a :: [.Name "bool" q]) X.env = (false, eval a X.env) :: starEach [.Name "bool" q] X.env := by rfl) (he2 : starEach (Expr.Name "bool" q :: []) X.env = (false, eval (.Name "bool" q) X.env) :: starEach [] X.env := by rfl) (hpl : (backTo pos (starEach [.Name "bool" q] X.env)).any (·.1) = false := by rfl) :
    DE X δ (.Call (.Name "isinstance" p) [a, .Name "bool" q] [] pos) (.bl (isBl d)) := de_isi hm hn ha (rc_isBl hf) hg hgn (by decide +kernel) (by decide) (by decide) he he2 hpl
theorem de_isTup (hm : X.mg "isinstance" = none) (hn : X.mg "tuple" = none) (ha : DE X δ a d) (hf : flatK d = true) (hg : Gl X "isinstance" := by rfl) (hgn : Gl X "tuple" := by rfl)
    (he : starEach (a :: [.Name "tuple" q]) X.env = (false, eval a X.env) :: starEach [.Name "tuple" q] X.env := by rfl) (he2 : starEach (Expr.Name "tuple" q :: []) X.env = (false, eval (.Name "tuple" q) X.env) :: starEach [] X.env := by rfl) (hpl : (backTo pos (starEach [.Name "tuple" q] X.env)).any (·.1) = false := by rfl) :
    DE X δ (.Call (.Name "isinstance" p) [a, .Name "tuple" q] [] pos) (.bl (isTup d)) := de_isi hm hn ha (rc_isTup hf) hg hgn (by decide +kernel) (by decide) (by decide) he he2 hpl
theorem de_isLst (hm : X.mg "isinstance" = none) (hn : X.mg "list" = none) (ha : DE X δ a d) (hf : flatK d = true) (hg : Gl X "isinstance" := by rfl) (hgn : Gl X "list" := by rfl)
    (he : starEach (a :: [.Name "list" q]) X.env = (false, eval a X.env) :: starEach [.Name "list" q] X.env := by rfl) (he2 : starEach (Expr.Name "list" q :: []) X.env = (false, eval (.Name "list" q) X.env) :: starEach [] X.env := by rfl) (hpl : (backTo pos (starEach [.Name "list" q] X.env)).any (·.1) = false := by rfl) :
    DE X δ (.Call (.Name "isinstance" p) [a, .Name "list" q] [] pos) (.bl (isLst d)) := de_isi hm hn ha (rc_isLst hf) hg hgn (by decide +kernel) (by decide) (by decide) he he2 hpl
theorem de_isStr (hm : X.mg "isinstance" = none) (hn : X.mg "str" = none) (ha : DE X δ a d) (hf : flatK d = true) (hg : Gl X "isinstance" := by rfl) (hgn : Gl X "str" := by rfl)
    (he : starEach (a :: [.Name "str" q]) X.env = (false, eval a X.env) :: starEach [.Name "str" q] X.env := by rfl) (he2 : starEach (Expr.Name "str" q :: []) X.env = (false, eval (.Name "str" q) X.env) :: starEach [] X.env := by rfl) (hpl : (backTo pos (starEach [.Name "str" q] X.env)).any (·.1) = false := by rfl) :
    DE X δ (.Call (.Name "isinstance" p) [a, .Name "str" q] [] pos) (.bl (isStr d)) := de_isi hm hn ha (rc_isStr hf) hg hgn (by decide +kernel) (by decide) (by decide) he he2 hpl
end
section
variable {X : Cx} {δ : List Slot} {e e2 a b c iter : Expr} {es : List Expr} {d da db : Dt} {ds items : List Dt} {pos p : Pos} {x : Str} {st : Stmt} {rest sts body : List Stmt} {D : DEnds} {k i : Nat}
theorem dss_for (i : Nat) (P : Plc X k) (hN : X.N[i]? = some x) (hi : DI X δ (.Name x p) iter items) (Inv : Nat → List Slot → Prop) (h0 : Inv 0 δ)
    (hs : ∀ n d δ', items[n]? = some d → Inv n δ' → DSs X (δ'.set i (.sh d)) body { nx := Inv (n + 1), ct := Inv (n + 1), bk := fun δ' => DSs X δ' rest D, rt := D.rt })
    (hd : ∀ δ', Inv items.length δ' → DSs X δ' rest D) (hs0 : ∀ x, foldedSetIterable iter X.env x = pure x := by intro _; rfl)
    (hf : X.fn x = true ∨ X.env.scope.names.lookup x = some .local := by first | exact .inl rfl | exact .inr rfl | assumption) (hx : Loc X.env.scope x := by first | exact Or.inl rfl | exact Or.inr rfl) : DSs X δ (.For (.Name x p) iter body [] pos :: rest) D :=
  dss_cons (ds_for i P hN hx hi Inv h0 hs hd hs0 hf)
/-- for k in range(n) -/
theorem dss_rng (i : Nat) {q : Pos} {n : Int} (P : Plc X k) (hN : X.N[i]? = some x) (hm : X.mg "range" = none) (ha : DE X δ a (.int n)) (h1 : -(2 ^ 62) ≤ n) (h2 : n < 2 ^ 62) (Inv : Nat → List Slot → Prop) (h0 : Inv 0 δ)
    (hs : ∀ (m : Nat) δ', m < n.toNat → Inv m δ' → DSs X (δ'.set i (.sh (.int (m : Int)))) body { nx := Inv (m + 1), ct := Inv (m + 1), bk := fun δ' => DSs X δ' rest D, rt := D.rt })
    (hd : ∀ δ', Inv n.toNat δ' → DSs X δ' rest D) (hg : Gl X "range" := by rfl) (hs1 : starEach [a] X.env = [(false, eval a X.env)] := by rfl) (he : starEach (a :: []) X.env = (false, eval a X.env) :: starEach [] X.env := by rfl)
    (hs0 : ∀ x, foldedSetIterable (.Call (.Name "range" p) [a] [] q) X.env x = pure x := by intro _; rfl)
    (hf : X.fn x = true ∨ X.env.scope.names.lookup x = some .local := by first | exact .inl rfl | exact .inr rfl | assumption) (hx : Loc X.env.scope x := by first | exact Or.inl rfl | exact Or.inr rfl) {p' : Pos} : DSs X δ (.For (.Name x p') (.Call (.Name "range" p) [a] [] q) body [] pos :: rest) D :=
  dss_for i P hN (di_rng1 hg hm ha h1 h2 hs1 he) Inv h0 (hx := hx) (hs0 := hs0) (hf := hf) (fun m d δ' hd i' => by
    obtain ⟨hm, rfl⟩ := rngD_get hd
    have e : (0 : Int) + (m : Int) = (m : Int) := Int.zero_add _
    rw [e]; exact hs m δ' hm i') (fun δ' i' => hd δ' (by rwa [rngD_len] at i'))
/-- for k in range(m, n) -/
theorem dss_rng2 (i : Nat) {q : Pos} {m n : Int} (P : Plc X k) (hN : X.N[i]? = some x) (hm : X.mg "range" = none) (ha : DE X δ a (.int m)) (hb : DE X δ b (.int n)) (h1 : -(2 ^ 62) ≤ m ∧ m < 2 ^ 62 ∧ -(2 ^ 62) ≤ n ∧ n < 2 ^ 62) (Inv : Nat → List Slot → Prop) (h0 : Inv 0 δ)
    (hs : ∀ (j : Nat) δ', j < (n - m).toNat → Inv j δ' → DSs X (δ'.set i (.sh (.int (m + (j : Int))))) body { nx := Inv (j + 1), ct := Inv (j + 1), bk := fun δ' => DSs X δ' rest D, rt := D.rt })
    (hd : ∀ δ', Inv (n - m).toNat δ' → DSs X δ' rest D) (hg : Gl X "range" := by rfl) (hs1 : starEach [a, b] X.env = [(false, eval a X.env), (false, eval b X.env)] := by rfl) (hs2 : starEach [b] X.env = [(false, eval b X.env)] := by rfl)
    (he : starEach (a :: [b]) X.env = (false, eval a X.env) :: starEach [b] X.env := by rfl) (he2 : starEach (b :: []) X.env = (false, eval b X.env) :: starEach [] X.env := by rfl)
    (hs0 : ∀ x, foldedSetIterable (.Call (.Name "range" p) [a, b] [] q) X.env x = pure x := by intro _; rfl)
    (hf : X.fn x = true ∨ X.env.scope.names.lookup x = some .local := by first | exact .inl rfl | exact .inr rfl | assumption) (hx : Loc X.env.scope x := by first | exact Or.inl rfl | exact Or.inr rfl) {p' : Pos} : DSs X δ (.For (.Name x p') (.Call (.Name "range" p) [a, b] [] q) body [] pos :: rest) D :=
  dss_for i P hN (di_rng2 hg hm ha hb h1 hs1 hs2 he he2) Inv h0 (hx := hx) (hs0 := hs0) (hf := hf) (fun j d δ' hd i' => by
    obtain ⟨hm, rfl⟩ := rngD_get hd
    exact hs j δ' hm i') (fun δ' i' => hd δ' (by rwa [rngD_len] at i'))
theorem dss_app (i : Nat) {ap cp : Pos} (hi : X.N[i]? = some x) (hs : δ[i]? = some (.ow ds)) (he : DE X δ e d) (hz : ds.length < sizeLine) (h : DSs X (δ.set i (.ow (ds ++ [d]))) rest D)
    (hbase : attributeBase (.Name x p) "append" X.env (eval (.Name x p) X.env) = eval (.Name x p) X.env := by rfl) (hline : (ap.endLine == cp.line) = true := by rfl)
    (hfew : ((backTo cp (starEach (e :: []) X.env)).all (fun z => !z.1) && ((backToKw cp (keywordEach [] X.env)).all (fun z => z.1.isSome)) && decide ((e :: []).length + ([] : List Keyword).length + (if ([] : List Keyword).isEmpty then 0 else 1) < 30)) = true := by rfl)
    (hd : (x == ("__debug__" : Str)) = false := by decide) (hcd : (x == ("__classdict__" : Str)) = false := by decide)
    (hst : starEach (e :: []) X.env = (false, eval e X.env) :: starEach [] X.env := by rfl) (hpl : (backTo cp (starEach [] X.env)).any (·.1) = false := by rfl)
    (hsw : swapsWith (.Call (.Attribute (.Name x p) "append" ap) [e] [] cp) none pos.line X.env = pure false := by rfl) (hv : Vis X.env.scope x := by first | exact Or.inl rfl | exact Or.inr (Or.inl rfl) | exact Or.inr (Or.inr rfl)) :
    DSs X δ (.Expr (.Call (.Attribute (.Name x p) "append" ap) [e] [] cp) pos :: rest) D := dss_cons (ds_app i hi hv hs he hz h hbase hline hfew hd hcd hst hpl hsw)
theorem dss_put (i : Nat) {n : Int} {j : Nat} {tp : Pos} (hi : X.N[i]? = some x) (hs : δ[i]? = some (.ow ds)) (he : DE X δ e d) (hb : DE X δ b (.int n)) (hj : ixN ds.length n = some j) (h : DSs X (δ.set i (.ow (ds.set j d))) rest D)
    (hd : (x == ("__debug__" : Str)) = false := by decide) (hcd : (x == ("__classdict__" : Str)) = false := by decide)
    (hsw : swapsWithSole [.Subscript (.Name x p) b tp] e pos.line X.env = pure false := by rfl)
    (hasg : ∀ v, assign (.Subscript (.Name x p) b tp) X.env v = (do
      let u1 ← holding [v] (eval (.Name x p) X.env)
      let u2 ← holding [v, u1] (eval b X.env)
      standAt tp
      holding [v, u1, u2] (setItem u1 u2 v)
      release [v, u1, u2] []) := by intro _; rfl) (hw : swappedStores [.Subscript (.Name x p) b tp] e X.env = pure none := by rfl) (hv : Vis X.env.scope x := by first | exact Or.inl rfl | exact Or.inr (Or.inl rfl) | exact Or.inr (Or.inr rfl)) :
    DSs X δ (.Assign [.Subscript (.Name x p) b tp] e pos :: rest) D := dss_cons (ds_put i hi hv hs he hb hj h hd hcd hsw hasg hw)
theorem dss_retO (i : Nat) (hi : X.N[i]? = some x) (hs : δ[i]? = some (.ow ds)) (h : D.rt (.ow ds))
    (hd : (x == ("__debug__" : Str)) = false := by decide) (hcd : (x == ("__classdict__" : Str)) = false := by decide) (hv : Vis X.env.scope x := by first | exact Or.inl rfl | exact Or.inr (Or.inl rfl) | exact Or.inr (Or.inr rfl)) : DSs X δ (.Return (some (.Name x p)) pos :: rest) D := dss_cons (ds_retO i hi hv hs h hd hcd)
theorem dss_break (h : D.bk δ) : DSs X δ (.Break pos :: rest) D := dss_cons (ds_break h)
end
/-- the names of a def's scope -/
structure Sco (N : List Str) (sc : Scope) : Prop where
  vis : ∀ (i : Nat) (x : Str), N[i]? = some x → sc.names.lookup x ≠ none → Vis sc x
  loc : ∀ (i : Nat) (x : Str), N[i]? = some x → sc.names.lookup x ≠ none → Loc sc x
end Dat

set_option Elab.async false
set_option linter.all false
set_option maxRecDepth 100000
set_option maxHeartbeats 2000000
/-! zip of two sequences, each a list or a tuple -/
namespace Dat
open PySem PySem.Spec PyProof.Rows L2 RZ
open PySem.Sem (wp)
/-- where an iterator over a list (false) or over a tuple (true) stands -/
def ItAt : Bool → Heap → Addr → Addr → Nat → Prop
  | true, h, i, l, k => h.IsTupleIter i l k
  | false, h, i, l, k => h.IsListIter i l k
def SqAt : Bool → Heap → Addr → Array Value → Prop
  | true, h, l, xs => h.IsTuple l xs
  | false, h, l, xs => h.IsList l xs
def clsIt : Bool → String
  | true => "tuple_iterator"
  | false => "list_iterator"
theorem ItAt.obj {t : Bool} {h : Heap} {i l : Addr} {k : Nat} (u : ItAt t h i l k) : ∃ o, h.get? i = some o ∧ ∀ v, o.data ≠ .cell v := by
  cases t <;> (obtain ⟨o, e, _, d⟩ := u; exact ⟨o, e, fun v q => by rw [d] at q; cases q⟩)
theorem ItAt.go {t : Bool} {h h' : Heap} {i l : Addr} {k : Nat} (u : ItAt t h i l k) (e : ∀ o, h.get? i = some o → h'.get? i = some o) : ItAt t h' i l k := by
  cases t
  · exact Heap.IsListIter.at u e
  · exact Heap.IsTupleIter.at u e
theorem SqAt.go {t : Bool} {h h' : Heap} {l : Addr} {xs : Array Value} (u : SqAt t h l xs) (e : ∀ o, h.get? l = some o → h'.get? l = some o) : SqAt t h' l xs := by
  cases t <;> (obtain ⟨o, h1, h2⟩ := u; exact ⟨o, e o h1, h2⟩)
/-- all that a turn of zip looks at -/
structure Zs (t1 t2 : Bool) (z TI TO i1 i2 l1 l2 : Addr) (xs ys : Array Value) (h0 : Heap) (f a b : Value) (k1 k2 : Nat) (h : Heap) : Prop where
  gz : IsZip h z TI TO f
  gI : IsPair h TI (.ref i1) (.ref i2)
  gO : IsPair h TO a b
  u1 : ItAt t1 h i1 l1 k1
  u2 : ItAt t2 h i2 l2 k2
  q1 : SqAt t1 h l1 xs
  q2 : SqAt t2 h l2 ys
  kp : ∀ c o, c ≠ z → c ≠ TO → c ≠ i1 → c ≠ i2 → h0.get? c = some o → h.get? c = some o
section
variable {t t1 t2 : Bool} {z TI TO i1 i2 l1 l2 it l : Addr} {k k1 k2 j1 j2 : Nat} {xs ys : Array Value} {f f' a b a' b' x y : Value} {h0 h h' : Heap}
theorem Zs.onZ (S : Zs t1 t2 z TI TO i1 i2 l1 l2 xs ys h0 f a b k1 k2 h) (D : ZipApart z TI TO i1 i2 l1 l2) (e : Heap.ExtBut z h h') (g : IsZip h' z TI TO f') : Zs t1 t2 z TI TO i1 i2 l1 l2 xs ys h0 f' a b k1 k2 h' :=
  ⟨g, e _ _ D.TIz S.gI, e _ _ D.TOz S.gO, S.u1.go fun o => e _ o D.i1z, S.u2.go fun o => e _ o D.i2z, S.q1.go fun o => e _ o D.l1z, S.q2.go fun o => e _ o D.l2z, fun c o c1 c2 c3 c4 q => e _ _ c1 (S.kp c o c1 c2 c3 c4 q)⟩
theorem Zs.onO (S : Zs t1 t2 z TI TO i1 i2 l1 l2 xs ys h0 f a b k1 k2 h) (D : ZipApart z TI TO i1 i2 l1 l2) (e : Heap.ExtBut TO h h') (g : IsPair h' TO a' b') : Zs t1 t2 z TI TO i1 i2 l1 l2 xs ys h0 f a' b' k1 k2 h' :=
  ⟨e _ _ D.TOz.symm S.gz, e _ _ D.TITO S.gI, g, S.u1.go fun o => e _ o D.TOi1.symm, S.u2.go fun o => e _ o D.TOi2.symm, S.q1.go fun o => e _ o D.l1TO, S.q2.go fun o => e _ o D.l2TO, fun c o c1 c2 c3 c4 q => e _ _ c2 (S.kp c o c1 c2 c3 c4 q)⟩
theorem Zs.on1 (S : Zs t1 t2 z TI TO i1 i2 l1 l2 xs ys h0 f a b k1 k2 h) (D : ZipApart z TI TO i1 i2 l1 l2) (e : Heap.ExtBut i1 h h') (g : ItAt t1 h' i1 l1 j1) : Zs t1 t2 z TI TO i1 i2 l1 l2 xs ys h0 f a b j1 k2 h' :=
  ⟨e _ _ D.i1z.symm S.gz, e _ _ D.TIi1 S.gI, e _ _ D.TOi1 S.gO, g, S.u2.go fun o => e _ o D.i12.symm, S.q1.go fun o => e _ o D.l1i1, S.q2.go fun o => e _ o D.l2i1, fun c o c1 c2 c3 c4 q => e _ _ c3 (S.kp c o c1 c2 c3 c4 q)⟩
theorem Zs.on2 (S : Zs t1 t2 z TI TO i1 i2 l1 l2 xs ys h0 f a b k1 k2 h) (D : ZipApart z TI TO i1 i2 l1 l2) (e : Heap.ExtBut i2 h h') (g : ItAt t2 h' i2 l2 j2) : Zs t1 t2 z TI TO i1 i2 l1 l2 xs ys h0 f a b k1 j2 h' :=
  ⟨e _ _ D.i2z.symm S.gz, e _ _ D.TIi2 S.gI, e _ _ D.TOi2 S.gO, S.u1.go fun o => e _ o D.i12, g, S.q1.go fun o => e _ o D.l1i2, S.q2.go fun o => e _ o D.l2i2, fun c o c1 c2 c3 c4 q => e _ _ c4 (S.kp c o c1 c2 c3 c4 q)⟩
theorem Zs.onN (S : Zs t1 t2 z TI TO i1 i2 l1 l2 xs ys h0 f a b k1 k2 h) (o' : Obj) : Zs t1 t2 z TI TO i1 i2 l1 l2 xs ys h0 f a b k1 k2 (h.push o') :=
  have e : ∀ c o, h.get? c = some o → (h.push o').get? c = some o := fun c o q => Heap.get?_push_of_some _ q
  ⟨e _ _ S.gz, e _ _ S.gI, e _ _ S.gO, S.u1.go (e _), S.u2.go (e _), S.q1.go (e _), S.q2.go (e _), fun c o c1 c2 c3 c4 q => e _ _ (S.kp c o c1 c2 c3 c4 q)⟩
variable {prog : Program} {w : World} {A : Around} {E : Value → Shared → Prop} {s : Shared}
theorem nx_item {Q : Value → Shared → Prop} (u : ItAt t s.heap it l k) (q : SqAt t s.heap l xs) (hx : xs[k]? = some x) (hQ : ∀ h', ItAt t h' it l (k + 1) → Heap.SameBut it s.heap h' → Q x { s with heap := h' }) :
    wpAny (model prog w) A (Builtin.SmallTypes.nextOf (.ref it)) Q E s := by
  cases t
  · exact wpAny_nextOf_list_item u q hx hQ
  · exact nextOf_tuple_item u q hx hQ
theorem nx_end {Q : Value → Shared → Prop} (hh : A.handled = none) (u : ItAt t s.heap it l k) (q : SqAt t s.heap l xs) (hx : xs[k]? = none)
    (hE : ∀ h' e, Heap.ExtBut it s.heap h' → (∃ o, h'.get? e = some o ∧ o.cls = .type "StopIteration") → E (.ref e) { s with heap := h' }) : wpAny (model prog w) A (Builtin.SmallTypes.nextOf (.ref it)) Q E s := by
  cases t
  · exact wpAny_nextOf_list_end hh u q hx hE
  · exact nextOf_tuple_end hh u q hx hE
theorem it_new {Q : Value → Shared → Prop} (q : SqAt t s.heap l xs) (hQ : Q (.ref s.heap.objs.size) { s with heap := s.heap.push { cls := .type (clsIt t), data := .fields #[.ref l, .int 0 0] } }) : wpAny (model prog w) A (pyIter (.ref l)) Q E s := by
  cases t
  · exact wpAny_pyIter_list q hQ
  · exact wpAny_pyIter_tuple q hQ

/-- a turn: the pair handed out -/
theorem zn_item {Q : Value → Shared → Prop} (D : ZipApart z TI TO i1 i2 l1 l2) (S : Zs t1 t2 z TI TO i1 i2 l1 l2 xs ys s.heap .none a b k1 k2 s.heap) (hx : xs[k1]? = some x) (hy : ys[k2]? = some y)
    (hQ : ∀ h', Zs t1 t2 z TI TO i1 i2 l1 l2 xs ys s.heap (rawInt s.heap.objs.size) x y (k1 + 1) (k2 + 1) h' → IsPair h' s.heap.objs.size x y → h'.objs.size = s.heap.objs.size + 1 → Q (.ref s.heap.objs.size) { s with heap := h' }) :
    wpAny (model prog w) A (Builtin.«zip.__next__» ⟨[.ref z], []⟩) (fun fin s' => ∃ v, fin = .done (.ret v) ∧ Q v s') E s := by
  have gz := S.gz
  show wpAny _ _ (field (.ref z) 2 >>= _) _ _ s
  refine wpAny_bind (wpAny_field gz rfl rfl ?_)
  show wpAny _ _ (field (.ref z) 3 >>= _) _ _ s
  refine wpAny_bind (wpAny_field gz rfl rfl (wpAny_bind (wpAny_seqItems S.gI rfl ?_)))
  show wpAny _ _ (Builtin.SmallTypes.ownedTupleIsFree (.ref z) >>= _) _ _ s
  apply wpAny_bind
  unfold Builtin.SmallTypes.ownedTupleIsFree
  refine wpAny_bind (wpAny_field gz rfl rfl (wpAny_pure ?_))
  simp only [if_true]
  refine wpAny_bind (wpAny_rule (wpAny_bind (wpAny_field gz rfl rfl (wpAny_bind (wpAny_setField_rec gz (by simp) fun g1 z1 c1 => ?_)))))
  have S1 : Zs t1 t2 z TI TO i1 i2 l1 l2 xs ys s.heap .ellipsis a b k1 k2 g1 := S.onZ D c1.extBut z1
  refine wpAny_bind ?_
  simp only [List.zipIdx_cons, List.zipIdx_nil, List.forIn_cons, List.forIn_nil]
  refine wpAny_bind (wpAny_bind (wpAny_onRaise ?_))
  show wpAny _ _ (Builtin.SmallTypes.nextOf (.ref i1) >>= _) _ _ _
  refine wpAny_bind (nx_item S1.u1 S1.q1 hx fun g2 v2 c2 => wpAny_pure ?_)
  have S2 := S1.on1 D c2.extBut v2
  refine wpAny_bind (wpAny_seqItems S2.gO rfl (wpAny_bind (wpAny_updateSeq_pair S2.gO fun g3 o3 c3 => wpAny_bind (wpAny_letGo (wpAny_pure ?_)))))
  have S3 : Zs t1 t2 z TI TO i1 i2 l1 l2 xs ys s.heap .ellipsis x b (k1 + 1) k2 g3 := S2.onO D c3.extBut o3
  refine wpAny_bind (wpAny_bind (wpAny_onRaise ?_))
  show wpAny _ _ (Builtin.SmallTypes.nextOf (.ref i2) >>= _) _ _ _
  refine wpAny_bind (nx_item S3.u2 S3.q2 hy fun g4 v4 c4 => wpAny_pure ?_)
  have S4 := S3.on2 D c4.extBut v4
  refine wpAny_bind (wpAny_seqItems S4.gO rfl (wpAny_bind (wpAny_updateSeq_pair S4.gO fun g5 o5 c5 => wpAny_bind (wpAny_letGo (wpAny_pure (wpAny_pure ?_))))))
  have S5 : Zs t1 t2 z TI TO i1 i2 l1 l2 xs ys s.heap .ellipsis x y (k1 + 1) (k2 + 1) g5 := S4.onO D c5.extBut o5
  refine wpAny_bind (wpAny_seqItems S5.gO rfl (wpAny_bind (wpAny_newTuple ?_)))
  have n5 : g5.objs.size = s.heap.objs.size := by rw [c5.1, c4.1, c3.1, c2.1, c1.1]
  have S6 := S5.onN { cls := .type "tuple", data := .seq #[x, y] }
  have ne : g5.objs.size ≠ z := Nat.ne_of_gt (Heap.lt_size S5.gz)
  have p6 : IsPair (g5.push { cls := .type "tuple", data := .seq #[x, y] }) g5.objs.size x y := Heap.get?_push_size _ rfl
  show wpAny _ _ (Builtin.SmallTypes.ownedTupleHandOut (.ref z) (.ref g5.objs.size) >>= _) _ _ _
  refine wpAny_bind ?_
  unfold Builtin.SmallTypes.ownedTupleHandOut
  refine wpAny_bind (wpAny_setField_rec S6.gz (by simp) fun g7 z7 c7 => ?_)
  have S7 : Zs t1 t2 z TI TO i1 i2 l1 l2 xs ys s.heap (rawInt g5.objs.size) x y (k1 + 1) (k2 + 1) g7 := S6.onZ D c7.extBut z7
  refine wpAny_setField_rec S7.gz (by simp) fun g8 z8 c8 => ?_
  have S8 : Zs t1 t2 z TI TO i1 i2 l1 l2 xs ys s.heap (rawInt g5.objs.size) x y (k1 + 1) (k2 + 1) g8 := S7.onZ D c8.extBut z8
  have p8 : IsPair g8 g5.objs.size x y := c8.extBut _ _ ne (c7.extBut _ _ ne p6)
  have n8 : g8.objs.size = g5.objs.size + 1 := by rw [c8.1, c7.1, Heap.size_push]
  rw [n5] at S8 p8 n8
  refine wpAny_pure ⟨_, rfl, ?_⟩
  show Q (.ref g5.objs.size) _
  rw [n5]
  exact hQ g8 S8 p8 n8
/-- the end -/
theorem zn_end {Q : Fin → Shared → Prop} (hh : A.handled = none) (D : ZipApart z TI TO i1 i2 l1 l2) (S : Zs t1 t2 z TI TO i1 i2 l1 l2 xs ys s.heap .none a b k1 k2 s.heap) (hend : xs[k1]? = none ∨ ys[k2]? = none)
    (hE : ∀ h' e, (∀ c o, c ≠ z → c ≠ TO → c ≠ i1 → c ≠ i2 → s.heap.get? c = some o → h'.get? c = some o) → (∃ o, h'.get? e = some o ∧ o.cls = .type "StopIteration") → E (.ref e) { s with heap := h' }) :
    wpAny (model prog w) A (Builtin.«zip.__next__» ⟨[.ref z], []⟩) Q E s := by
  have gz := S.gz
  show wpAny _ _ (field (.ref z) 2 >>= _) _ _ s
  refine wpAny_bind (wpAny_field gz rfl rfl ?_)
  show wpAny _ _ (field (.ref z) 3 >>= _) _ _ s
  refine wpAny_bind (wpAny_field gz rfl rfl (wpAny_bind (wpAny_seqItems S.gI rfl ?_)))
  show wpAny _ _ (Builtin.SmallTypes.ownedTupleIsFree (.ref z) >>= _) _ _ s
  apply wpAny_bind
  unfold Builtin.SmallTypes.ownedTupleIsFree
  refine wpAny_bind (wpAny_field gz rfl rfl (wpAny_pure ?_))
  simp only [if_true]
  refine wpAny_bind (wpAny_rule (wpAny_bind (wpAny_field gz rfl rfl (wpAny_bind (wpAny_setField_rec gz (by simp) fun g1 z1 c1 => ?_)))))
  have S1 : Zs t1 t2 z TI TO i1 i2 l1 l2 xs ys s.heap .ellipsis a b k1 k2 g1 := S.onZ D c1.extBut z1
  refine wpAny_bind ?_
  simp only [List.zipIdx_cons, List.zipIdx_nil, List.forIn_cons, List.forIn_nil]
  refine wpAny_bind (wpAny_bind (wpAny_onRaise ?_))
  show wpAny _ _ (Builtin.SmallTypes.nextOf (.ref i1) >>= _) _ _ _
  have out : ∀ g g' e, IsZip g z TI TO .ellipsis → (∃ o, g.get? e = some o ∧ o.cls = .type "StopIteration") → Heap.SameBut z g g' → ∃ o, g'.get? e = some o ∧ o.cls = .type "StopIteration" := by
    rintro g g' e gz ⟨o, ho, hc⟩ c
    refine ⟨o, c.extBut _ _ (fun q => ?_) ho, hc⟩
    subst q; rw [gz] at ho; cases ho; simp at hc
  cases hx : xs[k1]? with
  | none =>
    refine wpAny_bind (nx_end hh S1.u1 S1.q1 hx fun g2 e c2 he => ?_)
    have gz2 : IsZip g2 z TI TO .ellipsis := c2 _ _ D.i1z.symm S1.gz
    exact wpAny_setField_rec gz2 (by simp) fun g3 _ c3 => hE g3 e (fun c o a1 a2 a3 a4 q => c3.extBut _ _ a1 (c2 _ _ a3 (S1.kp c o a1 a2 a3 a4 q))) (out _ _ _ gz2 he c3)
  | some x =>
    have hy : ys[k2]? = none := hend.resolve_left (by rw [hx]; simp)
    refine wpAny_bind (nx_item S1.u1 S1.q1 hx fun g2 v2 c2 => wpAny_pure ?_)
    have S2 := S1.on1 D c2.extBut v2
    refine wpAny_bind (wpAny_seqItems S2.gO rfl (wpAny_bind (wpAny_updateSeq_pair S2.gO fun g3 o3 c3 => wpAny_bind (wpAny_letGo (wpAny_pure ?_)))))
    have S3 : Zs t1 t2 z TI TO i1 i2 l1 l2 xs ys s.heap .ellipsis x b (k1 + 1) k2 g3 := S2.onO D c3.extBut o3
    refine wpAny_bind (wpAny_bind (wpAny_onRaise ?_))
    show wpAny _ _ (Builtin.SmallTypes.nextOf (.ref i2) >>= _) _ _ _
    refine wpAny_bind (nx_end hh S3.u2 S3.q2 hy fun g4 e c4 he => ?_)
    have gz4 : IsZip g4 z TI TO .ellipsis := c4 _ _ D.i2z.symm S3.gz
    exact wpAny_setField_rec gz4 (by simp) fun g5 _ c5 => hE g5 e (fun c o a1 a2 a3 a4 q => c5.extBut _ _ a1 (c4 _ _ a4 (S3.kp c o a1 a2 a3 a4 q))) (out _ _ _ gz4 he c5)
theorem zp_item {Q : Option Value → Shared → Prop} (D : ZipApart z TI TO i1 i2 l1 l2) (S : Zs t1 t2 z TI TO i1 i2 l1 l2 xs ys s.heap .none a b k1 k2 s.heap) (hx : xs[k1]? = some x) (hy : ys[k2]? = some y)
    (hQ : ∀ h', Zs t1 t2 z TI TO i1 i2 l1 l2 xs ys s.heap (rawInt s.heap.objs.size) x y (k1 + 1) (k2 + 1) h' → IsPair h' s.heap.objs.size x y → h'.objs.size = s.heap.objs.size + 1 → Q (some (.ref s.heap.objs.size)) { s with heap := h' }) :
    wpAny (model prog w) A (pyNext (.ref z)) Q E s := by
  have ty : s.TypeIs (.ref z) "zip" := ⟨_, S.gz, rfl⟩
  unfold pyNext
  exact wpAny_bind (wpAny_attempt (wpAny_callSpecial?_slot (name := Str.ofString "__next__") ty F.slot_zip_next (wpAny_call_entry F.slot_zip_next ty F.entry_zip_next (zn_item D S hx hy fun g b1 b2 b3 => wpAny_pure (hQ g b1 b2 b3)) (F.args_zip_next_1 _))))
theorem zp_end {Q : Option Value → Shared → Prop} (hh : A.handled = none) (D : ZipApart z TI TO i1 i2 l1 l2) (S : Zs t1 t2 z TI TO i1 i2 l1 l2 xs ys s.heap .none a b k1 k2 s.heap) (hend : xs[k1]? = none ∨ ys[k2]? = none)
    (hQ : ∀ h', (∀ c o, c ≠ z → c ≠ TO → c ≠ i1 → c ≠ i2 → s.heap.get? c = some o → h'.get? c = some o) → Q none { s with heap := h' }) : wpAny (model prog w) A (pyNext (.ref z)) Q E s := by
  have ty : s.TypeIs (.ref z) "zip" := ⟨_, S.gz, rfl⟩
  unfold pyNext
  refine wpAny_bind (wpAny_attempt (wpAny_callSpecial?_slot (name := Str.ofString "__next__") ty F.slot_zip_next (wpAny_call_entry F.slot_zip_next ty F.entry_zip_next (zn_end hh D S hend fun g e kp he => ?_) (F.args_zip_next_1 _))))
  exact wpAny_bind (wpAny_isInstance (T := "StopIteration") (b := true) he isSubtype_stop (wpAny_pure (hQ _ kp)))

/-- the five objects that zip makes -/
def zH1 (h : Heap) (t1 : Bool) (l1 : Addr) : Heap := h.push { cls := .type (clsIt t1), data := .fields #[.ref l1, .int 0 0] }
def zH2 (h : Heap) (t1 t2 : Bool) (l1 l2 : Addr) : Heap := (zH1 h t1 l1).push { cls := .type (clsIt t2), data := .fields #[.ref l2, .int 0 0] }
def zH3 (h : Heap) (t1 t2 : Bool) (l1 l2 : Addr) : Heap := (zH2 h t1 t2 l1 l2).push { cls := .type "tuple", data := .seq #[.ref h.objs.size, .ref (zH1 h t1 l1).objs.size] }
def zH4 (h : Heap) (t1 t2 : Bool) (l1 l2 : Addr) : Heap := (zH3 h t1 t2 l1 l2).push { cls := .type "tuple", data := .seq #[.none, .none] }
def zH5 (h : Heap) (t1 t2 : Bool) (l1 l2 : Addr) : Heap := (zH4 h t1 t2 l1 l2).push { cls := .type "zip", data := .fields #[.none, .bool false, .bool false, .ref (zH2 h t1 t2 l1 l2).objs.size, .ref (zH3 h t1 t2 l1 l2).objs.size] }
theorem zip_made (t1 t2 : Bool) (l1 l2 : Addr) (xs ys : Array Value) : Meets (Builtin.«zip.__new__» ⟨[.type "zip", .ref l1, .ref l2], []⟩) (fun _ R s => SqAt t1 s.heap l1 xs ∧ SqAt t2 s.heap l2 ys ∧
      R (.ok (.ret (.ref (zH4 s.heap t1 t2 l1 l2).objs.size))) { s with heap := zH5 s.heap t1 t2 l1 l2 }) :=
  .of_wp fun prog w A R s hyp => by
    obtain ⟨hp, g, d, tk, os⟩ := s
    obtain ⟨c1, c2, rr⟩ := hyp
    have hsub := sub_zip
    have L1 : SqAt t1 (Shared.heap ⟨hp, g, d, tk, os⟩) l1 xs := c1
    have L2 : SqAt t2 (Shared.heap ⟨hp.push { cls := .type (clsIt t1), data := .fields #[.ref l1, .int 0 0] }, g, d, tk, os⟩) l2 ys := SqAt.go c2 fun o q => Heap.get?_push_of_some _ q
    wp_walk using it_new L1, it_new L2
    exact ⟨_, rfl, rr⟩
theorem zip_call {Q : Value → Shared → Prop} (c1 : SqAt t1 s.heap l1 xs) (c2 : SqAt t2 s.heap l2 ys)
    (hQ : ∀ h', Zs t1 t2 (s.heap.objs.size + 4) (s.heap.objs.size + 2) (s.heap.objs.size + 3) s.heap.objs.size (s.heap.objs.size + 1) l1 l2 xs ys s.heap .none .none .none 0 0 h' →
      (∀ c o, s.heap.get? c = some o → h'.get? c = some o) → Q (.ref (s.heap.objs.size + 4)) { s with heap := h' }) : wpAny (model prog w) A (call (.type "zip") [.ref l1, .ref l2]) Q E s := by
  refine callType_new F.called_zip (by decide) (F.typeCall_zip_2 _ _) (F.newCall_zip_2 _ _) (fun obj => F.args_object_init_3 obj _ _) F.entry_zip_new (zip_made t1 t2 l1 l2 xs ys) ⟨c1, c2, ?_⟩
  have n1 : (zH1 s.heap t1 l1).objs.size = s.heap.objs.size + 1 := Heap.size_push ..
  have n2 : (zH2 s.heap t1 t2 l1 l2).objs.size = s.heap.objs.size + 2 := by rw [zH2, Heap.size_push, n1]
  have n3 : (zH3 s.heap t1 t2 l1 l2).objs.size = s.heap.objs.size + 3 := by rw [zH3, Heap.size_push, n2]
  have n4 : (zH4 s.heap t1 t2 l1 l2).objs.size = s.heap.objs.size + 4 := by rw [zH4, Heap.size_push, n3]
  have up1 : ∀ c o, s.heap.get? c = some o → (zH1 s.heap t1 l1).get? c = some o := fun _ _ q => Heap.get?_push_of_some _ q
  have up2 : ∀ c o, (zH1 s.heap t1 l1).get? c = some o → (zH2 s.heap t1 t2 l1 l2).get? c = some o := fun _ _ q => Heap.get?_push_of_some _ q
  have up3 : ∀ c o, (zH2 s.heap t1 t2 l1 l2).get? c = some o → (zH3 s.heap t1 t2 l1 l2).get? c = some o := fun _ _ q => Heap.get?_push_of_some _ q
  have up4 : ∀ c o, (zH3 s.heap t1 t2 l1 l2).get? c = some o → (zH4 s.heap t1 t2 l1 l2).get? c = some o := fun _ _ q => Heap.get?_push_of_some _ q
  have up5 : ∀ c o, (zH4 s.heap t1 t2 l1 l2).get? c = some o → (zH5 s.heap t1 t2 l1 l2).get? c = some o := fun _ _ q => Heap.get?_push_of_some _ q
  have all : ∀ c o, s.heap.get? c = some o → (zH5 s.heap t1 t2 l1 l2).get? c = some o := fun c o q => up5 _ _ (up4 _ _ (up3 _ _ (up2 _ _ (up1 _ _ q))))
  have o1 : (zH5 s.heap t1 t2 l1 l2).get? s.heap.objs.size = some { cls := .type (clsIt t1), data := .fields #[.ref l1, .int 0 0] } := up5 _ _ (up4 _ _ (up3 _ _ (up2 _ _ (Heap.get?_push_size _ rfl))))
  have o2 : (zH5 s.heap t1 t2 l1 l2).get? (zH1 s.heap t1 l1).objs.size = some { cls := .type (clsIt t2), data := .fields #[.ref l2, .int 0 0] } := up5 _ _ (up4 _ _ (up3 _ _ (Heap.get?_push_size _ rfl)))
  have o3 : (zH5 s.heap t1 t2 l1 l2).get? (zH2 s.heap t1 t2 l1 l2).objs.size = some { cls := .type "tuple", data := .seq #[.ref s.heap.objs.size, .ref (zH1 s.heap t1 l1).objs.size] } := up5 _ _ (up4 _ _ (Heap.get?_push_size _ rfl))
  have o4 : (zH5 s.heap t1 t2 l1 l2).get? (zH3 s.heap t1 t2 l1 l2).objs.size = some { cls := .type "tuple", data := .seq #[.none, .none] } := up5 _ _ (Heap.get?_push_size _ rfl)
  have o5 : (zH5 s.heap t1 t2 l1 l2).get? (zH4 s.heap t1 t2 l1 l2).objs.size = some { cls := .type "zip", data := .fields #[.none, .bool false, .bool false, .ref (zH2 s.heap t1 t2 l1 l2).objs.size, .ref (zH3 s.heap t1 t2 l1 l2).objs.size] } := Heap.get?_push_size _ rfl
  rw [n2, n3, n4] at o5
  rw [n3] at o4
  rw [n1, n2] at o3
  rw [n1] at o2
  have w1 : ItAt t1 (zH5 s.heap t1 t2 l1 l2) s.heap.objs.size l1 0 := by cases t1 <;> exact ⟨_, o1, rfl, rfl⟩
  have w2 : ItAt t2 (zH5 s.heap t1 t2 l1 l2) (s.heap.objs.size + 1) l2 0 := by cases t2 <;> exact ⟨_, o2, rfl, rfl⟩
  show _ ∧ _
  rw [n4]
  exact ⟨⟨_, o5, rfl⟩, hQ _ ⟨o5, o3, o4, w1, w2, c1.go (all _), c2.go (all _), fun c o _ _ _ _ q => all c o q⟩ all⟩
end

/-! ### as an iterable of the data layer -/
/-- the sequences at a and b as they stand at each turn, the items in new pairs -/
def ItzD (K : PySem.W.Frag) (t1 t2 : Bool) (a b : Addr) : It :=
  ⟨fun i H => ∃ (xs ys : List V) (x y : V), Sq K H t1 a xs ∧ Sq K H t2 b ys ∧ xs[i]? = some x ∧ ys[i]? = some y,
   fun i H v H' => ∃ T x y, v = .ref T ∧ H T = none ∧ H' = upd H T (.tup [x, y]) ∧ (∀ xs, Sq K H t1 a xs → xs[i]? = some x) ∧ ∀ ys, Sq K H t2 b ys → ys[i]? = some y,
   fun i H => ∃ xs ys : List V, Sq K H t1 a xs ∧ Sq K H t2 b ys ∧ (xs.length ≤ i ∨ ys.length ≤ i)⟩
theorem inv_sq {X : Cx} {pins : List (Addr × Obj)} {σ : L2.St} {H : Hp} {s : Shared} {t : Bool} {a : Addr} {xs : List V} (I : Inv X pins σ H s) (q : Sq X.K H t a xs) : ∃ its, Vals xs its ∧ SqAt t s.heap a its.toArray := by
  cases t
  · obtain ⟨its, rv, p, _⟩ := I.list (SqL.of q)
    exact ⟨its, rv, p.isList⟩
  · obtain ⟨its, rv, p, _⟩ := I.tuple q
    exact ⟨its, rv, p⟩
theorem sq_inj {X : Cx} {pins : List (Addr × Obj)} {σ : L2.St} {H : Hp} {s : Shared} {t : Bool} {a : Addr} {xs ys : List V} (I : Inv X pins σ H s) (q : Sq X.K H t a xs) (q' : Sq X.K H t a ys) : xs = ys := by
  cases t
  · exact I.list_inj (SqL.of q) (SqL.of q')
  · exact I.tuple_inj q q'
theorem turn_zd {P : Program} {w : World} {K : PySem.W.Frag} {elts : List Expr} {kk : Nat} {tpos : Pos} {t1 t2 : Bool} {a b z TI TO i1 i2 : Addr} (D : ZipApart z TI TO i1 i2 a b) :
    Turn P w K (.Tuple elts kk tpos) (ItzD K t1 t2 a b) [z, TI, TO, i1, i2] z (fun i h => IsZip h z TI TO .none ∧ IsPair h TI (.ref i1) (.ref i2) ∧ (∃ x y, IsPair h TO x y) ∧ ItAt t1 h i1 a i ∧ ItAt t2 h i2 b i) where
  mem := List.mem_cons_self
  obj := fun i h ⟨gz, gI, ⟨_, _, gO⟩, u1, u2⟩ c hc => by
    simp only [List.mem_cons, List.not_mem_nil, or_false] at hc
    rcases hc with rfl | rfl | rfl | rfl | rfl
    · exact ⟨_, gz, fun v q => nomatch q⟩
    · exact ⟨_, gI, fun v q => nomatch q⟩
    · exact ⟨_, gO, fun v q => nomatch q⟩
    · exact u1.obj
    · exact u2.obj
  keep := fun i h h' ⟨gz, gI, ⟨x, y, gO⟩, u1, u2⟩ k =>
    ⟨k z (by simp) _ gz, k TI (by simp) _ gI, ⟨x, y, k TO (by simp) _ gO⟩, u1.go fun o => k i1 (by simp) o, u2.go fun o => k i2 (by simp) o⟩
  item := by
    rintro X rfl rfl rfl hc i pins s σ H E I hf ⟨gz, gI, ⟨x0, y0, gO⟩, u1, u2⟩ ⟨xs, ys, x, y, hqx, hqy, hx, hy⟩
    obtain ⟨vs1, rv, p1⟩ := inv_sq I hqx
    obtain ⟨vs2, rv2, p2⟩ := inv_sq I hqy
    obtain ⟨u, hu, ru⟩ := rv.get hx
    obtain ⟨u2', hu2, ru2⟩ := rv2.get hy
    have S : Zs t1 t2 z TI TO i1 i2 a b vs1.toArray vs2.toArray s.heap .none x0 y0 i i s.heap := ⟨gz, gI, gO, u1, u2, p1, p2, fun _ _ _ _ _ _ q => q⟩
    refine zp_item D S (x := u) (y := u2') (by simpa using hu) (by simpa using hu2) fun g SG pr sz => ?_
    refine ⟨_, rfl, wpAny_letOwnedTupleGo_zip (s := { s with heap := g }) SG.gz fun g2 z2 sb => ?_⟩
    have S2 := SG.onZ D sb.extBut z2
    have old : ∀ {c o}, s.heap.get? c = some o → c < s.heap.objs.size := fun q => Heap.lt_size q
    have pr2 : IsPair g2 s.heap.objs.size u u2' := sb.extBut _ _ (Nat.ne_of_gt (old gz)) pr
    have new : ObjOk X.prog X.w (upd H s.heap.objs.size (.tup [x, y])) g2 s.heap.objs.size (.tup [x, y]) := ⟨Nat.le_of_ble_eq_true rfl, [u, u2'], .cons ru (.cons ru2 .nil), ⟨_, pr2, rfl, _, rfl⟩⟩
    have I2 : Inv X pins σ (upd H s.heap.objs.size (.tup [x, y])) { s with heap := g2 } :=
      I.turnedNew (t' := s.toks) (ch := [z, TI, TO, i1, i2]) (fun c o hb q => by
        simp only [List.mem_cons, List.not_mem_nil, or_false, not_or] at hb
        exact S2.kp c o hb.1 hb.2.2.1 hb.2.2.2.1 hb.2.2.2.2 q) hf (Nat.le_refl _) new
    refine ⟨.ref s.heap.objs.size, _, I2, rfl, ⟨_, x, y, rfl, I.hok.fresh (Nat.le_refl _), rfl, fun l hl => by rw [sq_inj I hl hqx]; exact hx, fun l hl => by rw [sq_inj I hl hqy]; exact hy⟩, ⟨S2.gz, S2.gI, ⟨u, u2', S2.gO⟩, S2.u1, S2.u2⟩, fun c hcm => ?_⟩
    have lt : c < s.heap.objs.size := by
      have hcm2 := hcm
      simp only [List.mem_cons, List.not_mem_nil, or_false] at hcm2
      obtain ⟨_, f1, _⟩ := u1.obj
      obtain ⟨_, f2, _⟩ := u2.obj
      rcases hcm2 with rfl | rfl | rfl | rfl | rfl
      · exact old gz
      · exact old gI
      · exact old gO
      · exact old f1
      · exact old f2
    rw [upd_ne (Nat.ne_of_lt lt)]
    exact (hf c hcm).1
  done := by
    rintro X rfl rfl rfl hc i pins s σ H E I hf ⟨gz, gI, ⟨x0, y0, gO⟩, u1, u2⟩ ⟨xs, ys, hqx, hqy, hend⟩
    obtain ⟨vs1, rv, p1⟩ := inv_sq I hqx
    obtain ⟨vs2, rv2, p2⟩ := inv_sq I hqy
    have n1 := rv.length
    have n2 := rv2.length
    have S : Zs t1 t2 z TI TO i1 i2 a b vs1.toArray vs2.toArray s.heap .none x0 y0 i i s.heap := ⟨gz, gI, gO, u1, u2, p1, p2, fun _ _ _ _ _ _ q => q⟩
    refine zp_end (I.ok.hd hc) D S (hend.imp (fun q => by simp; omega) fun q => by simp; omega) fun g kp => ⟨rfl, I.turnedL (t' := s.toks) (ch := [z, TI, TO, i1, i2]) (fun c o hb q => ?_) hf⟩
    simp only [List.mem_cons, List.not_mem_nil, or_false, not_or] at hb
    exact kp c o hb.1 hb.2.2.1 hb.2.2.2.1 hb.2.2.2.2 q
  self := fun A i s Q E st h => wpAny_pyIter_zip st.1 h

def tZip (K : PySem.W.Frag) (t1 t2 : Bool) (ta : TA) : TI := fun σ H R => ta σ H fun vs H1 => ∃ a b xs ys, vs = [.ref a, .ref b] ∧ Sq K H1 t1 a xs ∧ Sq K H1 t2 b ys ∧ R (ItzD K t1 t2 a b) H1
theorem pi_zipD {X : Cx} {e e2 : Expr} {ta : TA} {p pos tpos : Pos} {elts : List Expr} {kk : Nat} {t1 t2 : Bool} (hg : Gl X "zip") (hm : X.mg "zip" = none) (ha : PA X [e, e2] ta)
    (hs : starEach [e, e2] X.env = (false, eval e X.env) :: starEach [e2] X.env) (hpl : (backTo pos (starEach [e2] X.env)).any (·.1) = false) : PI X (.Tuple elts kk tpos) (.Call (.Name "zip" p) [e, e2] [] pos) (tZip X.K t1 t2 ta) := by
  refine ⟨fun pins s σ H R I h => Call_ (ld_blt I hg hm PyProof.Rows.boot_zip (PyProof.Rows.callWith_type1 (thn (ha.run pos pins s σ H _ I h) fun us s1 ⟨vs, H1, I1, r1, a, b, xs, ys, ex, qx, qy, rr⟩ => ?_) hs hpl))⟩
  subst ex
  cases r1 with
  | cons r r2 =>
  cases r2 with
  | cons r' r2 =>
  cases r2; cases r; cases r'
  obtain ⟨vs1, _, p1⟩ := inv_sq I1 qx
  obtain ⟨vs2, _, p2⟩ := inv_sq I1 qy
  have lt : ∀ {t : Bool} {l : Addr} {zs : Array Value}, SqAt t s1.heap l zs → l < s1.heap.objs.size := fun {t l zs} q => by cases t <;> (obtain ⟨o, ho, _⟩ := q; exact Heap.lt_size ho)
  refine zip_call p1 p2 fun g S kp => wpAny_pyIter_zip S.gz ⟨s1.heap.objs.size + 4, [s1.heap.objs.size + 4, s1.heap.objs.size + 2, s1.heap.objs.size + 3, s1.heap.objs.size, s1.heap.objs.size + 1], _, _, H1, rfl, I1.kept (t' := s1.toks) kp, turn_zd (PySem.W.ktu_apart s1.heap.objs.size a b (lt p1) (lt p2)), ⟨S.gz, S.gI, ⟨_, _, S.gO⟩, S.u1, S.u2⟩, fun c hc => ?_, rr⟩
  have le : s1.heap.objs.size ≤ c := by
    simp only [List.mem_cons, List.not_mem_nil, or_false] at hc
    rcases hc with rfl | rfl | rfl | rfl | rfl <;> first | exact Nat.le_refl _ | exact Nat.le_add_right _ _
  exact I1.fpOk le (I1.hok.fresh le)
/-- zip of two sequences of one length -/
theorem di_zip {X : Cx} {δ : List Slot} {e e2 : Expr} {p pos tpos : Pos} {elts : List Expr} {kk : Nat} {t1 t2 : Bool} {ds es : List Dt} (hm : X.mg "zip" = none) (ha : DE X δ e (.sq t1 ds)) (hb : DE X δ e2 (.sq t2 es)) (hl : ds.length = es.length) (hg : Gl X "zip" := by rfl)
    (hs : starEach (e :: [e2]) X.env = (false, eval e X.env) :: starEach [e2] X.env := by rfl) (hs2 : starEach (e2 :: []) X.env = (false, eval e2 X.env) :: starEach [] X.env := by rfl) (hpl : (backTo pos (starEach [e2] X.env)).any (·.1) = false := by rfl) :
    DI X δ (.Tuple elts kk tpos) (.Call (.Name "zip" p) [e, e2] [] pos) (List.zipWith (fun x y => .sq true [x, y]) ds es) :=
  imI (pi_zipD (t1 := t1) (t2 := t2) hg hm (da_cons ha (da_cons hb da_nil hs2) hs) hs hpl) fun σ H R ⟨S, O, E, k⟩ => ⟨S, O, E, fun vs H1 e1 i1 => by
    obtain ⟨v, v', rfl, j1, j2⟩ := i1.two_inv
    simp only [Is] at j1 j2
    obtain ⟨a, xs, rfl, q1, r1⟩ := j1
    obtain ⟨b, ys, rfl, q2, r2⟩ := j2
    refine ⟨a, b, xs, ys, rfl, (hid_le _ _).sq q1, (hid_le _ _).sq q2, k _ H1 e1 fun n M' H' ex tr hn => ?_⟩
    rw [List.length_zipWith, ← hl, Nat.min_self] at hn
    have w1 : Sq X.K H' t1 a xs := (hid_le _ _).sq (ex.sq q1)
    have w2 : Sq X.K H' t2 b ys := (hid_le _ _).sq (ex.sq q2)
    refine ⟨fun hz => ⟨xs, ys, w1, w2, .inl ?_⟩, fun d hd => ?_⟩
    · rw [List.length_zipWith, ← hl, Nat.min_self] at hz
      rw [r1.length, hz]; exact Nat.le_refl _
    · have hlt := lt_of_get hd
      rw [List.length_zipWith, ← hl, Nat.min_self] at hlt
      have hlt2 : n < es.length := by omega
      have g1 : ds[n]? = some ds[n] := by simp [hlt]
      have g2 : es[n]? = some es[n] := by simp [hlt2]
      have ed : d = .sq true [ds[n], es[n]] := by
        rw [List.getElem?_zipWith, g1, g2] at hd
        exact (Option.some.inj hd).symm
      obtain ⟨x, hx, ix⟩ := (r1.mono ex).get g1
      obtain ⟨y, hy, iy⟩ := (r2.mono ex).get g2
      refine ⟨⟨xs, ys, x, y, w1, w2, hx, hy⟩, ?_⟩
      rintro _ _ ⟨T, x', y', rfl, hT, rfl, f1, f2⟩
      have := f1 xs w1; rw [hx] at this; cases this
      have := f2 ys w2; rw [hy] at this; cases this
      have nt : T ∉ M' := fun hM => tr T hM hT
      have en : Ex (hid M' H') (hid M' (upd H' T (.tup [x, y]))) := hid_ex (Ex.new hT)
      refine ⟨Ex.new hT, ?_⟩
      rw [ed]
      simp only [Is]
      exact ⟨T, [x, y], rfl, .inl (.inl (by rw [hid_out nt]; exact upd_same)), (IsAll.one (ix.mono en)).append (IsAll.one (iy.mono en))⟩⟩
/-- for a, b in .. -/
theorem dss_for2 {X : Cx} {δ : List Slot} {iter : Expr} {items : List Dt} {x : Str} {p pos : Pos} {rest : List Stmt} {D : DEnds} {k : Nat} (i j : Nat) {y : Str} {py pt : Pos} {body : List Stmt} {kk : Nat} (P : Plc X k) (hN : X.N[i]? = some x) (hN2 : X.N[j]? = some y)
    (hi : DI X δ (.Tuple [.Name x p, .Name y py] kk pt) iter items) (Inv : Nat → List Slot → Prop) (h0 : Inv 0 δ)
    (hs : ∀ n d δ', items[n]? = some d → Inv n δ' → ∃ d1 d2, d = .sq true [d1, d2] ∧ DSs X ((δ'.set i (.sh d1)).set j (.sh d2)) body { nx := Inv (n + 1), ct := Inv (n + 1), bk := fun δ' => DSs X δ' rest D, rt := D.rt })
    (hd : ∀ δ', Inv items.length δ' → DSs X δ' rest D) (hs0 : ∀ x, foldedSetIterable iter X.env x = pure x := by intro _; rfl)
    (hf : X.fn x = true ∨ X.env.scope.names.lookup x = some .local := by first | exact .inl rfl | exact .inr rfl | assumption) (hf2 : X.fn y = true ∨ X.env.scope.names.lookup y = some .local := by first | exact .inl rfl | exact .inr rfl | assumption)
    (hx : Loc X.env.scope x := by first | exact Or.inl rfl | exact Or.inr rfl) (hy : Loc X.env.scope y := by first | exact Or.inl rfl | exact Or.inr rfl) : DSs X δ (.For (.Tuple [.Name x p, .Name y py] kk pt) iter body [] pos :: rest) D :=
  dss_cons (ds_for2 i j P hN hx hN2 hy hi Inv h0 hs hd hs0 hf hf2)
end Dat

set_option Elab.async false
set_option linter.all false
set_option maxRecDepth 100000
set_option maxHeartbeats 0
namespace K01
open PySem L2 Dat
def top (i : Nat) : Stmt := PySem.Challenge.pw_cutmakers_k01_parts_and_marks.main.body.getD i (.Pass ⟨0, 0, 0, 0⟩)
abbrev s_ratio : Stmt := top 5
abbrev N_ratio : List Str := ["top", "bottom", "common"]
theorem sc_ratio : FnScope N_ratio ["top", "bottom"] (defScope s_ratio) := ⟨rfl, rfl, rfl, by decide +kernel, rfl, by decide +kernel, by decide +kernel⟩
abbrev s_plus : Stmt := top 6
abbrev N_plus : List Str := ["one", "two"]
theorem sc_plus : FnScope N_plus ["one", "two"] (defScope s_plus) := ⟨rfl, rfl, rfl, by decide +kernel, rfl, by decide +kernel, by decide +kernel⟩
abbrev s_times : Stmt := top 7
abbrev N_times : List Str := ["one", "two"]
theorem sc_times : FnScope N_times ["one", "two"] (defScope s_times) := ⟨rfl, rfl, rfl, by decide +kernel, rfl, by decide +kernel, by decide +kernel⟩
abbrev s_compare : Stmt := top 8
abbrev N_compare : List Str := ["one", "two", "left", "right"]
theorem sc_compare : FnScope N_compare ["one", "two"] (defScope s_compare) := ⟨rfl, rfl, rfl, by decide +kernel, rfl, by decide +kernel, by decide +kernel⟩
abbrev s_lesser : Stmt := top 9
abbrev N_lesser : List Str := ["one", "two"]
theorem sc_lesser : FnScope N_lesser ["one", "two"] (defScope s_lesser) := ⟨rfl, rfl, rfl, by decide +kernel, rfl, by decide +kernel, by decide +kernel⟩
abbrev s_greater : Stmt := top 10
abbrev N_greater : List Str := ["one", "two"]
theorem sc_greater : FnScope N_greater ["one", "two"] (defScope s_greater) := ⟨rfl, rfl, rfl, by decide +kernel, rfl, by decide +kernel, by decide +kernel⟩
abbrev s_total : Stmt := top 11
abbrev N_total : List Str := ["values", "result", "value"]
theorem sc_total : FnScope N_total ["values"] (defScope s_total) := ⟨rfl, rfl, rfl, by decide +kernel, rfl, by decide +kernel, by decide +kernel⟩
abbrev s_dot : Stmt := top 12
abbrev N_dot : List Str := ["ones", "twos", "result", "one", "two"]
theorem sc_dot : FnScope N_dot ["ones", "twos"] (defScope s_dot) := ⟨rfl, rfl, rfl, by decide +kernel, rfl, by decide +kernel, by decide +kernel⟩
abbrev s_floor_of : Stmt := top 13
abbrev N_floor_of : List Str := ["value"]
theorem sc_floor_of : FnScope N_floor_of ["value"] (defScope s_floor_of) := ⟨rfl, rfl, rfl, by decide +kernel, rfl, by decide +kernel, by decide +kernel⟩
abbrev s_ceiling_of : Stmt := top 14
abbrev N_ceiling_of : List Str := ["value"]
theorem sc_ceiling_of : FnScope N_ceiling_of ["value"] (defScope s_ceiling_of) := ⟨rfl, rfl, rfl, by decide +kernel, rfl, by decide +kernel, by decide +kernel⟩
abbrev s_part_of : Stmt := top 15
abbrev N_part_of : List Str := ["value"]
theorem sc_part_of : FnScope N_part_of ["value"] (defScope s_part_of) := ⟨rfl, rfl, rfl, by decide +kernel, rfl, by decide +kernel, by decide +kernel⟩
abbrev s_common_bottom : Stmt := top 16
abbrev N_common_bottom : List Str := ["values", "bottom", "value"]
theorem sc_common_bottom : FnScope N_common_bottom ["values"] (defScope s_common_bottom) := ⟨rfl, rfl, rfl, by decide +kernel, rfl, by decide +kernel, by decide +kernel⟩
abbrev s_lifted : Stmt := top 17
abbrev N_lifted : List Str := ["values", "bottom", "value"]
theorem sc_lifted : FnScope N_lifted ["values", "bottom"] (defScope s_lifted) := ⟨rfl, rfl, rfl, by decide +kernel, rfl, by decide +kernel, by decide +kernel⟩
abbrev s_mark_of : Stmt := top 19
abbrev N_mark_of : List Str := ["value", "marks", "scaled"]
theorem sc_mark_of : FnScope N_mark_of ["value", "marks"] (defScope s_mark_of) := ⟨rfl, rfl, rfl, by decide +kernel, rfl, by decide +kernel, by decide +kernel⟩
abbrev s_order_of : Stmt := top 20
abbrev N_order_of : List Str := ["mark", "marks"]
theorem sc_order_of : FnScope N_order_of ["mark", "marks"] (defScope s_order_of) := ⟨rfl, rfl, rfl, by decide +kernel, rfl, by decide +kernel, by decide +kernel⟩
abbrev s__law_is : Stmt := top 22
abbrev N__law_is : List Str := ["told", "due"]
theorem sc__law_is : FnScope N__law_is ["told", "due"] (defScope s__law_is) := ⟨rfl, rfl, rfl, by decide +kernel, rfl, by decide +kernel, by decide +kernel⟩
abbrev s__law_whole : Stmt := top 23
abbrev N__law_whole : List Str := ["value"]
theorem sc__law_whole : FnScope N__law_whole ["value"] (defScope s__law_whole) := ⟨rfl, rfl, rfl, by decide +kernel, rfl, by decide +kernel, by decide +kernel⟩
abbrev s__law_cell : Stmt := top 24
abbrev N__law_cell : List Str := ["script", "k", "seed", "cell"]
theorem sc__law_cell : FnScope N__law_cell ["script", "k"] (defScope s__law_cell) := ⟨rfl, rfl, rfl, by decide +kernel, rfl, by decide +kernel, by decide +kernel⟩
abbrev s__law_digits : Stmt := top 25
abbrev N__law_digits : List Str := ["cell", "sizes", "row", "rest", "size", "seed", "k", "twice"]
theorem sc__law_digits : FnScope N__law_digits ["cell", "sizes"] (defScope s__law_digits) := ⟨rfl, rfl, rfl, by decide +kernel, rfl, by decide +kernel, by decide +kernel⟩
abbrev s__law_gcd : Stmt := top 26
abbrev N__law_gcd : List Str := ["one", "two", "left", "right", "turn", "rest"]
theorem sc__law_gcd : FnScope N__law_gcd ["one", "two"] (defScope s__law_gcd) := ⟨rfl, rfl, rfl, by decide +kernel, rfl, by decide +kernel, by decide +kernel⟩
abbrev s__law_ratio : Stmt := top 27
abbrev N__law_ratio : List Str := ["top", "bottom", "common"]
theorem sc__law_ratio : FnScope N__law_ratio ["top", "bottom"] (defScope s__law_ratio) := ⟨rfl, rfl, rfl, by decide +kernel, rfl, by decide +kernel, by decide +kernel⟩
abbrev s__law_is_ratio : Stmt := top 28
abbrev N__law_is_ratio : List Str := ["value"]
theorem sc__law_is_ratio : FnScope N__law_is_ratio ["value"] (defScope s__law_is_ratio) := ⟨rfl, rfl, rfl, by decide +kernel, rfl, by decide +kernel, by decide +kernel⟩
abbrev s__law_joined : Stmt := top 29
abbrev N__law_joined : List Str := ["digits", "value", "digit"]
theorem sc__law_joined : FnScope N__law_joined ["digits"] (defScope s__law_joined) := ⟨rfl, rfl, rfl, by decide +kernel, rfl, by decide +kernel, by decide +kernel⟩
abbrev s__law_fraction : Stmt := top 30
abbrev N__law_fraction : List Str := ["cell", "row", "top"]
theorem sc__law_fraction : FnScope N__law_fraction ["cell"] (defScope s__law_fraction) := ⟨rfl, rfl, rfl, by decide +kernel, rfl, by decide +kernel, by decide +kernel⟩
abbrev s__law_equals : Stmt := top 31
abbrev N__law_equals : List Str := ["reply", "top", "bottom"]
theorem sc__law_equals : FnScope N__law_equals ["reply", "top", "bottom"] (defScope s__law_equals) := ⟨rfl, rfl, rfl, by decide +kernel, rfl, by decide +kernel, by decide +kernel⟩
abbrev s__law_as_passed : Stmt := top 32
abbrev N__law_as_passed : List Str := ["values", "form", "pairs", "value"]
theorem sc__law_as_passed : FnScope N__law_as_passed ["values", "form"] (defScope s__law_as_passed) := ⟨rfl, rfl, rfl, by decide +kernel, rfl, by decide +kernel, by decide +kernel⟩
abbrev s__law_bottom : Stmt := top 33
abbrev N__law_bottom : List Str := ["values", "bottom", "value"]
theorem sc__law_bottom : FnScope N__law_bottom ["values"] (defScope s__law_bottom) := ⟨rfl, rfl, rfl, by decide +kernel, rfl, by decide +kernel, by decide +kernel⟩
abbrev s__law_parts_right : Stmt := top 34
abbrev N__law_parts_right : List Str := ["one", "as_list", "top", "bottom", "first", "low", "high"]
theorem sc__law_parts_right : FnScope N__law_parts_right ["one", "as_list"] (defScope s__law_parts_right) := ⟨rfl, rfl, rfl, by decide +kernel, rfl, by decide +kernel, by decide +kernel⟩
abbrev s__law_order_right : Stmt := top 35
abbrev N__law_order_right : List Str := ["one", "two", "less", "more_than", "reply"]
theorem sc__law_order_right : FnScope N__law_order_right ["one", "two"] (defScope s__law_order_right) := ⟨rfl, rfl, rfl, by decide +kernel, rfl, by decide +kernel, by decide +kernel⟩
abbrev s__law_sums_right : Stmt := top 36
abbrev N__law_sums_right : List Str := ["ones", "twos", "forms", "bottom", "other", "whole", "both", "k", "top", "first", "second"]
theorem sc__law_sums_right : FnScope N__law_sums_right ["ones", "twos", "forms"] (defScope s__law_sums_right) := ⟨rfl, rfl, rfl, by decide +kernel, rfl, by decide +kernel, by decide +kernel⟩
abbrev s__law_bottoms_right : Stmt := top 37
abbrev N__law_bottoms_right : List Str := ["ones", "form", "factor", "bottom", "first", "reply", "whole", "k"]
theorem sc__law_bottoms_right : FnScope N__law_bottoms_right ["ones", "form", "factor"] (defScope s__law_bottoms_right) := ⟨rfl, rfl, rfl, by decide +kernel, rfl, by decide +kernel, by decide +kernel⟩
abbrev s__law_marks : Stmt := top 38
abbrev N__law_marks : List Str := ["cell", "row"]
theorem sc__law_marks : FnScope N__law_marks ["cell"] (defScope s__law_marks) := ⟨rfl, rfl, rfl, by decide +kernel, rfl, by decide +kernel, by decide +kernel⟩
abbrev s__law_fraction_of : Stmt := top 39
abbrev N__law_fraction_of : List Str := ["row", "top"]
theorem sc__law_fraction_of : FnScope N__law_fraction_of ["row"] (defScope s__law_fraction_of) := ⟨rfl, rfl, rfl, by decide +kernel, rfl, by decide +kernel, by decide +kernel⟩
abbrev s__law_value : Stmt := top 40
abbrev N__law_value : List Str := ["cell", "marks", "row", "whole"]
theorem sc__law_value : FnScope N__law_value ["cell", "marks"] (defScope s__law_value) := ⟨rfl, rfl, rfl, by decide +kernel, rfl, by decide +kernel, by decide +kernel⟩
abbrev s__law_step : Stmt := top 41
abbrev N__law_step : List Str := ["cell", "marks", "row"]
theorem sc__law_step : FnScope N__law_step ["cell", "marks"] (defScope s__law_step) := ⟨rfl, rfl, rfl, by decide +kernel, rfl, by decide +kernel, by decide +kernel⟩
abbrev s__law_first_return : Stmt := top 42
abbrev N__law_first_return : List Str := ["step", "marks", "ahead", "spot", "n"]
theorem sc__law_first_return : FnScope N__law_first_return ["step", "marks"] (defScope s__law_first_return) := ⟨rfl, rfl, rfl, by decide +kernel, rfl, by decide +kernel, by decide +kernel⟩
abbrev s__law_mark_right : Stmt := top 43
abbrev N__law_mark_right : List Str := ["reply", "value", "marks"]
theorem sc__law_mark_right : FnScope N__law_mark_right ["reply", "value", "marks"] (defScope s__law_mark_right) := ⟨rfl, rfl, rfl, by decide +kernel, rfl, by decide +kernel, by decide +kernel⟩
abbrev s__law_wheels_right : Stmt := top 44
abbrev N__law_wheels_right : List Str := ["script", "marks", "value", "step", "forms", "first", "mark", "reply", "number", "steps"]
theorem sc__law_wheels_right : FnScope N__law_wheels_right ["script"] (defScope s__law_wheels_right) := ⟨rfl, rfl, rfl, by decide +kernel, rfl, by decide +kernel, by decide +kernel⟩
abbrev s_law : Stmt := top 45
abbrev N_law : List Str := ["script", "sizes", "many", "one", "ones", "twos", "two", "pair", "k"]
theorem sc_law : FnScope N_law ["script"] (defScope s_law) := ⟨rfl, rfl, rfl, by decide +kernel, rfl, by decide +kernel, by decide +kernel⟩
/-- what the top has written -/
structure Top (K : PySem.W.Frag) (mg : Str → Option Value) : Prop where
  F_ratio : ∃ f fd, mg "ratio" = some (.ref f) ∧ FunD K "ratio" "ratio" (defArgs s_ratio) (defBody s_ratio) (defScope s_ratio) [.int 1] [] f fd
  F_plus : ∃ f fd, mg "plus" = some (.ref f) ∧ FunD K "plus" "plus" (defArgs s_plus) (defBody s_plus) (defScope s_plus) [] [] f fd
  F_times : ∃ f fd, mg "times" = some (.ref f) ∧ FunD K "times" "times" (defArgs s_times) (defBody s_times) (defScope s_times) [] [] f fd
  F_compare : ∃ f fd, mg "compare" = some (.ref f) ∧ FunD K "compare" "compare" (defArgs s_compare) (defBody s_compare) (defScope s_compare) [] [] f fd
  F_lesser : ∃ f fd, mg "lesser" = some (.ref f) ∧ FunD K "lesser" "lesser" (defArgs s_lesser) (defBody s_lesser) (defScope s_lesser) [] [] f fd
  F_greater : ∃ f fd, mg "greater" = some (.ref f) ∧ FunD K "greater" "greater" (defArgs s_greater) (defBody s_greater) (defScope s_greater) [] [] f fd
  F_total : ∃ f fd, mg "total" = some (.ref f) ∧ FunD K "total" "total" (defArgs s_total) (defBody s_total) (defScope s_total) [] [] f fd
  F_dot : ∃ f fd, mg "dot" = some (.ref f) ∧ FunD K "dot" "dot" (defArgs s_dot) (defBody s_dot) (defScope s_dot) [] [] f fd
  F_floor_of : ∃ f fd, mg "floor_of" = some (.ref f) ∧ FunD K "floor_of" "floor_of" (defArgs s_floor_of) (defBody s_floor_of) (defScope s_floor_of) [] [] f fd
  F_ceiling_of : ∃ f fd, mg "ceiling_of" = some (.ref f) ∧ FunD K "ceiling_of" "ceiling_of" (defArgs s_ceiling_of) (defBody s_ceiling_of) (defScope s_ceiling_of) [] [] f fd
  F_part_of : ∃ f fd, mg "part_of" = some (.ref f) ∧ FunD K "part_of" "part_of" (defArgs s_part_of) (defBody s_part_of) (defScope s_part_of) [] [] f fd
  F_common_bottom : ∃ f fd, mg "common_bottom" = some (.ref f) ∧ FunD K "common_bottom" "common_bottom" (defArgs s_common_bottom) (defBody s_common_bottom) (defScope s_common_bottom) [] [] f fd
  F_lifted : ∃ f fd, mg "lifted" = some (.ref f) ∧ FunD K "lifted" "lifted" (defArgs s_lifted) (defBody s_lifted) (defScope s_lifted) [] [] f fd
  F_mark_of : ∃ f fd, mg "mark_of" = some (.ref f) ∧ FunD K "mark_of" "mark_of" (defArgs s_mark_of) (defBody s_mark_of) (defScope s_mark_of) [] [] f fd
  F_order_of : ∃ f fd, mg "order_of" = some (.ref f) ∧ FunD K "order_of" "order_of" (defArgs s_order_of) (defBody s_order_of) (defScope s_order_of) [] [] f fd
  F__law_is : ∃ f fd, mg "_law_is" = some (.ref f) ∧ FunD K "_law_is" "_law_is" (defArgs s__law_is) (defBody s__law_is) (defScope s__law_is) [] [] f fd
  F__law_whole : ∃ f fd, mg "_law_whole" = some (.ref f) ∧ FunD K "_law_whole" "_law_whole" (defArgs s__law_whole) (defBody s__law_whole) (defScope s__law_whole) [] [] f fd
  F__law_cell : ∃ f fd, mg "_law_cell" = some (.ref f) ∧ FunD K "_law_cell" "_law_cell" (defArgs s__law_cell) (defBody s__law_cell) (defScope s__law_cell) [] [] f fd
  F__law_digits : ∃ f fd, mg "_law_digits" = some (.ref f) ∧ FunD K "_law_digits" "_law_digits" (defArgs s__law_digits) (defBody s__law_digits) (defScope s__law_digits) [] [] f fd
  F__law_gcd : ∃ f fd, mg "_law_gcd" = some (.ref f) ∧ FunD K "_law_gcd" "_law_gcd" (defArgs s__law_gcd) (defBody s__law_gcd) (defScope s__law_gcd) [] [] f fd
  F__law_ratio : ∃ f fd, mg "_law_ratio" = some (.ref f) ∧ FunD K "_law_ratio" "_law_ratio" (defArgs s__law_ratio) (defBody s__law_ratio) (defScope s__law_ratio) [] [] f fd
  F__law_is_ratio : ∃ f fd, mg "_law_is_ratio" = some (.ref f) ∧ FunD K "_law_is_ratio" "_law_is_ratio" (defArgs s__law_is_ratio) (defBody s__law_is_ratio) (defScope s__law_is_ratio) [] [] f fd
  F__law_joined : ∃ f fd, mg "_law_joined" = some (.ref f) ∧ FunD K "_law_joined" "_law_joined" (defArgs s__law_joined) (defBody s__law_joined) (defScope s__law_joined) [] [] f fd
  F__law_fraction : ∃ f fd, mg "_law_fraction" = some (.ref f) ∧ FunD K "_law_fraction" "_law_fraction" (defArgs s__law_fraction) (defBody s__law_fraction) (defScope s__law_fraction) [] [] f fd
  F__law_equals : ∃ f fd, mg "_law_equals" = some (.ref f) ∧ FunD K "_law_equals" "_law_equals" (defArgs s__law_equals) (defBody s__law_equals) (defScope s__law_equals) [] [] f fd
  F__law_as_passed : ∃ f fd, mg "_law_as_passed" = some (.ref f) ∧ FunD K "_law_as_passed" "_law_as_passed" (defArgs s__law_as_passed) (defBody s__law_as_passed) (defScope s__law_as_passed) [] [] f fd
  F__law_bottom : ∃ f fd, mg "_law_bottom" = some (.ref f) ∧ FunD K "_law_bottom" "_law_bottom" (defArgs s__law_bottom) (defBody s__law_bottom) (defScope s__law_bottom) [] [] f fd
  F__law_parts_right : ∃ f fd, mg "_law_parts_right" = some (.ref f) ∧ FunD K "_law_parts_right" "_law_parts_right" (defArgs s__law_parts_right) (defBody s__law_parts_right) (defScope s__law_parts_right) [] [] f fd
  F__law_order_right : ∃ f fd, mg "_law_order_right" = some (.ref f) ∧ FunD K "_law_order_right" "_law_order_right" (defArgs s__law_order_right) (defBody s__law_order_right) (defScope s__law_order_right) [] [] f fd
  F__law_sums_right : ∃ f fd, mg "_law_sums_right" = some (.ref f) ∧ FunD K "_law_sums_right" "_law_sums_right" (defArgs s__law_sums_right) (defBody s__law_sums_right) (defScope s__law_sums_right) [] [] f fd
  F__law_bottoms_right : ∃ f fd, mg "_law_bottoms_right" = some (.ref f) ∧ FunD K "_law_bottoms_right" "_law_bottoms_right" (defArgs s__law_bottoms_right) (defBody s__law_bottoms_right) (defScope s__law_bottoms_right) [] [] f fd
  F__law_marks : ∃ f fd, mg "_law_marks" = some (.ref f) ∧ FunD K "_law_marks" "_law_marks" (defArgs s__law_marks) (defBody s__law_marks) (defScope s__law_marks) [] [] f fd
  F__law_fraction_of : ∃ f fd, mg "_law_fraction_of" = some (.ref f) ∧ FunD K "_law_fraction_of" "_law_fraction_of" (defArgs s__law_fraction_of) (defBody s__law_fraction_of) (defScope s__law_fraction_of) [] [] f fd
  F__law_value : ∃ f fd, mg "_law_value" = some (.ref f) ∧ FunD K "_law_value" "_law_value" (defArgs s__law_value) (defBody s__law_value) (defScope s__law_value) [] [] f fd
  F__law_step : ∃ f fd, mg "_law_step" = some (.ref f) ∧ FunD K "_law_step" "_law_step" (defArgs s__law_step) (defBody s__law_step) (defScope s__law_step) [] [] f fd
  F__law_first_return : ∃ f fd, mg "_law_first_return" = some (.ref f) ∧ FunD K "_law_first_return" "_law_first_return" (defArgs s__law_first_return) (defBody s__law_first_return) (defScope s__law_first_return) [] [] f fd
  F__law_mark_right : ∃ f fd, mg "_law_mark_right" = some (.ref f) ∧ FunD K "_law_mark_right" "_law_mark_right" (defArgs s__law_mark_right) (defBody s__law_mark_right) (defScope s__law_mark_right) [] [] f fd
  F__law_wheels_right : ∃ f fd, mg "_law_wheels_right" = some (.ref f) ∧ FunD K "_law_wheels_right" "_law_wheels_right" (defArgs s__law_wheels_right) (defBody s__law_wheels_right) (defScope s__law_wheels_right) [] [] f fd
  F_law : ∃ f fd, mg "law" = some (.ref f) ∧ FunD K "law" "law" (defArgs s_law) (defBody s_law) (defScope s_law) [] [] f fd
  m_abs : mg "abs" = none
  m_bool : mg "bool" = none
  m_int : mg "int" = none
  m_isinstance : mg "isinstance" = none
  m_len : mg "len" = none
  m_list : mg "list" = none
  m_max : mg "max" = none
  m_range : mg "range" = none
  m_repr : mg "repr" = none
  m_tuple : mg "tuple" = none
  m_zip : mg "zip" = none
  m_gcd : mg "gcd" = some (.builtin "math.gcd")
/-! the head -/
def q_ratio : He.DefD := ⟨("ratio", none), "ratio", "ratio", defArgs s_ratio, defBody s_ratio, defScope s_ratio, [.int 1], []⟩
def q_plus : He.DefD := ⟨("plus", none), "plus", "plus", defArgs s_plus, defBody s_plus, defScope s_plus, [], []⟩
def q_times : He.DefD := ⟨("times", none), "times", "times", defArgs s_times, defBody s_times, defScope s_times, [], []⟩
def q_compare : He.DefD := ⟨("compare", none), "compare", "compare", defArgs s_compare, defBody s_compare, defScope s_compare, [], []⟩
def q_lesser : He.DefD := ⟨("lesser", none), "lesser", "lesser", defArgs s_lesser, defBody s_lesser, defScope s_lesser, [], []⟩
def q_greater : He.DefD := ⟨("greater", none), "greater", "greater", defArgs s_greater, defBody s_greater, defScope s_greater, [], []⟩
def q_total : He.DefD := ⟨("total", none), "total", "total", defArgs s_total, defBody s_total, defScope s_total, [], []⟩
def q_dot : He.DefD := ⟨("dot", none), "dot", "dot", defArgs s_dot, defBody s_dot, defScope s_dot, [], []⟩
def q_floor_of : He.DefD := ⟨("floor_of", none), "floor_of", "floor_of", defArgs s_floor_of, defBody s_floor_of, defScope s_floor_of, [], []⟩
def q_ceiling_of : He.DefD := ⟨("ceiling_of", none), "ceiling_of", "ceiling_of", defArgs s_ceiling_of, defBody s_ceiling_of, defScope s_ceiling_of, [], []⟩
def q_part_of : He.DefD := ⟨("part_of", none), "part_of", "part_of", defArgs s_part_of, defBody s_part_of, defScope s_part_of, [], []⟩
def q_common_bottom : He.DefD := ⟨("common_bottom", none), "common_bottom", "common_bottom", defArgs s_common_bottom, defBody s_common_bottom, defScope s_common_bottom, [], []⟩
def q_lifted : He.DefD := ⟨("lifted", none), "lifted", "lifted", defArgs s_lifted, defBody s_lifted, defScope s_lifted, [], []⟩
def q_mark_of : He.DefD := ⟨("mark_of", none), "mark_of", "mark_of", defArgs s_mark_of, defBody s_mark_of, defScope s_mark_of, [], []⟩
def q_order_of : He.DefD := ⟨("order_of", none), "order_of", "order_of", defArgs s_order_of, defBody s_order_of, defScope s_order_of, [], []⟩
def q__law_is : He.DefD := ⟨("_law_is", none), "_law_is", "_law_is", defArgs s__law_is, defBody s__law_is, defScope s__law_is, [], []⟩
def q__law_whole : He.DefD := ⟨("_law_whole", none), "_law_whole", "_law_whole", defArgs s__law_whole, defBody s__law_whole, defScope s__law_whole, [], []⟩
def q__law_cell : He.DefD := ⟨("_law_cell", none), "_law_cell", "_law_cell", defArgs s__law_cell, defBody s__law_cell, defScope s__law_cell, [], []⟩
def q__law_digits : He.DefD := ⟨("_law_digits", none), "_law_digits", "_law_digits", defArgs s__law_digits, defBody s__law_digits, defScope s__law_digits, [], []⟩
def q__law_gcd : He.DefD := ⟨("_law_gcd", none), "_law_gcd", "_law_gcd", defArgs s__law_gcd, defBody s__law_gcd, defScope s__law_gcd, [], []⟩
def q__law_ratio : He.DefD := ⟨("_law_ratio", none), "_law_ratio", "_law_ratio", defArgs s__law_ratio, defBody s__law_ratio, defScope s__law_ratio, [], []⟩
def q__law_is_ratio : He.DefD := ⟨("_law_is_ratio", none), "_law_is_ratio", "_law_is_ratio", defArgs s__law_is_ratio, defBody s__law_is_ratio, defScope s__law_is_ratio, [], []⟩
def q__law_joined : He.DefD := ⟨("_law_joined", none), "_law_joined", "_law_joined", defArgs s__law_joined, defBody s__law_joined, defScope s__law_joined, [], []⟩
def q__law_fraction : He.DefD := ⟨("_law_fraction", none), "_law_fraction", "_law_fraction", defArgs s__law_fraction, defBody s__law_fraction, defScope s__law_fraction, [], []⟩
def q__law_equals : He.DefD := ⟨("_law_equals", none), "_law_equals", "_law_equals", defArgs s__law_equals, defBody s__law_equals, defScope s__law_equals, [], []⟩
def q__law_as_passed : He.DefD := ⟨("_law_as_passed", none), "_law_as_passed", "_law_as_passed", defArgs s__law_as_passed, defBody s__law_as_passed, defScope s__law_as_passed, [], []⟩
def q__law_bottom : He.DefD := ⟨("_law_bottom", none), "_law_bottom", "_law_bottom", defArgs s__law_bottom, defBody s__law_bottom, defScope s__law_bottom, [], []⟩
def q__law_parts_right : He.DefD := ⟨("_law_parts_right", none), "_law_parts_right", "_law_parts_right", defArgs s__law_parts_right, defBody s__law_parts_right, defScope s__law_parts_right, [], []⟩
def q__law_order_right : He.DefD := ⟨("_law_order_right", none), "_law_order_right", "_law_order_right", defArgs s__law_order_right, defBody s__law_order_right, defScope s__law_order_right, [], []⟩
def q__law_sums_right : He.DefD := ⟨("_law_sums_right", none), "_law_sums_right", "_law_sums_right", defArgs s__law_sums_right, defBody s__law_sums_right, defScope s__law_sums_right, [], []⟩
def q__law_bottoms_right : He.DefD := ⟨("_law_bottoms_right", none), "_law_bottoms_right", "_law_bottoms_right", defArgs s__law_bottoms_right, defBody s__law_bottoms_right, defScope s__law_bottoms_right, [], []⟩
def q__law_marks : He.DefD := ⟨("_law_marks", none), "_law_marks", "_law_marks", defArgs s__law_marks, defBody s__law_marks, defScope s__law_marks, [], []⟩
def q__law_fraction_of : He.DefD := ⟨("_law_fraction_of", none), "_law_fraction_of", "_law_fraction_of", defArgs s__law_fraction_of, defBody s__law_fraction_of, defScope s__law_fraction_of, [], []⟩
def q__law_value : He.DefD := ⟨("_law_value", none), "_law_value", "_law_value", defArgs s__law_value, defBody s__law_value, defScope s__law_value, [], []⟩
def q__law_step : He.DefD := ⟨("_law_step", none), "_law_step", "_law_step", defArgs s__law_step, defBody s__law_step, defScope s__law_step, [], []⟩
def q__law_first_return : He.DefD := ⟨("_law_first_return", none), "_law_first_return", "_law_first_return", defArgs s__law_first_return, defBody s__law_first_return, defScope s__law_first_return, [], []⟩
def q__law_mark_right : He.DefD := ⟨("_law_mark_right", none), "_law_mark_right", "_law_mark_right", defArgs s__law_mark_right, defBody s__law_mark_right, defScope s__law_mark_right, [], []⟩
def q__law_wheels_right : He.DefD := ⟨("_law_wheels_right", none), "_law_wheels_right", "_law_wheels_right", defArgs s__law_wheels_right, defBody s__law_wheels_right, defScope s__law_wheels_right, [], []⟩
def q_law : He.DefD := ⟨("law", none), "law", "law", defArgs s_law, defBody s_law, defScope s_law, [], []⟩
def fn : List He.DefD := [q_ratio, q_plus, q_times, q_compare, q_lesser, q_greater, q_total, q_dot, q_floor_of, q_ceiling_of, q_part_of, q_common_bottom, q_lifted, q_mark_of, q_order_of, q__law_is, q__law_whole, q__law_cell, q__law_digits, q__law_gcd, q__law_ratio, q__law_is_ratio, q__law_joined, q__law_fraction, q__law_equals, q__law_as_passed, q__law_bottom, q__law_parts_right, q__law_order_right, q__law_sums_right, q__law_bottoms_right, q__law_marks, q__law_fraction_of, q__law_value, q__law_step, q__law_first_return, q__law_mark_right, q__law_wheels_right, q_law]
def fa : List He.Fa := [.glo "ratio", .glo "plus", .glo "times", .glo "compare", .glo "lesser", .glo "greater", .glo "total", .glo "dot", .glo "floor_of", .glo "ceiling_of", .glo "part_of", .glo "common_bottom", .glo "lifted", .glo "mark_of", .glo "order_of", .glo "_law_is", .glo "_law_whole", .glo "_law_cell", .glo "_law_digits", .glo "_law_gcd", .glo "_law_ratio", .glo "_law_is_ratio", .glo "_law_joined", .glo "_law_fraction", .glo "_law_equals", .glo "_law_as_passed", .glo "_law_bottom", .glo "_law_parts_right", .glo "_law_order_right", .glo "_law_sums_right", .glo "_law_bottoms_right", .glo "_law_marks", .glo "_law_fraction_of", .glo "_law_value", .glo "_law_step", .glo "_law_first_return", .glo "_law_mark_right", .glo "_law_wheels_right", .glo "law", .free "abs", .free "bool", .free "int", .free "isinstance", .free "len", .free "list", .free "max", .free "range", .free "repr", .free "tuple", .free "zip"]
def bs : List (Str × String) := [("gcd", "math.gcd")]
end K01

set_option Elab.async false
set_option linter.all false
set_option maxRecDepth 100000
set_option maxHeartbeats 4000000
namespace K01
open PySem L2 Dat
local macro_rules | `(tactic| walk_at "v") => `(tactic| first | exact Or.inl rfl | exact Or.inr rfl | exact Or.inr (Or.inl rfl) | exact Or.inr (Or.inr rfl))
local macro_rules | `(tactic| walk_at "c") => `(tactic| first | exact trivial | (show _ ≤ 16777216; simp; done))
variable {P : Program} {w : World} {K : PySem.W.Frag} {mg : Str → Option Value} {base : Heap} {f : Addr} {cdv : Value} {A : Around} {outer : List PySem.Env} {s : Shared} {H : Hp} {E : XK}

/-! sizes -/
def B (n : Nat) (i : Int) : Prop := i.natAbs < 2 ^ n
instance {n : Nat} {i : Int} : Decidable (B n i) := by unfold B; infer_instance
instance {i j : Int} : Decidable (CPow i j) := by unfold CPow; infer_instance
theorem B.mono {n m : Nat} {i : Int} (h : B n i) (e : n ≤ m) : B m i := Nat.lt_of_lt_of_le h (Nat.pow_le_pow_right (by decide) e)
theorem B.neg {n : Nat} {i : Int} (h : B n i) : B n (-i) := by unfold B at *; rwa [Int.natAbs_neg]
theorem B.mul {n m : Nat} {i j : Int} (h : B n i) (g : B m j) : B (n + m) (i * j) := L2.wide_lt h g
theorem B.add {n : Nat} {i j : Int} (h : B n i) (g : B n j) : B (n + 1) (i + j) := by
  unfold B at *
  have := Int.natAbs_add_le i j
  rw [Nat.pow_succ]; omega
theorem B.sub {n : Nat} {i j : Int} (h : B n i) (g : B n j) : B (n + 1) (i - j) := by
  have := h.add g.neg
  rwa [← Int.sub_eq_add_neg] at this
theorem B.le {n : Nat} {i j : Int} (h : B n j) (e : i.natAbs ≤ j.natAbs) : B n i := Nat.lt_of_le_of_lt e h
theorem B.mulW {n m : Nat} {i j : Int} (h : B n i) (g : B m j) (e : n + m ≤ 999990) : CMulW i j := by
  refine wide_mul (a := n + 1) (b := m + 1) ?_ ?_ (by omega) (by omega) (by omega)
  · exact (h.mono (by omega) : B (n + 1) i)
  · exact (g.mono (by omega) : B (m + 1) j)
theorem B.log {n : Nat} {i : Int} (h : B n i) (e : n < 9000) : i.natAbs.log2 < 9000 := by
  have := PySem.Flt.log2_lt_of (n := i.natAbs) (k := n + 1) (by omega) (h.mono (by omega) : B (n + 1) i)
  omega

/-! fractions -/
def rat (t b : Int) : Int × Int :=
  let g : Int := (Nat.gcd t.natAbs b.natAbs : Nat)
  let g' := if b < 0 then -g else g
  (t.fdiv g', b.fdiv g')
def frK (k : Bool) (p : Int × Int) : Dt := .sq k [.int p.1, .int p.2]
abbrev fr (p : Int × Int) : Dt := frK true p

def R_ratio (ds : List Dt) (r : Ret) : Prop := ∃ t b : Int, b ≠ 0 ∧ B 8990 b ∧ ds = [.int t, .int b] ∧ r = .sh (fr (rat t b))
theorem gcd_div {t b : Int} (hb : b ≠ 0) (h : B 8990 b) : CDivG 0 (Nat.gcd t.natAbs b.natAbs : Nat) ∧ CDivG 0 (-(Nat.gcd t.natAbs b.natAbs : Nat) : Int) := by
  have h0 : 0 < Nat.gcd t.natAbs b.natAbs := Nat.gcd_pos_of_pos_right _ (by omega)
  have h1 : Nat.gcd t.natAbs b.natAbs ≤ b.natAbs := Nat.gcd_le_right _ (by omega)
  have h2 : B 8990 ((Nat.gcd t.natAbs b.natAbs : Nat) : Int) := h.le (by simpa using h1)
  exact ⟨⟨by omega, h2.log (by decide)⟩, ⟨by omega, h2.neg.log (by decide)⟩⟩
theorem b_ratio (T : Top K mg) (dg : base.NoDigits) (pl : Plc (BX P w K mg base N_ratio "ratio" s_ratio f cdv A outer s H E) 0) : ∀ ds r, R_ratio ds r → DSs (BX P w K mg base N_ratio "ratio" s_ratio f cdv A outer s H E) (startD N_ratio ds) (defBody s_ratio) (fin r) := by
  rintro _ _ ⟨t, b, hb, hB, rfl, rfl⟩
  obtain ⟨g1, g2⟩ := gcd_div (t := t) hb hB
  refine' dss_if (dt_eqI (dv 1 rfl rfl) de_int) (fun h => ?_) (fun h => ?_)
  · exact absurd (of_decide_eq_true h) hb
  refine dss_nil ?_
  refine' dss_set 2 pl rfl (de_gcd T.m_gcd (dv 0 rfl rfl) (dv 1 rfl rfl)) ?_
  refine' dss_if (dt_lt (dv 1 rfl rfl) de_int) (fun h => ?_) (fun h => ?_)
  · refine' dss_set 2 pl rfl (de_neg (dv 2 rfl rfl)) ?_
    refine dss_nil ?_
    refine' dss_ret (de_tup (da_cons (de_divG (dv 0 rfl rfl) (dv 2 rfl rfl) g2) (da_cons (de_divG (dv 1 rfl rfl) (dv 2 rfl rfl) g2) da_nil))) (.inl ?_)
    simp only [fr, frK, rat, if_pos (of_decide_eq_true h)]
  refine dss_nil ?_
  refine' dss_ret (de_tup (da_cons (de_divG (dv 0 rfl rfl) (dv 2 rfl rfl) g1) (da_cons (de_divG (dv 1 rfl rfl) (dv 2 rfl rfl) g1) da_nil))) (.inl ?_)
  simp only [fr, frK, rat, if_neg (of_decide_eq_false h)]
theorem f_ratio (T : Top K mg) (dg : base.NoDigits) : ∃ f fd, mg "ratio" = some (.ref f) ∧ FunD K "ratio" "ratio" (defArgs s_ratio) (defBody s_ratio) (defScope s_ratio) [.int 1] [] f fd ∧ FnG P w K mg base CX0 1 f fd ["top", "bottom"] (spD K R_ratio) := by
  obtain ⟨f, fd, hm, F⟩ := T.F_ratio
  exact ⟨f, fd, hm, F, fng_data F sc_ratio (by rintro _ _ ⟨_, _, _, _, rfl, _⟩; rfl) dg (fun cdv A outer s H E pl => b_ratio T dg pl)⟩
theorem d_ratio (T : Top K mg) (dg : base.NoDigits) : Def P w K mg base "ratio" 1 ["top", "bottom"] [] R_ratio := by
  obtain ⟨f, fd, hm, F, G⟩ := f_ratio (P := P) (w := w) T dg
  obtain ⟨ds, hv, hb⟩ := F.binds1 (ps := ["top", "bottom"]) 2 1 (by simp) rfl (fun T kV doc pm an cdv ct us its hl hl2 => match us, its, hl, hl2 with | [_, _], [_], _, _ => ⟨_, rfl, rfl⟩)
  exact ⟨f, fd, _, ds, G, hm, F.kp, hb, hv, fun _ => by simp [IsAll]⟩
theorem d1_ratio (T : Top K mg) (dg : base.NoDigits) : Def P w K mg base "ratio" 1 ["top", "bottom"] [.int 1] R_ratio := by
  obtain ⟨f, fd, hm, F, G⟩ := f_ratio (P := P) (w := w) T dg
  obtain ⟨ds, hv, hb⟩ := F.binds1 (ps := ["top", "bottom"]) 1 0 (by simp) rfl (fun T kV doc pm an cdv ct us its hl hl2 => match us, its, hl, hl2 with | [_], [_], _, _ => ⟨_, rfl, rfl⟩)
  exact ⟨f, fd, _, ds, G, hm, F.kp, hb, hv, fun _ => .one is_int⟩

/-- two fractions as arguments: their numbers within n bits -/
structure Two (ds : List Dt) (p q : Int × Int) (n : Nat) : Prop where
  ds : ∃ k l, ds = [frK k p, frK l q]
  p1 : B n p.1
  p2 : B n p.2
  q1 : B n q.1
  q2 : B n q.2
  pp : 0 < p.2
  qp : 0 < q.2
def R_plus (ds : List Dt) (r : Ret) : Prop := ∃ p q : Int × Int, Two ds p q 100000 ∧ B 8990 (p.2 * q.2) ∧ r = .sh (fr (rat (p.1 * q.2 + q.1 * p.2) (p.2 * q.2)))
theorem b_plus (T : Top K mg) (dg : base.NoDigits) (pl : Plc (BX P w K mg base N_plus "plus" s_plus f cdv A outer s H E) 1) : ∀ ds r, R_plus ds r → DSs (BX P w K mg base N_plus "plus" s_plus f cdv A outer s H E) (startD N_plus ds) (defBody s_plus) (fin r) := by
  rintro _ _ ⟨p, q, ⟨⟨k, l, rfl⟩, p1, p2, q1, q2, pp, qp⟩, hB, rfl⟩
  refine' dss_ret (de_callS pl (d_ratio T dg) (by decide) rfl (da_cons (de_add (de_mul (de_ix (dv 0 rfl rfl) de_int rfl) (de_ix (dv 1 rfl rfl) de_int rfl) rfl (p1.mulW q2 (by decide))) (de_mul (de_ix (dv 1 rfl rfl) de_int rfl) (de_ix (dv 0 rfl rfl) de_int rfl) rfl (q1.mulW p2 (by decide))) rfl (by walk_at "c")) (da_cons (de_mul (de_ix (dv 0 rfl rfl) de_int rfl) (de_ix (dv 1 rfl rfl) de_int rfl) rfl (p2.mulW q2 (by decide))) da_nil)) ?r4) (.inl rfl)
  exact ⟨_, _, Int.ne_of_gt (Int.mul_pos pp qp), hB, rfl, rfl⟩
theorem d_plus (T : Top K mg) (dg : base.NoDigits) : Def P w K mg base "plus" 2 ["one", "two"] [] R_plus := by
  obtain ⟨f, fd, hm, F⟩ := T.F_plus
  exact ⟨f, fd, [], [], fng_data F sc_plus (by rintro _ _ ⟨_, _, ⟨⟨_, _, rfl⟩, _⟩, _⟩; rfl) dg (fun cdv A outer s H E pl => b_plus T dg pl), hm, F.kp, F.bindsN fun _ _ _ _ _ _ us hl => match us, hl with | [_, _], _ => rfl, .nil, fun _ => by simp [IsAll]⟩

/-! the law's look at equal values -/
def R__law_is (ds : List Dt) (r : Ret) : Prop := ∃ d e : Dt, shC d ∧ shC e ∧ ds = [d, e] ∧ r = .sh (.bl (decide (shown d = shown e)))
theorem b__law_is (T : Top K mg) (dg : base.NoDigits) (pl : Plc (BX P w K mg base N__law_is "_law_is" s__law_is f cdv A outer s H E) 0) : ∀ ds r, R__law_is ds r → DSs (BX P w K mg base N__law_is "_law_is" s__law_is f cdv A outer s H E) (startD N__law_is ds) (defBody s__law_is) (fin r) := by
  rintro _ _ ⟨d, e, hd, he, rfl, rfl⟩
  refine' dss_ret (de_eqS (de_repr pl T.m_repr (dv 0 rfl rfl) hd) (de_repr pl T.m_repr (dv 1 rfl rfl) he)) (.inl rfl)
theorem d__law_is (T : Top K mg) (dg : base.NoDigits) : Def P w K mg base "_law_is" 1 ["told", "due"] [] R__law_is := by
  obtain ⟨f, fd, hm, F⟩ := T.F__law_is
  exact ⟨f, fd, [], [], fng_data F sc__law_is (by rintro _ _ ⟨_, _, _, _, rfl, _⟩; rfl) dg (fun cdv A outer s H E pl => b__law_is T dg pl), hm, F.kp, F.bindsN fun _ _ _ _ _ _ us hl => match us, hl with | [_, _], _ => rfl, .nil, fun _ => by simp [IsAll]⟩
def isWhole : Dt → Bool
  | .int _ => true
  | _ => false
def R__law_whole (ds : List Dt) (r : Ret) : Prop := ∃ d : Dt, flatK d = true ∧ ds = [d] ∧ r = .sh (.bl (isWhole d))
theorem b__law_whole (T : Top K mg) (dg : base.NoDigits) (pl : Plc (BX P w K mg base N__law_whole "_law_whole" s__law_whole f cdv A outer s H E) 0) : ∀ ds r, R__law_whole ds r → DSs (BX P w K mg base N__law_whole "_law_whole" s__law_whole f cdv A outer s H E) (startD N__law_whole ds) (defBody s__law_whole) (fin r) := by
  rintro _ _ ⟨d, hf, rfl, rfl⟩
  refine' dss_ret (de_andB (de_isInt T.m_isinstance T.m_int (dv 0 rfl rfl) hf) fun h => (de_one (de_not (de_isBl T.m_isinstance T.m_bool (dv 0 rfl rfl) hf)))) (.inl ?_)
  cases d <;> rfl
theorem d__law_whole (T : Top K mg) (dg : base.NoDigits) : Def P w K mg base "_law_whole" 1 ["value"] [] R__law_whole := by
  obtain ⟨f, fd, hm, F⟩ := T.F__law_whole
  exact ⟨f, fd, [], [], fng_data F sc__law_whole (by rintro _ _ ⟨_, _, rfl, _⟩; rfl) dg (fun cdv A outer s H E pl => b__law_whole T dg pl), hm, F.kp, F.bindsN fun _ _ _ _ _ _ us hl => match us, hl with | [_], _ => rfl, .nil, fun _ => by simp [IsAll]⟩
end K01

set_option Elab.async false
set_option linter.all false
set_option maxRecDepth 100000
set_option maxHeartbeats 4000000
namespace K01
open PySem L2 Dat
local macro_rules | `(tactic| walk_at "v") => `(tactic| first | exact Or.inl rfl | exact Or.inr rfl | exact Or.inr (Or.inl rfl) | exact Or.inr (Or.inr rfl))
local macro_rules | `(tactic| walk_at "c") => `(tactic| first | exact trivial | (show _ ≤ 16777216; simp; done))
variable {P : Program} {w : World} {K : PySem.W.Frag} {mg : Str → Option Value} {base : Heap} {f : Addr} {cdv : Value} {A : Around} {outer : List PySem.Env} {s : Shared} {H : Hp} {E : XK}

/-! Euclid's walk, a bounded number of turns -/
/-- after n turns, from l0, r0 -/
structure Eu (l0 r0 n l r : Nat) : Prop where
  g : Nat.gcd l r = Nat.gcd l0 r0
  far : r = 0 ∨ n = 0 ∧ l = l0 ∧ r = r0 ∨ 0 < n ∧ r < l ∧ l * r * 2 ^ (n - 1) ≤ l0 * r0
theorem Eu.start (l r : Nat) : Eu l r 0 l r := ⟨rfl, .inr (.inl ⟨rfl, rfl, rfl⟩)⟩
theorem Eu.turn {l0 r0 n l r : Nat} (h : Eu l0 r0 n l r) (hr : 0 < r) : Eu l0 r0 (n + 1) r (l % r) := by
  refine ⟨?_, ?_⟩
  · rw [← h.g, Nat.gcd_comm l r, Nat.gcd_rec r l, Nat.gcd_comm]
  · have hm := Nat.mod_lt l hr
    have hd : l % r + r * (l / r) = l := Nat.mod_add_div l r
    rcases h.far with h0 | ⟨rfl, rfl, rfl⟩ | ⟨hn, hlt, hb⟩
    · omega
    · refine .inr (.inr ⟨Nat.succ_pos _, hm, ?_⟩)
      simp
      have : l % r ≤ l := Nat.mod_le _ _
      calc r * (l % r) ≤ r * l := Nat.mul_le_mul_left _ this
        _ = l * r := Nat.mul_comm _ _
    · refine .inr (.inr ⟨Nat.succ_pos _, hm, ?_⟩)
      have h1 : 1 ≤ l / r := Nat.div_pos (Nat.le_of_lt hlt) hr
      have h2 : 2 * (l % r) ≤ l := by
        have : r * 1 ≤ r * (l / r) := Nat.mul_le_mul_left _ h1
        omega
      have e : 2 ^ (n + 1 - 1) = 2 * 2 ^ (n - 1) := by
        have : n + 1 - 1 = (n - 1) + 1 := by omega
        rw [this, Nat.pow_succ, Nat.mul_comm]
      rw [e]
      calc r * (l % r) * (2 * 2 ^ (n - 1)) = (r * (2 * (l % r))) * 2 ^ (n - 1) := by
            simp only [Nat.mul_assoc, Nat.mul_left_comm, Nat.mul_comm]
        _ ≤ (r * l) * 2 ^ (n - 1) := Nat.mul_le_mul_right _ (Nat.mul_le_mul_left _ h2)
        _ = l * r * 2 ^ (n - 1) := by rw [Nat.mul_comm r l]
        _ ≤ l0 * r0 := hb
theorem Eu.last {l0 r0 l r m : Nat} (h : Eu l0 r0 20000 l r) (hl : l0 < 2 ^ m) (hr : r0 < 2 ^ m) (hm : m ≤ 9990) : r = 0 := by
  rcases h.far with h0 | ⟨h0, _⟩ | ⟨_, hlt, hb⟩
  · exact h0
  · exact absurd h0 (by decide)
  · refine Nat.eq_zero_of_not_pos fun hp => ?_
    have h1 : l0 * r0 < 2 ^ m * 2 ^ m := Nat.mul_lt_mul'' hl hr
    have h2 : 2 ^ m * 2 ^ m ≤ 2 ^ 19999 := by
      rw [← Nat.pow_add]; exact Nat.pow_le_pow_right (by decide) (by omega)
    have h3 : 1 * 2 ^ 19999 ≤ l * r * 2 ^ (20000 - 1) := Nat.mul_le_mul (Nat.mul_pos (by omega) hp) (Nat.le_refl _)
    omega
def R__law_gcd (ds : List Dt) (r : Ret) : Prop := ∃ a b : Int, B 9990 a ∧ B 9990 b ∧ ds = [.int a, .int b] ∧ r = .sh (.int (Nat.gcd a.natAbs b.natAbs : Nat))
theorem b__law_gcd (T : Top K mg) (dg : base.NoDigits) (pl : Plc (BX P w K mg base N__law_gcd "_law_gcd" s__law_gcd f cdv A outer s H E) 0) : ∀ ds r, R__law_gcd ds r → DSs (BX P w K mg base N__law_gcd "_law_gcd" s__law_gcd f cdv A outer s H E) (startD N__law_gcd ds) (defBody s__law_gcd) (fin r) := by
  rintro _ _ ⟨a, b, ha, hb, rfl, rfl⟩
  refine' dss_set 2 pl rfl (de_abs T.m_abs (dv 0 rfl rfl)) ?_
  refine' dss_set 3 pl rfl (de_abs T.m_abs (dv 1 rfl rfl)) ?_
  refine' dss_rng 4 pl rfl T.m_range de_int (by decide) (by decide) (fun n δ => ∃ (l r : Nat) (t u : Slot), Eu a.natAbs b.natAbs n l r ∧ δ = [.sh (.int a), .sh (.int b), .sh (.int l), .sh (.int r), t, u]) ⟨_, _, .no, .no, Eu.start _ _, rfl⟩ (fun n δ' hn hi => ?hs) (fun δ' hi => ?hd)
  case hs =>
    obtain ⟨l, r, t, u, eu, rfl⟩ := hi
    refine' dss_ifG (dt_eqI (dv 3 rfl rfl) de_int) (fun h => ?_) (fun h => ?_)
    · refine dss_break ?_
      have h0 : r = 0 := by have := of_decide_eq_true h; omega
      subst h0
      refine' dss_ret (dv 2 rfl rfl) (.inl ?_)
      have := eu.g
      rw [Nat.gcd_zero_right] at this
      rw [this]
    have h0 : 0 < r := by have := of_decide_eq_false h; omega
    refine' dss_set 5 pl rfl (de_mod (de_intc T.m_int (dv 2 rfl rfl) rfl) (dv 3 rfl rfl) (by omega)) ?_
    refine' dss_set 2 pl rfl (dv 3 rfl rfl) ?_
    refine' dss_set 3 pl rfl (dv 5 rfl rfl) ?_
    exact dss_nil ⟨r, l % r, _, _, eu.turn h0, rfl⟩
  case hd =>
    obtain ⟨l, r, t, u, eu, rfl⟩ := hi
    have h0 := eu.last ha hb (Nat.le_refl _)
    subst h0
    refine' dss_ret (dv 2 rfl rfl) (.inl ?_)
    have := eu.g
    rw [Nat.gcd_zero_right] at this
    rw [this]
theorem d__law_gcd (T : Top K mg) (dg : base.NoDigits) : Def P w K mg base "_law_gcd" 1 ["one", "two"] [] R__law_gcd := by
  obtain ⟨f, fd, hm, F⟩ := T.F__law_gcd
  exact ⟨f, fd, [], [], fng_data F sc__law_gcd (by rintro _ _ ⟨_, _, _, _, rfl, _⟩; rfl) dg (fun cdv A outer s H E pl => b__law_gcd T dg pl), hm, F.kp, F.bindsN fun _ _ _ _ _ _ us hl => match us, hl with | [_, _], _ => rfl, .nil, fun _ => by simp [IsAll]⟩

def R__law_ratio (ds : List Dt) (r : Ret) : Prop := ∃ t b : Int, b ≠ 0 ∧ B 9990 t ∧ B 8990 b ∧ ds = [.int t, .int b] ∧ r = .sh (fr (rat t b))
theorem b__law_ratio (T : Top K mg) (dg : base.NoDigits) (pl : Plc (BX P w K mg base N__law_ratio "_law_ratio" s__law_ratio f cdv A outer s H E) 1) : ∀ ds r, R__law_ratio ds r → DSs (BX P w K mg base N__law_ratio "_law_ratio" s__law_ratio f cdv A outer s H E) (startD N__law_ratio ds) (defBody s__law_ratio) (fin r) := by
  rintro _ _ ⟨t, b, hb, ht, hB, rfl, rfl⟩
  obtain ⟨g1, g2⟩ := gcd_div (t := t) hb hB
  refine' dss_set 2 pl rfl (de_callS pl (d__law_gcd T dg) (by decide) rfl (da_cons (dv 0 rfl rfl) (da_cons (dv 1 rfl rfl) da_nil)) ⟨_, _, ht, hB.mono (by decide), rfl, rfl⟩) ?_
  refine' dss_if (dt_lt (dv 1 rfl rfl) de_int) (fun h => ?_) (fun h => ?_)
  · refine' dss_set 2 pl rfl (de_neg (dv 2 rfl rfl)) ?_
    refine dss_nil ?_
    refine' dss_ret (de_tup (da_cons (de_divG (dv 0 rfl rfl) (dv 2 rfl rfl) g2) (da_cons (de_divG (dv 1 rfl rfl) (dv 2 rfl rfl) g2) da_nil))) (.inl ?_)
    simp only [fr, frK, rat, if_pos (of_decide_eq_true h)]
  refine dss_nil ?_
  refine' dss_ret (de_tup (da_cons (de_divG (dv 0 rfl rfl) (dv 2 rfl rfl) g1) (da_cons (de_divG (dv 1 rfl rfl) (dv 2 rfl rfl) g1) da_nil))) (.inl ?_)
  simp only [fr, frK, rat, if_neg (of_decide_eq_false h)]
theorem d__law_ratio (T : Top K mg) (dg : base.NoDigits) : Def P w K mg base "_law_ratio" 2 ["top", "bottom"] [] R__law_ratio := by
  obtain ⟨f, fd, hm, F⟩ := T.F__law_ratio
  exact ⟨f, fd, [], [], fng_data F sc__law_ratio (by rintro _ _ ⟨_, _, _, _, _, rfl, _⟩; rfl) dg (fun cdv A outer s H E pl => b__law_ratio T dg pl), hm, F.kp, F.bindsN fun _ _ _ _ _ _ us hl => match us, hl with | [_, _], _ => rfl, .nil, fun _ => by simp [IsAll]⟩
def isRat (a b : Int) : Bool := decide (1 ≤ b ∧ Nat.gcd a.natAbs b.natAbs = 1)
def R__law_is_ratio (ds : List Dt) (r : Ret) : Prop := ∃ a b : Int, B 9990 a ∧ B 9990 b ∧ ds = [fr (a, b)] ∧ r = .sh (.bl (isRat a b))
theorem b__law_is_ratio (T : Top K mg) (dg : base.NoDigits) (pl : Plc (BX P w K mg base N__law_is_ratio "_law_is_ratio" s__law_is_ratio f cdv A outer s H E) 1) : ∀ ds r, R__law_is_ratio ds r → DSs (BX P w K mg base N__law_is_ratio "_law_is_ratio" s__law_is_ratio f cdv A outer s H E) (startD N__law_is_ratio ds) (defBody s__law_is_ratio) (fin r) := by
  rintro _ _ ⟨a, b, ha, hb, rfl, rfl⟩
  refine' dss_ifF (dt_eq (dt_w (dw_or (dt_not (dt_val (de_isTup T.m_isinstance T.m_tuple (dv 0 rfl rfl) rfl))) fun h => (dw_or1 (dt_neI (de_len T.m_len (dv 0 rfl rfl) rfl) de_int)))) rfl) (dss_nil ?_)
  refine' dss_ifG (dt_w (dw_or (dt_not (dt_val (de_callS pl (d__law_whole T dg) (by decide) rfl (da_cons (de_ix (dv 0 rfl rfl) de_int rfl) da_nil) ⟨_, rfl, rfl, rfl⟩))) fun h => (dw_or (dt_not (dt_val (de_callS pl (d__law_whole T dg) (by decide) rfl (da_cons (de_ix (dv 0 rfl rfl) de_int rfl) da_nil) ⟨_, rfl, rfl, rfl⟩))) fun h => (dw_or1 (dt_lt (de_ix (dv 0 rfl rfl) de_int rfl) de_int))))) (fun h => ?_) (fun h => ?_)
  · refine' dss_ret de_bl (.inl ?_)
    have : b < 1 := by simpa [isWhole] using h
    have e : isRat a b = false := decide_eq_false (by omega)
    rw [e]
  have hb1 : 1 ≤ b := by
    have : ¬ b < 1 := by simpa [isWhole] using h
    omega
  refine' dss_ret (de_eqI (de_callS pl (d__law_gcd T dg) (by decide) rfl (da_cons (de_ix (dv 0 rfl rfl) de_int rfl) (da_cons (de_ix (dv 0 rfl rfl) de_int rfl) da_nil)) ⟨_, _, ha, hb, rfl, rfl⟩) de_int) (.inl ?_)
  have e : isRat a b = decide ((Nat.gcd a.natAbs b.natAbs : Int) = 1) := by
    unfold isRat
    rw [decide_eq_decide]
    omega
  rw [e]
theorem d__law_is_ratio (T : Top K mg) (dg : base.NoDigits) : Def P w K mg base "_law_is_ratio" 2 ["value"] [] R__law_is_ratio := by
  obtain ⟨f, fd, hm, F⟩ := T.F__law_is_ratio
  exact ⟨f, fd, [], [], fng_data F sc__law_is_ratio (by rintro _ _ ⟨_, _, _, _, rfl, _⟩; rfl) dg (fun cdv A outer s H E pl => b__law_is_ratio T dg pl), hm, F.kp, F.bindsN fun _ _ _ _ _ _ us hl => match us, hl with | [_], _ => rfl, .nil, fun _ => by simp [IsAll]⟩
end K01

set_option Elab.async false
set_option linter.all false
set_option maxRecDepth 100000
set_option maxHeartbeats 4000000
namespace K01
open PySem L2 Dat
local macro_rules | `(tactic| walk_at "v") => `(tactic| first | exact Or.inl rfl | exact Or.inr rfl | exact Or.inr (Or.inl rfl) | exact Or.inr (Or.inr rfl))
local macro_rules | `(tactic| walk_at "c") => `(tactic| first | exact trivial | (show _ ≤ 16777216; simp; done))
variable {P : Program} {w : World} {K : PySem.W.Frag} {mg : Str → Option Value} {base : Heap} {f : Addr} {cdv : Value} {A : Around} {outer : List PySem.Env} {s : Shared} {H : Hp} {E : XK}

theorem atI_get {α : Type} {l : List α} {i : Int} {v : α} (h0 : 0 ≤ i) (h : l[i.toNat]? = some v) : atI l i = some v := by
  have hl : i.toNat < l.length := lt_of_get h
  unfold atI ixN
  rw [if_pos h0, if_pos (by omega)]
  exact h
theorem B.of_lt {n : Nat} {i : Int} (h : i.natAbs < 2 ^ n) : B n i := h
theorem B.bd {n : Nat} {i : Int} (h0 : 0 ≤ i) {m : Int} (h1 : i ≤ m) (hm : B n m) : B n i := hm.le (by omega)
theorem map_int_get {ns : List Int} {n : Nat} {d : Dt} (h : (ns.map Dt.int)[n]? = some d) : ∃ v, ns[n]? = some v ∧ d = .int v := by
  rw [List.getElem?_map] at h
  cases e : ns[n]? with
  | none => rw [e] at h; cases h
  | some v => rw [e] at h; simp at h; exact ⟨v, rfl, h.symm⟩

/-! the cells of a script -/
def seedF (ns : List Int) : Int := ns.foldl (fun s c => (s * 31 + c % 1000003) % 1000003) 17
def cellZ (ns : List Int) (k : Int) : Int := if k < ns.length then ns.getD k.toNat 0 else (seedF ns + 7) * (k + 3) * 69621 % 2147483647
theorem seed_bd (ns : List Int) : 0 ≤ seedF ns ∧ seedF ns < 1000003 := by
  unfold seedF
  suffices h : ∀ (l : List Int) (s : Int), 0 ≤ s → s < 1000003 → 0 ≤ l.foldl (fun s c => (s * 31 + c % 1000003) % 1000003) s ∧ l.foldl (fun s c => (s * 31 + c % 1000003) % 1000003) s < 1000003 from h ns 17 (by decide) (by decide)
  intro l
  induction l with
  | nil => intro s h1 h2; exact ⟨h1, h2⟩
  | cons c l ih => intro s h1 h2; exact ih _ (Int.emod_nonneg _ (by decide)) (Int.emod_lt_of_pos _ (by decide))
def R__law_cell (ds : List Dt) (r : Ret) : Prop := ∃ (ns : List Int) (k : Int), 0 ≤ k ∧ k ≤ 1000 ∧ ds = [.scr ns, .int k] ∧ r = .sh (.int (cellZ ns k))
theorem b__law_cell (T : Top K mg) (dg : base.NoDigits) (pl : Plc (BX P w K mg base N__law_cell "_law_cell" s__law_cell f cdv A outer s H E) 0) : ∀ ds r, R__law_cell ds r → DSs (BX P w K mg base N__law_cell "_law_cell" s__law_cell f cdv A outer s H E) (startD N__law_cell ds) (defBody s__law_cell) (fin r) := by
  rintro _ _ ⟨ns, k, h0, h1, rfl, rfl⟩
  refine' dss_ifG (dt_lt (dv 1 rfl rfl) (de_len T.m_len (dv 0 rfl rfl) rfl)) (fun h => ?_) (fun h => ?_)
  · have hk : k < ns.length := of_decide_eq_true h
    have hg : ns[k.toNat]? = some (ns.getD k.toNat 0) := by
      rw [List.getD_eq_getElem?_getD, List.getElem?_eq_getElem (by omega)]; rfl
    refine' dss_ret (de_ix (dc := .int (cellZ ns k)) (dv 0 rfl rfl) (dv 1 rfl rfl) ?ix1) (.inl rfl)
    case ix1 =>
      show (atI ns k).map Dt.int = _
      rw [atI_get h0 hg]
      unfold cellZ
      rw [if_pos hk]; rfl
  have hk : ¬ k < ns.length := of_decide_eq_false h
  refine' dss_set 2 pl rfl de_int ?_
  refine' dss_for 3 pl rfl (di_scr (dv 0 rfl rfl)) (fun n δ => ∃ t, δ = [.sh (.scr ns), .sh (.int k), .sh (.int (seedF (ns.take n))), t]) ⟨.no, rfl⟩ (fun n d δ' hd hi => ?hs) (fun δ' hi => ?hd)
  case hs =>
    obtain ⟨t, rfl⟩ := hi
    obtain ⟨v, hv, rfl⟩ := map_int_get hd
    have sb := seed_bd (ns.take n)
    refine' dss_set 2 pl rfl (de_mod (de_intc T.m_int (de_add (de_mul (dv 2 rfl rfl) de_int rfl (B.mulW (n := 40) (m := 40) (.bd sb.1 (Int.le_of_lt sb.2) (by decide)) (by decide) (by decide))) (de_mod (de_intc T.m_int (dv 3 rfl rfl) rfl) de_int (by decide)) rfl (by walk_at "c")) rfl) de_int (by decide)) ?_
    refine dss_nil ⟨.sh (.int v), ?_⟩
    have e : seedF (ns.take (n + 1)) = (seedF (ns.take n) * 31 + v % 1000003) % 1000003 := by
      unfold seedF
      rw [List.take_add_one, hv, List.foldl_append]; rfl
    rw [e]; rfl
  case hd =>
    obtain ⟨t, rfl⟩ := hi
    rw [List.length_map, List.take_length]
    have sb := seed_bd ns
    have b1 : B 40 (seedF ns + 7) := .bd (m := 2000000) (by omega) (by omega) (by decide)
    have b2 : B 40 (k + 3) := .bd (m := 2000000) (by omega) (by omega) (by decide)
    refine' dss_ret (de_mod (de_intc T.m_int (de_mul (de_mul (de_add (dv 2 rfl rfl) de_int rfl (by walk_at "c")) (de_add (dv 1 rfl rfl) de_int rfl (by walk_at "c")) rfl (b1.mulW b2 (by decide))) de_int rfl ((b1.mul b2).mulW (m := 40) (by decide) (by decide))) rfl) de_int (by decide)) (.inl ?_)
    unfold cellZ
    rw [if_neg hk]
theorem d__law_cell (T : Top K mg) (dg : base.NoDigits) : Def P w K mg base "_law_cell" 1 ["script", "k"] [] R__law_cell := by
  obtain ⟨f, fd, hm, F⟩ := T.F__law_cell
  exact ⟨f, fd, [], [], fng_data F sc__law_cell (by rintro _ _ ⟨_, _, _, _, rfl, _⟩; rfl) dg (fun cdv A outer s H E pl => b__law_cell T dg pl), hm, F.kp, F.bindsN fun _ _ _ _ _ _ us hl => match us, hl with | [_, _], _ => rfl, .nil, fun _ => by simp [IsAll]⟩

/-! the digits of a cell -/
def dA : Int → List Int → List Int
  | _, [] => []
  | r, s :: ss => r % s :: dA (r / s) ss
def rA : Int → List Int → Int
  | r, [] => r
  | r, s :: ss => rA (r / s) ss
def sB (seed k : Int) : Int := (seed * 48271 + 974711 * k + 12345) % 2147483647
def tB (seed : Int) : Int := seed * (seed / 65537 + 3) % 2147483629
def dB : Int → Int → List Int → List Int
  | _, _, [] => []
  | seed, k, s :: ss => tB (sB seed k) / 19 % s :: dB (sB seed k) (k + 1) ss
def digZ (c : Int) (sizes : List Int) : List Int := if 1000000000000000000 ≤ c then dA (c - 1000000000000000000) sizes else dB (c % 2147483629) 0 sizes
/-- digits that fit their sizes -/
def Dg : List Int → List Int → Prop
  | [], ds => ds = []
  | s :: ss, ds => ∃ d r, ds = d :: r ∧ 0 ≤ d ∧ d < s ∧ Dg ss r
theorem dg_A : ∀ (ss : List Int) (r : Int), (∀ s, s ∈ ss → 0 < s) → Dg ss (dA r ss)
  | [], _, _ => rfl
  | s :: ss, r, h => ⟨_, _, rfl, Int.emod_nonneg _ (Int.ne_of_gt (h s List.mem_cons_self)), Int.emod_lt_of_pos _ (h s List.mem_cons_self), dg_A ss _ fun x hx => h x (List.mem_cons_of_mem _ hx)⟩
theorem dg_B : ∀ (ss : List Int) (r k : Int), (∀ s, s ∈ ss → 0 < s) → Dg ss (dB r k ss)
  | [], _, _, _ => rfl
  | s :: ss, r, k, h => ⟨_, _, rfl, Int.emod_nonneg _ (Int.ne_of_gt (h s List.mem_cons_self)), Int.emod_lt_of_pos _ (h s List.mem_cons_self), dg_B ss _ _ fun x hx => h x (List.mem_cons_of_mem _ hx)⟩
theorem dg_Z {ss : List Int} {c : Int} (h : ∀ s, s ∈ ss → 0 < s) : Dg ss (digZ c ss) := by
  unfold digZ; split
  · exact dg_A _ _ h
  · exact dg_B _ _ _ h
def R__law_digits (ds : List Dt) (r : Ret) : Prop := ∃ (c : Int) (t : Bool) (ss : List Int), (∀ s, s ∈ ss → 0 < s ∧ B 8990 s) ∧ ss.length ≤ 1000 ∧ ds = [.int c, .sq t (ss.map Dt.int)] ∧ r = .ow ((digZ c ss).map Dt.int)
theorem sB_bd (a k : Int) : 0 ≤ sB a k ∧ sB a k < 2147483647 := ⟨Int.emod_nonneg _ (by decide), Int.emod_lt_of_pos _ (by decide)⟩
theorem b__law_digits (T : Top K mg) (dg : base.NoDigits) (pl : Plc (BX P w K mg base N__law_digits "_law_digits" s__law_digits f cdv A outer s H E) 0) : ∀ ds r, R__law_digits ds r → DSs (BX P w K mg base N__law_digits "_law_digits" s__law_digits f cdv A outer s H E) (startD N__law_digits ds) (defBody s__law_digits) (fin r) := by
  rintro _ _ ⟨c, tt, ss, hss, hlen, rfl, rfl⟩
  refine' dss_setO 2 pl rfl (df_lst da_nil) ?_
  refine' dss_set 3 pl rfl (de_intc T.m_int (dv 0 rfl rfl) rfl) ?_
  refine' dss_ifG (dt_ge (dv 3 rfl rfl) (de_pow de_int de_int (by decide))) (fun h => ?_) (fun h => ?_)
  · have hc : (1000000000000000000 : Int) ≤ c := of_decide_eq_true h
    refine' dss_set 3 pl rfl (de_sub (dv 3 rfl rfl) (de_pow de_int de_int (by decide))) ?_
    refine' dss_for 4 pl rfl (di_seq (dv 1 rfl rfl)) (fun n δ => ∃ (row : List Int) (rs : List Dt) (rest : Int) (t4 t5 t6 t7 : Slot), rs = row.map Dt.int ∧ row.length = n ∧ row ++ dA rest (ss.drop n) = dA (c - 1000000000000000000) ss ∧
      δ = [.sh (.int c), .sh (.sq tt (ss.map Dt.int)), .ow rs, .sh (.int rest), t4, t5, t6, t7]) ⟨[], [], _, .no, .no, .no, .no, rfl, rfl, rfl, rfl⟩ (fun n d δ' hd hi => ?hs) (fun δ' hi => ?hd)
    case hs =>
      obtain ⟨row, rs, rest, t4, t5, t6, t7, rfl, hl, he, rfl⟩ := hi
      obtain ⟨v, hv, rfl⟩ := map_int_get hd
      have hn := lt_of_get hv
      obtain ⟨v0, vB⟩ := hss v (List.mem_of_getElem? hv)
      refine' dss_app 2 rfl rfl (de_mod (de_intc T.m_int (dv 3 rfl rfl) rfl) (dv 4 rfl rfl) v0) ?n ?_
      case n => rw [List.length_map]; show _ < 16777216; omega
      refine' dss_set 3 pl rfl (de_div (de_intc T.m_int (dv 3 rfl rfl) rfl) (dv 4 rfl rfl) ⟨v0, vB.log (by decide)⟩) ?_
      refine dss_nil ⟨row ++ [rest % v], _, rest / v, _, _, _, _, ?_, by simp [hl], ?_, rfl⟩
      · simp
      · rw [← he]
        have e : ss.drop n = v :: ss.drop (n + 1) := by
          rw [List.drop_eq_getElem_cons hn]
          rw [List.getElem?_eq_getElem hn] at hv
          cases hv; rfl
        rw [e]; simp [dA]
    case hd =>
      obtain ⟨row, rs, rest, t4, t5, t6, t7, rfl, hl, he, rfl⟩ := hi
      refine' dss_retO 2 rfl rfl (.inl ?_)
      rw [List.length_map, List.drop_length] at he
      unfold digZ; rw [if_pos hc, ← he]; simp [dA]
  have hc : ¬ (1000000000000000000 : Int) ≤ c := of_decide_eq_false h
  refine' dss_set 5 pl rfl (de_mod (de_intc T.m_int (dv 3 rfl rfl) rfl) de_int (by decide)) ?_
  refine' dss_rng 6 pl rfl T.m_range (de_len T.m_len (dv 1 rfl rfl) rfl) (by omega) (by rw [List.length_map]; omega) (fun n δ => ∃ (row : List Int) (rs : List Dt) (seed : Int) (t3 t4 t6 t7 : Slot), rs = row.map Dt.int ∧ row.length = n ∧ (0 ≤ seed ∧ seed < 2147483647) ∧ row ++ dB seed n (ss.drop n) = dB (c % 2147483629) 0 ss ∧
      δ = [.sh (.int c), .sh (.sq tt (ss.map Dt.int)), .ow rs, t3, t4, .sh (.int seed), t6, t7]) ⟨[], [], _, _, .no, .no, .no, rfl, rfl, ⟨Int.emod_nonneg _ (by decide), Int.lt_trans (Int.emod_lt_of_pos _ (by decide)) (by decide)⟩, rfl, rfl⟩ (fun n δ' hn hi => ?hs) (fun δ' hi => ?hd)
  case hs =>
    obtain ⟨row, rs, seed, t3, t4, t6, t7, rfl, hl, sb, he, rfl⟩ := hi
    rw [List.length_map] at hn
    have hn' : n < ss.length := by simpa using hn
    obtain ⟨v0, vB⟩ := hss ss[n] (List.getElem_mem hn')
    have b1 : B 40 seed := .bd (m := 2147483647) sb.1 (Int.le_of_lt sb.2) (by decide)
    have b2 : B 40 (n : Int) := .bd (m := 2147483647) (by omega) (by omega) (by decide)
    have s2 := sB_bd seed n
    have b3 : B 40 (sB seed n) := .bd (m := 2147483647) s2.1 (Int.le_of_lt s2.2) (by decide)
    have b4 : B 40 (sB seed n / 65537 + 3) := .bd (m := 2147483647) (by omega) (by omega) (by decide)
    refine' dss_set 5 pl rfl (de_mod (de_intc T.m_int (de_add (de_add (de_mul (dv 5 rfl rfl) de_int rfl (b1.mulW (m := 40) (by decide) (by decide))) (de_mul de_int (dv 6 rfl rfl) rfl (B.mulW (n := 40) (by decide) b2 (by decide))) rfl (by walk_at "c")) de_int rfl (by walk_at "c")) rfl) de_int (by decide)) ?_
    refine' dss_set 7 pl rfl (de_mod (de_intc T.m_int (de_mul (dv 5 rfl rfl) (de_add (de_div (dv 5 rfl rfl) de_int ⟨by decide, by decide⟩) de_int rfl (by walk_at "c")) rfl (b3.mulW b4 (by decide))) rfl) de_int (by decide)) ?_
    refine' dss_app 2 rfl rfl (de_mod (de_div (dv 7 rfl rfl) de_int ⟨by decide, by decide⟩) (de_ix (dv 1 rfl rfl) (dv 6 rfl rfl) (dc := .int ss[n]) ?ix8) v0) ?n ?_
    case ix8 => exact atI_get (by omega) (by simp [hn'])
    case n => rw [List.length_map]; show _ < 16777216; omega
    refine dss_nil ⟨row ++ [tB (sB seed n) / 19 % ss[n]], _, sB seed n, _, _, _, _, ?_, by simp [hl], s2, ?_, rfl⟩
    · simp [tB, sB]
    · rw [← he]
      have e : ss.drop n = ss[n] :: ss.drop (n + 1) := List.drop_eq_getElem_cons hn'
      rw [e]; simp [dB]
  case hd =>
    obtain ⟨row, rs, seed, t3, t4, t6, t7, rfl, hl, sb, he, rfl⟩ := hi
    refine' dss_retO 2 rfl rfl (.inl ?_)
    rw [List.length_map] at he
    have e2 : ((ss.length : Int).toNat) = ss.length := by simp
    rw [e2, List.drop_length] at he
    unfold digZ; rw [if_neg hc, ← he]; simp [dB]
theorem d__law_digits (T : Top K mg) (dg : base.NoDigits) : Def P w K mg base "_law_digits" 1 ["cell", "sizes"] [] R__law_digits := by
  obtain ⟨f, fd, hm, F⟩ := T.F__law_digits
  exact ⟨f, fd, [], [], fng_data F sc__law_digits (by rintro _ _ ⟨_, _, _, _, _, rfl, _⟩; rfl) dg (fun cdv A outer s H E pl => b__law_digits T dg pl), hm, F.kp, F.bindsN fun _ _ _ _ _ _ us hl => match us, hl with | [_, _], _ => rfl, .nil, fun _ => by simp [IsAll]⟩
end K01

set_option Elab.async false
set_option linter.all false
set_option maxRecDepth 100000
set_option maxHeartbeats 4000000
namespace K01
open PySem L2 Dat

/-! ### plain facts about fractions -/
structure Fr (p : Int × Int) : Prop where
  pos : 0 < p.2
  cop : Nat.gcd p.1.natAbs p.2.natAbs = 1
theorem rat_parts (t b : Int) (hb : b ≠ 0) : ∃ g : Int, g ≠ 0 ∧ t = g * (rat t b).1 ∧ b = g * (rat t b).2 ∧ 0 < (rat t b).2 ∧ Nat.gcd (rat t b).1.natAbs (rat t b).2.natAbs = 1 := by
  have hg : 0 < Nat.gcd t.natAbs b.natAbs := Nat.gcd_pos_of_pos_right _ (by omega)
  obtain ⟨t1, ht1⟩ : ((Nat.gcd t.natAbs b.natAbs : Nat) : Int) ∣ t := Int.ofNat_dvd_left.mpr (Nat.gcd_dvd_left _ _)
  obtain ⟨b1, hb1⟩ : ((Nat.gcd t.natAbs b.natAbs : Nat) : Int) ∣ b := Int.ofNat_dvd_left.mpr (Nat.gcd_dvd_right _ _)
  have cop : Nat.gcd t1.natAbs b1.natAbs = 1 := by
    have h1 : t.natAbs = Nat.gcd t.natAbs b.natAbs * t1.natAbs := by
      conv => lhs; rw [ht1, Int.natAbs_mul, Int.natAbs_natCast]
    have h2 : b.natAbs = Nat.gcd t.natAbs b.natAbs * b1.natAbs := by
      conv => lhs; rw [hb1, Int.natAbs_mul, Int.natAbs_natCast]
    have h3 : Nat.gcd (Nat.gcd t.natAbs b.natAbs * t1.natAbs) (Nat.gcd t.natAbs b.natAbs * b1.natAbs) = Nat.gcd t.natAbs b.natAbs := by rw [← h1, ← h2]
    rw [Nat.gcd_mul_left] at h3
    exact Nat.eq_of_mul_eq_mul_left hg (by omega)
  by_cases hn : b < 0
  · have e1 : (rat t b).1 = -t1 := by
      simp only [rat, if_pos hn]
      conv => lhs; arg 1; rw [ht1]
      have : ((Nat.gcd t.natAbs b.natAbs : Nat) : Int) * t1 = -((Nat.gcd t.natAbs b.natAbs : Nat) : Int) * (-t1) := by rw [Int.neg_mul_neg]
      rw [this, Int.mul_fdiv_cancel_left _ (by omega)]
    have e2 : (rat t b).2 = -b1 := by
      simp only [rat, if_pos hn]
      conv => lhs; arg 1; rw [hb1]
      have : ((Nat.gcd t.natAbs b.natAbs : Nat) : Int) * b1 = -((Nat.gcd t.natAbs b.natAbs : Nat) : Int) * (-b1) := by rw [Int.neg_mul_neg]
      rw [this, Int.mul_fdiv_cancel_left _ (by omega)]
    refine ⟨-((Nat.gcd t.natAbs b.natAbs : Nat) : Int), by omega, ?_, ?_, ?_, ?_⟩
    · rw [e1, Int.neg_mul_neg]; exact ht1
    · rw [e2, Int.neg_mul_neg]; exact hb1
    · rw [e2]
      have : b1 < 0 := by
        refine Int.not_le.mp fun z => ?_
        have := Int.mul_nonneg (Int.natCast_nonneg (Nat.gcd t.natAbs b.natAbs)) z
        omega
      omega
    · rw [e1, e2, Int.natAbs_neg, Int.natAbs_neg]; exact cop
  · have e1 : (rat t b).1 = t1 := by
      simp only [rat, if_neg hn]
      conv => lhs; arg 1; rw [ht1]
      rw [Int.mul_fdiv_cancel_left _ (by omega)]
    have e2 : (rat t b).2 = b1 := by
      simp only [rat, if_neg hn]
      conv => lhs; arg 1; rw [hb1]
      rw [Int.mul_fdiv_cancel_left _ (by omega)]
    refine ⟨((Nat.gcd t.natAbs b.natAbs : Nat) : Int), by omega, ?_, ?_, ?_, ?_⟩
    · rw [e1]; exact ht1
    · rw [e2]; exact hb1
    · rw [e2]
      refine Int.not_le.mp fun z => ?_
      have := Int.mul_nonpos_of_nonneg_of_nonpos (Int.natCast_nonneg (Nat.gcd t.natAbs b.natAbs)) z
      omega
    · rw [e1, e2]; exact cop
theorem rat_fr {t b : Int} (hb : b ≠ 0) : Fr (rat t b) := by
  obtain ⟨g, _, _, _, h1, h2⟩ := rat_parts t b hb
  exact ⟨h1, h2⟩
theorem rat_eq {t b : Int} (hb : b ≠ 0) : (rat t b).1 * b = t * (rat t b).2 := by
  obtain ⟨g, _, h1, h2, _, _⟩ := rat_parts t b hb
  generalize (rat t b).1 = p at *
  generalize (rat t b).2 = q at *
  subst h1; subst h2
  rw [Int.mul_left_comm, Int.mul_assoc]
theorem natAbs_le_mul {g a : Int} (hg : g ≠ 0) : a.natAbs ≤ (g * a).natAbs := by
  rw [Int.natAbs_mul]
  exact Nat.le_mul_of_pos_left _ (by omega)
theorem rat_B1 {n : Nat} {t b : Int} (hb : b ≠ 0) (h : B n t) : B n (rat t b).1 := by
  obtain ⟨g, h0, h1, _⟩ := rat_parts t b hb
  refine h.le ?_
  conv => rhs; rw [h1]
  exact natAbs_le_mul h0
theorem rat_B2 {n : Nat} {t b : Int} (hb : b ≠ 0) (h : B n b) : B n (rat t b).2 := by
  obtain ⟨g, h0, _, h1, _⟩ := rat_parts t b hb
  refine h.le ?_
  conv => rhs; rw [h1]
  exact natAbs_le_mul h0
theorem Fr.uniq {p q : Int × Int} (hp : Fr p) (hq : Fr q) (h : p.1 * q.2 = q.1 * p.2) : p = q := by
  obtain ⟨a, b⟩ := p
  obtain ⟨c, d⟩ := q
  obtain ⟨b0, ab⟩ := hp
  obtain ⟨d0, cd⟩ := hq
  simp only at *
  have hn : a.natAbs * d.natAbs = c.natAbs * b.natAbs := by rw [← Int.natAbs_mul, ← Int.natAbs_mul, h]
  have h1 : b.natAbs ∣ d.natAbs := by
    have : b.natAbs ∣ a.natAbs * d.natAbs := ⟨c.natAbs, by rw [hn, Nat.mul_comm]⟩
    exact Nat.Coprime.dvd_of_dvd_mul_left (Nat.Coprime.symm ab) this
  have h2 : d.natAbs ∣ b.natAbs := by
    have : d.natAbs ∣ c.natAbs * b.natAbs := ⟨a.natAbs, by rw [← hn, Nat.mul_comm]⟩
    exact Nat.Coprime.dvd_of_dvd_mul_left (Nat.Coprime.symm cd) this
  have h3 := Nat.dvd_antisymm h1 h2
  have h4 : b = d := by omega
  subst h4
  have : a = c := Int.eq_of_mul_eq_mul_right (by omega) h
  rw [this]
theorem rat_uniq {t b : Int} {p : Int × Int} (hb : b ≠ 0) (hp : Fr p) (h : p.1 * b = t * p.2) : p = rat t b := by
  refine hp.uniq (rat_fr hb) ?_
  have e := rat_eq (t := t) hb
  refine Int.eq_of_mul_eq_mul_right hb ?_
  calc p.1 * (rat t b).2 * b = p.1 * b * (rat t b).2 := by rw [Int.mul_right_comm]
    _ = t * p.2 * (rat t b).2 := by rw [h]
    _ = t * (rat t b).2 * p.2 := by rw [Int.mul_right_comm]
    _ = (rat t b).1 * b * p.2 := by rw [e]
    _ = (rat t b).1 * p.2 * b := by rw [Int.mul_right_comm]

/-! ### what can be shown as a text -/
theorem lim10 {i : Int} (h : B 14000 i) : i.natAbs < 10 ^ 4300 := by
  have e : 2 ^ 14000 ≤ 10 ^ 4300 := by decide +kernel
  exact Nat.lt_of_lt_of_le h e
theorem sh_int {i : Int} (h : B 14000 i) : shC (.int i) := .inl ⟨i, rfl, lim10 h⟩
mutual
def wt : Dt → Nat
  | .int _ => 1930
  | .str x => 10 * x.length + 2
  | .sq _ ds => wts ds + 3
  | _ => 10
def wts : List Dt → Nat
  | [] => 0
  | d :: ds => wt d + 2 + wts ds
end
mutual
/-- ints within 1900 bits; texts that can be laid -/
def okD : Dt → Prop
  | .non => True | .bl _ => True
  | .int i => B 1900 i
  | .str x => PyData.canLay0 (.str x) = true ∧ ∀ c ∈ x.cps.toList, c < 16 ^ 8
  | .sq _ ds => okDs ds
  | _ => False
def okDs : List Dt → Prop
  | [] => True
  | d :: ds => okD d ∧ okDs ds
end
mutual
theorem okD.plain : ∀ {d : Dt}, okD d → plain d = true
  | .non, _ => rfl
  | .bl _, _ => rfl
  | .int _, _ => rfl
  | .str _, h => by simp only [okD] at h; simpa [Dat.plain] using h.1
  | .sq _ ds, h => by simp only [okD] at h; simpa [Dat.plain] using okDs.plain h
  | .obj _ _, h => by simp [okD] at h
  | .scr _, h => by simp [okD] at h
  | .ty _, h => by simp [okD] at h
  | .cls _, h => by simp [okD] at h
theorem okDs.plain : ∀ {ds : List Dt}, okDs ds → plains ds = true
  | [], _ => rfl
  | d :: ds, h => by
    simp only [okDs] at h
    simp [Dat.plains, okD.plain h.1, okDs.plain h.2]
end
theorem log1920 {i : Int} (h : B 1900 i) : i.natAbs.log2 < 1920 := by
  have := PySem.Flt.log2_lt_of (n := i.natAbs) (k := 1900) (by omega) h
  omega
mutual
theorem okD.show : ∀ {d : Dt}, okD d → (toP d).showable = true
  | .non, _ => by simp [toP, PyData.showable]
  | .bl _, _ => by simp [toP, PyData.showable]
  | .int _, h => by simp only [okD] at h; simpa [toP, PyData.showable] using log1920 h
  | .str _, h => by simp [toP, PyData.showable]
  | .sq t ds, h => by
    simp only [okD] at h
    have := okDs.show h
    cases t <;> simpa [toP, PyData.showable] using this
  | .obj _ _, h => by simp [okD] at h
  | .scr _, h => by simp [okD] at h
  | .ty _, h => by simp [okD] at h
  | .cls _, h => by simp [okD] at h
theorem okDs.show : ∀ {ds : List Dt}, okDs ds → PyData.showableAll (toPs ds) = true
  | [], _ => by simp [toPs, PyData.showableAll]
  | d :: ds, h => by
    simp only [okDs] at h
    simp [toPs, PyData.showableAll, okD.show h.1, okDs.show h.2]
end
theorem str_of_len (x : String) : (Str.ofString x).length = x.length := ofString_length x
theorem int_len {i : Int} (h : B 1900 i) : (Str.ofString (toString i)).length ≤ 1910 := by
  rw [str_of_len]
  have e : (Nat.repr i.natAbs).length ≤ 1900 := nat_repr_length_le (by decide) h
  cases i with
  | ofNat n => exact Nat.le_trans e (by decide)
  | negSucc n =>
    show ("-" ++ Nat.repr (n + 1)).length ≤ 1910
    rw [String.length_append]
    have e2 : (Nat.repr (n + 1)).length ≤ 1900 := e
    have : ("-" : String).length = 1 := rfl
    omega
mutual
theorem okD.len : ∀ {d : Dt}, okD d → (shown d).length ≤ wt d
  | .non, _ => by simp only [shown, toP, PyData.shown, wt]; decide
  | .bl b, _ => by cases b <;> (simp only [shown, toP, PyData.shown, wt]; decide)
  | .int i, h => by
    simp only [okD] at h
    have := int_len h
    simp only [shown, toP, PyData.shown, wt]; omega
  | .str x, h => by
    simp only [okD] at h
    simp only [shown, toP, PyData.shown, wt]
    exact StrLaws.reprText_len x h.2
  | .sq t ds, h => by
    simp only [okD] at h
    have h2 := okDs.len h
    cases t
    · have := listText_len_le (PyData.shownAll (toPs ds))
      simp only [shown, toP, PyData.shown, wt, if_false, Bool.false_eq_true]; omega
    · have := tupleText_len_le (PyData.shownAll (toPs ds))
      simp only [shown, toP, PyData.shown, wt, if_true]; omega
  | .obj _ _, h => by simp [okD] at h
  | .scr _, h => by simp [okD] at h
  | .ty _, h => by simp [okD] at h
  | .cls _, h => by simp [okD] at h
theorem okDs.len : ∀ {ds : List Dt}, okDs ds → ((PyData.shownAll (toPs ds)).map (·.length)).sum + 2 * (PyData.shownAll (toPs ds)).length ≤ wts ds
  | [], _ => by simp [toPs, PyData.shownAll, wts]
  | d :: ds, h => by
    simp only [okDs] at h
    have h1 := okD.len h.1
    have h2 := okDs.len h.2
    simp only [toPs, PyData.shownAll, wts, List.map_cons, List.sum_cons, List.length_cons, shown] at *
    omega
end
theorem sh_ok {d : Dt} (h : okD d) (hd : deep d ≤ 64) (hw : wt d ≤ 16777216) : shC d :=
  .inr ⟨h.plain, h.show, hd, Nat.le_trans h.len (by rw [sizeLine_eq]; exact hw)⟩
theorem ofString_inj {x y : String} (h : Str.ofString x = Str.ofString y) : x = y := by
  have e := congrArg (fun z : Str => z.cps.toList) h
  simp only [PyProof.Rows.signs_ofString] at e
  refine String.ext ?_
  exact List.map_inj_right (f := Char.toNat) (fun a b q => Char.toNat_inj.mp q) |>.mp e
theorem int_repr (i : Int) : toString i = Int.repr i := by cases i <;> rfl
theorem int_text_inj {i j : Int} (h : Str.ofString (toString i) = Str.ofString (toString j)) : i = j := by
  have := ofString_inj h
  rw [int_repr, int_repr] at this
  exact Int.repr_injective this
/-- the law's look at two equal values -/
theorem is_same {d : Dt} (h : shC d) : R__law_is [d, d] (.sh (.bl true)) := ⟨d, d, h, h, rfl, by simp⟩
theorem is_int_iff {i j : Int} (hi : B 14000 i) (hj : B 14000 j) : R__law_is [.int i, .int j] (.sh (.bl (decide (i = j)))) := by
  refine ⟨_, _, sh_int hi, sh_int hj, rfl, ?_⟩
  have e : (shown (.int i) = shown (.int j)) ↔ i = j := by
    constructor
    · intro h
      simp only [shown, toP, PyData.shown] at h
      exact int_text_inj h
    · intro h; rw [h]
  rw [decide_eq_decide.mpr e]
end K01

set_option Elab.async false
set_option linter.all false
set_option maxRecDepth 100000
set_option maxHeartbeats 4000000
namespace K01
open PySem L2 Dat
local macro_rules | `(tactic| walk_at "c") => `(tactic| first | exact trivial | (show _ ≤ 16777216; simp; done))
local macro_rules | `(tactic| walk_at "len") => `(tactic| (intro ds r h; (repeat obtain ⟨_, h⟩ := h); subst_vars; first | rfl | (simp; done)))
variable {P : Program} {w : World} {K : PySem.W.Frag} {mg : Str → Option Value} {base : Heap} {f : Addr} {cdv : Value} {A : Around} {outer : List PySem.Env} {s : Shared} {H : Hp} {E : XK}
/-! ### the program's defs -/
def okF (n : Nat) (p : Int × Int) : Prop := B n p.1 ∧ B n p.2 ∧ 0 < p.2
theorem okF.mono {n m : Nat} {p : Int × Int} (h : okF n p) (e : n ≤ m) : okF m p := ⟨h.1.mono e, h.2.1.mono e, h.2.2⟩
def R_times (ds : List Dt) (r : Ret) : Prop := ∃ (k l : Bool) (p q : Int × Int), ds = [frK k p, frK l q] ∧ okF 100000 p ∧ okF 100000 q ∧ B 8990 (p.2 * q.2) ∧ r = .sh (fr (rat (p.1 * q.1) (p.2 * q.2)))
theorem b_times (T : Top K mg) (dg : base.NoDigits) (pl : Plc (BX P w K mg base N_times "times" s_times f cdv A outer s H E) 1) : ∀ ds r, R_times ds r → DSs (BX P w K mg base N_times "times" s_times f cdv A outer s H E) (startD N_times ds) (defBody s_times) (fin r) := by
  rintro _ _ ⟨k, l, p, q, rfl, ⟨p1, p2, pp⟩, ⟨q1, q2, qp⟩, hB, rfl⟩
  refine' dss_ret (de_callS pl (d_ratio T dg) (by decide) rfl (da_cons (de_mul (de_ix (dv 0 rfl rfl) de_int rfl) (de_ix (dv 1 rfl rfl) de_int rfl) rfl (p1.mulW q1 (by decide))) (da_cons (de_mul (de_ix (dv 0 rfl rfl) de_int rfl) (de_ix (dv 1 rfl rfl) de_int rfl) rfl (p2.mulW q2 (by decide))) da_nil)) ?r3) (.inl rfl)
  exact ⟨_, _, Int.ne_of_gt (Int.mul_pos pp qp), hB, rfl, rfl⟩
theorem d_times (T : Top K mg) (dg : base.NoDigits) : Def P w K mg base "times" 2 ["one", "two"] [] R_times := by
  obtain ⟨f, fd, hm, F⟩ := T.F_times
  exact ⟨f, fd, [], [], fng_data F sc_times (by walk_at "len") dg (fun cdv A outer s H E pl => b_times T dg pl), hm, F.kp, F.bindsN fun _ _ _ _ _ _ us hl => match us, hl with | [_, _], _ => rfl, .nil, fun _ => by simp [IsAll]⟩
def cmpZ (p q : Int × Int) : Int := if p.1 * q.2 < q.1 * p.2 then -1 else if p.1 * q.2 > q.1 * p.2 then 1 else 0
def R_compare (ds : List Dt) (r : Ret) : Prop := ∃ (k l : Bool) (p q : Int × Int), ds = [frK k p, frK l q] ∧ okF 100000 p ∧ okF 100000 q ∧ r = .sh (.int (cmpZ p q))
theorem b_compare (T : Top K mg) (dg : base.NoDigits) (pl : Plc (BX P w K mg base N_compare "compare" s_compare f cdv A outer s H E) 0) : ∀ ds r, R_compare ds r → DSs (BX P w K mg base N_compare "compare" s_compare f cdv A outer s H E) (startD N_compare ds) (defBody s_compare) (fin r) := by
  rintro _ _ ⟨k, l, p, q, rfl, ⟨p1, p2, pp⟩, ⟨q1, q2, qp⟩, rfl⟩
  refine' dss_set 2 pl rfl (de_mul (de_ix (dv 0 rfl rfl) de_int rfl) (de_ix (dv 1 rfl rfl) de_int rfl) rfl (p1.mulW q2 (by decide))) ?_
  refine' dss_set 3 pl rfl (de_mul (de_ix (dv 1 rfl rfl) de_int rfl) (de_ix (dv 0 rfl rfl) de_int rfl) rfl (q1.mulW p2 (by decide))) ?_
  unfold cmpZ
  refine' dss_ifG (dt_lt (dv 2 rfl rfl) (dv 3 rfl rfl)) (fun h => ?_) (fun h => ?_)
  · rw [if_pos (of_decide_eq_true h)]
    exact dss_ret (de_neg de_int) (.inl rfl)
  rw [if_neg (of_decide_eq_false h)]
  refine' dss_ifG (dt_gt (dv 2 rfl rfl) (dv 3 rfl rfl)) (fun h => ?_) (fun h => ?_)
  · rw [if_pos (of_decide_eq_true h)]
    exact dss_ret de_int (.inl rfl)
  rw [if_neg (of_decide_eq_false h)]
  exact dss_ret de_int (.inl rfl)
theorem d_compare (T : Top K mg) (dg : base.NoDigits) : Def P w K mg base "compare" 1 ["one", "two"] [] R_compare := by
  obtain ⟨f, fd, hm, F⟩ := T.F_compare
  exact ⟨f, fd, [], [], fng_data F sc_compare (by walk_at "len") dg (fun cdv A outer s H E pl => b_compare T dg pl), hm, F.kp, F.bindsN fun _ _ _ _ _ _ us hl => match us, hl with | [_, _], _ => rfl, .nil, fun _ => by simp [IsAll]⟩
def R_lesser (ds : List Dt) (r : Ret) : Prop := ∃ (k l : Bool) (p q : Int × Int), ds = [frK k p, frK l q] ∧ okF 100000 p ∧ okF 100000 q ∧ r = .sh (fr (if cmpZ p q ≤ 0 then p else q))
theorem b_lesser (T : Top K mg) (dg : base.NoDigits) (pl : Plc (BX P w K mg base N_lesser "lesser" s_lesser f cdv A outer s H E) 1) : ∀ ds r, R_lesser ds r → DSs (BX P w K mg base N_lesser "lesser" s_lesser f cdv A outer s H E) (startD N_lesser ds) (defBody s_lesser) (fin r) := by
  rintro _ _ ⟨k, l, p, q, rfl, hp, hq, rfl⟩
  refine' dss_ifG (dt_le (de_callS pl (d_compare T dg) (by decide) rfl (da_cons (dv 0 rfl rfl) (da_cons (dv 1 rfl rfl) da_nil)) ⟨_, _, _, _, rfl, hp, hq, rfl⟩) de_int) (fun h => ?_) (fun h => ?_)
  · rw [if_pos (of_decide_eq_true h)]
    exact dss_ret (de_tup (da_cons (de_ix (dv 0 rfl rfl) de_int rfl) (da_cons (de_ix (dv 0 rfl rfl) de_int rfl) da_nil))) (.inl rfl)
  rw [if_neg (of_decide_eq_false h)]
  exact dss_ret (de_tup (da_cons (de_ix (dv 1 rfl rfl) de_int rfl) (da_cons (de_ix (dv 1 rfl rfl) de_int rfl) da_nil))) (.inl rfl)
theorem d_lesser (T : Top K mg) (dg : base.NoDigits) : Def P w K mg base "lesser" 2 ["one", "two"] [] R_lesser := by
  obtain ⟨f, fd, hm, F⟩ := T.F_lesser
  exact ⟨f, fd, [], [], fng_data F sc_lesser (by walk_at "len") dg (fun cdv A outer s H E pl => b_lesser T dg pl), hm, F.kp, F.bindsN fun _ _ _ _ _ _ us hl => match us, hl with | [_, _], _ => rfl, .nil, fun _ => by simp [IsAll]⟩
def R_greater (ds : List Dt) (r : Ret) : Prop := ∃ (k l : Bool) (p q : Int × Int), ds = [frK k p, frK l q] ∧ okF 100000 p ∧ okF 100000 q ∧ r = .sh (fr (if 0 ≤ cmpZ p q then p else q))
theorem b_greater (T : Top K mg) (dg : base.NoDigits) (pl : Plc (BX P w K mg base N_greater "greater" s_greater f cdv A outer s H E) 1) : ∀ ds r, R_greater ds r → DSs (BX P w K mg base N_greater "greater" s_greater f cdv A outer s H E) (startD N_greater ds) (defBody s_greater) (fin r) := by
  rintro _ _ ⟨k, l, p, q, rfl, hp, hq, rfl⟩
  refine' dss_ifG (dt_ge (de_callS pl (d_compare T dg) (by decide) rfl (da_cons (dv 0 rfl rfl) (da_cons (dv 1 rfl rfl) da_nil)) ⟨_, _, _, _, rfl, hp, hq, rfl⟩) de_int) (fun h => ?_) (fun h => ?_)
  · rw [if_pos (of_decide_eq_true h)]
    exact dss_ret (de_tup (da_cons (de_ix (dv 0 rfl rfl) de_int rfl) (da_cons (de_ix (dv 0 rfl rfl) de_int rfl) da_nil))) (.inl rfl)
  rw [if_neg (of_decide_eq_false h)]
  exact dss_ret (de_tup (da_cons (de_ix (dv 1 rfl rfl) de_int rfl) (da_cons (de_ix (dv 1 rfl rfl) de_int rfl) da_nil))) (.inl rfl)
theorem d_greater (T : Top K mg) (dg : base.NoDigits) : Def P w K mg base "greater" 2 ["one", "two"] [] R_greater := by
  obtain ⟨f, fd, hm, F⟩ := T.F_greater
  exact ⟨f, fd, [], [], fng_data F sc_greater (by walk_at "len") dg (fun cdv A outer s H E pl => b_greater T dg pl), hm, F.kp, F.bindsN fun _ _ _ _ _ _ us hl => match us, hl with | [_, _], _ => rfl, .nil, fun _ => by simp [IsAll]⟩
def R_floor_of (ds : List Dt) (r : Ret) : Prop := ∃ (k : Bool) (p : Int × Int), ds = [frK k p] ∧ okF 8000 p ∧ r = .sh (.int (p.1 / p.2))
theorem b_floor_of (T : Top K mg) (dg : base.NoDigits) (pl : Plc (BX P w K mg base N_floor_of "floor_of" s_floor_of f cdv A outer s H E) 0) : ∀ ds r, R_floor_of ds r → DSs (BX P w K mg base N_floor_of "floor_of" s_floor_of f cdv A outer s H E) (startD N_floor_of ds) (defBody s_floor_of) (fin r) := by
  rintro _ _ ⟨k, p, rfl, ⟨p1, p2, pp⟩, rfl⟩
  exact dss_ret (de_div (de_ix (dv 0 rfl rfl) de_int rfl) (de_ix (dv 0 rfl rfl) de_int rfl) ⟨pp, p2.log (by decide)⟩) (.inl rfl)
theorem d_floor_of (T : Top K mg) (dg : base.NoDigits) : Def P w K mg base "floor_of" 1 ["value"] [] R_floor_of := by
  obtain ⟨f, fd, hm, F⟩ := T.F_floor_of
  exact ⟨f, fd, [], [], fng_data F sc_floor_of (by walk_at "len") dg (fun cdv A outer s H E pl => b_floor_of T dg pl), hm, F.kp, F.bindsN fun _ _ _ _ _ _ us hl => match us, hl with | [_], _ => rfl, .nil, fun _ => by simp [IsAll]⟩
def R_ceiling_of (ds : List Dt) (r : Ret) : Prop := ∃ (k : Bool) (p : Int × Int), ds = [frK k p] ∧ okF 8000 p ∧ r = .sh (.int (-(-p.1 / p.2)))
theorem b_ceiling_of (T : Top K mg) (dg : base.NoDigits) (pl : Plc (BX P w K mg base N_ceiling_of "ceiling_of" s_ceiling_of f cdv A outer s H E) 0) : ∀ ds r, R_ceiling_of ds r → DSs (BX P w K mg base N_ceiling_of "ceiling_of" s_ceiling_of f cdv A outer s H E) (startD N_ceiling_of ds) (defBody s_ceiling_of) (fin r) := by
  rintro _ _ ⟨k, p, rfl, ⟨p1, p2, pp⟩, rfl⟩
  exact dss_ret (de_neg (de_div (de_neg (de_ix (dv 0 rfl rfl) de_int rfl)) (de_ix (dv 0 rfl rfl) de_int rfl) ⟨pp, p2.log (by decide)⟩)) (.inl rfl)
theorem d_ceiling_of (T : Top K mg) (dg : base.NoDigits) : Def P w K mg base "ceiling_of" 1 ["value"] [] R_ceiling_of := by
  obtain ⟨f, fd, hm, F⟩ := T.F_ceiling_of
  exact ⟨f, fd, [], [], fng_data F sc_ceiling_of (by walk_at "len") dg (fun cdv A outer s H E pl => b_ceiling_of T dg pl), hm, F.kp, F.bindsN fun _ _ _ _ _ _ us hl => match us, hl with | [_], _ => rfl, .nil, fun _ => by simp [IsAll]⟩
def R_part_of (ds : List Dt) (r : Ret) : Prop := ∃ (k : Bool) (p : Int × Int), ds = [frK k p] ∧ okF 8000 p ∧ r = .sh (fr (p.1 % p.2, p.2))
theorem b_part_of (T : Top K mg) (dg : base.NoDigits) (pl : Plc (BX P w K mg base N_part_of "part_of" s_part_of f cdv A outer s H E) 0) : ∀ ds r, R_part_of ds r → DSs (BX P w K mg base N_part_of "part_of" s_part_of f cdv A outer s H E) (startD N_part_of ds) (defBody s_part_of) (fin r) := by
  rintro _ _ ⟨k, p, rfl, ⟨p1, p2, pp⟩, rfl⟩
  exact dss_ret (de_tup (da_cons (de_mod (de_ix (dv 0 rfl rfl) de_int rfl) (de_ix (dv 0 rfl rfl) de_int rfl) pp) (da_cons (de_ix (dv 0 rfl rfl) de_int rfl) da_nil))) (.inl rfl)
theorem d_part_of (T : Top K mg) (dg : base.NoDigits) : Def P w K mg base "part_of" 1 ["value"] [] R_part_of := by
  obtain ⟨f, fd, hm, F⟩ := T.F_part_of
  exact ⟨f, fd, [], [], fng_data F sc_part_of (by walk_at "len") dg (fun cdv A outer s H E pl => b_part_of T dg pl), hm, F.kp, F.bindsN fun _ _ _ _ _ _ us hl => match us, hl with | [_], _ => rfl, .nil, fun _ => by simp [IsAll]⟩
/-! mark_of, order_of -/
def markZ (p : Int × Int) (m : Int) : Dt := if p.1 * m % p.2 = 0 then .int (p.1 * m / p.2 % m) else .non
def R_mark_of (ds : List Dt) (r : Ret) : Prop := ∃ (k : Bool) (p : Int × Int) (m : Int), ds = [frK k p, .int m] ∧ okF 8000 p ∧ 0 < m ∧ B 8000 m ∧ r = .sh (markZ p m)
theorem b_mark_of (T : Top K mg) (dg : base.NoDigits) (pl : Plc (BX P w K mg base N_mark_of "mark_of" s_mark_of f cdv A outer s H E) 0) : ∀ ds r, R_mark_of ds r → DSs (BX P w K mg base N_mark_of "mark_of" s_mark_of f cdv A outer s H E) (startD N_mark_of ds) (defBody s_mark_of) (fin r) := by
  rintro _ _ ⟨k, p, m, rfl, ⟨p1, p2, pp⟩, m0, mB, rfl⟩
  refine' dss_set 2 pl rfl (de_mul (de_ix (dv 0 rfl rfl) de_int rfl) (dv 1 rfl rfl) rfl (p1.mulW mB (by decide))) ?_
  unfold markZ
  refine' dss_ifG (dt_neI (de_mod (dv 2 rfl rfl) (de_ix (dv 0 rfl rfl) de_int rfl) pp) de_int) (fun h => ?_) (fun h => ?_)
  · have h' : ¬ p.1 * m % p.2 = 0 := by simpa using h
    rw [if_neg h']
    exact dss_ret de_non (.inl rfl)
  have h' : p.1 * m % p.2 = 0 := by simpa using h
  rw [if_pos h']
  exact dss_ret (de_mod (de_div (dv 2 rfl rfl) (de_ix (dv 0 rfl rfl) de_int rfl) ⟨pp, p2.log (by decide)⟩) (dv 1 rfl rfl) m0) (.inl rfl)
theorem d_mark_of (T : Top K mg) (dg : base.NoDigits) : Def P w K mg base "mark_of" 1 ["value", "marks"] [] R_mark_of := by
  obtain ⟨f, fd, hm, F⟩ := T.F_mark_of
  exact ⟨f, fd, [], [], fng_data F sc_mark_of (by walk_at "len") dg (fun cdv A outer s H E pl => b_mark_of T dg pl), hm, F.kp, F.bindsN fun _ _ _ _ _ _ us hl => match us, hl with | [_, _], _ => rfl, .nil, fun _ => by simp [IsAll]⟩
def R_order_of (ds : List Dt) (r : Ret) : Prop := ∃ (a m : Int), ds = [.int a, .int m] ∧ 0 < m ∧ B 8000 m ∧ r = .sh (.int (m / (Nat.gcd a.natAbs m.natAbs : Nat)))
theorem b_order_of (T : Top K mg) (dg : base.NoDigits) (pl : Plc (BX P w K mg base N_order_of "order_of" s_order_of f cdv A outer s H E) 0) : ∀ ds r, R_order_of ds r → DSs (BX P w K mg base N_order_of "order_of" s_order_of f cdv A outer s H E) (startD N_order_of ds) (defBody s_order_of) (fin r) := by
  rintro _ _ ⟨a, m, rfl, m0, mB, rfl⟩
  have g0 : 0 < Nat.gcd a.natAbs m.natAbs := Nat.gcd_pos_of_pos_right _ (by omega)
  have g1 : Nat.gcd a.natAbs m.natAbs ≤ m.natAbs := Nat.gcd_le_right _ (by omega)
  have gB : B 8000 ((Nat.gcd a.natAbs m.natAbs : Nat) : Int) := mB.le (by simpa using g1)
  exact dss_ret (de_div (dv 1 rfl rfl) (de_gcd T.m_gcd (dv 0 rfl rfl) (dv 1 rfl rfl)) ⟨by omega, gB.log (by decide)⟩) (.inl rfl)
theorem d_order_of (T : Top K mg) (dg : base.NoDigits) : Def P w K mg base "order_of" 1 ["mark", "marks"] [] R_order_of := by
  obtain ⟨f, fd, hm, F⟩ := T.F_order_of
  exact ⟨f, fd, [], [], fng_data F sc_order_of (by walk_at "len") dg (fun cdv A outer s H E pl => b_order_of T dg pl), hm, F.kp, F.bindsN fun _ _ _ _ _ _ us hl => match us, hl with | [_, _], _ => rfl, .nil, fun _ => by simp [IsAll]⟩
/-! total -/
def frs (ps : List (Int × Int)) : List Dt := ps.map fr
theorem frs_get {k : Bool} {ps : List (Int × Int)} {n : Nat} {d : Dt} (h : (ps.map (frK k))[n]? = some d) : ∃ p, ps[n]? = some p ∧ d = frK k p := by
  rw [List.getElem?_map] at h
  cases e : ps[n]? with
  | none => rw [e] at h; cases h
  | some v => rw [e] at h; simp at h; exact ⟨v, rfl, h.symm⟩
def plusZ (p q : Int × Int) : Int × Int := rat (p.1 * q.2 + q.1 * p.2) (p.2 * q.2)
def totZ (ps : List (Int × Int)) : Int × Int := ps.foldl plusZ (0, 1)
/-- each number below 2^134: what 40 figures and a little more make -/
def small (ps : List (Int × Int)) : Prop := ∀ p, p ∈ ps → okF 134 p
theorem plus_bd {n m a : Nat} {p q : Int × Int} (p1 : B n p.1) (p2 : B m p.2) (pp : 0 < p.2) (hq : okF a q) : B (max (n + a) (m + a) + 1) (plusZ p q).1 ∧ B (m + a) (plusZ p q).2 ∧ 0 < (plusZ p q).2 ∧ Fr (plusZ p q) := by
  obtain ⟨q1, q2, qp⟩ := hq
  have h0 : p.2 * q.2 ≠ 0 := Int.ne_of_gt (Int.mul_pos pp qp)
  have h1 : B (max (n + a) (m + a) + 1) (p.1 * q.2 + q.1 * p.2) := B.add ((p1.mul q2).mono (by omega)) ((q1.mul p2).mono (by omega))
  exact ⟨rat_B1 h0 h1, rat_B2 h0 (p2.mul q2), (rat_fr h0).pos, rat_fr h0⟩
theorem foldl_snoc {α β : Type} (g : β → α → β) (z : β) {l : List α} {n : Nat} {a : α} (h : l[n]? = some a) : (l.take (n + 1)).foldl g z = g ((l.take n).foldl g z) a := by
  rw [List.take_add_one, h, List.foldl_append]; rfl
theorem tot_bd {ps : List (Int × Int)} (hs : small ps) : ∀ n, n ≤ ps.length → B (136 * n + 1) (totZ (ps.take n)).1 ∧ B (134 * n + 1) (totZ (ps.take n)).2 ∧ 0 < (totZ (ps.take n)).2 ∧ Fr (totZ (ps.take n))
  | 0, _ => by simp only [List.take_zero, totZ, List.foldl_nil]; exact ⟨by decide, by decide, by decide, ⟨by decide, by decide⟩⟩
  | n + 1, h => by
    have hn : n < ps.length := by omega
    have e : ps[n]? = some ps[n] := by simp [hn]
    obtain ⟨b1, b2, b3, _⟩ := tot_bd hs n (by omega)
    unfold totZ
    rw [foldl_snoc plusZ _ e]
    obtain ⟨c1, c2, c3, c4⟩ := plus_bd b1 b2 b3 (hs ps[n] (List.getElem_mem hn))
    exact ⟨c1.mono (by omega), c2.mono (by omega), c3, c4⟩
def R_total (ds : List Dt) (r : Ret) : Prop := ∃ (t k : Bool) (ps : List (Int × Int)), ds = [.sq t (ps.map (frK k))] ∧ small ps ∧ ps.length ≤ 20 ∧ r = .sh (fr (totZ ps))
theorem b_total (T : Top K mg) (dg : base.NoDigits) (pl : Plc (BX P w K mg base N_total "total" s_total f cdv A outer s H E) 2) : ∀ ds r, R_total ds r → DSs (BX P w K mg base N_total "total" s_total f cdv A outer s H E) (startD N_total ds) (defBody s_total) (fin r) := by
  rintro _ _ ⟨t, k, ps, rfl, hs, hl, rfl⟩
  refine' dss_set 1 pl rfl (de_tup (da_cons de_int (da_cons de_int da_nil))) ?_
  refine' dss_for 2 pl rfl (di_seq (dv 0 rfl rfl)) (fun n δ => ∃ t2, δ = [.sh (.sq t (ps.map (frK k))), .sh (fr (totZ (ps.take n))), t2]) ⟨.no, rfl⟩ (fun n d δ' hd hi => ?hs) (fun δ' hi => ?hd)
  case hs =>
    obtain ⟨t2, rfl⟩ := hi
    obtain ⟨p, hp, rfl⟩ := frs_get hd
    have hn := lt_of_get hp
    obtain ⟨b1, b2, b3, _⟩ := tot_bd hs n (by omega)
    obtain ⟨p1, p2, pp⟩ := hs p (List.mem_of_getElem? hp)
    refine' dss_set 1 pl rfl (de_callS pl (d_plus (P := P) (w := w) T dg) (by decide) rfl (da_cons (dv 1 rfl rfl) (da_cons (dv 2 rfl rfl) da_nil)) ⟨totZ (ps.take n), p, ⟨⟨_, _, rfl⟩, b1.mono (by omega), b2.mono (by omega), p1.mono (by decide), p2.mono (by decide), b3, pp⟩, (b2.mul p2).mono (by omega), rfl⟩) ?_
    refine dss_nil ⟨.sh (frK k p), ?_⟩
    have e : totZ (ps.take (n + 1)) = plusZ (totZ (ps.take n)) p := foldl_snoc plusZ _ hp
    rw [e]; rfl
  case hd =>
    obtain ⟨t2, rfl⟩ := hi
    rw [List.length_map, List.take_length]
    exact dss_ret (dv 1 rfl rfl) (.inl rfl)
theorem d_total (T : Top K mg) (dg : base.NoDigits) : Def P w K mg base "total" 3 ["values"] [] R_total := by
  obtain ⟨f, fd, hm, F⟩ := T.F_total
  exact ⟨f, fd, [], [], fng_data F sc_total (by walk_at "len") dg (fun cdv A outer s H E pl => b_total T dg pl), hm, F.kp, F.bindsN fun _ _ _ _ _ _ us hl => match us, hl with | [_], _ => rfl, .nil, fun _ => by simp [IsAll]⟩
end K01

set_option Elab.async false
set_option linter.all false
set_option maxRecDepth 100000
set_option maxHeartbeats 4000000
namespace K01
open PySem L2 Dat
local macro_rules | `(tactic| walk_at "c") => `(tactic| first | exact trivial | (show _ ≤ 16777216; simp; done))
local macro_rules | `(tactic| walk_at "len") => `(tactic| (intro ds r h; (repeat obtain ⟨_, h⟩ := h); subst_vars; first | rfl | (simp; done)))
variable {P : Program} {w : World} {K : PySem.W.Frag} {mg : Str → Option Value} {base : Heap} {f : Addr} {cdv : Value} {A : Around} {outer : List PySem.Env} {s : Shared} {H : Hp} {E : XK}
/-! ### common bottoms -/
def lcmZ (b v : Int) : Int := b * (v / (Nat.gcd b.natAbs v.natAbs : Nat))
theorem gcd_nat_dvd (b v : Int) : ((Nat.gcd b.natAbs v.natAbs : Nat) : Int) ∣ b ∧ ((Nat.gcd b.natAbs v.natAbs : Nat) : Int) ∣ v :=
  ⟨Int.ofNat_dvd_left.mpr (Nat.gcd_dvd_left _ _), Int.ofNat_dvd_left.mpr (Nat.gcd_dvd_right _ _)⟩
theorem gcd_nat_pos {b v : Int} (hv : 0 < v) : 0 < ((Nat.gcd b.natAbs v.natAbs : Nat) : Int) := by
  have := Nat.gcd_pos_of_pos_right b.natAbs (n := v.natAbs) (by omega)
  omega
theorem lcm_same {b v : Int} (hv : 0 < v) : b / ((Nat.gcd b.natAbs v.natAbs : Nat) : Int) * v = lcmZ b v := by
  have h0 := gcd_nat_pos (b := b) hv
  obtain ⟨⟨b', hb⟩, ⟨v', hv'⟩⟩ := gcd_nat_dvd b v
  unfold lcmZ
  generalize ((Nat.gcd b.natAbs v.natAbs : Nat) : Int) = g at *
  subst hb; subst hv'
  rw [Int.mul_ediv_cancel_left _ (by omega), Int.mul_ediv_cancel_left _ (by omega)]
  rw [Int.mul_left_comm, Int.mul_assoc]
theorem lcm_facts {b v : Int} (hb : 0 < b) (hv : 0 < v) : 0 < lcmZ b v ∧ b ∣ lcmZ b v ∧ v ∣ lcmZ b v ∧ lcmZ b v ≤ b * v ∧ 0 < v / ((Nat.gcd b.natAbs v.natAbs : Nat) : Int) ∧ v / ((Nat.gcd b.natAbs v.natAbs : Nat) : Int) ≤ v := by
  have h0 := gcd_nat_pos (b := b) hv
  have h9 : lcmZ b v = b * (v / ((Nat.gcd b.natAbs v.natAbs : Nat) : Int)) := rfl
  obtain ⟨⟨b', hb'⟩, ⟨v', hv'⟩⟩ := gcd_nat_dvd b v
  generalize ((Nat.gcd b.natAbs v.natAbs : Nat) : Int) = g at *
  have e : v / g = v' := by rw [hv', Int.mul_ediv_cancel_left _ (by omega)]
  have hp : 0 < v' := by
    refine Int.not_le.mp fun z => ?_
    have := Int.mul_nonpos_of_nonneg_of_nonpos (Int.le_of_lt h0) z
    omega
  have hle : v' ≤ v := by
    have : 1 * v' ≤ g * v' := Int.mul_le_mul_of_nonneg_right (by omega) (by omega)
    omega
  rw [h9, e]
  refine ⟨Int.mul_pos hb hp, ⟨v', rfl⟩, ⟨b', ?_⟩, Int.mul_le_mul_of_nonneg_left hle (by omega), hp, hle⟩
  rw [hb', hv', Int.mul_right_comm]
def lcmF (ps : List (Int × Int)) : Int := ps.foldl (fun b p => lcmZ b p.2) 1
theorem lcm_bd {ps : List (Int × Int)} (hs : small ps) : ∀ n, n ≤ ps.length → 0 < lcmF (ps.take n) ∧ B (134 * n + 1) (lcmF (ps.take n))
  | 0, _ => by simp only [List.take_zero, lcmF, List.foldl_nil]; exact ⟨by decide, by decide⟩
  | n + 1, h => by
    have hn : n < ps.length := by omega
    have e : ps[n]? = some ps[n] := by simp [hn]
    obtain ⟨b1, b2⟩ := lcm_bd hs n (by omega)
    obtain ⟨_, q2, q0⟩ := hs ps[n] (List.getElem_mem hn)
    have e2 : lcmF (ps.take (n + 1)) = lcmZ (lcmF (ps.take n)) ps[n].2 := foldl_snoc (fun (b : Int) (p : Int × Int) => lcmZ b p.2) _ e
    obtain ⟨c0, _, _, c1, _⟩ := lcm_facts b1 q0
    rw [e2]
    refine ⟨c0, (b2.mul q2).mono (m := 134 * (n + 1) + 1) (by omega) |>.le ?_⟩
    have := Int.mul_pos b1 q0
    omega
theorem lcm_dvd {ps : List (Int × Int)} (hs : ∀ p, p ∈ ps → 0 < p.2) : 0 < lcmF ps ∧ ∀ p, p ∈ ps → p.2 ∣ lcmF ps := by
  suffices h : ∀ (l : List (Int × Int)) (b : Int), (∀ p, p ∈ l → 0 < p.2) → 0 < b → 0 < l.foldl (fun b p => lcmZ b p.2) b ∧ b ∣ l.foldl (fun b p => lcmZ b p.2) b ∧ ∀ p, p ∈ l → p.2 ∣ l.foldl (fun b p => lcmZ b p.2) b by
    obtain ⟨h1, _, h2⟩ := h ps 1 hs (by decide)
    exact ⟨h1, h2⟩
  intro l
  induction l with
  | nil => intro b _ hb; exact ⟨hb, Int.dvd_refl _, fun p hp => by cases hp⟩
  | cons q l ih =>
    intro b hl hb
    obtain ⟨c0, c1, c2, _⟩ := lcm_facts hb (hl q List.mem_cons_self)
    obtain ⟨d0, d1, d2⟩ := ih (lcmZ b q.2) (fun p hp => hl p (List.mem_cons_of_mem _ hp)) c0
    refine ⟨d0, Int.dvd_trans c1 d1, fun p hp => ?_⟩
    rcases List.mem_cons.mp hp with z | z
    · rw [z]; exact Int.dvd_trans c2 d1
    · exact d2 p z
def R_common_bottom (ds : List Dt) (r : Ret) : Prop := ∃ (t k : Bool) (ps : List (Int × Int)), ds = [.sq t (ps.map (frK k))] ∧ small ps ∧ ps.length ≤ 20 ∧ r = .sh (.int (lcmF ps))
theorem b_common_bottom (T : Top K mg) (dg : base.NoDigits) (pl : Plc (BX P w K mg base N_common_bottom "common_bottom" s_common_bottom f cdv A outer s H E) 0) : ∀ ds r, R_common_bottom ds r → DSs (BX P w K mg base N_common_bottom "common_bottom" s_common_bottom f cdv A outer s H E) (startD N_common_bottom ds) (defBody s_common_bottom) (fin r) := by
  rintro _ _ ⟨t, k, ps, rfl, hs, hl, rfl⟩
  refine' dss_set 1 pl rfl de_int ?_
  refine' dss_for 2 pl rfl (di_seq (dv 0 rfl rfl)) (fun n δ => ∃ t2, δ = [.sh (.sq t (ps.map (frK k))), .sh (.int (lcmF (ps.take n))), t2]) ⟨.no, rfl⟩ (fun n d δ' hd hi => ?hs) (fun δ' hi => ?hd)
  case hs =>
    obtain ⟨t2, rfl⟩ := hi
    obtain ⟨p, hp, rfl⟩ := frs_get hd
    have hn := lt_of_get hp
    obtain ⟨b1, b2⟩ := lcm_bd hs n (by omega)
    obtain ⟨p1, p2, pp⟩ := hs p (List.mem_of_getElem? hp)
    have g0 := gcd_nat_pos (b := lcmF (ps.take n)) pp
    have gB : B 134 ((Nat.gcd (lcmF (ps.take n)).natAbs p.2.natAbs : Nat) : Int) := p2.le (by simpa using Nat.gcd_le_right _ (by omega))
    have dB : B (134 * n + 1) (lcmF (ps.take n) / ((Nat.gcd (lcmF (ps.take n)).natAbs p.2.natAbs : Nat) : Int)) := b2.le (by
      have h1 := Int.ediv_le_self (a := lcmF (ps.take n)) ((Nat.gcd (lcmF (ps.take n)).natAbs p.2.natAbs : Nat) : Int) (Int.le_of_lt b1)
      have h2 : 0 ≤ lcmF (ps.take n) / ((Nat.gcd (lcmF (ps.take n)).natAbs p.2.natAbs : Nat) : Int) := Int.ediv_nonneg (Int.le_of_lt b1) (Int.le_of_lt g0)
      omega)
    refine' dss_set 1 pl rfl (de_mul (de_div (dv 1 rfl rfl) (de_gcd T.m_gcd (dv 1 rfl rfl) (de_ix (dv 2 rfl rfl) de_int rfl)) ⟨g0, gB.log (by decide)⟩) (de_ix (dv 2 rfl rfl) de_int rfl) rfl (dB.mulW p2 (by omega))) ?_
    refine dss_nil ⟨.sh (frK k p), ?_⟩
    have e : lcmF (ps.take (n + 1)) = lcmZ (lcmF (ps.take n)) p.2 := foldl_snoc (fun (b : Int) (p : Int × Int) => lcmZ b p.2) _ hp
    rw [e, ← lcm_same pp]; rfl
  case hd =>
    obtain ⟨t2, rfl⟩ := hi
    rw [List.length_map, List.take_length]
    exact dss_ret (dv 1 rfl rfl) (.inl rfl)
theorem d_common_bottom (T : Top K mg) (dg : base.NoDigits) : Def P w K mg base "common_bottom" 1 ["values"] [] R_common_bottom := by
  obtain ⟨f, fd, hm, F⟩ := T.F_common_bottom
  exact ⟨f, fd, [], [], fng_data F sc_common_bottom (by walk_at "len") dg (fun cdv A outer s H E pl => b_common_bottom T dg pl), hm, F.kp, F.bindsN fun _ _ _ _ _ _ us hl => match us, hl with | [_], _ => rfl, .nil, fun _ => by simp [IsAll]⟩
def R__law_bottom (ds : List Dt) (r : Ret) : Prop := ∃ (t k : Bool) (ps : List (Int × Int)), ds = [.sq t (ps.map (frK k))] ∧ small ps ∧ ps.length ≤ 20 ∧ r = .sh (.int (lcmF ps))
theorem b__law_bottom (T : Top K mg) (dg : base.NoDigits) (pl : Plc (BX P w K mg base N__law_bottom "_law_bottom" s__law_bottom f cdv A outer s H E) 1) : ∀ ds r, R__law_bottom ds r → DSs (BX P w K mg base N__law_bottom "_law_bottom" s__law_bottom f cdv A outer s H E) (startD N__law_bottom ds) (defBody s__law_bottom) (fin r) := by
  rintro _ _ ⟨t, k, ps, rfl, hs, hl, rfl⟩
  refine' dss_set 1 pl rfl de_int ?_
  refine' dss_for 2 pl rfl (di_seq (dv 0 rfl rfl)) (fun n δ => ∃ t2, δ = [.sh (.sq t (ps.map (frK k))), .sh (.int (lcmF (ps.take n))), t2]) ⟨.no, rfl⟩ (fun n d δ' hd hi => ?hs) (fun δ' hi => ?hd)
  case hs =>
    obtain ⟨t2, rfl⟩ := hi
    obtain ⟨p, hp, rfl⟩ := frs_get hd
    have hn := lt_of_get hp
    obtain ⟨b1, b2⟩ := lcm_bd hs n (by omega)
    obtain ⟨p1, p2, pp⟩ := hs p (List.mem_of_getElem? hp)
    have g0 := gcd_nat_pos (b := lcmF (ps.take n)) pp
    have gB : B 134 ((Nat.gcd (lcmF (ps.take n)).natAbs p.2.natAbs : Nat) : Int) := p2.le (by simpa using Nat.gcd_le_right _ (by omega))
    obtain ⟨_, _, _, _, d1, d2⟩ := lcm_facts b1 pp
    have dB : B 134 (p.2 / ((Nat.gcd (lcmF (ps.take n)).natAbs p.2.natAbs : Nat) : Int)) := p2.le (by omega)
    refine' dss_set 1 pl rfl (de_mul (dv 1 rfl rfl) (de_div (de_ix (dv 2 rfl rfl) de_int rfl) (de_callS pl (d__law_gcd T dg) (by decide) rfl (da_cons (dv 1 rfl rfl) (da_cons (de_ix (dv 2 rfl rfl) de_int rfl) da_nil)) ⟨_, _, b2.mono (by omega), p2.mono (by decide), rfl, rfl⟩) ⟨g0, gB.log (by decide)⟩) rfl (b2.mulW dB (by omega))) ?_
    refine dss_nil ⟨.sh (frK k p), ?_⟩
    have e : lcmF (ps.take (n + 1)) = lcmZ (lcmF (ps.take n)) p.2 := foldl_snoc (fun (b : Int) (p : Int × Int) => lcmZ b p.2) _ hp
    rw [e]; rfl
  case hd =>
    obtain ⟨t2, rfl⟩ := hi
    rw [List.length_map, List.take_length]
    exact dss_ret (dv 1 rfl rfl) (.inl rfl)
theorem d__law_bottom (T : Top K mg) (dg : base.NoDigits) : Def P w K mg base "_law_bottom" 2 ["values"] [] R__law_bottom := by
  obtain ⟨f, fd, hm, F⟩ := T.F__law_bottom
  exact ⟨f, fd, [], [], fng_data F sc__law_bottom (by walk_at "len") dg (fun cdv A outer s H E pl => b__law_bottom T dg pl), hm, F.kp, F.bindsN fun _ _ _ _ _ _ us hl => match us, hl with | [_], _ => rfl, .nil, fun _ => by simp [IsAll]⟩
def R_lifted (ds : List Dt) (r : Ret) : Prop := ∃ (t k : Bool) (ps : List (Int × Int)) (b : Int), ds = [.sq t (ps.map (frK k)), .int b] ∧ small ps ∧ ps.length ≤ 20 ∧ B 8000 b ∧ 0 ≤ b ∧ r = .sh (.sq true (ps.map fun p => .int (p.1 * (b / p.2))))
theorem b_lifted (T : Top K mg) (dg : base.NoDigits) (pl : Plc (BX P w K mg base N_lifted "lifted" s_lifted f cdv A outer s H E) 0) : ∀ ds r, R_lifted ds r → DSs (BX P w K mg base N_lifted "lifted" s_lifted f cdv A outer s H E) (startD N_lifted ds) (defBody s_lifted) (fin r) := by
  rintro _ _ ⟨t, k, ps, b, rfl, hs, hl, hb, b0, rfl⟩
  refine' dss_ret (de_tuple T.m_tuple (de_of (df_lc 2 pl (di_seq (dv 0 rfl rfl)) (blkOk_by (N := N_lifted) (sc := defScope s_lifted) (by decide +kernel)) (fun _ _ _ _ _ => pg_name pl.nd rfl (Or.inl rfl)) ?hz (ps.map fun p => .int (p.1 * (b / p.2))) (by simp) ?hs))) (.inl rfl)
  case hz => rw [List.length_map]; show _ ≤ 16777216; omega
  case hs =>
    intro n d r h1 h2 s1 H1 C cl fp
    obtain ⟨p, hp, rfl⟩ := frs_get h1
    rw [List.getElem?_map, hp] at h2
    simp only [Option.map_some, Option.some.injEq] at h2
    subst h2
    obtain ⟨p1, p2, pp⟩ := hs p (List.mem_of_getElem? hp)
    have dB : B 8000 (b / p.2) := hb.le (by
      have h1 := Int.ediv_le_self (a := b) p.2 b0
      have h2 : 0 ≤ b / p.2 := Int.ediv_nonneg b0 (Int.le_of_lt pp)
      omega)
    exact de_mul (de_ix (dv 2 rfl rfl) de_int rfl) (de_div (dv 1 rfl rfl) (de_ix (dv 2 rfl rfl) de_int rfl) ⟨pp, p2.log (by decide)⟩) rfl (p1.mulW dB (by decide))
theorem d_lifted (T : Top K mg) (dg : base.NoDigits) : Def P w K mg base "lifted" 1 ["values", "bottom"] [] R_lifted := by
  obtain ⟨f, fd, hm, F⟩ := T.F_lifted
  exact ⟨f, fd, [], [], fng_data F sc_lifted (by walk_at "len") dg (fun cdv A outer s H E pl => b_lifted T dg pl), hm, F.kp, F.bindsN fun _ _ _ _ _ _ us hl => match us, hl with | [_, _], _ => rfl, .nil, fun _ => by simp [IsAll]⟩
end K01

set_option Elab.async false
set_option linter.all false
set_option maxRecDepth 100000
set_option maxHeartbeats 4000000
namespace K01
open PySem L2 Dat
local macro_rules | `(tactic| walk_at "c") => `(tactic| first | exact trivial | (show _ ≤ 16777216; simp; done))
local macro_rules | `(tactic| walk_at "len") => `(tactic| (intro ds r h; (repeat obtain ⟨_, h⟩ := h); subst_vars; first | rfl | (simp; done)))
variable {P : Program} {w : World} {K : PySem.W.Frag} {mg : Str → Option Value} {base : Heap} {f : Addr} {cdv : Value} {A : Around} {outer : List PySem.Env} {s : Shared} {H : Hp} {E : XK}
/-! ### the law's own defs -/
def joinZ (ns : List Int) : Int := ns.foldl (fun v d => v * 100000000 + d) 0
def digs8 (ns : List Int) : Prop := ∀ d, d ∈ ns → 0 ≤ d ∧ d < 100000000
theorem join_bd {ns : List Int} (h : digs8 ns) : ∀ n, n ≤ ns.length → 0 ≤ joinZ (ns.take n) ∧ joinZ (ns.take n) < 100000000 ^ n
  | 0, _ => by simp [joinZ]
  | n + 1, hn => by
    have hlt : n < ns.length := by omega
    have e : ns[n]? = some ns[n] := by simp [hlt]
    obtain ⟨b1, b2⟩ := join_bd h n (by omega)
    obtain ⟨d0, d1⟩ := h ns[n] (List.getElem_mem hlt)
    have e2 : joinZ (ns.take (n + 1)) = joinZ (ns.take n) * 100000000 + ns[n] := foldl_snoc (fun (v d : Int) => v * 100000000 + d) _ e
    rw [e2, Int.pow_succ]
    omega
theorem join_B {ns : List Int} (h : digs8 ns) (hl : ns.length ≤ 5) : ∀ n, n ≤ ns.length → B 133 (joinZ (ns.take n)) := fun n hn => by
  obtain ⟨b1, b2⟩ := join_bd h n hn
  refine .bd (m := 100000000 ^ 5) b1 (Int.le_of_lt (Int.lt_of_lt_of_le b2 ?_)) (by decide)
  have : n = 0 ∨ n = 1 ∨ n = 2 ∨ n = 3 ∨ n = 4 ∨ n = 5 := by omega
  rcases this with rfl | rfl | rfl | rfl | rfl | rfl <;> decide
def R__law_joined (ds : List Dt) (r : Ret) : Prop := ∃ (t : Bool) (ns : List Int), ds = [.sq t (ns.map Dt.int)] ∧ digs8 ns ∧ ns.length ≤ 5 ∧ r = .sh (.int (joinZ ns))
theorem b__law_joined (T : Top K mg) (dg : base.NoDigits) (pl : Plc (BX P w K mg base N__law_joined "_law_joined" s__law_joined f cdv A outer s H E) 0) : ∀ ds r, R__law_joined ds r → DSs (BX P w K mg base N__law_joined "_law_joined" s__law_joined f cdv A outer s H E) (startD N__law_joined ds) (defBody s__law_joined) (fin r) := by
  rintro _ _ ⟨t, ns, rfl, hs, hl, rfl⟩
  refine' dss_set 1 pl rfl de_int ?_
  refine' dss_for 2 pl rfl (di_seq (dv 0 rfl rfl)) (fun n δ => ∃ t2, δ = [.sh (.sq t (ns.map Dt.int)), .sh (.int (joinZ (ns.take n))), t2]) ⟨.no, rfl⟩ (fun n d δ' hd hi => ?hs) (fun δ' hi => ?hd)
  case hs =>
    obtain ⟨t2, rfl⟩ := hi
    obtain ⟨v, hv, rfl⟩ := map_int_get hd
    have hn := lt_of_get hv
    refine' dss_set 1 pl rfl (de_add (de_mul (dv 1 rfl rfl) de_int rfl ((join_B hs hl n (by omega)).mulW (m := 40) (by decide) (by decide))) (dv 2 rfl rfl) rfl (by walk_at "c")) ?_
    refine dss_nil ⟨.sh (.int v), ?_⟩
    have e2 : joinZ (ns.take (n + 1)) = joinZ (ns.take n) * 100000000 + v := foldl_snoc (fun (v d : Int) => v * 100000000 + d) _ hv
    rw [e2]; rfl
  case hd =>
    obtain ⟨t2, rfl⟩ := hi
    rw [List.length_map, List.take_length]
    exact dss_ret (dv 1 rfl rfl) (.inl rfl)
theorem d__law_joined (T : Top K mg) (dg : base.NoDigits) : Def P w K mg base "_law_joined" 1 ["digits"] [] R__law_joined := by
  obtain ⟨f, fd, hm, F⟩ := T.F__law_joined
  exact ⟨f, fd, [], [], fng_data F sc__law_joined (by walk_at "len") dg (fun cdv A outer s H E pl => b__law_joined T dg pl), hm, F.kp, F.bindsN fun _ _ _ _ _ _ us hl => match us, hl with | [_], _ => rfl, .nil, fun _ => by simp [IsAll]⟩
/-! a drawn fraction -/
def bots : List Int := [1, 2, 3, 4, 5, 6, 7, 9, 10, 12, 1, 30]
theorem lit_ix {l : List Int} {i : Int} (h0 : 0 ≤ i) (h1 : i < l.length) : atI (l.map Dt.int) i = some (.int (l.getD i.toNat 0)) ∧ l.getD i.toNat 0 ∈ l := by
  have hk : i.toNat < l.length := by omega
  have e : l.getD i.toNat 0 = l[i.toNat] := by simp [List.getD_eq_getElem?_getD, hk]
  rw [e]
  exact ⟨atI_get h0 (by simp [hk]), List.getElem_mem hk⟩
def fracZ (row : List Int) : Int × Int :=
  if row.getD 0 0 < 7 then rat (row.getD 1 0 - 30) (bots.getD (row.getD 2 0).toNat 0)
  else rat (if row.getD 1 0 % 2 = 0 then -joinZ ((row.drop 3).take 5) else joinZ ((row.drop 3).take 5)) (max 1 (joinZ ((row.drop 8).take 5)))
def fsz : List Int := [8, 61, 12, 100000000, 100000000, 100000000, 100000000, 100000000, 100000000, 100000000, 100000000, 100000000, 100000000]
theorem max_B {n : Nat} {x : Int} (h : B n x) (hx : 0 ≤ x) (hn : 0 < n) : B n (max 1 x) := by
  unfold B at *
  have : 1 < 2 ^ n := Nat.one_lt_two_pow (by omega)
  omega
theorem bots_bd : ∀ v, v ∈ bots → 1 ≤ v ∧ v ≤ 30 := by decide
theorem fracZ_ok {row : List Int} (h : Dg fsz row) : Fr (fracZ row) ∧ okF 134 (fracZ row) := by
  obtain ⟨r0, _, rfl, a0, b0, r1, _, rfl, a1, b1, r2, _, rfl, a2, b2, r3, _, rfl, a3, b3, r4, _, rfl, a4, b4, r5, _, rfl, a5, b5, r6, _, rfl, a6, b6, r7, _, rfl, a7, b7, r8, _, rfl, a8, b8, r9, _, rfl, a9, b9, r10, _, rfl, a10, b10, r11, _, rfl, a11, b11, r12, _, rfl, a12, b12, rfl⟩ := h
  unfold fracZ
  split
  · obtain ⟨_, m⟩ := lit_ix (l := bots) a2 b2
    obtain ⟨m1, m2⟩ := bots_bd _ m
    have h0 : bots.getD ([r0, r1, r2, r3, r4, r5, r6, r7, r8, r9, r10, r11, r12].getD 2 0).toNat 0 ≠ 0 := by
      show bots.getD r2.toNat 0 ≠ 0
      omega
    refine ⟨rat_fr h0, rat_B1 h0 ?_, rat_B2 h0 ?_, (rat_fr h0).pos⟩
    · show B 134 (r1 - 30)
      exact B.le (j := 100) (by decide) (by omega)
    · exact B.bd (m := 30) (by show 0 ≤ bots.getD r2.toNat 0; omega) m2 (by decide)
  · have d1 : digs8 [r3, r4, r5, r6, r7] := by simp only [digs8, List.mem_cons, List.not_mem_nil, or_false]; rintro d (rfl | rfl | rfl | rfl | rfl) <;> exact ⟨by assumption, by assumption⟩
    have d2 : digs8 [r8, r9, r10, r11, r12] := by simp only [digs8, List.mem_cons, List.not_mem_nil, or_false]; rintro d (rfl | rfl | rfl | rfl | rfl) <;> exact ⟨by assumption, by assumption⟩
    have j1 := join_B d1 (Nat.le_refl 5) 5 (Nat.le_refl 5)
    have j2 := join_B d2 (Nat.le_refl 5) 5 (Nat.le_refl 5)
    have j3 := (join_bd d2 5 (Nat.le_refl 5)).1
    have h0 : max 1 (joinZ [r8, r9, r10, r11, r12]) ≠ 0 := by omega
    have h1 := max_B j2 j3 (by decide)
    refine ⟨rat_fr h0, rat_B1 h0 ?_, rat_B2 h0 (h1.mono (by decide)), (rat_fr h0).pos⟩
    split
    · exact (j1.mono (by decide)).neg
    · exact j1.mono (by decide)
theorem fsz_ok : ∀ s, s ∈ fsz → 0 < s ∧ B 8990 s := by
  have : ∀ s, s ∈ fsz → 0 < s ∧ s.natAbs < 2 ^ 30 := by decide
  intro s hs
  exact ⟨(this s hs).1, B.mono (n := 30) (this s hs).2 (by decide)⟩
def R__law_fraction (ds : List Dt) (r : Ret) : Prop := ∃ c : Int, ds = [.int c] ∧ r = .sh (fr (fracZ (digZ c fsz)))
theorem b__law_fraction (T : Top K mg) (dg : base.NoDigits) (pl : Plc (BX P w K mg base N__law_fraction "_law_fraction" s__law_fraction f cdv A outer s H E) 2) : ∀ ds r, R__law_fraction ds r → DSs (BX P w K mg base N__law_fraction "_law_fraction" s__law_fraction f cdv A outer s H E) (startD N__law_fraction ds) (defBody s__law_fraction) (fin r) := by
  rintro _ _ ⟨c, rfl, rfl⟩
  refine' dss_set 1 pl rfl (de_call pl (d__law_digits T dg) (by decide) rfl (da_cons (dv 0 rfl rfl) (da_cons (de_add (de_lst (da_cons de_int (da_cons de_int (da_cons de_int da_nil)))) (de_mul (de_lst (da_cons de_int da_nil)) de_int rfl ⟨by decide, by decide, by show _ ≤ 16777216; decide⟩) rfl (by show _ ≤ 16777216; decide)) da_nil)) ⟨c, false, fsz, fsz_ok, by decide, rfl, rfl⟩) ?_
  have hok := fracZ_ok (dg_Z (c := c) fun s hs => (fsz_ok s hs).1)
  have hdg := dg_Z (ss := fsz) (c := c) fun s hs => (fsz_ok s hs).1
  generalize digZ c fsz = row at *
  obtain ⟨r0, _, rfl, a0, b0, r1, _, rfl, a1, b1, r2, _, rfl, a2, b2, r3, _, rfl, a3, b3, r4, _, rfl, a4, b4, r5, _, rfl, a5, b5, r6, _, rfl, a6, b6, r7, _, rfl, a7, b7, r8, _, rfl, a8, b8, r9, _, rfl, a9, b9, r10, _, rfl, a10, b10, r11, _, rfl, a11, b11, r12, _, rfl, a12, b12, rfl⟩ := hdg
  have e1 : fracZ [r0, r1, r2, r3, r4, r5, r6, r7, r8, r9, r10, r11, r12] = if r0 < 7 then rat (r1 - 30) (bots.getD r2.toNat 0)
    else rat (if r1 % 2 = 0 then -joinZ [r3, r4, r5, r6, r7] else joinZ [r3, r4, r5, r6, r7]) (max 1 (joinZ [r8, r9, r10, r11, r12])) := rfl
  rw [e1]
  refine' dss_ifG (dt_lt (de_ix (dv 1 rfl rfl) de_int rfl) de_int) (fun h => ?_) (fun h => ?_)
  · obtain ⟨m0, m⟩ := lit_ix (l := bots) a2 b2
    obtain ⟨m1, m2⟩ := bots_bd _ m
    rw [if_pos (of_decide_eq_true h)]
    refine' dss_ret (de_callS pl (d__law_ratio T dg) (by decide) rfl (da_cons (de_sub (de_ix (dv 1 rfl rfl) de_int rfl) de_int) (da_cons (de_ix (dc := .int (bots.getD r2.toNat 0)) (de_lst (da_cons de_int (da_cons de_int (da_cons de_int (da_cons de_int (da_cons de_int (da_cons de_int (da_cons de_int (da_cons de_int (da_cons de_int (da_cons de_int (da_cons de_int (da_cons de_int da_nil))))))))))))) (de_ix (dv 1 rfl rfl) de_int rfl) m0) da_nil)) ?r) (.inl rfl)
    case r => exact ⟨_, _, by omega, B.le (n := 9990) (j := 100) (by decide) (by omega), B.bd (m := 30) (by omega) m2 (by decide), rfl, rfl⟩
  rw [if_neg (of_decide_eq_false h)]
  have d1 : digs8 [r3, r4, r5, r6, r7] := by simp only [digs8, List.mem_cons, List.not_mem_nil, or_false]; rintro d (rfl | rfl | rfl | rfl | rfl) <;> exact ⟨by assumption, by assumption⟩
  have d2 : digs8 [r8, r9, r10, r11, r12] := by simp only [digs8, List.mem_cons, List.not_mem_nil, or_false]; rintro d (rfl | rfl | rfl | rfl | rfl) <;> exact ⟨by assumption, by assumption⟩
  have j1 := join_B d1 (Nat.le_refl 5) 5 (Nat.le_refl 5)
  have j2 := join_B d2 (Nat.le_refl 5) 5 (Nat.le_refl 5)
  have j3 := (join_bd d2 5 (Nat.le_refl 5)).1
  refine' dss_set 2 pl rfl (de_callS pl (d__law_joined T dg) (by decide) rfl (da_cons (de_sl (dv 1 rfl rfl) (do_some de_int) (do_some de_int)) da_nil) ⟨false, [r3, r4, r5, r6, r7], rfl, d1, Nat.le_refl 5, rfl⟩) ?_
  refine' dss_ifJ (fun δ => ∃ t, B 9990 t ∧ t = (if r1 % 2 = 0 then -joinZ [r3, r4, r5, r6, r7] else joinZ [r3, r4, r5, r6, r7]) ∧ δ = [.sh (.int c), .sh (.sq false ([r0, r1, r2, r3, r4, r5, r6, r7, r8, r9, r10, r11, r12].map Dt.int)), .sh (.int t)]) (dt_eqI (de_mod (de_ix (dv 1 rfl rfl) de_int rfl) de_int (by decide)) de_int) (fun h => ?_) (fun h => ?_) (fun δ' hi => ?_)
  · refine' dss_set 2 pl rfl (de_neg (dv 2 rfl rfl)) (dss_nil ⟨_, (j1.mono (by decide)).neg, ?_, rfl⟩)
    rw [if_pos (of_decide_eq_true h)]; rfl
  · refine ⟨_, j1.mono (by decide), ?_, rfl⟩
    rw [if_neg (of_decide_eq_false h)]; rfl
  obtain ⟨t, tB, te, rfl⟩ := hi
  have h1 := max_B j2 j3 (by decide)
  refine' dss_ret (de_callS pl (d__law_ratio T dg) (by decide) rfl (da_cons (dv 2 rfl rfl) (da_cons (de_max pl T.m_max de_int (de_callS pl (d__law_joined T dg) (by decide) rfl (da_cons (de_sl (dv 1 rfl rfl) (do_some de_int) (do_some de_int)) da_nil) ⟨false, [r8, r9, r10, r11, r12], rfl, d2, Nat.le_refl 5, rfl⟩)) da_nil)) ?r) (.inl ?_)
  case r => exact ⟨_, _, by show max 1 (joinZ [r8, r9, r10, r11, r12]) ≠ 0; omega, tB, h1.mono (by decide), rfl, rfl⟩
  rw [te]; rfl
theorem d__law_fraction (T : Top K mg) (dg : base.NoDigits) : Def P w K mg base "_law_fraction" 3 ["cell"] [] R__law_fraction := by
  obtain ⟨f, fd, hm, F⟩ := T.F__law_fraction
  exact ⟨f, fd, [], [], fng_data F sc__law_fraction (by walk_at "len") dg (fun cdv A outer s H E pl => b__law_fraction T dg pl), hm, F.kp, F.bindsN fun _ _ _ _ _ _ us hl => match us, hl with | [_], _ => rfl, .nil, fun _ => by simp [IsAll]⟩
def R__law_equals (ds : List Dt) (r : Ret) : Prop := ∃ (p : Int × Int) (t b : Int), ds = [fr p, .int t, .int b] ∧ Fr p ∧ B 6000 p.1 ∧ B 6000 p.2 ∧ B 6000 t ∧ B 6000 b ∧ p.1 * b = t * p.2 ∧ r = .sh (.bl true)
theorem b__law_equals (T : Top K mg) (dg : base.NoDigits) (pl : Plc (BX P w K mg base N__law_equals "_law_equals" s__law_equals f cdv A outer s H E) 2) : ∀ ds r, R__law_equals ds r → DSs (BX P w K mg base N__law_equals "_law_equals" s__law_equals f cdv A outer s H E) (startD N__law_equals ds) (defBody s__law_equals) (fin r) := by
  rintro _ _ ⟨p, t, b, rfl, ⟨p0, pc⟩, p1, p2, tB, bB, he, rfl⟩
  refine' dss_ret (de_eq (de_andB (de_callS pl (d__law_is_ratio T dg) (by decide) rfl (da_cons (dv 0 rfl rfl) da_nil) ⟨p.1, p.2, p1.mono (by decide), p2.mono (by decide), rfl, rfl⟩) fun h => (de_one (de_callS pl (d__law_is T dg) (by decide) rfl (da_cons (de_mul (de_ix (dv 0 rfl rfl) de_int rfl) (dv 2 rfl rfl) rfl (by exact p1.mulW bB (by decide))) (da_cons (de_mul (dv 1 rfl rfl) (de_ix (dv 0 rfl rfl) de_int rfl) rfl (by exact tB.mulW p2 (by decide))) da_nil)) (by exact is_int_iff ((p1.mul bB).mono (by decide)) ((tB.mul p2).mono (by decide)))))) ?v) (.inl rfl)
  case v =>
    have e : isRat p.1 p.2 = true := decide_eq_true ⟨by omega, pc⟩
    rw [e, decide_eq_true he]; rfl
theorem d__law_equals (T : Top K mg) (dg : base.NoDigits) : Def P w K mg base "_law_equals" 3 ["reply", "top", "bottom"] [] R__law_equals := by
  obtain ⟨f, fd, hm, F⟩ := T.F__law_equals
  exact ⟨f, fd, [], [], fng_data F sc__law_equals (by walk_at "len") dg (fun cdv A outer s H E pl => b__law_equals T dg pl), hm, F.kp, F.bindsN fun _ _ _ _ _ _ us hl => match us, hl with | [_, _, _], _ => rfl, .nil, fun _ => by simp [IsAll]⟩
/-! lists and tuples of fractions -/
def asP (form : Int) (ps : List (Int × Int)) : Dt := .sq (form == 0 || form == 3) (ps.map (frK (form == 0 || form == 1)))
theorem asP_ok {form : Int} (h0 : 0 ≤ form) (h1 : form < 4) : form = 0 ∨ form = 1 ∨ form = 2 ∨ form = 3 := by omega
def R__law_as_passed (ds : List Dt) (r : Ret) : Prop := ∃ (t : Bool) (ps : List (Int × Int)) (form : Int), ds = [.sq t (ps.map fr), .int form] ∧ 0 ≤ form ∧ form < 4 ∧ ps.length ≤ 1000 ∧ r = .sh (asP form ps)
theorem b__law_as_passed (T : Top K mg) (dg : base.NoDigits) (pl : Plc (BX P w K mg base N__law_as_passed "_law_as_passed" s__law_as_passed f cdv A outer s H E) 0) : ∀ ds r, R__law_as_passed ds r → DSs (BX P w K mg base N__law_as_passed "_law_as_passed" s__law_as_passed f cdv A outer s H E) (startD N__law_as_passed ds) (defBody s__law_as_passed) (fin r) := by
  rintro _ _ ⟨t, ps, form, rfl, h0, h1, hl, rfl⟩
  refine' dss_ifG (dt_eqI (dv 1 rfl rfl) de_int) (fun h => ?_) (fun h => ?_)
  · have e : form = 0 := of_decide_eq_true h
    subst e
    exact dss_ret (de_tuple T.m_tuple (dv 0 rfl rfl)) (.inl rfl)
  refine' dss_ifG (dt_eqI (dv 1 rfl rfl) de_int) (fun h' => ?_) (fun h' => ?_)
  · have e : form = 1 := of_decide_eq_true h'
    subst e
    exact dss_ret (de_list T.m_list (dv 0 rfl rfl)) (.inl rfl)
  refine' dss_cons (ds_lc 2 3 pl rfl rfl (sw_true rfl rfl rfl (by decide +kernel)) (di_seq (dv 0 rfl rfl)) (blkOk_by (N := N__law_as_passed) (sc := defScope s__law_as_passed) (by decide +kernel)) (fun _ _ _ _ _ => pg_name pl.nd rfl (Or.inl rfl)) ?hz (ps.map (frK false)) (by simp) ?hs ?_)
  case hz => rw [List.length_map]; show _ ≤ 16777216; omega
  case hs =>
    intro n d r h1 h2 s1 H1 C cl fp
    obtain ⟨p, hp, rfl⟩ := frs_get h1
    rw [List.getElem?_map, hp] at h2
    simp only [Option.map_some, Option.some.injEq] at h2
    subst h2
    exact de_lst (da_cons (de_ix (dv 3 rfl rfl) de_int rfl) (da_cons (de_ix (dv 3 rfl rfl) de_int rfl) da_nil))
  refine' dss_ifG (dt_eqI (dv 1 rfl rfl) de_int) (fun h2 => ?_) (fun h2 => ?_)
  · have e : form = 2 := of_decide_eq_true h2
    subst e
    exact dss_retO 2 rfl rfl (.inr rfl)
  have e : form = 3 := by
    have a := of_decide_eq_false h
    have b := of_decide_eq_false h'
    have c := of_decide_eq_false h2
    omega
  subst e
  refine dss_frz 2 rfl ?_
  exact dss_ret (de_tuple T.m_tuple (dv 2 rfl rfl)) (.inl rfl)
theorem d__law_as_passed (T : Top K mg) (dg : base.NoDigits) : Def P w K mg base "_law_as_passed" 1 ["values", "form"] [] R__law_as_passed := by
  obtain ⟨f, fd, hm, F⟩ := T.F__law_as_passed
  exact ⟨f, fd, [], [], fng_data F sc__law_as_passed (by walk_at "len") dg (fun cdv A outer s H E pl => b__law_as_passed T dg pl), hm, F.kp, F.bindsN fun _ _ _ _ _ _ us hl => match us, hl with | [_, _], _ => rfl, .nil, fun _ => by simp [IsAll]⟩
end K01

set_option Elab.async false
set_option linter.all false
set_option maxRecDepth 100000
set_option maxHeartbeats 4000000
namespace K01
open PySem L2 Dat
local macro_rules | `(tactic| walk_at "c") => `(tactic| first | exact trivial | (show _ ≤ 16777216; simp; done))
local macro_rules | `(tactic| walk_at "len") => `(tactic| (intro ds r h; (repeat obtain ⟨_, h⟩ := h); subst_vars; first | rfl | (simp; done)))
variable {P : Program} {w : World} {K : PySem.W.Frag} {mg : Str → Option Value} {base : Heap} {f : Addr} {cdv : Value} {A : Around} {outer : List PySem.Env} {s : Shared} {H : Hp} {E : XK}
theorem div_B {n : Nat} {a b : Int} (h : B n a) : B n (a / b) := h.le (Int.natAbs_ediv_le_natAbs a b)
theorem fr_part {p : Int × Int} (h : Fr p) : Fr (p.1 % p.2, p.2) := by
  obtain ⟨p0, pc⟩ := h
  refine ⟨p0, ?_⟩
  show Nat.gcd (p.1 % p.2).natAbs p.2.natAbs = 1
  have h1 : ((Nat.gcd (p.1 % p.2).natAbs p.2.natAbs : Nat) : Int) ∣ p.1 % p.2 := Int.ofNat_dvd_left.mpr (Nat.gcd_dvd_left _ _)
  have h2 : ((Nat.gcd (p.1 % p.2).natAbs p.2.natAbs : Nat) : Int) ∣ p.2 := Int.ofNat_dvd_left.mpr (Nat.gcd_dvd_right _ _)
  have h3 : ((Nat.gcd (p.1 % p.2).natAbs p.2.natAbs : Nat) : Int) ∣ p.1 := by
    have h5 := Int.dvd_add (Int.dvd_trans h2 ⟨p.1 / p.2, rfl⟩) h1
    rwa [Int.mul_ediv_add_emod] at h5
  have h4 := Nat.dvd_gcd (Int.ofNat_dvd_left.mp h3) (Int.ofNat_dvd_left.mp h2)
  rw [pc] at h4
  exact Nat.dvd_one.mp h4
theorem mod_B {n : Nat} {a b : Int} (h : B n b) (hb : 0 < b) : B n (a % b) := by
  have h1 := Int.emod_nonneg a (Int.ne_of_gt hb)
  have h2 := Int.emod_lt_of_pos a hb
  exact h.le (by omega)
def R__law_parts_right (ds : List Dt) (r : Ret) : Prop := ∃ (p : Int × Int) (a : Int), ds = [fr p, .int a] ∧ Fr p ∧ okF 134 p ∧ r = .sh (.bl true)
theorem b__law_parts_right (T : Top K mg) (dg : base.NoDigits) (pl : Plc (BX P w K mg base N__law_parts_right "_law_parts_right" s__law_parts_right f cdv A outer s H E) 3) : ∀ ds r, R__law_parts_right ds r → DSs (BX P w K mg base N__law_parts_right "_law_parts_right" s__law_parts_right f cdv A outer s H E) (startD N__law_parts_right ds) (defBody s__law_parts_right) (fin r) := by
  rintro _ _ ⟨p, a, rfl, hf, ⟨p1, p2, pp⟩, rfl⟩
  have l1 := Int.ediv_mul_le p.1 (Int.ne_of_gt pp)
  have l2 := Int.lt_ediv_add_one_mul_self p.1 pp
  have h1 := Int.ediv_mul_le (-p.1) (Int.ne_of_gt pp)
  have h2 := Int.lt_ediv_add_one_mul_self (-p.1) pp
  have lB : B 134 (p.1 / p.2) := div_B p1
  have hB : B 134 (-(-p.1 / p.2)) := (div_B p1.neg).neg
  have ok8 : okF 8000 p := ⟨p1.mono (by decide), p2.mono (by decide), pp⟩
  refine' dss_set 2 pl rfl (de_ix (dv 0 rfl rfl) de_int rfl) ?_
  refine' dss_set 3 pl rfl (de_ix (dv 0 rfl rfl) de_int rfl) ?_
  refine' dss_set 4 pl rfl (dv 0 rfl rfl) ?_
  refine' dss_ifJ (fun δ => ∃ k, δ = [.sh (fr p), .sh (.int a), .sh (.int p.1), .sh (.int p.2), .sh (frK k p), .no, .no]) (dt_eqI (dv 1 rfl rfl) de_int) (fun h => ?_) (fun h => ?_) (fun δ' hi => ?_)
  · refine' dss_set 4 pl rfl (de_lst (da_cons (dv 2 rfl rfl) (da_cons (dv 3 rfl rfl) da_nil))) (dss_nil ⟨false, rfl⟩)
  · exact ⟨true, rfl⟩
  obtain ⟨k, rfl⟩ := hi
  refine' dss_set 5 pl rfl (de_callS pl (d_floor_of T dg) (by decide) rfl (da_cons (dv 4 rfl rfl) da_nil) ⟨k, p, rfl, ok8, rfl⟩) ?_
  refine' dss_set 6 pl rfl (de_callS pl (d_ceiling_of T dg) (by decide) rfl (da_cons (dv 4 rfl rfl) da_nil) ⟨k, p, rfl, ok8, rfl⟩) ?_
  refine' dss_ifF (dt_eq (dt_w (dw_or (dt_not (dt_val (de_callS pl (d__law_whole T dg) (by decide) rfl (da_cons (dv 5 rfl rfl) da_nil) ⟨_, rfl, rfl, rfl⟩))) fun h => (dw_or1 (dt_not (dt_val (de_callS pl (d__law_whole T dg) (by decide) rfl (da_cons (dv 6 rfl rfl) da_nil) ⟨_, rfl, rfl, rfl⟩)))))) rfl) (dss_nil ?_)
  refine' dss_ifF (dt_eq (dt_w (dw_or (dt_gt (de_mul (dv 5 rfl rfl) (dv 3 rfl rfl) rfl (by exact lB.mulW p2 (by decide))) (dv 2 rfl rfl)) fun h => (dw_or1 (dt_le (de_mul (de_add (dv 5 rfl rfl) de_int rfl (by walk_at "c")) (dv 3 rfl rfl) rfl (by exact (lB.add (j := 1) (by decide)).mulW p2 (by decide))) (dv 2 rfl rfl))))) ?e1) (dss_nil ?_)
  case e1 =>
    rw [decide_eq_false (by omega), decide_eq_false (by omega)]; rfl
  refine' dss_ifF (dt_eq (dt_w (dw_or (dt_lt (de_mul (dv 6 rfl rfl) (dv 3 rfl rfl) rfl (by exact hB.mulW p2 (by decide))) (dv 2 rfl rfl)) fun h => (dw_or1 (dt_ge (de_mul (de_sub (dv 6 rfl rfl) de_int) (dv 3 rfl rfl) rfl (by exact (hB.sub (j := 1) (by decide)).mulW p2 (by decide))) (dv 2 rfl rfl))))) ?e2) (dss_nil ?_)
  case e2 =>
    have e3 : -(-p.1 / p.2) * p.2 = -(-p.1 / p.2 * p.2) := Int.neg_mul _ _
    have e4 : (-(-p.1 / p.2) - 1) * p.2 = -((-p.1 / p.2 + 1) * p.2) := by rw [← Int.neg_mul]; congr 1; omega
    rw [e3, e4, decide_eq_false (by omega), decide_eq_false (by omega)]; rfl
  have me : p.1 - p.1 / p.2 * p.2 = p.1 % p.2 := by
    have := Int.mul_ediv_add_emod p.1 p.2
    rw [Int.mul_comm] at this; omega
  refine' dss_ifF (dt_eq (dt_not (dt_val (de_callS pl (d__law_equals T dg) (by decide) rfl (da_cons (de_callS pl (d_part_of T dg) (by decide) rfl (da_cons (dv 4 rfl rfl) da_nil) (by exact ⟨k, p, rfl, ok8, rfl⟩)) (da_cons (de_sub (dv 2 rfl rfl) (de_mul (dv 5 rfl rfl) (dv 3 rfl rfl) rfl (by exact lB.mulW p2 (by decide)))) (da_cons (dv 3 rfl rfl) da_nil))) (by
    refine ⟨_, _, _, rfl, fr_part hf, (mod_B p2 pp).mono (by decide), p2.mono (by decide), ?_, p2.mono (by decide), ?_, rfl⟩
    · rw [me]; exact (mod_B p2 pp).mono (by decide)
    · rw [me])))) rfl) (dss_nil ?_)
  have same : ∀ x : Int, B 134 x → R__law_is [.int x, .int x] (.sh (.bl true)) := fun x hx => is_same (sh_int (hx.mono (by decide)))
  refine' dss_ret (de_eq (de_andB (de_callS pl (d__law_is T dg) (by decide) rfl (da_cons (de_ix (dv 4 rfl rfl) de_int rfl) (da_cons (dv 2 rfl rfl) da_nil)) (same _ p1)) fun h => (de_andB (de_callS pl (d__law_is T dg) (by decide) rfl (da_cons (de_ix (dv 4 rfl rfl) de_int rfl) (da_cons (dv 3 rfl rfl) da_nil)) (by exact same _ p2)) fun h => (de_one (de_eqI (de_len T.m_len (dv 4 rfl rfl) rfl) de_int)))) rfl) (.inl rfl)
theorem d__law_parts_right (T : Top K mg) (dg : base.NoDigits) : Def P w K mg base "_law_parts_right" 4 ["one", "as_list"] [] R__law_parts_right := by
  obtain ⟨f, fd, hm, F⟩ := T.F__law_parts_right
  exact ⟨f, fd, [], [], fng_data F sc__law_parts_right (by walk_at "len") dg (fun cdv A outer s H E pl => b__law_parts_right T dg pl), hm, F.kp, F.bindsN fun _ _ _ _ _ _ us hl => match us, hl with | [_, _], _ => rfl, .nil, fun _ => by simp [IsAll]⟩
def R__law_order_right (ds : List Dt) (r : Ret) : Prop := ∃ (k l : Bool) (p q : Int × Int), ds = [frK k p, frK l q] ∧ Fr p ∧ Fr q ∧ okF 134 p ∧ okF 134 q ∧ r = .sh (.bl true)
/-- an if's answer has the value wanted -/
structure Same (x y : Int × Int) : Prop where
  fr : Fr x
  ok : okF 134 x
  eq : x.1 * y.2 = y.1 * x.2
theorem b__law_order_right (T : Top K mg) (dg : base.NoDigits) (pl : Plc (BX P w K mg base N__law_order_right "_law_order_right" s__law_order_right f cdv A outer s H E) 3) : ∀ ds r, R__law_order_right ds r → DSs (BX P w K mg base N__law_order_right "_law_order_right" s__law_order_right f cdv A outer s H E) (startD N__law_order_right ds) (defBody s__law_order_right) (fin r) := by
  rintro _ _ ⟨k, l, p, q, rfl, fp, fq, ⟨p1, p2, pp⟩, ⟨q1, q2, qp⟩, rfl⟩
  have okp : okF 100000 p := ⟨p1.mono (by decide), p2.mono (by decide), pp⟩
  have okq : okF 100000 q := ⟨q1.mono (by decide), q2.mono (by decide), qp⟩
  refine' dss_set 2 pl rfl (dv 0 rfl rfl) ?_
  refine' dss_set 3 pl rfl (dv 1 rfl rfl) ?_
  refine' dss_ifJ (fun δ => ∃ (kl km : Bool) (le mo : Int × Int), okF 134 le ∧ okF 134 mo ∧ Same (if cmpZ p q ≤ 0 then p else q) le ∧ Same (if cmpZ q p ≤ 0 then q else p) le ∧ Same (if 0 ≤ cmpZ p q then p else q) mo ∧ Same (if 0 ≤ cmpZ q p then q else p) mo ∧ δ = [.sh (frK k p), .sh (frK l q), .sh (frK kl le), .sh (frK km mo), .no])
    (dt_gt (de_mul (de_ix (dv 0 rfl rfl) de_int rfl) (de_ix (dv 1 rfl rfl) de_int rfl) rfl (p1.mulW q2 (by decide))) (de_mul (de_ix (dv 1 rfl rfl) de_int rfl) (de_ix (dv 0 rfl rfl) de_int rfl) rfl (q1.mulW p2 (by decide)))) (fun h => ?_) (fun h => ?_) (fun δ' hi => ?_)
  · have hgt : q.1 * p.2 < p.1 * q.2 := of_decide_eq_true h
    have c1 : cmpZ p q = 1 := by unfold cmpZ; rw [if_neg (by omega), if_pos (by omega)]
    have c2 : cmpZ q p = -1 := by unfold cmpZ; rw [if_pos (by omega)]
    refine' dss_set 2 pl rfl (dv 1 rfl rfl) ?_
    refine' dss_set 3 pl rfl (dv 0 rfl rfl) (dss_nil ⟨l, k, q, p, ⟨q1, q2, qp⟩, ⟨p1, p2, pp⟩, ?_, ?_, ?_, ?_, rfl⟩)
    · rw [c1]; exact ⟨fq, ⟨q1, q2, qp⟩, rfl⟩
    · rw [c2]; exact ⟨fq, ⟨q1, q2, qp⟩, rfl⟩
    · rw [c1]; exact ⟨fp, ⟨p1, p2, pp⟩, rfl⟩
    · rw [c2]; exact ⟨fp, ⟨p1, p2, pp⟩, rfl⟩
  · have hle : ¬ q.1 * p.2 < p.1 * q.2 := of_decide_eq_false h
    refine ⟨k, l, p, q, ⟨p1, p2, pp⟩, ⟨q1, q2, qp⟩, ?_, ?_, ?_, ?_, rfl⟩
    · have : cmpZ p q ≤ 0 := by unfold cmpZ; split <;> (try split) <;> omega
      rw [if_pos this]; exact ⟨fp, ⟨p1, p2, pp⟩, rfl⟩
    · by_cases c : cmpZ q p ≤ 0
      · rw [if_pos c]
        refine ⟨fq, ⟨q1, q2, qp⟩, ?_⟩
        unfold cmpZ at c
        split at c <;> (try split at c) <;> omega
      · rw [if_neg c]; exact ⟨fp, ⟨p1, p2, pp⟩, rfl⟩
    · by_cases c : 0 ≤ cmpZ p q
      · rw [if_pos c]
        refine ⟨fp, ⟨p1, p2, pp⟩, ?_⟩
        unfold cmpZ at c
        split at c <;> (try split at c) <;> omega
      · rw [if_neg c]; exact ⟨fq, ⟨q1, q2, qp⟩, rfl⟩
    · have : 0 ≤ cmpZ q p := by unfold cmpZ; split <;> (try split) <;> omega
      rw [if_pos this]; exact ⟨fq, ⟨q1, q2, qp⟩, rfl⟩
  obtain ⟨kl, km, le, mo, okl, okm, s1, s2, s3, s4, rfl⟩ := hi
  have eqs : ∀ x y : Int × Int, Same x y → okF 134 y → R__law_equals [fr x, .int y.1, .int y.2] (.sh (.bl true)) := fun x y hs hy =>
    ⟨x, y.1, y.2, rfl, hs.fr, hs.ok.1.mono (by decide), hs.ok.2.1.mono (by decide), hy.1.mono (by decide), hy.2.1.mono (by decide), hs.eq, rfl⟩
  refine' dss_for 4 pl rfl (di_seq (de_lst (da_cons (de_callS pl (d_lesser T dg) (by decide) rfl (da_cons (dv 0 rfl rfl) (da_cons (dv 1 rfl rfl) da_nil)) ⟨_, _, _, _, rfl, okp, okq, rfl⟩) (da_cons (de_callS pl (d_lesser T dg) (by decide) rfl (da_cons (dv 1 rfl rfl) (da_cons (dv 0 rfl rfl) da_nil)) ⟨_, _, _, _, rfl, okq, okp, rfl⟩) da_nil))))
    (fun n δ => ∃ t, δ = [.sh (frK k p), .sh (frK l q), .sh (frK kl le), .sh (frK km mo), t]) ⟨.no, rfl⟩ (fun n d δ' hd hi => ?hs) (fun δ' hi => ?hd)
  case hs =>
    obtain ⟨t, rfl⟩ := hi
    have : ∃ x, Same x le ∧ d = fr x := by
      match n, hd with
      | 0, hd => cases hd; exact ⟨_, s1, rfl⟩
      | 1, hd => cases hd; exact ⟨_, s2, rfl⟩
      | n + 2, hd => simp at hd
    obtain ⟨x, hx, rfl⟩ := this
    refine' dss_ifF (dt_eq (dt_not (dt_val (de_callS pl (d__law_equals T dg) (by decide) rfl (da_cons (dv 4 rfl rfl) (da_cons (de_ix (dv 2 rfl rfl) de_int rfl) (da_cons (de_ix (dv 2 rfl rfl) de_int rfl) da_nil))) (eqs x le hx okl)))) rfl) (dss_nil ?_)
    exact dss_nil ⟨.sh (fr x), rfl⟩
  obtain ⟨t, rfl⟩ := hi
  refine' dss_for 4 pl rfl (di_seq (de_lst (da_cons (de_callS pl (d_greater T dg) (by decide) rfl (da_cons (dv 0 rfl rfl) (da_cons (dv 1 rfl rfl) da_nil)) ⟨_, _, _, _, rfl, okp, okq, rfl⟩) (da_cons (de_callS pl (d_greater T dg) (by decide) rfl (da_cons (dv 1 rfl rfl) (da_cons (dv 0 rfl rfl) da_nil)) ⟨_, _, _, _, rfl, okq, okp, rfl⟩) da_nil))))
    (fun n δ => ∃ t, δ = [.sh (frK k p), .sh (frK l q), .sh (frK kl le), .sh (frK km mo), t]) ⟨t, rfl⟩ (fun n d δ' hd hi => ?hs2) (fun δ' hi => ?hd2)
  case hs2 =>
    obtain ⟨t, rfl⟩ := hi
    have : ∃ x, Same x mo ∧ d = fr x := by
      match n, hd with
      | 0, hd => cases hd; exact ⟨_, s3, rfl⟩
      | 1, hd => cases hd; exact ⟨_, s4, rfl⟩
      | n + 2, hd => simp at hd
    obtain ⟨x, hx, rfl⟩ := this
    refine' dss_ifF (dt_eq (dt_not (dt_val (de_callS pl (d__law_equals T dg) (by decide) rfl (da_cons (dv 4 rfl rfl) (da_cons (de_ix (dv 3 rfl rfl) de_int rfl) (da_cons (de_ix (dv 3 rfl rfl) de_int rfl) da_nil))) (eqs x mo hx okm)))) rfl) (dss_nil ?_)
    exact dss_nil ⟨.sh (fr x), rfl⟩
  obtain ⟨t, rfl⟩ := hi
  exact dss_ret de_bl (.inl rfl)
theorem d__law_order_right (T : Top K mg) (dg : base.NoDigits) : Def P w K mg base "_law_order_right" 4 ["one", "two"] [] R__law_order_right := by
  obtain ⟨f, fd, hm, F⟩ := T.F__law_order_right
  exact ⟨f, fd, [], [], fng_data F sc__law_order_right (by walk_at "len") dg (fun cdv A outer s H E pl => b__law_order_right T dg pl), hm, F.kp, F.bindsN fun _ _ _ _ _ _ us hl => match us, hl with | [_, _], _ => rfl, .nil, fun _ => by simp [IsAll]⟩
theorem okDs_map {ps : List (Int × Int)} (k : Bool) (h : ∀ p, p ∈ ps → okF 1900 p) : okDs (ps.map (frK k)) := by
  induction ps with
  | nil => trivial
  | cons p ps ih =>
    obtain ⟨h1, h2, _⟩ := h p List.mem_cons_self
    simp only [List.map_cons, okDs, frK, okD]
    exact ⟨⟨h1, h2, trivial⟩, ih fun q hq => h q (List.mem_cons_of_mem _ hq)⟩
theorem deeps_map (ps : List (Int × Int)) (k : Bool) : deeps (ps.map (frK k)) ≤ 1 := by
  induction ps with
  | nil => simp [deeps]
  | cons p ps ih => simp only [List.map_cons, deeps, frK, deep] at *; omega
theorem wts_map (ps : List (Int × Int)) (k : Bool) : wts (ps.map (frK k)) = 3869 * ps.length := by
  induction ps with
  | nil => rfl
  | cons p ps ih => simp only [List.map_cons, wts, frK, wt, List.length_cons] at *; omega
theorem shP {form : Int} {ps : List (Int × Int)} (hs : small ps) (hl : ps.length ≤ 1000) : shC (asP form ps) := by
  refine sh_ok ?_ ?_ ?_
  · simp only [asP, okD]
    exact okDs_map _ fun p hp => ⟨(hs p hp).1.mono (by decide), (hs p hp).2.1.mono (by decide), (hs p hp).2.2⟩
  · simp only [asP, deep]
    have := deeps_map ps (form == 0 || form == 1)
    omega
  · simp only [asP, wt, wts_map]; omega
theorem asP_sq (form : Int) (ps : List (Int × Int)) : asP form ps = .sq (form == 0 || form == 3) (ps.map (frK (form == 0 || form == 1))) := rfl
def R__law_bottoms_right (ds : List Dt) (r : Ret) : Prop := ∃ (t : Bool) (ps : List (Int × Int)) (form m : Int), ds = [.sq t (ps.map fr), .int form, .int m] ∧ small ps ∧ ps.length ≤ 20 ∧ 0 ≤ form ∧ form < 4 ∧ 1 ≤ m ∧ m ≤ 9 ∧ r = .sh (.bl true)
theorem b__law_bottoms_right (T : Top K mg) (dg : base.NoDigits) (pl : Plc (BX P w K mg base N__law_bottoms_right "_law_bottoms_right" s__law_bottoms_right f cdv A outer s H E) 2) : ∀ ds r, R__law_bottoms_right ds r → DSs (BX P w K mg base N__law_bottoms_right "_law_bottoms_right" s__law_bottoms_right f cdv A outer s H E) (startD N__law_bottoms_right ds) (defBody s__law_bottoms_right) (fin r) := by
  rintro _ _ ⟨t, ps, form, m, rfl, hs, hl, f0, f1, m0, m1, rfl⟩
  obtain ⟨b0, bB'⟩ := lcm_bd hs ps.length (Nat.le_refl _)
  rw [List.take_length] at b0 bB'
  have bB : B 2700 (lcmF ps) := bB'.mono (by omega)
  have mB : B 10 m := .bd (m := 9) (by omega) m1 (by decide)
  have dvd := (lcm_dvd fun p hp => (hs p hp).2.2).2
  refine' dss_set 3 pl rfl (de_callS pl (d__law_bottom T dg) (by decide) rfl (da_cons (dv 0 rfl rfl) da_nil) ⟨t, true, ps, rfl, hs, hl, rfl⟩) ?_
  refine' dss_set 4 pl rfl (de_callS pl (d__law_as_passed T dg) (by decide) rfl (da_cons (dv 0 rfl rfl) (da_cons (dv 1 rfl rfl) da_nil)) ⟨t, ps, form, rfl, f0, f1, by omega, rfl⟩) ?_
  refine' dss_set 5 pl rfl (de_callS pl (d_common_bottom T dg) (by decide) rfl (da_cons (dv 4 rfl rfl) da_nil) ⟨_, _, ps, rfl, hs, hl, rfl⟩) ?_
  refine' dss_ifF (dt_eq (dt_w (dw_or (dt_not (dt_val (de_callS pl (d__law_whole T dg) (by decide) rfl (da_cons (dv 5 rfl rfl) da_nil) ⟨_, rfl, rfl, rfl⟩))) fun h => (dw_or1 (dt_not (dt_val (de_callS pl (d__law_is T dg) (by decide) rfl (da_cons (dv 5 rfl rfl) (da_cons (dv 3 rfl rfl) da_nil)) (by exact is_same (sh_int (bB.mono (by decide)))))))))) rfl) (dss_nil ?_)
  refine' dss_set 6 pl rfl (de_callS pl (d_lifted T dg) (by decide) rfl (da_cons (dv 4 rfl rfl) (da_cons (de_mul (dv 3 rfl rfl) (dv 2 rfl rfl) rfl (bB.mulW mB (by decide))) da_nil)) ⟨_, _, ps, lcmF ps * m, rfl, hs, hl, (bB.mul mB).mono (by decide), Int.mul_nonneg (Int.le_of_lt b0) (by omega), rfl⟩) ?_
  refine' dss_ifF (dt_eq (dt_w (dw_or (dt_not (dt_val (de_isTup T.m_isinstance T.m_tuple (dv 6 rfl rfl) rfl))) fun h => (dw_or1 (dt_neI (de_len T.m_len (dv 6 rfl rfl) rfl) (de_len T.m_len (dv 0 rfl rfl) rfl))))) ?e0) (dss_nil ?_)
  case e0 => simp [isTup]
  refine' dss_rng 7 pl rfl T.m_range (de_len T.m_len (dv 0 rfl rfl) rfl) (by omega) (by rw [List.length_map]; omega) (fun n δ => ∃ t7, δ = [.sh (.sq t (ps.map fr)), .sh (.int form), .sh (.int m), .sh (.int (lcmF ps)), .sh (asP form ps), .sh (.int (lcmF ps)), .sh (.sq true (ps.map fun p => .int (p.1 * (lcmF ps * m / p.2)))), t7]) ⟨.no, rfl⟩ (fun n δ' hn hi => ?hs) (fun δ' hi => ?hd)
  case hs =>
    obtain ⟨t7, rfl⟩ := hi
    rw [List.length_map] at hn
    have hn' : n < ps.length := by simpa using hn
    obtain ⟨p1, p2, pp⟩ := hs ps[n] (List.getElem_mem hn')
    obtain ⟨c, hc⟩ := dvd ps[n] (List.getElem_mem hn')
    have hx : atI (ps.map fr) (n : Int) = some (fr ps[n]) := atI_get (by omega) (by simp [hn'])
    have hw : atI (ps.map fun p => Dt.int (p.1 * (lcmF ps * m / p.2))) (n : Int) = some (.int (ps[n].1 * (lcmF ps * m / ps[n].2))) := atI_get (by omega) (by simp [hn'])
    have eB : B 2710 (lcmF ps * m / ps[n].2) := div_B (bB.mul mB)
    have e : ps[n].1 * (lcmF ps * m / ps[n].2) * ps[n].2 = ps[n].1 * lcmF ps * m := by
      have e1 : lcmF ps * m / ps[n].2 = c * m := by
        conv => lhs; rw [hc]
        rw [Int.mul_assoc, Int.mul_ediv_cancel_left _ (Int.ne_of_gt pp)]
      rw [e1]
      conv => rhs; rw [hc]
      simp only [Int.mul_assoc, Int.mul_left_comm, Int.mul_comm]
    have ok : R__law_is [.int (ps[n].1 * (lcmF ps * m / ps[n].2) * ps[n].2), .int (ps[n].1 * lcmF ps * m)] (.sh (.bl true)) := by
      rw [e]; exact is_same (sh_int (((p1.mul bB).mul mB).mono (by decide)))
    refine' dss_ifF (dt_eq (dt_w (dw_or (dt_not (dt_val (de_callS pl (d__law_whole T dg) (by decide) rfl (da_cons (de_ix (dv 6 rfl rfl) (dv 7 rfl rfl) hw) da_nil) ⟨_, rfl, rfl, rfl⟩))) fun h => (dw_or1 (dt_not (dt_val (de_callS pl (d__law_is T dg) (by decide) rfl (da_cons (de_mul (de_ix (dv 6 rfl rfl) (dv 7 rfl rfl) (by exact hw)) (de_ix (de_ix (dv 0 rfl rfl) (dv 7 rfl rfl) (by exact hx)) de_int (by rfl)) (by rfl) (by exact (p1.mul eB).mulW p2 (by decide))) (da_cons (de_mul (de_mul (de_ix (de_ix (dv 0 rfl rfl) (dv 7 rfl rfl) (by exact hx)) de_int (by rfl)) (dv 3 rfl rfl) (by rfl) (by exact p1.mulW bB (by decide))) (dv 2 rfl rfl) (by rfl) (by exact (p1.mul bB).mulW mB (by decide))) da_nil)) (by exact ok))))))) rfl) (dss_nil ?_)
    exact dss_nil ⟨_, rfl⟩
  case hd =>
    obtain ⟨t7, rfl⟩ := hi
    refine' dss_ret (de_callS pl (d__law_is T dg) (by decide) rfl (da_cons (dv 4 rfl rfl) (da_cons (de_callS pl (d__law_as_passed T dg) (by decide) rfl (da_cons (dv 0 rfl rfl) (da_cons (dv 1 rfl rfl) da_nil)) ⟨t, ps, form, rfl, f0, f1, by omega, rfl⟩) da_nil)) (is_same (shP hs (by omega)))) (.inl rfl)
theorem d__law_bottoms_right (T : Top K mg) (dg : base.NoDigits) : Def P w K mg base "_law_bottoms_right" 3 ["ones", "form", "factor"] [] R__law_bottoms_right := by
  obtain ⟨f, fd, hm, F⟩ := T.F__law_bottoms_right
  exact ⟨f, fd, [], [], fng_data F sc__law_bottoms_right (by walk_at "len") dg (fun cdv A outer s H E pl => b__law_bottoms_right T dg pl), hm, F.kp, F.bindsN fun _ _ _ _ _ _ us hl => match us, hl with | [_, _, _], _ => rfl, .nil, fun _ => by simp [IsAll]⟩
end K01

set_option Elab.async false
set_option linter.all false
set_option maxRecDepth 100000
set_option maxHeartbeats 4000000
namespace K01
open PySem L2 Dat
local macro_rules | `(tactic| walk_at "c") => `(tactic| first | exact trivial | (show _ ≤ 16777216; simp; done))
local macro_rules | `(tactic| walk_at "len") => `(tactic| (intro ds r h; (repeat obtain ⟨_, h⟩ := h); subst_vars; first | rfl | (simp; done)))
variable {P : Program} {w : World} {K : PySem.W.Frag} {mg : Str → Option Value} {base : Heap} {f : Addr} {cdv : Value} {A : Around} {outer : List PySem.Env} {s : Shared} {H : Hp} {E : XK}
/-! ### wheels -/
def msz : List Int := [4, 60, 100000]
def marksZ (row : List Int) : Int := if row.getD 0 0 < 3 then 1 + row.getD 1 0 else 1 + row.getD 2 0
theorem sz_ok {l : List Int} (h : ∀ s, s ∈ l → 0 < s ∧ s.natAbs < 2 ^ 40) : ∀ s, s ∈ l → 0 < s ∧ B 8990 s := fun s hs => ⟨(h s hs).1, B.mono (n := 40) (h s hs).2 (by decide)⟩
theorem msz_ok : ∀ s, s ∈ msz → 0 < s ∧ B 8990 s := sz_ok (by decide)
theorem marksZ_ok {row : List Int} (h : Dg msz row) : 1 ≤ marksZ row ∧ marksZ row ≤ 100000 := by
  obtain ⟨r0, _, rfl, a0, b0, r1, _, rfl, a1, b1, r2, _, rfl, a2, b2, rfl⟩ := h
  show 1 ≤ (if r0 < 3 then 1 + r1 else 1 + r2) ∧ (if r0 < 3 then 1 + r1 else 1 + r2) ≤ 100000
  split <;> omega
def R__law_marks (ds : List Dt) (r : Ret) : Prop := ∃ c : Int, ds = [.int c] ∧ r = .sh (.int (marksZ (digZ c msz)))
theorem b__law_marks (T : Top K mg) (dg : base.NoDigits) (pl : Plc (BX P w K mg base N__law_marks "_law_marks" s__law_marks f cdv A outer s H E) 1) : ∀ ds r, R__law_marks ds r → DSs (BX P w K mg base N__law_marks "_law_marks" s__law_marks f cdv A outer s H E) (startD N__law_marks ds) (defBody s__law_marks) (fin r) := by
  rintro _ _ ⟨c, rfl, rfl⟩
  refine' dss_set 1 pl rfl (de_call pl (d__law_digits T dg) (by decide) rfl (da_cons (dv 0 rfl rfl) (da_cons (de_lst (da_cons de_int (da_cons de_int (da_cons de_int da_nil)))) da_nil)) ⟨c, false, msz, msz_ok, by decide, rfl, rfl⟩) ?_
  have hdg := dg_Z (ss := msz) (c := c) fun s hs => (msz_ok s hs).1
  generalize digZ c msz = row at *
  obtain ⟨r0, _, rfl, a0, b0, r1, _, rfl, a1, b1, r2, _, rfl, a2, b2, rfl⟩ := hdg
  have e : marksZ [r0, r1, r2] = if r0 < 3 then 1 + r1 else 1 + r2 := rfl
  rw [e]
  refine' dss_ifG (dt_lt (de_ix (dv 1 rfl rfl) de_int rfl) de_int) (fun h => ?_) (fun h => ?_)
  · rw [if_pos (of_decide_eq_true h)]
    exact dss_ret (de_add de_int (de_ix (dv 1 rfl rfl) de_int rfl) rfl (by walk_at "c")) (.inl rfl)
  rw [if_neg (of_decide_eq_false h)]
  exact dss_ret (de_add de_int (de_ix (dv 1 rfl rfl) de_int rfl) rfl (by walk_at "c")) (.inl rfl)
theorem d__law_marks (T : Top K mg) (dg : base.NoDigits) : Def P w K mg base "_law_marks" 2 ["cell"] [] R__law_marks := by
  obtain ⟨f, fd, hm, F⟩ := T.F__law_marks
  exact ⟨f, fd, [], [], fng_data F sc__law_marks (by walk_at "len") dg (fun cdv A outer s H E pl => b__law_marks T dg pl), hm, F.kp, F.bindsN fun _ _ _ _ _ _ us hl => match us, hl with | [_], _ => rfl, .nil, fun _ => by simp [IsAll]⟩
def R__law_fraction_of (ds : List Dt) (r : Ret) : Prop := ∃ (t : Bool) (row : List Int), ds = [.sq t (row.map Dt.int)] ∧ Dg fsz row ∧ r = .sh (fr (fracZ row))
theorem b__law_fraction_of (T : Top K mg) (dg : base.NoDigits) (pl : Plc (BX P w K mg base N__law_fraction_of "_law_fraction_of" s__law_fraction_of f cdv A outer s H E) 2) : ∀ ds r, R__law_fraction_of ds r → DSs (BX P w K mg base N__law_fraction_of "_law_fraction_of" s__law_fraction_of f cdv A outer s H E) (startD N__law_fraction_of ds) (defBody s__law_fraction_of) (fin r) := by
  rintro _ _ ⟨tt, row, rfl, hdg, rfl⟩
  obtain ⟨r0, _, rfl, a0, b0, r1, _, rfl, a1, b1, r2, _, rfl, a2, b2, r3, _, rfl, a3, b3, r4, _, rfl, a4, b4, r5, _, rfl, a5, b5, r6, _, rfl, a6, b6, r7, _, rfl, a7, b7, r8, _, rfl, a8, b8, r9, _, rfl, a9, b9, r10, _, rfl, a10, b10, r11, _, rfl, a11, b11, r12, _, rfl, a12, b12, rfl⟩ := hdg
  have e1 : fracZ [r0, r1, r2, r3, r4, r5, r6, r7, r8, r9, r10, r11, r12] = if r0 < 7 then rat (r1 - 30) (bots.getD r2.toNat 0)
    else rat (if r1 % 2 = 0 then -joinZ [r3, r4, r5, r6, r7] else joinZ [r3, r4, r5, r6, r7]) (max 1 (joinZ [r8, r9, r10, r11, r12])) := rfl
  rw [e1]
  refine' dss_ifG (dt_lt (de_ix (dv 0 rfl rfl) de_int rfl) de_int) (fun h => ?_) (fun h => ?_)
  · obtain ⟨m0, m⟩ := lit_ix (l := bots) a2 b2
    obtain ⟨m1, m2⟩ := bots_bd _ m
    rw [if_pos (of_decide_eq_true h)]
    refine' dss_ret (de_callS pl (d__law_ratio T dg) (by decide) rfl (da_cons (de_sub (de_ix (dv 0 rfl rfl) de_int rfl) de_int) (da_cons (de_ix (dc := .int (bots.getD r2.toNat 0)) (de_lst (da_cons de_int (da_cons de_int (da_cons de_int (da_cons de_int (da_cons de_int (da_cons de_int (da_cons de_int (da_cons de_int (da_cons de_int (da_cons de_int (da_cons de_int (da_cons de_int da_nil))))))))))))) (de_ix (dv 0 rfl rfl) de_int rfl) m0) da_nil)) ?r) (.inl rfl)
    case r => exact ⟨_, _, by omega, B.le (n := 9990) (j := 100) (by decide) (by omega), B.bd (m := 30) (by omega) m2 (by decide), rfl, rfl⟩
  rw [if_neg (of_decide_eq_false h)]
  have d1 : digs8 [r3, r4, r5, r6, r7] := by simp only [digs8, List.mem_cons, List.not_mem_nil, or_false]; rintro d (rfl | rfl | rfl | rfl | rfl) <;> exact ⟨by assumption, by assumption⟩
  have d2 : digs8 [r8, r9, r10, r11, r12] := by simp only [digs8, List.mem_cons, List.not_mem_nil, or_false]; rintro d (rfl | rfl | rfl | rfl | rfl) <;> exact ⟨by assumption, by assumption⟩
  have j1 := join_B d1 (Nat.le_refl 5) 5 (Nat.le_refl 5)
  have j2 := join_B d2 (Nat.le_refl 5) 5 (Nat.le_refl 5)
  have j3 := (join_bd d2 5 (Nat.le_refl 5)).1
  refine' dss_set 1 pl rfl (de_callS pl (d__law_joined T dg) (by decide) rfl (da_cons (de_sl (dv 0 rfl rfl) (do_some de_int) (do_some de_int)) da_nil) ⟨tt, [r3, r4, r5, r6, r7], rfl, d1, Nat.le_refl 5, rfl⟩) ?_
  refine' dss_ifJ (fun δ => ∃ t, B 9990 t ∧ t = (if r1 % 2 = 0 then -joinZ [r3, r4, r5, r6, r7] else joinZ [r3, r4, r5, r6, r7]) ∧ δ = [.sh (.sq tt ([r0, r1, r2, r3, r4, r5, r6, r7, r8, r9, r10, r11, r12].map Dt.int)), .sh (.int t)]) (dt_eqI (de_mod (de_ix (dv 0 rfl rfl) de_int rfl) de_int (by decide)) de_int) (fun h => ?_) (fun h => ?_) (fun δ' hi => ?_)
  · refine' dss_set 1 pl rfl (de_neg (dv 1 rfl rfl)) (dss_nil ⟨_, (j1.mono (by decide)).neg, ?_, rfl⟩)
    rw [if_pos (of_decide_eq_true h)]; rfl
  · refine ⟨_, j1.mono (by decide), ?_, rfl⟩
    rw [if_neg (of_decide_eq_false h)]; rfl
  obtain ⟨t, tB, te, rfl⟩ := hi
  have h1 := max_B j2 j3 (by decide)
  refine' dss_ret (de_callS pl (d__law_ratio T dg) (by decide) rfl (da_cons (dv 1 rfl rfl) (da_cons (de_max pl T.m_max de_int (de_callS pl (d__law_joined T dg) (by decide) rfl (da_cons (de_sl (dv 0 rfl rfl) (do_some de_int) (do_some de_int)) da_nil) ⟨tt, [r8, r9, r10, r11, r12], rfl, d2, Nat.le_refl 5, rfl⟩)) da_nil)) ?r) (.inl ?_)
  case r => exact ⟨_, _, by show max 1 (joinZ [r8, r9, r10, r11, r12]) ≠ 0; omega, tB, h1.mono (by decide), rfl, rfl⟩
  rw [te]; rfl
theorem d__law_fraction_of (T : Top K mg) (dg : base.NoDigits) : Def P w K mg base "_law_fraction_of" 3 ["row"] [] R__law_fraction_of := by
  obtain ⟨f, fd, hm, F⟩ := T.F__law_fraction_of
  exact ⟨f, fd, [], [], fng_data F sc__law_fraction_of (by walk_at "len") dg (fun cdv A outer s H E pl => b__law_fraction_of T dg pl), hm, F.kp, F.bindsN fun _ _ _ _ _ _ us hl => match us, hl with | [_], _ => rfl, .nil, fun _ => by simp [IsAll]⟩
def vsz : List Int := [6, 100000, 9] ++ fsz
theorem vsz_ok : ∀ s, s ∈ vsz → 0 < s ∧ B 8990 s := sz_ok (by decide)
/-- the whole number of a drawn value -/
def wholeZ (r : List Int) : Int := if r.getD 3 0 = 7 then (if r.getD 4 0 % 2 = 0 then -joinZ ((r.drop 6).take 4) else joinZ ((r.drop 6).take 4)) else r.getD 4 0 - 30
def valueZ (r : List Int) (m : Int) : Int × Int :=
  if r.getD 0 0 < 3 then rat (r.getD 1 0 % m + wholeZ r * m) m
  else if r.getD 0 0 = 3 then rat (r.getD 1 0 % m + wholeZ r * m) (m * (2 + r.getD 2 0))
  else fracZ (r.drop 3)
theorem wholeZ_B {r : List Int} (h : Dg vsz r) : B 108 (wholeZ r) := by
  obtain ⟨q0, _, rfl, c0, e0, q1, _, rfl, c1, e1, q2, _, rfl, c2, e2, r0, _, rfl, a0, b0, r1, _, rfl, a1, b1, r2, _, rfl, a2, b2, r3, _, rfl, a3, b3, r4, _, rfl, a4, b4, r5, _, rfl, a5, b5, r6, _, rfl, a6, b6, r7, _, rfl, a7, b7, r8, _, rfl, a8, b8, r9, _, rfl, a9, b9, r10, _, rfl, a10, b10, r11, _, rfl, a11, b11, r12, _, rfl, a12, b12, rfl⟩ := h
  have d1 : digs8 [r3, r4, r5, r6] := by simp only [digs8, List.mem_cons, List.not_mem_nil, or_false]; rintro d (rfl | rfl | rfl | rfl) <;> exact ⟨by assumption, by assumption⟩
  obtain ⟨j0, j1⟩ := join_bd d1 4 (Nat.le_refl 4)
  have jB : B 108 (joinZ [r3, r4, r5, r6]) := .bd (m := 100000000 ^ 4) j0 (Int.le_of_lt j1) (by decide)
  show B 108 (if r0 = 7 then (if r1 % 2 = 0 then -joinZ [r3, r4, r5, r6] else joinZ [r3, r4, r5, r6]) else r1 - 30)
  split
  · split
    · exact jB.neg
    · exact jB
  · exact B.le (j := 100) (by decide) (by omega)
theorem valueZ_ok {r : List Int} {m : Int} (h : Dg vsz r) (m0 : 1 ≤ m) (m1 : m ≤ 100000) : Fr (valueZ r m) ∧ okF 134 (valueZ r m) := by
  have wB := wholeZ_B h
  have mB : B 17 m := .bd (m := 100000) (by omega) m1 (by decide)
  have hd : 0 ≤ r.getD 2 0 ∧ r.getD 2 0 < 9 ∧ Dg fsz (r.drop 3) := by
    obtain ⟨q0, _, rfl, c0, e0, q1, _, rfl, c1, e1, q2, _, rfl, c2, e2, hh⟩ := h
    exact ⟨c2, e2, hh⟩
  unfold valueZ
  have tB : B 128 (r.getD 1 0 % m + wholeZ r * m) := by
    have h1 : B 127 (r.getD 1 0 % m) := (mod_B mB (by omega)).mono (by decide)
    exact h1.add ((wB.mul mB).mono (by decide))
  split
  · have h0 : m ≠ 0 := by omega
    exact ⟨rat_fr h0, rat_B1 h0 (tB.mono (by decide)), rat_B2 h0 (mB.mono (by decide)), (rat_fr h0).pos⟩
  · split
    · have h0 : m * (2 + r.getD 2 0) ≠ 0 := Int.ne_of_gt (Int.mul_pos (by omega) (by omega))
      have bB : B 10 (2 + r.getD 2 0) := .bd (m := 20) (by omega) (by omega) (by decide)
      exact ⟨rat_fr h0, rat_B1 h0 (tB.mono (by decide)), rat_B2 h0 ((mB.mul bB).mono (by decide)), (rat_fr h0).pos⟩
    · exact fracZ_ok hd.2.2
def R__law_value (ds : List Dt) (r : Ret) : Prop := ∃ c m : Int, ds = [.int c, .int m] ∧ 1 ≤ m ∧ m ≤ 100000 ∧ r = .sh (fr (valueZ (digZ c vsz) m))
theorem b__law_value (T : Top K mg) (dg : base.NoDigits) (pl : Plc (BX P w K mg base N__law_value "_law_value" s__law_value f cdv A outer s H E) 3) : ∀ ds r, R__law_value ds r → DSs (BX P w K mg base N__law_value "_law_value" s__law_value f cdv A outer s H E) (startD N__law_value ds) (defBody s__law_value) (fin r) := by
  rintro _ _ ⟨c, m, rfl, m0, m1, rfl⟩
  refine' dss_set 2 pl rfl (de_call pl (d__law_digits T dg) (by decide) rfl (da_cons (dv 0 rfl rfl) (da_cons (de_add (de_add (de_lst (da_cons de_int (da_cons de_int (da_cons de_int da_nil)))) (de_lst (da_cons de_int (da_cons de_int (da_cons de_int da_nil)))) rfl (by show _ ≤ 16777216; decide)) (de_mul (de_lst (da_cons de_int da_nil)) de_int rfl ⟨by decide, by decide, by show _ ≤ 16777216; decide⟩) rfl (by show _ ≤ 16777216; decide)) da_nil)) ⟨c, false, vsz, vsz_ok, by decide, rfl, rfl⟩) ?_
  have hdg := dg_Z (ss := vsz) (c := c) fun s hs => (vsz_ok s hs).1
  generalize digZ c vsz = row at *
  have wB := wholeZ_B hdg
  have mB : B 17 m := .bd (m := 100000) (by omega) m1 (by decide)
  obtain ⟨q0, _, rfl, c0, e0, q1, _, rfl, c1, e1, q2, _, rfl, c2, e2, r0, _, rfl, a0, b0, r1, _, rfl, a1, b1, r2, _, rfl, a2, b2, r3, _, rfl, a3, b3, r4, _, rfl, a4, b4, r5, _, rfl, a5, b5, r6, _, rfl, a6, b6, r7, _, rfl, a7, b7, r8, _, rfl, a8, b8, r9, _, rfl, a9, b9, r10, _, rfl, a10, b10, r11, _, rfl, a11, b11, r12, _, rfl, a12, b12, rfl⟩ := hdg
  have hfd : Dg fsz [r0, r1, r2, r3, r4, r5, r6, r7, r8, r9, r10, r11, r12] := ⟨r0, _, rfl, a0, b0, r1, _, rfl, a1, b1, r2, _, rfl, a2, b2, r3, _, rfl, a3, b3, r4, _, rfl, a4, b4, r5, _, rfl, a5, b5, r6, _, rfl, a6, b6, r7, _, rfl, a7, b7, r8, _, rfl, a8, b8, r9, _, rfl, a9, b9, r10, _, rfl, a10, b10, r11, _, rfl, a11, b11, r12, _, rfl, a12, b12, rfl⟩
  have d1 : digs8 [r3, r4, r5, r6] := by simp only [digs8, List.mem_cons, List.not_mem_nil, or_false]; rintro d (rfl | rfl | rfl | rfl) <;> exact ⟨by assumption, by assumption⟩
  refine' dss_set 3 pl rfl (de_sub (de_ix (dv 2 rfl rfl) de_int rfl) de_int) ?_
  refine' dss_ifJ (fun δ => δ = [.sh (.int c), .sh (.int m), .sh (.sq false ([q0, q1, q2, r0, r1, r2, r3, r4, r5, r6, r7, r8, r9, r10, r11, r12].map Dt.int)), .sh (.int (wholeZ [q0, q1, q2, r0, r1, r2, r3, r4, r5, r6, r7, r8, r9, r10, r11, r12]))]) (dt_eqI (de_ix (dv 2 rfl rfl) de_int rfl) de_int) (fun h => ?_) (fun h => ?_) (fun δ' hi => ?_)
  · have h7 : r0 = 7 := of_decide_eq_true h
    refine' dss_set 3 pl rfl (de_callS pl (d__law_joined T dg) (by decide) rfl (da_cons (de_sl (dv 2 rfl rfl) (do_some de_int) (do_some de_int)) da_nil) ⟨false, [r3, r4, r5, r6], rfl, d1, (by simp), rfl⟩) ?_
    have e : wholeZ [q0, q1, q2, r0, r1, r2, r3, r4, r5, r6, r7, r8, r9, r10, r11, r12] = if r1 % 2 = 0 then -joinZ [r3, r4, r5, r6] else joinZ [r3, r4, r5, r6] := if_pos h7
    rw [e]
    refine' dss_ifG (dt_eqI (de_mod (de_ix (dv 2 rfl rfl) de_int rfl) de_int (by decide)) de_int) (fun h => ?_) (fun h => ?_)
    · rw [if_pos (of_decide_eq_true h)]
      exact dss_set 3 pl rfl (de_neg (dv 3 rfl rfl)) (dss_nil (dss_nil rfl))
    · rw [if_neg (of_decide_eq_false h)]
      exact dss_nil rfl
  · have e : wholeZ [q0, q1, q2, r0, r1, r2, r3, r4, r5, r6, r7, r8, r9, r10, r11, r12] = r1 - 30 := if_neg (of_decide_eq_false h)
    rw [e]; rfl
  subst hi
  have e : valueZ [q0, q1, q2, r0, r1, r2, r3, r4, r5, r6, r7, r8, r9, r10, r11, r12] m = if q0 < 3 then rat (q1 % m + wholeZ [q0, q1, q2, r0, r1, r2, r3, r4, r5, r6, r7, r8, r9, r10, r11, r12] * m) m
    else if q0 = 3 then rat (q1 % m + wholeZ [q0, q1, q2, r0, r1, r2, r3, r4, r5, r6, r7, r8, r9, r10, r11, r12] * m) (m * (2 + q2)) else fracZ [r0, r1, r2, r3, r4, r5, r6, r7, r8, r9, r10, r11, r12] := rfl
  rw [e]
  generalize wholeZ [q0, q1, q2, r0, r1, r2, r3, r4, r5, r6, r7, r8, r9, r10, r11, r12] = W at *
  have tB : B 128 (q1 % m + W * m) := by
    have h1 : B 127 (q1 % m) := (mod_B mB (by omega)).mono (by decide)
    exact h1.add ((wB.mul mB).mono (by decide))
  refine' dss_ifG (dt_lt (de_ix (dv 2 rfl rfl) de_int rfl) de_int) (fun h => ?_) (fun h => ?_)
  · rw [if_pos (of_decide_eq_true h)]
    exact dss_ret (de_callS pl (d__law_ratio T dg) (by decide) rfl (da_cons (de_add (de_mod (de_ix (dv 2 rfl rfl) de_int rfl) (dv 1 rfl rfl) (by omega)) (de_mul (dv 3 rfl rfl) (dv 1 rfl rfl) rfl (wB.mulW mB (by decide))) rfl (by walk_at "c")) (da_cons (dv 1 rfl rfl) da_nil)) ⟨_, _, by omega, tB.mono (by decide), mB.mono (by decide), rfl, rfl⟩) (.inl rfl)
  rw [if_neg (of_decide_eq_false h)]
  refine' dss_ifG (dt_eqI (de_ix (dv 2 rfl rfl) de_int rfl) de_int) (fun h => ?_) (fun h => ?_)
  · rw [if_pos (of_decide_eq_true h)]
    have bB : B 10 (2 + q2) := .bd (m := 20) (by omega) (by omega) (by decide)
    exact dss_ret (de_callS pl (d__law_ratio T dg) (by decide) rfl (da_cons (de_add (de_mod (de_ix (dv 2 rfl rfl) de_int rfl) (dv 1 rfl rfl) (by omega)) (de_mul (dv 3 rfl rfl) (dv 1 rfl rfl) rfl (wB.mulW mB (by decide))) rfl (by walk_at "c")) (da_cons (de_mul (dv 1 rfl rfl) (de_add de_int (de_ix (dv 2 rfl rfl) de_int rfl) rfl (by walk_at "c")) rfl (mB.mulW bB (by decide))) da_nil)) ⟨_, _, Int.ne_of_gt (Int.mul_pos (by omega) (by omega)), tB.mono (by decide), (mB.mul bB).mono (by decide), rfl, rfl⟩) (.inl rfl)
  rw [if_neg (of_decide_eq_false h)]
  exact dss_ret (de_callS pl (d__law_fraction_of T dg) (by decide) rfl (da_cons (de_sl (dv 2 rfl rfl) (do_some de_int) do_none) da_nil) ⟨false, _, rfl, hfd, rfl⟩) (.inl rfl)
theorem d__law_value (T : Top K mg) (dg : base.NoDigits) : Def P w K mg base "_law_value" 4 ["cell", "marks"] [] R__law_value := by
  obtain ⟨f, fd, hm, F⟩ := T.F__law_value
  exact ⟨f, fd, [], [], fng_data F sc__law_value (by walk_at "len") dg (fun cdv A outer s H E pl => b__law_value T dg pl), hm, F.kp, F.bindsN fun _ _ _ _ _ _ us hl => match us, hl with | [_, _], _ => rfl, .nil, fun _ => by simp [IsAll]⟩
def tsz : List Int := [8, 121, 100000, 100000000, 100000000, 100000000, 100000000, 100000000]
theorem tsz_ok : ∀ s, s ∈ tsz → 0 < s ∧ B 8990 s := sz_ok (by decide)
def stepZ (r : List Int) (m : Int) : Int :=
  if r.getD 0 0 < 3 then r.getD 1 0 - 60 else if r.getD 0 0 < 6 then r.getD 2 0 else if r.getD 0 0 = 6 then (r.getD 1 0 - 60) * m
  else if r.getD 1 0 % 2 = 0 then -joinZ (r.drop 3) else joinZ (r.drop 3)
theorem stepZ_B {r : List Int} {m : Int} (h : Dg tsz r) (mB : B 17 m) : B 134 (stepZ r m) := by
  obtain ⟨r0, _, rfl, a0, b0, r1, _, rfl, a1, b1, r2, _, rfl, a2, b2, r3, _, rfl, a3, b3, r4, _, rfl, a4, b4, r5, _, rfl, a5, b5, r6, _, rfl, a6, b6, r7, _, rfl, a7, b7, rfl⟩ := h
  have d1 : digs8 [r3, r4, r5, r6, r7] := by simp only [digs8, List.mem_cons, List.not_mem_nil, or_false]; rintro d (rfl | rfl | rfl | rfl | rfl) <;> exact ⟨by assumption, by assumption⟩
  have j1 := join_B d1 (Nat.le_refl 5) 5 (Nat.le_refl 5)
  have sB : B 10 (r1 - 60) := B.le (j := 200) (by decide) (by omega)
  show B 134 (if r0 < 3 then r1 - 60 else if r0 < 6 then r2 else if r0 = 6 then (r1 - 60) * m else if r1 % 2 = 0 then -joinZ [r3, r4, r5, r6, r7] else joinZ [r3, r4, r5, r6, r7])
  split
  · exact sB.mono (by decide)
  split
  · exact B.bd (m := 100000) a2 (by omega) (by decide)
  split
  · exact (sB.mul mB).mono (by decide)
  split
  · exact (j1.mono (by decide)).neg
  · exact j1.mono (by decide)
def R__law_step (ds : List Dt) (r : Ret) : Prop := ∃ c m : Int, ds = [.int c, .int m] ∧ 1 ≤ m ∧ m ≤ 100000 ∧ r = .sh (.int (stepZ (digZ c tsz) m))
theorem b__law_step (T : Top K mg) (dg : base.NoDigits) (pl : Plc (BX P w K mg base N__law_step "_law_step" s__law_step f cdv A outer s H E) 1) : ∀ ds r, R__law_step ds r → DSs (BX P w K mg base N__law_step "_law_step" s__law_step f cdv A outer s H E) (startD N__law_step ds) (defBody s__law_step) (fin r) := by
  rintro _ _ ⟨c, m, rfl, m0, m1, rfl⟩
  refine' dss_set 2 pl rfl (de_call pl (d__law_digits T dg) (by decide) rfl (da_cons (dv 0 rfl rfl) (da_cons (de_add (de_lst (da_cons de_int (da_cons de_int (da_cons de_int da_nil)))) (de_mul (de_lst (da_cons de_int da_nil)) de_int rfl ⟨by decide, by decide, by show _ ≤ 16777216; decide⟩) rfl (by show _ ≤ 16777216; decide)) da_nil)) ⟨c, false, tsz, tsz_ok, by decide, rfl, rfl⟩) ?_
  have hdg := dg_Z (ss := tsz) (c := c) fun s hs => (tsz_ok s hs).1
  generalize digZ c tsz = row at *
  have mB : B 17 m := .bd (m := 100000) (by omega) m1 (by decide)
  obtain ⟨r0, _, rfl, a0, b0, r1, _, rfl, a1, b1, r2, _, rfl, a2, b2, r3, _, rfl, a3, b3, r4, _, rfl, a4, b4, r5, _, rfl, a5, b5, r6, _, rfl, a6, b6, r7, _, rfl, a7, b7, rfl⟩ := hdg
  have d1 : digs8 [r3, r4, r5, r6, r7] := by simp only [digs8, List.mem_cons, List.not_mem_nil, or_false]; rintro d (rfl | rfl | rfl | rfl | rfl) <;> exact ⟨by assumption, by assumption⟩
  have sB : B 10 (r1 - 60) := B.le (j := 200) (by decide) (by omega)
  have e : stepZ [r0, r1, r2, r3, r4, r5, r6, r7] m = if r0 < 3 then r1 - 60 else if r0 < 6 then r2 else if r0 = 6 then (r1 - 60) * m else if r1 % 2 = 0 then -joinZ [r3, r4, r5, r6, r7] else joinZ [r3, r4, r5, r6, r7] := rfl
  rw [e]
  refine' dss_ifG (dt_lt (de_ix (dv 2 rfl rfl) de_int rfl) de_int) (fun h => ?_) (fun h => ?_)
  · rw [if_pos (of_decide_eq_true h)]
    exact dss_ret (de_sub (de_ix (dv 2 rfl rfl) de_int rfl) de_int) (.inl rfl)
  rw [if_neg (of_decide_eq_false h)]
  refine' dss_ifG (dt_lt (de_ix (dv 2 rfl rfl) de_int rfl) de_int) (fun h => ?_) (fun h => ?_)
  · rw [if_pos (of_decide_eq_true h)]
    exact dss_ret (de_ix (dv 2 rfl rfl) de_int rfl) (.inl rfl)
  rw [if_neg (of_decide_eq_false h)]
  refine' dss_ifG (dt_eqI (de_ix (dv 2 rfl rfl) de_int rfl) de_int) (fun h => ?_) (fun h => ?_)
  · rw [if_pos (of_decide_eq_true h)]
    exact dss_ret (de_mul (de_sub (de_ix (dv 2 rfl rfl) de_int rfl) de_int) (dv 1 rfl rfl) rfl (sB.mulW mB (by decide))) (.inl rfl)
  rw [if_neg (of_decide_eq_false h)]
  refine' dss_ifG (dt_eqI (de_mod (de_ix (dv 2 rfl rfl) de_int rfl) de_int (by decide)) de_int) (fun h => ?_) (fun h => ?_)
  · rw [if_pos (of_decide_eq_true h)]
    exact dss_ret (de_neg (de_callS pl (d__law_joined T dg) (by decide) rfl (da_cons (de_sl (dv 2 rfl rfl) (do_some de_int) (do_some de_int)) da_nil) ⟨false, [r3, r4, r5, r6, r7], rfl, d1, Nat.le_refl 5, rfl⟩)) (.inl rfl)
  rw [if_neg (of_decide_eq_false h)]
  exact dss_ret (de_callS pl (d__law_joined T dg) (by decide) rfl (da_cons (de_sl (dv 2 rfl rfl) (do_some de_int) (do_some de_int)) da_nil) ⟨false, [r3, r4, r5, r6, r7], rfl, d1, Nat.le_refl 5, rfl⟩) (.inl rfl)
theorem d__law_step (T : Top K mg) (dg : base.NoDigits) : Def P w K mg base "_law_step" 2 ["cell", "marks"] [] R__law_step := by
  obtain ⟨f, fd, hm, F⟩ := T.F__law_step
  exact ⟨f, fd, [], [], fng_data F sc__law_step (by walk_at "len") dg (fun cdv A outer s H E pl => b__law_step T dg pl), hm, F.kp, F.bindsN fun _ _ _ _ _ _ us hl => match us, hl with | [_, _], _ => rfl, .nil, fun _ => by simp [IsAll]⟩
end K01

set_option Elab.async false
set_option linter.all false
set_option maxRecDepth 100000
set_option maxHeartbeats 4000000
namespace K01
open PySem L2 Dat
local macro_rules | `(tactic| walk_at "c") => `(tactic| first | exact trivial | (show _ ≤ 16777216; simp; done))
local macro_rules | `(tactic| walk_at "len") => `(tactic| (intro ds r h; (repeat obtain ⟨_, h⟩ := h); subst_vars; first | rfl | (simp; done)))
variable {P : Program} {w : World} {K : PySem.W.Frag} {mg : Str → Option Value} {base : Heap} {f : Addr} {cdv : Value} {A : Around} {outer : List PySem.Env} {s : Shared} {H : Hp} {E : XK}
/-! ### marks and steps -/
theorem dvd_mul_gcd {M S n : Nat} (hM : 0 < M) : M ∣ n * S ↔ M / Nat.gcd S M ∣ n := by
  have hg : 0 < Nat.gcd S M := Nat.gcd_pos_of_pos_right _ hM
  have hc := Nat.coprime_div_gcd_div_gcd (m := S) (n := M) hg
  obtain ⟨M', hM'⟩ := Nat.gcd_dvd_right S M
  obtain ⟨S', hS'⟩ := Nat.gcd_dvd_left S M
  generalize Nat.gcd S M = g at *
  have e1 : M / g = M' := by rw [hM', Nat.mul_div_cancel_left _ hg]
  have e2 : S / g = S' := by rw [hS', Nat.mul_div_cancel_left _ hg]
  rw [e1, e2] at hc
  rw [e1]
  have e3 : n * S = g * (n * S') := by rw [hS', Nat.mul_left_comm]
  rw [e3]
  constructor
  · intro h
    rw [hM'] at h
    exact Nat.Coprime.dvd_of_dvd_mul_right (Nat.coprime_comm.mp hc) (Nat.dvd_of_mul_dvd_mul_left hg h)
  · intro h
    rw [hM']
    exact Nat.mul_dvd_mul_left _ (Nat.dvd_trans h (Nat.dvd_mul_right _ _))
def ordZ (s m : Int) : Int := m / (Nat.gcd s.natAbs m.natAbs : Nat)
theorem ord_nat {s m : Int} (m0 : 0 < m) : ∃ o : Nat, 0 < o ∧ (o : Int) ≤ m ∧ ordZ s m = o ∧ ∀ n : Nat, ((n : Int) * (s % m)) % m = 0 ↔ o ∣ n := by
  have hM : 0 < m.natAbs := by omega
  have hg : 0 < Nat.gcd s.natAbs m.natAbs := Nat.gcd_pos_of_pos_right _ hM
  have em : (m.natAbs : Int) = m := by omega
  refine ⟨m.natAbs / Nat.gcd s.natAbs m.natAbs, Nat.div_pos (Nat.gcd_le_right _ hM) hg, ?_, ?_, fun n => ?_⟩
  · have := Nat.div_le_self m.natAbs (Nat.gcd s.natAbs m.natAbs)
    omega
  · unfold ordZ
    rw [Int.natCast_ediv, em]
  · rw [Int.mul_emod, Int.emod_emod, ← Int.mul_emod, ← dvd_mul_gcd hM]
    rw [← Int.dvd_iff_emod_eq_zero, ← Int.natAbs_dvd_natAbs, Int.natAbs_mul, Int.natAbs_natCast]
def R__law_first_return (ds : List Dt) (r : Ret) : Prop := ∃ s m : Int, ds = [.int s, .int m] ∧ 1 ≤ m ∧ m ≤ 100000 ∧ r = .sh (.int (ordZ s m))
theorem turn_mod {a m x : Int} (a0 : 0 ≤ a) (a1 : a < m) : (x + a) % m = if m ≤ x % m + a then x % m + a - m else x % m + a := by
  have m0 : 0 < m := by omega
  have x0 := Int.emod_nonneg x (Int.ne_of_gt m0)
  have x1 := Int.emod_lt_of_pos x m0
  have e : (x + a) % m = (x % m + a) % m := (Int.emod_add_emod x m a).symm
  rw [e]
  split
  · rw [← Int.sub_emod_right (x % m + a) m]
    exact Int.emod_eq_of_lt (by omega) (by omega)
  · exact Int.emod_eq_of_lt (by omega) (by omega)
theorem b__law_first_return (T : Top K mg) (dg : base.NoDigits) (pl : Plc (BX P w K mg base N__law_first_return "_law_first_return" s__law_first_return f cdv A outer s H E) 0) : ∀ ds r, R__law_first_return ds r → DSs (BX P w K mg base N__law_first_return "_law_first_return" s__law_first_return f cdv A outer s H E) (startD N__law_first_return ds) (defBody s__law_first_return) (fin r) := by
  rintro _ _ ⟨s1, m, rfl, m0, m1, rfl⟩
  obtain ⟨o, o0, o1, oe, od⟩ := ord_nat (s := s1) (m := m) (by omega)
  have a0 := Int.emod_nonneg s1 (b := m) (by omega)
  have a1 := Int.emod_lt_of_pos s1 (b := m) (by omega)
  rw [oe]
  refine' dss_set 2 pl rfl (de_mod (de_intc T.m_int (dv 0 rfl rfl) rfl) (dv 1 rfl rfl) (by omega)) ?_
  generalize s1 % m = a at *
  refine' dss_set 3 pl rfl de_int ?_
  have z0 : ((0 : Nat) : Int) * a % m = 0 := by simp
  refine' dss_rng2 4 pl rfl T.m_range de_int (de_add (dv 1 rfl rfl) de_int rfl (by walk_at "c")) (by omega) (fun n δ => ∃ t, n < o ∧ δ = [.sh (.int s1), .sh (.int m), .sh (.int a), .sh (.int ((n : Int) * a % m)), t]) ⟨.no, o0, by rw [z0]; rfl⟩ (fun j δ' hj hi => ?hs) (fun δ' hi => ?hd)
  case hs =>
    obtain ⟨t, lt, rfl⟩ := hi
    have e1 : (((j + 1 : Nat) : Int) * a) % m = if m ≤ (j : Int) * a % m + a then (j : Int) * a % m + a - m else (j : Int) * a % m + a := by
      rw [← turn_mod a0 a1, Int.natCast_add, Int.add_mul]; simp
    have e2 := od (j + 1)
    have e3 : o ∣ j + 1 ↔ j + 1 = o := ⟨fun h => by have := Nat.le_of_dvd (by omega) h; omega, fun h => by rw [h]; exact Nat.dvd_refl _⟩
    have x0 := Int.emod_nonneg ((j : Int) * a) (b := m) (by omega)
    have x1 := Int.emod_lt_of_pos ((j : Int) * a) (b := m) (by omega)
    refine' dss_set 3 pl rfl (de_add (dv 3 rfl rfl) (dv 2 rfl rfl) rfl (by walk_at "c")) ?_
    refine' dss_ifJ (fun δ => δ = [.sh (.int s1), .sh (.int m), .sh (.int a), .sh (.int (((j + 1 : Nat) : Int) * a % m)), .sh (.int (1 + (j : Int)))]) (dt_ge (dv 3 rfl rfl) (dv 1 rfl rfl)) (fun h => ?_) (fun h => ?_) (fun δ'' hi => ?_)
    · have h' : m ≤ (j : Int) * a % m + a := of_decide_eq_true h
      rw [if_pos h'] at e1
      rw [e1]
      exact dss_set 3 pl rfl (de_sub (dv 3 rfl rfl) (dv 1 rfl rfl)) (dss_nil rfl)
    · have h' : ¬ m ≤ (j : Int) * a % m + a := of_decide_eq_false h
      rw [if_neg h'] at e1
      rw [e1]; rfl
    subst hi
    refine' dss_ifG (dt_eqI (dv 3 rfl rfl) de_int) (fun h => ?_) (fun h => ?_)
    · have := e3.mp (e2.mp (of_decide_eq_true h))
      refine dss_ret (dv 4 rfl rfl) (.inl ?_)
      rw [← this, Int.natCast_add, Int.add_comm]; rfl
    · have : j + 1 ≠ o := fun z => of_decide_eq_false h (e2.mpr (e3.mpr z))
      exact dss_nil ⟨_, by omega, rfl⟩
  obtain ⟨t, lt, rfl⟩ := hi
  exact absurd lt (by omega)
theorem d__law_first_return (T : Top K mg) (dg : base.NoDigits) : Def P w K mg base "_law_first_return" 1 ["step", "marks"] [] R__law_first_return := by
  obtain ⟨f, fd, hm, F⟩ := T.F__law_first_return
  exact ⟨f, fd, [], [], fng_data F sc__law_first_return (by walk_at "len") dg (fun cdv A outer s H E pl => b__law_first_return T dg pl), hm, F.kp, F.bindsN fun _ _ _ _ _ _ us hl => match us, hl with | [_, _], _ => rfl, .nil, fun _ => by simp [IsAll]⟩
theorem fr_dvd {p : Int × Int} {m : Int} (h : Fr p) : p.1 * m % p.2 = 0 ↔ m % p.2 = 0 := by
  rw [← Int.dvd_iff_emod_eq_zero, ← Int.dvd_iff_emod_eq_zero, ← Int.natAbs_dvd_natAbs, ← Int.natAbs_dvd_natAbs, Int.natAbs_mul]
  exact ⟨fun q => Nat.Coprime.dvd_of_dvd_mul_left (Nat.coprime_comm.mp h.cop) q, fun q => Nat.dvd_trans q (Nat.dvd_mul_left _ _)⟩
def R__law_mark_right (ds : List Dt) (r : Ret) : Prop := ∃ (p : Int × Int) (m : Int), ds = [markZ p m, fr p, .int m] ∧ Fr p ∧ okF 134 p ∧ 1 ≤ m ∧ m ≤ 100000 ∧ r = .sh (.bl true)
theorem b__law_mark_right (T : Top K mg) (dg : base.NoDigits) (pl : Plc (BX P w K mg base N__law_mark_right "_law_mark_right" s__law_mark_right f cdv A outer s H E) 1) : ∀ ds r, R__law_mark_right ds r → DSs (BX P w K mg base N__law_mark_right "_law_mark_right" s__law_mark_right f cdv A outer s H E) (startD N__law_mark_right ds) (defBody s__law_mark_right) (fin r) := by
  rintro _ _ ⟨p, m, rfl, hf, ⟨p1, p2, pp⟩, m0, m1, rfl⟩
  have mB : B 17 m := .bd (m := 100000) (by omega) m1 (by decide)
  have c0 : B 134 (m % p.2) := mod_B p2 pp
  refine' dss_ifG (dt_not (dt_val (de_callS pl (d__law_is T dg) (by decide) rfl (da_cons (de_mod (de_intc T.m_int (dv 2 rfl rfl) rfl) (de_ix (dv 1 rfl rfl) de_int rfl) pp) (da_cons de_int da_nil)) (is_int_iff (c0.mono (by decide)) (by decide))))) (fun h => ?_) (fun h => ?_)
  · have h' : ¬ m % p.2 = 0 := by simpa using h
    have e : markZ p m = .non := if_neg fun z => h' ((fr_dvd hf).mp z)
    rw [e]
    exact dss_ret (de_isN (dv 0 rfl rfl) de_non) (.inl rfl)
  have h' : m % p.2 = 0 := by simpa using h
  have hz := (fr_dvd hf).mpr h'
  have e : markZ p m = .int (p.1 * m / p.2 % m) := if_pos hz
  rw [e]
  have q0 := Int.emod_nonneg (p.1 * m / p.2) (b := m) (by omega)
  have q1 := Int.emod_lt_of_pos (p.1 * m / p.2) (b := m) (by omega)
  have qB : B 17 (p.1 * m / p.2 % m) := mod_B mB (by omega)
  have key : (p.1 * m - p.1 * m / p.2 % m * p.2) % (p.2 * m) = 0 := by
    have e1 : p.1 * m = p.2 * (p.1 * m / p.2) := by
      have := Int.mul_ediv_add_emod (p.1 * m) p.2
      omega
    generalize p.1 * m / p.2 = q at *
    rw [e1]
    have e2 : q % m = q - m * (q / m) := Int.emod_def q m
    have e3 : p.2 * q - q % m * p.2 = p.2 * m * (q / m) := by
      rw [e2, Int.mul_comm p.2 q, ← Int.sub_mul]
      have : q - (q - m * (q / m)) = m * (q / m) := by omega
      rw [this, Int.mul_comm, Int.mul_assoc]
    rw [e3, Int.mul_emod_right]
  generalize p.1 * m / p.2 % m = q at *
  refine' dss_ifF (dt_eq (dt_w (dw_or (dt_not (dt_val (de_callS pl (d__law_whole T dg) (by decide) rfl (da_cons (dv 0 rfl rfl) da_nil) ⟨_, rfl, rfl, rfl⟩))) fun h => (dw_or (dt_lt (dv 0 rfl rfl) de_int) fun h => (dw_or1 (dt_ge (dv 0 rfl rfl) (dv 2 rfl rfl)))))) ?e1) (dss_nil ?_)
  case e1 => rw [decide_eq_false (by omega), decide_eq_false (by omega)]; rfl
  refine' dss_ret (de_callS pl (d__law_is T dg) (by decide) rfl (da_cons (de_mod (de_intc T.m_int (de_sub (de_mul (de_ix (dv 1 rfl rfl) de_int rfl) (dv 2 rfl rfl) rfl (p1.mulW mB (by decide))) (de_mul (dv 0 rfl rfl) (de_ix (dv 1 rfl rfl) de_int rfl) rfl (qB.mulW p2 (by decide)))) rfl) (de_mul (de_ix (dv 1 rfl rfl) de_int rfl) (dv 2 rfl rfl) rfl (p2.mulW mB (by decide))) (Int.mul_pos pp (by omega))) (da_cons de_int da_nil)) ?r8) (.inl rfl)
  rw [key]; exact is_same (sh_int (by decide))
theorem d__law_mark_right (T : Top K mg) (dg : base.NoDigits) : Def P w K mg base "_law_mark_right" 2 ["reply", "value", "marks"] [] R__law_mark_right := by
  obtain ⟨f, fd, hm, F⟩ := T.F__law_mark_right
  exact ⟨f, fd, [], [], fng_data F sc__law_mark_right (by walk_at "len") dg (fun cdv A outer s H E pl => b__law_mark_right T dg pl), hm, F.kp, F.bindsN fun _ _ _ _ _ _ us hl => match us, hl with | [_, _, _], _ => rfl, .nil, fun _ => by simp [IsAll]⟩
def wsz : List Int := [2, 100000]
theorem wsz_ok : ∀ s, s ∈ wsz → 0 < s ∧ B 8990 s := sz_ok (by decide)
def R__law_wheels_right (ds : List Dt) (r : Ret) : Prop := ∃ ns : List Int, ds = [.scr ns] ∧ r = .sh (.bl true)
theorem b__law_wheels_right (T : Top K mg) (dg : base.NoDigits) (pl : Plc (BX P w K mg base N__law_wheels_right "_law_wheels_right" s__law_wheels_right f cdv A outer s H E) 4) : ∀ ds r, R__law_wheels_right ds r → DSs (BX P w K mg base N__law_wheels_right "_law_wheels_right" s__law_wheels_right f cdv A outer s H E) (startD N__law_wheels_right ds) (defBody s__law_wheels_right) (fin r) := by
  rintro _ _ ⟨ns, rfl, rfl⟩
  refine' dss_set 1 pl rfl (de_callS pl (d__law_marks T dg) (by decide) rfl (da_cons (de_callS pl (d__law_cell T dg) (by decide) rfl (da_cons (dv 0 rfl rfl) (da_cons de_int da_nil)) ⟨ns, 44, by decide, by decide, rfl, rfl⟩) da_nil) ⟨_, rfl, rfl⟩) ?_
  obtain ⟨m0, m1⟩ := marksZ_ok (dg_Z (ss := msz) (c := cellZ ns 44) fun s hs => (msz_ok s hs).1)
  generalize marksZ (digZ (cellZ ns 44) msz) = m at *
  have mB : B 17 m := .bd (m := 100000) (by omega) m1 (by decide)
  refine' dss_set 2 pl rfl (de_callS pl (d__law_value T dg) (by decide) rfl (da_cons (de_callS pl (d__law_cell T dg) (by decide) rfl (da_cons (dv 0 rfl rfl) (da_cons de_int da_nil)) ⟨ns, 45, by decide, by decide, rfl, rfl⟩) (da_cons (dv 1 rfl rfl) da_nil)) ⟨_, _, rfl, m0, m1, rfl⟩) ?_
  obtain ⟨hf, hok⟩ := valueZ_ok (dg_Z (ss := vsz) (c := cellZ ns 45) fun s hs => (vsz_ok s hs).1) m0 m1
  generalize valueZ (digZ (cellZ ns 45) vsz) m = p at *
  refine' dss_set 3 pl rfl (de_callS pl (d__law_step T dg) (by decide) rfl (da_cons (de_callS pl (d__law_cell T dg) (by decide) rfl (da_cons (dv 0 rfl rfl) (da_cons de_int da_nil)) ⟨ns, 46, by decide, by decide, rfl, rfl⟩) (da_cons (dv 1 rfl rfl) da_nil)) ⟨_, _, rfl, m0, m1, rfl⟩) ?_
  generalize stepZ (digZ (cellZ ns 46) tsz) m = st at *
  refine' dss_set 4 pl rfl (de_call pl (d__law_digits T dg) (by decide) rfl (da_cons (de_callS pl (d__law_cell T dg) (by decide) rfl (da_cons (dv 0 rfl rfl) (da_cons de_int da_nil)) ⟨ns, 47, by decide, by decide, rfl, rfl⟩) (da_cons (de_lst (da_cons de_int (da_cons de_int da_nil))) da_nil)) ⟨_, false, wsz, wsz_ok, by decide, rfl, rfl⟩) ?_
  have hdg := dg_Z (ss := wsz) (c := cellZ ns 47) fun s hs => (wsz_ok s hs).1
  generalize digZ (cellZ ns 47) wsz = row at *
  obtain ⟨r0, _, rfl, a0, b0, r1, _, rfl, a1, b1, rfl⟩ := hdg
  refine' dss_set 5 pl rfl (dv 2 rfl rfl) ?_
  refine' dss_ifJ (fun δ => ∃ k : Bool, δ = [.sh (.scr ns), .sh (.int m), .sh (fr p), .sh (.int st), .sh (.sq false [.int r0, .int r1]), .sh (frK k p), .no, .no, .no, .no]) (dt_eqI (de_ix (dv 4 rfl rfl) de_int rfl) de_int) (fun h => ?_) (fun h => ?_) (fun δ' hi => ?_)
  · exact dss_set 5 pl rfl (de_lst (da_cons (de_ix (dv 2 rfl rfl) de_int rfl) (da_cons (de_ix (dv 2 rfl rfl) de_int rfl) da_nil))) (dss_nil ⟨false, rfl⟩)
  · exact ⟨true, rfl⟩
  obtain ⟨k, rfl⟩ := hi
  have ok8 : okF 8000 p := hok.mono (by decide)
  have mr : R__law_mark_right [markZ p m, fr p, .int m] (.sh (.bl true)) := ⟨p, m, rfl, hf, hok, m0, m1, rfl⟩
  have mk : R_mark_of [frK k p, .int m] (.sh (markZ p m)) := ⟨k, p, m, rfl, ok8, by omega, mB.mono (by decide), rfl⟩
  refine' dss_ifF (dt_eq (dt_not (dt_val (de_callS pl (d__law_mark_right T dg) (by decide) rfl (da_cons (de_callS pl (d_mark_of T dg) (by decide) rfl (da_cons (dv 5 rfl rfl) (da_cons (dv 1 rfl rfl) da_nil)) mk) (da_cons (dv 2 rfl rfl) (da_cons (dv 1 rfl rfl) da_nil))) mr))) rfl) (dss_nil ?_)
  refine' dss_set 6 pl rfl (de_mod (de_ix (dv 4 rfl rfl) de_int rfl) (dv 1 rfl rfl) (by omega)) ?_
  have k0 := Int.emod_nonneg r1 (b := m) (by omega)
  have k1 := Int.emod_lt_of_pos r1 (b := m) (by omega)
  have kB : B 17 (r1 % m) := mod_B mB (by omega)
  generalize r1 % m = mark at *
  have mne : m ≠ 0 := by omega
  have e7 : markZ (rat mark m) m = .int mark := by
    have h1 := rat_eq (t := mark) mne
    have h2 := (rat_fr (t := mark) mne).pos
    have h3 : (rat mark m).1 * m % (rat mark m).2 = 0 := by rw [h1]; exact Int.mul_emod_left _ _
    have h4 : (rat mark m).1 * m / (rat mark m).2 = mark := by rw [h1]; exact Int.mul_ediv_cancel _ (Int.ne_of_gt h2)
    unfold markZ
    rw [if_pos h3, h4, Int.emod_eq_of_lt k0 k1]
  have e8 : markZ (1, m + 1) m = .non := by
    refine if_neg ?_
    show ¬ 1 * m % (m + 1) = 0
    rw [Int.one_mul, Int.emod_eq_of_lt (by omega) (by omega)]; exact mne
  have rok : okF 8000 (rat mark m) := ⟨(rat_B1 mne kB).mono (by decide), (rat_B2 mne mB).mono (by decide), (rat_fr mne).pos⟩
  have m2 : R_mark_of [fr (rat mark m), .int m] (.sh (.int mark)) := ⟨true, _, m, rfl, rok, by omega, mB.mono (by decide), by rw [e7]⟩
  have m3 : R_mark_of [fr (1, m + 1), .int m] (.sh .non) := ⟨true, (1, m + 1), m, rfl, ⟨(by show B 8000 1; decide), (mB.add (j := 1) (by decide)).mono (by decide), by show 0 < m + 1; omega⟩, by omega, mB.mono (by decide), by rw [e8]⟩
  refine' dss_set 7 pl rfl (de_callS pl (d_mark_of T dg) (by decide) rfl (da_cons (de_callS pl (d__law_ratio T dg) (by decide) rfl (da_cons (dv 6 rfl rfl) (da_cons (dv 1 rfl rfl) da_nil)) ⟨_, _, mne, kB.mono (by decide), mB.mono (by decide), rfl, rfl⟩) (da_cons (dv 1 rfl rfl) da_nil)) m2) ?_
  refine' dss_ifF (dt_eq (dt_w (dw_or (dt_not (dt_val (de_callS pl (d__law_whole T dg) (by decide) rfl (da_cons (dv 7 rfl rfl) da_nil) ⟨_, rfl, rfl, rfl⟩))) fun h => (dw_or (dt_not (dt_val (de_callS pl (d__law_is T dg) (by decide) rfl (da_cons (dv 7 rfl rfl) (da_cons (dv 6 rfl rfl) da_nil)) (by exact is_same (sh_int (kB.mono (by decide))))))) fun h => (dw_or1 (dt_notN (de_callS pl (d_mark_of T dg) (by decide) rfl (da_cons (de_tup (da_cons de_int (da_cons (de_add (dv 1 rfl rfl) de_int rfl (by walk_at "c")) da_nil))) (da_cons (dv 1 rfl rfl) da_nil)) (by exact m3)) de_non))))) rfl) (dss_nil ?_)
  refine' dss_for 8 pl rfl (di_seq (de_lst (da_cons (dv 3 rfl rfl) (da_cons (dv 6 rfl rfl) (da_cons de_int da_nil))))) (fun n δ => ∃ t8 t9, δ = [.sh (.scr ns), .sh (.int m), .sh (fr p), .sh (.int st), .sh (.sq false [.int r0, .int r1]), .sh (frK k p), .sh (.int mark), .sh (.int mark), t8, t9]) ⟨.no, .no, rfl⟩ (fun n d δ' hd hi => ?hs) (fun δ' hi => ?hd)
  case hs =>
    obtain ⟨t8, t9, rfl⟩ := hi
    have : ∃ x : Int, d = .int x := by
      match n, hd with
      | 0, hd => cases hd; exact ⟨_, rfl⟩
      | 1, hd => cases hd; exact ⟨_, rfl⟩
      | 2, hd => cases hd; exact ⟨_, rfl⟩
      | n + 3, hd => simp at hd
    obtain ⟨x, rfl⟩ := this
    obtain ⟨o, o0, o1, oe, _⟩ := ord_nat (s := x) (m := m) (by omega)
    have oB : B 17 (ordZ x m) := .bd (m := 100000) (by omega) (by omega) (by decide)
    refine' dss_set 9 pl rfl (de_callS pl (d_order_of T dg) (by decide) rfl (da_cons (dv 8 rfl rfl) (da_cons (dv 1 rfl rfl) da_nil)) ⟨x, m, rfl, by omega, mB.mono (by decide), rfl⟩) ?_
    refine' dss_ifF (dt_eq (dt_w (dw_or (dt_not (dt_val (de_callS pl (d__law_whole T dg) (by decide) rfl (da_cons (dv 9 rfl rfl) da_nil) ⟨_, rfl, rfl, rfl⟩))) fun h => (dw_or1 (dt_not (dt_val (de_callS pl (d__law_is T dg) (by decide) rfl (da_cons (dv 9 rfl rfl) (da_cons (de_callS pl (d__law_first_return T dg) (by decide) rfl (da_cons (dv 8 rfl rfl) (da_cons (dv 1 rfl rfl) da_nil)) (by exact ⟨x, m, rfl, m0, m1, rfl⟩)) da_nil)) (by exact is_same (sh_int (oB.mono (by decide)))))))))) rfl) (dss_nil ?_)
    exact dss_nil ⟨_, _, rfl⟩
  obtain ⟨t8, t9, rfl⟩ := hi
  refine' dss_ifF (dt_eq (dt_not (dt_val (de_callS pl (d__law_mark_right T dg) (by decide) rfl (da_cons (de_callS pl (d_mark_of T dg) (by decide) rfl (da_cons (dv 5 rfl rfl) (da_cons (dv 1 rfl rfl) da_nil)) mk) (da_cons (dv 2 rfl rfl) (da_cons (dv 1 rfl rfl) da_nil))) mr))) rfl) (dss_nil ?_)
  refine' dss_ret (de_eq (de_andB (de_callS pl (d__law_is T dg) (by decide) rfl (da_cons (de_ix (dv 5 rfl rfl) de_int rfl) (da_cons (de_ix (dv 2 rfl rfl) de_int rfl) da_nil)) (is_same (sh_int (hok.1.mono (by decide))))) fun h => (de_andB (de_callS pl (d__law_is T dg) (by decide) rfl (da_cons (de_ix (dv 5 rfl rfl) de_int rfl) (da_cons (de_ix (dv 2 rfl rfl) de_int rfl) da_nil)) (by exact is_same (sh_int (hok.2.1.mono (by decide))))) fun h => (de_one (de_eqI (de_len T.m_len (dv 5 rfl rfl) rfl) de_int)))) rfl) (.inl rfl)
theorem d__law_wheels_right (T : Top K mg) (dg : base.NoDigits) : Def P w K mg base "_law_wheels_right" 5 ["script"] [] R__law_wheels_right := by
  obtain ⟨f, fd, hm, F⟩ := T.F__law_wheels_right
  exact ⟨f, fd, [], [], fng_data F sc__law_wheels_right (by walk_at "len") dg (fun cdv A outer s H E pl => b__law_wheels_right T dg pl), hm, F.kp, F.bindsN fun _ _ _ _ _ _ us hl => match us, hl with | [_], _ => rfl, .nil, fun _ => by simp [IsAll]⟩
end K01

set_option Elab.async false
set_option linter.all false
set_option maxRecDepth 100000
set_option maxHeartbeats 4000000
namespace K01
open PySem L2 Dat
local macro_rules | `(tactic| walk_at "c") => `(tactic| first | exact trivial | (show _ ≤ 16777216; simp; done))
local macro_rules | `(tactic| walk_at "len") => `(tactic| (intro ds r h; (repeat obtain ⟨_, h⟩ := h); subst_vars; first | rfl | (simp; done)))
variable {P : Program} {w : World} {K : PySem.W.Frag} {mg : Str → Option Value} {base : Heap} {f : Addr} {cdv : Value} {A : Around} {outer : List PySem.Env} {s : Shared} {H : Hp} {E : XK}
/-! ### sums -/
def dotS (acc : Int × Int) (x : (Int × Int) × (Int × Int)) : Int × Int := if x.1.1 = 0 ∨ x.2.1 = 0 then acc else plusZ acc (rat (x.1.1 * x.2.1) (x.1.2 * x.2.2))
def dotZ (ps qs : List (Int × Int)) : Int × Int := (ps.zip qs).foldl dotS (0, 1)
theorem dotS_swap (acc p q : Int × Int) : dotS acc (q, p) = dotS acc (p, q) := by
  unfold dotS
  dsimp only
  rw [Int.mul_comm q.1, Int.mul_comm q.2]
  by_cases h1 : p.1 = 0 <;> by_cases h2 : q.1 = 0 <;> simp [h1, h2]
theorem dot_swap' : ∀ (ps qs : List (Int × Int)) (acc : Int × Int), (qs.zip ps).foldl dotS acc = (ps.zip qs).foldl dotS acc
  | [], [], _ => rfl
  | [], _ :: _, _ => rfl
  | _ :: _, [], _ => rfl
  | p :: ps, q :: qs, acc => by
    rw [List.zip_cons_cons, List.zip_cons_cons, List.foldl_cons, List.foldl_cons, dotS_swap]
    exact dot_swap' ps qs _
theorem dot_swap (ps qs : List (Int × Int)) : dotZ qs ps = dotZ ps qs := dot_swap' ps qs _
theorem dot_bd {ps qs : List (Int × Int)} (hs : small ps) (ht : small qs) : ∀ n, n ≤ (ps.zip qs).length → B (270 * n + 1) (((ps.zip qs).take n).foldl dotS (0, 1)).1 ∧ B (268 * n + 1) (((ps.zip qs).take n).foldl dotS (0, 1)).2 ∧ 0 < (((ps.zip qs).take n).foldl dotS (0, 1)).2 ∧ Fr (((ps.zip qs).take n).foldl dotS (0, 1))
  | 0, _ => by simp only [List.take_zero, List.foldl_nil]; exact ⟨by decide, by decide, by decide, ⟨by decide, by decide⟩⟩
  | n + 1, h => by
    have e : (ps.zip qs)[n]? = some (ps.zip qs)[n] := List.getElem?_eq_getElem h
    obtain ⟨b1, b2, b3, b4⟩ := dot_bd hs ht n (by omega)
    rw [foldl_snoc dotS _ e]
    have hm := List.getElem_mem h
    generalize (ps.zip qs)[n] = x at *
    obtain ⟨p, q⟩ := x
    obtain ⟨p1, p2, pp⟩ := hs p (List.of_mem_zip hm).1
    obtain ⟨q1, q2, qp⟩ := ht q (List.of_mem_zip hm).2
    generalize ((ps.zip qs).take n).foldl dotS (0, 1) = acc at *
    unfold dotS
    split
    · exact ⟨b1.mono (by omega), b2.mono (by omega), b3, b4⟩
    · have hb : p.2 * q.2 ≠ 0 := Int.ne_of_gt (Int.mul_pos pp qp)
      obtain ⟨c1, c2, c3, c4⟩ := plus_bd (a := 268) (q := rat (p.1 * q.1) (p.2 * q.2)) b1 b2 b3 ⟨rat_B1 hb ((p1.mul q1).mono (by decide)), rat_B2 hb ((p2.mul q2).mono (by decide)), (rat_fr hb).pos⟩
      exact ⟨c1.mono (by omega), c2.mono (by omega), c3, c4⟩
def R_dot (ds : List Dt) (r : Ret) : Prop := ∃ (t k t' l : Bool) (ps qs : List (Int × Int)), ds = [.sq t (ps.map (frK k)), .sq t' (qs.map (frK l))] ∧ small ps ∧ small qs ∧ ps.length = qs.length ∧ ps.length ≤ 20 ∧ r = .sh (fr (dotZ ps qs))
theorem b_dot (T : Top K mg) (dg : base.NoDigits) (pl : Plc (BX P w K mg base N_dot "dot" s_dot f cdv A outer s H E) 2) : ∀ ds r, R_dot ds r → DSs (BX P w K mg base N_dot "dot" s_dot f cdv A outer s H E) (startD N_dot ds) (defBody s_dot) (fin r) := by
  rintro _ _ ⟨t, k, t', l, ps, qs, rfl, hs, ht, hl, hz, rfl⟩
  refine' dss_set 2 pl rfl (de_tup (da_cons de_int (da_cons de_int da_nil))) ?_
  refine' dss_for2 3 4 pl rfl rfl (di_zip T.m_zip (dv 0 rfl rfl) (dv 1 rfl rfl) (by simpa using hl)) (fun n δ => ∃ t3 t4, δ = [.sh (.sq t (ps.map (frK k))), .sh (.sq t' (qs.map (frK l))), .sh (fr (((ps.zip qs).take n).foldl dotS (0, 1))), t3, t4]) ⟨.no, .no, rfl⟩ (fun n d δ' hd hi => ?hs) (fun δ' hi => ?hd)
  case hs =>
    obtain ⟨t3, t4, rfl⟩ := hi
    rw [List.getElem?_zipWith, List.getElem?_map, List.getElem?_map] at hd
    cases hp : ps[n]? with
    | none => rw [hp] at hd; simp at hd
    | some p =>
    cases hq : qs[n]? with
    | none => rw [hp, hq] at hd; simp at hd
    | some q =>
    rw [hp, hq] at hd
    obtain rfl := Option.some.inj hd
    have hn := lt_of_get hp
    have hx : (ps.zip qs)[n]? = some (p, q) := by rw [List.getElem?_zip_eq_some]; exact ⟨hp, hq⟩
    have hlz : (ps.zip qs).length = ps.length := by rw [List.length_zip, ← hl, Nat.min_self]
    obtain ⟨b1, b2, b3, _⟩ := dot_bd hs ht n (by omega)
    have e : ((ps.zip qs).take (n + 1)).foldl dotS (0, 1) = dotS (((ps.zip qs).take n).foldl dotS (0, 1)) (p, q) := foldl_snoc dotS _ hx
    generalize ((ps.zip qs).take n).foldl dotS (0, 1) = acc at *
    obtain ⟨p1, p2, pp⟩ := hs p (List.mem_of_getElem? hp)
    obtain ⟨q1, q2, qp⟩ := ht q (List.mem_of_getElem? hq)
    have hb : p.2 * q.2 ≠ 0 := Int.ne_of_gt (Int.mul_pos pp qp)
    refine ⟨_, _, rfl, ?_⟩
    refine' dss_ifG (dt_w (dw_and (dt_neI (de_ix (dv 3 rfl rfl) de_int rfl) de_int) fun h => (dw_and1 (dt_neI (de_ix (dv 4 rfl rfl) de_int rfl) de_int)))) (fun h => ?_) (fun h => ?_)
    · have hne : ¬ (p.1 = 0 ∨ q.1 = 0) := by simpa using h
      rw [show dotS acc (p, q) = plusZ acc (rat (p.1 * q.1) (p.2 * q.2)) from if_neg hne] at e
      have c2 : B 268 (rat (p.1 * q.1) (p.2 * q.2)).2 := rat_B2 hb ((p2.mul q2).mono (by decide))
      have c1 : B 268 (rat (p.1 * q.1) (p.2 * q.2)).1 := rat_B1 hb ((p1.mul q1).mono (by decide))
      have c0 := (rat_fr (t := p.1 * q.1) hb).pos
      refine' dss_set 2 pl rfl (de_callS pl (d_plus (P := P) (w := w) T dg) (by decide) rfl (da_cons (dv 2 rfl rfl) (da_cons (de_callS pl (d_times (P := P) (w := w) T dg) (by decide) rfl (da_cons (dv 3 rfl rfl) (da_cons (dv 4 rfl rfl) da_nil)) ⟨k, l, p, q, rfl, ⟨p1.mono (by decide), p2.mono (by decide), pp⟩, ⟨q1.mono (by decide), q2.mono (by decide), qp⟩, (p2.mul q2).mono (by decide), rfl⟩) da_nil)) ⟨acc, rat (p.1 * q.1) (p.2 * q.2), ⟨⟨_, _, rfl⟩, b1.mono (by omega), b2.mono (by omega), c1.mono (by decide), c2.mono (by decide), b3, c0⟩, (b2.mul c2).mono (by omega), rfl⟩) ?_
      refine dss_nil (dss_nil ⟨.sh (frK k p), .sh (frK l q), ?_⟩)
      rw [e]; rfl
    · have hze : p.1 = 0 ∨ q.1 = 0 := by
        by_cases z : p.1 = 0
        · exact .inl z
        · exact .inr (by simpa [z] using h)
      rw [show dotS acc (p, q) = acc from if_pos hze] at e
      refine dss_nil ⟨.sh (frK k p), .sh (frK l q), ?_⟩
      rw [e]; rfl
  case hd =>
    obtain ⟨t3, t4, rfl⟩ := hi
    rw [List.length_zipWith, List.length_map, List.length_map, ← List.length_zip, List.take_length]
    exact dss_ret (dv 2 rfl rfl) (.inl rfl)
theorem d_dot (T : Top K mg) (dg : base.NoDigits) : Def P w K mg base "dot" 3 ["ones", "twos"] [] R_dot := by
  obtain ⟨f, fd, hm, F⟩ := T.F_dot
  exact ⟨f, fd, [], [], fng_data F sc_dot (by walk_at "len") dg (fun cdv A outer s H E pl => b_dot T dg pl), hm, F.kp, F.bindsN fun _ _ _ _ _ _ us hl => match us, hl with | [_, _], _ => rfl, .nil, fun _ => by simp [IsAll]⟩
/-! what the law adds up -/
theorem add_step {a1 a2 u1 u2 r1 r2 N W C : Int} (h : a2 * u2 ≠ 0) (e : r1 * (a2 * u2) = (a1 * u2 + u1 * a2) * r2) (i : a1 * N = W * a2) (j : u1 * N = C * u2) : r1 * N = (W + C) * r2 := by
  apply Int.eq_of_mul_eq_mul_right h
  grind
def wholeS (L : Int) (ps : List (Int × Int)) : Int := ps.foldl (fun s p => s + p.1 * (L / p.2)) 0
def bothS (L M : Int) (z : List ((Int × Int) × (Int × Int))) : Int := z.foldl (fun s x => s + x.1.1 * (L / x.1.2) * x.2.1 * (M / x.2.2)) 0
theorem tot_whole {L : Int} {ps : List (Int × Int)} (hs : ∀ p, p ∈ ps → 0 < p.2 ∧ p.2 ∣ L) : ∀ n, n ≤ ps.length → (totZ (ps.take n)).1 * L = wholeS L (ps.take n) * (totZ (ps.take n)).2 ∧ 0 < (totZ (ps.take n)).2
  | 0, _ => by simp [totZ, wholeS]
  | n + 1, h => by
    have e : ps[n]? = some ps[n] := List.getElem?_eq_getElem h
    obtain ⟨i1, i2⟩ := tot_whole hs n (by omega)
    obtain ⟨pp, c, hc⟩ := hs ps[n] (List.getElem_mem h)
    have e1 : totZ (ps.take (n + 1)) = plusZ (totZ (ps.take n)) ps[n] := foldl_snoc plusZ _ e
    have e2 : wholeS L (ps.take (n + 1)) = wholeS L (ps.take n) + ps[n].1 * (L / ps[n].2) := foldl_snoc (fun (s : Int) (p : Int × Int) => s + p.1 * (L / p.2)) _ e
    have e3 : L / ps[n].2 = c := by rw [hc, Int.mul_ediv_cancel_left _ (Int.ne_of_gt pp)]
    rw [e1, e2, e3]
    have h0 : (totZ (ps.take n)).2 * ps[n].2 ≠ 0 := Int.ne_of_gt (Int.mul_pos i2 pp)
    refine ⟨add_step h0 (rat_eq h0) i1 ?_, (rat_fr h0).pos⟩
    rw [hc]; grind
theorem dot_both {L M : Int} {z : List ((Int × Int) × (Int × Int))} (hs : ∀ x, x ∈ z → (0 < x.1.2 ∧ x.1.2 ∣ L) ∧ 0 < x.2.2 ∧ x.2.2 ∣ M) : ∀ n, n ≤ z.length → ((z.take n).foldl dotS (0, 1)).1 * (L * M) = bothS L M (z.take n) * ((z.take n).foldl dotS (0, 1)).2 ∧ 0 < ((z.take n).foldl dotS (0, 1)).2
  | 0, _ => by simp [bothS]
  | n + 1, h => by
    have e : z[n]? = some z[n] := List.getElem?_eq_getElem h
    obtain ⟨i1, i2⟩ := dot_both hs n (by omega)
    have hm := hs z[n] (List.getElem_mem h)
    have e2 : bothS L M (z.take (n + 1)) = bothS L M (z.take n) + z[n].1.1 * (L / z[n].1.2) * z[n].2.1 * (M / z[n].2.2) := foldl_snoc (fun (s : Int) (x : (Int × Int) × (Int × Int)) => s + x.1.1 * (L / x.1.2) * x.2.1 * (M / x.2.2)) _ e
    rw [foldl_snoc dotS _ e, e2]
    generalize z[n] = x at *
    obtain ⟨p, q⟩ := x
    obtain ⟨⟨pp, c, hc⟩, qp, d, hd⟩ := hm
    dsimp only at pp qp hc hd ⊢
    have e3 : L / p.2 = c := by rw [hc, Int.mul_ediv_cancel_left _ (Int.ne_of_gt pp)]
    have e4 : M / q.2 = d := by rw [hd, Int.mul_ediv_cancel_left _ (Int.ne_of_gt qp)]
    rw [e3, e4]
    generalize (z.take n).foldl dotS (0, 1) = acc at *
    have hb : p.2 * q.2 ≠ 0 := Int.ne_of_gt (Int.mul_pos pp qp)
    unfold dotS
    split
    · rename_i hz
      have e5 : p.1 * c * q.1 * d = 0 := by
        rcases hz with z0 | z0
        · dsimp only at z0; rw [z0]; simp
        · dsimp only at z0; rw [z0]; simp
      rw [e5, Int.add_zero]; exact ⟨i1, i2⟩
    · have h0 : acc.2 * (rat (p.1 * q.1) (p.2 * q.2)).2 ≠ 0 := Int.ne_of_gt (Int.mul_pos i2 (rat_fr hb).pos)
      refine ⟨add_step h0 (rat_eq h0) i1 ?_, (rat_fr h0).pos⟩
      have e6 := rat_eq (t := p.1 * q.1) hb
      dsimp only
      generalize rat (p.1 * q.1) (p.2 * q.2) = u at *
      rw [hc, hd]; grind
theorem whole_B {L : Int} {ps : List (Int × Int)} (hs : small ps) (hL : B 2690 L) : ∀ n, n ≤ ps.length → B (2824 + n) (wholeS L (ps.take n))
  | 0, _ => by simp only [List.take_zero, wholeS, List.foldl_nil]; exact B.mono (n := 1) (by decide) (by omega)
  | n + 1, h => by
    have e : ps[n]? = some ps[n] := List.getElem?_eq_getElem h
    have e2 : wholeS L (ps.take (n + 1)) = wholeS L (ps.take n) + ps[n].1 * (L / ps[n].2) := foldl_snoc (fun (s : Int) (p : Int × Int) => s + p.1 * (L / p.2)) _ e
    rw [e2]
    exact (B.add (whole_B hs hL n (by omega)) (((hs ps[n] (List.getElem_mem h)).1.mul (div_B hL)).mono (by omega))).mono (by omega)
theorem both_B {L M : Int} {ps qs : List (Int × Int)} (hs : small ps) (ht : small qs) (hL : B 2690 L) (hM : B 2690 M) : ∀ n, n ≤ (ps.zip qs).length → B (5648 + n) (bothS L M ((ps.zip qs).take n))
  | 0, _ => by simp only [List.take_zero, bothS, List.foldl_nil]; exact B.mono (n := 1) (by decide) (by omega)
  | n + 1, h => by
    have e : (ps.zip qs)[n]? = some (ps.zip qs)[n] := List.getElem?_eq_getElem h
    have hm := List.getElem_mem h
    have e2 : bothS L M ((ps.zip qs).take (n + 1)) = bothS L M ((ps.zip qs).take n) + (ps.zip qs)[n].1.1 * (L / (ps.zip qs)[n].1.2) * (ps.zip qs)[n].2.1 * (M / (ps.zip qs)[n].2.2) := foldl_snoc (fun (s : Int) (x : (Int × Int) × (Int × Int)) => s + x.1.1 * (L / x.1.2) * x.2.1 * (M / x.2.2)) _ e
    rw [e2]
    have ih := both_B hs ht hL hM n (by omega)
    generalize (ps.zip qs)[n] = x at *
    obtain ⟨p, q⟩ := x
    have p1 := (hs p (List.of_mem_zip hm).1).1
    have q1 := (ht q (List.of_mem_zip hm).2).1
    exact (B.add ih ((((p1.mul (div_B hL)).mul q1).mul (div_B hM)).mono (by omega))).mono (by omega)
def R__law_sums_right (ds : List Dt) (r : Ret) : Prop := ∃ (t t' tf : Bool) (ps qs : List (Int × Int)) (f0 f1 : Int), ds = [.sq t (ps.map fr), .sq t' (qs.map fr), .sq tf [.int f0, .int f1]] ∧ small ps ∧ small qs ∧ ps.length = qs.length ∧ ps.length ≤ 20 ∧ 0 ≤ f0 ∧ f0 < 4 ∧ 0 ≤ f1 ∧ f1 < 4 ∧ r = .sh (.bl true)
theorem b__law_sums_right (T : Top K mg) (dg : base.NoDigits) (pl : Plc (BX P w K mg base N__law_sums_right "_law_sums_right" s__law_sums_right f cdv A outer s H E) 4) : ∀ ds r, R__law_sums_right ds r → DSs (BX P w K mg base N__law_sums_right "_law_sums_right" s__law_sums_right f cdv A outer s H E) (startD N__law_sums_right ds) (defBody s__law_sums_right) (fin r) := by
  rintro _ _ ⟨t, t', tf, ps, qs, f0, f1, rfl, hs, ht, hl, hz, f00, f01, f10, f11, rfl⟩
  obtain ⟨l0, lB'⟩ := lcm_bd hs ps.length (Nat.le_refl _)
  obtain ⟨k0, kB'⟩ := lcm_bd ht qs.length (Nat.le_refl _)
  rw [List.take_length] at l0 lB' k0 kB'
  have lB : B 2690 (lcmF ps) := lB'.mono (by omega)
  have kB : B 2690 (lcmF qs) := kB'.mono (by omega)
  have dvL := (lcm_dvd fun p hp => (hs p hp).2.2).2
  have dvM := (lcm_dvd fun p hp => (ht p hp).2.2).2
  have hlz : (ps.zip qs).length = ps.length := by rw [List.length_zip, ← hl, Nat.min_self]
  refine' dss_set 3 pl rfl (de_callS pl (d__law_bottom T dg) (by decide) rfl (da_cons (dv 0 rfl rfl) da_nil) ⟨t, true, ps, rfl, hs, hz, rfl⟩) ?_
  refine' dss_set 4 pl rfl (de_callS pl (d__law_bottom T dg) (by decide) rfl (da_cons (dv 1 rfl rfl) da_nil) ⟨t', true, qs, rfl, ht, by omega, rfl⟩) ?_
  refine' dss_set 5 pl rfl de_int ?_
  refine' dss_set 6 pl rfl de_int ?_
  refine' dss_rng 7 pl rfl T.m_range (de_len T.m_len (dv 0 rfl rfl) rfl) (by omega) (by rw [List.length_map]; omega) (fun n δ => ∃ t7 t8, δ = [.sh (.sq t (ps.map fr)), .sh (.sq t' (qs.map fr)), .sh (.sq tf [.int f0, .int f1]), .sh (.int (lcmF ps)), .sh (.int (lcmF qs)), .sh (.int (wholeS (lcmF ps) (ps.take n))), .sh (.int (bothS (lcmF ps) (lcmF qs) ((ps.zip qs).take n))), t7, t8, .no, .no]) ⟨.no, .no, rfl⟩ (fun n δ' hn hi => ?hs) (fun δ' hi => ?hd)
  case hs =>
    obtain ⟨t7, t8, rfl⟩ := hi
    rw [List.length_map] at hn
    have hn' : n < ps.length := by simpa using hn
    have hn2 : n < qs.length := by omega
    obtain ⟨p1, p2, pp⟩ := hs ps[n] (List.getElem_mem hn')
    obtain ⟨q1, q2, qp⟩ := ht qs[n] (List.getElem_mem hn2)
    have hx : atI (ps.map fr) (n : Int) = some (fr ps[n]) := atI_get (by omega) (by simp [hn'])
    have hy : atI (qs.map fr) (n : Int) = some (fr qs[n]) := atI_get (by omega) (by simp [hn2])
    have e1 : wholeS (lcmF ps) (ps.take (n + 1)) = wholeS (lcmF ps) (ps.take n) + ps[n].1 * (lcmF ps / ps[n].2) := foldl_snoc (fun (s : Int) (p : Int × Int) => s + p.1 * (lcmF ps / p.2)) _ (List.getElem?_eq_getElem hn')
    have e2 : bothS (lcmF ps) (lcmF qs) ((ps.zip qs).take (n + 1)) = bothS (lcmF ps) (lcmF qs) ((ps.zip qs).take n) + ps[n].1 * (lcmF ps / ps[n].2) * qs[n].1 * (lcmF qs / qs[n].2) :=
      foldl_snoc (a := (ps[n], qs[n])) (fun (s : Int) (x : (Int × Int) × (Int × Int)) => s + x.1.1 * (lcmF ps / x.1.2) * x.2.1 * (lcmF qs / x.2.2)) _ (by rw [List.getElem?_zip_eq_some]; exact ⟨List.getElem?_eq_getElem hn', List.getElem?_eq_getElem hn2⟩)
    rw [e1, e2]
    have dB : B 2690 (lcmF ps / ps[n].2) := div_B lB
    have eB : B 2690 (lcmF qs / qs[n].2) := div_B kB
    refine' dss_set 8 pl rfl (de_mul (de_ix (de_ix (dv 0 rfl rfl) (dv 7 rfl rfl) (by exact hx)) de_int rfl) (de_div (dv 3 rfl rfl) (de_ix (de_ix (dv 0 rfl rfl) (dv 7 rfl rfl) (by exact hx)) de_int rfl) ⟨pp, p2.log (by decide)⟩) rfl (by exact p1.mulW dB (by decide))) ?_
    refine' dss_set 5 pl rfl (de_add (dv 5 rfl rfl) (dv 8 rfl rfl) rfl (by walk_at "c")) ?_
    refine' dss_set 6 pl rfl (de_add (dv 6 rfl rfl) (de_mul (de_mul (dv 8 rfl rfl) (de_ix (de_ix (dv 1 rfl rfl) (dv 7 rfl rfl) (by exact hy)) de_int rfl) rfl (by exact (p1.mul dB).mulW q1 (by decide))) (de_div (dv 4 rfl rfl) (de_ix (de_ix (dv 1 rfl rfl) (dv 7 rfl rfl) (by exact hy)) de_int rfl) ⟨qp, q2.log (by decide)⟩) rfl (by exact ((p1.mul dB).mul q1).mulW eB (by decide))) rfl (by walk_at "c")) ?_
    exact dss_nil ⟨_, _, rfl⟩
  obtain ⟨t7, t8, rfl⟩ := hi
  rw [List.length_map]
  simp only [Int.toNat_natCast]
  rw [List.take_length, show ps.length = (ps.zip qs).length from hlz.symm, List.take_length]
  have wB := whole_B hs lB ps.length (Nat.le_refl _)
  have oB := both_B hs ht lB kB ps.length (by omega)
  obtain ⟨tw, _⟩ := tot_whole (L := lcmF ps) (fun p hp => ⟨(hs p hp).2.2, dvL p hp⟩) ps.length (Nat.le_refl _)
  obtain ⟨db, _⟩ := dot_both (L := lcmF ps) (M := lcmF qs) (z := ps.zip qs) (fun x hx => ⟨⟨(hs _ (List.of_mem_zip hx).1).2.2, dvL _ (List.of_mem_zip hx).1⟩, (ht _ (List.of_mem_zip hx).2).2.2, dvM _ (List.of_mem_zip hx).2⟩) ps.length (by omega)
  obtain ⟨tb1, tb2, _, tfr⟩ := tot_bd hs ps.length (Nat.le_refl _)
  obtain ⟨ob1, ob2, _, ofr⟩ := dot_bd hs ht ps.length (by omega)
  rw [List.take_length] at wB tw tb1 tb2 tfr
  rw [show ps.length = (ps.zip qs).length from hlz.symm, List.take_length] at oB db ob1 ob2 ofr
  have eqT : R__law_equals [fr (totZ ps), .int (wholeS (lcmF ps) ps), .int (lcmF ps)] (.sh (.bl true)) := ⟨_, _, _, rfl, tfr, tb1.mono (by omega), tb2.mono (by omega), wB.mono (by omega), lB.mono (by decide), tw, rfl⟩
  have eqD : R__law_equals [fr (dotZ ps qs), .int (bothS (lcmF ps) (lcmF qs) (ps.zip qs)), .int (lcmF ps * lcmF qs)] (.sh (.bl true)) := ⟨_, _, _, rfl, ofr, ob1.mono (by omega), ob2.mono (by omega), oB.mono (by omega), (lB.mul kB).mono (by decide), db, rfl⟩
  generalize wholeS (lcmF ps) ps = whole at *
  generalize bothS (lcmF ps) (lcmF qs) (ps.zip qs) = both at *
  have asps : ∀ f : Int, 0 ≤ f → f < 4 → R__law_as_passed [.sq t (ps.map fr), .int f] (.sh (asP f ps)) := fun f a b => ⟨t, ps, f, rfl, a, b, by omega, rfl⟩
  have asqs : ∀ f : Int, 0 ≤ f → f < 4 → R__law_as_passed [.sq t' (qs.map fr), .int f] (.sh (asP f qs)) := fun f a b => ⟨t', qs, f, rfl, a, b, by omega, rfl⟩
  refine' dss_set 9 pl rfl (de_callS pl (d__law_as_passed T dg) (by decide) rfl (da_cons (dv 0 rfl rfl) (da_cons (de_ix (dv 2 rfl rfl) de_int rfl) da_nil)) (asps f0 f00 f01)) ?_
  refine' dss_set 10 pl rfl (de_callS pl (d__law_as_passed T dg) (by decide) rfl (da_cons (dv 1 rfl rfl) (da_cons (de_ix (dv 2 rfl rfl) de_int rfl) da_nil)) (asqs f1 f10 f11)) ?_
  have tot : R_total [asP f0 ps] (.sh (fr (totZ ps))) := ⟨_, _, ps, rfl, hs, hz, rfl⟩
  have dt1 : R_dot [asP f0 ps, asP f1 qs] (.sh (fr (dotZ ps qs))) := ⟨_, _, _, _, ps, qs, rfl, hs, ht, hl, hz, rfl⟩
  have dt2 : R_dot [asP f1 qs, asP f0 ps] (.sh (fr (dotZ ps qs))) := ⟨_, _, _, _, qs, ps, rfl, ht, hs, hl.symm, by omega, by rw [dot_swap]⟩
  refine' dss_ifF (dt_eq (dt_w (dw_or (dt_not (dt_val (de_callS pl (d__law_equals T dg) (by decide) rfl (da_cons (de_callS pl (d_total T dg) (by decide) rfl (da_cons (dv 9 rfl rfl) da_nil) tot) (da_cons (dv 5 rfl rfl) (da_cons (dv 3 rfl rfl) da_nil))) eqT))) fun h => (dw_or1 (dt_not (dt_val (de_callS pl (d__law_equals T dg) (by decide) rfl (da_cons (de_callS pl (d_dot T dg) (by decide) rfl (da_cons (dv 9 rfl rfl) (da_cons (dv 10 rfl rfl) da_nil)) (by exact dt1)) (da_cons (dv 6 rfl rfl) (da_cons (de_mul (dv 3 rfl rfl) (dv 4 rfl rfl) rfl (by exact lB.mulW kB (by decide))) da_nil))) (by exact eqD))))))) rfl) (dss_nil ?_)
  refine' dss_ifF (dt_eq (dt_w (dw_or (dt_not (dt_val (de_callS pl (d__law_equals T dg) (by decide) rfl (da_cons (de_callS pl (d_dot T dg) (by decide) rfl (da_cons (dv 10 rfl rfl) (da_cons (dv 9 rfl rfl) da_nil)) dt2) (da_cons (dv 6 rfl rfl) (da_cons (de_mul (dv 3 rfl rfl) (dv 4 rfl rfl) rfl (by exact lB.mulW kB (by decide))) da_nil))) eqD))) fun h => (dw_or1 (dt_not (dt_val (de_callS pl (d__law_equals T dg) (by decide) rfl (da_cons (de_callS pl (d_total T dg) (by decide) rfl (da_cons (dv 9 rfl rfl) da_nil) (by exact tot)) (da_cons (dv 5 rfl rfl) (da_cons (dv 3 rfl rfl) da_nil))) (by exact eqT))))))) rfl) (dss_nil ?_)
  refine' dss_ret (de_eq (de_andB (de_callS pl (d__law_is T dg) (by decide) rfl (da_cons (dv 9 rfl rfl) (da_cons (de_callS pl (d__law_as_passed T dg) (by decide) rfl (da_cons (dv 0 rfl rfl) (da_cons (de_ix (dv 2 rfl rfl) de_int rfl) da_nil)) (asps f0 f00 f01)) da_nil)) (is_same (shP hs (by omega)))) fun h => (de_one (de_callS pl (d__law_is T dg) (by decide) rfl (da_cons (dv 10 rfl rfl) (da_cons (de_callS pl (d__law_as_passed T dg) (by decide) rfl (da_cons (dv 1 rfl rfl) (da_cons (de_ix (dv 2 rfl rfl) de_int rfl) da_nil)) (by exact asqs f1 f10 f11)) da_nil)) (by exact is_same (shP ht (by omega)))))) rfl) (.inl rfl)
theorem d__law_sums_right (T : Top K mg) (dg : base.NoDigits) : Def P w K mg base "_law_sums_right" 5 ["ones", "twos", "forms"] [] R__law_sums_right := by
  obtain ⟨f, fd, hm, F⟩ := T.F__law_sums_right
  exact ⟨f, fd, [], [], fng_data F sc__law_sums_right (by walk_at "len") dg (fun cdv A outer s H E pl => b__law_sums_right T dg pl), hm, F.kp, F.bindsN fun _ _ _ _ _ _ us hl => match us, hl with | [_, _, _], _ => rfl, .nil, fun _ => by simp [IsAll]⟩
end K01

set_option Elab.async false
set_option linter.all false
set_option maxRecDepth 100000
set_option maxHeartbeats 4000000
namespace K01
open PySem L2 Dat
local macro_rules | `(tactic| walk_at "c") => `(tactic| first | exact trivial | (show _ ≤ 16777216; simp; done))
local macro_rules | `(tactic| walk_at "len") => `(tactic| (intro ds r h; (repeat obtain ⟨_, h⟩ := h); subst_vars; first | rfl | (simp; done)))
variable {P : Program} {w : World} {K : PySem.W.Frag} {mg : Str → Option Value} {base : Heap} {f : Addr} {cdv : Value} {A : Around} {outer : List PySem.Env} {s : Shared} {H : Hp} {E : XK}
/-! ### the law -/
def lsz : List Int := [8, 4, 4, 9, 4]
theorem lsz_ok : ∀ s, s ∈ lsz → 0 < s ∧ B 8990 s := sz_ok (by decide)
def manys : List Int := [3, 1, 2, 4, 0, 5, 8, 20]
theorem manys_bd : ∀ x, x ∈ manys → 0 ≤ x ∧ x ≤ 20 := by decide
def drawn (ns : List Int) (b : Int) (m : Nat) : List (Int × Int) := (List.range m).map fun (n : Nat) => fracZ (digZ (cellZ ns (b + (n : Int))) fsz)
theorem frac_ok (ns : List Int) (b : Int) : Fr (fracZ (digZ (cellZ ns b) fsz)) ∧ okF 134 (fracZ (digZ (cellZ ns b) fsz)) := fracZ_ok (dg_Z fun s hs => (fsz_ok s hs).1)
theorem drawn_small (ns : List Int) (b : Int) (m : Nat) : small (drawn ns b m) := by
  intro p hp
  obtain ⟨n, _, rfl⟩ := List.mem_map.mp hp
  exact (frac_ok ns _).2
theorem drawn_len (ns : List Int) (b : Int) (m : Nat) : (drawn ns b m).length = m := by simp [drawn]
theorem drawn_get {ns : List Int} {b : Int} {m n : Nat} {r : Dt} (h : ((drawn ns b m).map fr)[n]? = some r) : r = fr (fracZ (digZ (cellZ ns (b + (n : Int))) fsz)) := by
  rw [List.getElem?_map] at h
  unfold drawn at h
  rw [List.getElem?_map] at h
  cases e : (List.range m)[n]? with
  | none => rw [e] at h; cases h
  | some v =>
    have hv : v = n := by
      have hlt := lt_of_get e
      rw [List.getElem?_range (by simpa using hlt)] at e
      exact (Option.some.inj e).symm
    rw [e, hv] at h
    exact (Option.some.inj h).symm
def R_law (ds : List Dt) (r : Ret) : Prop := ∃ ns : List Int, ds = [.scr ns] ∧ r = .sh (.bl true)
theorem b_law (T : Top K mg) (dg : base.NoDigits) (pl : Plc (BX P w K mg base N_law "law" s_law f cdv A outer s H E) 5) : ∀ ds r, R_law ds r → DSs (BX P w K mg base N_law "law" s_law f cdv A outer s H E) (startD N_law ds) (defBody s_law) (fin r) := by
  rintro _ _ ⟨ns, rfl, rfl⟩
  refine' dss_set 1 pl rfl (de_call pl (d__law_digits T dg) (by decide) rfl (da_cons (de_callS pl (d__law_cell T dg) (by decide) rfl (da_cons (dv 0 rfl rfl) (da_cons de_int da_nil)) ⟨ns, 0, by decide, by decide, rfl, rfl⟩) (da_cons (de_lst (da_cons de_int (da_cons de_int (da_cons de_int (da_cons de_int (da_cons de_int da_nil)))))) da_nil)) ⟨_, false, lsz, lsz_ok, by decide, rfl, rfl⟩) ?_
  have hdg := dg_Z (ss := lsz) (c := cellZ ns 0) fun s hs => (lsz_ok s hs).1
  generalize digZ (cellZ ns 0) lsz = row at *
  obtain ⟨s0, _, rfl, a0, b0, s1, _, rfl, a1, b1, s2, _, rfl, a2, b2, s3, _, rfl, a3, b3, s4, _, rfl, a4, b4, rfl⟩ := hdg
  obtain ⟨mi, mm⟩ := lit_ix (l := manys) a0 b0
  obtain ⟨many0, many1⟩ := manys_bd _ mm
  refine' dss_set 2 pl rfl (de_ix (dc := .int (manys.getD s0.toNat 0)) (de_lst (da_cons de_int (da_cons de_int (da_cons de_int (da_cons de_int (da_cons de_int (da_cons de_int (da_cons de_int (da_cons de_int da_nil))))))))) (de_ix (dv 1 rfl rfl) de_int rfl) mi) ?_
  generalize manys.getD s0.toNat 0 = many at *
  obtain ⟨pf, pok⟩ := frac_ok ns 1
  refine' dss_set 3 pl rfl (de_callS pl (d__law_fraction T dg) (by decide) rfl (da_cons (de_callS pl (d__law_cell T dg) (by decide) rfl (da_cons (dv 0 rfl rfl) (da_cons de_int da_nil)) ⟨ns, 1, by decide, by decide, rfl, rfl⟩) da_nil) ⟨_, rfl, rfl⟩) ?_
  generalize fracZ (digZ (cellZ ns 1) fsz) = p at *
  refine' dss_cons (ds_lc 4 8 pl rfl rfl (sw_true rfl rfl rfl (by decide +kernel)) (di_rng1 rfl T.m_range (dv 2 rfl rfl) (by omega) (by omega)) (blkOk_by (N := N_law) (sc := defScope s_law) (by decide +kernel)) (fun _ _ _ _ _ => pg_name pl.nd rfl (Or.inl rfl)) ?hz1 ((drawn ns 2 many.toNat).map fr) (by rw [List.length_map, drawn_len, rngD_len]) ?hs1 ?_)
  case hz1 => rw [rngD_len]; show _ ≤ 16777216; omega
  case hs1 =>
    intro n d r h1 h2 t1 H1 C cl fp
    obtain ⟨hn, rfl⟩ := rngD_get h1
    obtain rfl := drawn_get h2
    exact de_callS pl.blk (d__law_fraction T dg) (by decide) rfl (da_cons (de_callS pl.blk (d__law_cell T dg) (by decide) rfl (da_cons (dv 0 rfl rfl) (da_cons (de_add de_int (dv 8 rfl rfl) rfl (by walk_at "c")) da_nil)) ⟨ns, 2 + (n : Int), by omega, by omega, by simp, rfl⟩) da_nil) ⟨_, rfl, rfl⟩
  refine' dss_frz 4 rfl ?_
  refine' dss_cons (ds_lc 5 8 pl rfl rfl (sw_true rfl rfl rfl (by decide +kernel)) (di_rng1 rfl T.m_range (dv 2 rfl rfl) (by omega) (by omega)) (blkOk_by (N := N_law) (sc := defScope s_law) (by decide +kernel)) (fun _ _ _ _ _ => pg_name pl.nd rfl (Or.inl rfl)) ?hz2 ((drawn ns 22 many.toNat).map fr) (by rw [List.length_map, drawn_len, rngD_len]) ?hs2 ?_)
  case hz2 => rw [rngD_len]; show _ ≤ 16777216; omega
  case hs2 =>
    intro n d r h1 h2 t1 H1 C cl fp
    obtain ⟨hn, rfl⟩ := rngD_get h1
    obtain rfl := drawn_get h2
    exact de_callS pl.blk (d__law_fraction T dg) (by decide) rfl (da_cons (de_callS pl.blk (d__law_cell T dg) (by decide) rfl (da_cons (dv 0 rfl rfl) (da_cons (de_add de_int (dv 8 rfl rfl) rfl (by walk_at "c")) da_nil)) ⟨ns, 22 + (n : Int), by omega, by omega, by simp, rfl⟩) da_nil) ⟨_, rfl, rfl⟩
  refine' dss_frz 5 rfl ?_
  have hs := drawn_small ns 2 many.toNat
  have ht := drawn_small ns 22 many.toNat
  have hl : (drawn ns 2 many.toNat).length = (drawn ns 22 many.toNat).length := by rw [drawn_len, drawn_len]
  have hl2 : (drawn ns 2 many.toNat).length ≤ 20 := by rw [drawn_len]; omega
  generalize drawn ns 2 many.toNat = ps at *
  generalize drawn ns 22 many.toNat = qs at *
  obtain ⟨qf, qok⟩ := frac_ok ns 42
  refine' dss_set 6 pl rfl (de_callS pl (d__law_fraction T dg) (by decide) rfl (da_cons (de_callS pl (d__law_cell T dg) (by decide) rfl (da_cons (dv 0 rfl rfl) (da_cons de_int da_nil)) ⟨ns, 42, by decide, by decide, rfl, rfl⟩) da_nil) ⟨_, rfl, rfl⟩) ?_
  generalize fracZ (digZ (cellZ ns 42) fsz) = q at *
  have zf : Fr (0, 1) := ⟨by decide, by decide⟩
  have zok : okF 134 (0, 1) := ⟨by decide, by decide, by decide⟩
  refine' dss_ifF (dt_eq (dt_w (dw_or (dt_not (dt_val (de_callS pl (d__law_parts_right T dg) (by decide) rfl (da_cons (dv 3 rfl rfl) (da_cons de_int da_nil)) ⟨p, _, rfl, pf, pok, rfl⟩))) fun h => (dw_or1 (dt_not (dt_val (de_callS pl (d__law_parts_right T dg) (by decide) rfl (da_cons (dv 6 rfl rfl) (da_cons de_int da_nil)) (by exact ⟨q, _, rfl, qf, qok, rfl⟩))))))) rfl) (dss_nil ?_)
  have hap : R__law_as_passed [.sq false [fr p, fr q], .int s4] (.sh (asP s4 [p, q])) := ⟨false, [p, q], s4, rfl, a4, b4, by simp, rfl⟩
  refine' dss_set 7 pl rfl (de_callS pl (d__law_as_passed T dg) (by decide) rfl (da_cons (de_lst (da_cons (dv 3 rfl rfl) (da_cons (dv 6 rfl rfl) da_nil))) (da_cons (de_ix (dv 1 rfl rfl) de_int rfl) da_nil)) hap) ?_
  have o1 : ∀ k l : Bool, R__law_order_right [frK k p, frK l q] (.sh (.bl true)) := fun k l => ⟨k, l, p, q, rfl, pf, qf, pok, qok, rfl⟩
  have o2 : ∀ k l : Bool, R__law_order_right [frK k q, frK l q] (.sh (.bl true)) := fun k l => ⟨k, l, q, q, rfl, qf, qf, qok, qok, rfl⟩
  have o3 : ∀ k l : Bool, R__law_order_right [frK k p, frK l (0, 1)] (.sh (.bl true)) := fun k l => ⟨k, l, p, (0, 1), rfl, pf, zf, pok, zok, rfl⟩
  have pq : small [p, q] := by
    intro x hx
    simp only [List.mem_cons, List.not_mem_nil, or_false] at hx
    rcases hx with rfl | rfl
    · exact pok
    · exact qok
  refine' dss_ifF (dt_eq (dt_w (dw_or (dt_not (dt_val (de_callS pl (d__law_order_right T dg) (by decide) rfl (da_cons (de_ix (dv 7 rfl rfl) de_int rfl) (da_cons (de_ix (dv 7 rfl rfl) de_int rfl) da_nil)) (o1 _ _)))) fun h => (dw_or1 (dt_not (dt_val (de_callS pl (d__law_order_right T dg) (by decide) rfl (da_cons (de_ix (dv 7 rfl rfl) de_int (by rfl)) (da_cons (de_ix (dv 7 rfl rfl) de_int (by rfl)) da_nil)) (by exact o2 _ _))))))) rfl) (dss_nil ?_)
  refine' dss_ifF (dt_eq (dt_w (dw_or (dt_not (dt_val (de_callS pl (d__law_order_right T dg) (by decide) rfl (da_cons (de_ix (dv 7 rfl rfl) de_int rfl) (da_cons (de_tup (da_cons de_int (da_cons de_int da_nil))) da_nil)) (o3 _ true)))) fun h => (dw_or1 (dt_not (dt_val (de_callS pl (d__law_is T dg) (by decide) rfl (da_cons (dv 7 rfl rfl) (da_cons (de_callS pl (d__law_as_passed T dg) (by decide) rfl (da_cons (de_lst (da_cons (dv 3 rfl rfl) (da_cons (dv 6 rfl rfl) da_nil))) (da_cons (de_ix (dv 1 rfl rfl) de_int (by rfl)) da_nil)) (by exact hap)) da_nil)) (by exact is_same (shP pq (by simp))))))))) rfl) (dss_nil ?_)
  refine' dss_ifF (dt_eq (dt_w (dw_or (dt_not (dt_val (de_callS pl (d__law_sums_right T dg) (by decide) rfl (da_cons (dv 4 rfl rfl) (da_cons (dv 5 rfl rfl) (da_cons (de_sl (dv 1 rfl rfl) (do_some de_int) (do_some de_int)) da_nil))) ⟨false, false, false, ps, qs, s1, s2, rfl, hs, ht, hl, hl2, a1, b1, a2, b2, rfl⟩))) fun h => (dw_or1 (dt_not (dt_val (de_callS pl (d__law_sums_right T dg) (by decide) rfl (da_cons (de_lst da_nil) (da_cons (de_lst da_nil) (da_cons (de_sl (dv 1 rfl rfl) (do_some de_int) (do_some de_int)) da_nil))) (by exact ⟨false, false, false, [], [], s1, s2, rfl, (fun _ h => nomatch h), (fun _ h => nomatch h), rfl, by simp, a1, b1, a2, b2, rfl⟩))))))) rfl) (dss_nil ?_)
  refine' dss_ifF (dt_eq (dt_w (dw_or (dt_not (dt_val (de_callS pl (d__law_bottoms_right T dg) (by decide) rfl (da_cons (dv 4 rfl rfl) (da_cons (de_ix (dv 1 rfl rfl) de_int rfl) (da_cons (de_add de_int (de_ix (dv 1 rfl rfl) de_int rfl) rfl (by walk_at "c")) da_nil))) ⟨false, ps, s1, 1 + s3, rfl, hs, hl2, a1, b1, by omega, by omega, rfl⟩))) fun h => (dw_or1 (dt_not (dt_val (de_callS pl (d__law_bottoms_right T dg) (by decide) rfl (da_cons (de_lst da_nil) (da_cons (de_ix (dv 1 rfl rfl) de_int (by rfl)) (da_cons (de_add de_int (de_ix (dv 1 rfl rfl) de_int (by rfl)) (by rfl) (by walk_at "c")) da_nil))) (by exact ⟨false, [], s2, 1 + s3, rfl, (fun _ h => nomatch h), by simp, a2, b2, by omega, by omega, rfl⟩))))))) rfl) (dss_nil ?_)
  exact dss_ret (de_callS pl (d__law_wheels_right T dg) (by decide) rfl (da_cons (dv 0 rfl rfl) da_nil) ⟨ns, rfl, rfl⟩) (.inl rfl)
theorem d_law (T : Top K mg) (dg : base.NoDigits) : Def P w K mg base "law" 6 ["script"] [] R_law := by
  obtain ⟨f, fd, hm, F⟩ := T.F_law
  exact ⟨f, fd, [], [], fng_data F sc_law (by walk_at "len") dg (fun cdv A outer s H E pl => b_law T dg pl), hm, F.kp, F.bindsN fun _ _ _ _ _ _ us hl => match us, hl with | [_], _ => rfl, .nil, fun _ => by simp [IsAll]⟩
end K01

set_option Elab.async false
set_option linter.all false
set_option maxRecDepth 100000
set_option maxHeartbeats 0
namespace K01
open PySem L2 Dat
abbrev Rw : PySem.W.OpenRow := PySem.W.OpenLaw.row PySem.Challenge.rw_cutmakers_k01_parts_and_marks
abbrev hk : PySem.W.Hook := hookX 4 fa fn bs
def ob (s : PySem.W.SharedT) : AlX := obsX 4 fa fn bs (HandSHeadRun.getT s)
theorem ob_eq (s : PySem.W.SharedT) : ob s = hk.obs s.abs := obsX_eq (HandSHeadRun.getT_eq s)
def loose0 : List Str := ["CutError", "ZeroBottom", "ratio", "plus", "times", "compare", "lesser", "greater", "total", "dot", "floor_of", "ceiling_of", "part_of", "common_bottom", "lifted"]
def loose1 : List Str := ["mark_of", "order_of", "_law_is", "_law_whole", "_law_cell", "_law_digits", "_law_gcd", "_law_ratio", "_law_is_ratio", "_law_joined", "_law_fraction", "_law_equals", "_law_as_passed", "_law_bottom", "_law_parts_right"]
def loose2 : List Str := ["_law_order_right", "_law_sums_right", "_law_bottoms_right", "_law_marks", "_law_fraction_of", "_law_value", "_law_step", "_law_first_return", "_law_mark_right", "_law_wheels_right"]
abbrev loose : List Str := loose0 ++ loose1 ++ loose2
abbrev qv : Program := PySem.W.view Rw.prog [0, 45]
theorem run (w : World) : HandSHeadRun.RunEqI Rw qv hk ob 4000 loose w := by
  unfold HandSHeadRun.RunEqI
  kernel_rfl
theorem top_ok {K : PySem.W.Frag} {h : Heap} {mg : Str → Option Value} (X : K.In h) (G : h.Ns mainGlobals mg) (c : SaysX fa fn bs K) : Top K mg where
  F_ratio := (c.1.def_ 0 (d := q_ratio) rfl).elim fun fd F => ⟨_, fd, He.glo_ok X G (c.1.fact 0 (f := .glo "ratio") rfl), F⟩
  F_plus := (c.1.def_ 1 (d := q_plus) rfl).elim fun fd F => ⟨_, fd, He.glo_ok X G (c.1.fact 1 (f := .glo "plus") rfl), F⟩
  F_times := (c.1.def_ 2 (d := q_times) rfl).elim fun fd F => ⟨_, fd, He.glo_ok X G (c.1.fact 2 (f := .glo "times") rfl), F⟩
  F_compare := (c.1.def_ 3 (d := q_compare) rfl).elim fun fd F => ⟨_, fd, He.glo_ok X G (c.1.fact 3 (f := .glo "compare") rfl), F⟩
  F_lesser := (c.1.def_ 4 (d := q_lesser) rfl).elim fun fd F => ⟨_, fd, He.glo_ok X G (c.1.fact 4 (f := .glo "lesser") rfl), F⟩
  F_greater := (c.1.def_ 5 (d := q_greater) rfl).elim fun fd F => ⟨_, fd, He.glo_ok X G (c.1.fact 5 (f := .glo "greater") rfl), F⟩
  F_total := (c.1.def_ 6 (d := q_total) rfl).elim fun fd F => ⟨_, fd, He.glo_ok X G (c.1.fact 6 (f := .glo "total") rfl), F⟩
  F_dot := (c.1.def_ 7 (d := q_dot) rfl).elim fun fd F => ⟨_, fd, He.glo_ok X G (c.1.fact 7 (f := .glo "dot") rfl), F⟩
  F_floor_of := (c.1.def_ 8 (d := q_floor_of) rfl).elim fun fd F => ⟨_, fd, He.glo_ok X G (c.1.fact 8 (f := .glo "floor_of") rfl), F⟩
  F_ceiling_of := (c.1.def_ 9 (d := q_ceiling_of) rfl).elim fun fd F => ⟨_, fd, He.glo_ok X G (c.1.fact 9 (f := .glo "ceiling_of") rfl), F⟩
  F_part_of := (c.1.def_ 10 (d := q_part_of) rfl).elim fun fd F => ⟨_, fd, He.glo_ok X G (c.1.fact 10 (f := .glo "part_of") rfl), F⟩
  F_common_bottom := (c.1.def_ 11 (d := q_common_bottom) rfl).elim fun fd F => ⟨_, fd, He.glo_ok X G (c.1.fact 11 (f := .glo "common_bottom") rfl), F⟩
  F_lifted := (c.1.def_ 12 (d := q_lifted) rfl).elim fun fd F => ⟨_, fd, He.glo_ok X G (c.1.fact 12 (f := .glo "lifted") rfl), F⟩
  F_mark_of := (c.1.def_ 13 (d := q_mark_of) rfl).elim fun fd F => ⟨_, fd, He.glo_ok X G (c.1.fact 13 (f := .glo "mark_of") rfl), F⟩
  F_order_of := (c.1.def_ 14 (d := q_order_of) rfl).elim fun fd F => ⟨_, fd, He.glo_ok X G (c.1.fact 14 (f := .glo "order_of") rfl), F⟩
  F__law_is := (c.1.def_ 15 (d := q__law_is) rfl).elim fun fd F => ⟨_, fd, He.glo_ok X G (c.1.fact 15 (f := .glo "_law_is") rfl), F⟩
  F__law_whole := (c.1.def_ 16 (d := q__law_whole) rfl).elim fun fd F => ⟨_, fd, He.glo_ok X G (c.1.fact 16 (f := .glo "_law_whole") rfl), F⟩
  F__law_cell := (c.1.def_ 17 (d := q__law_cell) rfl).elim fun fd F => ⟨_, fd, He.glo_ok X G (c.1.fact 17 (f := .glo "_law_cell") rfl), F⟩
  F__law_digits := (c.1.def_ 18 (d := q__law_digits) rfl).elim fun fd F => ⟨_, fd, He.glo_ok X G (c.1.fact 18 (f := .glo "_law_digits") rfl), F⟩
  F__law_gcd := (c.1.def_ 19 (d := q__law_gcd) rfl).elim fun fd F => ⟨_, fd, He.glo_ok X G (c.1.fact 19 (f := .glo "_law_gcd") rfl), F⟩
  F__law_ratio := (c.1.def_ 20 (d := q__law_ratio) rfl).elim fun fd F => ⟨_, fd, He.glo_ok X G (c.1.fact 20 (f := .glo "_law_ratio") rfl), F⟩
  F__law_is_ratio := (c.1.def_ 21 (d := q__law_is_ratio) rfl).elim fun fd F => ⟨_, fd, He.glo_ok X G (c.1.fact 21 (f := .glo "_law_is_ratio") rfl), F⟩
  F__law_joined := (c.1.def_ 22 (d := q__law_joined) rfl).elim fun fd F => ⟨_, fd, He.glo_ok X G (c.1.fact 22 (f := .glo "_law_joined") rfl), F⟩
  F__law_fraction := (c.1.def_ 23 (d := q__law_fraction) rfl).elim fun fd F => ⟨_, fd, He.glo_ok X G (c.1.fact 23 (f := .glo "_law_fraction") rfl), F⟩
  F__law_equals := (c.1.def_ 24 (d := q__law_equals) rfl).elim fun fd F => ⟨_, fd, He.glo_ok X G (c.1.fact 24 (f := .glo "_law_equals") rfl), F⟩
  F__law_as_passed := (c.1.def_ 25 (d := q__law_as_passed) rfl).elim fun fd F => ⟨_, fd, He.glo_ok X G (c.1.fact 25 (f := .glo "_law_as_passed") rfl), F⟩
  F__law_bottom := (c.1.def_ 26 (d := q__law_bottom) rfl).elim fun fd F => ⟨_, fd, He.glo_ok X G (c.1.fact 26 (f := .glo "_law_bottom") rfl), F⟩
  F__law_parts_right := (c.1.def_ 27 (d := q__law_parts_right) rfl).elim fun fd F => ⟨_, fd, He.glo_ok X G (c.1.fact 27 (f := .glo "_law_parts_right") rfl), F⟩
  F__law_order_right := (c.1.def_ 28 (d := q__law_order_right) rfl).elim fun fd F => ⟨_, fd, He.glo_ok X G (c.1.fact 28 (f := .glo "_law_order_right") rfl), F⟩
  F__law_sums_right := (c.1.def_ 29 (d := q__law_sums_right) rfl).elim fun fd F => ⟨_, fd, He.glo_ok X G (c.1.fact 29 (f := .glo "_law_sums_right") rfl), F⟩
  F__law_bottoms_right := (c.1.def_ 30 (d := q__law_bottoms_right) rfl).elim fun fd F => ⟨_, fd, He.glo_ok X G (c.1.fact 30 (f := .glo "_law_bottoms_right") rfl), F⟩
  F__law_marks := (c.1.def_ 31 (d := q__law_marks) rfl).elim fun fd F => ⟨_, fd, He.glo_ok X G (c.1.fact 31 (f := .glo "_law_marks") rfl), F⟩
  F__law_fraction_of := (c.1.def_ 32 (d := q__law_fraction_of) rfl).elim fun fd F => ⟨_, fd, He.glo_ok X G (c.1.fact 32 (f := .glo "_law_fraction_of") rfl), F⟩
  F__law_value := (c.1.def_ 33 (d := q__law_value) rfl).elim fun fd F => ⟨_, fd, He.glo_ok X G (c.1.fact 33 (f := .glo "_law_value") rfl), F⟩
  F__law_step := (c.1.def_ 34 (d := q__law_step) rfl).elim fun fd F => ⟨_, fd, He.glo_ok X G (c.1.fact 34 (f := .glo "_law_step") rfl), F⟩
  F__law_first_return := (c.1.def_ 35 (d := q__law_first_return) rfl).elim fun fd F => ⟨_, fd, He.glo_ok X G (c.1.fact 35 (f := .glo "_law_first_return") rfl), F⟩
  F__law_mark_right := (c.1.def_ 36 (d := q__law_mark_right) rfl).elim fun fd F => ⟨_, fd, He.glo_ok X G (c.1.fact 36 (f := .glo "_law_mark_right") rfl), F⟩
  F__law_wheels_right := (c.1.def_ 37 (d := q__law_wheels_right) rfl).elim fun fd F => ⟨_, fd, He.glo_ok X G (c.1.fact 37 (f := .glo "_law_wheels_right") rfl), F⟩
  F_law := (c.1.def_ 38 (d := q_law) rfl).elim fun fd F => ⟨_, fd, He.glo_ok X G (c.1.fact 38 (f := .glo "law") rfl), F⟩
  m_abs := He.free_ok X G (c.1.fact 39 (f := .free "abs") rfl)
  m_bool := He.free_ok X G (c.1.fact 40 (f := .free "bool") rfl)
  m_int := He.free_ok X G (c.1.fact 41 (f := .free "int") rfl)
  m_isinstance := He.free_ok X G (c.1.fact 42 (f := .free "isinstance") rfl)
  m_len := He.free_ok X G (c.1.fact 43 (f := .free "len") rfl)
  m_list := He.free_ok X G (c.1.fact 44 (f := .free "list") rfl)
  m_max := He.free_ok X G (c.1.fact 45 (f := .free "max") rfl)
  m_range := He.free_ok X G (c.1.fact 46 (f := .free "range") rfl)
  m_repr := He.free_ok X G (c.1.fact 47 (f := .free "repr") rfl)
  m_tuple := He.free_ok X G (c.1.fact 48 (f := .free "tuple") rfl)
  m_zip := He.free_ok X G (c.1.fact 49 (f := .free "zip") rfl)
  m_gcd := c.blt X G 0 (b := ("gcd", "math.gcd")) rfl
end K01

set_option Elab.async false
set_option linter.all false
set_option maxRecDepth 100000
set_option maxHeartbeats 0
open PySem PySem.W PySem.Calls PyProof.Rows L2 Dat
theorem PySem.Challenge.cw_cutmakers_k01_parts_and_marks_holds : PySem.Challenge.rw_cutmakers_k01_parts_and_marks.Holds := by
  w_on; o_law
  refine HandSHeadRun.head_imp (r := OpenLaw.row PySem.Challenge.rw_cutmakers_k01_parts_and_marks) (q := K01.qv) (H := K01.hk) (ob := K01.ob) (M := 4000) (loose := K01.loose) (d := HandSHeadRun.topDef (OpenLaw.row PySem.Challenge.rw_cutmakers_k01_parts_and_marks).prog 45) (kwd := []) K01.ob_eq K01.run
    (by kernel_rfl) (by kernel_rfl) (by kernel_rfl) (by rfl) (by first | assumption | decide +kernel) (by decide +kernel) ⟨rfl, rfl, rfl, rfl, rfl, by decide +kernel⟩ ?hw ?hc
  case hw => w_witness2
  case hc =>
    refine Dat.walk_ofX (l := PySem.Challenge.rw_cutmakers_k01_parts_and_marks) (n := 63) (k := 6) (x := "script") rfl (by decide) (by kernel_rfl) ⟨rfl, by decide, by decide⟩ ?F
    intro w mg fa h Y G hmg0
    obtain ⟨K, KX, c⟩ := Y
    have T := K01.top_ok KX G c
    have hmg : mg ("law" : PySem.Str) = some (.ref fa) := by
      have e : (HandSHeadRun.topDef (OpenLaw.row PySem.Challenge.rw_cutmakers_k01_parts_and_marks).prog 45).name = ("law" : PySem.Str) := by kernel_rfl
      rw [← e]; exact hmg0
    obtain ⟨f0, fd, h0, F⟩ := id T.F_law
    have ef : f0 = fa := by
      have := h0.symm.trans hmg
      cases this; rfl
    subst ef
    have b := FunD.bindsA (ps := ["script"]) F fun _ _ _ _ _ _ us hl => match us, hl with | [_], _ => rfl
    refine ⟨K, fd, K01.R_law, KX, fun s u => b s [u] rfl, fun ns _ _ => ⟨ns, rfl, rfl⟩, fun base kb gb dg => ?_⟩
    exact fng_data F K01.sc_law (by rintro _ _ ⟨_, rfl, _⟩; rfl) dg (fun cdv A outer s H E pl => K01.b_law T dg pl)
