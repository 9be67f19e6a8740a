import PyProof.Rows.All
import Wide.All
import OpenK.AllK
import Wide.FinOn
import HandS.ForMost
import HandS.Exc
import HandS.ExcInit
import HandS.ExcOwn
import HandS.ExcSuper
import KE.KSuper
import KE.KExcSuper
import HandS.TryMany
import HandS.ExcField
import HandS.ExcIs
import PyProof.NeData
import HandS.DeepEq
import HandS.Deep
import HandS.Style
import HandS.TupLe
import HandS.TupAny
import HandS.Text
import HandS.FStr
import HandS.More
import HandS.Strs
import HandS.SortInts
import HandS.IsInst
import HandS.CallSlots
import HandS.Property
import HandS.Walk
import HandS.DictComp
import HandS.Flow
import HandS.Words
import HandS.EndBits
import KE.RegKSuper
import KE.KOwnIn
import PySem.Challenge.RW_metersure_k04_lots_and_borders
set_option Elab.async false
set_option linter.all false
set_option maxRecDepth 100000
/-! pure data, and how a heap holds it -/
namespace Mp
open PySem PySem.Spec PyProof.Rows L2

/-- data of the programs: values without a heap -/
inductive D where
  | non | bl (b : Bool) | int (i : Int) | str (s : Str)
  | lst (xs : List D) | tup (xs : List D)
  | dK (ks : List Key) (vs : List D) | dT (ks : List (List Key)) (vs : List D)
  | obj (c : String) (vs : List D)
  | scr (ns : List Int)
  deriving Inhabited

/-- what of the module is told: what its names hold, the fields of its classes -/
structure Gd where
  mg : Str → Option Value
  cf : String → List Str
  K : PySem.W.Frag
/-- what may be locked while a loop walks it -/
def lockable : HO → Bool
  | .dK _ => true
  | .dT _ => true
  | _ => false
/-- all that stands in H may be read in H' -/
def LeL (H H' : Hp) : Prop := ∀ a o, H a = some o → H' a = some o ∨ (lockable o = true ∧ ∃ ob, H' a = some (.frz ob o))
theorem LeL.refl (H : Hp) : LeL H H := fun _ _ h => .inl h
theorem LeL.of_same {H H' : Hp} (h : Same H H') : LeL H H' := fun a o e => .inl (h a o e)
theorem LeL.trans {H H1 H2 : Hp} (h : LeL H H1) (g : LeL H1 H2) : LeL H H2 := fun a o e => by
  rcases h a o e with e1 | ⟨l, ob, e1⟩
  · exact g a o e1
  · rcases g a _ e1 with e2 | ⟨l2, _⟩
    · exact .inr ⟨l, ob, e2⟩
    · cases l2
theorem LeL.rd {H H' : Hp} (h : LeL H H') {a : Addr} {u : HO} (r : Rd H a u) : Rd H' a u := by
  rcases r with r | ⟨ob, r⟩
  · rcases h a u r with e | ⟨_, ob, e⟩
    · exact .inl e
    · exact .inr ⟨ob, e⟩
  · rcases h a _ r with e | ⟨l, _⟩
    · exact .inr ⟨ob, e⟩
    · cases l
theorem LeL.tup {H H' : Hp} (h : LeL H H') {a : Addr} {xs : List V} (r : H a = some (.tup xs)) : H' a = some (.tup xs) := by
  rcases h a _ r with e | ⟨l, _⟩
  · exact e
  · cases l
theorem LeL.lst {H H' : Hp} (h : LeL H H') {a : Addr} {xs : List V} (r : H a = some (.lst xs)) : H' a = some (.lst xs) := by
  rcases h a _ r with e | ⟨l, _⟩
  · exact e
  · cases l
theorem LeL.frz {H H' : Hp} (h : LeL H H') {a : Addr} {ob : Obj} {u : HO} (r : H a = some (.frz ob u)) : H' a = some (.frz ob u) := by
  rcases h a _ r with e | ⟨l, _⟩
  · exact e
  · cases l
theorem LeL.ins {H H' : Hp} (h : LeL H H') {a C dx : Addr} {fs : List (Str × V)} (r : H a = some (.ins C dx fs)) : H' a = some (.ins C dx fs) := by
  rcases h a _ r with e | ⟨l, _⟩
  · exact e
  · cases l


/-- .. without a lock -/
def Le (H H' : Hp) : Prop := ∀ a o, H a = some o → H' a = some o
theorem Le.toL {H H' : Hp} (h : Le H H') : LeL H H' := fun a o e => .inl (h a o e)
theorem Le.refl (H : Hp) : Le H H := fun _ _ h => h
theorem Le.of_same {H H' : Hp} (h : Same H H') : Le H H' := fun a o e => h a o e
theorem Le.trans {H H1 H2 : Hp} (h : Le H H1) (g : Le H1 H2) : Le H H2 := fun a o e => g a o (h a o e)
theorem Le.rd {H H' : Hp} (h : Le H H') {a : Addr} {u : HO} (r : Rd H a u) : Rd H' a u := h.toL.rd r
theorem Le.tup {H H' : Hp} (h : Le H H') {a : Addr} {xs : List V} (r : H a = some (.tup xs)) : H' a = some (.tup xs) := h a _ r
theorem Le.lst {H H' : Hp} (h : Le H H') {a : Addr} {xs : List V} (r : H a = some (.lst xs)) : H' a = some (.lst xs) := h a _ r
theorem Le.frz {H H' : Hp} (h : Le H H') {a : Addr} {ob : Obj} {u : HO} (r : H a = some (.frz ob u)) : H' a = some (.frz ob u) := h a _ r
theorem Le.ins {H H' : Hp} (h : Le H H') {a C dx : Addr} {fs : List (Str × V)} (r : H a = some (.ins C dx fs)) : H' a = some (.ins C dx fs) := h a _ r

section
variable (mg : Gd)
mutual
/-- the heap H holds the data at the value -/
def Rep (H : Hp) : V → D → Prop
  | v, .non => v = .non
  | v, .bl b => v = .bl b
  | v, .int i => v = .int i
  | v, .str s => v = .str s
  | v, .lst ds => ∃ a vs, v = .ref a ∧ H a = some (.lst vs) ∧ Reps H vs ds
  | v, .tup ds => ∃ a vs, v = .ref a ∧ H a = some (.tup vs) ∧ Reps H vs ds
  | v, .dK ks ds => ∃ a vs, v = .ref a ∧ ks.length = vs.length ∧ Rd H a (.dK (ks.zip vs)) ∧ Reps H vs ds
  | v, .dT ks ds => ∃ a vs, v = .ref a ∧ ks.length = vs.length ∧ Rd H a (.dT (ks.zip vs)) ∧ Reps H vs ds
  | v, .obj c ds => ∃ a C dx vs, v = .ref a ∧ vs.length ≤ (mg.cf c).length ∧ mg.mg c = some (.ref C) ∧ H a = some (.ins C dx ((mg.cf c).zip vs)) ∧ Reps H vs ds
  | v, .scr ns => ∃ a, v = .ref a ∧ SqL mg.K H a (ns.map V.int)
def Reps (H : Hp) : List V → List D → Prop
  | vs, [] => vs = []
  | vs, d :: ds => ∃ v r, vs = v :: r ∧ Rep H v d ∧ Reps H r ds
end

/-- data that no one can change -/
def isAtom : D → Bool
  | .non => true
  | .bl _ => true
  | .int _ => true
  | .str _ => true
  | .tup _ => true
  | _ => false

/-- .. that lies in no heap -/
def isScal : D → Bool
  | .non => true
  | .bl _ => true
  | .int _ => true
  | .str _ => true
  | _ => false

def All3 {α β γ : Type} (R : α → β → γ → Prop) : List α → List β → List γ → Prop
  | a :: as, b :: bs, c :: cs => R a b c ∧ All3 R as bs cs
  | [], [], [] => True
  | _, _, _ => False

/-- what of it may be changed, k levels deep, stands at the addresses S, which F does not have; the rest is in F, which stays -/
def RepN : Nat → Hp → Hp → V → D → List Addr → Prop
  | 0, F, _, v, d, S => S = [] ∧ Rep mg F v d
  | k + 1, F, H, v, d, S => (S = [] ∧ isAtom d = true ∧ Rep mg F v d) ∨ ∃ p, v = .ref p ∧ F p = none ∧ S.Nodup ∧
    ((∃ ds vs Ss, d = .lst ds ∧ H p = some (.lst vs) ∧ All3 (RepN k F H) vs ds Ss ∧ S = p :: Ss.flatten) ∨
     (∃ ks ds vs Ss, d = .dK ks ds ∧ ks.length = vs.length ∧ H p = some (.dK (ks.zip vs)) ∧ All3 (RepN k F H) vs ds Ss ∧ S = p :: Ss.flatten) ∨
     (∃ ks ds vs Ss, d = .dT ks ds ∧ ks.length = vs.length ∧ H p = some (.dT (ks.zip vs)) ∧ All3 (RepN k F H) vs ds Ss ∧ S = p :: Ss.flatten) ∨
     (∃ c ds C dx vs Ss, d = .obj c ds ∧ vs.length ≤ (mg.cf c).length ∧ mg.mg c = some (.ref C) ∧ F dx = none ∧ H dx = some (.own p) ∧ H p = some (.ins C dx ((mg.cf c).zip vs)) ∧ All3 (RepN k F H) vs ds Ss ∧ S = p :: dx :: Ss.flatten))
end

section
variable {mg : Gd} {F F' H H' : Hp}
mutual
theorem Rep.monoL (h : LeL H H') : ∀ {v : V} {d : D}, Rep mg H v d → Rep mg H' v d
  | v, .non, r => by unfold Rep at r ⊢; exact r
  | v, .bl b, r => by unfold Rep at r ⊢; exact r
  | v, .int i, r => by unfold Rep at r ⊢; exact r
  | v, .str s, r => by unfold Rep at r ⊢; exact r
  | v, .lst ds, r => by
    unfold Rep at r ⊢
    obtain ⟨a, vs, e, q, z⟩ := r
    exact ⟨a, vs, e, h.lst q, Reps.monoL h z⟩
  | v, .tup ds, r => by
    unfold Rep at r ⊢
    obtain ⟨a, vs, e, q, z⟩ := r
    exact ⟨a, vs, e, h.tup q, Reps.monoL h z⟩
  | v, .dK ks ds, r => by
    unfold Rep at r ⊢
    obtain ⟨a, vs, e, l, q, z⟩ := r
    exact ⟨a, vs, e, l, h.rd q, Reps.monoL h z⟩
  | v, .dT ks ds, r => by
    unfold Rep at r ⊢
    obtain ⟨a, vs, e, l, q, z⟩ := r
    exact ⟨a, vs, e, l, h.rd q, Reps.monoL h z⟩
  | v, .obj c ds, r => by
    unfold Rep at r ⊢
    obtain ⟨a, C, dx, vs, e, l, m, q, z⟩ := r
    exact ⟨a, C, dx, vs, e, l, m, h.ins q, Reps.monoL h z⟩
  | v, .scr ns, r => by
    unfold Rep at r ⊢
    obtain ⟨a, e, q⟩ := r
    exact ⟨a, e, q.elim (fun z => .inl (h.rd z)) .inr⟩
theorem Reps.monoL (h : LeL H H') : ∀ {vs : List V} {ds : List D}, Reps mg H vs ds → Reps mg H' vs ds
  | vs, [], r => by unfold Reps at r ⊢; exact r
  | vs, d :: ds, r => by
    unfold Reps at r ⊢
    obtain ⟨v, t, e, q, z⟩ := r
    exact ⟨v, t, e, Rep.monoL h q, Reps.monoL h z⟩
end
theorem Rep.mono (h : Le H H') {v : V} {d : D} (r : Rep mg H v d) : Rep mg H' v d := Rep.monoL h.toL r
theorem Reps.mono (h : Le H H') {v : List V} {d : List D} (r : Reps mg H v d) : Reps mg H' v d := Reps.monoL h.toL r
theorem Reps.length : ∀ {vs : List V} {ds : List D}, Reps mg H vs ds → vs.length = ds.length
  | _, [], r => by unfold Reps at r; subst r; rfl
  | _, _ :: _, r => by
    unfold Reps at r
    obtain ⟨v, t, e, q, z⟩ := r
    subst e
    rw [List.length_cons, List.length_cons, Reps.length z]
theorem Reps.get : ∀ {vs : List V} {ds : List D} {i : Nat} {d : D}, Reps mg H vs ds → ds[i]? = some d → ∃ v, vs[i]? = some v ∧ Rep mg H v d
  | _, [], i, d, r, e => by simp at e
  | _, x :: xs, i, d, r, e => by
    unfold Reps at r
    obtain ⟨v, t, e1, q, z⟩ := r
    subst e1
    cases i with
    | zero => simp at e; subst e; exact ⟨v, rfl, q⟩
    | succ i => obtain ⟨w, h1, h2⟩ := Reps.get z (i := i) (d := d) (by simpa using e); exact ⟨w, by simpa using h1, h2⟩
theorem Reps.append : ∀ {vs ws : List V} {ds es : List D}, Reps mg H vs ds → Reps mg H ws es → Reps mg H (vs ++ ws) (ds ++ es)
  | _, _, [], _, r, q => by unfold Reps at r; subst r; exact q
  | _, _, d :: ds, _, r, q => by
    unfold Reps at r
    obtain ⟨v, t, e, q1, z⟩ := r
    subst e
    show Reps mg H (v :: (t ++ _)) (d :: (ds ++ _))
    unfold Reps
    exact ⟨v, _, rfl, q1, Reps.append z q⟩
theorem Reps.cons {v : V} {vs : List V} {d : D} {ds : List D} (h : Rep mg H v d) (t : Reps mg H vs ds) : Reps mg H (v :: vs) (d :: ds) := by
  unfold Reps; exact ⟨v, vs, rfl, h, t⟩
theorem Reps.nil : Reps mg H [] [] := by unfold Reps; rfl
theorem Reps.one {v : V} {d : D} (h : Rep mg H v d) : Reps mg H [v] [d] := Reps.cons h Reps.nil
theorem Reps.drop : ∀ {vs : List V} {ds : List D} (n : Nat), Reps mg H vs ds → Reps mg H (vs.drop n) (ds.drop n)
  | _, _, 0, r => r
  | _, [], n + 1, r => by unfold Reps at r; subst r; exact Reps.nil
  | _, d :: ds, n + 1, r => by
    unfold Reps at r
    obtain ⟨v, t, e, _, z⟩ := r
    subst e
    exact Reps.drop n z
theorem Reps.take : ∀ {vs : List V} {ds : List D} (n : Nat), Reps mg H vs ds → Reps mg H (vs.take n) (ds.take n)
  | _, _, 0, r => Reps.nil
  | _, [], n + 1, r => by unfold Reps at r; subst r; exact Reps.nil
  | _, d :: ds, n + 1, r => by
    unfold Reps at r
    obtain ⟨v, t, e, q, z⟩ := r
    subst e
    exact Reps.cons q (Reps.take n z)
theorem Reps.reverse : ∀ {vs : List V} {ds : List D}, Reps mg H vs ds → Reps mg H vs.reverse ds.reverse
  | _, [], r => by unfold Reps at r; subst r; exact Reps.nil
  | _, d :: ds, r => by
    unfold Reps at r
    obtain ⟨v, t, e, q, z⟩ := r
    subst e
    rw [List.reverse_cons, List.reverse_cons]
    exact Reps.append (Reps.reverse z) (Reps.one q)
theorem Reps.set : ∀ {vs : List V} {ds : List D} {v : V} {d : D} (i : Nat), Reps mg H vs ds → Rep mg H v d → Reps mg H (vs.set i v) (ds.set i d)
  | _, [], _, _, i, r, q => by unfold Reps at r; subst r; exact Reps.nil
  | _, x :: xs, v, d, i, r, q => by
    unfold Reps at r
    obtain ⟨w, t, e, q1, z⟩ := r
    subst e
    cases i with
    | zero => exact Reps.cons q z
    | succ i => exact Reps.cons q1 (Reps.set i z q)

theorem All3.length {α β γ : Type} {R : α → β → γ → Prop} : ∀ {as : List α} {bs : List β} {cs : List γ}, All3 R as bs cs → as.length = bs.length ∧ bs.length = cs.length
  | [], [], [], _ => ⟨rfl, rfl⟩
  | a :: as, b :: bs, c :: cs, h => by
    obtain ⟨h1, h2⟩ := All3.length h.2
    simp [h1, h2]
  | [], [], _ :: _, h => h.elim
  | [], _ :: _, _, h => h.elim
  | _ :: _, [], _, h => h.elim
  | _ :: _, _ :: _, [], h => h.elim
theorem All3.imp {α β γ : Type} {R R' : α → β → γ → Prop} : ∀ {as : List α} {bs : List β} {cs : List γ}, All3 R as bs cs → (∀ a b c, R a b c → R' a b c) → All3 R' as bs cs
  | [], [], [], _, _ => True.intro
  | a :: as, b :: bs, c :: cs, h, f => ⟨f _ _ _ h.1, All3.imp h.2 f⟩
  | [], [], _ :: _, h, _ => h.elim
  | [], _ :: _, _, h, _ => h.elim
  | _ :: _, [], _, h, _ => h.elim
  | _ :: _, _ :: _, [], h, _ => h.elim
theorem All3.reps {R : V → D → List Addr → Prop} : ∀ {vs : List V} {ds : List D} {cs : List (List Addr)}, All3 R vs ds cs → (∀ v d S, R v d S → Rep mg H v d) → Reps mg H vs ds
  | [], [], [], _, _ => Reps.nil
  | a :: as, b :: bs, c :: cs, h, f => Reps.cons (f _ _ _ h.1) (All3.reps h.2 f)
  | [], [], _ :: _, h, _ => h.elim
  | [], _ :: _, _, h, _ => h.elim
  | _ :: _, [], _, h, _ => h.elim
  | _ :: _, _ :: _, [], h, _ => h.elim

theorem RepN.rep (le : Le F H) : ∀ (k : Nat) {v : V} {d : D} {S : List Addr}, RepN mg k F H v d S → Rep mg H v d
  | 0, v, d, S, h => Rep.mono le h.2
  | k + 1, v, d, S, h => by
    rcases h with ⟨_, _, h⟩ | ⟨p, e, _, _, h⟩
    · exact Rep.mono le h
    · subst e
      rcases h with ⟨ds, vs, Ss, e, hp, ha, _⟩ | ⟨ks, ds, vs, Ss, e, hl, hp, ha, _⟩ | ⟨ks, ds, vs, Ss, e, hl, hp, ha, _⟩ | ⟨c, ds, C, dx, vs, Ss, e, hl, hm, _, _, hp, ha, _⟩
      · subst e; unfold Rep; exact ⟨p, vs, rfl, hp, ha.reps fun _ _ _ h => RepN.rep le k h⟩
      · subst e; unfold Rep; exact ⟨p, vs, rfl, hl, .inl hp, ha.reps fun _ _ _ h => RepN.rep le k h⟩
      · subst e; unfold Rep; exact ⟨p, vs, rfl, hl, .inl hp, ha.reps fun _ _ _ h => RepN.rep le k h⟩
      · subst e; unfold Rep; exact ⟨p, C, dx, vs, rfl, hl, hm, hp, ha.reps fun _ _ _ h => RepN.rep le k h⟩

/-- the heap has grown, and so has what stays -/
structure Grow (F H F' H' : Hp) : Prop where
  same : Same H H'
  ext : Same F F'
  new : ∀ a, F a = none → F' a ≠ none → H a = none
  le : Le F' H'
theorem Grow.refl (le : Le F H) : Grow F H F H := ⟨fun _ _ e => e, fun _ _ e => e, fun _ e h => absurd e h, le⟩
theorem Grow.trans {F1 H1 F2 H2 : Hp} (a : Grow F H F1 H1) (b : Grow F1 H1 F2 H2) : Grow F H F2 H2 := by
  refine ⟨fun x o e => b.same x o (a.same x o e), fun x o e => b.ext x o (a.ext x o e), fun x e h => ?_, b.le⟩
  by_cases q : F1 x = none
  · have z := b.new x q h
    cases w : H x with
    | none => rfl
    | some o => rw [a.same x o w] at z; cases z
  · exact a.new x e q

theorem RepN.grow (g : Grow F H F' H') : ∀ (k : Nat) {v : V} {d : D} {S : List Addr}, RepN mg k F H v d S → RepN mg k F' H' v d S
  | 0, v, d, S, h => ⟨h.1, Rep.mono (Le.of_same g.ext) h.2⟩
  | k + 1, v, d, S, h => by
    rcases h with ⟨a, b, h⟩ | ⟨p, e, hF, hn, h⟩
    · exact .inl ⟨a, b, Rep.mono (Le.of_same g.ext) h⟩
    · have nF : ∀ {x : Addr} {o : HO}, F x = none → H x = some o → F' x = none := fun {x o} h1 h2 => by
        cases q : F' x with
        | none => rfl
        | some o' =>
          have z := g.new x h1 (by rw [q]; exact fun z => by cases z)
          rw [z] at h2; cases h2
      refine .inr ⟨p, e, ?_, hn, ?_⟩
      · rcases h with ⟨ds, vs, Ss, e, hp, ha, _⟩ | ⟨ks, ds, vs, Ss, e, hl, hp, ha, _⟩ | ⟨ks, ds, vs, Ss, e, hl, hp, ha, _⟩ | ⟨c, ds, C, dx, vs, Ss, e, hl, hm, _, _, hp, ha, _⟩ <;> exact nF hF hp
      · rcases h with ⟨ds, vs, Ss, e, hp, ha, es⟩ | ⟨ks, ds, vs, Ss, e, hl, hp, ha, es⟩ | ⟨ks, ds, vs, Ss, e, hl, hp, ha, es⟩ | ⟨c, ds, C, dx, vs, Ss, e, hl, hm, hd, hdx, hp, ha, es⟩
        · exact .inl ⟨ds, vs, Ss, e, g.same _ _ hp, ha.imp fun _ _ _ h => RepN.grow g k h, es⟩
        · exact .inr (.inl ⟨ks, ds, vs, Ss, e, hl, g.same _ _ hp, ha.imp fun _ _ _ h => RepN.grow g k h, es⟩)
        · exact .inr (.inr (.inl ⟨ks, ds, vs, Ss, e, hl, g.same _ _ hp, ha.imp fun _ _ _ h => RepN.grow g k h, es⟩))
        · exact .inr (.inr (.inr ⟨c, ds, C, dx, vs, Ss, e, hl, hm, nF hd hdx, g.same _ _ hdx, g.same _ _ hp, ha.imp fun _ _ _ h => RepN.grow g k h, es⟩))

/-- all of it stands in H, and F has none of it -/
theorem All3.mem {R : V → D → List Addr → Prop} : ∀ {vs : List V} {ds : List D} {cs : List (List Addr)} {a : Addr}, All3 R vs ds cs → a ∈ cs.flatten → ∃ v d S, R v d S ∧ a ∈ S
  | [], [], [], a, _, h => by simp at h
  | v :: vs, d :: ds, S :: cs, a, h, hm => by
    rw [List.flatten_cons] at hm
    rcases List.mem_append.mp hm with z | z
    · exact ⟨v, d, S, h.1, z⟩
    · exact All3.mem h.2 z
  | [], [], _ :: _, _, h, _ => h.elim
  | [], _ :: _, _, _, h, _ => h.elim
  | _ :: _, [], _, _, h, _ => h.elim
  | _ :: _, _ :: _, [], _, h, _ => h.elim
theorem RepN.at : ∀ (k : Nat) {v : V} {d : D} {S : List Addr}, RepN mg k F H v d S → ∀ a ∈ S, F a = none ∧ H a ≠ none
  | 0, v, d, S, h => fun a m => by rw [h.1] at m; cases m
  | k + 1, v, d, S, h => fun a m => by
    rcases h with ⟨e, _⟩ | ⟨p, _, hF, _, h⟩
    · rw [e] at m; cases m
    · have sub : ∀ {vs : List V} {ds : List D} {Ss : List (List Addr)}, All3 (RepN mg k F H) vs ds Ss → a ∈ Ss.flatten → F a = none ∧ H a ≠ none := fun ha hm => by
        obtain ⟨v', d', S', r, z⟩ := ha.mem hm
        exact RepN.at k r a z
      rcases h with ⟨ds, vs, Ss, e, hp, ha, es⟩ | ⟨ks, ds, vs, Ss, e, hl, hp, ha, es⟩ | ⟨ks, ds, vs, Ss, e, hl, hp, ha, es⟩ | ⟨c, ds, C, dx, vs, Ss, e, hl, hm, hd, hdx, hp, ha, es⟩
      · rw [es] at m
        rcases List.mem_cons.mp m with z | z
        · subst z; exact ⟨hF, by rw [hp]; exact fun z => by cases z⟩
        · exact sub ha z
      · rw [es] at m
        rcases List.mem_cons.mp m with z | z
        · subst z; exact ⟨hF, by rw [hp]; exact fun z => by cases z⟩
        · exact sub ha z
      · rw [es] at m
        rcases List.mem_cons.mp m with z | z
        · subst z; exact ⟨hF, by rw [hp]; exact fun z => by cases z⟩
        · exact sub ha z
      · rw [es] at m
        rcases List.mem_cons.mp m with z | z
        · subst z; exact ⟨hF, by rw [hp]; exact fun z => by cases z⟩
        · rcases List.mem_cons.mp z with z | z
          · subst z; exact ⟨hd, by rw [hdx]; exact fun z => by cases z⟩
          · exact sub ha z
theorem RepN.nodup : ∀ (k : Nat) {v : V} {d : D} {S : List Addr}, RepN mg k F H v d S → S.Nodup
  | 0, v, d, S, h => by rw [h.1]; exact List.nodup_nil
  | k + 1, v, d, S, h => by
    rcases h with ⟨e, _⟩ | ⟨p, _, _, hn, _⟩
    · rw [e]; exact List.nodup_nil
    · exact hn

/-- what stays, with all at S put to it -/
def froze (F H : Hp) (S : List Addr) : Hp := fun a => if a ∈ S then H a else F a
theorem froze_in {S : List Addr} {a : Addr} (h : a ∈ S) : froze F H S a = H a := if_pos h
theorem froze_out {S : List Addr} {a : Addr} (h : a ∉ S) : froze F H S a = F a := if_neg h
theorem froze_le (le : Le F H) (S : List Addr) : Le (froze F H S) H := fun a o e => by
  by_cases h : a ∈ S
  · rw [froze_in h] at e; exact e
  · rw [froze_out h] at e; exact le a o e
theorem froze_ext {S : List Addr} (h : ∀ a ∈ S, F a = none) : Same F (froze F H S) := fun a o e => by
  by_cases q : a ∈ S
  · rw [h a q] at e; cases e
  · rw [froze_out q]; exact e
/-- it is frozen whole -/
theorem RepN.frozen : ∀ (k : Nat) {v : V} {d : D} {S T : List Addr}, RepN mg k F H v d S → (∀ a ∈ S, a ∈ T) → (∀ a ∈ T, F a = none) → Rep mg (froze F H T) v d
  | 0, v, d, S, T, h, _, hT => Rep.mono (Le.of_same (froze_ext hT)) h.2
  | k + 1, v, d, S, T, h, hS, hT => by
    rcases h with ⟨_, _, h⟩ | ⟨p, e, hF, _, h⟩
    · exact Rep.mono (Le.of_same (froze_ext hT)) h
    · subst e
      have sub : ∀ {vs : List V} {ds : List D} {Ss : List (List Addr)}, All3 (RepN mg k F H) vs ds Ss → (∀ a ∈ Ss.flatten, a ∈ T) → Reps mg (froze F H T) vs ds := fun {vs} => by
        induction vs with
        | nil =>
          intro ds Ss ha _
          cases ds with
          | nil => exact Reps.nil
          | cons d ds => exact ha.elim
        | cons v vs ih =>
          intro ds Ss ha hm
          cases ds with
          | nil => exact ha.elim
          | cons d ds =>
            cases Ss with
            | nil => exact ha.elim
            | cons S Ss =>
              rw [List.flatten_cons] at hm
              exact Reps.cons (RepN.frozen k ha.1 (fun a z => hm a (List.mem_append_left _ z)) hT) (ih ha.2 fun a z => hm a (List.mem_append_right _ z))
      rcases h with ⟨ds, vs, Ss, e, hp, ha, es⟩ | ⟨ks, ds, vs, Ss, e, hl, hp, ha, es⟩ | ⟨ks, ds, vs, Ss, e, hl, hp, ha, es⟩ | ⟨c, ds, C, dx, vs, Ss, e, hl, hm, hd, hdx, hp, ha, es⟩
      · subst e; subst es; unfold Rep
        exact ⟨p, vs, rfl, (by rw [froze_in (hS p List.mem_cons_self)]; exact hp), sub ha fun a z => hS a (List.mem_cons_of_mem _ z)⟩
      · subst e; subst es; unfold Rep
        exact ⟨p, vs, rfl, hl, .inl (by rw [froze_in (hS p List.mem_cons_self)]; exact hp), sub ha fun a z => hS a (List.mem_cons_of_mem _ z)⟩
      · subst e; subst es; unfold Rep
        exact ⟨p, vs, rfl, hl, .inl (by rw [froze_in (hS p List.mem_cons_self)]; exact hp), sub ha fun a z => hS a (List.mem_cons_of_mem _ z)⟩
      · subst e; subst es; unfold Rep
        exact ⟨p, C, dx, vs, rfl, hl, hm, by rw [froze_in (hS p List.mem_cons_self)]; exact hp, sub ha fun a z => hS a (List.mem_cons_of_mem _ (List.mem_cons_of_mem _ z))⟩
end
end Mp
/-! results, frames, readings -/
namespace Mp
open PySem PySem.Spec PyProof.Rows L2

/-- a result: a value, an exception of the program (its class, its attribute), or nothing that is told -/
inductive R (α : Type) where
  | ok (a : α) | exc (c : String) (x : Option D) | bad
def R.bind {α β : Type} : R α → (α → R β) → R β
  | .ok a, f => f a
  | .exc c x, _ => .exc c x
  | .bad, _ => .bad
instance : Monad R where
  pure := R.ok
  bind := R.bind
def ofO {α : Type} : Option α → R α
  | some a => .ok a
  | none => .bad
/-- what is wanted of a result -/
def RW {α : Type} (x : R α) (p : α → Prop) (q : String → Option D → Prop) : Prop := match x with
  | .ok a => p a
  | .exc c x => q c x
  | .bad => False
section
variable {α β : Type} {p p' : α → Prop} {q q' : String → Option D → Prop}
theorem RW.imp : ∀ {x : R α}, RW x p q → (∀ a, p a → p' a) → (∀ c x, q c x → q' c x) → RW x p' q'
  | .ok a, h, f, _ => f a h
  | .exc c x, h, _, g => g c x h
  | .bad, h, _, _ => h.elim
theorem RW_bind {x : R α} {f : α → R β} {p : β → Prop} : RW (x >>= f) p q ↔ RW x (fun a => RW (f a) p q) q := by
  cases x <;> exact Iff.rfl
theorem RW_ok {a : α} : RW (.ok a) p q ↔ p a := Iff.rfl
theorem RW_pure {a : α} : RW (pure a : R α) p q ↔ p a := Iff.rfl
theorem RW_ofO {o : Option α} : RW (ofO o) p q ↔ ∃ a, o = some a ∧ p a := by
  cases o with
  | none => exact ⟨fun h => h.elim, fun ⟨_, h, _⟩ => by cases h⟩
  | some a => exact ⟨fun h => ⟨a, rfl, h⟩, fun ⟨_, h, z⟩ => by cases h; exact z⟩
end

/-- a slot: empty; a value that stays; one of one's own, k + 1 levels deep; one that is borrowed -/
inductive Sl where
  | no | val (d : D) | own (k : Nat) (d : D) | bor (d : D)
  deriving Inhabited
abbrev Sls := List Sl

/-- what is given at the entry: what stays there, the heap, what may be read -/
structure Ent where
  F : Hp
  H : Hp
  B : Hp
  P : Option V

section
variable (mg : Gd)
/-- the frame: the slots hold the data -/
structure Frm (e : Ent) (env : Sls) (F : Hp) (σ : L2.St) (H : Hp) (T : Nat → List Addr) : Prop where
  same : Same e.H H
  le : Le F H
  ext : Same e.F F
  new : ∀ a, e.F a = none → F a ≠ none → e.H a = none
  leB : LeL e.B e.H
  len : σ.length = env.length
  val : ∀ (i : Nat) (d : D), env[i]? = some (Sl.val d) → ∃ v, σ[i]? = some (some v) ∧ Rep mg F v d
  bor : ∀ (i : Nat) (d : D), env[i]? = some (Sl.bor d) → ∃ v, σ[i]? = some (some v) ∧ Rep mg e.B v d
  own : ∀ (i k : Nat) (d : D), env[i]? = some (Sl.own k d) → ∃ v, σ[i]? = some (some v) ∧ RepN mg (k + 1) F H v d (T i)
  frs : ∀ (i k : Nat) (d : D), env[i]? = some (Sl.own k d) → ∀ a ∈ T i, e.H a = none
  dis : ∀ (i j k l : Nat) (d d' : D), i ≠ j → env[i]? = some (Sl.own k d) → env[j]? = some (Sl.own l d') → ∀ a ∈ T i, a ∉ T j
  pin : ∀ (v : V) (k : Nat) (d : D), e.P = some v → env[0]? = some (Sl.own k d) → σ[0]? = some (some v)

/-- an exception as it stands in the heap -/
def ExR (F H : Hp) (c : String) (x : Option D) (C : Addr) (dd : Option Addr) : Prop :=
  mg.mg c = some (.ref C) ∧ match x with
    | none => dd = none
    | some d => ∃ a v n, dd = some a ∧ mg.cf c = [n] ∧ H a = some (.xd [(n, v)]) ∧ Rep mg F v d
/-- what is wanted of an exception -/
def EX (W : WX) (σ : L2.St) (F H : Hp) (c : String) (x : Option D) : Prop :=
  ∀ C dd F' H', Grow F H F' H' → ExR mg F' H' c x C dd → W (.ref C) dd σ H'
/-- an expression's reading: its value is the data that m tells, k levels of it new -/
def rdE (e : Ent) (W : WX) (m : Sls → R D) (k : Nat) : TE := fun σ H Q => ∃ env F T, Frm mg e env F σ H T ∧
  RW (m env) (fun d => ∀ v F' H' S, Grow F H F' H' → RepN mg k F' H' v d S → (∀ a ∈ S, H a = none) → Q v H') (EX mg W σ F H)
/-- .. it may only be looked at -/
def rdB (e : Ent) (W : WX) (m : Sls → R D) : TE := fun σ H Q => ∃ env F T, Frm mg e env F σ H T ∧
  RW (m env) (fun d => ∀ v F' H', Grow F H F' H' → Rep mg H' v d → Q v H') (EX mg W σ F H)
/-- a test's -/
def rdT (e : Ent) (W : WX) (m : Sls → R Bool) : TT := fun σ H Q => ∃ env F T, Frm mg e env F σ H T ∧
  RW (m env) (fun b => ∀ F' H', Grow F H F' H' → Q b H') (EX mg W σ F H)
/-- a list of arguments': bs tells which may only be looked at -/
def RepM : List Bool → Hp → Hp → List V → List D → Prop
  | _, _, _, vs, [] => vs = []
  | bs, F, H, vs, d :: ds => ∃ v r, vs = v :: r ∧ Rep mg (if bs.headD false then H else F) v d ∧ RepM bs.tail F H r ds
def rdA (e : Ent) (W : WX) (bs : List Bool) (m : Sls → R (List D)) : TA := fun σ H Q => ∃ env F T, Frm mg e env F σ H T ∧
  RW (m env) (fun ds => ∀ vs F' H', Grow F H F' H' → RepM mg bs F' H' vs ds → Q vs H') (EX mg W σ F H)
end

section
variable {mg : Gd} {e : Ent} {env : Sls} {F F' H H' : Hp} {σ : L2.St} {T : Nat → List Addr} {W : WX}
theorem Frm.grow (f : Frm mg e env F σ H T) (g : Grow F H F' H') : Frm mg e env F' σ H' T where
  same := fun a o h => g.same a o (f.same a o h)
  le := g.le
  ext := fun a o h => g.ext a o (f.ext a o h)
  new := fun a h h' => by
    by_cases q : F a = none
    · have z := g.new a q h'
      cases w : e.H a with
      | none => rfl
      | some o => rw [f.same a o w] at z; cases z
    · exact f.new a h q
  leB := f.leB
  len := f.len
  val := fun i d h => let ⟨v, a, b⟩ := f.val i d h; ⟨v, a, Rep.mono (Le.of_same g.ext) b⟩
  bor := f.bor
  own := fun i k d h => let ⟨v, a, b⟩ := f.own i k d h; ⟨v, a, RepN.grow g _ b⟩
  frs := f.frs
  dis := f.dis
  pin := f.pin
theorem EX.grow {c : String} {x : Option D} {F1 H1 : Hp} (h : EX mg W σ F H c x) (g : Grow F H F1 H1) : EX mg W σ F1 H1 c x :=
  fun C dd F' H' g' r => h C dd F' H' (g.trans g') r

/-- weaker readings -/
theorem PE.of {X : Cx} {ex : Expr} {t t' : TE} (h : PE X ex t) (i : ∀ σ H Q, t' σ H Q → t σ H Q) : PE X ex t' := ⟨fun pins s σ H Q I q => h.run pins s σ H Q I (i σ H Q q)⟩
theorem PT.of {X : Cx} {ex : Expr} {t t' : TT} (h : PT X ex t) (i : ∀ σ H Q, t' σ H Q → t σ H Q) : PT X ex t' := ⟨fun pins s σ H Q I q => h.run pins s σ H Q I (i σ H Q q)⟩
theorem PA.of {X : Cx} {es : List Expr} {t t' : TA} (h : PA X es t) (i : ∀ σ H Q, t' σ H Q → t σ H Q) : PA X es t' := ⟨fun pos pins s σ H Q I q => h.run pos pins s σ H Q I (i σ H Q q)⟩
theorem rdE_zero {m : Sls → R D} {k : Nat} : ∀ σ H Q, rdE mg e W m 0 σ H Q → rdE mg e W m k σ H Q := fun σ H Q ⟨env, F, T, f, h⟩ =>
  ⟨env, F, T, f, h.imp (fun d q v F' H' S g r fr => by
    have hS : ∀ a ∈ S, F' a = none := fun a m => (RepN.at k r a m).1
    refine q v (froze F' H' S) H' [] ⟨g.same, fun a o z => froze_ext hS a o (g.ext a o z), fun a z z' => ?_, froze_le g.le S⟩ ⟨rfl, RepN.frozen k r (fun _ z => z) hS⟩ (fun a z => by cases z)
    by_cases m : a ∈ S
    · exact fr a m
    · rw [froze_out m] at z'; exact g.new a z z') fun _ _ z => z⟩
theorem rdE_bor {m : Sls → R D} {k : Nat} : ∀ σ H Q, rdB mg e W m σ H Q → rdE mg e W m k σ H Q := fun σ H Q ⟨env, F, T, f, h⟩ =>
  ⟨env, F, T, f, h.imp (fun d q v F' H' S g r _ => q v F' H' g (RepN.rep g.le k r)) fun _ _ z => z⟩

/-- the address that F has not -/
theorem Le.none (le : Le F H) {a : Addr} (h : H a = none) : F a = none := by
  cases q : F a with
  | none => rfl
  | some o => rw [le a o q] at h; cases h
theorem upd_none {a b : Addr} {o : HO} (h : b ≠ a) : upd H a o b = H b := upd_ne h
theorem same_new {a : Addr} {o : HO} (h : H a = none) : Same H (upd H a o) := fun b u e => by
  rw [upd_ne (ne_of_none e h)]; exact e
/-- a new object that is one's own -/
theorem Grow.fresh {a : Addr} {o : HO} (le : Le F H) (h : H a = none) : Grow F H F (upd H a o) :=
  ⟨same_new h, fun _ _ z => z, fun b e z => absurd e z, fun b u z => same_new h b u (le b u z)⟩
/-- a new object that stays -/
theorem Grow.keep {a : Addr} {o : HO} (le : Le F H) (h : H a = none) : Grow F H (upd F a o) (upd H a o) := by
  have hF := le.none h
  refine ⟨same_new h, same_new hF, fun b e z => ?_, fun b u z => ?_⟩
  · by_cases q : b = a
    · rw [q]; exact h
    · rw [upd_ne q] at z; exact absurd e z
  · by_cases q : b = a
    · subst q; rw [upd_same] at z ⊢; exact z
    · rw [upd_ne q] at z ⊢; exact le b u z
theorem Rep.grow (g : Grow F H F' H') {v : V} {d : D} (r : Rep mg F v d) : Rep mg F' v d := Rep.mono (Le.of_same g.ext) r
theorem Rep.up (g : Grow F H F' H') {v : V} {d : D} (r : Rep mg H v d) : Rep mg H' v d := Rep.mono (Le.of_same g.same) r
theorem Reps.grow (g : Grow F H F' H') {v : List V} {d : List D} (r : Reps mg F v d) : Reps mg F' v d := Reps.mono (Le.of_same g.ext) r
theorem Reps.up (g : Grow F H F' H') {v : List V} {d : List D} (r : Reps mg H v d) : Reps mg H' v d := Reps.mono (Le.of_same g.same) r
theorem RepM.reps : ∀ {bs : List Bool} {vs : List V} {ds : List D}, Le F H → RepM mg bs F H vs ds → Reps mg H vs ds
  | bs, vs, [], _, h => by unfold RepM at h; subst h; exact Reps.nil
  | bs, vs, d :: ds, le, h => by
    unfold RepM at h
    obtain ⟨v, r, e, h1, h2⟩ := h
    subst e
    refine Reps.cons ?_ (RepM.reps le h2)
    split at h1
    · exact h1
    · exact Rep.mono le h1
theorem RepM.frozen : ∀ {vs : List V} {ds : List D}, RepM mg [] F H vs ds → Reps mg F vs ds
  | vs, [], h => by unfold RepM at h; subst h; exact Reps.nil
  | vs, d :: ds, h => by
    unfold RepM at h
    obtain ⟨v, r, e, h1, h2⟩ := h
    subst e
    exact Reps.cons h1 (RepM.frozen h2)
theorem RepM.up (g : Grow F H F' H') : ∀ {bs : List Bool} {vs : List V} {ds : List D}, RepM mg bs F H vs ds → RepM mg bs F' H' vs ds
  | bs, vs, [], h => by unfold RepM at h ⊢; exact h
  | bs, vs, d :: ds, h => by
    unfold RepM at h ⊢
    obtain ⟨v, r, e, h1, h2⟩ := h
    refine ⟨v, r, e, ?_, RepM.up g h2⟩
    split
    · rename_i q; rw [if_pos q] at h1; exact Rep.up g h1
    · rename_i q; rw [if_neg q] at h1; exact Rep.grow g h1
theorem rep_atom {v : V} {d : D} {k : Nat} (h : isAtom d = true) (r : Rep mg F v d) : RepN mg k F H v d [] := by
  cases k with
  | zero => exact ⟨rfl, r⟩
  | succ k => exact .inl ⟨rfl, h, r⟩
end

/-! ### rules by values, any that there is -/
section
variable {X : Cx}
def anyOp (X : Cx) (f : Value → Value → Sem Value) : R2 := fun x y H Q => ∃ r : R2, OpR X f r ∧ r x y H Q
theorem anyOp_ok (f : Value → Value → Sem Value) : OpR X f (anyOp X f) := fun pins s σ H x y v u Q I rx ry ⟨r, ho, h⟩ => ho pins s σ H x y v u Q I rx ry h
def anyUn (X : Cx) (f : Value → Sem Value) : V → Hp → VK → Prop := fun x H Q => ∃ r : V → Hp → VK → Prop, UnR X f r ∧ r x H Q
theorem anyUn_ok (f : Value → Sem Value) : UnR X f (anyUn X f) := fun pins s σ H x v Q I rx ⟨r, ho, h⟩ => ho pins s σ H x v Q I rx h
def anyCall (X : Cx) (f : Value) : List V → Hp → VK → Prop := fun xs H Q => ∃ r : List V → Hp → VK → Prop, CallR X f r ∧ r xs H Q
theorem anyCall_ok (f : Value) : CallR X f (anyCall X f) := fun pins s σ H xs us Q I rx ⟨r, ho, h⟩ => ho pins s σ H xs us Q I rx h
def anyIx (X : Cx) : R2 := fun x y H Q => ∃ r : R2, IxR X r ∧ r x y H Q
theorem anyIx_ok : IxR X (anyIx X) := fun value slice pins s σ H x y v u Q I rx ry ⟨r, ho, h⟩ hs => ho value slice pins s σ H x y v u Q I rx ry h hs
def anyMt (X : Cx) (id : String) : V → List V → Hp → VK → Prop := fun x xs H Q => ∃ r : V → List V → Hp → VK → Prop, MtR X id r ∧ r x xs H Q
theorem anyMt_ok (id : String) : MtR X id (anyMt X id) := fun pins s σ H x xs v us Q I rx rs ⟨r, ho, h⟩ => ho pins s σ H x xs v us Q I rx rs h
def anySl (X : Cx) : V → Option Int → Option Int → Hp → VK → Prop := fun x lo hi H Q => ∃ r, SlR X r ∧ r x lo hi H Q
def anySet (X : Cx) : TSet := fun o i v H Q => ∃ t : TSet, PSet X t ∧ t o i v H Q
theorem anySet_ok : PSet X (anySet X) := fun pins s σ H o i v ov iv u Q I ro ri rv ⟨t, ho, h⟩ => ho pins s σ H o i v ov iv u Q I ro ri rv h
def anyIp (X : Cx) (op : Operator) : TIp := fun x y H Q => ∃ t : TIp, PIp X op t ∧ t x y H Q
theorem anyIp_ok (op : Operator) : PIp X op (anyIp X op) := fun pins s σ H x y v u Q I rx ry ⟨t, ho, h⟩ => ho pins s σ H x y v u Q I rx ry h
end
end Mp
/-! an exception class's own __init__: super().__init__("..."), then self.x = x -/
namespace Mp
open PySem PySem.Spec PyProof.Rows L2 PySem.SeqAt

/-- the wrapper that super() hands out, called -/
theorem call_up {prog : Program} {w : World} {A : Around} {E : Value → Shared → Prop} {h : Heap} {g : Array GenState} {d : Drawn} {t : Nat} {os : OsState} {u e t0 : Addr} {rest : List Value} {Q : Value → Shared → Prop}
    {nm q : Str} {C N : Addr} {bs bm : List Value} {hdct : Bool} {sn : List Str} {sub : List Value} {ab : Bool} {col : Option Bool} {dd : Option Addr} {k0 k1 k2 k3 k5 : Option Value}
    (hC : h.get? C = some (excClassObj nm q C N bs bm hdct sn sub ab col dd k0 k1 k2 k3 k5 "ValueError.__new__")) (he : h.get? e = some (PySem.HandSPX.excO C t0)) (hu : h.get? u = some (PySem.W.kxs_mw "ValueError.__init__" e)) (hz : rest.length ≤ sizeLine)
    (hq : ∀ h' t1, (∀ b o, b ≠ e → h.get? b = some o → h'.get? b = some o) → h'.get? e = some (PySem.HandSPX.excO C t1) → Q .none ⟨h', g, d, t, os⟩) : wpAny (model prog w) A (call (.ref u) rest) Q E ⟨h, g, d, t, os⟩ :=
  wpAny_call (codeAny_of_tree (by
    show wpAny _ A.in1 (callAny (.ref u) ⟨rest, []⟩) _ _ _
    simp only [callAny]
    refine wpAny_bind (wpAny_load hu (?_ : wpAny _ _ _ _ _ _))
    simp only [PySem.W.kxs_mw, show (Value.type "method-wrapper" == Value.type "method" || Value.type "method-wrapper" == Value.type "builtin_function_or_method" || Value.type "method-wrapper" == Value.type "method-wrapper") = true from by decide, if_true]
    refine PySem.W.KFB.if_so (by decide) (wpAny_bind (PySem.ESX.check_bound F.excBase_ValueError hC he rfl (wpAny_bind (wpAny_pure (wpAny_pure ⟨Code.quiet_builtin _ (by decide +kernel), codeAny_builtin F.excBase_ValueError.initEntry ?_⟩)))))
    rw [Around.under_plainId F.excBase_ValueError.init.plain _]
    wp_walk
    refine hq _ h.objs.size (fun b o hb ho => (Heap.get?_update_other _ _ (Ne.symm hb)).trans (Heap.get?_push_of_some _ ho)) ((Heap.get?_update_self _ (Heap.get?_push_of_some _ he) rfl).trans ?_)
    rfl))

/-- what is wanted of it: the object is new, it gets its dict -/
def spExi (C : Addr) (attr : Str) : Sp := fun vs H Q _ => ∃ (a : Addr) (v : V), vs = [.ref a, v] ∧ H a = some (exo a C none) ∧ ∀ dx, H dx = none → dx ≠ a → Q .non (upd (upd H dx (exd dx [(attr, v)])) a (exo a C (some dx)))
/-- the text of such a def -/
def exiBody (attr par txt : Str) (p0 p1 p2 p3 p4 p5 p6 p7 p8 p9 : Pos) (j : Nat) : List Stmt :=
  [.Expr (.Call (.Attribute (.Call (.Name "super" p0) [] [] p1) "__init__" p2) [.Constant (.str txt) j p3] [] p4) p5, .Assign [.Attribute (.Name "self" p6) attr p7] (.Name par p8) p9]
/-- what the module holds of it -/
structure ExiAt (prog : Program) (K : PySem.W.Frag) (C f : Addr) (attr : Str) (fd : FuncData) (par : Str) : Prop where
  ex : ∃ (oc : Value) (od : Option Addr) (osl : Array (Option Value)) (name qual txt : Str) (params : Arguments) (scope : Scope) (dV kV doc pm ct : Value) (an : Option Addr) (cda cc : Addr) (p0 p1 p2 p3 p4 p5 p6 p7 p8 p9 : Pos) (j : Nat) (ar : Arg)
      (ccl : Value) (cdd : Option Addr) (vs : Array Value) (ccs : Array (Option Value)) (file : Str) (tf : Tok) (cl : Value) (cld : Option Addr) (csl : Array (Option Value)),
    fd = PySem.W.ksFn name qual params (exiBody attr par txt p0 p1 p2 p3 p4 p5 p6 p7 p8 p9 j) scope dV kV doc pm an (.ref cda) ct cc ∧
    K.lookup f = some ⟨oc, od, .func (PySem.W.ksFn name qual params (exiBody attr par txt p0 p1 p2 p3 p4 p5 p6 p7 p8 p9 j) scope dV kV doc pm an (.ref cda) ct cc), osl⟩ ∧ PySem.W.codeIn K (.ref cda) qual = true ∧
    (params.posonlyargs ++ params.args).head? = some ar ∧ ar.arg = "self" ∧ K.lookup cda = some ⟨ccl, cdd, .fields vs, ccs⟩ ∧ vs[2]? = some (.str file tf) ∧ ((prog.main.file : Str) == file) = true ∧
    K.lookup cc = some ⟨cl, cld, .cell (some (.ref C)), csl⟩ ∧
    scope.kind = .function ∧ scope.isCoroutine = false ∧ scope.isGenerator = false ∧ (∀ x ∈ scope.names, x.2 ≠ .cell) ∧ (∀ x ∈ scope.names, x.2 = .free → x.1 = "__class__") ∧ scope.names.lookup ("super" : Str) = some .globalImplicit ∧ scope.names.lookup ("__class__" : Str) = some .free ∧
    scope.names.lookup ("self" : Str) = some .local ∧ scope.names.lookup par = some .local ∧ (par == ("__debug__" : Str)) = false ∧ (par == ("__classdict__" : Str)) = false ∧ ("self" : Str) ≠ par ∧ (p2.endLine == p4.line) = true
  oex : OexC K C
  no : PySem.W.findIn K (.ref C) attr = some none
  up : PySem.W.ks_superIn K C C "__init__" = some (some (.builtin "ValueError.__init__"))
  ve : PySem.W.subIn K (.ref C) (.type "ValueError") = some true
  me : PySem.W.mroIn K C (.ref C) = some true
  st : PySem.W.nsIn K cStatics "thirdparty.any" = some none
  ns : PySem.W.nsIn K mainGlobals "super" = some none
  top : (prog.main.scope.names.lookup ("super" : Str)).isSome = false

theorem up_tree {env : Env} {o : Expr} {m txt : Str} {ap pos p3 : Pos} {j : Nat} (hline : (ap.endLine == pos.line) = true) : ∃ pl : Sem Bool, eval (.Call (.Attribute o m ap) [.Constant (.str txt) j p3] [] pos) env = (do
      let ov ← attributeBase o m env (eval o env)
      standAt ap.atName
      let (f, first) ← holding [ov] (getMethod ov m pl)
      callWith pos f first (backTo pos (starEach [.Constant (.str txt) j p3] env)) []) := by
  refine ⟨(do return (← importBound o env).getD true), ?_⟩
  have e1 : eval (.Call (.Attribute o m ap) [.Constant (.str txt) j p3] [] pos) env = (do
      let ov ← attributeBase o m env (eval o env)
      standAt ap.atName
      methodCall o m ap pos env ov 1 (backTo pos (starEach [.Constant (.str txt) j p3] env)) []) := rfl
  rw [e1]
  unfold methodCall methodCallPos calleeOf
  rw [show methodCallForm 1 (backTo pos (starEach [.Constant (.str txt) j p3] env)) [] = true from rfl, hline]
  rfl
theorem exi_fn {prog : Program} {w : World} {K : PySem.W.Frag} {mg : Str → Option Value} {base : Heap} {C f : Addr} {attr par : Str} {fd : FuncData} {k : Nat} (T : ExiAt prog K C f attr fd par) : FnOk prog w K mg base (L2.CX prog w) k f fd ["self", par] (spExi C attr) := by
  obtain ⟨oc, od, osl, name, qual, txt, params, scope, dV, kV, doc, pm, ct, an, cda, cc, p0, p1, p2, p3, p4, p5, p6, p7, p8, p9, j, ar, ccl, cdd, vs, ccs, file, tf, cl, cld, csl, rfl, lk, hcd, hp, har, hcode, hvs, hfile, hcell, hk, hco, hgen, nocell, nofree, hsup, hcls, hself, hpar, hdb, hcdc, hne, hline⟩ := T.ex
  refine ⟨fun vs' H Q E ⟨a, v, e, _⟩ => by rw [e]; rfl, fun A outer s H args us vs' Q E hr e0 hb r hsp => ?_⟩
  obtain ⟨a, v, ev, ha, q⟩ := hsp
  subst ev
  have KX : K.In s.heap := e0.mod.kin.keeps fun b o e => (e0.bs b o e).1
  have lim : s.heap.NoLimit := e0.mod.nolimit.keeps fun b o e => (e0.bs b o e).1
  cases r with
  | @cons _ u0 _ us ra rw' =>
  cases rw' with
  | @cons _ u1 _ us rv rn =>
  cases rn
  obtain rfl : u0 = Value.ref a := ra
  refine PySem.ks_codeAny_call_defAt (fd := PySem.W.ksFn name qual params (exiBody attr par txt p0 p1 p2 p3 p4 p5 p6 p7 p8 p9 j) scope dV kV doc pm an (.ref cda) ct cc) hr.depth (KX _ _ lk) rfl lim (PySem.W.codeRec_of KX hcd) rfl hb nocell (fun y hy => ?_) (fun h₀ hns hkp => ?_) hco hgen hk
  · have hy : y = (("self" : Str), Value.ref a) ∨ y = (par, u1) := by simpa using hy
    rcases hy with e | e
    · rw [e]; exact hself
    · rw [e]; exact hpar
  let env := PySem.W.ksEnv qual scope s.heap.objs.size f (.ref cda) cc
  let X : Cx := { prog := prog, w := w, K := K, mg := mg, base := base, A := A.deeper env, N := ["self", par], s_0 := s, H_0 := H, env := env, outer := outer, stack := env :: outer, ex := [], fn := (fun x => x != ("__class__" : Str)), calm := true, pn := [], xe := fun e s' => wpAny (model prog w) (A.deeper env) (leaving env e) (fun _ s'' => CR (L2.CX prog w) outer prog w H s Q E (.error e) s'') (fun e' s'' => CR (L2.CX prog w) outer prog w H s Q E (.error e') s'') s' }
  have hmap : ∀ x, [(("self" : Str), Value.ref a), (par, u1)].reverse.lookup x = if x = par then some u1 else if x = ("self" : Str) then some (.ref a) else none := fun x => by
    show List.lookup x [(par, u1), (("self" : Str), Value.ref a)] = _
    rw [List.lookup_cons, List.lookup_cons]
    by_cases h1 : x = par
    · rw [h1]; simp
    · rw [beq_eq_false_iff_ne.mpr h1, if_neg h1]
      by_cases h2 : x = "self"
      · rw [h2]; simp
      · rw [beq_eq_false_iff_ne.mpr h2, if_neg h2]; rfl
  have ccb : base.get? cc = some ⟨cl, cld, .cell (some (.ref C)), csl⟩ := e0.mod.kin _ _ hcell
  have I : Inv X [] [some (.ref a), some v] H ⟨h₀, s.gens, s.drawn, s.toks + [(("self" : Str), Value.ref a), (par, u1)].length, s.os⟩ := by
    refine ⟨⟨e0.mod, hk, rfl, rfl, Nat.le_refl _, fun x y c h1 h2 => ?_, fun x hx => ?_, fun x c hx h => ?_, fun _ => hr.hd, Around.frames_deeper e0.frames, .inr ⟨rfl, rfl⟩, fun b z => absurd (show b ∈ ([] : List Addr) from z) (by simp), e0.bs, e0.bsz, fun b _ _ z => absurd (show b ∈ ([] : List Addr) from z) (by simp), fun b z => absurd (show b ∈ ([] : List Addr) from z) (by simp), e0.funs, e0.frf⟩,
      rfl, e0.bare, Un.kept hkp, ⟨_, hns, fun i y v' h1 h2 h3 => ?_⟩, fun y c h => ?_, e0.hok.fresh (Nat.le_refl _), fun y c h => ?_, fun p hp => absurd (show p ∈ ([] : List (Addr × Obj)) from hp) (by simp), e0.hok.kept hkp, rfl⟩
    · have z : ∀ {x : Str} {c : Addr}, List.lookup x [(("__class__" : Str), cc)] = some c → x = "__class__" := fun {x c} h => by
        rw [List.lookup_cons] at h
        split at h
        · rename_i e; exact beq_iff_eq.mp e
        · cases h
      rw [z h1, z h2]
    · rcases hx with hx | hx
      · exact absurd rfl (nocell _ (PySem.mem_of_lookup hx))
      · have e : x = "__class__" := nofree _ (PySem.mem_of_lookup hx) rfl
        subst e
        exact ⟨cc, by show List.lookup _ _ = _; rw [List.lookup_cons, beq_self_eq_true]⟩
    · have z : x = "__class__" := by
        have h : List.lookup x [(("__class__" : Str), cc)] = some c := h
        rw [List.lookup_cons] at h
        split at h
        · rename_i e; exact beq_iff_eq.mp e
        · cases h
      have hx : (x != "__class__") = true := hx
      rw [z] at hx
      exact absurd hx (by decide)
    · match i, h1, h2 with
      | 0, h1, h2 =>
        cases h1; cases h2
        refine ⟨.ref a, rfl, .inl ⟨hself, ?_⟩⟩
        show List.lookup _ ([(("self" : Str), Value.ref a), (par, u1)].reverse) = _
        rw [hmap, if_neg hne, if_pos rfl]
      | 1, h1, h2 =>
        cases h1; cases h2
        refine ⟨u1, rv, .inl ⟨hpar, ?_⟩⟩
        show List.lookup _ ([(("self" : Str), Value.ref a), (par, u1)].reverse) = _
        rw [hmap, if_pos rfl]
      | n + 2, h1, h2 => cases h2
    · have h : List.lookup y [(("__class__" : Str), cc)] = some c := h
      rw [List.lookup_cons] at h
      split at h
      · cases h
        exact ⟨_, _, hkp _ _ (e0.bs _ _ ccb).1, rfl⟩
      · cases h
    · have h : List.lookup y [(("__class__" : Str), cc)] = some c := h
      rw [List.lookup_cons] at h
      split at h
      · cases h
        exact (e0.bs _ _ ccb).2
      · cases h
  obtain ⟨nm, q1, N, bs, bm, sn, sub, ab, col, dd, k0, k1, k2, k3, k5, hC, hbm⟩ := T.oex.cls
  obtain ⟨t1, hoe⟩ := exo_at I.hok ha
  have hCh := KX _ _ hC
  have hac : (a : Addr) ≠ C := fun z => by
    have e1 := (e0.bs _ _ (e0.mod.kin _ _ hC)).2
    rw [← z, ha] at e1; cases e1
  show _root_.PySem.wpAt (model prog w) X.A (.func (exiBody attr par txt p0 p1 p2 p3 p4 p5 p6 p7 p8 p9 j) env) (execs (exiBody attr par txt p0 p1 p2 p3 p4 p5 p6 p7 p8 p9 j) env) _ X.xe _
  obtain ⟨pl, htr⟩ := up_tree (env := env) (o := .Call (.Name "super" p0) [] [] p1) (m := "__init__") (txt := txt) (j := j) (p3 := p3) hline
  refine ks_wpAt_execs_cons (ks_wpAt_Expr_any (ks_wpAt_MethodCall (pl := pl) ?_ htr) I.quiet)
  obtain ⟨mb, hmb, hbb⟩ := e0.mod.blt
  have KI := I.kIn
  have up : ∀ {b : Addr} {o : Obj}, base.get? b = some o → h₀.get? b = some o := fun {b o} z => (I.bs b o z).1
  have hmg : h₀.Ns mainGlobals mg := e0.mod.glob.keeps fun b o z => up z
  have hmb' : h₀.Ns builtinsNs mb := hmb.keeps fun b o z => up z
  have hsub : PySem.W.Looks (model prog w) h₀ (isSubtype (.ref C) (.ref C)) true := PySem.W.looks_mroIn KI T.me
  refine ks_wpAt_super_base (env := env) hsup hcls rfl rfl (KI _ _ lk) rfl hp rfl (KI _ _ hcode) rfl hvs hfile T.top ?_
  refine PySem.W.ks_loadName_global hk hsup (PySem.Calls.loadGlobal_builtin (env := env) hmg (PySem.W.mg_none_of e0.mod.kin e0.mod.glob T.ns) hmb' ((hbb _ (by decide +kernel)).trans (show bootBuiltins "super" = some (.type "super") from by kernel_rfl)) ⟨rfl, ?_⟩)
  refine wpAny_loadName_free hk hcls (c := cc) rfl ⟨_, KI _ _ hcell, rfl⟩ ?_
  rw [har]
  refine wpAny_loadName_local hk hself hns (v := .ref a) (by show List.lookup _ ([(("self" : Str), Value.ref a), (par, u1)].reverse) = _; rw [hmap, if_neg hne, if_pos rfl]) ?_
  refine ks_wpAny_isType_cls (KI _ _ hC) rfl ⟨rfl, ?_⟩
  refine ks_wpAny_call_super (KI _ _ hC) rfl hoe rfl (fun c z => by cases z) hsub (fun h1 e1 kp1 => ?_)
  have I1 : Inv X [] [some (.ref a), some v] H ⟨h1, s.gens, s.drawn, s.toks + [(("self" : Str), Value.ref a), (par, u1)].length, s.os⟩ := I.kept kp1
  have KI1 := I1.kIn
  have hoe1 := kp1 _ _ hoe
  have hcl : PySem.W.clsIn K C = some { name := nm, bases := bs, mro := .ref C :: bm, ns := N, qualname := q1, hasDict := true, slotNames := sn, subclasses := sub, abstract := ab, collection := col, hasDel := false } := by unfold PySem.W.clsIn; rw [hC] <;> rfl
  have hup := T.up
  unfold PySem.W.ks_superIn at hup
  rw [hcl] at hup
  have IA : PySem.W.InstAt h1 a { cls := .ref C, dict := none, data := .fields #[.ref t1, .none, .none, .none, .bool false, .none] } C none := ⟨hoe1, rfl, rfl, trivial⟩
  have hI : PySem.W.Looks (model prog w) h1 (isInstance (.ref a) (.type "ValueError")) true := IA.type.andThen (PySem.W.looks_subIn KI1 T.ve)
  refine PySem.W.kxs_getMethod PySem.W.kxs_ValueError e1 (PySem.W.looks_opaque KI1 T.st) (l₀ := .ref C :: bm) (fun A Q E s k q => wpAny_bind ((PySem.W.looks_clsIn KI1 hcl) A _ E s k (wpAny_pure q))) rfl KI1 hup hI hac rfl ?_
  have kp2 : ∀ b o, h1.get? b = some o → (h1.push (PySem.W.kxs_mw "ValueError.__init__" a)).get? b = some o := fun b o z => Heap.get?_push_of_some _ z
  have hu2 : (h1.push (PySem.W.kxs_mw "ValueError.__init__" a)).get? h1.objs.size = some (PySem.W.kxs_mw "ValueError.__init__" a) := Heap.get?_push_at rfl rfl
  have I2 : Inv X [] [some (.ref a), some v] H ⟨h1.push (PySem.W.kxs_mw "ValueError.__init__" a), s.gens, s.drawn, s.toks + [(("self" : Str), Value.ref a), (par, u1)].length + 1, s.os⟩ := I1.kept kp2
  have hpa : PA X [.Constant (.str txt) j p3] (tCons (tC (.str txt)) tNil) := pa_cons pe_str pa_nil
  refine PySem.W.kxs_callWith (i := "ValueError.__init__") (x := a) rfl (PySem.Calls.evalArgs_plain (thn (hpa.run p4 [(h1.objs.size, PySem.W.kxs_mw "ValueError.__init__" a)] _ [some (.ref a), some v] H (fun vs H1 => ∃ z, vs = [z] ∧ H1 = H) (I2.pins_of ?_) ⟨_, rfl, rfl⟩) fun us s3 hh => ?_))
  · intro p hp
    obtain rfl := List.mem_singleton.mp hp
    exact ⟨hu2, I1.hok.fresh (Nat.le_refl _), (Nat.ne_of_lt I1.lt).symm, I1.nofs (Nat.le_refl _), fun v z => by cases z⟩
  obtain ⟨vs3, H3, I3, r3, z3, ev3, eH3⟩ := hh
  subst ev3; subst eH3
  have hu3 := (I3.pin (h1.objs.size, PySem.W.kxs_mw "ValueError.__init__" a) (by show _ ∈ [] ++ [_]; simp)).1
  refine ⟨hu3, ?_⟩
  obtain ⟨t3, hoe3⟩ := exo_at I3.hok ha
  have hl3 : us.length ≤ sizeLine := by
    rw [← Paired.length r3, sizeLine_eq]; exact Nat.le_of_lt (by show 1 < 16777216; decide)
  have KI3 := I3.kIn
  obtain ⟨h3, g3, d3, tk3, os3⟩ := s3
  refine call_up (KI3 _ _ hC) hoe3 hu3 hl3 (fun h4 t4 k4 e4 => ?_)
  have J := I3.write (t' := tk3) (x := a) (e := a) (o := exo a C none) (by rw [ha]; exact True.intro) (.inl rfl) k4 ⟨_, e4⟩ (exo_ok e4)
  have eu : upd H3 a (exo a C none) = H3 := by
    funext b
    by_cases hb : b = a
    · rw [hb, upd_same, ha]
    · rw [upd_ne hb]
  rw [eu] at J
  have J0 : Inv X [] [some (.ref a), some v] H3 ⟨h4, g3, d3, tk3, os3⟩ := J.pins_of fun p hp => by cases hp
  have p1 : PE X (.Name "self" p6) (tVar 0) := pe_var rfl (.inl hself) (by decide) (by decide)
  have p2' : PE X (.Name par p8) (tVar 1) := pe_var rfl (.inl hpar) hdb hcdc
  refine ks_wpAt_execs_cons (wpAt_of_wpAny (wpAny_mono ((ps_ost p1 p2').run [] _ _ _ { nx := fun _ H' => Q .non H', rt := Q } J0 ⟨v, rfl, .ref a, rfl, a, C, rfl, T.oex, T.no, .inl ⟨ha, fun dx n1 n2 => q dx n1 n2⟩⟩) (fun fl s5 hs => ?_) fun _ _ z => z))
  cases fl with
  | next =>
    obtain ⟨σ5, H5, I5, q5⟩ := hs
    exact wpAt_of_wpAny (wpAny_execs_nil ⟨.non, H5, I5.os, I5.bare, I5.base, I5.hok, rfl, q5⟩)
  | ret u =>
    obtain ⟨v5, σ5, H5, I5, r5, q5⟩ := hs
    exact ⟨v5, H5, I5.os, I5.bare, I5.base, I5.hok, r5, q5⟩
  | brk =>
    obtain ⟨_, _, _, q5⟩ := hs
    exact q5.elim
  | cont =>
    obtain ⟨_, _, _, q5⟩ := hs
    exact q5.elim
end Mp
/-! try with several clauses, with names or without -/
namespace Mp
open PySem PySem.Spec PyProof.Rows L2 PySem.SeqAt

abbrev Cls3 := Value × Option Nat × (Addr → Value → Option Addr → TS)
/-- behind a clause its name is gone -/
def goneD (n : Option Nat) (De : Ends) : Ends := match n with
  | none => De
  | some i => { nx := fun σ H => De.nx (σ.set i none) H, rt := De.rt, bk := fun σ H => De.bk (σ.set i none) H, ct := fun σ H => De.ct (σ.set i none) H }
def namedS (n : Option Nat) (a : Addr) (σ : L2.St) : L2.St := match n with
  | none => σ
  | some i => σ.set i (some (.ref a))
/-- what the clauses want of an exception -/
def wMix (K : PySem.W.Frag) (Wo : WX) (De : Ends) : List Cls3 → WX
  | [] => Wo
  | (c, n, ts) :: r => fun cls d σ H => ∃ b, PySem.W.exmOne K cls c = some b ∧ (b = true → ∀ a, H a = none → ts a cls d (goneD n De) (namedS n a σ) H) ∧ (b = false → wMix K Wo De r cls d σ H)
/-- a clause's name -/
inductive NmX (X : Cx) : Option Str → Option Nat → Prop
  | none : NmX X none none
  | some {n : Str} {i : Nat} (h : X.N[i]? = some n) (l : X.env.kindOf n = some .local) : NmX X (some n) (some i)
inductive Hds (X : Cx) : List ExceptHandler → List Cls3 → Prop
  | nil : Hds X [] []
  | cons {x : Str} {nm : Option Str} {n : Option Nat} {c : Value} {ts : Addr → Value → Option Addr → TS} {st : Stmt} {sts : List Stmt} {p q : Pos} {hs : List ExceptHandler} {l : List Cls3} (hc : Names X x c) (hn : NmX X nm n)
      (ok : ∀ (a : Addr) (oe : Obj) (cls : Value) (d : Option Addr) (pn : List (Addr × Obj)), Zc cls d oe → (∃ vs, oe.data = .fields vs) → PSs (X.suite a ((a, oe) :: pn)) (st :: sts) (ts a cls d)) (r : Hds X hs l) :
      Hds X (.ExceptHandler (some (.Name x p)) nm (st :: sts) q :: hs) ((c, n, ts) :: l)

section
variable {X : Cx} {pins : List (Addr × Obj)} {De : Ends} {Wo : WX}
/-- an exception that has landed in our frame -/
structure Lnd (X : Cx) (pins : List (Addr × Obj)) (a : Addr) (B : Heap) (sI : Shared) (σ : L2.St) (H : Hp) (cls : Value) (d : Option Addr) (s : Shared) : Prop where
  inv : Inv X pins σ H sI
  nb : ∀ b o, sI.heap.get? b = some o → b ∉ frs X.stack → B.get? b = some o
  fly : PySem.HandSPX.FlyingZ B (X.env :: X.outer) a (Zc cls d) s.heap
  up : sI.heap.UpToSlots s.heap
  na : H a = none
  os : s.os = sI.os
  ag : AllBare s.gens
section
variable {a : Addr} {B : Heap} {sI s : Shared} {σ : L2.St} {H : Hp} {cls : Value} {d : Option Addr}
theorem Lnd.cur (L : Lnd X pins a B sI σ H cls d s) : Inv X pins σ H s := L.inv.landed L.nb L.fly.1 L.up L.os L.ag
theorem Lnd.obj (L : Lnd X pins a B sI σ H cls d s) (hf : X.env.frame = some X.env.locals) : ∃ oe vs, s.heap.get? a = some oe ∧ Zc cls d oe ∧ oe.data = .fields vs ∧ a ≠ X.env.locals ∧ a ∉ X.fs := by
  obtain ⟨oe, vs, he, hz, hd⟩ := L.fly.there
  have away : a ∉ frs (X.env :: X.outer) := fun m => by
    obtain ⟨_, o, e, nf⟩ := L.fly.2.2.1.mem m
    have : o = oe := Option.some.inj (e.symm.trans he)
    exact nf _ (this ▸ hd)
  refine ⟨oe, vs, he, hz, hd, fun z => away ?_, fun m => away ?_⟩
  · exact List.mem_filterMap.mpr ⟨X.env, .head _, by rw [hf, z]⟩
  · obtain ⟨e, me, q⟩ := List.mem_filterMap.mp m
    exact List.mem_filterMap.mpr ⟨e, .tail _ me, q⟩
theorem Lnd.on (L : Lnd X pins a B sI σ H cls d s) {h : Heap} (fl : PySem.HandSPX.FlyingZ B (X.env :: X.outer) a (Zc cls d) h) (up : s.heap.UpToSlots h) : Lnd X pins a B sI σ H cls d { s with heap := h } :=
  ⟨L.inv, L.nb, fl, L.up.trans up, L.na, L.os, L.ag⟩
end

/-- no clause fits: the exception goes on -/
theorem mix_on {a : Addr} {B : Heap} {sI s : Shared} {σ : L2.St} {H : Hp} {cls : Value} {d : Option Addr} (hs : X.stack = X.env :: X.outer) (hf : X.env.frame = some X.env.locals) (tk : Takes X Wo) (L : Lnd X pins a B sI σ H cls d s) (w : Wo cls d σ H) :
    wpAny (model X.prog X.w) X.A (handleBy (.ref a) X.env []) (SP X pins De) X.xe s := by
  obtain ⟨_, _, _, oe, vs, T, oT, ts, he, hz, hd, h1, hr⟩ := id L.fly
  refine wpAny_handleBy_nil (by
    unfold PySem.passOn
    refine wpAny_bind (wpAny_field he hd h1 (?_ : wpAny _ _ _ _ _ _))
    rw [if_neg (show ¬ ((Value.ref T == Value.none) = true) from by simp)]
    have done_ : wpAny (model X.prog X.w) X.A (setFlight (.ref a) X.env.frame) (fun _ s' => wpAny (model X.prog X.w) X.A (throw (.ref a) : Sem Flow) (SP X pins De) X.xe s') X.xe s := by
      rw [hf]
      exact PySem.HandSPX.setFlight_upZ L.fly fun h hh up => wpAny_throw (tk _ _ ⟨a, B, sI, pins, σ, H, cls, d, rfl, L.inv, L.nb, L.up.trans up, .inr (.inr (by rw [hs]; exact hh)), L.na, L.os, L.ag, w⟩)
    first
      | exact wpAny_bind (wpAny_pure (wpAny_bind done_))
      | exact wpAny_bind done_)
theorem mix_go {a : Addr} {B : Heap} {sI s : Shared} {σ : L2.St} {H : Hp} {cls : Value} {d : Option Addr} (hs : X.stack = X.env :: X.outer) (hf : X.env.frame = some X.env.locals) (hN : X.N.Nodup) (tk : Takes X Wo) (L : Lnd X pins a B sI σ H cls d s) :
    ∀ {hds : List ExceptHandler} {l : List Cls3}, Hds X hds l → wMix X.K Wo De l cls d σ H → wpAny (model X.prog X.w) X.A (handleBy (.ref a) X.env hds) (SP X pins De) X.xe s := by
  intro hds l hk
  induction hk with
  | nil => exact fun w => mix_on hs hf tk L w
  | @cons x nm n c ts st sts p q hs' l' hc hn ok r ih =>
    intro ⟨b, e1, yes, no⟩
    obtain ⟨oe, vs, he, hz, hd, nL, nF⟩ := L.obj hf
    have S := L.cur.suite he hd L.na nL nF
    have ty : PySem.W.Looks (model X.prog X.w) s.heap (typeOf (.ref a)) cls := fun A Q E s' k z => wpAny_typeOf_ref (k _ _ he) (by rw [hz.1]; exact z)
    have fits := PySem.W.exm_one (M := model X.prog X.w) L.cur.kIn ty e1
    have named : ∀ {Q : Value → Shared → Prop} {E : Value → Shared → Prop}, Q c s → wpAny (model X.prog X.w) (X.A.mark (some (.ref a))) (eval (.Name x p) X.env) Q E s := fun {Q E} z => by
      obtain ⟨g, gd, m | ⟨m, v, nn⟩⟩ := hc
      · exact ld_glob (X := X.suite a ((a, oe) :: (X.pn ++ pins))) S g m z gd
      · exact ld_blt (X := X.suite a ((a, oe) :: (X.pn ++ pins))) S g m v z nn gd
    refine wpAny_handleBy_cons (codeAny_handlers_test (named (fits.here ?_))) (by intro z; cases z)
    cases b with
    | false => exact ih (no rfl)
    | true =>
      show codeAny (model X.prog X.w) (X.A.mark (some (.ref a))) (.handlers (.ref a) [.ExceptHandler none nm (st :: sts) q] X.env) _ _
      have w := yes rfl a L.na
      cases hn with
      | none =>
        refine codeAny_handlers_suite (PySem.HandSPX.lands_againZ L.fly fun h fl up => ?_)
        have L2 := L.on fl up
        obtain ⟨oe', vs', he', hz', hd', _, _⟩ := L2.obj hf
        refine wpAny_mono ((ok a oe' cls d (X.pn ++ pins) hz' ⟨_, hd'⟩).run [] _ _ H _ (L2.cur.suite he' hd' L.na nL nF) w) (fun f s' z => ?_) fun _ _ z => z.elim
        cases f with
        | ret u =>
          obtain ⟨v, σ1, H1, S1, r1, q1⟩ := z
          exact ⟨v, σ1, H1, S1.unsuite L.inv.ok, r1, q1⟩
        | _ =>
          obtain ⟨σ1, H1, S1, q1⟩ := z
          exact ⟨σ1, H1, S1.unsuite L.inv.ok, q1⟩
      | @some n i hi hl =>
        refine codeAny_handlers_suite_as (PySem.HandSPX.lands_againZ L.fly fun h fl up => ?_)
        have L2 := L.on fl up
        obtain ⟨oe', vs', he', hz', hd', _, _⟩ := L2.obj hf
        refine store_ok (X := X.suite a ((a, oe') :: (X.pn ++ pins))) (v := .ref a) (L2.cur.suite he' hd' L.na nL nF) hN hi (.inl hl) rfl (fun s5 S5 => ?_) (.inr hl)
        refine wpAny_mono ((ok a oe' cls d (X.pn ++ pins) hz' ⟨_, hd'⟩).run [] s5 _ H _ S5 w) (fun f s' z => ?_) fun _ _ z => z.elim
        cases f with
        | ret u =>
          obtain ⟨v, σ1, H1, S1, r1, q1⟩ := z
          exact gone_ok (S1.unsuite L.inv.ok) hN hi hl fun s7 J7 => ⟨v, _, H1, J7, r1, q1⟩
        | _ =>
          obtain ⟨σ1, H1, S1, q1⟩ := z
          exact gone_ok (S1.unsuite L.inv.ok) hN hi hl fun s7 J7 => ⟨_, H1, J7, q1⟩
theorem ps_try_mix {body : List Stmt} {h₀ : ExceptHandler} {hds : List ExceptHandler} {l : List Cls3} {pos : Pos} {tb : WX → TS} (hs : X.stack = X.env :: X.outer) (hf : X.env.frame = some X.env.locals) (hN : X.N.Nodup) (tk : Takes X Wo)
    (hb : ∀ (W : WX) (pn : List (Addr × Obj)) (xe : Value → Shared → Prop), Takes (X.tr pn xe) W → PassesOwn (model X.prog X.w) X.A X.env xe → PSs (X.tr pn xe) body (tb W)) (hh : Hds X (h₀ :: hds) l) :
    PS X (.Try body (h₀ :: hds) [] [] pos) (fun De σ H => tb (wMix X.K Wo De l) De σ H) := ⟨fun pins s σ H De I h => by
  have fr : X.A.frames = some (X.env :: X.outer) := hs ▸ I.ok.frames
  have run := (hb (wMix X.K Wo De l) (X.pn ++ pins) (fun e s₁ => wpAny (model X.prog X.w) X.A (noteFrame e X.env) (fun _ s₂ => wpAny (model X.prog X.w) X.A (setFlight e none) (fun _ s₃ => wpAny (model X.prog X.w) X.A (handleBy e X.env (h₀ :: hds)) (SP X pins De) X.xe s₃) X.xe s₂) X.xe s₁)
    (fun u s' ⟨a, B, sI, pins', σ', H', cls, d, eu, J', nb, up, sky, na, os, ag, w⟩ => by
      subst eu
      have J := J'.ofTry I.ok
      have sky' : Sky B (X.env :: X.outer) a (Zc cls d) X.env.locals s'.heap := hs ▸ sky
      exact Sky.land Zc.steady fr hf sky' fun h3 fl3 up3 => mix_go (s := { s' with heap := h3 }) hs hf hN tk ⟨J, nb, fl3, up.trans up3, na, os, ag⟩ hh w) PassesOwn.looking).run [] s σ H De (I.toTry _) h
  exact wpAny_Try_except (wpAny_mono run (fun f s1 z => by
    cases f with
    | next => obtain ⟨σ', H', J', q⟩ := z; exact wpAny_execs_nil ⟨σ', H', J'.ofTry I.ok, q⟩
    | ret u => obtain ⟨v, σ', H', J', r, q⟩ := z; exact ⟨v, σ', H', J'.ofTry I.ok, r, q⟩
    | _ => obtain ⟨σ', H', J', q⟩ := z; exact ⟨σ', H', J'.ofTry I.ok, q⟩) fun _ _ z => z)⟩
end
end Mp
/-! isinstance of a caught exception, with its dict or without -/
namespace Mp
open PySem PySem.Spec PySem.Calls PyProof.Rows PySem.W

section
variable {prog : Program} {w : World} {A : Around} {E : Value → Shared → Prop} {s : Shared} {K : Frag} {x D : Addr} {ox : Obj} {od : Option Obj}
theorem find_data {C : Addr} {nm : Str} {u g : Value} (hc : (clsIn K C).isSome = true) (h1 : findIn K (.ref C) nm = some (some u)) (h2 : specialIn K u "__get__" = some (some g)) (h3 : takesIn K u = some true) : findObj K C od nm = some (.bind g u) := by
  cases hcd : clsIn K C with
  | none => rw [hcd] at hc; cases hc
  | some cd =>
    unfold findObj
    rw [hcd, Option.bind_some, h1, Option.bind_some]
    simp [h2, h3]
theorem exc_class {Q : Option Value → Shared → Prop} (T : L2.ExcC K D) (X : K.In s.heap) (I : InstAt s.heap x ox D od) (h : Q (some (.ref D)) { s with toks := s.toks + 1 }) : wpAny (model prog w) A (getAttr? (.ref x) "__class__") Q E s := by
  have hf : findObj K D od "__class__" = some (.bind (.builtin "getset_descriptor.__get__") (.builtin "object.__class__")) := find_data (by obtain ⟨cd, hc, _⟩ := any_some T.hd; rw [hc]; rfl) T.ha T.hn T.ht
  obtain ⟨hp, g, d, t, os⟩ := s
  have l0 := I.type (M := model prog w)
  have l1 := looks_findIn (M := model prog w) X T.hg
  have l2 := looks_findIn (M := model prog w) X T.hk
  have l3 := looks_find (M := model prog w) X I hf
  have sub : Looks (model prog w) hp (isInstance (.ref x) (.type "BaseException")) true := l0.andThen (looks_subIn X T.hs)
  have z2 : (Value.builtin "BaseException.__getattribute__" == Value.builtin "object.__getattribute__") = false := by decide +kernel
  have z1 : (onTheHeap (Value.ref D) && Value.builtin "BaseException.__getattribute__" == Value.builtin "object.__getattribute__") = false := by rw [z2]; rfl
  unfold getAttr? getAttrBy? getAttrBy
  refine wpAny_bind (wpAny_mkText (wpAny_bind (wpAny_attempt (wpAny_holding (wpAny_bind (l0.at (wpAny_bind (l1.at (?_ : wpAny _ _ (if (onTheHeap (Value.ref D) && Value.builtin "BaseException.__getattribute__" == Value.builtin "object.__getattribute__") = true then _ else _) _ _ _)))))))))
  rw [z1, if_neg Bool.false_ne_true]
  unfold getAttrByItsOwn hookBefore
  refine wpAny_bind ?_
  rw [if_pos (show onTheHeap (Value.ref D) = true from rfl)]
  refine l2.at (wpAny_bind (wpAny_attempt (wpAny_holding ?_)))
  unfold callGetattribute
  rw [show (false && onTheHeap (Value.builtin "BaseException.__getattribute__")) = false from rfl, if_neg Bool.false_ne_true]
  unfold boundAndCalled
  rw [PySem.F.excAttr_ValueError.ga.bind (.ref x)]
  refine wpAny_bind (wpAny_pure (?_ : wpAny _ _ (call (.builtin "BaseException.__getattribute__") [.ref x, .str "__class__" t]) _ _ _))
  refine wpAny_call (codeAny_call_builtin PySem.F.excAttr_ValueError.ga.plain PySem.F.entry_bexc_ga (@check_slot (model prog w) _ _ ⟨hp, g, d, t + 1, os⟩ "BaseException.__getattribute__" "BaseException" "__getattribute__" (.ref x) [.str "__class__" t] [] _ (by decide +kernel) (by decide +kernel) sub (PySem.F.args_bexc_ga (.ref x) (.str "__class__" t)) ?_))
  unfold Builtin.«object.__getattribute__»
  refine wpAny_bind (wpAny_of_eq (a := ((Value.ref x : Value), [Value.str "__class__" t])) (by first | rfl | (simp only [slotArgs]; rfl)) (wpAny_bind (wpAny_pure (wpAny_bind (l0.at (wpAny_bind (l3.at ?_)))))))
  show wpAny _ _ ((holding [Value.builtin "object.__class__"] (call (.builtin "getset_descriptor.__get__") [.builtin "object.__class__", .ref x, .ref D])) >>= ret) _ _ _
  refine wpAny_bind (wpAny_holding (wpAny_call (class_get (s := ⟨hp, g, d, t + 1, os⟩) (ox := ox) (od := od) X I T.hm (wpAny_pure (?_ : wpAny _ _ (handedOut (.ref D)) _ _ _)))))
  rw [handedOut_of (v := .ref D) rfl]
  first
    | exact wpAny_pure (wpAny_pure h)
    | exact wpAny_pure h
    | exact wpAny_pure (wpAny_bind (wpAny_pure (wpAny_pure h)))
theorem kit_exc (T : L2.ExcC K D) : KitX K (.ref x) (.ref D) (fun h => InstAt h x ox D od) where
  ty := fun _ _ _ I => I.type
  it := fun _ _ X _ => by
    obtain ⟨cd, hc, _⟩ := any_some T.hd
    unfold clsIn at hc
    split at hc
    · rename_i ho
      exact fun A' Q' E' s' k q => by
        unfold isType loadHead
        exact wpAny_bind (wpAny_loadPart (k _ _ (X _ _ ho)) (wpAny_pure q))
    · cases hc
  ne := fun h tp dd its n sl X htp => by
    obtain ⟨cd, hc, _⟩ := any_some T.hd
    refine Bool.eq_false_iff.mpr fun q => ?_
    have e : D = tp := Value.ref.inj (beq_iff_eq.mp q)
    unfold clsIn at hc
    split at hc
    · rename_i ho
      rw [← e, X _ _ ho] at htp
      cases htp
    · cases hc
  ca := fun X I k => exc_class T X I k
end
end Mp
namespace Mp
open PySem PySem.Spec PyProof.Rows L2
/-- isinstance(e, c), e the exception that the suite holds -/
theorem call_isX {X : Cx} {a D : Addr} {dd : Option Addr} {oe : Obj} {pn : List (Addr × Obj)} (C : ExcC X.K D) (hz : Zc (.ref D) dd oe) (hf : ∃ vs, oe.data = .fields vs) :
    CallR (X.suite a ((a, oe) :: pn)) (.builtin "isinstance") (fun xs H Q => rIsE X.K D a xs H Q ∧ ∀ p, dd = some p → ∃ fs, H p = some (.xd fs)) := by
  intro pins s σ H xs us Q I r ⟨⟨c, cv, b, exs, hcv, e, q⟩, hp⟩
  subst exs
  cases r with
  | cons rx rr =>
    cases rr with
    | cons rt rr =>
      cases rr
      cases rx
      have ec := hcv _ rt
      subst ec
      have hget := (I.pin (a, oe) (List.mem_append.mpr (.inl (.head _)))).1
      obtain ⟨vs, hv⟩ := hf
      have J : ∃ od, PySem.W.InstAt s.heap a oe D od := by
        obtain ⟨oc, od, oda, osl⟩ := oe
        obtain ⟨h1, h2⟩ := hz
        dsimp only at h1 h2 hv
        subst h1 h2 hv
        cases od with
        | none => exact ⟨none, hget, rfl, rfl, trivial⟩
        | some p =>
          obtain ⟨fs, ep⟩ := hp p rfl
          have ox : ObjOk X.prog X.w H s.heap p (.xd fs) := I.hok p _ ep
          obtain ⟨mA, hns, hr⟩ := ox
          obtain ⟨o, ho, hl⟩ := L2.lookIn_ns hns
          exact ⟨some o, hget, rfl, rfl, ho⟩
      obtain ⟨od, J⟩ := J
      exact PySem.W.kia_one (kit_exc C) I.kIn J e (fun z => nomatch z) fun tk => ⟨.bl b, H, I.kept (t' := tk) fun _ _ z => z, rfl, q⟩
end Mp
/-! the language and what it means -/
namespace Mp
open PySem PySem.Spec PyProof.Rows L2

inductive Ik where | any | rng | vals | items | enum | zip
  deriving DecidableEq
inductive Tg where | nm (i : Nat) | tp (ts : List Tg)
inductive Bi where
  | len | abs | int | str | list | tuple | dict | sum | any | all | max | min | sorted | sortedSet | lenSet | isTy (t : String) | isInst (c : String)
  deriving DecidableEq
inductive Mt where | join | split | index | upper | replace | ljust | rjust | sget
  deriving DecidableEq

inductive E where
  | loc (i : Nat) | lb (i : Nat)
  | con (d : D)
  | glo (x : String) (d : D)
  | atm (a : E)
  | bin (o : Operator) (a b : E)
  | neg (a : E) | not (a : E)
  | bo (c : Bool) (es : List E)
  | cmp (o : CmpOp) (a b : E)
  | chn (a : E) (os : List CmpOp) (es : List E)
  | ite (c a b : E)
  | idx (a i : E)
  | sl (a : E) (lo hi : List E)
  | stp (a w : E)
  | lst (es : List E) | tup (es : List E)
  | dct (t : Bool) (ks vs : List E)
  | att (c : String) (i : Nat) (a : E)
  | call (f : String) (k : Nat) (es : List E)
  | new (c : String) (k : Nat) (es : List E)
  | bi (b : Bi) (es : List E)
  | get (a : E) (es : List E)
  | mth (m : Mt) (a : E) (es : List E)
  | met (c m : String) (k : Nat) (a : E) (es : List E)
  | prp (c m : String) (k : Nat) (a : E)
  | lc (x : E) (own : List Nat) (tg : Tg) (ik : Ik) (it : List E) (cs : List E)
  | dc (t : Bool) (kx vx : E) (own : List Nat) (tg : Tg) (ik : Ik) (it : List E) (cs : List E)
  | fst (es : List E)
  | fv (a : E)
  deriving Inhabited

/-- may it be borrowed? -/
def bor : E → Bool
  | .lb _ => true
  | .idx a _ => bor a
  | .att _ _ a => bor a
  | .ite _ a b => bor a || bor b
  | .get a _ => bor a
  | _ => false
/-- how deep it is new -/
def kd : E → Nat
  | .lst _ => 1
  | .dct _ _ _ => 1
  | .lc _ _ _ _ _ _ => 1
  | .dc _ _ _ _ _ _ _ _ => 1
  | .sl _ _ _ => 1
  | .stp _ _ => 1
  | .call _ k _ => k
  | .new _ k _ => k
  | .met _ _ k _ _ => k
  | .prp _ _ k _ => k
  | .bi _ _ => 1
  | .bin _ _ _ => 1
  | .mth _ _ _ => 1
  | _ => 0

/-! ### operations on data -/
def eqs (f : D → D → Option Bool) : List D → List D → Option Bool
  | [], [] => some true
  | x :: xs, y :: ys => (f x y).bind fun b => (eqs f xs ys).map fun r => b && r
  | _, _ => some false
/-- ==, as deep as n -/
def eqN : Nat → D → D → Option Bool
  | 0, _, _ => none
  | n + 1, a, b => match a, b with
    | .non, .non => some true
    | .bl a, .bl b => some (a == b)
    | .int a, .int b => some (a == b)
    | .str a, .str b => some (a == b)
    | .lst a, .lst b => if a.length = b.length then eqs (eqN n) a b else some false
    | .tup a, .tup b => eqs (eqN n) a b
    | .non, .bl _ => some false
    | .non, .int _ => some false
    | .non, .str _ => some false
    | .non, .lst _ => some false
    | .non, .tup _ => some false
    | .bl _, .non => some false
    | .bl _, .str _ => some false
    | .bl _, .lst _ => some false
    | .bl _, .tup _ => some false
    | .int _, .non => some false
    | .int _, .str _ => some false
    | .int _, .lst _ => some false
    | .int _, .tup _ => some false
    | .str _, .non => some false
    | .str _, .bl _ => some false
    | .str _, .int _ => some false
    | .str _, .lst _ => some false
    | .str _, .tup _ => some false
    | .lst _, .non => some false
    | .lst _, .bl _ => some false
    | .lst _, .int _ => some false
    | .lst _, .str _ => some false
    | .lst _, .tup _ => some false
    | .tup _, .non => some false
    | .tup _, .bl _ => some false
    | .tup _, .int _ => some false
    | .tup _, .str _ => some false
    | .tup _, .lst _ => some false
    | _, _ => none
def eqD : D → D → Option Bool := eqN 24
def scalEq : D → D → Bool
  | .non, .non => true
  | .bl a, .bl b => a == b
  | .bl a, .int b => (if a then 1 else 0) == b
  | .int a, .bl b => a == (if b then 1 else 0)
  | .int a, .int b => a == b
  | .str a, .str b => a == b
  | _, _ => false
def memD (x : D) (ys : List D) : Option Bool := if isScal x && ys.all isScal then some (ys.any fun y => scalEq y x) else none
section
variable {κ : Type} [DecidableEq κ]
def lookD (k : κ) : List κ → List D → Option D
  | j :: js, v :: vs => if j = k then some v else lookD k js vs
  | _, _ => none
def replD (k : κ) (d : D) : List κ → List D → List D
  | j :: js, v :: vs => (if j = k then d else v) :: replD k d js vs
  | _, vs => vs
def hasK (k : κ) (ks : List κ) : Bool := ks.any fun j => decide (j = k)
def putD (k : κ) (d : D) (ks : List κ) (vs : List D) : List κ × List D :=
  if hasK k ks then (ks, replD k d ks vs) else (ks ++ [k], vs ++ [d])
def dropD (k : κ) : List κ → List D → List κ × List D
  | j :: js, v :: vs => if j = k then dropD k js vs else (j :: (dropD k js vs).1, v :: (dropD k js vs).2)
  | _, _ => ([], [])
end
def keyD : D → Option Key
  | .int i => some (.inl i)
  | .str s => some (.inr s)
  | _ => none
def keysD : List D → Option (List Key)
  | [] => some []
  | d :: ds => do
    let k ← keyD d
    let r ← keysD ds
    pure (k :: r)
def tkeyD : D → Option (List Key)
  | .tup ds => keysD ds
  | _ => none
def kD : Key → D
  | .inl i => .int i
  | .inr s => .str s

/-- order -/
def ltS (a b : Str) : Bool := decide (a.cps.toList < b.cps.toList)
def ltI (a b : Int) : Bool := decide (a < b)
def ltKey : Key → Key → Bool
  | .inl a, .inl b => ltI a b
  | .inr a, .inr b => ltS a b
  | .inl _, .inr _ => true
  | .inr _, .inl _ => false
def ltKs : List Key → List Key → Bool
  | [], [] => false
  | [], _ :: _ => true
  | _ :: _, [] => false
  | x :: xs, y :: ys => if x = y then ltKs xs ys else ltKey x y
section
variable {α : Type} (lt : α → α → Bool)
def insB (x : α) : List α → List α
  | [] => [x]
  | y :: ys => if lt y x then y :: insB x ys else x :: y :: ys
def sortB : List α → List α
  | [] => []
  | x :: xs => insB lt x (sortB xs)
end
def nubS (xs : List Str) : List Str := xs.foldl (fun acc x => if x ∈ acc then acc else acc ++ [x]) []
def truD : D → Option Bool
  | .non => some false
  | .bl b => some b
  | .int i => some (i != 0)
  | .str s => if s.length ≤ sizeLine then some (s.length != 0) else none
  | .lst xs => some (!xs.isEmpty)
  | .tup xs => some (!xs.isEmpty)
  | _ => none
def lenD : D → Option Nat
  | .str s => if s.length ≤ sizeLine then some s.length else none
  | .lst xs => some xs.length
  | .tup xs => some xs.length
  | .dK ks _ => some ks.length
  | .scr ns => some ns.length
  | _ => none
def intOp : Operator → Int → Int → Option Int
  | .Add, i, j => some (i + j)
  | .Sub, i, j => some (i - j)
  | .Mult, i, j => if i.natAbs < 2 ^ 64 ∨ j.natAbs < 2 ^ 64 then some (i * j) else none
  | .FloorDiv, i, j => if 0 < j ∧ j.natAbs < 1073741824 then some (i / j) else none
  | .Mod, i, j => if 0 < j then some (i % j) else none
  | .Pow, i, j => if 0 ≤ j ∧ j.natAbs ≤ 1000000 ∧ i.natAbs < 2 ^ 64 then some (i ^ j.toNat) else none
  | _, _, _ => none
def repS (s : Str) (n : Nat) : Str := ⟨(List.replicate n s.cps.toList).flatten.toArray⟩
/-- b: its parts may be borrowed -/
def shr (b : Bool) (ds : List D) : Bool := !b || ds.all isScal
def binD (b : Bool) (o : Operator) : D → D → Option D
  | .int i, .int j => (intOp o i j).map D.int
  | .str x, .str y => match o with
    | .Add => if x.length + y.length ≤ sizeLine then some (.str (x ++ y)) else none
    | _ => none
  | .lst xs, .lst ys => match o with
    | .Add => if xs.length + ys.length ≤ sizeLine ∧ shr b xs = true ∧ shr b ys = true then some (.lst (xs ++ ys)) else none
    | _ => none
  | .tup xs, .tup ys => match b, o with
    | false, .Add => if xs.length + ys.length ≤ sizeLine then some (.tup (xs ++ ys)) else none
    | _, _ => none
  | .lst xs, .int k => match o with
    | .Mult => if 0 ≤ k ∧ k.natAbs < 1000000 ∧ xs.length * k.toNat ≤ sizeLine ∧ shr b xs = true then some (.lst (List.replicate k.toNat xs).flatten) else none
    | _ => none
  | .str s, .int k => match o with
    | .Mult => if 0 ≤ k ∧ k.natAbs < 1000000 ∧ s.length ≤ 1000 ∧ s.length * k.toNat ≤ 16777216 then some (.str (repS s k.toNat)) else none
    | _ => none
  | _, _ => none
def inD (x : D) : D → Option Bool
  | .lst ys => memD x ys
  | .tup ys => memD x ys
  | .dK ks _ => (keyD x).map fun (k : Key) => hasK k ks
  | .dT ks _ => (tkeyD x).map fun (k : List Key) => hasK k ks
  | .str s => match x with
    | .str c => match c.cps.toList with
      | [n] => some (decide (n ∈ s.cps.toList))
      | _ => none
    | _ => none
  | _ => none
def isNon : D → Bool
  | .non => true
  | _ => false
def isD : D → D → Option Bool
  | a, .non => some (isNon a)
  | .bl a, .bl b => some (a == b)
  | _, _ => none
/-- == of dicts: every value of the one at its key in the other -/
def eqKs (f : D → D → Option Bool) (js : List Key) (us : List D) : List Key → List D → Option Bool
  | [], [] => some true
  | k :: ks, v :: vs => match lookD k js us with
    | none => some false
    | some u => (f v u).bind fun b => (eqKs f js us ks vs).map (b && ·)
  | _, _ => none
def eqX : D → D → Option Bool
  | .dK ks vs, .dK js us => if ks.length = js.length then eqKs eqD js us ks vs else some false
  | a, b => eqD a b
def cmpD (o : CmpOp) (a b : D) : Option Bool := match o with
  | .Eq => eqX a b
  | .NotEq => (eqX a b).map not
  | .Lt => match a, b with
    | .int i, .int j => some (decide (i < j))
    | .str i, .str j => some (ltS i j)
    | _, _ => none
  | .Gt => match a, b with
    | .int i, .int j => some (decide (j < i))
    | _, _ => none
  | .LtE => match a, b with
    | .int i, .int j => some (decide (i ≤ j))
    | _, _ => none
  | .GtE => match a, b with
    | .int i, .int j => some (decide (j ≤ i))
    | _, _ => none
  | .Is => isD a b
  | .IsNot => (isD a b).map not
  | .In => inD a b
  | .NotIn => (inD a b).map not
def idxD : D → D → Option D
  | .lst xs, .int i => atI xs i
  | .tup xs, .int i => atI xs i
  | .str s, .int i => if s.length ≤ sizeLine then (atI s.cps.toList i).map fun c => .str ⟨#[c]⟩ else none
  | .dK ks vs, d => match keyD d with
    | some k => lookD k ks vs
    | none => none
  | .dT ks vs, d => match tkeyD d with
    | some k => lookD k ks vs
    | none => none
  | _, _ => none
def cutD {α : Type} (xs : List α) (lo hi : Option Int) : List α := (xs.drop (HT.sIx xs.length 0 lo)).take (HT.sIx xs.length xs.length hi - HT.sIx xs.length 0 lo)
def slD (b : Bool) (lo hi : Option Int) : D → Option D
  | .lst xs => if shr b xs then some (.lst (cutD xs lo hi)) else none
  | .tup xs => if b then none else some (.tup (cutD xs lo hi))
  | .str s => if s.length ≤ sizeLine then some (.str ⟨(cutD s.cps.toList lo hi).toArray⟩) else none
  | .scr ns => some (.lst ((cutD ns lo hi).map D.int))
  | _ => none
def stpD (b : Bool) : D → D → Option D
  | .lst xs, .int w => if shr b xs = false then none else if w = -1 then some (.lst xs.reverse) else if w = 1 then some (.lst xs) else none
  | .tup xs, .int w => if b then none else if w = -1 then some (.tup xs.reverse) else if w = 1 then some (.tup xs) else none
  | _, _ => none
def attD (c : String) (i : Nat) : D → Option D
  | .obj c' vs => if c' = c then vs[i]? else none
  | _ => none
def intsD : List D → Option (List Int)
  | [] => some []
  | .int i :: r => (intsD r).map (i :: ·)
  | _ => none
def blsD : List D → Option (List Bool)
  | [] => some []
  | .bl i :: r => (blsD r).map (i :: ·)
  | _ => none
def strsD : List D → Option (List Str)
  | [] => some []
  | .str i :: r => (strsD r).map (i :: ·)
  | _ => none
def tkeysD : List D → Option (List (List Key))
  | [] => some []
  | d :: ds => (tkeyD d).bind fun k => (tkeysD ds).map (k :: ·)
def tupK (k : List Key) : D := .tup (k.map kD)
def shape (k : List Key) : List Bool := k.map Sum.isLeft
def sortD (xs : List D) : Option (List D) := match intsD xs with
  | some ns => some ((sortB ltI ns).map D.int)
  | none => match strsD xs with
    | some ss => if ss.length < 64 then some ((sortB ltS ss).map D.str) else none
    | none => match tkeysD xs with
      | some [] => none
      | some (k :: ks) => if k.isEmpty || !(ks.all fun j => decide (shape j = shape k)) then none else some ((sortB ltKs (k :: ks)).map tupK)
      | none => none
def maxI : Int → List Int → Int
  | x, [] => x
  | x, y :: ys => maxI (if y > x then y else x) ys
def minI : Int → List Int → Int
  | x, [] => x
  | x, y :: ys => minI (if y < x then y else x) ys
def bestD (mx : Bool) (xs : List D) : Option D := match intsD xs with
  | some (n :: ns) => some (.int (if mx then maxI n ns else minI n ns))
  | _ => none
def iterD (ik : Ik) (ds : List D) : Option (List D) := match ik, ds with
  | .any, [.lst xs] => some xs
  | .any, [.tup xs] => some xs
  | .any, [.dK ks _] => some (ks.map kD)
  | .any, [.str s] => some (s.cps.toList.map fun c => .str ⟨#[c]⟩)
  | .vals, [.dK _ vs] => some vs
  | .items, [.dK ks vs] => some ((ks.zip vs).map fun p => .tup [kD p.1, p.2])
  | .rng, [.int n] => if n.natAbs < 2 ^ 62 then some ((List.range n.toNat).map fun i => .int (i : Nat)) else none
  | .rng, [.int a, .int b] => if a.natAbs < 2 ^ 62 ∧ b.natAbs < 2 ^ 62 then some ((List.range (b - a).toNat).map fun i => .int (a + (i : Nat))) else none
  | .enum, [.lst xs] => some ((List.range xs.length).zip xs |>.map fun p => .tup [.int (p.1 : Nat), p.2])
  | .enum, [.lst xs, .int 1] => some ((List.range xs.length).zip xs |>.map fun p => .tup [.int (p.1 + 1 : Nat), p.2])
  | .zip, [.lst xs, .lst ys] => some ((xs.zip ys).map fun p => .tup [p.1, p.2])
  | _, _ => none
mutual
def bindT : Tg → D → Sls → Option Sls
  | .nm i, d, env => if i < env.length then some (env.set i (.val d)) else none
  | .tp ts, .tup ds, env => bindTs ts ds env
  | .tp _, _, _ => none
def bindTs : List Tg → List D → Sls → Option Sls
  | [], [], env => some env
  | t :: ts, d :: ds, env => (bindT t d env).bind fun env' => bindTs ts ds env'
  | _, _, _ => none
end
def wipeE (env : Sls) : List Nat → Sls
  | [] => env
  | v :: vs => (wipeE env vs).set v .no
def tyN : D → Option String
  | .non => some "NoneType"
  | .bl _ => some "bool"
  | .int _ => some "int"
  | .str _ => some "str"
  | .lst _ => some "list"
  | .tup _ => some "tuple"
  | .dK _ _ => some "dict"
  | _ => none
def isT (n t : String) : Bool := n == t || (n == "bool" && t == "int")
def tNames : List String := ["bool", "int", "str", "list", "tuple", "dict"]
def biD (b : Bi) (sh : Bool) (ds : List D) : Option D := match b, ds with
  | .len, [d] => (lenD d).map fun n => .int (n : Nat)
  | .abs, [.int i] => some (.int (if i < 0 then -i else i))
  | .int, [.int i] => some (.int i)
  | .int, [.bl k] => some (.int (if k then 1 else 0))
  | .str, [.int i] => if i.natAbs.log2 < 1920 then some (.str (toString i)) else none
  | .list, [.lst xs] => if shr sh xs then some (.lst xs) else none
  | .list, [.tup xs] => if sh then none else some (.lst xs)
  | .list, [.dK ks _] => some (.lst (ks.map kD))
  | .tuple, [.lst xs] => if shr sh xs then some (.tup xs) else none
  | .tuple, [.tup xs] => if sh then none else some (.tup xs)
  | .dict, [.dK ks vs] => if shr sh vs then some (.dK ks vs) else none
  | .sum, [.lst xs] => (intsD xs).map fun ns => .int ns.sum
  | .any, [.lst xs] => (blsD xs).map fun bs => .bl (bs.any id)
  | .all, [.lst xs] => (blsD xs).map fun bs => .bl (bs.all id)
  | .max, [.lst xs] => bestD true xs
  | .min, [.lst xs] => bestD false xs
  | .max, [.int i, .int j] => some (.int (if j > i then j else i))
  | .min, [.int i, .int j] => some (.int (if j < i then j else i))
  | .sorted, [.lst xs] => if shr sh xs then (sortD xs).map D.lst else none
  | .sorted, [.dK ks _] => if ks.length < 64 then (sortD (ks.map kD)).map D.lst else none
  | .sortedSet, [.lst xs] => if xs.length < 64 then (strsD xs).map fun ss => .lst ((sortB ltS (nubS ss)).map D.str) else none
  | .lenSet, [.lst xs] => if xs.length < 128 then (strsD xs).bind fun ss => some (.int ((nubS ss).length : Nat)) else none
  | .isTy t, [d] => (tyN d).map fun n => .bl (isT n t)
  | .isInst c, [.obj c' _] => some (.bl (c' == c))
  | _, _ => none
def getD' : D → List D → Option D
  | .dK ks vs, [k] => (keyD k).map fun k => (lookD k ks vs).getD .non
  | .dT ks vs, [k] => (tkeyD k).map fun k => (lookD k ks vs).getD .non
  | .dK ks vs, [k, x] => (keyD k).map fun k => (lookD k ks vs).getD x
  | .dT ks vs, [k, x] => (tkeyD k).map fun k => (lookD k ks vs).getD x
  | _, _ => none
def dctP : List (D × D) → List Key × List D → Option (List Key × List D)
  | [], acc => some acc
  | p :: r, acc => (keyD p.1).bind fun k => dctP r (putD k p.2 acc.1 acc.2)
def optI : List D → Option (Option Int)
  | [] => some none
  | [.int i] => some (some i)
  | _ => none

/-! ### expressions -/
def chnGo (Φ : D → CmpOp → D → Option Bool) : D → List CmpOp → List (R D) → R D
  | x, [o], [y] => do
    let d ← y
    let b ← ofO (Φ x o d)
    pure (.bl b)
  | x, o :: os, y :: ys => do
    let d ← y
    let b ← ofO (Φ x o d)
    if b then chnGo Φ d os ys else pure (.bl false)
  | _, _, _ => .bad
def boGo (c : Bool) : List (R D) → R D
  | [] => .bad
  | [x] => x
  | x :: xs => do
    let d ← x
    match d with
    | .bl b => if b = c then boGo c xs else pure (.bl b)
    | _ => .bad
/-- as it is wanted: the value, or its truth -/
def fin : Bool → R D → R D
  | false, r => r
  | true, r => do
    let d ← r
    ofO ((truD d).map D.bl)
def toB : D → R Bool
  | .bl b => .ok b
  | _ => .bad
def allR : List (R D) → R Bool
  | [] => pure true
  | x :: xs => do
    let d ← x
    let b ← toB d
    if b then allR xs else pure false
def okIf {α : Type} (b : Bool) (r : R α) : R α := if b then r else .bad
def negD : D → Option D
  | .int i => some (.int (-i))
  | _ => none
def notD : D → Option D
  | .bl b => some (.bl (!b))
  | _ => none
def isObj' (c : String) : D → Bool
  | .obj c' _ => c' == c
  | _ => false
def optCons {α : Type} : Option α → List α → List α
  | some y, r => y :: r
  | none, r => r
/-- no exception of it is carried -/
def noexc {α : Type} : R α → R α
  | .exc _ _ => .bad
  | r => r
def lcGo (f : D → R (Option D)) : List D → R (List D)
  | [] => pure []
  | x :: xs => do
    let o ← f x
    let r ← lcGo f xs
    pure (optCons o r)
def dcPut {κ : Type} [DecidableEq κ] : Option (κ × D) → List κ × List D → List κ × List D
  | some y, acc => putD y.1 y.2 acc.1 acc.2
  | none, acc => acc
def dcGo {κ : Type} [DecidableEq κ] (f : D → R (Option (κ × D))) : List D → List κ × List D → R (List κ × List D)
  | [], acc => pure acc
  | x :: xs, acc => do
    let o ← f x
    dcGo f xs (dcPut o acc)
def seqR : List (R D) → R (List D)
  | [] => pure []
  | x :: xs => do
    let d ← x
    let r ← seqR xs
    pure (d :: r)
def fstGo : Str → List (R D) → R D
  | acc, [] => .ok (.str acc)
  | acc, x :: xs => do
    let d ← x
    match d with
    | .str s => if acc.length + s.length ≤ sizeLine then fstGo (acc ++ s) xs else .bad
    | _ => .bad
def pairR : List (R D) → List (R D) → R (List (D × D))
  | [], [] => pure []
  | k :: ks, v :: vs => do
    let a ← k
    let b ← v
    let r ← pairR ks vs
    pure ((a, b) :: r)
  | _, _ => .bad
def isDct : D → Bool
  | .dK _ _ => true
  | .dT _ _ => true
  | _ => false
def fmtD : D → Option D
  | .str s => if s.length ≤ sizeLine then some (.str s) else none
  | .int i => if i.natAbs.log2 < 1920 then some (.str (toString i)) else none
  | _ => none
def mOk : Mt → D → Bool
  | .join, .str _ => true
  | .split, .str _ => true
  | .index, .lst _ => true
  | _, _ => false
def strL (xs : List Str) : D := .lst (xs.map D.str)
def mthD : Mt → D → List D → Option D
  | .join, .str s, [.lst xs] => (strsD xs).bind fun ys => if ((ys.map Str.length).sum + ys.length * s.length) ≤ 16777216 then some (.str (Txt.join s ys)) else none
  | .split, .str s, [.str b] => if (b.length == 0) = false ∧ s.length + 2 ≤ sizeLine then some (strL (Txt.split s b)) else none
  | .index, .lst xs, [d] => if isScal d && xs.all isScal then (xs.findIdx? fun y => scalEq y d).map fun j => .int (j : Nat) else none
  | _, _, _ => none

section
variable (Φ : String → List D → R D)
def slotD : Bool → Option Sl → R D
  | _, some (.val d) => .ok d
  | b, some (.own _ d) => okIf (b || isAtom d) (.ok d)
  | b, some (.bor d) => okIf (b || isScal d) (.ok d)
  | _, _ => .bad
mutual
/-- the value of an expression, or its truth (t) -/
def ev : E → Bool → Sls → R D
  | .loc i, t, env => fin t (slotD false env[i]?)
  | .lb i, t, env => fin t (slotD true env[i]?)
  | .con d, t, _ => fin t (.ok d)
  | .glo _ d, t, _ => fin t (.ok d)
  | .atm a, t, env => fin t (ev a false env >>= fun d => okIf (isScal d) (.ok d))
  | .bin o a b, t, env => fin t (ev a false env >>= fun x => ev b false env >>= fun y => ofO (binD (bor a || bor b) o x y))
  | .neg a, t, env => fin t (ev a false env >>= fun x => ofO (negD x))
  | .not a, true, env => ev a true env >>= fun x => ofO (notD x)
  | .not a, false, env => fin true (ev a false env) >>= fun x => ofO (notD x)
  | .bo c es, t, env => boGo c (evs es t env)
  | .cmp o a b, t, env => fin t (ev a false env >>= fun x => ev b false env >>= fun y => ofO ((cmpD o x y).map D.bl))
  | .chn a os es, t, env => fin t (ev a false env >>= fun x => chnGo (fun x o y => cmpD o x y) x os (evs es false env))
  | .ite c a b, t, env => ev c true env >>= fun x => toB x >>= fun z => if z then ev a t env else ev b t env
  | .idx a i, t, env => fin t (ev a false env >>= fun x => ev i false env >>= fun y => ofO (idxD x y))
  | .sl a lo hi, t, env => fin t (ev a false env >>= fun x => (seqR (evs lo false env) >>= fun l => ofO (optI l)) >>= fun l => (seqR (evs hi false env) >>= fun h => ofO (optI h)) >>= fun h => ofO (slD (bor a) l h x))
  | .stp a w, t, env => fin t (ev a false env >>= fun x => ev w false env >>= fun y => ofO (stpD (bor a) x y))
  | .lst es, t, env => fin t (seqR (evs es false env) >>= fun ds => okIf (decide (ds.length ≤ sizeLine)) (.ok (.lst ds)))
  | .tup es, t, env => fin t (seqR (evs es false env) >>= fun ds => okIf (decide (ds.length ≤ sizeLine)) (.ok (.tup ds)))
  | .dct b ks vs, t, env => fin t (pairR (evs ks false env) (evs vs false env) >>= fun ps =>
      if b then okIf ps.isEmpty (.ok (.dT [] [])) else okIf (decide (ps.length ≤ 15)) (ofO ((dctP ps ([], [])).map fun r => .dK r.1 r.2)))
  | .att c i a, t, env => fin t (ev a false env >>= fun x => ofO (attD c i x))
  | .call f _ es, t, env => fin t (seqR (evs es false env) >>= fun ds => Φ f ds)
  | .new c _ es, t, env => fin t (seqR (evs es false env) >>= fun ds => Φ (c ++ ".__init__") ds)
  | .bi b es, t, env => fin t (seqR (evs es false env) >>= fun ds => ofO (biD b (es.any bor) ds))
  | .get a es, t, env => fin t (ev a false env >>= fun x => okIf (isDct x) (seqR (evs es false env) >>= fun ds => ofO (getD' x ds)))
  | .mth m a es, t, env => fin t (ev a false env >>= fun x => okIf (mOk m x) (seqR (evs es false env) >>= fun ds => ofO (mthD m x ds)))
  | .met c m _ a es, t, env => fin t (ev a false env >>= fun x => okIf (isObj' c x) (seqR (evs es false env) >>= fun ds => Φ (c ++ "." ++ m) (x :: ds)))
  | .prp c m _ a, t, env => fin t (ev a false env >>= fun x => okIf (isObj' c x) (noexc (Φ (c ++ "." ++ m) [x])))
  | .lc x own tg ik it cs, t, env => fin t (seqR (evs it false env) >>= fun ds => ofO (iterD ik ds) >>= fun xs => okIf (!(it.any bor) && decide (xs.length ≤ sizeLine))
      (lcGo (fun d => ofO (bindT tg d (wipeE env own)) >>= fun env' => noexc (allR (evs cs true env') >>= fun b => if b then ev x false env' >>= fun y => pure (some y) else pure none)) xs >>= fun r => .ok (.lst r)))
  | .dc b kx vx own tg ik it cs, t, env => fin t (seqR (evs it false env) >>= fun ds => ofO (iterD ik ds) >>= fun xs => okIf (!(it.any bor) && (decide (xs.length ≤ sizeLine) && !b))
      (dcGo (fun d => ofO (bindT tg d (wipeE env own)) >>= fun env' => noexc (allR (evs cs true env') >>= fun b => if b then ev kx false env' >>= fun k => ofO (keyD k) >>= fun k => ev vx false env' >>= fun y => pure (some (k, y)) else pure none)) xs ([], []) >>= fun r => .ok (.dK r.1 r.2)))
  | .fst es, t, env => fin t (fstGo Str.empty (evs es false env))
  | .fv a, t, env => fin t (ev a false env >>= fun x => ofO (fmtD x))
def evs : List E → Bool → Sls → List (R D)
  | [], _, _ => []
  | e :: es, t, env => ev e t env :: evs es t env
end
end
end Mp
/-! orders, and that a sorted list is the one that sortB makes -/
namespace Mp
open PySem PySem.Spec PyProof.Rows L2

/-- a total order by its less-than -/
structure Tot {α : Type} (lt : α → α → Bool) : Prop where
  asy : ∀ a b, lt a b = true → lt b a = false
  ntr : ∀ a b c, lt b a = false → lt c b = false → lt c a = false
  eqs : ∀ a b, lt a b = false → lt b a = false → a = b
section
variable {α : Type} {lt : α → α → Bool}
theorem Tot.irr (t : Tot lt) (a : α) : lt a a = false := by
  cases h : lt a a with
  | false => rfl
  | true => exact absurd (h.symm.trans (t.asy a a h)) (by decide)
theorem insB_perm (x : α) : ∀ ys, (insB lt x ys).Perm (x :: ys)
  | [] => .refl _
  | y :: ys => by
    unfold insB
    split
    · exact ((insB_perm x ys).cons y).trans (.swap x y ys)
    · exact .refl _
theorem sortB_perm : ∀ xs : List α, (sortB lt xs).Perm xs
  | [] => .refl _
  | x :: xs => (insB_perm x _).trans ((sortB_perm xs).cons x)
/-- no later one is less -/
abbrev Up (lt : α → α → Bool) (xs : List α) : Prop := xs.Pairwise fun a b => lt b a = false
theorem insB_up (t : Tot lt) (x : α) : ∀ ys, Up lt ys → Up lt (insB lt x ys)
  | [], _ => List.pairwise_singleton _ _
  | y :: ys, h => by
    obtain ⟨h1, h2⟩ := List.pairwise_cons.mp h
    unfold insB
    split
    · rename_i z
      refine List.pairwise_cons.mpr ⟨fun b hb => ?_, insB_up t x ys h2⟩
      rcases List.mem_cons.mp ((insB_perm x ys).mem_iff.mp hb) with e | e
      · subst e; exact t.asy _ _ z
      · exact h1 b e
    · rename_i z
      have z : lt y x = false := by cases q : lt y x with | false => rfl | true => exact absurd q z
      refine List.pairwise_cons.mpr ⟨fun b hb => ?_, h⟩
      rcases List.mem_cons.mp hb with e | e
      · subst e; exact z
      · exact t.ntr _ _ _ z (h1 b e)
theorem sortB_up (t : Tot lt) : ∀ xs : List α, Up lt (sortB lt xs)
  | [] => .nil
  | x :: xs => insB_up t x _ (sortB_up t xs)
theorem sortB_only (t : Tot lt) {xs ys : List α} (p : ys.Perm xs) (u : Up lt ys) : ys = sortB lt xs :=
  List.Perm.eq_of_pairwise (le := fun a b => lt b a = false) (fun a b _ _ h1 h2 => t.eqs a b h2 h1) u (sortB_up t xs) (p.trans (sortB_perm xs).symm)
end
theorem tot_I : Tot ltI := by
  refine ⟨fun a b h => ?_, fun a b c h1 h2 => ?_, fun a b h1 h2 => ?_⟩
  · have h := of_decide_eq_true (p := a < b) h
    exact decide_eq_false (p := b < a) (by omega)
  · have h1 := of_decide_eq_false (p := b < a) h1
    have h2 := of_decide_eq_false (p := c < b) h2
    exact decide_eq_false (p := c < a) (by omega)
  · have h1 := of_decide_eq_false (p := a < b) h1
    have h2 := of_decide_eq_false (p := b < a) h2
    omega
theorem tot_N : Tot fun a b : List Nat => decide (a < b) := by
  refine ⟨fun a b h => ?_, fun a b c h1 h2 => ?_, fun a b h1 h2 => ?_⟩
  · have h := of_decide_eq_true h
    exact decide_eq_false fun z => absurd (List.lt_trans h z) (List.lt_irrefl a)
  · have h1 := List.not_lt.mp (of_decide_eq_false h1)
    have h2 := List.not_lt.mp (of_decide_eq_false h2)
    exact decide_eq_false (List.not_lt.mpr (List.le_trans h1 h2))
  · exact List.le_antisymm (List.not_lt.mp (of_decide_eq_false h2)) (List.not_lt.mp (of_decide_eq_false h1))
theorem str_inj {a b : Str} (h : a.cps.toList = b.cps.toList) : a = b := by
  cases a; cases b
  exact congrArg _ (Array.toList_inj.mp h)
theorem tot_S : Tot ltS := ⟨fun a b h => tot_N.asy _ _ h, fun a b c h1 h2 => tot_N.ntr a.cps.toList b.cps.toList c.cps.toList h1 h2, fun a b h1 h2 => str_inj (tot_N.eqs _ _ h1 h2)⟩
theorem tot_K : Tot ltKey := by
  refine ⟨fun a b h => ?_, fun a b c h1 h2 => ?_, fun a b h1 h2 => ?_⟩
  · cases a <;> cases b <;> first | exact tot_I.asy _ _ h | exact tot_S.asy _ _ h | rfl | cases h
  · cases a <;> cases b <;> cases c <;> first | exact tot_I.ntr _ _ _ h1 h2 | exact tot_S.ntr _ _ _ h1 h2 | rfl | exact absurd (show true = false from h1) Bool.noConfusion | exact absurd (show true = false from h2) Bool.noConfusion
  · cases a <;> cases b <;> first | exact congrArg _ (tot_I.eqs _ _ h1 h2) | exact congrArg _ (tot_S.eqs _ _ h1 h2) | exact absurd (show true = false from h1) Bool.noConfusion | exact absurd (show true = false from h2) Bool.noConfusion
theorem ltKs_asy : ∀ a b : List Key, ltKs a b = true → ltKs b a = false
  | [], [], h => by unfold ltKs at h; cases h
  | [], _ :: _, _ => by unfold ltKs; rfl
  | _ :: _, [], h => by unfold ltKs at h; cases h
  | x :: xs, y :: ys, h => by
    unfold ltKs at h ⊢
    split at h
    · rename_i e; rw [if_pos e.symm]; exact ltKs_asy xs ys h
    · rename_i e; rw [if_neg fun z => e z.symm]; exact tot_K.asy _ _ h
theorem ltKs_ntr : ∀ a b c : List Key, ltKs b a = false → ltKs c b = false → ltKs c a = false
  | [], [], c, _, h2 => h2
  | [], _ :: _, [], _, _ => by unfold ltKs; rfl
  | [], _ :: _, _ :: _, _, _ => by unfold ltKs; rfl
  | _ :: _, [], _, h1, _ => by unfold ltKs at h1; cases h1
  | x :: xs, y :: ys, [], _, h2 => by unfold ltKs at h2; cases h2
  | x :: xs, y :: ys, z :: zs, h1, h2 => by
    unfold ltKs at h1 h2 ⊢
    by_cases e1 : y = x
    · rw [if_pos e1] at h1
      subst e1
      by_cases e2 : z = y
      · rw [if_pos e2] at h2 ⊢; exact ltKs_ntr xs ys zs h1 h2
      · rw [if_neg e2] at h2 ⊢; exact h2
    · rw [if_neg e1] at h1
      by_cases e2 : z = y
      · subst e2; rw [if_neg e1]; exact h1
      · rw [if_neg e2] at h2
        have h3 := tot_K.ntr x y z h1 h2
        by_cases e3 : z = x
        · subst e3
          exact absurd (tot_K.eqs _ _ h2 h1) e2
        · rw [if_neg e3]; exact h3
theorem ltKs_eqs : ∀ a b : List Key, ltKs a b = false → ltKs b a = false → a = b
  | [], [], _, _ => rfl
  | [], _ :: _, h, _ => by unfold ltKs at h; cases h
  | _ :: _, [], _, h => by unfold ltKs at h; cases h
  | x :: xs, y :: ys, h1, h2 => by
    unfold ltKs at h1 h2
    by_cases e : x = y
    · subst e
      rw [if_pos rfl] at h1 h2
      rw [ltKs_eqs xs ys h1 h2]
    · rw [if_neg e] at h1
      rw [if_neg fun z => e z.symm] at h2
      exact absurd (tot_K.eqs _ _ h1 h2) e
theorem tot_Ks : Tot ltKs := ⟨ltKs_asy, ltKs_ntr, ltKs_eqs⟩
/-- the model's order of texts -/
theorem cps_lt : ∀ a b : List Nat, ltCps a b = decide (a < b)
  | [], [] => rfl
  | [], _ :: _ => (decide_eq_true (List.nil_lt_cons _ _)).symm
  | _ :: _, [] => (decide_eq_false (List.not_lt_nil _)).symm
  | x :: xs, y :: ys => by
    have h : ltCps (x :: xs) (y :: ys) = (decide (x < y) || (x == y && ltCps xs ys)) := rfl
    rw [h, cps_lt xs ys]
    have e : (x :: xs < y :: ys) ↔ (x < y ∨ x = y ∧ xs < ys) := List.cons_lt_cons_iff
    by_cases z : x < y
    · rw [decide_eq_true z, Bool.true_or, decide_eq_true (e.mpr (.inl z))]
    · rw [decide_eq_false z, Bool.false_or]
      by_cases w : x = y
      · subst w
        rw [beq_self_eq_true, Bool.true_and]
        exact decide_eq_decide.mpr ⟨fun q => e.mpr (.inr ⟨rfl, q⟩), fun q => (e.mp q).elim (fun q => absurd q z) And.right⟩
      · rw [beq_eq_false_iff_ne.mpr w, Bool.false_and]
        exact (decide_eq_false fun q => (e.mp q).elim z fun q => w q.1).symm
end Mp
/-! expressions: the rules -/
namespace Mp
open PySem PySem.Spec PyProof.Rows L2

section
variable {mg : Gd} {e : Ent} {env : Sls} {F F' F1 H H' H1 : Hp} {σ : L2.St} {T : Nat → List Addr} {W : WX} {α β : Type}
/-- what is wanted of a value: k levels of it new -/
def KE (mg : Gd) (k : Nat) (Q : VK) (F H : Hp) : D → Prop := fun d => ∀ v F' H' S, Grow F H F' H' → RepN mg k F' H' v d S → (∀ a ∈ S, H a = none) → Q v H'
def KB (mg : Gd) (Q : VK) (F H : Hp) : D → Prop := fun d => ∀ v F' H', Grow F H F' H' → Rep mg H' v d → Q v H'
def Grows (K : Hp → Hp → α → Prop) : Prop := ∀ F H F1 H1 d, Grow F H F1 H1 → K F H d → K F1 H1 d
theorem Same.none {H H1 : Hp} (s : Same H H1) {a : Addr} (h : H1 a = none) : H a = none := by
  cases q : H a with
  | none => rfl
  | some o => rw [s a o q] at h; cases h
theorem KE.grows {k : Nat} {Q : VK} : Grows (KE mg k Q) := fun F H F1 H1 d g h v F' H' S g' r f => h v F' H' S (g.trans g') r fun a m => Same.none g.same (f a m)
theorem KB.grows {Q : VK} : Grows (KB mg Q) := fun F H F1 H1 d g h v F' H' g' r => h v F' H' (g.trans g') r
/-- a result of m is wanted, by K -/
def Wt (mg : Gd) (e : Ent) (W : WX) (m : Sls → R α) (σ : L2.St) (H : Hp) (K : Hp → Hp → α → Prop) : Prop :=
  ∃ env F T, Frm mg e env F σ H T ∧ RW (m env) (K F H) (EX mg W σ F H)
theorem RW.grow {K : Hp → Hp → α → Prop} (hK : Grows K) {x : R α} (g : Grow F H F1 H1) (h : RW x (K F H) (EX mg W σ F H)) : RW x (K F1 H1) (EX mg W σ F1 H1) :=
  h.imp (fun d q => hK _ _ _ _ d g q) fun _ _ q => q.grow g
theorem bndB {K : Hp → Hp → α → Prop} (hK : Grows K) {ma : Sls → R D} {g : Sls → D → R α} {Q : VK} (h : Wt mg e W (fun env => ma env >>= g env) σ H K)
    (next : ∀ env F1 H1 T d x, Frm mg e env F1 σ H1 T → Rep mg H1 x d → RW (g env d) (K F1 H1) (EX mg W σ F1 H1) → Q x H1) : rdB mg e W ma σ H Q := by
  obtain ⟨env, F, T, f, h⟩ := h
  exact ⟨env, F, T, f, (RW_bind.mp h).imp (fun d q v F1 H1 g1 r => next env F1 H1 T d v (f.grow g1) r (RW.grow hK g1 q)) fun _ _ z => z⟩
theorem bndE {k : Nat} {K : Hp → Hp → α → Prop} (hK : Grows K) {ma : Sls → R D} {g : Sls → D → R α} {Q : VK} (h : Wt mg e W (fun env => ma env >>= g env) σ H K)
    (next : ∀ env F1 H1 T d x S, Frm mg e env F1 σ H1 T → RepN mg k F1 H1 x d S → (∀ a ∈ S, H a = none) → RW (g env d) (K F1 H1) (EX mg W σ F1 H1) → Q x H1) : rdE mg e W ma k σ H Q := by
  obtain ⟨env, F, T, f, h⟩ := h
  exact ⟨env, F, T, f, (RW_bind.mp h).imp (fun d q v F1 H1 S g1 r fr => next env F1 H1 T d v S (f.grow g1) r fr (RW.grow hK g1 q)) fun _ _ z => z⟩
theorem bndT {K : Hp → Hp → α → Prop} (hK : Grows K) {ma : Sls → R Bool} {g : Sls → Bool → R α} {Q : Bool → Hp → Prop} (h : Wt mg e W (fun env => ma env >>= g env) σ H K)
    (next : ∀ env F1 H1 T b, Frm mg e env F1 σ H1 T → RW (g env b) (K F1 H1) (EX mg W σ F1 H1) → Q b H1) : rdT mg e W ma σ H Q := by
  obtain ⟨env, F, T, f, h⟩ := h
  exact ⟨env, F, T, f, (RW_bind.mp h).imp (fun d q F1 H1 g1 => next env F1 H1 T d (f.grow g1) (RW.grow hK g1 q)) fun _ _ z => z⟩
theorem bndA {bs : List Bool} {K : Hp → Hp → α → Prop} (hK : Grows K) {ma : Sls → R (List D)} {g : Sls → List D → R α} {Q : List V → Hp → Prop} (h : Wt mg e W (fun env => ma env >>= g env) σ H K)
    (next : ∀ env F1 H1 T ds xs, Frm mg e env F1 σ H1 T → RepM mg bs F1 H1 xs ds → RW (g env ds) (K F1 H1) (EX mg W σ F1 H1) → Q xs H1) : rdA mg e W bs ma σ H Q := by
  obtain ⟨env, F, T, f, h⟩ := h
  exact ⟨env, F, T, f, (RW_bind.mp h).imp (fun d q v F1 H1 g1 r => next env F1 H1 T d v (f.grow g1) r (RW.grow hK g1 q)) fun _ _ z => z⟩

theorem wtE {m : Sls → R D} {k : Nat} {Q : VK} : rdE mg e W m k σ H Q ↔ Wt mg e W m σ H (KE mg k Q) := Iff.rfl
theorem wtB {m : Sls → R D} {Q : VK} : rdB mg e W m σ H Q ↔ Wt mg e W m σ H (KB mg Q) := Iff.rfl

theorem RepN.atom {k : Nat} {v : V} {d : D} {S : List Addr} (h : isAtom d = true) (r : RepN mg k F H v d S) : Rep mg F v d := by
  cases k with
  | zero => exact r.2
  | succ k =>
    rcases r with ⟨_, _, r⟩ | ⟨p, _, _, _, r⟩
    · exact r
    · rcases r with ⟨ds, vs, Ss, e, _⟩ | ⟨ks, ds, vs, Ss, e, _⟩ | ⟨ks, ds, vs, Ss, e, _⟩ | ⟨c, ds, C, dx, vs, Ss, e, _⟩ <;> (subst e; cases h)
theorem rep_scal {v : V} {d : D} (h : isScal d = true) (r : Rep mg H v d) : Rep mg F v d := by
  cases d with
  | non => unfold Rep at r ⊢; exact r
  | bl b => unfold Rep at r ⊢; exact r
  | int b => unfold Rep at r ⊢; exact r
  | str b => unfold Rep at r ⊢; exact r
  | _ => cases h
theorem scal_atom {d : D} (h : isScal d = true) : isAtom d = true := by cases d <;> first | rfl | cases h
theorem reps_scal : ∀ {vs : List V} {ds : List D}, ds.all isScal = true → Reps mg H vs ds → Reps mg F vs ds
  | vs, [], _, r => by unfold Reps at r; subst r; exact Reps.nil
  | vs, d :: ds, h, r => by
    unfold Reps at r
    obtain ⟨v, t, e, a, b⟩ := r
    subst e
    rw [List.all_cons, Bool.and_eq_true] at h
    exact Reps.cons (rep_scal h.1 a) (reps_scal h.2 b)

/-! ### slots -/
theorem r_lb {X : Cx} {x : Str} {i : Nat} {pos : Pos} (hN : X.N[i]? = some x) (hv : Vis X.env.scope x) (hd : (x == ("__debug__" : Str)) = false) (hcd : (x == ("__classdict__" : Str)) = false) :
    PE X (.Name x pos) (rdB mg e W fun env => slotD true env[i]?) := by
  refine PE.of (pe_var hN hv hd hcd) fun σ H Q h => ?_
  obtain ⟨env, F, T, f, h⟩ := h
  have h : RW (slotD true env[i]?) _ _ := h
  cases q : env[i]? with
  | none => rw [q] at h; exact h.elim
  | some s =>
    rw [q] at h
    cases s with
    | no => exact h.elim
    | val d =>
      obtain ⟨v, e1, r⟩ := f.val i d q
      exact ⟨v, e1, h v F H (Grow.refl f.le) (Rep.mono f.le r)⟩
    | own k d =>
      obtain ⟨v, e1, r⟩ := f.own i k d q
      exact ⟨v, e1, h v F H (Grow.refl f.le) (RepN.rep f.le _ r)⟩
    | bor d =>
      obtain ⟨v, e1, r⟩ := f.bor i d q
      exact ⟨v, e1, h v F H (Grow.refl f.le) (Rep.mono (Le.of_same f.same) (Rep.monoL f.leB r))⟩
theorem r_loc {X : Cx} {x : Str} {i : Nat} {pos : Pos} (hN : X.N[i]? = some x) (hv : Vis X.env.scope x) (hd : (x == ("__debug__" : Str)) = false) (hcd : (x == ("__classdict__" : Str)) = false) :
    PE X (.Name x pos) (rdE mg e W (fun env => slotD false env[i]?) 0) := by
  refine PE.of (pe_var hN hv hd hcd) fun σ H Q h => ?_
  obtain ⟨env, F, T, f, h⟩ := h
  have h : RW (slotD false env[i]?) _ _ := h
  cases q : env[i]? with
  | none => rw [q] at h; exact h.elim
  | some s =>
    rw [q] at h
    cases s with
    | no => exact h.elim
    | val d =>
      obtain ⟨v, e1, r⟩ := f.val i d q
      exact ⟨v, e1, h v F H [] (Grow.refl f.le) ⟨rfl, r⟩ (fun _ z => by cases z)⟩
    | own k d =>
      obtain ⟨v, e1, r⟩ := f.own i k d q
      have h : RW (okIf (isAtom d) (.ok d)) _ _ := h
      cases w : isAtom d with
      | false => rw [w] at h; exact h.elim
      | true =>
        rw [w] at h
        exact ⟨v, e1, h v F H [] (Grow.refl f.le) ⟨rfl, RepN.atom w r⟩ (fun _ z => by cases z)⟩
    | bor d =>
      obtain ⟨v, e1, r⟩ := f.bor i d q
      have h : RW (okIf (isScal d) (.ok d)) _ _ := h
      cases w : isScal d with
      | false => rw [w] at h; exact h.elim
      | true =>
        rw [w] at h
        exact ⟨v, e1, h v F H [] (Grow.refl f.le) ⟨rfl, rep_scal w r⟩ (fun _ z => by cases z)⟩
/-- a constant, of any kind -/
theorem r_const {X : Cx} {ex : Expr} {v : V} {d : D} {t : TE} (h : PE X ex t) (ht : ∀ σ H Q, Q v H → t σ H Q) (hd : isScal d = true) (r : ∀ F, Rep mg F v d) : PE X ex (rdE mg e W (fun _ => .ok d) 0) := by
  refine PE.of h fun σ H Q q => ?_
  obtain ⟨env, F, T, f, q⟩ := q
  exact ht _ _ _ (q v F H [] (Grow.refl f.le) ⟨rfl, r F⟩ fun _ z => by cases z)

/-! ### tests -/
theorem tru_rep {K : PySem.W.Frag} {x : V} {d : D} {b : Bool} (r : Rep mg H x d) (h : truD d = some b) : TruV K x H b := by
  cases d with
  | non => unfold Rep at r; subst r; cases h; rfl
  | bl k => unfold Rep at r; subst r; cases h; rfl
  | int i => unfold Rep at r; subst r; cases h; rfl
  | str s =>
    unfold Rep at r; subst r
    have h : (if s.length ≤ sizeLine then some (s.length != 0) else none) = some b := h
    by_cases z : s.length ≤ sizeLine
    · rw [if_pos z] at h
      cases h
      refine ⟨z, ?_⟩
      cases q : s.length with
      | zero => rfl
      | succ n =>
        have h1 : ((n + 1 : Nat) : Int) ≠ 0 := by omega
        have h2 : ((n + 1 : Nat) != 0) = true := rfl
        rw [h2]
        exact (bne_iff_ne.mpr h1).symm
    · rw [if_neg z] at h; cases h
  | lst ds =>
    unfold Rep at r
    obtain ⟨a, vs, e, h1, h2⟩ := r
    subst e; cases h
    refine .inl ⟨vs, .inl (.inl h1), ?_⟩
    have := h2.length
    cases vs <;> cases ds <;> first | rfl | simp at this
  | tup ds =>
    unfold Rep at r
    obtain ⟨a, vs, e, h1, h2⟩ := r
    subst e; cases h
    refine .inr (.inl ⟨vs, .inl (.inl h1), ?_⟩)
    have := h2.length
    cases vs <;> cases ds <;> first | rfl | simp at this
  | _ => cases h
theorem pt_gen {X : Cx} {ex : Expr} {m : Sls → R D} (h : PE X ex (rdB mg e W m)) (he : ∀ whole, isTrue ex X.env whole = (do let v ← whole; standAt ex.pos; holding [v] (truthy v))) :
    PT X ex (rdT mg e W fun env => fin true (m env) >>= toB) := by
  refine PT.of (pt_truth h he) fun σ H Q q => ?_
  obtain ⟨env, F, T, f, q⟩ := q
  refine ⟨env, F, T, f, ?_⟩
  have q1 := (RW_bind (x := fin true (m env)) (f := toB)).mp q
  have q2 := (RW_bind (x := m env) (f := fun d => ofO ((truD d).map D.bl))).mp q1
  refine q2.imp (fun d z v F1 H1 g r => ?_) fun _ _ z => z
  obtain ⟨d', ed, z3⟩ := RW_ofO.mp z
  cases hb : truD d with
  | none => rw [hb] at ed; cases ed
  | some b =>
    rw [hb] at ed; cases ed
    exact ⟨b, tru_rep r hb, z3 F1 H1 g⟩
end
end Mp
/-! == of data -/
namespace Mp
open PySem PySem.Spec PyProof.Rows L2 PySem.SeqAt

theorem eqs_refl {f : D → D → Option Bool} {mg : Gd} {H : Hp} (ih : ∀ v d d' b, Rep mg H v d → Rep mg H v d' → f d d' = some b → b = true) :
    ∀ {vs : List V} {ds es : List D} {b : Bool}, Reps mg H vs ds → Reps mg H vs es → eqs f ds es = some b → b = true
  | vs, [], [], b, _, _, h => by cases h; rfl
  | vs, [], _ :: _, b, r, q, h => absurd (r.length.symm.trans q.length) (by simp)
  | vs, _ :: _, [], b, r, q, h => absurd (r.length.symm.trans q.length) (by simp)
  | vs, d :: ds, d' :: es, b, r, q, h => by
    unfold Reps at r q
    obtain ⟨v, t, e, r1, r2⟩ := r
    obtain ⟨v', t', e', q1, q2⟩ := q
    subst e
    obtain ⟨rfl, rfl⟩ := List.cons.inj e'
    have h : (f d d').bind (fun b => (eqs f ds es).map fun r => b && r) = some b := h
    cases h1 : f d d' with
    | none => rw [h1] at h; cases h
    | some b1 =>
      rw [h1] at h
      cases h2 : eqs f ds es with
      | none => rw [h2] at h; cases h
      | some b2 =>
        rw [h2] at h
        cases h
        rw [ih _ _ _ _ r1 q1 h1, eqs_refl ih r2 q2 h2]; rfl
theorem eqN_same {mg : Gd} {H : Hp} : ∀ (n : Nat) (v : V) (d d' : D) (b : Bool), Rep mg H v d → Rep mg H v d' → eqN n d d' = some b → b = true
  | 0, _, _, _, _, _, _, h => by cases h
  | n + 1, v, d, d', b, r, q, h => by
    cases d <;> cases d' <;> first
      | (cases h; done)
      | (unfold Rep at r q; subst r; first | (cases q; cases h; simp; done) | (cases q; done) | (obtain ⟨_, _, q, _⟩ := q; cases q; done))
      | skip
    all_goals first
      | (unfold Rep at r q; obtain ⟨_, _, r, _⟩ := r; subst r; cases q; done)
      | skip
    · rename_i xs ys
      unfold Rep at r q
      obtain ⟨a, vs, e, h1, h2⟩ := r
      obtain ⟨a', vs', e', h1', h2'⟩ := q
      subst e
      cases e'
      rw [h1] at h1'; cases h1'
      have h : (if xs.length = ys.length then eqs (eqN n) xs ys else some false) = some b := h
      rw [if_pos (h2.length.symm.trans h2'.length)] at h
      exact eqs_refl (eqN_same n) h2 h2' h
    · rename_i xs ys
      unfold Rep at r q
      obtain ⟨a, vs, e, h1, h2⟩ := r
      obtain ⟨a', vs', e', h1', h2'⟩ := q
      subst e; cases e'
      rw [h1] at h1'; cases h1'
    · rename_i xs ys
      unfold Rep at r q
      obtain ⟨a, vs, e, h1, h2⟩ := r
      obtain ⟨a', vs', e', h1', h2'⟩ := q
      subst e; cases e'
      rw [h1] at h1'; cases h1'
    · rename_i xs ys
      unfold Rep at r q
      obtain ⟨a, vs, e, h1, h2⟩ := r
      obtain ⟨a', vs', e', h1', h2'⟩ := q
      subst e
      cases e'
      rw [h1] at h1'; cases h1'
      exact eqs_refl (eqN_same n) h2 h2' h

/-- what eqs says, place by place -/
theorem eqs_at {f : D → D → Option Bool} : ∀ {ds es : List D} {b : Bool}, eqs f ds es = some b →
    ∃ e : Nat → Bool, (∀ j d d', ds[j]? = some d → es[j]? = some d' → f d d' = some (e j)) ∧ b = ((List.range (min ds.length es.length)).all e && ds.length == es.length)
  | [], [], b, h => ⟨fun _ => true, fun j d d' h1 => by simp at h1, by cases h; rfl⟩
  | [], y :: ys, b, h => ⟨fun _ => true, fun j d d' h1 => by simp at h1, by cases h; simp⟩
  | x :: xs, [], b, h => ⟨fun _ => true, fun j d d' _ h1 => by simp at h1, by cases h; simp⟩
  | x :: xs, y :: ys, b, h => by
    have h : (f x y).bind (fun b => (eqs f xs ys).map fun r => b && r) = some b := h
    cases h1 : f x y with
    | none => rw [h1] at h; cases h
    | some b1 =>
      rw [h1] at h
      cases h2 : eqs f xs ys with
      | none => rw [h2] at h; cases h
      | some b2 =>
        rw [h2] at h
        cases h
        obtain ⟨e, he, hb⟩ := eqs_at h2
        refine ⟨fun j => match j with | 0 => b1 | j + 1 => e j, fun j d d' q1 q2 => ?_, ?_⟩
        · cases j with
          | zero => simp at q1 q2; subst q1 q2; exact h1
          | succ j => exact he j d d' (by simpa using q1) (by simpa using q2)
        · have em : min (x :: xs).length (y :: ys).length = min xs.length ys.length + 1 := by simp only [List.length_cons]; omega
          rw [em, List.range_succ_eq_map, List.all_cons, List.all_map, hb]
          have el : ((x :: xs).length == (y :: ys).length) = (xs.length == ys.length) := by simp
          rw [el, Bool.and_assoc]
          rfl
def AllEq (A : Around) (s : Shared) (v u : Value) (b : Bool) : Prop := EqAt A s v u b ∧ RcAt A s v u b ∧ RcNeAt A s v u (!b)
section
variable {X : Cx} {pins : List (Addr × Obj)} {σ : L2.St} {H : Hp} {s : Shared} {mg : Gd}
theorem lst_at (I : Inv X pins σ H s) {a : Addr} {vs : List V} (h : H a = some (.lst vs)) : ∃ its : List Value, Vals vs its ∧ s.heap.IsList a its.toArray := by
  obtain ⟨its, r, p, _⟩ := I.list (SqL.of h)
  exact ⟨its, r, p.isList⟩
theorem tup_at (I : Inv X pins σ H s) {a : Addr} {vs : List V} (h : H a = some (.tup vs)) : ∃ its : List Value, Vals vs its ∧ s.heap.IsTuple a its.toArray := by
  obtain ⟨its, r, p, _⟩ := I.tuple (SqT.of h)
  exact ⟨its, r, p⟩
theorem items_eq (I : Inv X pins σ H s) {A : Around} {f : D → D → Option Bool} (ih : ∀ (da db : D) (b : Bool) (x y : V) (v u : Value), Rep mg H x da → Rep mg H y db → RelV x v → RelV y u → f da db = some b → EqAt A s v u b)
    {vs ws : List V} {ds es : List D} {is js : List Value} {e : Nat → Bool} (r : Reps mg H vs ds) (q : Reps mg H ws es) (rv : Vals vs is) (rw' : Vals ws js) (he : ∀ j d d', ds[j]? = some d → es[j]? = some d' → f d d' = some (e j)) :
    ∀ j (h1 : j < is.toArray.size) (h2 : j < js.toArray.size), EqAt A s is.toArray[j] js.toArray[j] (e j) := fun j h1 h2 => by
  have l1 : is.length = ds.length := rv.length.symm.trans r.length
  have l2 : js.length = es.length := rw'.length.symm.trans q.length
  have h1' : j < is.length := by simpa using h1
  have h2' : j < js.length := by simpa using h2
  have g1 : ds[j]? = some ds[j] := List.getElem?_eq_getElem (by omega)
  have g2 : es[j]? = some es[j] := List.getElem?_eq_getElem (by omega)
  obtain ⟨x, x1, x2⟩ := r.get g1
  obtain ⟨y, y1, y2⟩ := q.get g2
  obtain ⟨u, u1, u2⟩ := rv.get x1
  obtain ⟨u', w1, w2⟩ := rw'.get y1
  have e1 : is.toArray[j] = u := by
    have : is[j]? = some is[j] := List.getElem?_eq_getElem h1'
    rw [u1] at this; simpa using (Option.some.inj this).symm
  have e2 : js.toArray[j] = u' := by
    have : js[j]? = some js[j] := List.getElem?_eq_getElem h2'
    rw [w1] at this; simpa using (Option.some.inj this).symm
  rw [e1, e2]
  exact ih _ _ _ x y u u' x2 y2 u2 w2 (he j _ _ g1 g2)
theorem eqN_ok (I : Inv X pins σ H s) : ∀ (n : Nat) (A : Around) (da db : D) (b : Bool) (x y : V) (v u : Value), A.units + n < cLine → Rep mg H x da → Rep mg H y db → RelV x v → RelV y u → eqN n da db = some b → AllEq A s v u b
  | 0, _, _, _, _, _, _, _, _, _, _, _, _, _, h => by cases h
  | n + 1, A, da, db, b, x, y, v, u, hu, r, q, rx, ry, h => by
    have hu0 : A.units < cLine := by omega
    have hu1 : A.in1.units + n < cLine := by
      show A.units + 1 + n < cLine
      omega
    have ih := fun (da db : D) (b : Bool) (x y : V) (v u : Value) r q rx ry e => (eqN_ok I n A.in1 da db b x y v u hu1 r q rx ry e).1
    have scal : ∀ {z : V} {w : Value} {d : D}, Rep mg H z d → RelV z w → match d with
        | .non => w = .none
        | .bl b => w = .bool b
        | .int i => ∃ t, w = .int i t
        | .str i => ∃ t, w = .str i t
        | .lst ds => ∃ a vs its, z = .ref a ∧ w = .ref a ∧ H a = some (.lst vs) ∧ Reps mg H vs ds ∧ Vals vs its ∧ s.heap.IsList a its.toArray
        | .tup ds => ∃ a vs its, z = .ref a ∧ w = .ref a ∧ H a = some (.tup vs) ∧ Reps mg H vs ds ∧ Vals vs its ∧ s.heap.IsTuple a its.toArray
        | _ => True := fun {z w d} r rz => by
      cases d with
      | non => unfold Rep at r; subst r; exact rz
      | bl b => unfold Rep at r; subst r; exact rz
      | int i => unfold Rep at r; subst r; exact rz
      | str i => unfold Rep at r; subst r; exact rz
      | lst ds =>
        unfold Rep at r
        obtain ⟨a, vs, e, h1, h2⟩ := r
        subst e
        obtain ⟨its, i1, i2⟩ := lst_at I h1
        exact ⟨a, vs, its, rfl, rz, h1, h2, i1, i2⟩
      | tup ds =>
        unfold Rep at r
        obtain ⟨a, vs, e, h1, h2⟩ := r
        subst e
        obtain ⟨its, i1, i2⟩ := tup_at I h1
        exact ⟨a, vs, its, rfl, rz, h1, h2, i1, i2⟩
      | _ => trivial
    have sa := scal r rx
    have sb := scal q ry
    cases da with
    | non =>
      cases sa
      cases db with
      | non => cases sb; cases h; exact ⟨EqAt.same _, RcAt.none_none, RcNeAt.none_none⟩
      | bl c => cases sb; cases h; exact ⟨EqAt.none_bool _, RcAt.none_bool _, RcNeAt.none_bool _⟩
      | int c => obtain ⟨t, rfl⟩ := sb; cases h; exact ⟨EqAt.none_int _ _, RcAt.none_int _ _, RcNeAt.none_int _ _⟩
      | str c => obtain ⟨t, rfl⟩ := sb; cases h; exact ⟨EqAt.none_str _ _, RcAt.none_str _ _, RcNeAt.none_str _ _⟩
      | lst c => obtain ⟨a, vs, its, _, rfl, _, _, _, k⟩ := sb; cases h; exact ⟨EqAt.none_list k hu0, RcAt.none_list k hu0, RcNeAt.none_list k hu0⟩
      | tup c => obtain ⟨a, vs, its, _, rfl, _, _, _, k⟩ := sb; cases h; exact ⟨EqAt.none_tuple k hu0, RcAt.none_tuple k hu0, RcNeAt.none_tuple k hu0⟩
      | _ => cases h
    | bl c =>
      cases sa
      cases db with
      | non => cases sb; cases h; exact ⟨EqAt.bool_none _, RcAt.bool_none _, RcNeAt.bool_none _⟩
      | bl c => cases sb; cases h; exact ⟨EqAt.bool_bool _ _, RcAt.bool_bool _ _, RcNeAt.bool_bool _ _⟩
      | str c => obtain ⟨t, rfl⟩ := sb; cases h; exact ⟨EqAt.bool_str _ _ _, RcAt.bool_str _ _ _, RcNeAt.bool_str _ _ _⟩
      | lst c => obtain ⟨a, vs, its, _, rfl, _, _, _, k⟩ := sb; cases h; exact ⟨EqAt.bool_list _ k hu0, RcAt.bool_list _ k hu0, RcNeAt.bool_list _ k hu0⟩
      | tup c => obtain ⟨a, vs, its, _, rfl, _, _, _, k⟩ := sb; cases h; exact ⟨EqAt.bool_tuple _ k hu0, RcAt.bool_tuple _ k hu0, RcNeAt.bool_tuple _ k hu0⟩
      | _ => cases h
    | int c =>
      obtain ⟨t', rfl⟩ := sa
      cases db with
      | non => cases sb; cases h; exact ⟨EqAt.int_none _ _, RcAt.int_none _ _, RcNeAt.int_none _ _⟩
      | int c => obtain ⟨t, rfl⟩ := sb; cases h; exact ⟨EqAt.int_int _ _ _ _, RcAt.int_int _ _ _ _, RcNeAt.int_int _ _ _ _⟩
      | str c => obtain ⟨t, rfl⟩ := sb; cases h; exact ⟨EqAt.int_str _ _ _ _, RcAt.int_str _ _ _ _, RcNeAt.int_str _ _ _ _⟩
      | lst c => obtain ⟨a, vs, its, _, rfl, _, _, _, k⟩ := sb; cases h; exact ⟨EqAt.int_list _ _ k hu0, RcAt.int_list _ _ k hu0, RcNeAt.int_list _ _ k hu0⟩
      | tup c => obtain ⟨a, vs, its, _, rfl, _, _, _, k⟩ := sb; cases h; exact ⟨EqAt.int_tuple _ _ k hu0, RcAt.int_tuple _ _ k hu0, RcNeAt.int_tuple _ _ k hu0⟩
      | _ => cases h
    | str c =>
      obtain ⟨t', rfl⟩ := sa
      cases db with
      | non => cases sb; cases h; exact ⟨EqAt.str_none _ _, RcAt.str_none _ _, RcNeAt.str_none _ _⟩
      | bl c => cases sb; cases h; exact ⟨EqAt.str_bool _ _ _, RcAt.str_bool _ _ _, RcNeAt.str_bool _ _ _⟩
      | int c => obtain ⟨t, rfl⟩ := sb; cases h; exact ⟨EqAt.str_int _ _ _ _, RcAt.str_int _ _ _ _, RcNeAt.str_int _ _ _ _⟩
      | str c => obtain ⟨t, rfl⟩ := sb; cases h; exact ⟨EqAt.str_str _ _ _ _, RcAt.str_str _ _ _ _, RcNeAt.str_str _ _ _ _⟩
      | lst c => obtain ⟨a, vs, its, _, rfl, _, _, _, k⟩ := sb; cases h; exact ⟨EqAt.str_list _ _ k hu0, RcAt.str_list _ _ k hu0, RcNeAt.str_list _ _ k hu0⟩
      | tup c => obtain ⟨a, vs, its, _, rfl, _, _, _, k⟩ := sb; cases h; exact ⟨EqAt.str_tuple _ _ k hu0, RcAt.str_tuple _ _ k hu0, RcNeAt.str_tuple _ _ k hu0⟩
      | _ => cases h
    | lst ds =>
      obtain ⟨a, vs, its, ez, rfl, ha, ra, va, ka⟩ := sa
      cases db with
      | non => cases sb; cases h; exact ⟨EqAt.list_none ka hu0, RcAt.list_none ka hu0, RcNeAt.list_none ka hu0⟩
      | bl c => cases sb; cases h; exact ⟨EqAt.list_bool _ ka hu0, RcAt.list_bool _ ka hu0, RcNeAt.list_bool _ ka hu0⟩
      | int c => obtain ⟨t, rfl⟩ := sb; cases h; exact ⟨EqAt.list_int _ _ ka hu0, RcAt.list_int _ _ ka hu0, RcNeAt.list_int _ _ ka hu0⟩
      | str c => obtain ⟨t, rfl⟩ := sb; cases h; exact ⟨EqAt.list_str _ _ ka hu0, RcAt.list_str _ _ ka hu0, RcNeAt.list_str _ _ ka hu0⟩
      | tup c => obtain ⟨a', vs', its', ez', rfl, _, _, _, k⟩ := sb; cases h; exact ⟨EqAt.list_tuple ka k hu0, RcAt.list_tuple ka k hu0, RcNeAt.list_tuple ka k hu0⟩
      | lst es =>
        obtain ⟨a', vs', its', ez', rfl, hb, rb, vb, kb⟩ := sb
        have same : a = a' → b = true := fun z => eqN_same (mg := mg) (n + 1) x (.lst ds) (.lst es) b r (by rw [ez, z, ← ez']; exact q) h
        have rc : RcAt A s (.ref a) (.ref a') b ∧ RcNeAt A s (.ref a) (.ref a') (!b) := by
          have l1 : its.toArray.size = ds.length := by rw [List.size_toArray]; exact va.length.symm.trans ra.length
          have l2 : its'.toArray.size = es.length := by rw [List.size_toArray]; exact vb.length.symm.trans rb.length
          have h : (if ds.length = es.length then eqs (eqN n) ds es else some false) = some b := h
          by_cases hl : ds.length = es.length
          · rw [if_pos hl] at h
            obtain ⟨e, he, hb2⟩ := eqs_at h
            have hb3 : b = (List.range its.toArray.size).all e := by
              rw [hb2, l1, ← hl, Nat.min_self]; simp
            have it := items_eq I ih ra rb va vb he
            rw [hb3]
            exact ⟨RcAt.lists ka kb (by omega) hu0 it, RcNeAt.lists ka kb (by omega) hu0 it⟩
          · rw [if_neg hl] at h
            cases h
            have hne : (its.toArray.size != its'.toArray.size) = true := by rw [l1, l2]; exact bne_iff_ne.mpr hl
            exact ⟨RcAt.lists_lengths ka kb hne hu0, RcNeAt.lists_lengths ka kb hne hu0⟩
        refine ⟨?_, rc⟩
        by_cases z : a = a'
        · rw [same z, z]; exact EqAt.same _
        · exact EqAt.of_refs z rc.1
      | _ => cases h
    | tup ds =>
      obtain ⟨a, vs, its, ez, rfl, ha, ra, va, ka⟩ := sa
      cases db with
      | non => cases sb; cases h; exact ⟨EqAt.tuple_none ka hu0, RcAt.tuple_none ka hu0, RcNeAt.tuple_none ka hu0⟩
      | bl c => cases sb; cases h; exact ⟨EqAt.tuple_bool _ ka hu0, RcAt.tuple_bool _ ka hu0, RcNeAt.tuple_bool _ ka hu0⟩
      | int c => obtain ⟨t, rfl⟩ := sb; cases h; exact ⟨EqAt.tuple_int _ _ ka hu0, RcAt.tuple_int _ _ ka hu0, RcNeAt.tuple_int _ _ ka hu0⟩
      | str c => obtain ⟨t, rfl⟩ := sb; cases h; exact ⟨EqAt.tuple_str _ _ ka hu0, RcAt.tuple_str _ _ ka hu0, RcNeAt.tuple_str _ _ ka hu0⟩
      | lst c => obtain ⟨a', vs', its', ez', rfl, _, _, _, k⟩ := sb; cases h; exact ⟨EqAt.tuple_list ka k hu0, RcAt.tuple_list ka k hu0, RcNeAt.tuple_list ka k hu0⟩
      | tup es =>
        obtain ⟨a', vs', its', ez', rfl, hb, rb, vb, kb⟩ := sb
        have same : a = a' → b = true := fun z => eqN_same (mg := mg) (n + 1) x (.tup ds) (.tup es) b r (by rw [ez, z, ← ez']; exact q) h
        have rc : RcAt A s (.ref a) (.ref a') b ∧ RcNeAt A s (.ref a) (.ref a') (!b) := by
          have l1 : its.toArray.size = ds.length := by rw [List.size_toArray]; exact va.length.symm.trans ra.length
          have l2 : its'.toArray.size = es.length := by rw [List.size_toArray]; exact vb.length.symm.trans rb.length
          have h : eqs (eqN n) ds es = some b := h
          obtain ⟨e, he, hb2⟩ := eqs_at h
          have it := items_eq I ih ra rb va vb he
          rw [hb2, ← l1, ← l2]
          exact ⟨RcAt.tuples ka kb hu0 it, RcNeAt.tuples ka kb hu0 it⟩
        refine ⟨?_, rc⟩
        by_cases z : a = a'
        · rw [same z, z]; exact EqAt.same _
        · exact EqAt.of_refs z rc.1
      | _ => cases h
    | _ => cases h
end
end Mp
/-! operations by values -/
namespace Mp
open PySem PySem.Spec PyProof.Rows L2 PySem.SeqAt

section
variable {mg : Gd} {X : Cx} {F H : Hp} {Q : VK} {k : Nat} {x y : V}
theorem KE.at {d : D} {v : V} (h : KE mg k Q F H d) (le : Le F H) (a : isAtom d = true) (r : Rep mg F v d) : Q v H :=
  h v F H [] (Grow.refl le) (rep_atom a r) fun _ z => by cases z
theorem KE.int {i : Int} (h : KE mg k Q F H (.int i)) (le : Le F H) : Q (.int i) H := h.at le rfl (by unfold Rep; rfl)
theorem KE.bl {i : Bool} (h : KE mg k Q F H (.bl i)) (le : Le F H) : Q (.bl i) H := h.at le rfl (by unfold Rep; rfl)
theorem KE.str {i : Str} (h : KE mg k Q F H (.str i)) (le : Le F H) : Q (.str i) H := h.at le rfl (by unfold Rep; rfl)
/-- a new list of what stays -/
theorem KE.lst {ds : List D} {vs : List V} {p : Addr} (h : KE mg 1 Q F H (.lst ds)) (le : Le F H) (np : H p = none) (r : Reps mg F vs ds) : Q (.ref p) (upd H p (.lst vs)) := by
  refine h (.ref p) F _ [p] (Grow.fresh le np) (.inr ⟨p, rfl, le.none np, by simp, .inl ⟨ds, vs, List.replicate ds.length [], rfl, upd_same, ?_, ?_⟩⟩) (fun a m => by rw [List.mem_singleton.mp m]; exact np)
  · have go : ∀ {vs : List V} {ds : List D}, Reps mg F vs ds → All3 (RepN mg 0 F (upd H p (.lst vs))) vs ds (List.replicate ds.length []) := fun {vs ds} r => by
      have : ∀ (H' : Hp) {vs : List V} {ds : List D}, Reps mg F vs ds → All3 (RepN mg 0 F H') vs ds (List.replicate ds.length []) := fun H' {vs ds} r => by
        induction ds generalizing vs with
        | nil => unfold Reps at r; subst r; exact True.intro
        | cons d ds ih =>
          unfold Reps at r
          obtain ⟨v, t, e, a, b⟩ := r
          subst e
          exact ⟨⟨rfl, a⟩, ih b⟩
      exact this _ r
    exact go r
  · have : ∀ n : Nat, (List.replicate n ([] : List Addr)).flatten = [] := fun n => by
      induction n with
      | zero => rfl
      | succ n ih => rw [List.replicate_succ, List.flatten_cons, ih]; rfl
    rw [this]
theorem KE.tup {ds : List D} {vs : List V} {p : Addr} (h : KE mg k Q F H (.tup ds)) (le : Le F H) (np : H p = none) (r : Reps mg F vs ds) : Q (.ref p) (upd H p (.tup vs)) := by
  have g : Grow F H (upd F p (.tup vs)) (upd H p (.tup vs)) := Grow.keep le np
  refine h (.ref p) _ _ [] g (rep_atom rfl ?_) (fun _ z => by cases z)
  unfold Rep
  exact ⟨p, vs, rfl, upd_same, Reps.grow g r⟩

theorem rep_int {v : V} {i : Int} (r : Rep mg H v (.int i)) : v = .int i := by unfold Rep at r; exact r
theorem rep_str {v : V} {i : Str} (r : Rep mg H v (.str i)) : v = .str i := by unfold Rep at r; exact r
theorem rep_bl {v : V} {i : Bool} (r : Rep mg H v (.bl i)) : v = .bl i := by unfold Rep at r; exact r
theorem rep_non {v : V} (r : Rep mg H v .non) : v = .non := by unfold Rep at r; exact r
theorem rep_lst {v : V} {ds : List D} (r : Rep mg H v (.lst ds)) : ∃ a vs, v = .ref a ∧ H a = some (.lst vs) ∧ Reps mg H vs ds := by unfold Rep at r; exact r
theorem rep_tup {v : V} {ds : List D} (r : Rep mg H v (.tup ds)) : ∃ a vs, v = .ref a ∧ H a = some (.tup vs) ∧ Reps mg H vs ds := by unfold Rep at r; exact r
theorem rep_dK {v : V} {ks : List Key} {ds : List D} (r : Rep mg H v (.dK ks ds)) : ∃ a vs, v = .ref a ∧ ks.length = vs.length ∧ Rd H a (.dK (ks.zip vs)) ∧ Reps mg H vs ds := by unfold Rep at r; exact r
theorem rep_dT {v : V} {ks : List (List Key)} {ds : List D} (r : Rep mg H v (.dT ks ds)) : ∃ a vs, v = .ref a ∧ ks.length = vs.length ∧ Rd H a (.dT (ks.zip vs)) ∧ Reps mg H vs ds := by unfold Rep at r; exact r
theorem rep_obj {v : V} {c : String} {ds : List D} (r : Rep mg H v (.obj c ds)) : ∃ a C dx vs, v = .ref a ∧ vs.length ≤ (mg.cf c).length ∧ mg.mg c = some (.ref C) ∧ H a = some (.ins C dx ((mg.cf c).zip vs)) ∧ Reps mg H vs ds := by unfold Rep at r; exact r

/-! ### a op b -/
theorem reps_rep : ∀ (n : Nat) {vs : List V} {ds : List D}, Reps mg F vs ds → Reps mg F (List.replicate n vs).flatten (List.replicate n ds).flatten
  | 0, _, _, _ => Reps.nil
  | n + 1, vs, ds, r => by
    rw [List.replicate_succ, List.replicate_succ, List.flatten_cons, List.flatten_cons]
    exact Reps.append r (reps_rep n r)
/-- the parts stay, or lie in no heap -/
theorem shr_reps {b : Bool} {vs : List V} {ds : List D} {a : Addr} (h : shr b ds = true) (le : Le F H) (hH : H a = some (.lst vs)) (r : Reps mg H vs ds) (hf : b = false → Rep mg F (.ref a) (.lst ds)) : Reps mg F vs ds := by
  cases b with
  | true => exact reps_scal h r
  | false =>
    obtain ⟨a', vs', e, h1, h2⟩ := rep_lst (hf rfl)
    cases e
    rw [le.lst h1] at hH
    cases hH
    exact h2
theorem strmul {s : Str} {n : Int} (h1 : 0 ≤ n) (h2 : n < 1000000) (h3 : s.length ≤ 1000) :
    OpR X (binaryOp .Mult) (fun x y H Q => x = .str s ∧ y = .int n ∧ s.length * n.toNat ≤ 16777216 ∧ Q (.str (repS s n.toNat)) H) := by
  intro pins st σ H x y v u Q I rx ry h
  obtain ⟨rfl, rfl, hz, q⟩ := h
  obtain ⟨t, rfl⟩ := rx
  obtain ⟨t', rfl⟩ := ry
  have e0 : s.cps.toList.toArray = s.cps := by simp
  have hflat : ∀ k : Nat, (List.replicate k s.cps).foldl (· ++ ·) #[] = (List.replicate k s.cps.toList).flatten.toArray := fun k => by
    have go : ∀ (k : Nat) (acc : Array Nat), (List.replicate k s.cps).foldl (· ++ ·) acc = acc ++ (List.replicate k s.cps.toList).flatten.toArray := fun k => by
      induction k with
      | zero => intro acc; simp
      | succ k ih => intro acc; rw [List.replicate_succ, List.foldl_cons, ih, List.replicate_succ, List.flatten_cons]; apply Array.ext'; simp
    rw [go]; simp
  refine P.mul_str (by
      have a1 : ¬ n < -(2 ^ 63 : Int) := by omega
      have a2 : ¬ n ≥ 2 ^ 63 := by omega
      rw [decide_eq_false a1, decide_eq_false a2]; rfl) (fun z _ => ?_) (fun z _ => ?_) ?_
  · have : (s.length : Int) ≤ 1000 := by omega
    have : (1000 : Int) ≤ (2 ^ 63 - 1) / n := by
      rw [Int.le_ediv_iff_mul_le (by omega)]
      omega
    omega
  · unfold Builtin.Str.tooLong
    rw [decide_eq_false_iff_not]
    have : (16777216 : Nat) ≤ sizeLine := by rw [sizeLine_eq]; decide
    omega
  · by_cases z : n < 1
    · rw [if_pos z]
      have z0 : n = 0 := by omega
      subst z0
      exact ⟨by decide, .str (repS s 0), H, I.tok _, ⟨_, rfl⟩, q⟩
    · rw [if_neg z]
      by_cases w : (n == 1 || s.length == 0) = true
      · rw [if_pos w]
        have e : repS s n.toNat = s := by
          rw [Bool.or_eq_true] at w
          unfold repS
          rcases w with w | w
          · have w : n = 1 := beq_iff_eq.mp w
            subst w
            show (⟨(s.cps.toList ++ []).toArray⟩ : Str) = s
            rw [List.append_nil, e0]
          · have w : s.cps.size = 0 := beq_iff_eq.mp w
            have w2 : s.cps = #[] := Array.eq_empty_of_size_eq_zero w
            rw [w2]
            have : ∀ k : Nat, (List.replicate k (#[] : Array Nat).toList).flatten = [] := fun k => by
              induction k with
              | zero => rfl
              | succ k ih => rw [List.replicate_succ, List.flatten_cons, ih]; rfl
            rw [this]
            cases s with
            | mk c => exact (congrArg Str.mk w2).symm
        rw [e] at q
        exact ⟨.str s, H, I, ⟨_, rfl⟩, q⟩
      · rw [if_neg w]
        refine ⟨?_, .str (repS s n.toNat), H, I.tok _, ⟨_, by unfold repS; rw [hflat]⟩, q⟩
        rw [hflat]
        have hl : ∀ k : Nat, (List.replicate k s.cps.toList).flatten.length = k * s.cps.size := fun k => by
          induction k with
          | zero => simp
          | succ k ih => rw [List.replicate_succ, List.flatten_cons, List.length_append, ih, Array.length_toList, Nat.succ_mul, Nat.add_comm]
        have hs : s.length = s.cps.size := rfl
        have : (16777216 : Nat) ≤ sizeLine := by rw [sizeLine_eq]; decide
        show (List.replicate n.toNat s.cps.toList).flatten.toArray.size ≤ sizeLine
        rw [List.size_toArray, hl, Nat.mul_comm, ← hs]
        omega

theorem int_op {o : Operator} {i j r : Int} (h : intOp o i j = some r) (q : Q (.int r) H) : anyOp X (binaryOp o) (.int i) (.int j) H Q := by
  cases o with
  | Add => cases h; exact ⟨_, op_add, i, j, rfl, rfl, q⟩
  | Sub => cases h; exact ⟨_, op_sub, i, j, rfl, rfl, q⟩
  | Mult =>
    have h : (if i.natAbs < 2 ^ 64 ∨ j.natAbs < 2 ^ 64 then some (i * j) else none) = some r := h
    split at h
    · rename_i z; cases h; exact ⟨_, op_mul, i, j, rfl, rfl, z.imp (fun z => ⟨by omega, by omega⟩) (fun z => ⟨by omega, by omega⟩), q⟩
    · cases h
  | FloorDiv =>
    have h : (if 0 < j ∧ j.natAbs < 1073741824 then some (i / j) else none) = some r := h
    split at h
    · rename_i z; cases h; exact ⟨_, op_fdiv, i, j, rfl, rfl, ⟨z.1, by omega⟩, q⟩
    · cases h
  | Mod =>
    have h : (if 0 < j then some (i % j) else none) = some r := h
    split at h
    · rename_i z; cases h; exact ⟨_, op_mod, i, j, rfl, rfl, z, q⟩
    · cases h
  | Pow =>
    have h : (if 0 ≤ j ∧ j.natAbs ≤ 1000000 ∧ i.natAbs < 2 ^ 64 then some (i ^ j.toNat) else none) = some r := h
    split at h
    · rename_i z; cases h; exact ⟨_, op_pow, i, j, rfl, rfl, ⟨z.1, by omega, z.2.2⟩, q⟩
    · cases h
  | _ => cases h
theorem bin_op {b : Bool} {o : Operator} {dx dy d : D} (le : Le F H) (rx : Rep mg H x dx) (ry : Rep mg H y dy) (hf : b = false → Rep mg F x dx ∧ Rep mg F y dy) (h : binD b o dx dy = some d) (q : KE mg 1 Q F H d) :
    anyOp X (binaryOp o) x y H Q := by
  cases dx with
  | int i =>
    cases dy with
    | int j =>
      have := rep_int rx; subst this
      have := rep_int ry; subst this
      have h : (intOp o i j).map D.int = some d := h
      cases e : intOp o i j with
      | none => rw [e] at h; cases h
      | some r => rw [e] at h; cases h; exact int_op e (q.int le)
    | _ => cases h
  | str s =>
    cases dy with
    | str t =>
      have := rep_str rx; subst this
      have := rep_str ry; subst this
      cases o with
      | Add =>
        have h : (if s.length + t.length ≤ sizeLine then some (D.str (s ++ t)) else none) = some d := h
        split at h
        · rename_i z; cases h; exact ⟨_, op_add_str, s, t, rfl, rfl, z, q.str le⟩
        · cases h
      | _ => cases h
    | int n =>
      have := rep_str rx; subst this
      have := rep_int ry; subst this
      cases o with
      | Mult =>
        have h : (if 0 ≤ n ∧ n.natAbs < 1000000 ∧ s.length ≤ 1000 ∧ s.length * n.toNat ≤ 16777216 then some (D.str (repS s n.toNat)) else none) = some d := h
        split at h
        · rename_i z; cases h; exact ⟨_, strmul z.1 (by omega) z.2.2.1, rfl, rfl, z.2.2.2, q.str le⟩
        · cases h
      | _ => cases h
    | _ => cases h
  | lst xs =>
    obtain ⟨a, vs, e, h1, h2⟩ := rep_lst rx
    subst e
    cases dy with
    | lst ys =>
      obtain ⟨a', ws, e', g1, g2⟩ := rep_lst ry
      subst e'
      cases o with
      | Add =>
        have h : (if xs.length + ys.length ≤ sizeLine ∧ shr b xs = true ∧ shr b ys = true then some (D.lst (xs ++ ys)) else none) = some d := h
        split at h
        · rename_i z; cases h
          refine ⟨_, op_cat, a, a', vs, ws, rfl, rfl, h1, g1, by rw [h2.length, g2.length]; exact z.1, fun p np => ?_⟩
          exact q.lst le np (Reps.append (shr_reps z.2.1 le h1 h2 fun w => (hf w).1) (shr_reps z.2.2 le g1 g2 fun w => (hf w).2))
        · cases h
      | _ => cases h
    | int n =>
      have := rep_int ry; subst this
      cases o with
      | Mult =>
        have h : (if 0 ≤ n ∧ n.natAbs < 1000000 ∧ xs.length * n.toNat ≤ sizeLine ∧ shr b xs = true then some (D.lst (List.replicate n.toNat xs).flatten) else none) = some d := h
        split at h
        · rename_i z; cases h
          refine ⟨_, op_rep, a, n, vs, rfl, rfl, h1, by omega, by omega, by rw [h2.length]; exact z.2.2.1, fun p np => ?_⟩
          exact q.lst le np (reps_rep _ (shr_reps z.2.2.2 le h1 h2 fun w => (hf w).1))
        · cases h
      | _ => cases h
    | _ => cases h
  | tup xs =>
    cases dy with
    | tup ys =>
      cases o with
      | Add =>
        cases b with
        | true => exact absurd h (by intro h; cases h)
        | false =>
        obtain ⟨a, vs, e, h1, h2⟩ := rep_tup (hf rfl).1
        subst e
        obtain ⟨a', ws, e', g1, g2⟩ := rep_tup (hf rfl).2
        subst e'
        have h : (if xs.length + ys.length ≤ sizeLine then some (D.tup (xs ++ ys)) else none) = some d := h
        split at h
        · rename_i z; cases h
          refine ⟨_, op_catA, a, a', vs, ws, rfl, rfl, SqT.of (le.tup h1), SqT.of (le.tup g1), by rw [h2.length, g2.length]; exact z, fun w => ?_, fun w1 w2 => ?_, fun w1 w2 p np => ?_⟩
          · have w' : xs = [] := List.length_eq_zero_iff.mp (by rw [← h2.length, w]; rfl)
            refine q.at le rfl ?_
            rw [w', List.nil_append]
            exact (hf rfl).2
          · have w' : ys = [] := List.length_eq_zero_iff.mp (by rw [← g2.length, w2]; rfl)
            refine q.at le rfl ?_
            rw [w', List.append_nil]
            exact (hf rfl).1
          · exact q.tup le np (Reps.append h2 g2)
        · cases h
      | _ => cases b <;> cases h
    | _ => cases h
  | _ => cases dy <;> cases h

/-! ### comparisons -/
theorem lookD_val : ∀ {js : List Key} {ws : List V} {us : List D} {k : Key}, Reps mg H ws us → (lookD k js us = none → valV (js.zip ws) k = none) ∧ ∀ u, lookD k js us = some u → ∃ y, valV (js.zip ws) k = some y ∧ Rep mg H y u
  | [], ws, us, k, _ => ⟨fun _ => by rw [List.zip_nil_left]; rfl, fun u h => by unfold lookD at h; cases h⟩
  | j :: js, ws, [], k, r => by
    unfold Reps at r; subst r
    exact ⟨fun _ => by rw [List.zip_nil_right]; rfl, fun u h => by unfold lookD at h; cases h⟩
  | j :: js, ws, u :: us, k, r => by
    unfold Reps at r
    obtain ⟨y, t, e, r1, r2⟩ := r
    subst e
    have ih := lookD_val (js := js) (k := k) r2
    rw [List.zip_cons_cons]
    have e1 : valV ((j, y) :: js.zip t) k = if j = k then some y else valV (js.zip t) k := by
      unfold valV
      rw [List.find?_cons]
      by_cases z : j = k
      · rw [if_pos z]; simp [z]
      · rw [if_neg z]; simp [z]
    unfold lookD
    rw [e1]
    by_cases z : j = k
    · rw [if_pos z, if_pos z]
      exact ⟨(fun h => by cases h), fun u' h => by cases h; exact ⟨y, rfl, r1⟩⟩
    · rw [if_neg z, if_neg z]; exact ih
theorem dict_hits {pins : List (Addr × Obj)} {σ : L2.St} {s : Shared} (I : Inv X pins σ H s) {A : Around} (hu : A.units + 24 < cLine) {js : List Key} {ws : List V} {us : List D} {vb : List (Key × Value)} (rw' : Reps mg H ws us) (kb : KV (js.zip ws) vb) :
    ∀ {ks : List Key} {xs : List V} {ds : List D} {va : List (Key × Value)} {b : Bool}, Reps mg H xs ds → KV (ks.zip xs) va → eqKs eqD js us ks ds = some b → PySem.W.KeqHits A s vb va b
  | [], xs, ds, va, b, r, ka, h => by
    rw [List.zip_nil_left] at ka
    unfold KV at ka; cases ka
    cases ds with
    | nil => cases h; exact .nil
    | cons _ _ => cases h
  | k :: ks, xs, [], va, b, r, ka, h => by cases h
  | k :: ks, xs, d :: ds, va, b, r, ka, h => by
    unfold Reps at r
    obtain ⟨x, t, e, r1, r2⟩ := r
    subst e
    rw [List.zip_cons_cons] at ka
    unfold KV at ka
    cases ka with
    | @cons _ q _ qs h1 h2 =>
      obtain ⟨key, v⟩ := q
      obtain ⟨h11, h12⟩ := h1
      have h11 : k = key := h11
      subst h11
      have h12 : RelV x v := h12
      obtain ⟨l1, l2⟩ := lookD_val (js := js) (k := k) rw'
      have rr : RelO (valV (js.zip ws) k) (valueAt vb k) := kb.val k
      have h : (match lookD k js us with | none => some false | some u => (eqD d u).bind fun b => (eqKs eqD js us ks ds).map (b && ·)) = some b := h
      cases hl : lookD k js us with
      | none =>
        rw [hl] at h; cases h
        rw [l1 hl] at rr
        refine .miss ?_
        cases hv : valueAt vb k with
        | none => rfl
        | some u => rw [hv] at rr; exact rr.elim
      | some u =>
        rw [hl] at h
        obtain ⟨y, e1, r3⟩ := l2 u hl
        rw [e1] at rr
        obtain ⟨yv, hy, ry⟩ := rr.some_of
        have h : ((eqD d u).bind fun b => (eqKs eqD js us ks ds).map (b && ·)) = some b := h
        cases he : eqD d u with
        | none => rw [he] at h; cases h
        | some b1 =>
          rw [he] at h
          cases hr : eqKs eqD js us ks ds with
          | none => rw [hr] at h; cases h
          | some b2 =>
            rw [hr] at h; cases h
            exact .hit hy (eqN_ok I 24 A d u b1 x y v yv hu r1 r3 h12 ry he).1 (dict_hits I hu rw' kb r2 h2 hr)
theorem eqX_ok {pins : List (Addr × Obj)} {σ : L2.St} {s : Shared} (I : Inv X pins σ H s) (hu : X.A.units + 25 < cLine) {dx dy : D} {b : Bool} {v u : Value} (rx : Rep mg H x dx) (ry : Rep mg H y dy) (r1 : RelV x v) (r2 : RelV y u) (h : eqX dx dy = some b) {Q : Value → Shared → Prop} {E : Value → Shared → Prop} :
    (Q (.bool b) s → wpAny (model X.prog X.w) X.A (compareOp .Eq v u) Q E s) ∧ (Q (.bool (!b)) s → wpAny (model X.prog X.w) X.A (compareOp .NotEq v u) Q E s) := by
  have plain : eqD dx dy = some b → (Q (.bool b) s → wpAny (model X.prog X.w) X.A (compareOp .Eq v u) Q E s) ∧ (Q (.bool (!b)) s → wpAny (model X.prog X.w) X.A (compareOp .NotEq v u) Q E s) := fun h =>
    have z := eqN_ok I 24 X.A dx dy b x y v u (by omega) rx ry r1 r2 h
    ⟨fun q => z.2.1 _ _ _ _ q, fun q => z.2.2 _ _ _ _ q⟩
  cases dx with
  | dK ks vs =>
    cases dy with
    | dK js us =>
      obtain ⟨a1, xs, e1, l1, o1, p1⟩ : ∃ a vs', x = .ref a ∧ ks.length = vs'.length ∧ Rd H a (.dK (ks.zip vs')) ∧ Reps mg H vs' vs := by unfold Rep at rx; exact rx
      obtain ⟨a2, ys, e2, l2, o2, p2⟩ : ∃ a vs', y = .ref a ∧ js.length = vs'.length ∧ Rd H a (.dK (js.zip vs')) ∧ Reps mg H vs' us := by unfold Rep at ry; exact ry
      subst e1; subst e2
      have got : ∀ {a : Addr} {kvs : List (Key × V)}, Rd H a (.dK kvs) → ObjOk X.prog X.w H s.heap a (.dK kvs) := fun {a kvs} o => by
        rcases o with z | ⟨ob, z⟩
        · exact I.hok _ _ z
        · exact (show ObjOk X.prog X.w H s.heap a (.frz ob (.dK kvs)) from I.hok _ _ z).2
      obtain ⟨_, ya, va, ra, da⟩ := got o1
      obtain ⟨_, yb, vb, rb, db⟩ := got o2
      cases (show v = Value.ref a1 from r1)
      cases (show u = Value.ref a2 from r2)
      have h : (if ks.length = js.length then eqKs eqD js us ks vs else some false) = some b := h
      have z1 : va.length = ks.length := by rw [← ra.length, List.length_zip, ← l1, Nat.min_self]
      have z2 : vb.length = js.length := by rw [← rb.length, List.length_zip, ← l2, Nat.min_self]
      by_cases hl : ks.length = js.length
      · rw [if_pos hl] at h
        have hits : va.length = vb.length → PySem.W.KeqHits X.A.in1 s vb va b := fun _ => dict_hits I (by show X.A.units + 1 + 24 < cLine; omega) p2 rb p1 ra h
        have e : (va.length == vb.length && b) = b := by rw [z1, z2, hl]; simp
        exact ⟨fun q => PySem.W.keq_eq (knd := mixKind X.prog X.w) ya yb da db (by omega) hits (by rw [e]; exact q), fun q => PySem.W.keq_ne (knd := mixKind X.prog X.w) ya yb da db (by omega) hits (by rw [e]; exact q)⟩
      · rw [if_neg hl] at h; cases h
        have ne : (va.length == vb.length) = false := by rw [z1, z2]; exact beq_eq_false_iff_ne.mpr hl
        have hits : va.length = vb.length → PySem.W.KeqHits X.A.in1 s vb va false := fun z => absurd (by rw [z1, z2] at z; exact z) hl
        have e : (va.length == vb.length && false) = false := by simp
        exact ⟨fun q => PySem.W.keq_eq (knd := mixKind X.prog X.w) ya yb da db (by omega) hits (by rw [e]; exact q), fun q => PySem.W.keq_ne (knd := mixKind X.prog X.w) ya yb da db (by omega) hits (by rw [e]; exact q)⟩
    | _ => exact plain h
  | _ => exact plain h
theorem cmp_eq (hu : X.A.units + 25 < cLine) {dx dy : D} {b : Bool} (rx : Rep mg H x dx) (ry : Rep mg H y dy) (h : eqX dx dy = some b) (q : Q (.bl b) H) : anyOp X (compareOp .Eq) x y H Q :=
  ⟨fun x' y' H' Q' => x' = x ∧ y' = y ∧ H' = H ∧ Q' (.bl b) H', fun pins s σ H' x' y' v u Q' I r1 r2 ⟨e1, e2, e3, q'⟩ => by
    subst e1 e2 e3
    exact (eqX_ok I hu rx ry r1 r2 h).1 ⟨.bl b, H', I, rfl, q'⟩, rfl, rfl, rfl, q⟩
theorem cmp_ne (hu : X.A.units + 25 < cLine) {dx dy : D} {b : Bool} (rx : Rep mg H x dx) (ry : Rep mg H y dy) (h : eqX dx dy = some b) (q : Q (.bl (!b)) H) : anyOp X (compareOp .NotEq) x y H Q :=
  ⟨fun x' y' H' Q' => x' = x ∧ y' = y ∧ H' = H ∧ Q' (.bl (!b)) H', fun pins s σ H' x' y' v u Q' I r1 r2 ⟨e1, e2, e3, q'⟩ => by
    subst e1 e2 e3
    exact (eqX_ok I hu rx ry r1 r2 h).2 ⟨.bl (!b), H', I, rfl, q'⟩, rfl, rfl, rfl, q⟩
/-- the flat value of flat data -/
def vS : D → V
  | .non => .non
  | .bl b => .bl b
  | .int i => .int i
  | .str s => .str s
  | _ => .non
theorem rep_vS {d : D} (h : isScal d = true) (r : Rep mg H x d) : x = vS d := by
  cases d with
  | non => exact rep_non r
  | bl b => exact rep_bl r
  | int b => exact rep_int r
  | str b => exact rep_str r
  | _ => cases h
theorem flat_vS {d : D} : flatV (vS d) = true := by cases d <;> rfl
theorem eq_vS {d e : D} (h : isScal d = true) (h' : isScal e = true) : eqV (vS d) (vS e) = scalEq d e := by
  cases d <;> cases e <;> first | exact absurd h' (by decide) | exact absurd h (by decide) | exact absurd h' Bool.false_ne_true | exact absurd h Bool.false_ne_true | rfl
theorem reps_vS : ∀ {vs : List V} {ds : List D}, ds.all isScal = true → Reps mg H vs ds → vs = ds.map vS
  | vs, [], _, r => by unfold Reps at r; exact r
  | vs, d :: ds, h, r => by
    unfold Reps at r
    obtain ⟨v, t, e, a, b⟩ := r
    subst e
    rw [List.all_cons, Bool.and_eq_true] at h
    rw [List.map_cons, ← rep_vS h.1 a, ← reps_vS h.2 b]
theorem all_flat (ds : List D) : (ds.map vS).all flatV = true := by
  rw [List.all_map]
  exact List.all_eq_true.mpr fun d _ => flat_vS
theorem inV_vS {d : D} (h : isScal d = true) : ∀ {ds : List D}, ds.all isScal = true → inV (vS d) (ds.map vS) = ds.any fun y => scalEq y d
  | [], _ => rfl
  | e :: ds, h' => by
    rw [List.all_cons, Bool.and_eq_true] at h'
    unfold inV
    rw [List.map_cons, List.any_cons, List.any_cons, eq_vS h'.1 h]
    exact congrArg _ (inV_vS h h'.2)
theorem mem_vs {dx : D} {ds : List D} {b : Bool} {vs : List V} (h : memD dx ds = some b) (rx : Rep mg H x dx) (r : Reps mg H vs ds) : flatV x = true ∧ vs.all flatV = true ∧ inV x vs = b := by
  unfold memD at h
  split at h
  · rename_i z
    rw [Bool.and_eq_true] at z
    cases h
    have e1 := rep_vS z.1 rx
    have e2 := reps_vS z.2 r
    subst e1 e2
    exact ⟨flat_vS, all_flat ds, inV_vS z.1 z.2⟩
  · cases h

section
variable {κ : Type} [DecidableEq κ]
theorem look_val {k : κ} : ∀ {ks : List κ} {vs : List V} {ds : List D} {d : D}, ks.length = vs.length → Reps mg H vs ds → lookD k ks ds = some d → ∃ v, valV (ks.zip vs) k = some v ∧ Rep mg H v d
  | [], vs, ds, d, _, r, h => by cases ds <;> cases h
  | j :: js, [], ds, d, hl, _, _ => by simp at hl
  | j :: js, v :: vs, [], d, _, r, h => by cases h
  | j :: js, v :: vs, d' :: ds, d, hl, r, h => by
    unfold Reps at r
    obtain ⟨w, t, e, a, b⟩ := r
    obtain ⟨rfl, rfl⟩ := List.cons.inj e
    have h : (if j = k then some d' else lookD k js ds) = some d := h
    rw [List.zip_cons_cons]
    by_cases q : j = k
    · rw [if_pos q] at h; cases h
      exact ⟨v, valV_pos q, a⟩
    · rw [if_neg q] at h
      rw [valV_neg (p := (j, v)) q]
      exact look_val (by simpa using hl) b h
theorem look_none {k : κ} : ∀ {ks : List κ} {vs : List V} {ds : List D}, ks.length = vs.length → Reps mg H vs ds → lookD k ks ds = none → valV (ks.zip vs) k = none
  | [], vs, ds, _, r, h => by simp [valV_nil]
  | j :: js, [], ds, hl, _, _ => by simp at hl
  | j :: js, v :: vs, [], _, r, h => by unfold Reps at r; cases r
  | j :: js, v :: vs, d' :: ds, hl, r, h => by
    unfold Reps at r
    obtain ⟨w, t, e, a, b⟩ := r
    obtain ⟨rfl, rfl⟩ := List.cons.inj e
    have h : (if j = k then some d' else lookD k js ds) = none := h
    rw [List.zip_cons_cons]
    by_cases q : j = k
    · rw [if_pos q] at h; cases h
    · rw [if_neg q] at h
      rw [valV_neg (p := (j, v)) q]
      exact look_none (by simpa using hl) b h
theorem has_val {k : κ} : ∀ {ks : List κ} {vs : List V}, ks.length = vs.length → (valV (ks.zip vs) k).isSome = hasK k ks
  | [], vs, _ => by simp [valV_nil, hasK]
  | j :: js, [], hl => by simp at hl
  | j :: js, v :: vs, hl => by
    rw [List.zip_cons_cons]
    unfold hasK
    rw [List.any_cons]
    by_cases q : j = k
    · rw [valV_pos (p := (j, v)) q, decide_eq_true q]; rfl
    · rw [valV_neg (p := (j, v)) q, decide_eq_false q, Bool.false_or]
      exact has_val (by simpa using hl)
end
theorem key_rep {d : D} {k : Key} (h : keyD d = some k) (r : Rep mg H x d) : x = kV k := by
  cases d with
  | int i => cases h; exact rep_int r
  | str i => cases h; exact rep_str r
  | _ => cases h
theorem keys_rep : ∀ {vs : List V} {ds : List D} {ks : List Key}, keysD ds = some ks → Reps mg H vs ds → vs = ks.map kV
  | vs, [], ks, h, r => by cases h; unfold Reps at r; exact r
  | vs, d :: ds, ks, h, r => by
    unfold Reps at r
    obtain ⟨v, t, e, a, b⟩ := r
    subst e
    have h : ((keyD d).bind fun k => (keysD ds).bind fun r => some (k :: r)) = some ks := h
    cases h1 : keyD d with
    | none => rw [h1] at h; cases h
    | some k =>
      rw [h1] at h
      cases h2 : keysD ds with
      | none => rw [h2] at h; cases h
      | some l =>
        rw [h2] at h
        cases h
        rw [List.map_cons, ← key_rep h1 a, ← keys_rep h2 b]
theorem tkey_rep {d : D} {k : List Key} (h : tkeyD d = some k) (r : Rep mg H x d) : ∃ b, x = .ref b ∧ H b = some (.tup (k.map kV)) := by
  cases d with
  | tup ds =>
    obtain ⟨a, vs, e, h1, h2⟩ := rep_tup r
    rw [keys_rep h h2] at h1
    exact ⟨a, e, h1⟩
  | _ => cases h
/-- what a dict has at a key -/
theorem dget_k {ks : List Key} {ds : List D} {k : Key} {dk : D} (hk : keyD dk = some k) (r : Rep mg H x (.dK ks ds)) (rk : Rep mg H y dk) :
    ∃ a o, x = .ref a ∧ DGet H a y o ∧ o.isSome = hasK k ks ∧ (∀ d, lookD k ks ds = some d → ∃ v, o = some v ∧ Rep mg H v d) ∧ (lookD k ks ds = none → o = none) := by
  obtain ⟨a, vs, e, hl, hd, hr⟩ := rep_dK r
  refine ⟨a, valV (ks.zip vs) k, e, .inl ⟨_, k, hd, key_rep hk rk, rfl⟩, has_val hl, fun d h => ?_, fun h => look_none hl hr h⟩
  exact look_val hl hr h
theorem dget_t {ks : List (List Key)} {ds : List D} {k : List Key} {dk : D} (hk : tkeyD dk = some k) (r : Rep mg H x (.dT ks ds)) (rk : Rep mg H y dk) :
    ∃ a o, x = .ref a ∧ DGet H a y o ∧ o.isSome = hasK k ks ∧ (∀ d, lookD k ks ds = some d → ∃ v, o = some v ∧ Rep mg H v d) ∧ (lookD k ks ds = none → o = none) := by
  obtain ⟨a, vs, e, hl, hd, hr⟩ := rep_dT r
  obtain ⟨b, e2, hb⟩ := tkey_rep hk rk
  refine ⟨a, valV (ks.zip vs) k, e, .inr ⟨_, k, b, hd, e2, hb, rfl⟩, has_val hl, fun d h => ?_, fun h => look_none hl hr h⟩
  exact look_val hl hr h
theorem dIn_op (hu : X.A.units + 1 < cLine) : OpR X (compareOp .In) (fun y x H Q => ∃ a o, x = .ref a ∧ DGet H a y o ∧ Q (.bl o.isSome) H) := by
  intro pins s σ H y x u v Q I ry rx h
  obtain ⟨a, o, rfl, g, q⟩ := h
  cases rx
  exact d_in hu I g ry fun s3 I3 => ⟨.bl o.isSome, H, I3, rfl, q⟩
theorem dNotIn_op (hu : X.A.units + 1 < cLine) : OpR X (compareOp .NotIn) (fun y x H Q => ∃ a o, x = .ref a ∧ DGet H a y o ∧ Q (.bl (!o.isSome)) H) := by
  intro pins s σ H y x u v Q I ry rx h
  obtain ⟨a, o, rfl, g, q⟩ := h
  cases rx
  exact d_notIn hu I g ry fun s3 I3 => ⟨.bl (!o.isSome), H, I3, rfl, q⟩
theorem in_op (hu : X.A.units + 1 < cLine) {neg : Bool} {dx dy : D} {b : Bool} (rx : Rep mg H x dx) (ry : Rep mg H y dy) (h : inD dx dy = some b) (q : Q (.bl (if neg then !b else b)) H) :
    anyOp X (compareOp (if neg then .NotIn else .In)) x y H Q := by
  have seq : ∀ {a : Addr} {vs : List V} {ds : List D}, y = .ref a → (SqL X.K H a vs ∨ SqT X.K H a vs) → Reps mg H vs ds → memD dx ds = some b → anyOp X (compareOp (if neg then .NotIn else .In)) x y H Q := fun {a vs ds} e hs r hm => by
    obtain ⟨f1, f2, f3⟩ := mem_vs hm rx r
    cases neg with
    | false => exact ⟨_, op_in_seq, a, vs, e, hs, f1, f2, by rw [if_neg (by decide), f3]; exact q⟩
    | true => exact ⟨_, op_notIn_seq, a, vs, e, hs, f1, f2, by rw [if_pos rfl, f3]; exact q⟩
  have dct : ∀ {o : Option V} {a : Addr}, y = .ref a → DGet H a x o → o.isSome = b → anyOp X (compareOp (if neg then .NotIn else .In)) x y H Q := fun {o a} e g eb => by
    subst eb
    cases neg with
    | false => exact ⟨_, dIn_op hu, a, o, e, g, q⟩
    | true => exact ⟨_, dNotIn_op hu, a, o, e, g, q⟩
  cases dy with
  | lst ds =>
    obtain ⟨a, vs, e, h1, h2⟩ := rep_lst ry
    exact seq e (.inl (SqL.of h1)) h2 h
  | tup ds =>
    obtain ⟨a, vs, e, h1, h2⟩ := rep_tup ry
    exact seq e (.inr (SqT.of h1)) h2 h
  | dK ks ds =>
    have h : (keyD dx).map (fun k => hasK k ks) = some b := h
    cases hk : keyD dx with
    | none => rw [hk] at h; cases h
    | some k =>
      rw [hk] at h; cases h
      obtain ⟨a, o, e, g, hs, _⟩ := dget_k hk ry rx
      exact dct e g hs
  | dT ks ds =>
    have h : (tkeyD dx).map (fun k => hasK k ks) = some b := h
    cases hk : tkeyD dx with
    | none => rw [hk] at h; cases h
    | some k =>
      rw [hk] at h; cases h
      obtain ⟨a, o, e, g, hs, _⟩ := dget_t hk ry rx
      exact dct e g hs
  | str s =>
    cases dx with
    | str c =>
      have := rep_str rx; subst this
      have := rep_str ry; subst this
      have h : (match c.cps.toList with | [n] => some (decide (n ∈ s.cps.toList)) | _ => none) = some b := h
      split at h
      · rename_i n e
        cases h
        have ec : c = ⟨#[n]⟩ := by
          cases c with
          | mk arr =>
            have : arr = #[n] := by
              have e' : arr.toList = [n] := e
              have : arr.toList.toArray = [n].toArray := congrArg _ e'
              simpa using this
            rw [this]
        subst ec
        cases neg with
        | false => exact ⟨_, op_in_sign, n, s, rfl, rfl, q⟩
        | true => exact ⟨_, op_notIn_sign, n, s, rfl, rfl, q⟩
      · cases h
    | _ => cases h
  | _ => cases h
theorem is_op {neg : Bool} {dx dy : D} {b : Bool} (rx : Rep mg H x dx) (ry : Rep mg H y dy) (h : isD dx dy = some b) (q : Q (.bl (if neg then !b else b)) H) :
    anyOp X (compareOp (if neg then .IsNot else .Is)) x y H Q := by
  have no : ∀ {z : V} {d : D}, Rep mg H z d → decide (z = .non) = isNon d := fun {z d} r => by
    cases d with
    | non => rw [rep_non r]; rfl
    | bl b => rw [rep_bl r]; rfl
    | int b => rw [rep_int r]; rfl
    | str b => rw [rep_str r]; rfl
    | lst b => obtain ⟨_, _, e, _⟩ := rep_lst r; rw [e]; rfl
    | tup b => obtain ⟨_, _, e, _⟩ := rep_tup r; rw [e]; rfl
    | dK b => obtain ⟨_, _, e, _⟩ := rep_dK r; rw [e]; rfl
    | dT b => obtain ⟨_, _, e, _⟩ := rep_dT r; rw [e]; rfl
    | obj b => obtain ⟨_, _, _, _, e, _⟩ := rep_obj r; rw [e]; rfl
    | scr b => unfold Rep at r; obtain ⟨_, e, _⟩ := r; rw [e]; rfl
  cases dy with
  | non =>
    have := rep_non ry; subst this
    have h : some (isNon dx) = some b := by cases dx <;> exact h
    have h := Option.some.inj h
    subst h
    rw [← no rx] at q
    cases neg with
    | false => exact ⟨_, op_isN, rfl, q⟩
    | true => exact ⟨_, op_notN, rfl, q⟩
  | bl j =>
    have := rep_bl ry; subst this
    cases dx with
    | bl i =>
      have := rep_bl rx; subst this
      cases h
      have e : (i == j) = decide (i = j) := Bool.beq_eq_decide_eq i j
      rw [e] at q
      cases neg with
      | false => exact ⟨_, op_isBl, i, j, rfl, rfl, q⟩
      | true => exact ⟨_, op_notBl, i, j, rfl, rfl, q⟩
    | _ => cases h
  | _ => cases dx <;> cases h
end
end Mp
/-! expressions: the rules, one for each form -/
namespace Mp
open PySem PySem.Spec PyProof.Rows L2 PySem.SeqAt

/-- the forms that are read here (no star, no slice, no set, no super) -/
def plainE : Expr → Bool
  | .Constant _ _ _ => true
  | .Name _ _ => true
  | .BoolOp _ _ _ => true
  | .BinOp _ _ _ _ => true
  | .UnaryOp _ _ _ => true
  | .IfExp _ _ _ _ => true
  | .Dict _ _ _ => true
  | .List _ _ => true
  | .Tuple _ _ _ => true
  | .ListComp _ _ _ _ => true
  | .DictComp _ _ _ _ _ => true
  | .Compare _ _ _ _ => true
  | .Call (.Name id _) _ _ _ => id != "super"
  | .Call (.Attribute _ _ _) _ _ _ => true
  | .JoinedStr _ _ => true
  | .FormattedValue _ _ _ _ => true
  | .Attribute _ _ _ => true
  | .Subscript _ _ _ => true
  | _ => false
theorem plain_star {ex : Expr} {es : List Expr} {env : Env} (h : plainE ex = true) : starEach (ex :: es) env = (false, eval ex env) :: starEach es env := by
  cases ex <;> first | rfl | exact absurd h Bool.false_ne_true
theorem plain_ix {ex : Expr} (h : plainE ex = true) : PlainIx ex := by
  intro o i
  cases ex <;> first | rfl | exact absurd h Bool.false_ne_true
theorem plain_mark {ex : Expr} {op : CmpOp} (h : plainE ex = true) : behindInMarks op ex = false := by
  cases ex <;> first | rfl | exact absurd h Bool.false_ne_true
theorem plain_base {ex : Expr} {f : Str} {env : Env} (h : plainE ex = true) : attributeBase ex f env (eval ex env) = eval ex env := by
  cases ex with
  | Call fn args kws pos =>
    cases fn with
    | Name id p =>
      have hs : (id != Str.ofString "super") = true := h
      clear h
      cases args with
      | nil =>
        cases kws with
        | nil =>
          unfold attributeBase
          dsimp only
          rw [hs, Bool.true_or, Bool.true_or, Bool.true_or, if_pos rfl]
        | cons _ _ => rfl
      | cons _ _ => rfl
    | _ => first | rfl | exact absurd h Bool.false_ne_true
  | _ => first | rfl | exact absurd h Bool.false_ne_true
/-- its test is its value's truth -/
def truthE : Expr → Bool
  | .Constant _ _ _ => true
  | .Name _ _ => true
  | .BinOp _ _ _ _ => true
  | .UnaryOp .USub _ _ => true
  | .Dict _ _ _ => true
  | .List _ _ => true
  | .Tuple _ _ _ => true
  | .ListComp _ _ _ _ => true
  | .DictComp _ _ _ _ _ => true
  | .Call _ _ _ _ => true
  | .JoinedStr _ _ => true
  | .FormattedValue _ _ _ _ => true
  | .Attribute _ _ _ => true
  | .Subscript _ _ _ => true
  | _ => false
theorem truth_is {ex : Expr} {env : Env} (h : truthE ex = true) (whole : Sem Value) : isTrue ex env whole = (do let v ← whole; standAt ex.pos; holding [v] (truthy v)) := by
  cases ex with
  | UnaryOp o a p => cases o <;> first | rfl | exact absurd h Bool.false_ne_true
  | _ => first | rfl | exact absurd h Bool.false_ne_true
theorem plain_any {p : Pos} {env : Env} : ∀ {es : List Expr}, es.all plainE = true → (backTo p (starEach es env)).any (·.1) = false
  | [], _ => rfl
  | e :: es, h => by
    rw [List.all_cons, Bool.and_eq_true] at h
    rw [plain_star h.1]
    exact plain_any h.2

/-! ### what follows an expression -/
section
variable {mg : Gd} {e : Ent} {env : Sls} {F F' F1 H H' H1 : Hp} {σ : L2.St} {T : Nat → List Addr} {W : WX} {α β : Type} {X : Cx}
def rdX (mg : Gd) (e : Ent) (W : WX) (b : Bool) (m : Sls → R D) : TE := if b then rdB mg e W m else rdE mg e W m 0
theorem bX {b : Bool} {K : Hp → Hp → α → Prop} (hK : Grows K) (f : Frm mg e env F σ H T) {ma : Sls → R D} {g : D → R α} {Q : VK} (h : RW (ma env >>= g) (K F H) (EX mg W σ F H))
    (next : ∀ F1 H1 d x, Grow F H F1 H1 → Frm mg e env F1 σ H1 T → Rep mg H1 x d → (b = false → Rep mg F1 x d) → RW (g d) (K F1 H1) (EX mg W σ F1 H1) → Q x H1) : rdX mg e W b ma σ H Q := by
  cases b with
  | true =>
    exact ⟨env, F, T, f, (RW_bind.mp h).imp (fun d q v F1 H1 g1 r => next F1 H1 d v g1 (f.grow g1) r (fun z => by cases z) (RW.grow hK g1 q)) fun _ _ z => z⟩
  | false =>
    exact ⟨env, F, T, f, (RW_bind.mp h).imp (fun d q v F1 H1 S g1 r fr => next F1 H1 d v g1 (f.grow g1) (Rep.mono g1.le r.2) (fun _ => r.2) (RW.grow hK g1 q)) fun _ _ z => z⟩
theorem bE {k : Nat} {K : Hp → Hp → α → Prop} (hK : Grows K) (f : Frm mg e env F σ H T) {ma : Sls → R D} {g : D → R α} {Q : VK} (h : RW (ma env >>= g) (K F H) (EX mg W σ F H))
    (next : ∀ F1 H1 d x S, Grow F H F1 H1 → Frm mg e env F1 σ H1 T → RepN mg k F1 H1 x d S → (∀ a ∈ S, H a = none) → RW (g d) (K F1 H1) (EX mg W σ F1 H1) → Q x H1) : rdE mg e W ma k σ H Q :=
  ⟨env, F, T, f, (RW_bind.mp h).imp (fun d q v F1 H1 S g1 r fr => next F1 H1 d v S g1 (f.grow g1) r fr (RW.grow hK g1 q)) fun _ _ z => z⟩
theorem bT {K : Hp → Hp → α → Prop} (hK : Grows K) (f : Frm mg e env F σ H T) {ma : Sls → R Bool} {g : Bool → R α} {Q : Bool → Hp → Prop} (h : RW (ma env >>= g) (K F H) (EX mg W σ F H))
    (next : ∀ F1 H1 b, Grow F H F1 H1 → Frm mg e env F1 σ H1 T → RW (g b) (K F1 H1) (EX mg W σ F1 H1) → Q b H1) : rdT mg e W ma σ H Q :=
  ⟨env, F, T, f, (RW_bind.mp h).imp (fun d q F1 H1 g1 => next F1 H1 d g1 (f.grow g1) (RW.grow hK g1 q)) fun _ _ z => z⟩
theorem bA {bs : List Bool} {K : Hp → Hp → α → Prop} (hK : Grows K) (f : Frm mg e env F σ H T) {ma : Sls → R (List D)} {g : List D → R α} {Q : List V → Hp → Prop} (h : RW (ma env >>= g) (K F H) (EX mg W σ F H))
    (next : ∀ F1 H1 ds xs, Grow F H F1 H1 → Frm mg e env F1 σ H1 T → RepM mg bs F1 H1 xs ds → RW (g ds) (K F1 H1) (EX mg W σ F1 H1) → Q xs H1) : rdA mg e W bs ma σ H Q :=
  ⟨env, F, T, f, (RW_bind.mp h).imp (fun d q v F1 H1 g1 r => next F1 H1 d v g1 (f.grow g1) r (RW.grow hK g1 q)) fun _ _ z => z⟩
theorem rdX_mono {b c : Bool} (h : b = true → c = true) {m : Sls → R D} : ∀ σ H Q, rdX mg e W c m σ H Q → rdX mg e W b m σ H Q := fun σ H Q q => by
  cases b with
  | true => rw [h rfl] at q; exact q
  | false =>
    cases c with
    | false => exact q
    | true => exact rdE_bor _ _ _ q
theorem rdE_X {b : Bool} {k : Nat} {m : Sls → R D} : ∀ σ H Q, rdX mg e W b m σ H Q → rdE mg e W m k σ H Q := fun σ H Q q => by
  cases b with
  | true => exact rdE_bor _ _ _ q
  | false => exact rdE_zero _ _ _ q
/-- the test -/
def tst (m : Sls → R D) : Sls → R Bool := fun env => m env >>= toB
/-- an expression in all three ways -/
structure Ok3 (mg : Gd) (e : Ent) (W : WX) (X : Cx) (ex : Expr) (b : Bool) (k : Nat) (m : Bool → Sls → R D) : Prop where
  pl : plainE ex = true
  own : b = false → PE X ex (rdE mg e W (m false) k)
  brw : PE X ex (rdB mg e W (m false))
  tes : PT X ex (rdT mg e W (tst (m true)))
theorem Ok3.x {ex : Expr} {b : Bool} {k : Nat} {m : Bool → Sls → R D} (h : Ok3 mg e W X ex b k m) : PE X ex (rdX mg e W b (m false)) := by
  cases b with
  | true => exact h.brw
  | false => exact PE.of (h.own rfl) rdE_zero
/-- its value tells its test -/
theorem Ok3.ofE {ex : Expr} {k : Nat} {m : Sls → R D} (pl : plainE ex = true) (tr : truthE ex = true) (h : PE X ex (rdE mg e W m k)) : Ok3 mg e W X ex false k (fun t env => fin t (m env)) :=
  ⟨pl, fun _ => h, PE.of h rdE_bor, pt_gen (PE.of h rdE_bor) fun w => truth_is tr w⟩
theorem Ok3.ofX {ex : Expr} {b : Bool} {m : Sls → R D} (pl : plainE ex = true) (tr : truthE ex = true) (h : PE X ex (rdX mg e W b m)) : Ok3 mg e W X ex b 0 (fun t env => fin t (m env)) := by
  cases b with
  | false => exact Ok3.ofE pl tr h
  | true => exact ⟨pl, (fun z => by cases z), h, pt_gen h fun w => truth_is tr w⟩
theorem KB.scal {d : D} {v : V} {Q : VK} (le : Le F H) (a : isScal d = true) (h : KE mg 0 Q F H d) (r : Rep mg H v d) : Q v H := h.at le (scal_atom a) (rep_scal a r)

/-! ### operators -/
theorem r_bin {a b : Expr} {o : Operator} {ba bb : Bool} {ma mb : Sls → R D} {pos : Pos} (ha : PE X a (rdX mg e W ba ma)) (hb : PE X b (rdX mg e W bb mb)) :
    PE X (.BinOp a o b pos) (rdE mg e W (fun env => ma env >>= fun x => mb env >>= fun y => ofO (binD (ba || bb) o x y)) 1) := by
  refine PE.of (pe_op (anyOp_ok _) ha hb) fun σ H Q ⟨env, F, T, f, h⟩ => ?_
  refine bX KE.grows f h fun F1 H1 dx x g1 f1 rx fx h => ?_
  refine bX KE.grows f1 h fun F2 H2 dy y g2 f2 ry fy h => ?_
  obtain ⟨d, ed, q⟩ := RW_ofO.mp h
  exact bin_op f2.le (Rep.up g2 rx) ry (fun z => by
    cases ba <;> cases bb <;> first | exact ⟨Rep.grow g2 (fx rfl), fy rfl⟩ | cases z) ed q
theorem un_op {d : D} {dx : D} {x : V} {Q : VK} (le : Le F H) (rx : Rep mg H x dx) (h : negD dx = some d) (q : KE mg 0 Q F H d) : anyUn X (unaryOp .USub) x H Q := by
  cases dx with
  | int i => cases h; exact ⟨_, un_neg, i, rep_int rx, q.int le⟩
  | _ => cases h
theorem r_neg {a : Expr} {ba : Bool} {ma : Sls → R D} {pos : Pos} (ha : PE X a (rdX mg e W ba ma)) :
    PE X (.UnaryOp .USub a pos) (rdE mg e W (fun env => ma env >>= fun x => ofO (negD x)) 0) := by
  refine PE.of (pe_un (anyUn_ok _) ha) fun σ H Q ⟨env, F, T, f, h⟩ => ?_
  refine bX KE.grows f h fun F1 H1 dx x g1 f1 rx fx h => ?_
  obtain ⟨d, ed, q⟩ := RW_ofO.mp h
  exact un_op f1.le rx ed q
theorem cmp_op (hu : X.A.units + 64 < cLine) {o : CmpOp} {dx dy : D} {x y : V} {b : Bool} {Q : VK} (rx : Rep mg H x dx) (ry : Rep mg H y dy) (h : cmpD o dx dy = some b) (q : Q (.bl b) H) : anyOp X (compareOp o) x y H Q := by
  have nots : ∀ {o : Option Bool}, o.map not = some b → o = some (!b) := fun {o} z => by
    cases o with
    | none => cases z
    | some c => cases z; rw [Bool.not_not]
  have nn : (!(!b)) = b := Bool.not_not b
  cases o with
  | Eq => exact cmp_eq (by omega) rx ry h q
  | NotEq => exact cmp_ne (by omega) rx ry (nots h) (by rw [nn]; exact q)
  | In => exact in_op (neg := false) (by omega) rx ry h q
  | NotIn => exact in_op (neg := true) (by omega) rx ry (nots h) (by rw [if_pos rfl, nn]; exact q)
  | Is => exact is_op (neg := false) rx ry h q
  | IsNot => exact is_op (neg := true) rx ry (nots h) (by rw [if_pos rfl, nn]; exact q)
  | Lt =>
    cases dx with
    | int i =>
      cases dy with
      | int j => cases h; exact ⟨_, op_lt, i, j, rep_int rx, rep_int ry, q⟩
      | _ => cases h
    | str i =>
      cases dy with
      | str j => cases h; exact ⟨_, op_lt_str, i, j, rep_str rx, rep_str ry, q⟩
      | _ => cases h
    | _ => cases dy <;> cases h
  | Gt =>
    cases dx with
    | int i =>
      cases dy with
      | int j => cases h; exact ⟨_, op_gt, i, j, rep_int rx, rep_int ry, q⟩
      | _ => cases h
    | _ => cases dy <;> cases h
  | LtE =>
    cases dx with
    | int i =>
      cases dy with
      | int j => cases h; exact ⟨_, op_le, i, j, rep_int rx, rep_int ry, q⟩
      | _ => cases h
    | _ => cases dy <;> cases h
  | GtE =>
    cases dx with
    | int i =>
      cases dy with
      | int j => cases h; exact ⟨_, op_ge, i, j, rep_int rx, rep_int ry, q⟩
      | _ => cases h
    | _ => cases dy <;> cases h
theorem ok_cmp (hu : X.A.units + 64 < cLine) {a b : Expr} {o : CmpOp} {ba bb : Bool} {ma mb : Sls → R D} {pos : Pos} (ha : PE X a (rdX mg e W ba ma)) (hb : PE X b (rdX mg e W bb mb)) (pb : plainE b = true) :
    Ok3 mg e W X (.Compare a [o] [b] pos) false 0 (fun t env => fin t (ma env >>= fun x => mb env >>= fun y => ofO ((cmpD o x y).map D.bl))) := by
  have v : PE X (.Compare a [o] [b] pos) (rdE mg e W (fun env => ma env >>= fun x => mb env >>= fun y => ofO ((cmpD o x y).map D.bl)) 0) := by
    refine PE.of (pe_cmpR (anyOp_ok _) ha hb (plain_mark pb)) fun σ H Q ⟨env, F, T, f, h⟩ => ?_
    refine bX KE.grows f h fun F1 H1 dx x g1 f1 rx fx h => ?_
    refine bX KE.grows f1 h fun F2 H2 dy y g2 f2 ry fy h => ?_
    obtain ⟨d, ed, q⟩ := RW_ofO.mp h
    cases hc : cmpD o dx dy with
    | none => rw [hc] at ed; cases ed
    | some c => rw [hc] at ed; cases ed; exact cmp_op hu (Rep.up g2 rx) ry hc (q.bl f2.le)
  refine ⟨rfl, fun _ => v, PE.of v rdE_bor, PT.of (pt_cmpR (anyOp_ok _) ha hb (plain_mark pb)) fun σ H Q ⟨env, F, T, f, h⟩ => ?_⟩
  have hK : Grows (fun F H (b : Bool) => ∀ F' H', Grow F H F' H' → Q b H') := fun F H F1 H1 d g z F' H' g' => z F' H' (g.trans g')
  have h1 : RW (ma env >>= fun x => mb env >>= fun y => (ofO ((cmpD o x y).map D.bl) >>= fun d => ofO ((truD d).map D.bl) >>= toB)) (fun b => ∀ F' H', Grow F H F' H' → Q b H') (EX mg W σ F H) := by
    have h2 := (RW_bind.mp h)
    have h3 := (RW_bind.mp (show RW ((ma env >>= fun x => mb env >>= fun y => ofO ((cmpD o x y).map D.bl)) >>= fun d => ofO ((truD d).map D.bl)) _ _ from h2))
    refine RW_bind.mpr ((RW_bind.mp h3).imp (fun dx q => RW_bind.mpr ((RW_bind.mp q).imp (fun dy q => RW_bind.mpr (q.imp (fun d q => RW_bind.mpr q) fun _ _ z => z)) fun _ _ z => z)) fun _ _ z => z)
  refine bX hK f h1 fun F1 H1 dx x g1 f1 rx fx h => ?_
  refine bX hK f1 h fun F2 H2 dy y g2 f2 ry fy h => ?_
  cases hc : cmpD o dx dy with
  | none => rw [hc] at h; exact h.elim
  | some c =>
    rw [hc] at h
    exact cmp_op hu (Rep.up g2 rx) ry hc ⟨c, rfl, h F2 H2 (Grow.refl f2.le)⟩
end
end Mp
/-! more forms -/
namespace Mp
open PySem PySem.Spec PyProof.Rows L2 PySem.SeqAt

section
variable {mg : Gd} {e : Ent} {env : Sls} {F F' F1 H H' H1 : Hp} {σ : L2.St} {T : Nat → List Addr} {W : WX} {α β : Type} {X : Cx} {Φ : String → List D → R D}
/-- a text and its expression -/
def OkE (mg : Gd) (e : Ent) (W : WX) (X : Cx) (Φ : String → List D → R D) (ex : Expr) (E : Mp.E) : Prop := Ok3 mg e W X ex (bor E) (kd E) (fun t env => ev Φ E t env)
def OkEs (mg : Gd) (e : Ent) (W : WX) (X : Cx) (Φ : String → List D → R D) : List Expr → List Mp.E → Prop
  | [], [] => True
  | ex :: exs, E :: Es => OkE mg e W X Φ ex E ∧ OkEs mg e W X Φ exs Es
  | _, _ => False
theorem OkEs.plain : ∀ {exs : List Expr} {Es : List Mp.E}, OkEs mg e W X Φ exs Es → exs.all plainE = true
  | [], [], _ => rfl
  | ex :: exs, E :: Es, h => by rw [List.all_cons, h.1.pl, OkEs.plain h.2]; rfl
  | [], _ :: _, h => h.elim
  | _ :: _, [], h => h.elim
theorem OkEs.len : ∀ {exs : List Expr} {Es : List Mp.E}, OkEs mg e W X Φ exs Es → exs.length = Es.length
  | [], [], _ => rfl
  | ex :: exs, E :: Es, h => by rw [List.length_cons, List.length_cons, OkEs.len h.2]
  | [], _ :: _, h => h.elim
  | _ :: _, [], h => h.elim
theorem RW.okIf {b : Bool} {r : R α} {p : α → Prop} {q : String → Option D → Prop} : RW (okIf b r) p q ↔ b = true ∧ RW r p q := by
  cases b with
  | true => exact ⟨fun h => ⟨rfl, h⟩, fun h => h.2⟩
  | false => exact ⟨fun h => h.elim, fun h => by cases h.1⟩
theorem RWb {p : β → Prop} {q : String → Option D → Prop} {x : R α} {f : α → R β} (h : RW (x >>= f) p q) : RW x (fun a => RW (f a) p q) q := RW_bind.mp h
theorem bind_assoc' {γ : Type} (x : R α) (f : α → R β) (g : β → R γ) : ((x >>= f) >>= g) = (x >>= fun a => f a >>= g) := by cases x <;> rfl
/-- a wish that grows -/
def GW (Q : α → Hp → Prop) (F H : Hp) : α → Prop := fun d => ∀ F' H', Grow F H F' H' → Q d H'
theorem GW.grows {Q : α → Hp → Prop} : Grows (GW Q) := fun F H F1 H1 d g h F' H' g' => h F' H' (g.trans g')
theorem GW.now {Q : α → Hp → Prop} {d : α} (h : GW Q F H d) (le : Le F H) : Q d H := h F H (Grow.refl le)

/-! ### arguments -/
theorem ok_args : ∀ {exs : List Expr} {Es : List Mp.E}, OkEs mg e W X Φ exs Es → ∃ t, PA X exs t ∧ ∀ σ H Q, rdA mg e W (Es.map bor) (fun env => seqR (evs Φ Es false env)) σ H Q → t σ H Q
  | [], [], _ => ⟨tNil, pa_nil, fun σ H Q ⟨env, F, T, f, h⟩ => h [] F H (Grow.refl f.le) (by unfold RepM; rfl)⟩
  | ex :: exs, E :: Es, h => by
    obtain ⟨t, ht, hq⟩ := ok_args h.2
    refine ⟨tCons (rdX mg e W (bor E) (fun env => ev Φ E false env)) t, pa_cons h.1.x ht (plain_star h.1.pl), fun σ H Q ⟨env, F, T, f, h⟩ => ?_⟩
    have hK : Grows (fun F H (ds : List D) => ∀ vs F' H', Grow F H F' H' → RepM mg ((E :: Es).map bor) F' H' vs ds → Q vs H') := fun F H F1 H1 d g z vs F' H' g' => z vs F' H' (g.trans g')
    refine bX hK f h fun F1 H1 d x g1 f1 rx fx h => ?_
    refine hq _ _ _ ?_
    refine bA (K := fun F H (ds : List D) => ∀ vs F' H', Grow F H F' H' → RepM mg ((E :: Es).map bor) F' H' vs ds → Q vs H') hK f1 h fun F2 H2 ds xs g2 f2 rs h => ?_
    refine h _ F2 H2 (Grow.refl f2.le) ?_
    unfold RepM
    refine ⟨x, xs, rfl, ?_, rs⟩
    show Rep mg (if bor E then H2 else F2) x d
    cases hb : bor E with
    | true => exact Rep.up g2 rx
    | false => exact Rep.grow g2 (fx hb)
  | [], _ :: _, h => h.elim
  | _ :: _, [], h => h.elim
theorem r_args {exs : List Expr} {Es : List Mp.E} (h : OkEs mg e W X Φ exs Es) : PA X exs (rdA mg e W (Es.map bor) (fun env => seqR (evs Φ Es false env))) := by
  obtain ⟨t, ht, hq⟩ := ok_args h
  exact PA.of ht hq
theorem RepM.nobor : ∀ {bs : List Bool} {vs : List V} {ds : List D}, bs.any id = false → RepM mg bs F H vs ds → Reps mg F vs ds
  | bs, vs, [], _, h => by unfold RepM at h; subst h; exact Reps.nil
  | bs, vs, d :: ds, hb, h => by
    unfold RepM at h
    obtain ⟨v, r, e, h1, h2⟩ := h
    subst e
    have hh : bs.headD false = false ∧ bs.tail.any id = false := by
      cases bs with
      | nil => exact ⟨rfl, rfl⟩
      | cons b bs => rw [List.any_cons, Bool.or_eq_false_iff] at hb; exact hb
    rw [hh.1, if_neg (by decide)] at h1
    exact Reps.cons h1 (RepM.nobor hh.2 h2)
theorem any_map {Es : List Mp.E} : (Es.map bor).any id = Es.any bor := by
  rw [List.any_map]; rfl

/-! ### not, and, or -/
theorem ok_not {a : Expr} {ba : Bool} {k : Nat} {m : Bool → Sls → R D} {pos : Pos} (ha : Ok3 mg e W X a ba k m) :
    Ok3 mg e W X (.UnaryOp .Not a pos) false 0 (fun t env => match t with | true => m true env >>= fun x => ofO (notD x) | false => fin true (m false env) >>= fun x => ofO (notD x)) := by
  have v : PE X (.UnaryOp .Not a pos) (rdE mg e W (fun env => fin true (m false env) >>= fun x => ofO (notD x)) 0) := by
    refine ⟨fun pins s σ H Q I ⟨env, F, T, f, h⟩ => ?_⟩
    have h := RWb (RWb h)
    refine UnaryOp_ (thn (ha.brw.run pins s σ H (fun x H1 => ∃ k, TruV X.K x H1 k ∧ Q (.bl (!k)) H1) I ⟨env, F, T, f, h.imp (fun d q v F' H' g r => ?_) fun _ _ z => z⟩) fun v s1 ⟨x, H1, I1, r1, k, tk, q1⟩ => ?_)
    · obtain ⟨d2, e2, q⟩ := RW_ofO.mp q
      cases ht : truD d with
      | none => rw [ht] at e2; cases e2
      | some b =>
        rw [ht] at e2; cases e2
        obtain ⟨d3, e3, q⟩ := RW_ofO.mp q
        cases e3
        exact ⟨b, tru_rep r ht, (KE.grows _ _ _ _ _ g q).bl g.le⟩
    · exact not_of (thn (tru_ok pins s1 σ H1 x v _ I1 r1 ⟨k, tk, q1⟩) fun c s2 ⟨H2, I2, q2⟩ => ⟨.bl (!c), H2, I2, rfl, q2⟩)
  refine ⟨rfl, fun _ => v, PE.of v rdE_bor, PT.of (pt_not ha.tes) fun σ H Q ⟨env, F, T, f, h⟩ => ⟨env, F, T, f, ?_⟩⟩
  have h : RW ((m true env >>= fun x => ofO (notD x)) >>= toB) (fun b => ∀ F' H', Grow F H F' H' → Q b H') (EX mg W σ F H) := h
  show RW (m true env >>= toB) (fun b => ∀ F' H', Grow F H F' H' → Q (!b) H') (EX mg W σ F H)
  cases hm : m true env with
  | ok d =>
    rw [hm] at h
    cases d with
    | bl b => exact h
    | _ => exact h.elim
  | exc c x => rw [hm] at h; exact h
  | bad => rw [hm] at h; exact h
theorem toB_match {p : Bool → Prop} {q : String → Option D → Prop} {x r : R D} {c : Bool} (h : RW ((x >>= fun d => match d with | .bl b => if b = c then r else pure (.bl b) | _ => .bad) >>= toB) p q) :
    RW (x >>= toB) (fun b => if b = c then RW (r >>= toB) p q else p b) q := by
  cases x with
  | ok d =>
    cases d with
    | bl b =>
      show (if b = c then _ else _)
      have h : RW ((if b = c then r else pure (.bl b)) >>= toB) p q := h
      by_cases z : b = c
      · rw [if_pos z] at h ⊢; exact h
      · rw [if_neg z] at h ⊢; exact h
    | _ => exact h.elim
  | exc c x => exact h
  | bad => exact h
theorem pw_bo {pos : Pos} (c : Bool) : ∀ {exs : List Expr} {Es : List Mp.E}, exs ≠ [] → OkEs mg e W X Φ exs Es → PW X (.BoolOp (if c then .And else .Or) exs pos) (rdT mg e W (tst fun env => boGo c (evs Φ Es true env)))
  | [], _, n, _ => absurd rfl n
  | [a], [A], _, h => by
    cases c with
    | true => exact pw_and1 h.1.tes
    | false => exact pw_or1 h.1.tes
  | a :: b :: r, A :: B :: Rr, _, h => by
    have ih := pw_bo (pos := pos) c (exs := b :: r) (Es := B :: Rr) (by simp) h.2
    cases c with
    | true =>
      refine ⟨fun wh pins s σ H Q I q => (pw_and h.1.tes ih).run wh pins s σ H Q I ?_⟩
      obtain ⟨env, F, T, f, q⟩ := q
      have q := toB_match (c := true) (x := ev Φ A true env) (r := boGo true (evs Φ (B :: Rr) true env)) q
      refine ⟨env, F, T, f, q.imp (fun d q F1 H1 g1 => ?_) fun _ _ z => z⟩
      by_cases z : d = true
      · rw [if_pos z] at q ⊢
        exact ⟨env, F1, T, f.grow g1, q.imp (fun d z F' H' g' => z F' H' (g1.trans g')) fun _ _ z => z.grow g1⟩
      · rw [if_neg z] at q ⊢
        have := q F1 H1 g1
        cases d with
        | true => exact absurd rfl z
        | false => exact this
    | false =>
      refine ⟨fun wh pins s σ H Q I q => (pw_or h.1.tes ih).run wh pins s σ H Q I ?_⟩
      obtain ⟨env, F, T, f, q⟩ := q
      have q := toB_match (c := false) (x := ev Φ A true env) (r := boGo false (evs Φ (B :: Rr) true env)) q
      refine ⟨env, F, T, f, q.imp (fun d q F1 H1 g1 => ?_) fun _ _ z => z⟩
      cases d with
      | true =>
        rw [if_neg (by decide)] at q
        rw [if_pos rfl]
        exact q F1 H1 g1
      | false =>
        rw [if_pos rfl] at q
        rw [if_neg (by decide)]
        exact ⟨env, F1, T, f.grow g1, q.imp (fun d z F' H' g' => z F' H' (g1.trans g')) fun _ _ z => z.grow g1⟩
  | [_], [], _, h => h.elim
  | [_], _ :: _ :: _, _, h => h.2.elim
  | _ :: _ :: _, [], _, h => h.elim
  | _ :: _ :: _, [_], _, h => h.2.elim
theorem match_bo {p : D → Prop} {q : String → Option D → Prop} {x r : R D} {c : Bool} (h : RW (x >>= fun d => match d with | .bl b => if b = c then r else pure (.bl b) | _ => .bad) p q) :
    RW x (fun d => ∃ b, d = .bl b ∧ if b = c then RW r p q else p (.bl b)) q := by
  cases x with
  | ok d =>
    cases d with
    | bl b =>
      refine ⟨b, rfl, ?_⟩
      have h : RW (if b = c then r else pure (.bl b)) p q := h
      by_cases z : b = c
      · rw [if_pos z] at h ⊢; exact h
      · rw [if_neg z] at h ⊢; exact h
    | _ => exact h.elim
  | exc c x => exact h
  | bad => exact h
theorem pe_bo {pos : Pos} (c : Bool) : ∀ {exs : List Expr} {Es : List Mp.E}, exs ≠ [] → Es.any bor = false → OkEs mg e W X Φ exs Es → PE X (.BoolOp (if c then .And else .Or) exs pos) (rdE mg e W (fun env => boGo c (evs Φ Es false env)) 0)
  | [], _, n, _, _ => absurd rfl n
  | [a], [A], _, hb, h => by
    have hb : (bor A || false) = false := hb
    rw [Bool.or_false] at hb
    exact pe_one (PE.of (h.1.own hb) rdE_zero)
  | a :: b :: r, A :: B :: Rr, _, hb, h => by
    rw [List.any_cons, Bool.or_eq_false_iff] at hb
    have ih := pe_bo (pos := pos) c (exs := b :: r) (Es := B :: Rr) (by simp) hb.2 h.2
    cases c with
    | true =>
      refine PE.of (pe_and h.1.brw ih) fun σ H Q ⟨env, F, T, f, q⟩ => ?_
      have q := match_bo (c := true) (x := ev Φ A false env) (r := boGo true (evs Φ (B :: Rr) false env)) q
      refine ⟨env, F, T, f, q.imp (fun d ⟨b, ed, q⟩ v F1 H1 g1 r => ?_) fun _ _ z => z⟩
      subst ed
      refine ⟨b, rep_bl r, ?_⟩
      by_cases z : b = true
      · rw [if_pos z] at q ⊢
        exact ⟨env, F1, T, f.grow g1, RW.grow KE.grows g1 q⟩
      · rw [if_neg z] at q ⊢
        cases b with
        | true => exact absurd rfl z
        | false => exact (KE.grows _ _ _ _ _ g1 q).bl g1.le
    | false =>
      refine PE.of (pe_or h.1.brw ih) fun σ H Q ⟨env, F, T, f, q⟩ => ?_
      have q := match_bo (c := false) (x := ev Φ A false env) (r := boGo false (evs Φ (B :: Rr) false env)) q
      refine ⟨env, F, T, f, q.imp (fun d ⟨b, ed, q⟩ v F1 H1 g1 r => ?_) fun _ _ z => z⟩
      subst ed
      refine ⟨b, rep_bl r, ?_⟩
      cases b with
      | true =>
        rw [if_neg (by decide)] at q
        rw [if_pos rfl]
        exact (KE.grows _ _ _ _ _ g1 q).bl g1.le
      | false =>
        rw [if_pos rfl] at q
        rw [if_neg (by decide)]
        exact ⟨env, F1, T, f.grow g1, RW.grow KE.grows g1 q⟩
  | [_], [], _, _, h => h.elim
  | [_], _ :: _ :: _, _, _, h => h.2.elim
  | _ :: _ :: _, [], _, _, h => h.elim
  | _ :: _ :: _, [_], _, _, h => h.2.elim
theorem ok_bo {pos : Pos} {c : Bool} {exs : List Expr} {Es : List Mp.E} (n : exs ≠ []) (hb : Es.any bor = false) (h : OkEs mg e W X Φ exs Es) : OkE mg e W X Φ (.BoolOp (if c then .And else .Or) exs pos) (.bo c Es) := by
  have v := pe_bo (pos := pos) c n hb h
  exact ⟨rfl, fun _ => v, PE.of v rdE_bor, (pw_bo c n h).pt⟩

/-! ### chains of comparisons -/
theorem chain_run (hu : X.A.units + 64 < cLine) {pos : Pos} : ∀ {os : List CmpOp} {exs : List Expr} {Es : List Mp.E}, OkEs mg e W X Φ exs Es → os.length = Es.length → ∀ (pins : List (Addr × Obj)) (s : Shared) (σ : L2.St) (H : Hp) (x : V) (v : Value) (dx : D) (env : Sls) (F : Hp) (T : Nat → List Addr) (Q : VK),
    Inv X pins σ H s → RelV x v → Frm mg e env F σ H T → Rep mg H x dx → RW (chnGo (fun x o y => cmpD o x y) dx os (evs Φ Es false env)) (KE mg 0 Q F H) (EX mg W σ F H) →
    wpAny (model X.prog X.w) X.A (compareChain pos v os (evalEach exs X.env)) (EP X pins σ Q) X.xe s
  | [o], [a], [A], ok, hl, pins, s, σ, H, x, v, dx, env, F, T, Q, I, rx, f, r, h => by
    refine chain_last (thn (ok.1.brw.run pins s σ H _ I (?_ : rdB mg e W _ σ H (fun y H1 => ∃ dy F1, Grow F H F1 H1 ∧ Rep mg H1 y dy ∧ ∃ b, cmpD o dx dy = some b ∧ KE mg 0 Q F1 H1 (.bl b)))) fun u s1 ⟨y, H1, I1, ry, dy, F1, g1, r1, b, hb, q⟩ => ?_)
    · refine ⟨env, F, T, f, (RWb h).imp (fun dy h y F1 H1 g1 r1 => ?_) fun _ _ z => z⟩
      obtain ⟨b, hb, q⟩ := RW_ofO.mp (RWb h)
      exact ⟨dy, F1, g1, r1, b, hb, KE.grows _ _ _ _ _ g1 q⟩
    · exact anyOp_ok _ pins s1 σ H1 x y v u Q I1 rx ry (cmp_op hu (Rep.up g1 r) r1 hb (q.bl g1.le))
  | o :: o' :: os, a :: b :: rest, A :: B :: Rest, ok, hl, pins, s, σ, H, x, v, dx, env, F, T, Q, I, rx, f, r, h => by
    refine chain_link (thn (ok.1.brw.run pins s σ H _ I (?_ : rdB mg e W _ σ H (fun y H1 => ∃ dy F1, Grow F H F1 H1 ∧ Rep mg H1 y dy ∧ ∃ b, cmpD o dx dy = some b ∧
      RW (if b then chnGo (fun x o y => cmpD o x y) dy (o' :: os) (evs Φ (B :: Rest) false env) else pure (.bl false)) (KE mg 0 Q F1 H1) (EX mg W σ F1 H1)))) fun u s1 ⟨y, H1, I1, ry, dy, F1, g1, r1, c, hb, q⟩ => ?_)
    · refine ⟨env, F, T, f, (RWb h).imp (fun dy h y F1 H1 g1 r1 => ?_) fun _ _ z => z⟩
      obtain ⟨b, hb, q⟩ := RW_ofO.mp (RWb h)
      exact ⟨dy, F1, g1, r1, b, hb, RW.grow KE.grows g1 q⟩
    · refine thn (anyOp_ok _ pins s1 σ H1 x y v u (fun z H2 => z = .bl c ∧ H2 = H1) I1 rx ry (cmp_op hu (Rep.up g1 r) r1 hb ⟨rfl, rfl⟩)) fun w s2 ⟨z, H2, I2, rz, ez, eH⟩ => ?_
      subst ez; subst eH
      cases rz
      refine wpAny_truthy_bool ?_
      cases c with
      | false => exact ite_ff ⟨.bl false, H2, I2, rfl, q.bl g1.le⟩
      | true => exact ite_tt (chain_run hu ok.2 (by simpa using hl) pins s2 σ H2 y u dy env F1 T Q I2 ry (f.grow g1) r1 q)
  | [], _, _, _, _, _, _, _, _, _, _, _, _, _, _, _, _, _, _, _, h => h.elim
  | [_], [], [], _, hl, _, _, _, _, _, _, _, _, _, _, _, _, _, _, _, h => absurd hl (by simp)
  | [_], [], _ :: _, ok, _, _, _, _, _, _, _, _, _, _, _, _, _, _, _, _, h => ok.elim
  | [_], _ :: _, [], ok, _, _, _, _, _, _, _, _, _, _, _, _, _, _, _, _, h => ok.elim
  | [_], _, _ :: _ :: _, _, hl, _, _, _, _, _, _, _, _, _, _, _, _, _, _, _, h => absurd hl (by simp)
  | [_], _ :: _ :: _, [_], ok, _, _, _, _, _, _, _, _, _, _, _, _, _, _, _, _, h => ok.2.elim
  | _ :: _ :: _, _, [], _, hl, _, _, _, _, _, _, _, _, _, _, _, _, _, _, _, h => absurd hl (by simp)
  | _ :: _ :: _, _, [_], _, hl, _, _, _, _, _, _, _, _, _, _, _, _, _, _, _, h => absurd hl (by simp)
  | _ :: _ :: _, [], _ :: _ :: _, ok, _, _, _, _, _, _, _, _, _, _, _, _, _, _, _, _, h => ok.elim
  | _ :: _ :: _, [_], _ :: _ :: _, ok, _, _, _, _, _, _, _, _, _, _, _, _, _, _, _, _, h => ok.2.elim
/-- a wish for a value's truth -/
def GT (Q : Bool → Hp → Prop) (F H : Hp) : D → Prop := fun d => ∃ b, truD d = some b ∧ GW Q F H b
theorem GT.grows {Q : Bool → Hp → Prop} : Grows (GT Q) := fun F H F1 H1 d g ⟨b, e, h⟩ => ⟨b, e, GW.grows _ _ _ _ _ g h⟩
theorem GT.bl {Q : Bool → Hp → Prop} {b : Bool} (h : GT Q F H (.bl b)) (le : Le F H) : Q b H := by
  obtain ⟨c, e, q⟩ := h
  cases e
  exact q.now le
theorem GT.of {m : R D} {Q : Bool → Hp → Prop} {q : String → Option D → Prop} (h : RW (fin true m >>= toB) (fun b => ∀ F' H', Grow F H F' H' → Q b H') q) : RW m (GT Q F H) q := by
  refine (RWb (RWb h)).imp (fun d z => ?_) fun _ _ z => z
  obtain ⟨d2, e2, z⟩ := RW_ofO.mp z
  cases ht : truD d with
  | none => rw [ht] at e2; cases e2
  | some b => rw [ht] at e2; cases e2; exact ⟨b, ht, z⟩
theorem chain_test (hu : X.A.units + 64 < cLine) {pos : Pos} : ∀ {os : List CmpOp} {exs : List Expr} {Es : List Mp.E}, OkEs mg e W X Φ exs Es → os.length = Es.length → ∀ (pins : List (Addr × Obj)) (s : Shared) (σ : L2.St) (H : Hp) (x : V) (v : Value) (dx : D) (env : Sls) (F : Hp) (T : Nat → List Addr) (Q : Bool → Hp → Prop),
    Inv X pins σ H s → RelV x v → Frm mg e env F σ H T → Rep mg H x dx → RW (chnGo (fun x o y => cmpD o x y) dx os (evs Φ Es false env)) (GT Q F H) (EX mg W σ F H) →
    wpAny (model X.prog X.w) X.A (testChain pos v os (evalEach exs X.env)) (TP X pins σ Q) X.xe s
  | [o], [a], [A], ok, hl, pins, s, σ, H, x, v, dx, env, F, T, Q, I, rx, f, r, h => by
    refine test_last (thn (ok.1.brw.run pins s σ H _ I (?_ : rdB mg e W _ σ H (fun y H1 => ∃ dy F1, Grow F H F1 H1 ∧ Rep mg H1 y dy ∧ ∃ b, cmpD o dx dy = some b ∧ GT Q F1 H1 (.bl b)))) fun u s1 ⟨y, H1, I1, ry, dy, F1, g1, r1, b, hb, q⟩ => ?_)
    · refine ⟨env, F, T, f, (RWb h).imp (fun dy h y F1 H1 g1 r1 => ?_) fun _ _ z => z⟩
      obtain ⟨b, hb, q⟩ := RW_ofO.mp (RWb h)
      exact ⟨dy, F1, g1, r1, b, hb, GT.grows _ _ _ _ _ g1 q⟩
    · refine thn (anyOp_ok _ pins s1 σ H1 x y v u (fun z H2 => z = .bl b ∧ H2 = H1) I1 rx ry (cmp_op hu (Rep.up g1 r) r1 hb ⟨rfl, rfl⟩)) fun w s2 ⟨z, H2, I2, rz, ez, eH⟩ => ?_
      subst ez; subst eH
      cases rz
      exact wpAny_truthy_bool ⟨H2, I2, q.bl g1.le⟩
  | o :: o' :: os, a :: b :: rest, A :: B :: Rest, ok, hl, pins, s, σ, H, x, v, dx, env, F, T, Q, I, rx, f, r, h => by
    refine test_link (thn (ok.1.brw.run pins s σ H _ I (?_ : rdB mg e W _ σ H (fun y H1 => ∃ dy F1, Grow F H F1 H1 ∧ Rep mg H1 y dy ∧ ∃ b, cmpD o dx dy = some b ∧
      RW (if b then chnGo (fun x o y => cmpD o x y) dy (o' :: os) (evs Φ (B :: Rest) false env) else pure (.bl false)) (GT Q F1 H1) (EX mg W σ F1 H1)))) fun u s1 ⟨y, H1, I1, ry, dy, F1, g1, r1, c, hb, q⟩ => ?_)
    · refine ⟨env, F, T, f, (RWb h).imp (fun dy h y F1 H1 g1 r1 => ?_) fun _ _ z => z⟩
      obtain ⟨b, hb, q⟩ := RW_ofO.mp (RWb h)
      exact ⟨dy, F1, g1, r1, b, hb, RW.grow GT.grows g1 q⟩
    · refine thn (anyOp_ok _ pins s1 σ H1 x y v u (fun z H2 => z = .bl c ∧ H2 = H1) I1 rx ry (cmp_op hu (Rep.up g1 r) r1 hb ⟨rfl, rfl⟩)) fun w s2 ⟨z, H2, I2, rz, ez, eH⟩ => ?_
      subst ez; subst eH
      cases rz
      refine wpAny_truthy_bool ?_
      cases c with
      | false => exact ite_ff ⟨H2, I2, q.bl g1.le⟩
      | true => exact ite_tt (chain_test hu ok.2 (by simpa using hl) pins s2 σ H2 y u dy env F1 T Q I2 ry (f.grow g1) r1 q)
  | [], _, _, _, _, _, _, _, _, _, _, _, _, _, _, _, _, _, _, _, h => h.elim
  | [_], [], [], _, hl, _, _, _, _, _, _, _, _, _, _, _, _, _, _, _, h => absurd hl (by simp)
  | [_], [], _ :: _, ok, _, _, _, _, _, _, _, _, _, _, _, _, _, _, _, _, h => ok.elim
  | [_], _ :: _, [], ok, _, _, _, _, _, _, _, _, _, _, _, _, _, _, _, _, h => ok.elim
  | [_], _, _ :: _ :: _, _, hl, _, _, _, _, _, _, _, _, _, _, _, _, _, _, _, h => absurd hl (by simp)
  | [_], _ :: _ :: _, [_], ok, _, _, _, _, _, _, _, _, _, _, _, _, _, _, _, _, h => ok.2.elim
  | _ :: _ :: _, _, [], _, hl, _, _, _, _, _, _, _, _, _, _, _, _, _, _, _, h => absurd hl (by simp)
  | _ :: _ :: _, _, [_], _, hl, _, _, _, _, _, _, _, _, _, _, _, _, _, _, _, h => absurd hl (by simp)
  | _ :: _ :: _, [], _ :: _ :: _, ok, _, _, _, _, _, _, _, _, _, _, _, _, _, _, _, _, h => ok.elim
  | _ :: _ :: _, [_], _ :: _ :: _, ok, _, _, _, _, _, _, _, _, _, _, _, _, _, _, _, _, h => ok.2.elim
theorem last_marks : ∀ {os : List CmpOp} {exs : List Expr}, exs.all plainE = true → lastMarks os exs = false
  | [], _, _ => by cases ‹List Expr› <;> rfl
  | [o], [], _ => rfl
  | [o], [a], h => by
    rw [List.all_cons, Bool.and_eq_true] at h
    exact plain_mark h.1
  | [o], a :: b :: r, h => by
    unfold lastMarks
    exact last_marks (os := []) (exs := b :: r) (by rw [List.all_cons, Bool.and_eq_true] at h; exact h.2)
  | o :: o' :: os, [], _ => rfl
  | o :: o' :: os, a :: r, h => by
    unfold lastMarks
    exact last_marks (os := o' :: os) (exs := r) (by rw [List.all_cons, Bool.and_eq_true] at h; exact h.2)
theorem ok_chn (hu : X.A.units + 64 < cLine) {pos : Pos} {a b c : Expr} {o o' : CmpOp} {os : List CmpOp} {exs : List Expr} {A B C : Mp.E} {Es : List Mp.E} (ha : OkE mg e W X Φ a A) (ok : OkEs mg e W X Φ (b :: c :: exs) (B :: C :: Es)) (hl : (o :: o' :: os).length = (B :: C :: Es).length) :
    OkE mg e W X Φ (.Compare a (o :: o' :: os) (b :: c :: exs) pos) (.chn A (o :: o' :: os) (B :: C :: Es)) := by
  have v : PE X (.Compare a (o :: o' :: os) (b :: c :: exs) pos) (rdE mg e W (fun env => ev Φ A false env >>= fun x => chnGo (fun x o y => cmpD o x y) x (o :: o' :: os) (evs Φ (B :: C :: Es) false env)) 0) := by
    refine ⟨fun pins s σ H Q I ⟨env, F, T, f, h⟩ => Compare_chain (thn (ha.brw.run pins s σ H _ I (?_ : rdB mg e W _ σ H (fun x H1 => ∃ dx F1, Grow F H F1 H1 ∧ Rep mg H1 x dx ∧
      RW (chnGo (fun x o y => cmpD o x y) dx (o :: o' :: os) (evs Φ (B :: C :: Es) false env)) (KE mg 0 Q F1 H1) (EX mg W σ F1 H1)))) fun v s1 ⟨x, H1, I1, rx, dx, F1, g1, r1, q⟩ => ?_) (last_marks ok.plain)⟩
    · exact ⟨env, F, T, f, (RWb h).imp (fun dx h x F1 H1 g1 r1 => ⟨dx, F1, g1, r1, RW.grow KE.grows g1 h⟩) fun _ _ z => z⟩
    · exact chain_run hu ok hl pins s1 σ H1 x v dx env F1 T Q I1 rx (f.grow g1) r1 q
  refine ⟨rfl, fun _ => v, PE.of v rdE_bor, ⟨fun pins s σ H Q I ⟨env, F, T, f, h⟩ => isTrue_chain (thn (ha.brw.run pins s σ H _ I (?_ : rdB mg e W _ σ H (fun x H1 => ∃ dx F1, Grow F H F1 H1 ∧ Rep mg H1 x dx ∧
      RW (chnGo (fun x o y => cmpD o x y) dx (o :: o' :: os) (evs Φ (B :: C :: Es) false env)) (GT Q F1 H1) (EX mg W σ F1 H1)))) fun v s1 ⟨x, H1, I1, rx, dx, F1, g1, r1, q⟩ => ?_) (last_marks ok.plain)⟩⟩
  · exact ⟨env, F, T, f, (RWb (GT.of h)).imp (fun dx h x F1 H1 g1 r1 => ⟨dx, F1, g1, r1, RW.grow GT.grows g1 h⟩) fun _ _ z => z⟩
  · exact chain_test hu ok hl pins s1 σ H1 x v dx env F1 T Q I1 rx (f.grow g1) r1 q

/-! ### a if c else b -/
theorem ok_ite {pos : Pos} {c a b : Expr} {C A B : Mp.E} (hc : OkE mg e W X Φ c C) (ha : OkE mg e W X Φ a A) (hb : OkE mg e W X Φ b B) : OkE mg e W X Φ (.IfExp c a b pos) (.ite C A B) := by
  have key : ∀ {α : Type} {β : Type} {K : Hp → Hp → α → Prop} (hK : Grows K) {Q' : Bool → Hp → Prop} {g : Bool → Sls → R α} {σ : L2.St} {H F : Hp} {env : Sls} {T : Nat → List Addr}, Frm mg e env F σ H T →
      RW (ev Φ C true env >>= fun x => toB x >>= fun z => g z env) (K F H) (EX mg W σ F H) → (∀ z F1 H1, Frm mg e env F1 σ H1 T → RW (g z env) (K F1 H1) (EX mg W σ F1 H1) → Q' z H1) → rdT mg e W (tst fun env => ev Φ C true env) σ H Q' :=
    fun {α β K} hK {Q' g σ H F env T} f h next => by
      rw [← bind_assoc'] at h
      exact ⟨env, F, T, f, (RWb h).imp (fun z q F1 H1 g1 => next z F1 H1 (f.grow g1) (RW.grow hK g1 q)) fun _ _ z => z⟩
  have vE : ∀ bb : Bool, (bb = true ∨ (bor A || bor B) = false) → PE X (.IfExp c a b pos) (rdX mg e W bb (fun env => ev Φ C true env >>= fun x => toB x >>= fun z => if z then ev Φ A false env else ev Φ B false env)) := fun bb hbb => by
    have pa : PE X a (rdX mg e W bb (fun env => ev Φ A false env)) := by
      cases bb with
      | true => exact ha.brw
      | false => rcases hbb with z | z
                 · cases z
                 · exact PE.of (ha.own (Bool.or_eq_false_iff.mp z).1) rdE_zero
    have pb : PE X b (rdX mg e W bb (fun env => ev Φ B false env)) := by
      cases bb with
      | true => exact hb.brw
      | false => rcases hbb with z | z
                 · cases z
                 · exact PE.of (hb.own (Bool.or_eq_false_iff.mp z).2) rdE_zero
    refine PE.of (pe_ifExp hc.tes pa pb) fun σ H Q q => ?_
    cases bb with
    | true =>
      obtain ⟨env, F, T, f, h⟩ := q
      refine key (β := D) (g := fun z env => if z then ev Φ A false env else ev Φ B false env) KB.grows f h fun z F1 H1 f1 q => ?_
      cases z with
      | true => rw [if_pos rfl] at q ⊢; exact ⟨env, F1, T, f1, q⟩
      | false => rw [if_neg (by decide)] at q ⊢; exact ⟨env, F1, T, f1, q⟩
    | false =>
      obtain ⟨env, F, T, f, h⟩ := q
      refine key (β := D) (g := fun z env => if z then ev Φ A false env else ev Φ B false env) KE.grows f h fun z F1 H1 f1 q => ?_
      cases z with
      | true => rw [if_pos rfl] at q ⊢; exact ⟨env, F1, T, f1, q⟩
      | false => rw [if_neg (by decide)] at q ⊢; exact ⟨env, F1, T, f1, q⟩
  refine ⟨rfl, fun z => vE false (.inr z), vE true (.inl rfl), ⟨fun pins s σ H Q I ⟨env, F, T, f, h⟩ => ?_⟩⟩
  have e1 : isTrue (.IfExp c a b pos) X.env (eval (.IfExp c a b pos) X.env) = (do
    if ← isTrue c X.env (eval c X.env) then isTrue a X.env (eval a X.env) else isTrue b X.env (eval b X.env)) := rfl
  rw [e1]
  have hK : Grows (fun F H (b : Bool) => ∀ F' H', Grow F H F' H' → Q b H') := fun F H F1 H1 d g z F' H' g' => z F' H' (g.trans g')
  have h : RW (ev Φ C true env >>= fun x => toB x >>= fun z => (if z then ev Φ A true env else ev Φ B true env) >>= toB) (fun b => ∀ F' H', Grow F H F' H' → Q b H') (EX mg W σ F H) := by
    have h' : RW ((ev Φ C true env >>= fun x => toB x >>= fun z => if z then ev Φ A true env else ev Φ B true env) >>= toB) _ _ := h
    rw [bind_assoc'] at h'
    refine RW_bind.mpr ((RWb h').imp (fun x q => ?_) fun _ _ z => z)
    rw [bind_assoc'] at q
    exact q
  refine wpAny_bind (thn (hc.tes.run pins s σ H _ I (key (β := D) (Q' := fun z H1 => ∃ F1, Frm mg e env F1 σ H1 T ∧ RW ((if z then ev Φ A true env else ev Φ B true env) >>= toB) (fun b => ∀ F' H', Grow F1 H1 F' H' → Q b H') (EX mg W σ F1 H1)) (g := fun z env => (if z then ev Φ A true env else ev Φ B true env) >>= toB) hK f h fun z F1 H1 f1 q => ⟨F1, f1, q⟩)) fun z s1 ⟨H1, I1, F1, f1, q⟩ => ?_)
  cases z with
  | true =>
    rw [if_pos rfl] at q ⊢
    exact ha.tes.run pins s1 σ H1 Q I1 ⟨env, F1, T, f1, q⟩
  | false =>
    rw [if_neg (by decide)] at q ⊢
    exact hb.tes.run pins s1 σ H1 Q I1 ⟨env, F1, T, f1, q⟩
end
end Mp
/-! subscripts, displays, fields -/
namespace Mp
open PySem PySem.Spec PyProof.Rows L2 PySem.SeqAt

section
variable {mg : Gd} {e : Ent} {env : Sls} {F F' F1 H H' H1 : Hp} {σ : L2.St} {T : Nat → List Addr} {W : WX} {α β : Type} {X : Cx} {Φ : String → List D → R D}
theorem rdK_inj {a : Addr} {l l' : List (Key × V)} (h : Rd H a (.dK l)) (h' : Rd H a (.dK l')) : l = l' := by
  rcases h with z | ⟨ob, z⟩ <;> rcases h' with w | ⟨ob', w⟩ <;> rw [z] at w
  · exact HO.dK.inj (Option.some.inj w)
  · cases w
  · cases w
  · exact HO.dK.inj (HO.frz.inj (Option.some.inj w)).2
theorem rdT_inj {a : Addr} {l l' : List (List Key × V)} (h : Rd H a (.dT l)) (h' : Rd H a (.dT l')) : l = l' := by
  rcases h with z | ⟨ob, z⟩ <;> rcases h' with w | ⟨ob', w⟩ <;> rw [z] at w
  · exact HO.dT.inj (Option.some.inj w)
  · cases w
  · cases w
  · exact HO.dT.inj (HO.frz.inj (Option.some.inj w)).2
theorem ix_dict (hu : X.A.units + 1 < cLine) : IxR X (fun x y H Q => ∃ a v, x = .ref a ∧ DGet H a y (some v) ∧ Q v H) := by
  intro value slice pins s σ H x y v u Q I rx ry h hs
  obtain ⟨a, z, rfl, g, q⟩ := h
  cases rx
  exact tail_any (dict_typeIs I g) PySem.F.slot_dict_getitem.lookup (d_getItem hu I g ry fun w' s3 I3 rw' => ⟨z, H, I3, rw', q⟩) hs
theorem atI_reps {vs : List V} {ds : List D} {i : Int} {d : D} (r : Reps mg H vs ds) (h : atI ds i = some d) : ∃ v, atI vs i = some v ∧ Rep mg H v d := by
  unfold atI at h ⊢
  rw [r.length]
  cases hi : ixN ds.length i with
  | none => rw [hi] at h; cases h
  | some j =>
    rw [hi] at h
    obtain ⟨v, h1, h2⟩ := r.get h
    exact ⟨v, h1, h2⟩
/-- the part of a thing, in the heap where that thing stands -/
theorem ix_op (hu : X.A.units + 1 < cLine) {dx dy d : D} {x y : V} {Q : VK} (rx : Rep mg H x dx) (ry : Rep mg H y dy) (h : idxD dx dy = some d) (n : ∀ v, (∀ G : Hp, Le G H → Rep mg G x dx → Rep mg G v d) → Q v H) : anyIx X x y H Q := by
  cases dx with
  | lst xs =>
    cases dy with
    | int i =>
      obtain ⟨a, vs, e, h1, h2⟩ := rep_lst rx
      subst e
      obtain ⟨v, e1, e2⟩ := atI_reps h2 h
      refine ⟨_, ix_list, a, vs, i, v, rfl, rep_int ry, SqL.of h1, e1, n v fun G le r => ?_⟩
      obtain ⟨a', vs', e', g1, g2⟩ := rep_lst r
      cases e'
      have := le.lst g1
      rw [h1] at this; cases this
      obtain ⟨v', e3, e4⟩ := atI_reps g2 h
      rw [e1] at e3; cases e3
      exact e4
    | _ => cases h
  | tup xs =>
    cases dy with
    | int i =>
      obtain ⟨a, vs, e, h1, h2⟩ := rep_tup rx
      subst e
      obtain ⟨v, e1, e2⟩ := atI_reps h2 h
      refine ⟨_, ix_tup, a, vs, i, v, rfl, rep_int ry, SqT.of h1, e1, n v fun G le r => ?_⟩
      obtain ⟨a', vs', e', g1, g2⟩ := rep_tup r
      cases e'
      have := le.tup g1
      rw [h1] at this; cases this
      obtain ⟨v', e3, e4⟩ := atI_reps g2 h
      rw [e1] at e3; cases e3
      exact e4
    | _ => cases h
  | str s =>
    cases dy with
    | int i =>
      have h : (if s.length ≤ sizeLine then (atI s.cps.toList i).map fun c => D.str ⟨#[c]⟩ else none) = some d := h
      split at h
      · rename_i z
        cases hc : atI s.cps.toList i with
        | none => rw [hc] at h; cases h
        | some c =>
          rw [hc] at h; cases h
          exact ⟨_, ix_str, s, i, c, rep_str rx, rep_int ry, z, hc, n _ fun G _ _ => by unfold Rep; rfl⟩
      · cases h
    | _ => cases h
  | dK ks ds =>
    have h : (match keyD dy with | some k => lookD k ks ds | none => none) = some d := by cases dy <;> exact h
    cases hk : keyD dy with
    | none => rw [hk] at h; cases h
    | some k =>
      rw [hk] at h
      obtain ⟨a, vs, e, hl, hd, hr⟩ := rep_dK rx
      subst e
      obtain ⟨v, e1, e2⟩ := look_val hl hr h
      refine ⟨_, ix_dict hu, a, v, rfl, .inl ⟨_, k, hd, key_rep hk ry, e1.symm⟩, n v fun G le r => ?_⟩
      obtain ⟨a', vs', e', hl', g1, g2⟩ := rep_dK r
      cases e'
      have hz : ks.zip vs = ks.zip vs' := rdK_inj hd (le.rd g1)
      obtain ⟨v', e3, e4⟩ := look_val hl' g2 h
      rw [← hz, e1] at e3; cases e3
      exact e4
  | dT ks ds =>
    have h : (match tkeyD dy with | some k => lookD k ks ds | none => none) = some d := by cases dy <;> exact h
    cases hk : tkeyD dy with
    | none => rw [hk] at h; cases h
    | some k =>
      rw [hk] at h
      obtain ⟨a, vs, e, hl, hd, hr⟩ := rep_dT rx
      subst e
      obtain ⟨b, e2, hb⟩ := tkey_rep hk ry
      obtain ⟨v, e1, _⟩ := look_val hl hr h
      refine ⟨_, ix_dict hu, a, v, rfl, .inr ⟨_, k, b, hd, e2, hb, e1.symm⟩, n v fun G le r => ?_⟩
      obtain ⟨a', vs', e', hl', g1, g2⟩ := rep_dT r
      cases e'
      have hz : ks.zip vs = ks.zip vs' := rdT_inj hd (le.rd g1)
      obtain ⟨v', e3, e4⟩ := look_val hl' g2 h
      rw [← hz, e1] at e3; cases e3
      exact e4
  | _ => cases dy <;> cases h
theorem KX {b : Bool} {d : D} {v : V} {Q : VK} (le : Le F H) (q : if b then KB mg Q F H d else KE mg 0 Q F H d) (rb : Rep mg H v d) (rf : b = false → Rep mg F v d) : Q v H := by
  cases b with
  | true =>
    rw [if_pos rfl] at q
    exact q v F H (Grow.refl le) rb
  | false =>
    rw [if_neg (by decide)] at q
    exact q v F H [] (Grow.refl le) ⟨rfl, rf rfl⟩ fun _ z => by cases z
theorem KX.grows {b : Bool} {Q : VK} : Grows (fun F H d => if b then KB mg Q F H d else KE mg 0 Q F H d) := by
  intro F H F1 H1 d g h
  cases b with
  | true => rw [if_pos rfl] at h ⊢; exact KB.grows _ _ _ _ _ g h
  | false => rw [if_neg (by decide)] at h ⊢; exact KE.grows _ _ _ _ _ g h
theorem rdX_of {b : Bool} {m : Sls → R D} {Q : VK} (h : rdX mg e W b m σ H Q) : ∃ env F T, Frm mg e env F σ H T ∧ RW (m env) (if b then KB mg Q F H else KE mg 0 Q F H) (EX mg W σ F H) := by
  cases b <;> exact h
theorem iteK {b : Bool} {Q : VK} : (if b then KB mg Q F H else KE mg 0 Q F H) = fun d => if b then KB mg Q F H d else KE mg 0 Q F H d := by cases b <;> rfl
theorem ok_idx (hu : X.A.units + 64 < cLine) {pos : Pos} {a i : Expr} {A I : Mp.E} (ha : OkE mg e W X Φ a A) (hi : OkE mg e W X Φ i I) : OkE mg e W X Φ (.Subscript a i pos) (.idx A I) := by
  refine Ok3.ofX rfl rfl ?_
  refine PE.of (pe_ix (anyIx_ok) ha.x hi.brw (plain_ix hi.pl)) fun σ H Q q => ?_
  obtain ⟨env, F, T, f, h⟩ := rdX_of q
  rw [iteK] at h
  refine bX KX.grows f h fun F1 H1 dx x g1 f1 rx fx h => ?_
  refine bX (b := true) KX.grows f1 h fun F2 H2 dy y g2 f2 ry _ h => ?_
  obtain ⟨d, ed, q⟩ := RW_ofO.mp h
  refine ix_op (by omega) (Rep.up g2 rx) ry ed fun v hv => KX f2.le q (hv H2 (Le.refl _) (Rep.up g2 rx)) fun z => hv F2 f2.le (Rep.grow g2 (fx z))

/-! ### slices -/
theorem anySl_ok : L2.SlR X (anySl X) := fun pins s σ H x v vl vu lo hi sl Q I rx hs pl pu ⟨r, ho, h⟩ => ho pins s σ H x v vl vu lo hi sl Q I rx hs pl pu h
def OkO (mg : Gd) (e : Ent) (W : WX) (X : Cx) (Φ : String → List D → R D) : Option Expr → List Mp.E → Prop
  | none, [] => True
  | some ex, [E] => OkE mg e W X Φ ex E
  | _, _ => False
def rdO (mg : Gd) (e : Ent) (W : WX) (m : Sls → R (Option Int)) : TO := fun σ H Q => ∃ env F T, Frm mg e env F σ H T ∧ RW (m env) (GW Q F H) (EX mg W σ F H)
theorem r_part : ∀ {o : Option Expr} {Es : List Mp.E}, OkO mg e W X Φ o Es → PO X o (rdO mg e W (fun env => seqR (evs Φ Es false env) >>= fun l => ofO (optI l)))
  | none, [], _ => ⟨fun pins s σ H Q I ⟨env, F, T, f, h⟩ => po_none.run pins s σ H Q I (GW.now (show GW Q F H none from h) f.le)⟩
  | some ex, [E], ok => ⟨fun pins s σ H Q I ⟨env, F, T, f, h⟩ => (po_some ok.brw).run pins s σ H Q I (by
      have h : RW ((ev Φ E false env >>= fun d => seqR [] >>= fun r => pure (d :: r)) >>= fun l => ofO (optI l)) (GW Q F H) (EX mg W σ F H) := h
      rw [bind_assoc'] at h
      refine bX (b := true) GW.grows f h fun F1 H1 d x g1 f1 rx fx h => ?_
      obtain ⟨o, eo, q⟩ := RW_ofO.mp (show RW (ofO (optI [d])) _ _ from h)
      cases d with
      | int i => cases eo; exact ⟨i, rep_int rx, q.now f1.le⟩
      | _ => cases eo)⟩
  | none, _ :: _, ok => ok.elim
  | some _, [], ok => ok.elim
  | some _, _ :: _ :: _, ok => ok.elim
theorem bO {K : Hp → Hp → α → Prop} (hK : Grows K) (f : Frm mg e env F σ H T) {ma : Sls → R (Option Int)} {g : Option Int → R α} {Q : Option Int → Hp → Prop} (h : RW (ma env >>= g) (K F H) (EX mg W σ F H))
    (next : ∀ F1 H1 o, Grow F H F1 H1 → Frm mg e env F1 σ H1 T → RW (g o) (K F1 H1) (EX mg W σ F1 H1) → Q o H1) : rdO mg e W ma σ H Q :=
  ⟨env, F, T, f, (RWb h).imp (fun d q F1 H1 g1 => next F1 H1 d g1 (f.grow g1) (RW.grow hK g1 q)) fun _ _ z => z⟩
theorem reps_cut {vs : List V} {ds : List D} (lo hi : Option Int) (r : Reps mg H vs ds) : Reps mg H (cutV vs lo hi) (cutD ds lo hi) := by
  unfold cutV cutD
  rw [r.length]
  exact Reps.take _ (Reps.drop _ r)
theorem cut_all {α : Type} {xs : List α} {lo hi : Option Int} (h : HT.sIx xs.length 0 lo = 0 ∧ HT.sIx xs.length xs.length hi = xs.length) : cutD xs lo hi = xs := by
  unfold cutD
  rw [h.1, h.2, List.drop_zero, Nat.sub_zero, List.take_length]
theorem sl_op (hk : mg.K = X.K) {b : Bool} {lo hi : Option Int} {dx d : D} {x : V} {Q : VK} (le : Le F H) (rx : Rep mg H x dx) (hf : b = false → Rep mg F x dx) (h : slD b lo hi dx = some d) (q : KE mg 1 Q F H d) : anySl X x lo hi H Q := by
  cases dx with
  | lst xs =>
    obtain ⟨a, vs, ea, h1, h2⟩ := rep_lst rx
    subst ea
    have h : (if shr b xs then some (D.lst (cutD xs lo hi)) else none) = some d := h
    split at h
    · rename_i z; cases h
      exact ⟨_, sl_list, a, vs, rfl, SqL.of h1, fun p np => q.lst le np (reps_cut lo hi (shr_reps z le h1 h2 hf))⟩
    · cases h
  | tup xs =>
    obtain ⟨a, vs, ea, h1, h2⟩ := rep_tup rx
    subst ea
    cases hb : b with
    | true => rw [hb] at h; cases h
    | false =>
    rw [hb] at h
    cases h
    obtain ⟨a', vs', ea', g1, g2⟩ := rep_tup (hf hb)
    cases ea'
    have := le.tup g1
    rw [h1] at this; cases this
    refine ⟨_, sl_tupA, a, vs, rfl, SqT.of h1, fun hw => ?_, fun hw p np => ?_⟩
    · rw [g2.length] at hw
      rw [cut_all hw] at q
      exact q.at le rfl (hf hb)
    · exact q.tup le np (reps_cut lo hi g2)
  | str s =>
    have h : (if s.length ≤ sizeLine then some (D.str ⟨(cutD s.cps.toList lo hi).toArray⟩) else none) = some d := h
    split at h
    · rename_i z; cases h
      exact ⟨_, sl_str, s, rep_str rx, z, q.str le⟩
    · cases h
  | scr ns =>
    cases h
    unfold Rep at rx
    obtain ⟨a, ea, h1⟩ := rx
    subst ea
    refine ⟨_, sl_list, a, ns.map V.int, rfl, hk ▸ h1, fun p np => q.lst le np ?_⟩
    have : ∀ ns : List Int, Reps mg F (ns.map V.int) (ns.map D.int) := fun ns => by
      induction ns with
      | nil => exact Reps.nil
      | cons n ns ih => exact Reps.cons (by unfold Rep; rfl) ih
    have e1 : cutV (ns.map V.int) lo hi = (cutD ns lo hi).map V.int := by
      unfold cutV cutD
      rw [List.length_map, List.map_take, List.map_drop]
    rw [e1]
    exact this _
  | _ => cases h
theorem ok_sl (hk : mg.K = X.K) {pos p2 : Pos} {a : Expr} {lo hi : Option Expr} {A : Mp.E} {Lo Hi : List Mp.E} (ha : OkE mg e W X Φ a A) (hl : OkO mg e W X Φ lo Lo) (hh : OkO mg e W X Φ hi Hi) :
    OkE mg e W X Φ (.Subscript a (.Slice lo hi none p2) pos) (.sl A Lo Hi) := by
  refine Ok3.ofE rfl rfl ?_
  refine PE.of (pe_slice anySl_ok ha.x (r_part hl) (r_part hh)) fun σ H Q ⟨env, F, T, f, h⟩ => ?_
  refine bX KE.grows f h fun F1 H1 dx x g1 f1 rx fx h => ?_
  refine bO KE.grows f1 h fun F2 H2 l g2 f2 h => ?_
  refine bO KE.grows f2 h fun F3 H3 u g3 f3 h => ?_
  obtain ⟨d, ed, q⟩ := RW_ofO.mp h
  refine sl_op hk f3.le (Rep.up g3 (Rep.up g2 rx)) (fun z => Rep.grow g3 (Rep.grow g2 (fx z))) ed q

/-! ### displays -/
theorem ok_lst {pos : Pos} {exs : List Expr} {Es : List Mp.E} (hb : Es.any bor = false) (ok : OkEs mg e W X Φ exs Es) : OkE mg e W X Φ (.List exs pos) (.lst Es) := by
  refine Ok3.ofE rfl rfl (PE.of (pe_lst (r_args ok)) fun σ H Q ⟨env, F, T, f, h⟩ => ?_)
  refine bA KE.grows f h fun F1 H1 ds xs g1 f1 rs h => ?_
  obtain ⟨z, q⟩ := RW.okIf.mp h
  have rr := RepM.nobor (by rw [any_map]; exact hb) rs
  exact ⟨by rw [rr.length]; exact of_decide_eq_true z, fun p np => KE.lst q f1.le np rr⟩
theorem ok_tup {pos : Pos} {n : Nat} {exs : List Expr} {Es : List Mp.E} (hb : Es.any bor = false) (ok : OkEs mg e W X Φ exs Es) : OkE mg e W X Φ (.Tuple exs n pos) (.tup Es) := by
  refine Ok3.ofE rfl rfl (PE.of (pe_tup (r_args ok)) fun σ H Q ⟨env, F, T, f, h⟩ => ?_)
  refine bA KE.grows f h fun F1 H1 ds xs g1 f1 rs h => ?_
  obtain ⟨z, q⟩ := RW.okIf.mp h
  have rr := RepM.nobor (by rw [any_map]; exact hb) rs
  exact ⟨by rw [rr.length]; exact of_decide_eq_true z, fun p np => KE.tup q f1.le np rr⟩

/-! ### fields -/
theorem zip_lookup {v : V} : ∀ {ns : List Str} {vs : List V} {i : Nat} {n : Str}, ns.Nodup → ns[i]? = some n → vs[i]? = some v → (ns.zip vs).lookup n = some v
  | [], _, i, n, _, h, _ => by simp at h
  | m :: ns, [], i, n, _, _, h => by simp at h
  | m :: ns, w :: vs, 0, n, _, h1, h2 => by
    simp at h1 h2
    subst h1 h2
    simp [List.lookup]
  | m :: ns, w :: vs, i + 1, n, nd, h1, h2 => by
    rw [List.nodup_cons] at nd
    have h1 : ns[i]? = some n := by simpa using h1
    have hm : n ≠ m := fun z => nd.1 (z ▸ List.mem_of_getElem? h1)
    rw [List.zip_cons_cons, List.lookup_cons]
    have : (n == m) = false := beq_eq_false_iff_ne.mpr hm
    rw [this]
    exact zip_lookup nd.2 h1 (by simpa using h2)
/-- what is told of a class: its name, its fields -/
structure FldOk (mg : Gd) (X : Cx) (c : String) : Prop where
  nd : (mg.cf c).Nodup
  cls : ∀ C, mg.mg c = some (.ref C) → Cls X.K C
  no : ∀ C n, mg.mg c = some (.ref C) → n ∈ mg.cf c → NoAttr X.K C n
theorem ok_att {pos : Pos} {c : String} {i : Nat} {n : Str} {a : Expr} {A : Mp.E} (fo : FldOk mg X c) (hn : (mg.cf c)[i]? = some n) (ha : OkE mg e W X Φ a A) : OkE mg e W X Φ (.Attribute a n pos) (.att c i A) := by
  refine Ok3.ofX rfl rfl ?_
  refine PE.of (pe_fld ha.x (plain_base ha.pl)) fun σ H Q q => ?_
  obtain ⟨env, F, T, f, h⟩ := rdX_of q
  rw [iteK] at h
  refine bX KX.grows f h fun F1 H1 dx x g1 f1 rx fx h => ?_
  obtain ⟨d, ed, q⟩ := RW_ofO.mp h
  cases dx with
  | obj c' ds =>
    have ed2 : (if c' = c then ds[i]? else none) = some d := ed
    by_cases z : c' = c
    · rw [if_pos z] at ed2
      subst z
      obtain ⟨p, C, dx, vs, ep, hl, hm, hp, hr⟩ := rep_obj rx
      subst ep
      obtain ⟨v, e1, e2⟩ := hr.get ed2
      refine ⟨p, C, dx, _, v, rfl, hp, fo.cls C hm, fo.no C n hm (List.mem_of_getElem? hn), zip_lookup fo.nd hn e1, KX f1.le q e2 fun z => ?_⟩
      obtain ⟨p', C', dx', vs', ep', hl', hm', hp', hr'⟩ := rep_obj (fx z)
      cases ep'
      have := f1.le.ins hp'
      rw [hp] at this
      have hz : vs = vs' := by
        have e3 : (mg.cf c').zip vs = (mg.cf c').zip vs' := by injection this with w; injection w
        have l1 : ((mg.cf c').zip vs).map (·.2) = vs := List.map_snd_zip hl
        have l2 : ((mg.cf c').zip vs').map (·.2) = vs' := List.map_snd_zip hl'
        rw [← l1, e3, l2]
      subst hz
      obtain ⟨v', e3, e4⟩ := hr'.get ed2
      rw [e1] at e3; cases e3
      exact e4
    · rw [if_neg z] at ed2; cases ed2
  | _ => cases ed
end
end Mp
/-! xs[::1], xs[::-1], t[::w] -/
namespace Mp
open PySem PySem.Spec PyProof.Rows L2 HT PySem.SeqAt

section
variable {prog : Program} {w : World} {A : Around} {E : Value → Shared → Prop} {s : Shared}
theorem range_one (n : Nat) : sliceRange 0 (n : Int) 1 = List.range n := by
  unfold sliceRange
  have h1 : (1 : Int) > 0 := by omega
  have e : ((if (0 : Int) < (n : Int) then ((n : Int) - 0 + 1 - 1) / 1 else 0) : Int).toNat = n := by
    rw [Int.ediv_one]; split <;> omega
  simp only [h1, if_true, e]
  have : (fun (k : Nat) => (0 + 1 * (k : Int)).toNat) = id := by funext k; show (0 + 1 * (k : Int)).toNat = k; omega
  rw [this, List.map_id]
theorem pick_one (items : Array Value) : slicePick items none none (some 1) = items.toList.toArray := by
  unfold slicePick
  have hb : sliceBounds none none (some 1) items.size = (0, (items.size : Int), 1) := rfl
  rw [hb]
  show ((sliceRange 0 (items.size : Int) 1).filterMap (items[·]?)).toArray = _
  rw [range_one, PySem.W.krv_all]
theorem rev_pick (xs : Array Value) : ((List.range xs.size).filterMap fun (m : Nat) => xs[((xs.size : Int) - 1 + (m : Int) * -1).toNat]?).toArray = xs.toList.reverse.toArray := by
  have e : ((List.range xs.size).filterMap fun (m : Nat) => xs[((xs.size : Int) - 1 + (m : Int) * -1).toNat]?) = ((List.range xs.size).map fun k => xs.size - 1 - k).filterMap (xs[·]?) := by
    rw [List.filterMap_map]
    have cg : ∀ {l : List Nat} {f g : Nat → Option Value}, (∀ k ∈ l, f k = g k) → l.filterMap f = l.filterMap g := fun {l f g} h => by
      induction l with
      | nil => rfl
      | cons x xs ih => rw [List.filterMap_cons, List.filterMap_cons, h x List.mem_cons_self, ih fun k hk => h k (List.mem_cons_of_mem _ hk)]
    refine cg fun k hk => ?_
    have := List.mem_range.mp hk
    show xs[((xs.size : Int) - 1 + (k : Int) * -1).toNat]? = xs[xs.size - 1 - k]?
    rw [show ((xs.size : Int) - 1 + (k : Int) * -1).toNat = xs.size - 1 - k by omega]
  rw [e, PySem.W.krv_range, List.filterMap_reverse, PySem.W.krv_all]
theorem applied_step {sl : Addr} {vl vu vs : Value} {i : Int} {n : Nat} {Q : Int × Int × Nat → Shared → Prop} (hs : s.heap.IsSliceOf sl vl vu vs) (pl : IsPart vl none) (pu : IsPart vu none) (ps : IsPart vs (some i)) (hi : i ≠ 0)
    (h : Q ((Builtin.Slice.sliceAdjust none none i (n : Int)).1, i, Builtin.Slice.slicePlaces (Builtin.Slice.sliceAdjust none none i (n : Int)).1 (Builtin.Slice.sliceAdjust none none i (n : Int)).2 i) s) :
    wpAny (model prog w) A (Builtin.Slice.sliceApplied (.ref sl) (pure (n : Int))) Q E s := by
  obtain ⟨os, hos, hcs, hds⟩ := id hs
  unfold Builtin.Slice.sliceApplied Builtin.Slice.sliceFields
  refine wpAny_bind (wpAny_bind (wpAny_field hos hds (x := vl) rfl (wpAny_bind (wpAny_field hos hds (x := vu) rfl (wpAny_bind (wpAny_field hos hds (x := vs) rfl (wpAny_pure ?_)))))))
  refine wpAny_bind (slicePart_ ps ?_)
  show wpAny _ _ (if (i == 0) = true then _ else _) _ _ s
  rw [if_neg (by simpa using hi)]
  exact wpAny_bind (slicePart_ pl (wpAny_bind (slicePart_ pu (wpAny_bind (wpAny_pure (wpAny_pure h))))))
theorem getItem_tuple_step {t sl : Addr} {items : Array Value} {vl vu vs : Value} {i : Int} {Q : Value → Shared → Prop} (ht : IsTup s.heap t items) (hs : s.heap.IsSliceOf sl vl vu vs) (pl : IsPart vl none) (pu : IsPart vu none) (ps : IsPart vs (some i))
    (hi : (i = 1 ∧ Q (.ref t) s) ∨ (i = -1 ∧ Q (.ref s.heap.objs.size) { s with heap := s.heap.push { cls := .type "tuple", data := .seq items.toList.reverse.toArray } }))
    (hsz : items.size ≤ sizeLine) : wpAny (model prog w) A (getItem (.ref t) (.ref sl)) Q E s := by
  obtain ⟨os, hos, hcs, hds⟩ := id hs
  have hTs : s.TypeIs (.ref sl) "slice" := ⟨os, hos, hcs⟩
  have h0 : i ≠ 0 := by rcases hi with ⟨h, _⟩ | ⟨h, _⟩ <;> omega
  unfold getItem
  try with_reducible refine wpAny_holding ?_
  first | refine wpAny_bind (wpAny_pure ?_) | skip
  refine wpAny_bind (wpAny_sequenceKey ht.typeIs (by decide) ?_)
  refine wpAny_bind (wpAny_callSpecial?_slot (name := Str.ofString "__getitem__") ht.typeIs PyProof.Rows.slot_tuple_getitem
    (wpAny_call_entry PyProof.Rows.slot_tuple_getitem ht.typeIs entry_tuple_getitem ?_ (args_tuple_getitem _ _)))
  show wpAny _ _ (Builtin.Tuple.tupleItemsOf (.ref t) >>= _) _ _ s
  refine wpAny_bind (tupleItemsOf_ ht ?_)
  refine wpAny_bind (wpAny_typeOf hTs ?_)
  rw [if_pos (by decide)]
  refine wpAny_bind (applied_step hs pl pu ps h0 ?_)
  rcases hi with ⟨rfl, h⟩ | ⟨rfl, h⟩
  · have ea : Builtin.Slice.sliceAdjust none none 1 (items.size : Int) = (0, (items.size : Int)) := rfl
    have ep : Builtin.Slice.slicePlaces 0 (items.size : Int) 1 = items.size := by
      have := places_gen 0 items.size
      simpa using this
    rw [ea]
    dsimp only
    rw [ep]
    have hyes : (((0 : Int) == 0 && (1 : Int) == 1 && items.size == items.size) = true) := by simp
    rw [if_pos hyes]
    refine wpAny_bind ?_
    show wpAny _ _ (typeOf (.ref t) >>= fun T => pure (T == .type "tuple")) _ _ s
    refine wpAny_bind (wpAny_typeOf ht.typeIs (wpAny_pure ?_))
    first
      | rw [if_pos (by decide)]
      | simp only [beq_self_eq_true, if_true]
    first
      | exact wpAny_bind (wpAny_rule (wpAny_pure ⟨_, rfl, wpAny_pure h⟩))
      | exact wpAny_bind (wpAny_rule (wpAny_bind (wpAny_pure (wpAny_pure ⟨_, rfl, wpAny_pure h⟩))))
  · have ea : Builtin.Slice.sliceAdjust none none (-1) (items.size : Int) = ((items.size : Int) - 1, -1) := rfl
    have ep : Builtin.Slice.slicePlaces ((items.size : Int) - 1) (-1) (-1) = items.size := by
      unfold Builtin.Slice.slicePlaces
      have h1 : ¬ ((-1 : Int) > 0) := by decide
      simp only [h1, if_false, show (-(-1) : Int) = 1 by decide, Int.ediv_one]
      split <;> omega
    rw [ea]
    dsimp only
    rw [ep]
    have hno : ¬ ((((items.size : Int) - 1 == 0 && (-1 : Int) == 1 && items.size == items.size)) = true) := by
      rw [show ((-1 : Int) == 1) = false by decide, Bool.and_false, Bool.false_and]; decide
    rw [if_neg hno, rev_pick]
    have htake : sizeOk (.seq items.toList.reverse.toArray) := by
      show items.toList.reverse.toArray.size ≤ sizeLine
      rw [List.size_toArray, List.length_reverse, Array.length_toList]
      exact hsz
    first
      | exact wpAny_bind (m := Builtin.Tuple.tupleExact _) (wpAny_newObj_type (wpAny_pure ⟨_, rfl, wpAny_pure h⟩) htake)
      | exact wpAny_bind (m := Builtin.Tuple.tupleExact _) (wpAny_newObj_type (wpAny_bind (wpAny_pure (wpAny_pure ⟨_, rfl, wpAny_pure h⟩))) htake)
      | exact wpAny_bind (wpAny_bind (m := Builtin.Tuple.tupleExact _) (wpAny_newObj_type (wpAny_pure (wpAny_pure ⟨_, rfl, wpAny_pure h⟩)) htake))
      | exact wpAny_bind (wpAny_bind (m := Builtin.Tuple.tupleExact _) (wpAny_newObj_type (wpAny_pure ⟨_, rfl, wpAny_pure h⟩) htake))
end
section
variable {X : Cx} {ex st : Expr} {te ts : TE} {p3 pos : Pos}
def tStp (K : PySem.W.Frag) (te ts : TE) : TE := fun σ H Q => te σ H fun x H1 => ts σ H1 fun y H2 => ∃ a xs i, x = .ref a ∧ y = .int i ∧
  ((SqL K H2 a xs ∧ i = -1 ∧ ∀ p, H2 p = none → Q (.ref p) (upd H2 p (.lst xs.reverse))) ∨ (SqL K H2 a xs ∧ i = 1 ∧ ∀ p, H2 p = none → Q (.ref p) (upd H2 p (.lst xs))) ∨
   (SqT K H2 a xs ∧ i = -1 ∧ ∀ p, H2 p = none → Q (.ref p) (upd H2 p (.tup xs.reverse))) ∨ (SqT K H2 a xs ∧ i = 1 ∧ Q (.ref a) H2))
theorem pe_stp (he : PE X ex te) (hst : PE X st ts) : PE X (.Subscript ex (.Slice none none (some st) p3) pos) (tStp X.K te ts) := by
  refine ⟨fun pins s σ H Q I h => ?_⟩
  refine Subscript_ (thn (he.run pins s σ H _ I h) fun v s1 ⟨x, H1, I1, r1, q1⟩ => ?_)
  refine wpAny_Slice (thn (po_none.run pins s1 σ H1 (fun o H2 => o = none ∧ H2 = H1) I1 ⟨rfl, rfl⟩) fun vl s2 ⟨l, H2, I2, pl, el, e2⟩ => ?_)
  subst el e2
  refine thn (po_none.run pins s2 σ H2 (fun o H3 => o = none ∧ H3 = H2) I2 ⟨rfl, rfl⟩) fun vu s3 ⟨u, H3, I3, pu, eu, e3⟩ => ?_
  subst eu e3
  rw [evalPart_some]
  refine thn (hst.run pins s3 σ H3 _ I3 q1) fun vs s4 ⟨y, H4, I4, ry, a, xs, i, ex', ey, q⟩ => ?_
  subst ex' ey
  cases r1
  obtain ⟨t, rfl⟩ := ry
  have ps : IsPart (Value.int i t) (some i) := .int i t
  have I5 : Inv X pins σ H4 { s4 with heap := s4.heap.push { cls := .type "slice", data := .fields #[vl, vu, .int i t] } } := I4.kept (t' := s4.toks) fun b ob q => Heap.get?_push_of_some _ q
  have hsl := Heap.IsSliceOf.new s4.heap vl vu (.int i t)
  show wpAny (model X.prog X.w) X.A (subscriptTail ex (.Slice none none (some st) p3) (.ref a) (.ref s4.heap.objs.size)) (EP X pins σ Q) X.xe { s4 with heap := s4.heap.push { cls := .type "slice", data := .fields #[vl, vu, .int i t] } }
  have lst : ∀ {s5 : Shared} {zs : List V} {us : List Value}, Inv X pins σ H4 s5 → Vals zs us → us.length ≤ sizeLine → (∀ p, H4 p = none → Q (.ref p) (upd H4 p (.lst zs))) →
      EP X pins σ Q (.ref s5.heap.objs.size) { s5 with heap := s5.heap.push { cls := .type "list", data := .seq us.toArray } } := fun {s5 zs us} I5 r hz q => by
    refine ⟨.ref _, _, I5.laid (t' := s5.toks) (o := .lst zs) (fun b ob q => Heap.get?_push_of_some _ q) (Nat.le_refl _) ?_, rfl, q _ (I5.hok.fresh (Nat.le_refl _))⟩
    exact ⟨by rw [r.length]; exact hz, _, 0, r, Heap.get?_push_size _ rfl⟩
  rcases q with ⟨hx, ei, q⟩ | ⟨hx, ei, q⟩ | ⟨hx, ei, q⟩ | ⟨hx, ei, q⟩
  · subst ei
    obtain ⟨its, r, ht, hz⟩ := I5.list hx
    have hlen := r.length
    refine tail_any (ops := [.ref a, .ref s4.heap.objs.size]) ht.isList.typeIs (PySem.slot_list_getitem.lookup) ?_ (by with_unfolding_all rfl)
    refine wpAny_getItem_list_slice ht.isList hsl pl pu ps (by decide) ?_ (by rw [List.size_toArray]; omega)
    rw [PySem.W.krv_pick]
    exact lst (us := its.reverse) I5 r.reverse (by rw [List.length_reverse]; omega) q
  · subst ei
    obtain ⟨its, r, ht, hz⟩ := I5.list hx
    have hlen := r.length
    refine tail_any (ops := [.ref a, .ref s4.heap.objs.size]) ht.isList.typeIs (PySem.slot_list_getitem.lookup) ?_ (by with_unfolding_all rfl)
    refine wpAny_getItem_list_slice ht.isList hsl pl pu ps (by decide) ?_ (by rw [List.size_toArray]; omega)
    rw [pick_one]
    exact lst (us := its) I5 r (by omega) q
  · subst ei
    obtain ⟨its, r, ht, hz⟩ := I5.tuple hx
    have hlen := r.length
    refine tail_any (ops := [.ref a, .ref s4.heap.objs.size]) ht.typeIs (PyProof.Rows.slot_tuple_getitem.lookup) ?_ (by with_unfolding_all rfl)
    refine getItem_tuple_step ht hsl pl pu ps (.inr ⟨rfl, ?_⟩) (by rw [List.size_toArray]; omega)
    refine ⟨.ref _, _, I5.laid (t' := s4.toks) (o := .tup xs.reverse) (fun b ob q => Heap.get?_push_of_some _ q) (Nat.le_refl _) ?_, rfl, q _ (I5.hok.fresh (Nat.le_refl _))⟩
    exact ⟨by rw [List.length_reverse]; omega, _, r.reverse, IsTup.new _ _⟩
  · subst ei
    obtain ⟨its, r, ht, hz⟩ := I5.tuple hx
    have hlen := r.length
    refine tail_any (ops := [.ref a, .ref s4.heap.objs.size]) ht.typeIs (PyProof.Rows.slot_tuple_getitem.lookup) ?_ (by with_unfolding_all rfl)
    exact getItem_tuple_step ht hsl pl pu ps (.inl ⟨rfl, ⟨.ref a, H4, I5, rfl, q⟩⟩) (by rw [List.size_toArray]; omega)
end
section
variable {mg : Gd} {e : Ent} {env : Sls} {F F' F1 H H' H1 : Hp} {σ : L2.St} {T : Nat → List Addr} {W : WX} {X : Cx} {Φ : String → List D → R D}
theorem ok_stp {pos p3 : Pos} {a st : Expr} {A Wd : Mp.E} (ha : OkE mg e W X Φ a A) (hw : OkE mg e W X Φ st Wd) : OkE mg e W X Φ (.Subscript a (.Slice none none (some st) p3) pos) (.stp A Wd) := by
  refine Ok3.ofE rfl rfl (PE.of (pe_stp ha.x hw.brw) fun σ H Q ⟨env, F, T, f, h⟩ => ?_)
  refine bX KE.grows f h fun F1 H1 dx x g1 f1 rx fx h => ?_
  refine bX (b := true) KE.grows f1 h fun F2 H2 dy y g2 f2 ry _ h => ?_
  obtain ⟨d, ed, q⟩ := RW_ofO.mp h
  have rx2 := Rep.up g2 rx
  cases dx with
  | lst xs =>
    cases dy with
    | int i =>
      have ed : (if shr (bor A) xs = false then none else if i = -1 then some (D.lst xs.reverse) else if i = 1 then some (.lst xs) else none) = some d := ed
      split at ed
      · cases ed
      rename_i z
      have z : shr (bor A) xs = true := by cases q : shr (bor A) xs with | true => rfl | false => exact absurd q z
      obtain ⟨l, vs, el, h1, h2⟩ := rep_lst rx2
      have hr := shr_reps z f2.le h1 h2 fun z => by rw [← el]; exact Rep.grow g2 (fx z)
      split at ed
      · rename_i w; cases ed
        exact ⟨l, vs, i, el, rep_int ry, .inl ⟨SqL.of h1, w, fun p np => q.lst f2.le np hr.reverse⟩⟩
      split at ed
      · rename_i w; cases ed
        exact ⟨l, vs, i, el, rep_int ry, .inr (.inl ⟨SqL.of h1, w, fun p np => q.lst f2.le np hr⟩)⟩
      · cases ed
    | _ => cases ed
  | tup xs =>
    cases dy with
    | int i =>
      have ed : (if bor A then none else if i = -1 then some (D.tup xs.reverse) else if i = 1 then some (.tup xs) else none) = some d := ed
      cases hb : bor A with
      | true => rw [hb] at ed; cases ed
      | false =>
      rw [hb, if_neg (by decide)] at ed
      obtain ⟨l, vs, el, h1, h2⟩ := rep_tup rx2
      have rf := Rep.grow g2 (fx hb)
      obtain ⟨l', vs', el', k1, k2⟩ := rep_tup rf
      have : l' = l := by rw [el] at el'; cases el'; rfl
      subst this
      have := f2.le.tup k1
      rw [h1] at this; cases this
      split at ed
      · rename_i w; cases ed
        exact ⟨l', vs, i, el, rep_int ry, .inr (.inr (.inl ⟨SqT.of h1, w, fun p np => q.tup f2.le np k2.reverse⟩))⟩
      split at ed
      · rename_i w; cases ed
        refine ⟨l', vs, i, el, rep_int ry, .inr (.inr (.inr ⟨SqT.of h1, w, ?_⟩))⟩
        subst el
        exact q.at f2.le rfl rf
      · cases ed
    | _ => cases ed
  | _ => cases dy <;> cases ed
end
end Mp
/-! dicts, methods of texts, names, constants -/
namespace Mp
open PySem PySem.Spec PyProof.Rows L2 PySem.SeqAt

section
variable {mg : Gd} {e : Ent} {env : Sls} {F F' F1 H H' H1 : Hp} {σ : L2.St} {T : Nat → List Addr} {W : WX} {α β : Type} {X : Cx} {Φ : String → List D → R D}
/-! ### dicts -/
section
variable {κ : Type} [DecidableEq κ]
theorem repl_reps {k : κ} {v : V} {d : D} (rv : Rep mg H v d) : ∀ {ks : List κ} {vs : List V} {ds : List D}, ks.length = vs.length → Reps mg H vs ds →
    ∃ vs', ((ks.zip vs).map fun kv => if kv.1 = k then (kv.1, v) else kv) = ks.zip vs' ∧ ks.length = vs'.length ∧ Reps mg H vs' (replD k d ks ds)
  | [], [], ds, _, r => by
    refine ⟨[], rfl, rfl, ?_⟩
    cases ds with
    | nil => exact Reps.nil
    | cons d ds => unfold Reps at r; obtain ⟨_, _, z, _⟩ := r; cases z
  | [], _ :: _, _, h, _ => by simp at h
  | _ :: _, [], _, h, _ => by simp at h
  | j :: js, w :: vs, [], _, r => by unfold Reps at r; cases r
  | j :: js, w :: vs, d' :: ds, h, r => by
    unfold Reps at r
    obtain ⟨w', t, e1, a, b⟩ := r
    cases e1
    obtain ⟨vs', e2, l2, r2⟩ := repl_reps rv (by simpa using h) b
    refine ⟨(if j = k then v else w) :: vs', ?_, by simp [l2], Reps.cons ?_ r2⟩
    · rw [List.zip_cons_cons, List.map_cons, e2, List.zip_cons_cons]
      by_cases z : j = k <;> simp [z]
    · by_cases z : j = k
      · rw [if_pos z, if_pos z]; exact rv
      · rw [if_neg z, if_neg z]; exact a
theorem zip_any (k : κ) : ∀ {ks : List κ} {vs : List V}, ks.length = vs.length → ((ks.zip vs).any fun kv => decide (kv.1 = k)) = hasK k ks
  | [], vs, _ => by simp [hasK]
  | j :: js, [], h => by simp at h
  | j :: js, v :: vs, h => by
    unfold hasK
    rw [List.zip_cons_cons, List.any_cons, List.any_cons]
    exact congrArg _ (zip_any k (by simpa using h))
theorem put_reps {k : κ} {v : V} {d : D} (rv : Rep mg H v d) {ks : List κ} {vs : List V} {ds : List D} (hl : ks.length = vs.length) (r : Reps mg H vs ds) :
    ∃ vs', putK (ks.zip vs) k v = (putD k d ks ds).1.zip vs' ∧ (putD k d ks ds).1.length = vs'.length ∧ Reps mg H vs' (putD k d ks ds).2 := by
  unfold putK putD
  rw [zip_any k hl]
  by_cases z : hasK k ks = true
  · rw [if_pos z, if_pos z]
    exact repl_reps rv hl r
  · rw [if_neg z, if_neg z]
    refine ⟨vs ++ [v], ?_, by simp [hl], Reps.append r (Reps.one rv)⟩
    show _ = (ks ++ [k]).zip (vs ++ [v])
    rw [List.zip_append hl]
    rfl
end
/-- a new object that is filled: what the heap has grown by -/
theorem grow_upd {p : Addr} {o o' : HO} (le : Le F H) (np : H p = none) (g : Grow F (upd H p o) F1 H1) : Grow F H F1 (upd H1 p o') ∧ F1 p = none ∧ H1 p = some o := by
  have hp : H1 p = some o := g.same p o upd_same
  have hF : F1 p = none := by
    cases q : F1 p with
    | none => rfl
    | some u =>
      have z := g.new p (le.none np) (by rw [q]; exact fun z => by cases z)
      rw [upd_same] at z; cases z
  refine ⟨⟨fun a u h => ?_, g.ext, fun a h h' => ?_, fun a u h => ?_⟩, hF, hp⟩
  · have ne : a ≠ p := ne_of_none h np
    rw [upd_ne ne]
    exact g.same a u (by rw [upd_ne ne]; exact h)
  · by_cases ne : a = p
    · rw [ne]; exact np
    · have z := g.new a h h'
      rw [upd_ne ne] at z; exact z
  · have ne : a ≠ p := fun z => by rw [z, hF] at h; cases h
    rw [upd_ne ne]; exact g.le a u h
theorem all3_zero (H' : Hp) : ∀ {vs : List V} {ds : List D}, Reps mg F vs ds → All3 (RepN mg 0 F H') vs ds (List.replicate ds.length [])
  | vs, [], r => by unfold Reps at r; subst r; exact True.intro
  | vs, d :: ds, r => by
    unfold Reps at r
    obtain ⟨v, t, e, a, b⟩ := r
    subst e
    exact ⟨⟨rfl, a⟩, all3_zero H' b⟩
theorem flat_rep : ∀ n : Nat, (List.replicate n ([] : List Addr)).flatten = []
  | 0 => rfl
  | n + 1 => by rw [List.replicate_succ, List.flatten_cons, flat_rep n]; rfl
theorem own_lst {p : Addr} {vs : List V} {ds : List D} (hF : F p = none) (hp : H p = some (.lst vs)) (r : Reps mg F vs ds) : RepN mg 1 F H (.ref p) (.lst ds) [p] :=
  .inr ⟨p, rfl, hF, by simp, .inl ⟨ds, vs, List.replicate ds.length [], rfl, hp, all3_zero H r, by rw [flat_rep]⟩⟩
theorem own_dK {p : Addr} {ks : List Key} {vs : List V} {ds : List D} (hF : F p = none) (hl : ks.length = vs.length) (hp : H p = some (.dK (ks.zip vs))) (r : Reps mg F vs ds) : RepN mg 1 F H (.ref p) (.dK ks ds) [p] :=
  .inr ⟨p, rfl, hF, by simp, .inr (.inl ⟨ks, ds, vs, List.replicate ds.length [], rfl, hl, hp, all3_zero H r, by rw [flat_rep]⟩)⟩
theorem own_dT {p : Addr} {ks : List (List Key)} {vs : List V} {ds : List D} (hF : F p = none) (hl : ks.length = vs.length) (hp : H p = some (.dT (ks.zip vs))) (r : Reps mg F vs ds) : RepN mg 1 F H (.ref p) (.dT ks ds) [p] :=
  .inr ⟨p, rfl, hF, by simp, .inr (.inr (.inl ⟨ks, ds, vs, List.replicate ds.length [], rfl, hl, hp, all3_zero H r, by rw [flat_rep]⟩))⟩
theorem sing_new {p : Addr} (np : H p = none) : ∀ a ∈ [p], H a = none := fun a m => by rw [List.mem_singleton.mp m]; exact np
theorem KE.dK {Q : VK} {p : Addr} {ks : List Key} {vs : List V} {ds : List D} {o : HO} (h : KE mg 1 Q F H (.dK ks ds)) (le : Le F H) (np : H p = none) (g : Grow F (upd H p o) F1 H1) (hl : ks.length = vs.length) (r : Reps mg F1 vs ds) :
    Q (.ref p) (upd H1 p (.dK (ks.zip vs))) := by
  obtain ⟨g1, hF, _⟩ := grow_upd (o' := .dK (ks.zip vs)) le np g
  exact h _ F1 _ [p] g1 (own_dK hF hl upd_same r) (sing_new np)
theorem merge_reps : ∀ {ps : List (D × D)} {ks : List Key} {vs : List V} {ds : List D} {r : List Key × List D} {kvs : List (Key × V)}, dctP ps (ks, ds) = some r → ks.length = vs.length → Reps mg H vs ds → kvs.length = ps.length →
    (∀ (i : Nat) (p : D × D) (kv : Key × V), ps[i]? = some p → kvs[i]? = some kv → keyD p.1 = some kv.1 ∧ Rep mg H kv.2 p.2) → ∃ vs', mergeK (ks.zip vs) kvs = r.1.zip vs' ∧ r.1.length = vs'.length ∧ Reps mg H vs' r.2
  | [], ks, vs, ds, r, kvs, h, hl, hr, hn, _ => by
    cases h
    cases kvs with
    | nil => exact ⟨vs, rfl, hl, hr⟩
    | cons _ _ => simp at hn
  | p :: ps, ks, vs, ds, r, [], h, hl, hr, hn, _ => by simp at hn
  | p :: ps, ks, vs, ds, r, kv :: kvs, h, hl, hr, hn, hk => by
    obtain ⟨h1, h2⟩ := hk 0 p kv rfl rfl
    have h : ((keyD p.1).bind fun k => dctP ps (putD k p.2 ks ds)) = some r := h
    rw [h1] at h
    obtain ⟨vs', e1, l1, r1⟩ := put_reps (k := kv.1) h2 hl hr
    show ∃ vs', mergeK (putK (ks.zip vs) kv.1 kv.2) kvs = _ ∧ _
    rw [e1]
    exact merge_reps h l1 r1 (by simpa using hn) fun i p kv a b => hk (i + 1) p kv (by simpa using a) (by simpa using b)
theorem ok_dct0 {pos : Pos} {b : Bool} : OkE mg e W X Φ (.Dict [] [] pos) (.dct b [] []) := by
  cases b with
  | true =>
    refine Ok3.ofE rfl rfl (PE.of pe_dnewT fun σ H Q ⟨env, F, T, f, h⟩ => fun p np => ?_)
    have h : KE mg 1 Q F H (.dT [] []) := h
    exact h _ F _ [p] (Grow.fresh f.le np) (own_dT (f.le.none np) (vs := []) rfl upd_same Reps.nil) (sing_new np)
  | false =>
    refine Ok3.ofE rfl rfl (PE.of pe_dnewK fun σ H Q ⟨env, F, T, f, h⟩ => fun p np => ?_)
    have h : KE mg 1 Q F H (.dK [] []) := h
    exact h _ F _ [p] (Grow.fresh f.le np) (own_dK (f.le.none np) (vs := []) rfl upd_same Reps.nil) (sing_new np)
/-- pairs of a display -/
theorem r_pairs {pos : Pos} : ∀ {ks vs : List Expr} {Ks Vs : List Mp.E}, OkEs mg e W X Φ ks Ks → OkEs mg e W X Φ vs Vs → Vs.any bor = false → ks.length = vs.length → ∃ trs, PPs X pos (ks.map some) vs trs ∧
    ∀ {K : Hp → Hp → List (D × D) → Prop} (hK : Grows K) {env : Sls} {F H : Hp} {T : Nat → List Addr} {σ : L2.St} {Q : List (V × V) → Hp → Prop}, Frm mg e env F σ H T → RW (pairR (evs Φ Ks false env) (evs Φ Vs false env)) (K F H) (EX mg W σ F H) →
      (∀ ds ps F1 H1, Grow F H F1 H1 → K F1 H1 ds → ps.length = ds.length → (∀ (i : Nat) (d : D × D) (p : V × V), ds[i]? = some d → ps[i]? = some p → Rep mg H1 p.1 d.1 ∧ Rep mg F1 p.2 d.2) → Q ps H1) → tPairs trs σ H Q
  | [], [], [], [], _, _, _, _ => ⟨[], pps_nil, fun {K} hK {env F H T σ Q} f h q => q [] [] F H (Grow.refl f.le) h rfl fun i d p z => by simp at z⟩
  | k :: ks, v :: vs, A :: Ks, B :: Vs, ok, ov, hb, hl => by
    rw [List.any_cons, Bool.or_eq_false_iff] at hb
    obtain ⟨trs, hp, hq⟩ := r_pairs (pos := pos) ok.2 ov.2 hb.2 (by simpa using hl)
    refine ⟨_, pps_cons ok.1.brw (PE.of (ov.1.own hb.1) rdE_zero) hp, fun {K} hK {env F H T σ Q} f h q => ?_⟩
    refine bX (b := true) (K := K) hK f h fun F1 H1 da x g1 f1 ra _ h => ?_
    refine bX (b := false) (K := K) hK f1 h fun F2 H2 db y g2 f2 rb fb h => ?_
    refine hq (K := fun F H r => K F H ((da, db) :: r)) (fun F H F1 H1 d g z => hK _ _ _ _ _ g z) f2 (RWb h) fun ds ps F3 H3 g3 hk hn hd => ?_
    refine q ((da, db) :: ds) ((x, y) :: ps) F3 H3 (g1.trans (g2.trans g3)) hk (by simp [hn]) fun i d p e1 e2 => ?_
    cases i with
    | zero =>
      simp at e1 e2
      subst e1 e2
      exact ⟨Rep.up g3 (Rep.up g2 ra), Rep.grow g3 (fb rfl)⟩
    | succ i => exact hd i d p (by simpa using e1) (by simpa using e2)
  | [], _ :: _, _, _, _, _, _, hl => by simp at hl
  | _ :: _, [], _, _, _, _, _, hl => by simp at hl
  | [], [], _ :: _, _, ok, _, _, _ => ok.elim
  | [], [], [], _ :: _, _, ov, _, _ => ov.elim
  | _ :: _, _ :: _, [], _, ok, _, _, _ => ok.elim
  | _ :: _, _ :: _, _ :: _, [], _, ov, _, _ => ov.elim
theorem dctP_keys : ∀ {ps : List (D × D)} {acc r : List Key × List D}, dctP ps acc = some r → ∀ p ∈ ps, ∃ k, keyD p.1 = some k
  | [], _, _, _, p, m => by cases m
  | q :: ps, acc, r, h, p, m => by
    have h : ((keyD q.1).bind fun k => dctP ps (putD k q.2 acc.1 acc.2)) = some r := h
    cases hk : keyD q.1 with
    | none => rw [hk] at h; cases h
    | some k =>
      rw [hk] at h
      rcases List.mem_cons.mp m with z | z
      · exact ⟨k, by rw [z]; exact hk⟩
      · exact dctP_keys h p z
theorem to_kvs : ∀ {ds : List (D × D)} {ps : List (V × V)}, ps.length = ds.length → (∀ (i : Nat) (d : D × D) (p : V × V), ds[i]? = some d → ps[i]? = some p → Rep mg H p.1 d.1 ∧ Rep mg F p.2 d.2) → (∀ p ∈ ds, ∃ k, keyD p.1 = some k) →
    ∃ kvs : List (Key × V), ps = kvs.map (fun kv => (kV kv.1, kv.2)) ∧ kvs.length = ds.length ∧ ∀ (i : Nat) (p : D × D) (kv : Key × V), ds[i]? = some p → kvs[i]? = some kv → keyD p.1 = some kv.1 ∧ Rep mg F kv.2 p.2
  | [], [], _, _, _ => ⟨[], rfl, rfl, fun i p kv z => by simp at z⟩
  | [], _ :: _, h, _, _ => by simp at h
  | _ :: _, [], h, _, _ => by simp at h
  | d :: ds, p :: ps, hl, hd, hk => by
    obtain ⟨kvs, e1, l1, h1⟩ := to_kvs (ds := ds) (ps := ps) (by simpa using hl) (fun i d p a b => hd (i + 1) d p (by simpa using a) (by simpa using b)) fun p m => hk p (List.mem_cons_of_mem _ m)
    obtain ⟨k, ek⟩ := hk d List.mem_cons_self
    obtain ⟨r1, r2⟩ := hd 0 d p rfl rfl
    refine ⟨(k, p.2) :: kvs, ?_, by simp [l1], fun i q kv a b => ?_⟩
    · rw [List.map_cons, ← e1, ← key_rep ek r1]
    · cases i with
      | zero => simp at a b; subst a b; exact ⟨ek, r2⟩
      | succ i => exact h1 i q kv (by simpa using a) (by simpa using b)
theorem ok_dct {pos : Pos} {ks vs : List Expr} {Ks Vs : List Mp.E} (ok : OkEs mg e W X Φ ks Ks) (ov : OkEs mg e W X Φ vs Vs) (hb : Vs.any bor = false) (hl : ks.length = vs.length) (h0 : ks ≠ []) (h15 : ks.length ≤ 15) :
    OkE mg e W X Φ (.Dict (ks.map some) vs pos) (.dct false Ks Vs) := by
  obtain ⟨trs, hp, hq⟩ := r_pairs (pos := pos) ok ov hb hl
  refine Ok3.ofE rfl rfl (PE.of (pe_disp hp (by rw [List.all_map]; exact List.all_eq_true.mpr fun _ _ => rfl) (by rw [List.length_map]; exact hl) (by simpa using h0) (by rw [List.length_map]; exact h15)) fun σ H Q ⟨env, F, T, f, h⟩ => fun p np => ?_)
  have gp : Grow F H F (upd H p (.dK [])) := Grow.fresh f.le np
  have h : RW (pairR (evs Φ Ks false env) (evs Φ Vs false env) >>= fun ps => okIf (decide (ps.length ≤ 15)) (ofO ((dctP ps ([], [])).map fun r => D.dK r.1 r.2))) (KE mg 1 Q F H) (EX mg W σ F H) := h
  refine hq (K := fun F1 H1 ds => ds.length ≤ 15 ∧ ∃ r, dctP ds ([], []) = some r ∧ KE mg 1 Q F H (.dK r.1 r.2)) (fun F H F1 H1 d g z => z) (f.grow gp) (((RWb h).imp (fun ds z => ?_) fun _ _ z => z.grow gp)) fun ds ps F1 H1 g1 ⟨z, r, er, q⟩ hn hd => ?_
  · obtain ⟨z1, z2⟩ := RW.okIf.mp z
    obtain ⟨d, ed, q⟩ := RW_ofO.mp z2
    cases hr : dctP ds ([], []) with
    | none => rw [hr] at ed; cases ed
    | some r => rw [hr] at ed; cases ed; exact ⟨of_decide_eq_true z1, r, rfl, q⟩
  · obtain ⟨_, _, hp1⟩ := grow_upd (o' := .dK []) f.le np g1
    obtain ⟨kvs, e1, l1, h1⟩ := to_kvs hn hd (dctP_keys er)
    obtain ⟨vs', e2, l2, r2⟩ := merge_reps (ks := []) (vs := []) (kvs := kvs) er rfl Reps.nil l1 h1
    refine ⟨hp1, kvs, e1, by omega, ?_⟩
    rw [show mergeK [] kvs = r.1.zip vs' from e2]
    exact KE.dK q f.le np g1 l2 r2
end
end Mp
/-! get, methods of texts and lists, f-strings, names, constants -/
namespace Mp
open PySem PySem.Spec PyProof.Rows L2 PySem.SeqAt

section
variable {mg : Gd} {e : Ent} {env : Sls} {F F' F1 H H' H1 : Hp} {σ : L2.St} {T : Nat → List Addr} {W : WX} {α β : Type} {X : Cx} {Φ : String → List D → R D}
theorem isD_rep {x : V} {d : D} (h : isDct d = true) (r : Rep mg H x d) : ∃ a, x = .ref a ∧ IsD H a := by
  cases d with
  | dK ks ds => obtain ⟨a, vs, e, _, hd, _⟩ := rep_dK r; exact ⟨a, e, .inl ⟨_, hd⟩⟩
  | dT ks ds => obtain ⟨a, vs, e, _, hd, _⟩ := rep_dT r; exact ⟨a, e, .inr ⟨_, hd⟩⟩
  | _ => cases h
/-- what a dict holds at a key: in the heap, and in what stays -/
theorem dget_op {dx dk : D} {x y : V} (rx : Rep mg H x dx) (rk : Rep mg H y dk) {r : Option D} (h : (∃ ks vs k, dx = .dK ks vs ∧ keyD dk = some k ∧ r = lookD k ks vs) ∨ (∃ ks vs k, dx = .dT ks vs ∧ tkeyD dk = some k ∧ r = lookD k ks vs)) :
    ∃ a o, x = .ref a ∧ DGet H a y o ∧ (r = none → o = none) ∧ ∀ d, r = some d → ∃ v, o = some v ∧ ∀ G : Hp, Le G H → Rep mg G x dx → Rep mg G v d := by
  rcases h with ⟨ks, vs, k, e1, hk, er⟩ | ⟨ks, vs, k, e1, hk, er⟩
  · subst e1; subst er
    obtain ⟨a, ws, ea, hl, hd, hr⟩ := rep_dK rx
    subst ea
    refine ⟨a, valV (ks.zip ws) k, rfl, .inl ⟨_, k, hd, key_rep hk rk, rfl⟩, fun z => look_none hl hr z, fun d z => ?_⟩
    obtain ⟨v, e1, _⟩ := look_val hl hr z
    refine ⟨v, e1, fun G le r => ?_⟩
    obtain ⟨a', vs', e', hl', g1, g2⟩ := rep_dK r
    cases e'
    have hz := rdK_inj hd (le.rd g1)
    obtain ⟨v', e3, e4⟩ := look_val hl' g2 z
    rw [← hz, e1] at e3; cases e3
    exact e4
  · subst e1; subst er
    obtain ⟨a, ws, ea, hl, hd, hr⟩ := rep_dT rx
    subst ea
    obtain ⟨b, e2, hb⟩ := tkey_rep hk rk
    refine ⟨a, valV (ks.zip ws) k, rfl, .inr ⟨_, k, b, hd, e2, hb, rfl⟩, fun z => look_none hl hr z, fun d z => ?_⟩
    obtain ⟨v, e1, _⟩ := look_val hl hr z
    refine ⟨v, e1, fun G le r => ?_⟩
    obtain ⟨a', vs', e', hl', g1, g2⟩ := rep_dT r
    cases e'
    have hz := rdT_inj hd (le.rd g1)
    obtain ⟨v', e3, e4⟩ := look_val hl' g2 z
    rw [← hz, e1] at e3; cases e3
    exact e4
theorem get1_inv {dx dk d : D} (h : getD' dx [dk] = some d) : ∃ r : Option D, ((∃ ks vs k, dx = .dK ks vs ∧ keyD dk = some k ∧ r = lookD k ks vs) ∨ (∃ ks vs k, dx = .dT ks vs ∧ tkeyD dk = some k ∧ r = lookD k ks vs)) ∧ d = r.getD .non := by
  cases dx with
  | dK ks vs =>
    have h : (keyD dk).map (fun k => (lookD k ks vs).getD .non) = some d := h
    cases hk : keyD dk with
    | none => rw [hk] at h; cases h
    | some k => rw [hk] at h; cases h; exact ⟨_, .inl ⟨ks, vs, k, rfl, rfl, rfl⟩, rfl⟩
  | dT ks vs =>
    have h : (tkeyD dk).map (fun k => (lookD k ks vs).getD .non) = some d := h
    cases hk : tkeyD dk with
    | none => rw [hk] at h; cases h
    | some k => rw [hk] at h; cases h; exact ⟨_, .inr ⟨ks, vs, k, rfl, rfl, rfl⟩, rfl⟩
  | _ => cases h
theorem get2_inv {dx dk dd d : D} (h : getD' dx [dk, dd] = some d) : ∃ r : Option D, ((∃ ks vs k, dx = .dK ks vs ∧ keyD dk = some k ∧ r = lookD k ks vs) ∨ (∃ ks vs k, dx = .dT ks vs ∧ tkeyD dk = some k ∧ r = lookD k ks vs)) ∧ d = r.getD dd := by
  cases dx with
  | dK ks vs =>
    have h : (keyD dk).map (fun k => (lookD k ks vs).getD dd) = some d := h
    cases hk : keyD dk with
    | none => rw [hk] at h; cases h
    | some k => rw [hk] at h; cases h; exact ⟨_, .inl ⟨ks, vs, k, rfl, rfl, rfl⟩, rfl⟩
  | dT ks vs =>
    have h : (tkeyD dk).map (fun k => (lookD k ks vs).getD dd) = some d := h
    cases hk : tkeyD dk with
    | none => rw [hk] at h; cases h
    | some k => rw [hk] at h; cases h; exact ⟨_, .inr ⟨ks, vs, k, rfl, rfl, rfl⟩, rfl⟩
  | _ => cases h
theorem plain_back1 {p : Pos} {a : Expr} {env : Env} (h : plainE a = true) : backTo p (starEach [a] env) = [(false, eval a env)] := by
  rw [plain_star h]; rfl
theorem plain_back2 {p : Pos} {a b : Expr} {env : Env} (h : plainE a = true) (h' : plainE b = true) : backTo p (starEach [a, b] env) = [(false, eval a env), (false, eval b env)] := by
  rw [plain_star h, plain_star h']; rfl
theorem m1_of {o a : Expr} {m : Str} {apos cpos : Pos} (ho : plainE o = true) (ha : plainE a = true) (hl : (apos.endLine == cpos.line) = true) : M1 X o m apos a cpos :=
  ⟨plain_base ho, by rw [plain_back1 ha]; rfl, hl, plain_back1 ha⟩
theorem m2_of {o a b : Expr} {m : Str} {apos cpos : Pos} (ho : plainE o = true) (ha : plainE a = true) (hb : plainE b = true) (hl : (apos.endLine == cpos.line) = true) : M2 X o m apos a b cpos :=
  ⟨plain_base ho, by rw [plain_back2 ha hb]; rfl, hl, plain_back2 ha hb⟩
theorem ok_get1 (hu : X.A.units + 64 < cLine) {apos cpos : Pos} {o a : Expr} {O A : Mp.E} (ho : OkE mg e W X Φ o O) (ha : OkE mg e W X Φ a A) (hl : (apos.endLine == cpos.line) = true) :
    OkE mg e W X Φ (.Call (.Attribute o "get" apos) [a] [] cpos) (.get O [A]) := by
  refine Ok3.ofX rfl rfl ?_
  refine PE.of (pe_dget1 (by omega) ho.x ha.brw (m1_of ho.pl ha.pl hl)) fun σ H Q q => ?_
  obtain ⟨env, F, T, f, h⟩ := rdX_of q
  rw [iteK] at h
  refine bX KX.grows f h fun F1 H1 dx x g1 f1 rx fx h => ?_
  obtain ⟨z, h⟩ := RW.okIf.mp h
  obtain ⟨p, ep, isd⟩ := isD_rep z rx
  subst ep
  refine ⟨p, rfl, isd, ?_⟩
  have h : RW ((ev Φ A false env >>= fun d => seqR [] >>= fun r => pure (d :: r)) >>= fun ds => ofO (getD' dx ds)) _ _ := h
  rw [bind_assoc'] at h
  refine bX (b := true) KX.grows f1 h fun F2 H2 dk y g2 f2 rk _ h => ?_
  obtain ⟨d, ed, q⟩ := RW_ofO.mp (show RW (ofO (getD' dx [dk])) _ _ from h)
  obtain ⟨r, hr, er⟩ := get1_inv ed
  obtain ⟨p', o, ep, g, hn, hs⟩ := dget_op (Rep.up g2 rx) rk hr
  cases ep
  refine ⟨o, g, ?_⟩
  cases r with
  | none =>
    rw [hn rfl]
    subst er
    exact KX f2.le q (by unfold Rep; rfl) fun _ => by unfold Rep; rfl
  | some d' =>
    obtain ⟨v, ev, hv⟩ := hs d' rfl
    rw [ev]
    subst er
    exact KX f2.le q (hv H2 (Le.refl _) (Rep.up g2 rx)) fun z => hv F2 f2.le (Rep.grow g2 (fx z))
theorem ok_get2 (hu : X.A.units + 64 < cLine) {apos cpos : Pos} {o a b : Expr} {O A B : Mp.E} (ho : OkE mg e W X Φ o O) (ha : OkE mg e W X Φ a A) (hb : OkE mg e W X Φ b B) (nb : bor B = false) (hl : (apos.endLine == cpos.line) = true) :
    OkE mg e W X Φ (.Call (.Attribute o "get" apos) [a, b] [] cpos) (.get O [A, B]) := by
  refine Ok3.ofX rfl rfl ?_
  refine PE.of (pe_dget2 (by omega) ho.x ha.brw (PE.of (hb.own nb) rdE_zero) (m2_of ho.pl ha.pl hb.pl hl)) fun σ H Q q => ?_
  obtain ⟨env, F, T, f, h⟩ := rdX_of q
  rw [iteK] at h
  refine bX KX.grows f h fun F1 H1 dx x g1 f1 rx fx h => ?_
  obtain ⟨z, h⟩ := RW.okIf.mp h
  obtain ⟨p, ep, isd⟩ := isD_rep z rx
  subst ep
  refine ⟨p, rfl, isd, ?_⟩
  have h : RW ((ev Φ A false env >>= fun d => (ev Φ B false env >>= fun d' => seqR [] >>= fun r => pure (d' :: r)) >>= fun r => pure (d :: r)) >>= fun ds => ofO (getD' dx ds)) _ _ := h
  rw [bind_assoc'] at h
  refine bX (b := true) KX.grows f1 h fun F2 H2 dk y g2 f2 rk _ h => ?_
  rw [bind_assoc', bind_assoc'] at h
  refine bX (b := false) KX.grows f2 h fun F3 H3 dd w g3 f3 rd fd h => ?_
  obtain ⟨d, ed, q⟩ := RW_ofO.mp (show RW (ofO (getD' dx [dk, dd])) _ _ from h)
  obtain ⟨r, hr, er⟩ := get2_inv ed
  obtain ⟨p', o, ep, g, hn, hs⟩ := dget_op (Rep.up g3 (Rep.up g2 rx)) (Rep.up g3 rk) hr
  cases ep
  refine ⟨o, g, ?_⟩
  cases r with
  | none =>
    rw [hn rfl]
    subst er
    exact KX f3.le q rd fun _ => fd rfl
  | some d' =>
    obtain ⟨v, ev, hv⟩ := hs d' rfl
    rw [ev]
    subst er
    exact KX f3.le q (hv H3 (Le.refl _) (Rep.up g3 (Rep.up g2 rx))) fun z => hv F3 f3.le (Rep.grow g3 (Rep.grow g2 (fx z)))

/-! ### methods of texts and of lists -/
theorem strs_rep : ∀ {xs : List D} {ys : List Str} {vs : List V}, strsD xs = some ys → Reps mg H vs xs → vs = ys.map V.str
  | [], ys, vs, h, r => by cases h; unfold Reps at r; exact r
  | d :: ds, ys, vs, h, r => by
    unfold Reps at r
    obtain ⟨v, t, ev, a, b⟩ := r
    subst ev
    cases d with
    | str s =>
      have h : (strsD ds).map (s :: ·) = some ys := h
      cases hs : strsD ds with
      | none => rw [hs] at h; cases h
      | some l => rw [hs] at h; cases h; rw [rep_str a, strs_rep hs b]; rfl
    | _ => cases h
theorem reps_strs (F : Hp) : ∀ ys : List Str, Reps mg F (ys.map V.str) (ys.map D.str)
  | [] => Reps.nil
  | y :: ys => Reps.cons (by unfold Rep; rfl) (reps_strs F ys)
theorem reps_ints (F : Hp) : ∀ ys : List Int, Reps mg F (ys.map V.int) (ys.map D.int)
  | [] => Reps.nil
  | y :: ys => Reps.cons (by unfold Rep; rfl) (reps_ints F ys)
theorem ok_join {apos cpos : Pos} {o a : Expr} {O A : Mp.E} (ho : OkE mg e W X Φ o O) (ha : OkE mg e W X Φ a A) (hl : (apos.endLine == cpos.line) = true) :
    OkE mg e W X Φ (.Call (.Attribute o "join" apos) [a] [] cpos) (.mth .join O [A]) := by
  refine Ok3.ofE rfl rfl ?_
  have okA : OkEs mg e W X Φ [a] [A] := ⟨ha, True.intro⟩
  refine PE.of (pe_bm F.plainAttrs_str F.slot_str_join F.type_str_join mt_join ho.brw (r_args okA) (plain_base ho.pl) (by rw [plain_back1 ha.pl]; rfl) hl (plain_star ha.pl) (by rfl)) fun σ H Q ⟨env, F, T, f, h⟩ => ?_
  refine bX (b := true) KE.grows f h fun F1 H1 dx x g1 f1 rx fx h => ?_
  obtain ⟨z, h⟩ := RW.okIf.mp h
  cases dx with
  | str s =>
    have := rep_str rx; subst this
    refine ⟨rfl, bA KE.grows f1 h fun F2 H2 ds xs g2 f2 rs h => ?_⟩
    obtain ⟨d, ed, q⟩ := RW_ofO.mp h
    match ds, ed with
    | [.lst ys], ed =>
      have ed : ((strsD ys).bind fun zs => if ((zs.map Str.length).sum + zs.length * s.length) ≤ 16777216 then some (D.str (Txt.join s zs)) else none) = some d := ed
      cases hz : strsD ys with
      | none => rw [hz] at ed; cases ed
      | some zs =>
        rw [hz] at ed
        have ed : (if ((zs.map Str.length).sum + zs.length * s.length) ≤ 16777216 then some (D.str (Txt.join s zs)) else none) = some d := ed
        split at ed
        · rename_i hle
          cases ed
          have rr := RepM.reps f2.le rs
          unfold Reps at rr
          obtain ⟨v, t, e1, rv, rt⟩ := rr
          unfold Reps at rt
          subst rt; subst e1
          obtain ⟨p, vs, ev, h1, h2⟩ := rep_lst rv
          subst ev
          refine ⟨s, p, zs, rfl, rfl, .inl (SqL.of (by rw [← strs_rep hz h2]; exact h1)), hle, q.str f2.le⟩
        · cases ed
  | _ => cases z
theorem ok_split {apos cpos : Pos} {o a : Expr} {O A : Mp.E} (ho : OkE mg e W X Φ o O) (ha : OkE mg e W X Φ a A) (hl : (apos.endLine == cpos.line) = true) :
    OkE mg e W X Φ (.Call (.Attribute o "split" apos) [a] [] cpos) (.mth .split O [A]) := by
  refine Ok3.ofE rfl rfl ?_
  have okA : OkEs mg e W X Φ [a] [A] := ⟨ha, True.intro⟩
  refine PE.of (pe_bm F.plainAttrs_str F.slot_str_split F.type_str_split mt_split ho.brw (r_args okA) (plain_base ho.pl) (by rw [plain_back1 ha.pl]; rfl) hl (plain_star ha.pl) (by rfl)) fun σ H Q ⟨env, F, T, f, h⟩ => ?_
  refine bX (b := true) KE.grows f h fun F1 H1 dx x g1 f1 rx fx h => ?_
  obtain ⟨z, h⟩ := RW.okIf.mp h
  cases dx with
  | str s =>
    have := rep_str rx; subst this
    refine ⟨rfl, bA KE.grows f1 h fun F2 H2 ds xs g2 f2 rs h => ?_⟩
    obtain ⟨d, ed, q⟩ := RW_ofO.mp h
    match ds, ed with
    | [.str b], ed =>
      have ed : (if (b.length == 0) = false ∧ s.length + 2 ≤ sizeLine then some (strL (Txt.split s b)) else none) = some d := ed
      split at ed
      · rename_i hle
        cases ed
        have rr := RepM.reps f2.le rs
        unfold Reps at rr
        obtain ⟨v, t, e1, rv, rt⟩ := rr
        unfold Reps at rt
        subst rt; subst e1
        rw [rep_str rv]
        exact ⟨s, b, rfl, rfl, hle.1, hle.2, fun p np => KE.lst q f2.le np (reps_strs _ _)⟩
      · cases ed
  | _ => cases z

/-! ### f-strings -/
theorem ok_fv {pos : Pos} {a : Expr} {A : Mp.E} (ha : OkE mg e W X Φ a A) : OkE mg e W X Φ (.FormattedValue a (-1) none pos) (.fv A) := by
  refine Ok3.ofE rfl rfl (PE.of (pe_fmt ha.brw) fun σ H Q ⟨env, F, T, f, h⟩ => ?_)
  refine bX (b := true) KE.grows f h fun F1 H1 dx x g1 f1 rx fx h => ?_
  obtain ⟨d, ed, q⟩ := RW_ofO.mp h
  cases dx with
  | str s =>
    have ed : (if s.length ≤ sizeLine then some (D.str s) else none) = some d := ed
    split at ed
    · rename_i z; cases ed; exact .inl ⟨s, rep_str rx, z, q.str f1.le⟩
    · cases ed
  | int i =>
    have ed : (if i.natAbs.log2 < 1920 then some (D.str (toString i)) else none) = some d := ed
    split at ed
    · rename_i z; cases ed; exact .inr ⟨i, rep_int rx, z, q.str f1.le⟩
    · cases ed
  | _ => cases ed
theorem r_fst : ∀ {exs : List Expr} {Es : List Mp.E}, OkEs mg e W X Φ exs Es → ∃ ts, PJ X exs ts ∧ ∀ {env : Sls} {F H : Hp} {T : Nat → List Addr} {σ : L2.St} {acc : Str} {Q : VK}, Frm mg e env F σ H T →
    RW (fstGo acc (evs Φ Es false env)) (KE mg 0 Q F H) (EX mg W σ F H) → tJs ts acc σ H (fun out H1 => Q (.str out) H1)
  | [], [], _ => ⟨[], .nil, fun {env F H T σ acc Q} f h => KE.str (show KE mg 0 Q F H (.str acc) from h) f.le⟩
  | ex :: exs, E :: Es, ok => by
    obtain ⟨ts, h1, h2⟩ := r_fst ok.2
    refine ⟨_, .cons ok.1.brw h1, fun {env F H T σ acc Q} f h => ?_⟩
    refine bX (b := true) KE.grows f h fun F1 H1 dx x g1 f1 rx fx h => ?_
    cases dx with
    | str s =>
      have h : RW (if acc.length + s.length ≤ sizeLine then fstGo (acc ++ s) (evs Φ Es false env) else .bad) _ _ := h
      split at h
      · rename_i z
        refine ⟨s, rep_str rx, ?_, h2 f1 h⟩
        have : (acc ++ s).length = acc.length + s.length := by
          show (acc.cps ++ s.cps).size = _
          rw [Array.size_append]; rfl
        omega
      · exact h.elim
    | _ => exact h.elim
  | [], _ :: _, h => h.elim
  | _ :: _, [], h => h.elim
theorem ok_fst {pos : Pos} {a b : Expr} {exs : List Expr} {Es : List Mp.E} (ok : OkEs mg e W X Φ (a :: b :: exs) Es) : OkE mg e W X Φ (.JoinedStr (a :: b :: exs) pos) (.fst Es) := by
  obtain ⟨ts, h1, h2⟩ := r_fst ok
  exact Ok3.ofE rfl rfl (PE.of (pe_joined h1) fun σ H Q ⟨env, F, T, f, h⟩ => h2 f h)

/-! ### names, constants -/
theorem ok_loc {x : Str} {i : Nat} {pos : Pos} (hN : X.N[i]? = some x) (hv : Vis X.env.scope x) (hd : (x == ("__debug__" : Str)) = false) (hcd : (x == ("__classdict__" : Str)) = false) : OkE mg e W X Φ (.Name x pos) (.loc i) :=
  Ok3.ofE rfl rfl (r_loc hN hv hd hcd)
theorem ok_lb {x : Str} {i : Nat} {pos : Pos} (hN : X.N[i]? = some x) (hv : Vis X.env.scope x) (hd : (x == ("__debug__" : Str)) = false) (hcd : (x == ("__classdict__" : Str)) = false) : OkE mg e W X Φ (.Name x pos) (.lb i) :=
  Ok3.ofX (b := true) rfl rfl (r_lb hN hv hd hcd)
theorem ok_int {i : Int} {j : Nat} {pos : Pos} : OkE mg e W X Φ (.Constant (.int i) j pos) (.con (.int i)) := Ok3.ofE rfl rfl (r_const pe_int (fun _ _ _ q => q) rfl fun _ => by unfold Rep; rfl)
theorem ok_bl {i : Bool} {j : Nat} {pos : Pos} : OkE mg e W X Φ (.Constant (.bool i) j pos) (.con (.bl i)) := Ok3.ofE rfl rfl (r_const pe_bl (fun _ _ _ q => q) rfl fun _ => by unfold Rep; rfl)
theorem ok_non {j : Nat} {pos : Pos} : OkE mg e W X Φ (.Constant .none j pos) (.con .non) := Ok3.ofE rfl rfl (r_const pe_non (fun _ _ _ q => q) rfl fun _ => by unfold Rep; rfl)
theorem ok_str {i : Str} {j : Nat} {pos : Pos} : OkE mg e W X Φ (.Constant (.str i) j pos) (.con (.str i)) := Ok3.ofE rfl rfl (r_const pe_str (fun _ _ _ q => q) rfl fun _ => by unfold Rep; rfl)
/-- a number or a text of the module -/
theorem ok_glo {x : Str} {d : D} {v : V} {u : Value} {n : String} {pos : Pos} (hg : Gl X x) (hm : X.mg x = some u) (r : RelV v u) (rd : ∀ F, Rep mg F v d) (hd : isScal d = true) (hdb : (x == ("__debug__" : Str)) = false) : OkE mg e W X Φ (.Name x pos) (.glo n d) :=
  Ok3.ofE rfl rfl (r_const (pe_glob hg hm r hdb) (fun _ _ _ q => q) hd rd)
theorem ok_atm {ex : Expr} {A : Mp.E} (ha : OkE mg e W X Φ ex A) (tr : truthE ex = true) : OkE mg e W X Φ ex (.atm A) := by
  refine Ok3.ofE ha.pl tr (PE.of ha.brw fun σ H Q ⟨env, F, T, f, h⟩ => ?_)
  refine bX (b := true) KE.grows f h fun F1 H1 dx x g1 f1 rx fx h => ?_
  obtain ⟨z, q⟩ := RW.okIf.mp h
  exact KE.at q f1.le (scal_atom z) (rep_scal z rx)
theorem ok_neg {pos : Pos} {a : Expr} {A : Mp.E} (ha : OkE mg e W X Φ a A) : OkE mg e W X Φ (.UnaryOp .USub a pos) (.neg A) := Ok3.ofE rfl rfl (r_neg ha.x)
theorem ok_bin {pos : Pos} {o : Operator} {a b : Expr} {A B : Mp.E} (ha : OkE mg e W X Φ a A) (hb : OkE mg e W X Φ b B) : OkE mg e W X Φ (.BinOp a o b pos) (.bin o A B) := Ok3.ofE rfl rfl (r_bin ha.x hb.x)
theorem ok_cmpE (hu : X.A.units + 64 < cLine) {pos : Pos} {o : CmpOp} {a b : Expr} {A B : Mp.E} (ha : OkE mg e W X Φ a A) (hb : OkE mg e W X Φ b B) : OkE mg e W X Φ (.Compare a [o] [b] pos) (.cmp o A B) := ok_cmp hu ha.x hb.x hb.pl
theorem ok_notE {pos : Pos} {a : Expr} {A : Mp.E} (ha : OkE mg e W X Φ a A) : OkE mg e W X Φ (.UnaryOp .Not a pos) (.not A) := by
  have h := ok_not (pos := pos) ha
  have e1 : (fun (t : Bool) env => ev Φ (.not A) t env) = fun t env => match t with | true => ev Φ A true env >>= fun x => ofO (notD x) | false => fin true (ev Φ A false env) >>= fun x => ofO (notD x) := by
    funext t env
    cases t <;> rfl
  unfold OkE
  rw [e1]
  exact h
end
end Mp
/-! calls of built-ins -/
namespace Mp
open PySem PySem.Spec PyProof.Rows L2 PySem.SeqAt

section
variable {mg : Gd} {e : Ent} {env : Sls} {F F' F1 H H' H1 : Hp} {σ : L2.St} {T : Nat → List Addr} {W : WX} {α β : Type} {X : Cx} {Φ : String → List D → R D}
/-- what a built-in does with values -/
def BiR (mg : Gd) (X : Cx) (b : Bi) (f : Value) : Prop := ∀ (F H : Hp) (bs : List Bool) (xs : List V) (ds : List D) (d : D) (Q : VK), Le F H → RepM mg bs F H xs ds → biD b (bs.any id) ds = some d → KE mg 1 Q F H d → anyCall X f xs H Q
theorem ok_biB {b : Bi} {x : Str} {id : String} {p pos : Pos} {a : Expr} {exs : List Expr} {Es : List Mp.E} (hr : BiR mg X b (.builtin id)) (hg : Gl X x) (hm : X.mg x = none) (hv : bootBuiltins x = some (.builtin id)) (hn : x ≠ "__name__") (hdb : (x == ("__debug__" : Str)) = false) (hs : (x != ("super" : Str)) = true)
    (ok : OkEs mg e W X Φ (a :: exs) Es) : OkE mg e W X Φ (.Call (.Name x p) (a :: exs) [] pos) (.bi b Es) := by
  have pl := ok.plain
  rw [List.all_cons, Bool.and_eq_true] at pl
  refine Ok3.ofE hs rfl (PE.of (pe_callB (anyCall_ok _) hg hm hv (r_args ok) hn hdb (plain_star pl.1) (plain_any pl.2)) fun σ H Q ⟨env, F, T, f, h⟩ => ?_)
  refine bA KE.grows f h fun F1 H1 ds xs g1 f1 rs h => ?_
  obtain ⟨d, ed, q⟩ := RW_ofO.mp h
  exact hr F1 H1 _ xs ds d Q f1.le rs (by rw [any_map]; exact ed) q
theorem ok_biT {b : Bi} {x : Str} {id : String} {p pos : Pos} {a : Expr} {exs : List Expr} {Es : List Mp.E} (hr : BiR mg X b (.type id)) (hg : Gl X x) (hm : X.mg x = none) (hv : bootBuiltins x = some (.type id)) (hn : x ≠ "__name__") (hdb : (x == ("__debug__" : Str)) = false) (hs : (x != ("super" : Str)) = true)
    (ok : OkEs mg e W X Φ (a :: exs) Es) : OkE mg e W X Φ (.Call (.Name x p) (a :: exs) [] pos) (.bi b Es) := by
  have pl := ok.plain
  rw [List.all_cons, Bool.and_eq_true] at pl
  refine Ok3.ofE hs rfl (PE.of (pe_callTy (anyCall_ok _) hg hm hv (r_args ok) hn hdb (plain_star pl.1) (plain_any pl.2)) fun σ H Q ⟨env, F, T, f, h⟩ => ?_)
  refine bA KE.grows f h fun F1 H1 ds xs g1 f1 rs h => ?_
  obtain ⟨d, ed, q⟩ := RW_ofO.mp h
  exact hr F1 H1 _ xs ds d Q f1.le rs (by rw [any_map]; exact ed) q
theorem repM1 {bs : List Bool} {xs : List V} {d : D} (le : Le F H) (r : RepM mg bs F H xs [d]) : ∃ x, xs = [x] ∧ Rep mg H x d ∧ (bs.any id = false → Rep mg F x d) := by
  have h := RepM.reps le r
  unfold Reps at h
  obtain ⟨v, t, e1, rv, rt⟩ := h
  unfold Reps at rt
  subst rt; subst e1
  refine ⟨v, rfl, rv, fun z => ?_⟩
  have h := RepM.nobor z r
  unfold Reps at h
  obtain ⟨v', t', e1, rv', _⟩ := h
  cases e1
  exact rv'
theorem repM2 {bs : List Bool} {xs : List V} {d d' : D} (le : Le F H) (r : RepM mg bs F H xs [d, d']) : ∃ x y, xs = [x, y] ∧ Rep mg H x d ∧ Rep mg H y d' ∧ (bs.any id = false → Rep mg F x d ∧ Rep mg F y d') := by
  have h := RepM.reps le r
  unfold Reps at h
  obtain ⟨v, t, e1, rv, rt⟩ := h
  unfold Reps at rt
  obtain ⟨v2, t2, e2, rv2, rt2⟩ := rt
  unfold Reps at rt2
  subst rt2; subst e2; subst e1
  refine ⟨v, v2, rfl, rv, rv2, fun z => ?_⟩
  have h := RepM.nobor z r
  unfold Reps at h
  obtain ⟨v', t', e1, rv', h⟩ := h
  cases e1
  unfold Reps at h
  obtain ⟨v', t', e1, rv2', h⟩ := h
  cases e1
  exact ⟨rv', rv2'⟩
theorem call_lenD : CallR X (.builtin "len") (fun xs H Q => ∃ (a : Addr) (kvs : List (Key × V)), xs = [.ref a] ∧ Rd H a (.dK kvs) ∧ Q (.int (kvs.length : Nat)) H) := by
  intro pins s σ H xs us Q I r ⟨a, kvs, ex, hd, q⟩
  subst ex
  rw [Vals.ref1 r]
  exact d_len I hd fun t s' I' => ⟨.int (kvs.length : Nat), H, I', ⟨_, rfl⟩, q⟩
theorem bi_len (hk : mg.K = X.K) : BiR mg X .len (.builtin "len") := by
  intro F H bs xs ds d Q le r h q
  match ds, h with
  | [dx], h =>
    obtain ⟨x, ex, rx, _⟩ := repM1 le r
    subst ex
    have h : (lenD dx).map (fun n => D.int (n : Nat)) = some d := h
    cases dx with
    | str s =>
      have h : (if s.length ≤ sizeLine then some s.length else none).map (fun n => D.int (n : Nat)) = some d := h
      split at h
      · rename_i z; cases h; exact ⟨_, call_len_str, s, by rw [rep_str rx], z, q.int le⟩
      · cases h
    | lst ys =>
      cases h
      obtain ⟨a, vs, ea, h1, h2⟩ := rep_lst rx
      subst ea
      exact ⟨_, call_len_seq, a, vs, rfl, .inl (SqL.of h1), by rw [h2.length]; exact q.int le⟩
    | tup ys =>
      cases h
      obtain ⟨a, vs, ea, h1, h2⟩ := rep_tup rx
      subst ea
      exact ⟨_, call_len_seq, a, vs, rfl, .inr (SqT.of h1), by rw [h2.length]; exact q.int le⟩
    | dK ks ys =>
      cases h
      obtain ⟨a, vs, ea, hl, h1, h2⟩ := rep_dK rx
      subst ea
      refine ⟨_, call_lenD, a, _, rfl, h1, ?_⟩
      rw [List.length_zip, ← hl, Nat.min_self]; exact q.int le
    | scr ns =>
      cases h
      unfold Rep at rx
      obtain ⟨a, ea, h1⟩ := rx
      subst ea
      refine ⟨_, call_len_seq, a, ns.map V.int, rfl, .inl (hk ▸ h1), ?_⟩
      rw [List.length_map]; exact q.int le
    | _ => cases h
theorem bi_abs : BiR mg X .abs (.builtin "abs") := by
  intro F H bs xs ds d Q le r h q
  match ds, h with
  | [.int i], h =>
    obtain ⟨x, ex, rx, _⟩ := repM1 le r
    subst ex
    cases h
    exact ⟨_, call_abs, i, by rw [rep_int rx], q.int le⟩
theorem bi_int : BiR mg X .int (.type "int") := by
  intro F H bs xs ds d Q le r h q
  match ds, h with
  | [.int i], h =>
    obtain ⟨x, ex, rx, _⟩ := repM1 le r
    subst ex
    cases h
    exact ⟨_, call_int1, .inl ⟨i, by rw [rep_int rx], q.int le⟩⟩
  | [.bl i], h =>
    obtain ⟨x, ex, rx, _⟩ := repM1 le r
    subst ex
    cases h
    exact ⟨_, call_int1, .inr ⟨i, by rw [rep_bl rx], q.int le⟩⟩
theorem bi_str : BiR mg X .str (.type "str") := by
  intro F H bs xs ds d Q le r h q
  match ds, h with
  | [.int i], h =>
    obtain ⟨x, ex, rx, _⟩ := repM1 le r
    subst ex
    have h : (if i.natAbs.log2 < 1920 then some (D.str (toString i)) else none) = some d := h
    split at h
    · rename_i z; cases h; exact ⟨_, call_str_int, i, by rw [rep_int rx], z, q.str le⟩
    · cases h
theorem keys_reps (F : Hp) : ∀ ks : List Key, Reps mg F (ks.map kV) (ks.map kD)
  | [] => Reps.nil
  | .inl i :: ks => Reps.cons (by show Rep mg F (.int i) (.int i); unfold Rep; rfl) (keys_reps F ks)
  | .inr i :: ks => Reps.cons (by show Rep mg F (.str i) (.str i); unfold Rep; rfl) (keys_reps F ks)
theorem zip_keys {ks : List Key} {vs : List V} (h : ks.length = vs.length) : ((ks.zip vs).map fun kv => kV kv.1) = ks.map kV := by
  have : ((ks.zip vs).map (·.1)) = ks := List.map_fst_zip (by omega)
  rw [← this]
  rw [List.map_map, this]
  rfl
theorem bi_list (hc : X.calm = true) : BiR mg X .list (.type "list") := by
  intro F H bs xs ds d Q le r h q
  match ds, h with
  | [.lst ys], h =>
    obtain ⟨x, ex, rx, rf⟩ := repM1 le r
    subst ex
    have h : (if shr (bs.any id) ys then some (D.lst ys) else none) = some d := h
    split at h
    · rename_i z; cases h
      obtain ⟨a, vs, ea, h1, h2⟩ := rep_lst rx
      subst ea
      exact ⟨_, call_list_of, a, vs, rfl, .inl (SqL.of h1), fun p np => q.lst le np (shr_reps z le h1 h2 rf)⟩
    · cases h
  | [.tup ys], h =>
    obtain ⟨x, ex, rx, rf⟩ := repM1 le r
    subst ex
    have h : (if bs.any id then none else some (D.lst ys)) = some d := h
    split at h
    · cases h
    · rename_i z; cases h
      obtain ⟨a, vs, ea, h1, h2⟩ := rep_tup (rf (by simpa using z))
      subst ea
      exact ⟨_, call_list_of, a, vs, rfl, .inr (SqT.of (le.tup h1)), fun p np => q.lst le np h2⟩
  | [.dK ks ys], h =>
    obtain ⟨x, ex, rx, rf⟩ := repM1 le r
    subst ex
    cases h
    obtain ⟨a, vs, ea, hl, h1, h2⟩ := rep_dK rx
    subst ea
    refine ⟨_, call_listD hc, a, _, rfl, h1, fun p np => ?_⟩
    rw [zip_keys hl]
    exact q.lst le np (keys_reps _ _)
theorem bi_tuple : BiR mg X .tuple (.type "tuple") := by
  intro F H bs xs ds d Q le r h q
  match ds, h with
  | [.lst ys], h =>
    obtain ⟨x, ex, rx, rf⟩ := repM1 le r
    subst ex
    have h : (if shr (bs.any id) ys then some (D.tup ys) else none) = some d := h
    split at h
    · rename_i z; cases h
      obtain ⟨a, vs, ea, h1, h2⟩ := rep_lst rx
      subst ea
      exact ⟨_, call_tuple_of, a, vs, rfl, .inl ⟨SqL.of h1, fun p np => q.tup le np (shr_reps z le h1 h2 rf)⟩⟩
    · cases h
  | [.tup ys], h =>
    obtain ⟨x, ex, rx, rf⟩ := repM1 le r
    subst ex
    have h : (if bs.any id then none else some (D.tup ys)) = some d := h
    split at h
    · cases h
    · rename_i z; cases h
      have rr := rf (by simpa using z)
      obtain ⟨a, vs, ea, h1, h2⟩ := rep_tup rr
      subst ea
      exact ⟨_, call_tuple_of, a, vs, rfl, .inr ⟨SqT.of (le.tup h1), q.at le rfl rr⟩⟩
theorem bi_dict : BiR mg X .dict (.type "dict") := by
  intro F H bs xs ds d Q le r h q
  match ds, h with
  | [.dK ks ys], h =>
    obtain ⟨x, ex, rx, rf⟩ := repM1 le r
    subst ex
    have h : (if shr (bs.any id) ys then some (D.dK ks ys) else none) = some d := h
    split at h
    · rename_i z; cases h
      obtain ⟨a, vs, ea, hl, h1, h2⟩ := rep_dK rx
      subst ea
      have hr : Reps mg F vs ys := by
        cases hb : bs.any id with
        | true => rw [hb] at z; exact reps_scal z h2
        | false =>
          obtain ⟨a', vs', ea', hl', g1, g2⟩ := rep_dK (rf hb)
          cases ea'
          have hz := rdK_inj h1 (le.rd g1)
          have l1 : (ks.zip vs).map (·.2) = vs := List.map_snd_zip (by omega)
          have l2 : (ks.zip vs').map (·.2) = vs' := List.map_snd_zip (by omega)
          have : vs = vs' := by rw [← l1, hz, l2]
          subst this
          exact g2
      exact ⟨_, call_dictD, a, _, rfl, h1, fun p np => q _ F _ [p] (Grow.fresh le np) (own_dK (le.none np) hl upd_same hr) (sing_new np)⟩
    · cases h
theorem ints_rep : ∀ {xs : List D} {ys : List Int} {vs : List V}, intsD xs = some ys → Reps mg H vs xs → vs = ys.map V.int
  | [], ys, vs, h, r => by cases h; unfold Reps at r; exact r
  | d :: ds, ys, vs, h, r => by
    unfold Reps at r
    obtain ⟨v, t, ev, a, b⟩ := r
    subst ev
    cases d with
    | int s =>
      have h : (intsD ds).map (s :: ·) = some ys := h
      cases hs : intsD ds with
      | none => rw [hs] at h; cases h
      | some l => rw [hs] at h; cases h; rw [rep_int a, ints_rep hs b]; rfl
    | _ => cases h
theorem bls_rep : ∀ {xs : List D} {ys : List Bool} {vs : List V}, blsD xs = some ys → Reps mg H vs xs → vs = ys.map V.bl
  | [], ys, vs, h, r => by cases h; unfold Reps at r; exact r
  | d :: ds, ys, vs, h, r => by
    unfold Reps at r
    obtain ⟨v, t, ev, a, b⟩ := r
    subst ev
    cases d with
    | bl s =>
      have h : (blsD ds).map (s :: ·) = some ys := h
      cases hs : blsD ds with
      | none => rw [hs] at h; cases h
      | some l => rw [hs] at h; cases h; rw [rep_bl a, bls_rep hs b]; rfl
    | _ => cases h
theorem bi_sum (hc : X.calm = true) : BiR mg X .sum (.builtin "sum") := by
  intro F H bs xs ds d Q le r h q
  match ds, h with
  | [.lst ys], h =>
    obtain ⟨x, ex, rx, rf⟩ := repM1 le r
    subst ex
    have h : (intsD ys).map (fun ns => D.int ns.sum) = some d := h
    cases hi : intsD ys with
    | none => rw [hi] at h; cases h
    | some ns =>
      rw [hi] at h; cases h
      obtain ⟨a, vs, ea, h1, h2⟩ := rep_lst rx
      subst ea
      exact ⟨_, cr_sum hc, a, ns, rfl, SqL.of (by rw [← ints_rep hi h2]; exact h1), q.int le⟩
theorem bi_any (hc : X.calm = true) : BiR mg X .any (.builtin "any") := by
  intro F H bs xs ds d Q le r h q
  match ds, h with
  | [.lst ys], h =>
    obtain ⟨x, ex, rx, rf⟩ := repM1 le r
    subst ex
    have h : (blsD ys).map (fun ns => D.bl (ns.any id)) = some d := h
    cases hi : blsD ys with
    | none => rw [hi] at h; cases h
    | some ns =>
      rw [hi] at h; cases h
      obtain ⟨a, vs, ea, h1, h2⟩ := rep_lst rx
      subst ea
      exact ⟨_, cr_any hc, a, ns, rfl, SqL.of (by rw [← bls_rep hi h2]; exact h1), q.bl le⟩
theorem bi_all (hc : X.calm = true) : BiR mg X .all (.builtin "all") := by
  intro F H bs xs ds d Q le r h q
  match ds, h with
  | [.lst ys], h =>
    obtain ⟨x, ex, rx, rf⟩ := repM1 le r
    subst ex
    have h : (blsD ys).map (fun ns => D.bl (ns.all id)) = some d := h
    cases hi : blsD ys with
    | none => rw [hi] at h; cases h
    | some ns =>
      rw [hi] at h; cases h
      obtain ⟨a, vs, ea, h1, h2⟩ := rep_lst rx
      subst ea
      exact ⟨_, cr_all hc, a, ns, rfl, SqL.of (by rw [← bls_rep hi h2]; exact h1), q.bl le⟩
end
end Mp
/-! sets of texts: len(set(xs)) for lists of any texts -/
namespace MpS
open PySem PySem.Spec PyProof.Rows

/-- the texts, each at its first place -/
def firstS (xs : List Str) : List Str := xs.foldl (fun acc x => if x ∈ acc then acc else acc ++ [x]) []
theorem firstS_snoc (xs : List Str) (x : Str) : firstS (xs ++ [x]) = if x ∈ firstS xs then firstS xs else firstS xs ++ [x] := by
  unfold firstS; rw [List.foldl_append]; rfl
/-- read from the right -/
theorem snocRec {α : Type} {p : List α → Prop} (h0 : p []) (h1 : ∀ xs x, p xs → p (xs ++ [x])) : ∀ xs, p xs := fun xs => by
  have q : ∀ ys : List α, p ys.reverse := fun ys => by
    induction ys with
    | nil => exact h0
    | cons y ys ih => rw [List.reverse_cons]; exact h1 _ _ ih
  have := q xs.reverse
  rwa [List.reverse_reverse] at this
theorem firstS_mem (y : Str) : ∀ xs, y ∈ firstS xs ↔ y ∈ xs := snocRec Iff.rfl fun xs x ih => by
  rw [firstS_snoc, List.mem_append, List.mem_singleton, ← ih]
  split
  · rename_i h
    constructor
    · exact .inl
    · rintro (z | z)
      · exact z
      · subst z; exact h
  · rw [List.mem_append, List.mem_singleton]
theorem firstS_nodup : ∀ xs, (firstS xs).Nodup := snocRec List.nodup_nil fun xs x ih => by
  rw [firstS_snoc]
  split
  · exact ih
  · rename_i h
    refine List.nodup_append.mpr ⟨ih, List.nodup_cons.mpr ⟨List.not_mem_nil, List.nodup_nil⟩, fun a ha b hb z => ?_⟩
    rw [List.mem_singleton] at hb
    subst z; subst hb; exact h ha
theorem firstS_le : ∀ xs, (firstS xs).length ≤ xs.length := snocRec (Nat.le_refl _) fun xs x ih => by
  rw [firstS_snoc, List.length_append, List.length_singleton]
  split
  · omega
  · rw [List.length_append, List.length_singleton]; omega
theorem firstS_take {xs : List Str} {i : Nat} (h : i < xs.length) : firstS (xs.take (i + 1)) = if xs.getD i Str.empty ∈ firstS (xs.take i) then firstS (xs.take i) else firstS (xs.take i) ++ [xs.getD i Str.empty] := by
  have e : xs.take (i + 1) = xs.take i ++ [xs.getD i Str.empty] := by
    rw [List.take_add_one, List.getD_eq_getElem?_getD, List.getElem?_eq_getElem h]; rfl
  rw [e, firstS_snoc]
/-- the set at a holds these texts -/
abbrev HasS (P : Program) (w : World) (h : Heap) (a : Addr) (xs : List Str) : Prop := h.SetOf (PySem.strKind P w) a (fun k => decide (k ∈ firstS xs)) (firstS xs).length

section
variable {P : Program} {w : World} {A : Around} {R : Result → Shared → Prop} {J : Addr} {fp wr : List Addr} {G : Array GenState → Array GenState → Prop} {m : Nat} {Pv : Nat → Value → Prop} {St : Nat → Shared → Prop}
theorem keepSet {h h' : Heap} {a : Addr} {xs : List Str} (x : HasS P w h a xs) (k : ∀ o, h.get? a = some o → h'.get? a = some o) : HasS P w h' a xs := by
  obtain ⟨o, es, ep, tb, ho, rest⟩ := x
  exact ⟨o, es, ep, tb, k o ho, rest⟩
/-- the loop that puts a walk's texts into the set at S -/
theorem put_loop (wk : WalksS P w A.in1 J fp wr G m Pv St) (S : Addr) (out : S ∉ fp) (xs : List Str) (len : xs.length = m) (few : m + 1 < scanBound) (val : ∀ i v, Pv i v → ∃ t, v = .str (xs.getD i Str.empty) t) : ∀ (left i : Nat) (st : Shared), m - i = left → i ≤ m → St i st →
    HasS P w st.heap S (xs.take i) → (∀ st', Moved (S :: wr) G st st' → HasS P w st'.heap S xs → R (.ok (.ret .none)) st') → codeAny (model P w) A (.builtin "set.update.loop" ⟨[.ref S, .ref J], []⟩) R st := by
  have outw : S ∉ wr := fun z => out (wk.sub _ z)
  have more : ∀ b ∈ wr, b ∈ S :: wr := fun b z => .tail _ z
  intro left
  induction left with
  | zero =>
    intro i st e le now has fin
    obtain rfl : i = m := Nat.le_antisymm le (Nat.le_of_sub_eq_zero e)
    refine codeAny_builtin F.entry_set_update_loop (?_ : wpAny (model P w) (A.under _) _ _ _ st)
    rw [Around.under_plainId F.plain_set_update_loop _]
    refine wpAny_bind (m := pyNext (.ref J)) (wk.done st _ _ now fun st' mv => ?_)
    refine wpAny_pure (fin st' (mv.mono more) ?_)
    rw [← len, List.take_length] at has
    exact keepSet has fun o q => mv.heap S o outw q
  | succ left ih =>
    intro i st e le now has fin
    have lt : i < m := by omega
    refine codeAny_builtin F.entry_set_update_loop (?_ : wpAny (model P w) (A.under _) _ _ _ st)
    rw [Around.under_plainId F.plain_set_update_loop _]
    refine wpAny_bind (m := pyNext (.ref J)) (wk.item i st _ _ lt now fun v st' pv now' mv => ?_)
    obtain ⟨t, rfl⟩ := val i v pv
    have has' : HasS P w st'.heap S (xs.take i) := keepSet has fun o q => mv.heap S o outw q
    refine wpAny_bind (m := holding [Value.str (xs.getD i Str.empty) t] (setAdd S (.str (xs.getD i Str.empty) t))) (wpAny_holding ?_)
    unfold setAdd
    refine wpAny_holding (wpAny_bind ((PySem.strKind P w).pyHash (strKind_is _ _ _ _) ?_))
    have room : (firstS (xs.take i)).length + 1 < scanBound := by
      have h1 := firstS_le (xs.take i)
      rw [List.length_take] at h1
      omega
    refine wpAny_setAddHashed_of (s := { st' with toks := st'.toks + 1 }) (strKind_is _ _ _ _) rfl has' room fun h2 but new => ?_
    have new' : HasS P w h2 S (xs.take (i + 1)) := by
      refine SetOf_congr new (fun y => ?_) ?_
      · rw [firstS_take (by omega)]
        by_cases z : xs.getD i Str.empty ∈ firstS (xs.take i)
        · rw [if_pos z]
          by_cases y' : y = xs.getD i Str.empty
          · subst y'; rw [decide_eq_true z, Bool.true_or]
          · rw [decide_eq_false y', Bool.or_false]
        · rw [if_neg z]
          simp only [List.mem_append, List.mem_singleton, Bool.decide_or]
      · rw [firstS_take (by omega)]
        by_cases z : xs.getD i Str.empty ∈ firstS (xs.take i)
        · rw [if_pos z, if_pos (decide_eq_true z)]
        · rw [if_neg z, if_neg (by rw [decide_eq_true_eq]; exact z), List.length_append, List.length_singleton]
    refine wpAny_pure ⟨plainId_quiet F.plain_set_update_loop _, ih (i + 1) _ (by omega) lt (wk.frame _ st' _ _ now' (Nat.le_succ _) fun b hb o q => ?_) new' fun st2 mv2 has2 => ?_⟩
    · exact (but.2 b fun z => out (z ▸ hb)).trans q
    · exact fin st2 (Moved.trans wk.gtrans ((mv.mono more).then_heap (Nat.le_succ _) fun b o hb q => (but.2 b fun z => hb (z ▸ List.mem_cons_self)).trans q) mv2) has2
end
section
variable {P : Program} {w : World} {A : Around} {E : Value → Shared → Prop} {st : Shared}
set_option maxHeartbeats 3200000 in
/-- set(xs), xs a list of texts -/
theorem set_texts {l : Addr} {its : Array Value} {xs : List Str} {Q : Value → Shared → Prop} (calm : A.handled = none) (hl : st.heap.IsList l its) (hi : StrsAre its.toList xs) (few : xs.length + 1 < scanBound)
    (next : ∀ (h2 : Heap) (tk : Nat), HasS P w h2 st.heap.objs.size xs → (∀ b o, b < st.heap.objs.size → st.heap.get? b = some o → h2.get? b = some o) → Q (.ref st.heap.objs.size) { st with heap := h2, toks := tk }) :
    wpAny (model P w) A (call (.type "set") [.ref l]) Q E st := by
  obtain ⟨c, tl, mro⟩ := PySem.F.called_set.mro
  have made := PySem.F.called_set.made
  have sub := PySem.F.called_set.sub
  refine wpAny_call (codeAny_of_tree ?_)
  change wpAny (model P w) _ (callAny (.type "set") _) _ _ st
  refine wpAny_pure ⟨Code.quiet_builtin _ (by decide +kernel), codeAny_builtin PySem.F.entry_type_call ?_⟩
  rw [Around.under_plain (weight_type_call_type "set" [.ref l] []) rfl]
  have nt := PySem.F.called_set.notType
  have cc := PySem.F.called_set.canCreate
  have tc := PySem.F.typeCall_set_1 (.ref l)
  repeat (any_goals (first | assumption | wp_step))
  refine codeAny_mono (code_set_new_1 (.ref l) (E := E) (Q₁ := fun v s1 => ∃ led : Bool, v = .ref st.heap.objs.size ∧ s1 = { st with heap := st.heap.push { cls := .type "set", dict := none, data := .set #[] 0 (.fresh 0 0 led) } }) fun led => ⟨led, rfl, rfl⟩) fun r s1 hr => ?_
  cases r with
  | error e => exact hr
  | ok fl =>
    cases fl with
    | next => exact hr.elim
    | brk => exact hr.elim
    | cont => exact hr.elim
    | ret v =>
      obtain ⟨led, rfl, rfl⟩ := hr
      have at' : (st.heap.push { cls := .type "set", dict := none, data := .set #[] 0 (.fresh 0 0 led) }).get? st.heap.objs.size = some { cls := .type "set", dict := none, data := .set #[] 0 (.fresh 0 0 led) } := Heap.get?_push_size _ rfl
      have ty : Shared.TypeIs { st with heap := st.heap.push { cls := .type "set", dict := none, data := .set #[] 0 (.fresh 0 0 led) } } (.ref st.heap.objs.size) "set" := ⟨_, at', rfl⟩
      have il := PySem.F.called_set.init.lookup
      have ib := PySem.F.called_set.init.bind (.ref st.heap.objs.size)
      repeat (any_goals (first | assumption | wp_step))
      refine codeAny_mono (codeAny_call_builtin (R := wants (fun r s2 => r = .none ∧ ∃ h2 tk, s2 = { st with heap := h2, toks := tk } ∧ HasS P w h2 st.heap.objs.size xs ∧ ∀ b u, b < st.heap.objs.size → st.heap.get? b = some u → h2.get? b = some u) E)
        PySem.F.called_set.init.plain PySem.F.entry_set_init (check_set_init_1 ty ?_)) fun r2 s2 hr2 => ?_
      · obtain ⟨⟨ocls, odict, odata, oslots⟩, hol, hcl, nl, hdl⟩ := hl
        obtain rfl : ocls = _ := hcl
        obtain rfl : odata = _ := hdl
        have ll : (st.heap.push { cls := .type "set", dict := none, data := .set #[] 0 (.fresh 0 0 led) }).IsList l its := ⟨_, Heap.get?_push_of_some _ hol, rfl, nl, rfl⟩
        have hol2 : (st.heap.push { cls := .type "set", dict := none, data := .set #[] 0 (.fresh 0 0 led) }).get? l = some _ := Heap.get?_push_of_some _ hol
        have s1 := PySem.F.sub_list_set
        have s2 := PySem.F.sub_list_frozenset
        have ne : (Value.type "list" == Value.type "dict") = false := by decide
        unfold Builtin.«set.__init__» noKeywords Builtin.Frozenset.updateFrom
        generalize hPI : pyIter = PI
        wp_walk
        subst hPI
        refine wpAny_pyIter_list ll ?_
        refine wpAny_bind (wpAny_runValue ?_)
        have lt : l < st.heap.objs.size := Heap.lt_size hol
        have szo : (st.heap.push { cls := .type "set", dict := none, data := .set #[] 0 (.fresh 0 0 led) }).objs.size = st.heap.objs.size + 1 := Heap.size_push _ _
        have far : st.heap.objs.size ∉ [(st.heap.push { cls := .type "set", dict := none, data := .set #[] 0 (.fresh 0 0 led) }).objs.size, l] := by
          rw [szo, List.mem_cons, List.mem_singleton]; exact fun z => z.elim (Nat.ne_of_lt (Nat.lt_succ_self _)) (Nat.ne_of_gt lt)
        have len : xs.length = its.size := by rw [← StrsAre.len_eq hi, Array.length_toList]
        refine put_loop ((Walks.list (by simp [calm]) _ l (by rw [szo]; exact Nat.ne_of_lt (Nat.lt_succ_of_lt lt)) its).toS) st.heap.objs.size far xs len (by omega) (fun i v hv => SS.strs_at hi i v (by rw [Array.getElem?_toList]; exact hv)) (its.size - 0) 0 _ (Nat.sub_zero _ ▸ rfl) (Nat.zero_le _) ⟨⟨_, Heap.get?_push_size _ rfl, rfl, rfl⟩, ll.push _⟩ ?hS ?hR
        case hS =>
          refine SetOf_congr ((setObjOf_fresh (knd := PySem.strKind P w) led).setOf (Heap.get?_push_of_some _ at') (by unfold scanBound; omega)) (fun _ => rfl) rfl
        case hR =>
          intro s3 mv has
          obtain ⟨h3, g3, d3, t3, o3⟩ := s3
          obtain rfl : g3 = st.gens := mv.gens
          obtain rfl : d3 = st.drawn := mv.drawn
          obtain rfl : o3 = st.os := mv.os
          refine wpAny_pure (wpAny_pure ⟨rfl, h3, t3, rfl, has, fun b u hb q => mv.heap b u ?_ (Heap.get?_push_of_some _ (Heap.get?_push_of_some _ q))⟩)
          rw [List.mem_cons, List.mem_singleton, szo]; exact fun z => z.elim (Nat.ne_of_lt hb) (Nat.ne_of_lt (Nat.lt_succ_of_lt hb))
      · cases r2 with
        | error e => exact hr2
        | ok fl =>
          cases fl with
          | ret v =>
            obtain ⟨rfl, h2, tk, rfl, has, kp⟩ := hr2
            repeat (any_goals (first | assumption | wp_step))
            exact next _ _ has kp
          | next => exact hr2.elim
          | brk => exact hr2.elim
          | cont => exact hr2.elim
end
end MpS
/-! max, min, sorted, len(set(..)) -/
namespace Mp
open PySem PySem.Spec PyProof.Rows L2 PySem.SeqAt

section
variable {mg : Gd} {e : Ent} {env : Sls} {F F' F1 H H' H1 : Hp} {σ : L2.St} {T : Nat → List Addr} {W : WX} {α β : Type} {X : Cx} {Φ : String → List D → R D}
theorem maxI_best : ∀ (ns : List Int) (x : Int), maxI x ns ∈ x :: ns ∧ ∀ y ∈ x :: ns, y ≤ maxI x ns
  | [], x => ⟨List.mem_cons_self, fun y h => by rw [List.mem_singleton] at h; subst h; exact Int.le_refl _⟩
  | z :: ns, x => by
    obtain ⟨h1, h2⟩ := maxI_best ns (if z > x then z else x)
    unfold maxI
    have h3 := h2 _ List.mem_cons_self
    refine ⟨?_, fun y h => ?_⟩
    · rcases List.mem_cons.mp h1 with q | q
      · rw [q]; split
        · exact List.mem_cons_of_mem _ List.mem_cons_self
        · exact List.mem_cons_self
      · exact List.mem_cons_of_mem _ (List.mem_cons_of_mem _ q)
    · rcases List.mem_cons.mp h with q | q
      · subst q; split at h3 <;> (rename_i w; first | (rw [if_pos w] at *; omega) | (rw [if_neg w] at *; omega))
      · rcases List.mem_cons.mp q with q | q
        · subst q; split at h3 <;> (rename_i w; first | (rw [if_pos w] at *; omega) | (rw [if_neg w] at *; omega))
        · exact h2 y (List.mem_cons_of_mem _ q)
theorem minI_best : ∀ (ns : List Int) (x : Int), minI x ns ∈ x :: ns ∧ ∀ y ∈ x :: ns, minI x ns ≤ y
  | [], x => ⟨List.mem_cons_self, fun y h => by rw [List.mem_singleton] at h; subst h; exact Int.le_refl _⟩
  | z :: ns, x => by
    obtain ⟨h1, h2⟩ := minI_best ns (if z < x then z else x)
    unfold minI
    have h3 := h2 _ List.mem_cons_self
    refine ⟨?_, fun y h => ?_⟩
    · rcases List.mem_cons.mp h1 with q | q
      · rw [q]; split
        · exact List.mem_cons_of_mem _ List.mem_cons_self
        · exact List.mem_cons_self
      · exact List.mem_cons_of_mem _ (List.mem_cons_of_mem _ q)
    · rcases List.mem_cons.mp h with q | q
      · subst q; split at h3 <;> (rename_i w; first | (rw [if_pos w] at *; omega) | (rw [if_neg w] at *; omega))
      · rcases List.mem_cons.mp q with q | q
        · subst q; split at h3 <;> (rename_i w; first | (rw [if_pos w] at *; omega) | (rw [if_neg w] at *; omega))
        · exact h2 y (List.mem_cons_of_mem _ q)
theorem bi_max (hc : X.calm = true) : BiR mg X .max (.builtin "max") := by
  intro F H bs xs ds d Q le r h q
  match ds, h with
  | [.lst ys], h =>
    obtain ⟨x, ex, rx, rf⟩ := repM1 le r
    subst ex
    have h : bestD true ys = some d := h
    unfold bestD at h
    cases hi : intsD ys with
    | none => rw [hi] at h; cases h
    | some ns =>
      rw [hi] at h
      cases ns with
      | nil => cases h
      | cons n ns =>
        cases h
        obtain ⟨a, vs, ea, h1, h2⟩ := rep_lst rx
        subst ea
        refine ⟨_, cr_max hc, a, n :: ns, rfl, SqL.of (by rw [← ints_rep hi h2]; exact h1), Nat.succ_pos _, fun m hm hy => ?_⟩
        obtain ⟨k1, k2⟩ := maxI_best ns n
        have : m = maxI n ns := Int.le_antisymm (k2 m hm) (hy _ k1)
        subst this; exact q.int le
  | [.int i, .int j], h =>
    obtain ⟨x, y, ex, rx, ry, _⟩ := repM2 le r
    subst ex
    rw [rep_int rx, rep_int ry]
    cases h; exact ⟨_, call_max2 hc, i, j, rfl, q.int le⟩
theorem bi_min (hc : X.calm = true) : BiR mg X .min (.builtin "min") := by
  intro F H bs xs ds d Q le r h q
  match ds, h with
  | [.lst ys], h =>
    obtain ⟨x, ex, rx, rf⟩ := repM1 le r
    subst ex
    have h : bestD false ys = some d := h
    unfold bestD at h
    cases hi : intsD ys with
    | none => rw [hi] at h; cases h
    | some ns =>
      rw [hi] at h
      cases ns with
      | nil => cases h
      | cons n ns =>
        cases h
        obtain ⟨a, vs, ea, h1, h2⟩ := rep_lst rx
        subst ea
        refine ⟨_, cr_min hc, a, n :: ns, rfl, SqL.of (by rw [← ints_rep hi h2]; exact h1), Nat.succ_pos _, fun m hm hy => ?_⟩
        obtain ⟨k1, k2⟩ := minI_best ns n
        have : m = minI n ns := Int.le_antisymm (hy _ k1) (k2 m hm)
        subst this; exact q.int le
  | [.int i, .int j], h =>
    obtain ⟨x, y, ex, rx, ry, _⟩ := repM2 le r
    subst ex
    rw [rep_int rx, rep_int ry]
    cases h; exact ⟨_, call_min2 hc, i, j, rfl, q.int le⟩
/-- the order of texts, as the kit tells it -/
theorem rising_up : ∀ (p : Str) (l : List Str), risingS p l = true → Up ltS (p :: l)
  | p, [], _ => List.pairwise_singleton _ _
  | p, x :: r, h => by
    have h : (!ltCps x.cps.toList p.cps.toList && risingS x r) = true := h
    rw [Bool.and_eq_true, Bool.not_eq_true', cps_lt] at h
    have ih := rising_up x r h.2
    refine List.pairwise_cons.mpr ⟨fun b hb => ?_, ih⟩
    rcases List.mem_cons.mp hb with q | q
    · subst q; exact h.1
    · exact tot_S.ntr _ _ _ h.1 ((List.pairwise_cons.mp ih).1 b q)
theorem sortedS_up {l : List Str} (h : sortedS l = true) : Up ltS l := by
  cases l with
  | nil => exact .nil
  | cons x r => exact rising_up x r h
theorem le_up {l : List Int} (h : l.Pairwise (· ≤ ·)) : Up ltI l := h.imp fun {a b} q => decide_eq_false (p := b < a) (by omega)
theorem strs_keys : ∀ {ks : List Key} {ss : List Str}, strsD (ks.map kD) = some ss → ks = ss.map Sum.inr
  | [], _, h => by cases h; rfl
  | .inl _ :: _, _, h => by cases h
  | .inr s :: ks, ss, h => by
    have h : (strsD (ks.map kD)).map (s :: ·) = some ss := h
    cases hs : strsD (ks.map kD) with
    | none => rw [hs] at h; cases h
    | some l => rw [hs] at h; cases h; rw [List.map_cons, ← strs_keys hs]
theorem ints_keys : ∀ {ks : List Key} {ss : List Int}, intsD (ks.map kD) = some ss → ks = ss.map Sum.inl
  | [], _, h => by cases h; rfl
  | .inr _ :: _, _, h => by cases h
  | .inl s :: ks, ss, h => by
    have h : (intsD (ks.map kD)).map (s :: ·) = some ss := h
    cases hs : intsD (ks.map kD) with
    | none => rw [hs] at h; cases h
    | some l => rw [hs] at h; cases h; rw [List.map_cons, ← ints_keys hs]
/-! ### len(set(xs)) -/
theorem strsAre : ∀ {ys : List Str} {us : List Value}, Vals (ys.map V.str) us → StrsAre us ys
  | [], _, .nil => .nil
  | y :: ys, _, .cons ⟨k, e⟩ t => by subst e; exact .cons y k (strsAre t)
def tLenS (K : PySem.W.Frag) (ta : TE) : TE := fun σ H Q => ta σ H fun x H1 => ∃ l, ∃ xs : List Str, x = .ref l ∧ SqL K H1 l (xs.map V.str) ∧ xs.length < 128 ∧ Q (.int (MpS.firstS xs).length) H1
theorem pe_lenS {a : Expr} {ta : TE} {p p2 q pos : Pos} (hc : X.calm = true) (g1 : Gl X "len") (m1 : X.mg "len" = none) (g2 : Gl X "set") (m2 : X.mg "set" = none) (ha : PE X a ta) (na : starEach [a] X.env = (false, eval a X.env) :: starEach [] X.env) :
    PE X (.Call (.Name "len" p) [.Call (.Name "set" p2) [a] [] q] [] pos) (tLenS X.K ta) := by
  refine ⟨fun pins s σ H Q I h => Call_ (ld_blt I g1 m1 boot_len (callWith_builtin1 (args_cons ?_ rfl) rfl rfl))⟩
  refine Call_ (ld_blt I g2 m2 boot_set (callWith_type1 (args_cons (thn (ha.run pins s σ H _ I h) fun v s1 ⟨x, H1, I1, r1, l, xs, ex, hq, few, q1⟩ => args_nil ?_) na) na rfl))
  subst ex
  cases r1
  obtain ⟨its, r, pl, hz⟩ := I1.list hq
  have sb : xs.length + 1 < scanBound := by unfold scanBound; omega
  refine MpS.set_texts (I1.ok.hd hc) pl.isList (by simpa using strsAre r) sb fun h2 tk has kp => args_nil ?_
  obtain ⟨o, es, ep, t, ho, hex, hd, _, _, _, hf, hn⟩ := has
  have I2 : Inv X pins σ H1 { s1 with heap := h2, toks := tk } := I1.kept fun b o e => kp b o (Heap.lt_size e) e
  have fl := MpS.firstS_le xs
  exact call_len_set ho hex hd hf (by rw [hn]; omega) ⟨.int (MpS.firstS xs).length, H1, I2.tok _, ⟨_, by rw [hn]⟩, q1⟩
theorem ok_lenSet {a : Expr} {A : Mp.E} {p p2 q pos : Pos} (hc : X.calm = true) (g1 : Gl X "len") (m1 : X.mg "len" = none) (g2 : Gl X "set") (m2 : X.mg "set" = none) (ok : OkE mg e W X Φ a A) : OkE mg e W X Φ (.Call (.Name "len" p) [.Call (.Name "set" p2) [a] [] q] [] pos) (.bi .lenSet [A]) := by
  have okA : OkEs mg e W X Φ [a] [A] := ⟨ok, True.intro⟩
  refine Ok3.ofE (by rfl) rfl (PE.of (pe_lenS hc g1 m1 g2 m2 ok.brw (plain_star ok.pl)) fun σ H Q ⟨env, F, T, f, h⟩ => ?_)
  have one : ∀ {k : List D → R D}, (seqR (evs Φ [A] false env) >>= k) = (ev Φ A false env >>= fun d => k [d]) := fun {k} => by
    show (seqR [ev Φ A false env] >>= k) = _
    cases ev Φ A false env <;> rfl
  have h : RW (seqR (evs Φ [A] false env) >>= fun ds => ofO (biD .lenSet (([A] : List Mp.E).any bor) ds)) (KE mg 1 Q F H) (EX mg W σ F H) := h
  rw [one] at h
  refine bX (b := true) KE.grows f h fun F1 H1 dx x g1 f1 rx fx h => ?_
  · obtain ⟨d, ed, q⟩ := RW_ofO.mp h
    cases dx with
    | lst ys =>
      have ed : (if ys.length < 128 then (strsD ys).bind fun ss => some (D.int ((nubS ss).length : Nat)) else none) = some d := ed
      split at ed
      · rename_i hl
        cases hz : strsD ys with
        | none => rw [hz] at ed; cases ed
        | some ss =>
          rw [hz] at ed; cases ed
          obtain ⟨l, vs, el, h1, h2⟩ := rep_lst rx
          have ev := strs_rep hz h2
          refine ⟨l, ss, el, SqL.of (by rw [← ev]; exact h1), ?_, q.int f1.le⟩
          have := h2.length
          rw [ev, List.length_map] at this
          omega
      · cases ed
    | _ => cases ed
end
end Mp
/-! sorted of tuples of ints and texts -/
namespace MpK
open PySem PySem.Spec PyProof.Rows L2 PySem.SeqAt Mp

/-- a key as a value -/
def KV : Key → Value → Prop
  | .inl i, v => ∃ t, v = .int i t
  | .inr x, v => ∃ t, v = .str x t
def KVs : List Key → List Value → Prop
  | [], [] => True
  | k :: ks, v :: vs => KV k v ∧ KVs ks vs
  | _, _ => False
def kV : Key → V
  | .inl i => .int i
  | .inr x => .str x
def keyV : V → Option Key
  | .int i => some (.inl i)
  | .str x => some (.inr x)
  | _ => none
theorem keys_back : ∀ k : List Key, (k.map kV).filterMap keyV = k
  | [] => rfl
  | .inl i :: k => by
    show Sum.inl i :: (k.map kV).filterMap keyV = _
    rw [keys_back k]
  | .inr i :: k => by
    show Sum.inr i :: (k.map kV).filterMap keyV = _
    rw [keys_back k]
theorem vals_keys : ∀ {k : List Key} {us : List Value}, Vals (k.map kV) us → KVs k us
  | [], _, .nil => True.intro
  | .inl i :: k, _, .cons r t => ⟨r, vals_keys t⟩
  | .inr i :: k, _, .cons r t => ⟨r, vals_keys t⟩
theorem KVs.length : ∀ {k : List Key} {us : List Value}, KVs k us → us.length = k.length
  | [], [], _ => rfl
  | _ :: _, _ :: _, h => by rw [List.length_cons, List.length_cons, KVs.length h.2]
  | [], _ :: _, h => h.elim
  | _ :: _, [], h => h.elim
section
variable {P : Program} {w : World} {A : Around} {E : Value → Shared → Prop} {s : Shared}
/-- two tuples item by item -/
theorem lex_run {b : Bool} {R : Bool → Shared → Prop} : ∀ {k j : List Key} {us ws : List Value} {i : Nat}, KVs k us → KVs j ws → shape k = shape j → R (ltKs k j) s → PySem.W.KatLex P w A b false R (us.zip ws) i s
  | [], [], us, ws, i, h1, h2, _, q => by
    cases us with
    | nil => exact PySem.W.kat_nil q
    | cons _ _ => exact h1.elim
  | [], _ :: _, _, _, _, _, _, e, _ => by cases e
  | _ :: _, [], _, _, _, _, _, e, _ => by cases e
  | x :: k, y :: j, us, ws, i, h1, h2, e, q => by
    cases us with
    | nil => exact h1.elim
    | cons u us =>
      cases ws with
      | nil => exact h2.elim
      | cons v ws =>
        have e2 : shape k = shape j := (List.cons.inj e).2
        have e1 : x.isLeft = y.isLeft := (List.cons.inj e).1
        unfold ltKs at q
        rw [List.zip_cons_cons]
        obtain ⟨hx, hk⟩ := h1
        obtain ⟨hy, hj⟩ := h2
        have tail : x = y → PySem.W.KatLex P w A b false R (us.zip ws) (i + 1) s := fun z => lex_run hk hj e2 (by rw [if_pos z] at q; exact q)
        cases x with
        | inl m =>
          cases y with
          | inr _ => cases e1
          | inl n =>
            obtain ⟨t, rfl⟩ := hx
            obtain ⟨t2, rfl⟩ := hy
            refine PySem.W.kat_cons (EqAt.int_int m t n t2 P w _ _ ?_)
            refine PySem.W.kat_go (fun z => PySem.W.kat_yes (tail (congrArg _ (beq_iff_eq.mp z)))) fun z => ?_
            have q : R (decide (m < n)) s := by rw [if_neg fun c => by cases c; rw [beq_self_eq_true] at z; cases z] at q; exact q
            refine PySem.W.kat_no ?_
            cases hb : (b && i == 0) with
            | true => exact oneLt_int q
            | false => exact PySem.W.kat_one _ _ (PyProof.Rows.lt_int q)
        | inr m =>
          cases y with
          | inl _ => cases e1
          | inr n =>
            obtain ⟨t, rfl⟩ := hx
            obtain ⟨t2, rfl⟩ := hy
            refine PySem.W.kat_cons (EqAt.str_str m t n t2 P w _ _ ?_)
            refine PySem.W.kat_go (fun z => PySem.W.kat_yes (tail (congrArg _ (beq_iff_eq.mp z)))) fun z => ?_
            have q : R (decide (m.cps.toList < n.cps.toList)) s := by rw [if_neg fun c => by cases c; rw [beq_self_eq_true] at z; cases z] at q; exact q
            refine PySem.W.kat_no ?_
            cases hb : (b && i == 0) with
            | true => exact oneLt_str q
            | false => exact PySem.W.kat_one _ _ (PySem.P.lt_str q)
/-- a tuple of these keys in the heap -/
def TupAt (h : Heap) (k : List Key) (a : Addr) : Prop := ∃ o its n, h.get? a = some o ∧ o.cls = .type "tuple" ∧ o.data = .seq its n ∧ KVs k its.toList
theorem TupAt.keep {h h' : Heap} {k : List Key} {a : Addr} (x : TupAt h k a) (kp : ∀ o, h.get? a = some o → h'.get? a = some o) : TupAt h' k a := by
  obtain ⟨o, its, n, h1, r⟩ := x
  exact ⟨o, its, n, kp o h1, r⟩
theorem tup_firsts {h : Heap} : ∀ {L : List (Addr × List Key)} {b : Bool} {sh : List Bool}, (∀ p ∈ L, TupAt h p.2 p.1) → (∀ p ∈ L, shape p.2 = b :: sh) →
    ∃ fs, PySem.W.KatTups h (L.map fun p => Value.ref p.1) fs ∧ fs.length = L.length ∧ ∀ f ∈ fs, if b then ∃ i t, f = .int i t else ∃ i t, f = .str i t
  | [], _, _, _, _ => ⟨[], PySem.W.KatTups.nil, rfl, fun f z => by cases z⟩
  | p :: L, b, sh, ht, hs => by
    obtain ⟨fs, h1, h2, h3⟩ := tup_firsts (fun q hq => ht q (.tail _ hq)) (fun q hq => hs q (.tail _ hq))
    obtain ⟨o, its, n, ho, hc, hd, hk⟩ := ht p List.mem_cons_self
    have e := hs p List.mem_cons_self
    obtain ⟨a, k⟩ := p
    cases k with
    | nil => cases e
    | cons x k =>
      have e1 : x.isLeft = b := (List.cons.inj e).1
      obtain ⟨its⟩ := its
      cases its with
      | nil => exact hk.elim
      | cons v its =>
        refine ⟨v :: fs, PySem.W.KatTups.cons ho hc hd rfl h1, by rw [List.length_cons, List.length_cons, h2], fun f hf => ?_⟩
        rcases List.mem_cons.mp hf with z | z
        · subst z
          cases x with
          | inl i => cases e1; obtain ⟨t, e⟩ := hk.1; exact ⟨i, t, e⟩
          | inr i => cases e1; obtain ⟨t, e⟩ := hk.1; exact ⟨i, t, e⟩
        · exact h3 f z
theorem tups_sortable {a : Addr} {L : List (Addr × List Key)} {dec : Value → List Key} {b : Bool} {sh : List Bool} (hd : ∀ p ∈ L, dec (.ref p.1) = p.2) (ht : ∀ p ∈ L, TupAt s.heap p.2 p.1) (hs : ∀ p ∈ L, shape p.2 = b :: sh) (h0 : 0 < L.length) (na : ∀ p ∈ L, p.1 ≠ a) :
    SrtO.SortableO P w A s a (L.map fun p => Value.ref p.1) (fun v u => ltKs (dec v) (dec u)) := by
  intro h' keep
  have ht' : ∀ p ∈ L, TupAt h' p.2 p.1 := fun p hp => (ht p hp).keep fun o e => keep p.1 o (na p hp) e
  refine ⟨tuples' true, fun Q E hq => ?_, fun p q hp hq => ?_⟩
  · obtain ⟨fs, h1, h2, h3⟩ := tup_firsts ht' hs
    cases b with
    | true =>
      refine PySem.W.kat_kind (T := .type "int") h1 (by omega) (fun f hm => ?_) (by rfl) ?_
      · obtain ⟨x, t, rfl⟩ := h3 f hm
        exact PySem.W.Looks.now
      · rw [show (Value.type "int" != Value.type "tuple") = true by decide]; exact hq
    | false =>
      refine PySem.W.kat_kind (T := .type "str") h1 (by omega) (fun f hm => ?_) (by rfl) ?_
      · obtain ⟨x, t, rfl⟩ := h3 f hm
        exact PySem.W.Looks.now
      · rw [show (Value.type "str" != Value.type "tuple") = true by decide]; exact hq
  · obtain ⟨x, hx, ex⟩ := List.mem_map.mp hp
    obtain ⟨y, hy, ey⟩ := List.mem_map.mp hq
    obtain ⟨p1, p2⟩ := p
    obtain ⟨q1, q2⟩ := q
    have ex : Value.ref x.1 = p1 := ex
    have ey : Value.ref y.1 = q1 := ey
    subst ex; subst ey
    obtain ⟨o, its, n, ho, hc, hdt, hk⟩ := ht' x hx
    obtain ⟨o2, its2, n2, ho2, hc2, hdt2, hk2⟩ := ht' y hy
    refine PySem.W.kat_lt ho hdt ho2 hdt2 ?_
    have l1 := hk.length
    have l2 := hk2.length
    rw [Array.length_toList] at l1 l2
    have ls : x.2.length = y.2.length := by
      have z := (hs x hx).trans (hs y hy).symm
      have z := congrArg List.length z
      unfold shape at z
      rwa [List.length_map, List.length_map] at z
    rw [show decide (its.size < its2.size) = false from decide_eq_false (by omega)]
    exact lex_run hk hk2 ((hs x hx).trans (hs y hy).symm) ⟨rfl, by show ltKs x.2 y.2 = ltKs (dec (.ref x.1)) (dec (.ref y.1)); rw [hd x hx, hd y hy]⟩
end
def addr : Value → Addr
  | .ref p => p
  | _ => 0
def decH (H : Hp) : Value → List Key
  | .ref p => match H p with
    | some (.tup xs) => xs.filterMap keyV
    | _ => []
  | _ => []
theorem vals_refs : ∀ {L : List (Addr × List Key)} {us : List Value}, Vals (L.map fun p => V.ref p.1) us → us = L.map fun p => Value.ref p.1
  | [], _, .nil => rfl
  | p :: L, _, .cons r t => by
    cases r
    rw [vals_refs t]; rfl
theorem refs_vals : ∀ L : List (Addr × List Key), Vals (L.map fun p => V.ref p.1) (L.map fun p => Value.ref p.1)
  | [] => .nil
  | p :: L => .cons rfl (refs_vals L)
def rSortK (K : PySem.W.Frag) : List V → Hp → VK → Prop := fun xs H Q => ∃ (a : Addr) (L : List (Addr × List Key)) (b : Bool) (sh : List Bool), xs = [V.ref a] ∧ SqL K H a (L.map fun p => V.ref p.1) ∧ (∀ p ∈ L, H p.1 = some (.tup (p.2.map kV))) ∧ (∀ p ∈ L, shape p.2 = b :: sh) ∧
  ∀ (L' : List (Addr × List Key)) (p : Addr), L'.Perm L → L'.Pairwise (fun x y => ltKs y.2 x.2 = false) → H p = none → Q (.ref p) (upd H p (.lst (L'.map fun p => V.ref p.1)))
theorem cr_sortK {X : Cx} : CallR X (.builtin "sorted") (rSortK X.K) := by
  intro pins s σ H xs us Q I r h
  obtain ⟨a, L, b, sh, rfl, hs, ht, hsh, q⟩ := h
  obtain ⟨its, rv, hl, hz⟩ := I.list hs
  rw [Vals.ref1 r]
  have ei := vals_refs rv
  subst ei
  have hd : ∀ p ∈ L, decH H (.ref p.1) = p.2 := fun p hp => by
    show (match H p.1 with | some (.tup xs) => xs.filterMap keyV | _ => []) = _
    rw [ht p hp]
    exact keys_back _
  have tu : ∀ p ∈ L, TupAt s.heap p.2 p.1 := fun p hp => by
    obtain ⟨_, its, rv, o, h1, h2, n, h3⟩ := (show ObjOk X.prog X.w H s.heap p.1 (.tup (p.2.map kV)) from I.hok p.1 _ (ht p hp))
    exact ⟨o, its.toArray, n, h1, h2, h3, by simpa using vals_keys rv⟩
  refine SrtO.sorted_ord (ltv := fun v u => ltKs (decH H v) (decH H u)) ⟨fun x y h => tot_Ks.asy _ _ h, fun x y z h1 h2 => tot_Ks.ntr _ _ _ h1 h2⟩ hl.isList (by rw [← rv.length]; exact hz) (fun h2 h₁ a' ha kk => ?_) fun out h1 h2 => ?_
  · rw [List.length_map] at h2
    refine tups_sortable (s := { s with heap := h₁ }) hd (fun p hp => (tu p hp).keep fun o e => (kk _ o e).2) hsh (by omega) fun p hp => ?_
    obtain ⟨o, _, _, e, _⟩ := tu p hp
    exact (kk _ o e).1
  · have pm := h2.perm
    have isr : ∀ v ∈ out, ∃ p ∈ L, v = Value.ref p.1 := fun v hv => by
      obtain ⟨p, hp, e⟩ := List.mem_map.mp (pm.mem_iff.mp hv)
      exact ⟨p, hp, e.symm⟩
    have eo : (out.map fun v => (addr v, decH H v)).map (fun p => Value.ref p.1) = out := by
      rw [List.map_map]
      refine (List.map_congr_left fun v hv => ?_).trans (List.map_id out)
      obtain ⟨p, _, e⟩ := isr v hv
      subst e; rfl
    have pl : (out.map fun v => (addr v, decH H v)).Perm L := by
      refine (pm.map _).trans (.of_eq ?_)
      rw [List.map_map]
      refine (List.map_congr_left fun p hp => ?_).trans (List.map_id L)
      show (p.1, decH H (.ref p.1)) = p
      rw [hd p hp]
    have up : (out.map fun v => (addr v, decH H v)).Pairwise (fun x y => ltKs y.2 x.2 = false) := List.pairwise_map.mpr (h1.imp fun {x y} z => z)
    obtain ⟨ep, he⟩ := sortedAll_at s.heap (L.map fun p => Value.ref p.1) out.toArray
    have vo := refs_vals (out.map fun v => (addr v, decH H v))
    rw [eo] at vo
    have len : ((out.map fun v => (addr v, decH H v)).map fun p => V.ref p.1).length ≤ sizeLine := by
      rw [List.length_map, pl.length_eq]
      rw [List.length_map] at hz
      exact hz
    exact ⟨.ref _, upd H (s.heap.objs.size + 1) (.lst ((out.map fun v => (addr v, decH H v)).map fun p => V.ref p.1)), I.laid (t' := s.toks) (fun _ _ => sortedAll_old) (Nat.le_succ _) ⟨len, out, ep, vo, he⟩, rfl, q _ _ pl up (I.hok.fresh (Nat.le_succ _))⟩
section
end
end MpK
/-! sorted -/
namespace Mp
open PySem PySem.Spec PyProof.Rows L2 PySem.SeqAt

section
variable {mg : Gd} {e : Ent} {env : Sls} {F F' F1 H H' H1 : Hp} {σ : L2.St} {T : Nat → List Addr} {W : WX} {α β : Type} {X : Cx} {Φ : String → List D → R D}
theorem sorted_ints (le : Le F H) {a : Addr} {ns : List Int} {Q : VK} (hs : SqL X.K H a (ns.map V.int)) (q : KE mg 1 Q F H (.lst ((sortB ltI ns).map D.int))) : anyCall X (.builtin "sorted") [.ref a] H Q :=
  ⟨_, cr_sortedI, a, ns, rfl, hs, fun ns' p pm pw np => by
    rw [sortB_only tot_I pm (le_up pw)]
    exact q _ F _ [p] (Grow.fresh le np) (own_lst (le.none np) upd_same (reps_ints F _)) (sing_new np)⟩
theorem sorted_strs (le : Le F H) {a : Addr} {ns : List Str} {Q : VK} (h64 : ns.length < 64) (hs : SqL X.K H a (ns.map V.str)) (q : KE mg 1 Q F H (.lst ((sortB ltS ns).map D.str))) : anyCall X (.builtin "sorted") [.ref a] H Q :=
  ⟨_, cr_sortedS, a, ns, rfl, hs, h64, fun ns' p pm pw np => by
    rw [sortB_only tot_S pm (sortedS_up pw)]
    exact q _ F _ [p] (Grow.fresh le np) (own_lst (le.none np) upd_same (reps_strs F _)) (sing_new np)⟩
theorem tkeys_dict : ∀ {ks : List Key} {r : List (List Key)}, tkeysD (ks.map kD) = some r → ks = []
  | [], _, _ => rfl
  | .inl _ :: _, _, h => by cases h
  | .inr _ :: _, _, h => by cases h
theorem sorted_dict (hc : X.calm = true) (le : Le F H) {x : V} {ks : List Key} {ys : List D} {r : List D} {Q : VK} (rx : Rep mg H x (.dK ks ys)) (h64 : ks.length < 64) (h : sortD (ks.map kD) = some r) (q : KE mg 1 Q F H (.lst r)) : anyCall X (.builtin "sorted") [x] H Q := by
  obtain ⟨a, vs, ea, hl, h1, h2⟩ := rep_dK rx
  subst ea
  have hk : (ks.zip vs).map (·.1) = ks := List.map_fst_zip (by omega)
  unfold sortD at h
  cases hi : intsD (ks.map kD) with
  | some ns =>
    rw [hi] at h; cases h
    have e := ints_keys hi
    refine ⟨_, call_sortedDI hc, a, _, ns, rfl, h1, hk.trans e, by rw [e, List.length_map] at h64; exact h64, fun ns' p pm pw np => ?_⟩
    rw [sortB_only tot_I pm (le_up pw)]
    exact q _ F _ [p] (Grow.fresh le np) (own_lst (le.none np) upd_same (reps_ints F _)) (sing_new np)
  | none =>
    rw [hi] at h
    cases hs : strsD (ks.map kD) with
    | some ss =>
      rw [hs] at h
      have h : (if ss.length < 64 then some ((sortB ltS ss).map D.str) else none) = some r := h
      have e := strs_keys hs
      have l64 : ss.length < 64 := by rw [e, List.length_map] at h64; exact h64
      rw [if_pos l64] at h; cases h
      refine ⟨_, call_sortedD hc, a, _, ss, rfl, h1, hk.trans e, l64, fun ns' p pm pw np => ?_⟩
      rw [sortB_only tot_S pm (sortedS_up pw)]
      exact q _ F _ [p] (Grow.fresh le np) (own_lst (le.none np) upd_same (reps_strs F _)) (sing_new np)
    | none =>
      rw [hs] at h
      cases ht : tkeysD (ks.map kD) with
      | none => rw [ht] at h; cases h
      | some tk =>
        have := tkeys_dict ht
        subst this
        cases hi
theorem keysK_rep : ∀ {ds : List D} {k : List Key} {vs : List V}, keysD ds = some k → Reps mg F vs ds → vs = k.map MpK.kV ∧ ds = k.map kD
  | [], k, vs, h, r => by cases h; unfold Reps at r; subst r; exact ⟨rfl, rfl⟩
  | d :: ds, k, vs, h, r => by
    unfold Reps at r
    obtain ⟨v, t, ev, a, b⟩ := r
    subst ev
    have h : ((keyD d).bind fun k => (keysD ds).bind fun r => some (k :: r)) = some k := h
    cases hs : keysD ds with
    | none => rw [hs] at h; cases d <;> cases h
    | some l =>
      rw [hs] at h
      obtain ⟨i1, i2⟩ := keysK_rep hs b
      cases d with
      | int i => cases h; rw [rep_int a, i1, i2]; exact ⟨rfl, rfl⟩
      | str i => cases h; rw [rep_str a, i1, i2]; exact ⟨rfl, rfl⟩
      | _ => cases h
theorem tkeys_rep : ∀ {ys : List D} {kk : List (List Key)} {vs : List V}, tkeysD ys = some kk → Reps mg F vs ys → ∃ L : List (Addr × List Key), vs = L.map (fun p => V.ref p.1) ∧ L.map (·.2) = kk ∧ ∀ p ∈ L, F p.1 = some (.tup (p.2.map MpK.kV))
  | [], kk, vs, h, r => by cases h; unfold Reps at r; subst r; exact ⟨[], rfl, rfl, fun p z => by cases z⟩
  | d :: ds, kk, vs, h, r => by
    unfold Reps at r
    obtain ⟨v, t, ev, a, b⟩ := r
    subst ev
    have h : ((tkeyD d).bind fun k => (tkeysD ds).map (k :: ·)) = some kk := h
    cases d with
    | tup xs =>
      have h : ((keysD xs).bind fun k => (tkeysD ds).map (k :: ·)) = some kk := h
      cases hk : keysD xs with
      | none => rw [hk] at h; cases h
      | some k =>
        rw [hk] at h
        have h : (tkeysD ds).map (k :: ·) = some kk := h
        cases hs : tkeysD ds with
        | none => rw [hs] at h; cases h
        | some l =>
          rw [hs] at h; cases h
          obtain ⟨L, e1, e2, e3⟩ := tkeys_rep hs b
          obtain ⟨p, ws, ep, h1, h2⟩ := rep_tup a
          obtain ⟨e4, _⟩ := keysK_rep hk h2
          subst ep; subst e4
          refine ⟨(p, k) :: L, by rw [e1]; rfl, by rw [← e2]; rfl, fun q hq => ?_⟩
          rcases List.mem_cons.mp hq with z | z
          · subst z; exact h1
          · exact e3 q z
    | _ => cases h
theorem keyReps : ∀ k : List Key, Reps mg F (k.map MpK.kV) (k.map kD)
  | [] => Reps.nil
  | .inl i :: k => Reps.cons (by unfold Rep; rfl) (keyReps k)
  | .inr i :: k => Reps.cons (by unfold Rep; rfl) (keyReps k)
theorem tupReps : ∀ {L : List (Addr × List Key)}, (∀ p ∈ L, F p.1 = some (.tup (p.2.map MpK.kV))) → Reps mg F (L.map fun p => V.ref p.1) ((L.map (·.2)).map tupK)
  | [], _ => Reps.nil
  | p :: L, h => Reps.cons (by unfold tupK Rep; exact ⟨p.1, _, rfl, h p List.mem_cons_self, keyReps p.2⟩) (tupReps fun q hq => h q (.tail _ hq))
theorem sorted_tups (hu : X.A.units + 64 < cLine) (le : Le F H) {x : V} {ys : List D} {k : List Key} {ks : List (List Key)} {Q : VK} (rx : Rep mg F x (.lst ys)) (h : tkeysD ys = some (k :: ks)) (h0 : k.isEmpty = false) (h1 : (ks.all fun j => decide (shape j = shape k)) = true)
    (q : KE mg 1 Q F H (.lst ((sortB ltKs (k :: ks)).map tupK))) : anyCall X (.builtin "sorted") [x] H Q := by
  obtain ⟨a, vs, ea, g1, g2⟩ := rep_lst rx
  obtain ⟨L, e1, e2, e3⟩ := tkeys_rep h g2
  subst ea; subst e1
  cases hk : shape k with
  | nil =>
    cases k with
    | nil => cases h0
    | cons _ _ => cases hk
  | cons b sh =>
    refine ⟨_, MpK.cr_sortK, a, L, b, sh, rfl, SqL.of (le _ _ g1), fun p hp => le _ _ (e3 p hp), fun p hp => ?_, fun L' p pm pw np => ?_⟩
    · have m : p.2 ∈ k :: ks := by rw [← e2]; exact List.mem_map_of_mem hp
      rcases List.mem_cons.mp m with z | z
      · rw [z]; exact hk
      · rw [← hk]; exact of_decide_eq_true (List.all_eq_true.mp h1 _ z)
    · have e4 : L'.map (·.2) = sortB ltKs (k :: ks) := sortB_only tot_Ks (by rw [← e2]; exact pm.map _) (List.pairwise_map.mpr pw)
      rw [← e4] at q
      exact q _ F _ [p] (Grow.fresh le np) (own_lst (le.none np) upd_same (tupReps fun r hr => e3 r (pm.mem_iff.mp hr))) (sing_new np)
theorem bi_sorted (hc : X.calm = true) (hu : X.A.units + 64 < cLine) : BiR mg X .sorted (.builtin "sorted") := by
  intro F H bs xs ds d Q le r h q
  match ds, h with
  | [.dK ks ys], h =>
    obtain ⟨x, ex, rx, rf⟩ := repM1 le r
    subst ex
    have h : (if ks.length < 64 then (sortD (ks.map kD)).map D.lst else none) = some d := h
    split at h
    · rename_i h64
      cases hs : sortD (ks.map kD) with
      | none => rw [hs] at h; cases h
      | some l => rw [hs] at h; cases h; exact sorted_dict hc le rx h64 hs q
    · cases h
  | [.lst ys], h =>
    obtain ⟨x, ex, rx, rf⟩ := repM1 le r
    subst ex
    have h : (if shr (bs.any id) ys then (sortD ys).map D.lst else none) = some d := h
    split at h
    · rename_i hsh
      cases hs : sortD ys with
      | none => rw [hs] at h; cases h
      | some l =>
        rw [hs] at h; cases h
        obtain ⟨a, vs, ea, h1, h2⟩ := rep_lst rx
        unfold sortD at hs
        cases hi : intsD ys with
        | some ns =>
          rw [hi] at hs; cases hs
          subst ea
          exact sorted_ints le (SqL.of (by rw [← ints_rep hi h2]; exact h1)) q
        | none =>
          rw [hi] at hs
          cases hz : strsD ys with
          | some ss =>
            rw [hz] at hs
            have hs : (if ss.length < 64 then some ((sortB ltS ss).map D.str) else none) = some l := hs
            split at hs
            · rename_i h64
              cases hs
              subst ea
              exact sorted_strs le h64 (SqL.of (by rw [← strs_rep hz h2]; exact h1)) q
            · cases hs
          | none =>
            rw [hz] at hs
            cases ht : tkeysD ys with
            | none => rw [ht] at hs; cases hs
            | some tk =>
              rw [ht] at hs
              cases tk with
              | nil => cases hs
              | cons k ks =>
                have hs : (if k.isEmpty || !(ks.all fun j => decide (shape j = shape k)) then none else some ((sortB ltKs (k :: ks)).map tupK)) = some l := hs
                split at hs
                · cases hs
                · rename_i hn
                  cases hs
                  rw [Bool.or_eq_true, not_or, Bool.not_eq_true, Bool.not_eq_true', Bool.not_eq_false] at hn
                  cases hb : bs.any id with
                  | false => exact sorted_tups hu le (rf hb) ht hn.1 hn.2 q
                  | true =>
                    rw [hb] at hsh
                    exfalso
                    cases ys with
                    | nil => cases ht
                    | cons y ys =>
                      have hsh : (y :: ys).all isScal = true := hsh
                      rw [List.all_cons, Bool.and_eq_true] at hsh
                      cases y <;> first | cases ht | cases hsh.1
    · cases h
end
end Mp
/-! isinstance(x, bool) -/
namespace Mp
open PySem PySem.Spec PyProof.Rows L2 PySem.SeqAt

section
variable {mg : Gd} {e : Ent} {env : Sls} {F F' F1 H H' H1 : Hp} {σ : L2.St} {T : Nat → List Addr} {W : WX} {X : Cx} {Φ : String → List D → R D}
theorem boot_isi : bootBuiltins "isinstance" = some (.builtin "isinstance") := by first | rfl | kernel_rfl
theorem boot_ty {t : String} (h : t ∈ tNames) : bootBuiltins t = some (.type t) := by
  simp only [tNames, List.mem_cons, List.not_mem_nil, or_false] at h
  rcases h with h | h | h | h | h | h <;> subst h <;> first | rfl | kernel_rfl
theorem ty_name {t : String} (h : t ∈ tNames) : (t : Str) ≠ "__name__" ∧ ((t : Str) == ("__debug__" : Str)) = false := by
  simp only [tNames, List.mem_cons, List.not_mem_nil, or_false] at h
  rcases h with h | h | h | h | h | h <;> subst h <;> decide
theorem kit_t {n t : String} (h : t ∈ tNames) (hn : n = "NoneType" ∨ n ∈ tNames) : kitB n t = some (isT n t) := by
  simp only [tNames, List.mem_cons, List.not_mem_nil, or_false] at h hn
  rcases h with h | h | h | h | h | h <;> subst h <;> rcases hn with h | h | h | h | h | h | h <;> subst h <;> decide +kernel
/-- what the type is, of data that is no object -/
theorem ty_of {K : PySem.W.Frag} {v : V} {d : D} {n : String} (r : Rep mg H v d) (h : tyN d = some n) : TyX K H v (.type n) ∧ (n = "NoneType" ∨ n ∈ tNames) := by
  cases d with
  | non => unfold Rep at r; subst r; cases h; exact ⟨.base .non, by decide⟩
  | bl b => unfold Rep at r; subst r; cases h; exact ⟨.base (.bl b), by decide⟩
  | int b => unfold Rep at r; subst r; cases h; exact ⟨.base (.int b), by decide⟩
  | str b => unfold Rep at r; subst r; cases h; exact ⟨.base (.str b), by decide⟩
  | lst xs => cases h; obtain ⟨a, vs, ea, h1, _⟩ := rep_lst r; subst ea; exact ⟨.base (.lst h1), by decide⟩
  | tup xs => cases h; obtain ⟨a, vs, ea, h1, _⟩ := rep_tup r; subst ea; exact ⟨.base (.tup h1), by decide⟩
  | dK ks xs =>
    cases h
    obtain ⟨a, vs, ea, _, h1, _⟩ := rep_dK r
    subst ea
    rcases h1 with z | ⟨o, z⟩
    · exact ⟨.base (.dK z), by decide⟩
    · exact ⟨.fDict z, by decide⟩
  | _ => cases h
theorem ok_isTy {a : Expr} {A : Mp.E} {t : String} {p p2 pos : Pos} (g1 : Gl X "isinstance") (m1 : X.mg "isinstance" = none) (ht : t ∈ tNames) (g2 : Gl X t) (m2 : X.mg t = none) (ok : OkE mg e W X Φ a A) :
    OkE mg e W X Φ (.Call (.Name "isinstance" p) [a, .Name t p2] [] pos) (.bi (.isTy t) [A]) := by
  have pa : PA X [a, .Name t p2] (tCons (rdB mg e W (fun env => ev Φ A false env)) (tCons (tC (.ty t)) tNil)) :=
    pa_cons ok.brw (pa_cons (pe_bltn g2 m2 (boot_ty ht) rfl (ty_name ht).1 (ty_name ht).2) pa_nil (plain_star rfl)) (plain_star ok.pl)
  refine Ok3.ofE (by rfl) rfl (PE.of (pe_callB (call_isi) g1 m1 boot_isi pa (by decide) (by decide) (plain_star ok.pl) (plain_any (by rfl))) fun σ H Q ⟨env, F, T, f, h⟩ => ?_)
  have one : ∀ {k : List D → R D}, (seqR (evs Φ [A] false env) >>= k) = (ev Φ A false env >>= fun d => k [d]) := fun {k} => by
    show (seqR [ev Φ A false env] >>= k) = _
    cases ev Φ A false env <;> rfl
  have h : RW (seqR (evs Φ [A] false env) >>= fun ds => ofO (biD (.isTy t) (([A] : List Mp.E).any bor) ds)) (KE mg 1 Q F H) (EX mg W σ F H) := h
  rw [one] at h
  refine bX (b := true) KE.grows f h fun F1 H1 dx x g1 f1 rx fx h => ?_
  obtain ⟨d, ed, q⟩ := RW_ofO.mp h
  have ed : (tyN dx).map (fun n => D.bl (isT n t)) = some d := ed
  cases hb : tyN dx with
  | none => rw [hb] at ed; cases ed
  | some n =>
    rw [hb] at ed; cases ed
    obtain ⟨ty, k⟩ := ty_of (K := X.K) rx hb
    exact ⟨x, .ty t, _, _, _, rfl, .ty t, ty, kit_ty (kit_t ht k), q.bl f1.le⟩
end
end Mp
/-! calls of the program's own functions -/
namespace Mp
open PySem PySem.Spec PyProof.Rows L2 PySem.SeqAt

/-! ### the kit's rules, with a wish at the slots -/
section
variable {X : Cx} {CX : CXT} {k : Nat} {f C p g a dx : Addr} {fd : FuncData} {ps : List Str} {sp : Sp} {dvs : List V} {ds : List Value} {E : L2.St → XK} {x m : Str} {pp pos apos : Pos} {e o : Expr} {es : List Expr} {ta : TE} {t : TA}
theorem pe_callS0 (F : FnOk X.prog X.w X.K X.mg X.base CX k f fd ps sp) (hr : Room k X.A) (hg : Gl X x) (hm : X.mg x = some (.ref f)) (hk : PySem.W.keepIn X.K (.ref f) = true) (hb : Binds X.K fd ps []) (hx : ∀ σ, PassesAt CX X σ (E σ))
    (hdb : (x == ("__debug__" : Str)) = false) : PE X (.Call (.Name x pp) [] [] pos) (fun σ H Q => sp [] H Q (E σ)) := by
  refine ⟨fun pins s σ H Q I h => ?_⟩
  refine wpAny_Call_Name_kw (ld_glob I hg hm ?_ hdb)
  exact PySem.W.callWith_K0 I.kIn hk (run_fnS (us := []) F hr hb (hx σ) I .nil h)
theorem run_makeS {pins : List (Addr × Obj)} {σ : L2.St} {H : Hp} {s : Shared} {Q : VK} {us : List Value} {vs : List V} {E : XK} (M : Mk X.K C f) (F : FnOk X.prog X.w X.K X.mg X.base CX k f fd ps sp) (hr : Room (k + 1) X.A) (hb : Binds X.K fd ps [])
    (hx : PassesAt CX X σ E) (I : Inv X pins σ H s) (r : Vals vs us)
    (h : ∀ x dx, H x = none → H dx = none → dx ≠ x → sp (.ref x :: vs) (upd (upd H dx (.own x)) x (.ins C dx [])) (fun v H2 => v = .non ∧ Q (.ref x) H2) E) :
    wpAny (model X.prog X.w) X.A (call (.ref C) us) (EP X pins σ Q) X.xe s := by
  have hq := h (s.heap.objs.size + 1) s.heap.objs.size (I.hok.fresh (Nat.le_succ _)) (I.hok.fresh (Nat.le_refl _)) (Nat.ne_of_lt (Nat.lt_succ_self _))
  have I2 := Inv.made (C := C) I
  have r2 : Vals (V.ref (s.heap.objs.size + 1) :: vs) (Value.ref (s.heap.objs.size + 1) :: us) := .cons rfl r
  have hl : (Value.ref (s.heap.objs.size + 1) :: us).length = ps.length := by
    have e := r2.length
    rw [F.len _ _ _ _ hq] at e
    exact e.symm
  have b := hb _ (Value.ref (s.heap.objs.size + 1) :: us) I2.kIn (by rw [List.append_nil]; exact hl)
  rw [List.append_nil] at b
  refine wpAny_call (make_map (f := f) I.kIn M.makes M.init (beq_iff_eq.mp M.fn) (codeAny_mono (F.run _ X.stack _ _ ⟨Value.ref (s.heap.objs.size + 1) :: us, []⟩ (Value.ref (s.heap.objs.size + 1) :: us) _ _ E (hr.make C us [])
    (I2.env0.make C us []) b r2 hq) fun r s' hq' => ?_))
  cases r with
  | error e => exact hx pins _ _ e s' I2 hq'
  | ok fl =>
    cases fl with
    | ret u =>
      obtain ⟨v, H', I3, rv, ev, q3⟩ := I2.after hq'
      subst ev
      exact ⟨rv, ⟨V.ref (s.heap.objs.size + 1), H', I3, rfl, q3⟩⟩
    | next => exact False.elim hq'
    | brk => exact False.elim hq'
    | cont => exact False.elim hq'
def tMakeS (C : Addr) (sp : Sp) (E : L2.St → XK) (t : TA) : TE := fun σ H Q => t σ H fun vs H1 => ∀ x dx, H1 x = none → H1 dx = none → dx ≠ x →
  sp (.ref x :: vs) (upd (upd H1 dx (.own x)) x (.ins C dx [])) (fun v H2 => v = .non ∧ Q (.ref x) H2) (E σ)
theorem pe_makeS (M : Mk X.K C f) (F : FnOk X.prog X.w X.K X.mg X.base CX k f fd ps sp) (hr : Room (k + 1) X.A) (hg : Gl X x) (hm : X.mg x = some (.ref C)) (hb : Binds X.K fd ps []) (hx : ∀ σ, PassesAt CX X σ (E σ))
    (ha : PA X (e :: es) t) (hdb : (x == ("__debug__" : Str)) = false) (he : starEach (e :: es) X.env = (false, eval e X.env) :: starEach es X.env) (hpl : (backTo pos (starEach es X.env)).any (·.1) = false) :
    PE X (.Call (.Name x pp) (e :: es) [] pos) (tMakeS C sp E t) := by
  refine ⟨fun pins s σ H Q I h => ?_⟩
  refine wpAny_Call_Name_kw (ld_glob I hg hm ?_ hdb)
  refine PySem.W.callWith_K (h₀ := X.base) I.ok.mod.kin M.kp (thn (ha.run pos pins s σ H _ I h) fun us s1 ⟨vs, H1, I1, r, q⟩ => ⟨I1.kIn, ?_⟩) he hpl
  exact run_makeS M F hr hb (hx σ) I1 r q
theorem pe_makeS0 (M : Mk X.K C f) (F : FnOk X.prog X.w X.K X.mg X.base CX k f fd ps sp) (hr : Room (k + 1) X.A) (hg : Gl X x) (hm : X.mg x = some (.ref C)) (hb : Binds X.K fd ps []) (hx : ∀ σ, PassesAt CX X σ (E σ))
    (hdb : (x == ("__debug__" : Str)) = false) : PE X (.Call (.Name x pp) [] [] pos) (tMakeS C sp E tNil) := by
  refine ⟨fun pins s σ H Q I h => ?_⟩
  refine wpAny_Call_Name_kw (ld_glob I hg hm ?_ hdb)
  exact PySem.W.callWith_K0 I.kIn M.kp (run_makeS (us := []) M F hr hb (hx σ) I .nil h)
def tMethS (C : Addr) (m : Str) (sp : Sp) (E : L2.St → XK) (ta : TE) (t : TA) : TE := fun σ H Q => ta σ H fun x H1 => ∃ a dx fs, x = .ref a ∧ H1 a = some (.ins C dx fs) ∧ fs.lookup m = none ∧
  t σ H1 fun vs H2 => sp (x :: vs) H2 Q (E σ)
theorem pe_methS {pl : Sem Bool} (he : PE X o ta) (c : Cls X.K C) (hm : Meth X.K C m f) (F : FnOk X.prog X.w X.K X.mg X.base CX k f fd ps sp) (hr : Room k X.A) (hb : Binds X.K fd ps []) (hx : ∀ σ, PassesAt CX X σ (E σ)) (ha : PA X (e :: es) t)
    (hst : starEach (e :: es) X.env = (false, eval e X.env) :: starEach es X.env) (hpl : (backTo pos (starEach es X.env)).any (·.1) = false)
    (ht : eval (.Call (.Attribute o m apos) (e :: es) [] pos) X.env = (do
      let ov ← eval o X.env
      standAt apos.atName
      let (f, first) ← holding [ov] (getMethod ov m pl)
      callWith pos f first (backTo pos (starEach (e :: es) X.env)) (backToKw pos (keywordEach [] X.env)))) :
    PE X (.Call (.Attribute o m apos) (e :: es) [] pos) (tMethS C m sp E ta t) := by
  refine ⟨fun pins s σ H Q I h => ?_⟩
  refine PySem.W.methodCall_KW (pl := pl) (thn (he.run pins s σ H _ I h) fun u s1 ⟨x, H1, I1, rx, a, dx, fs, ex, ea, l, q⟩ => ?_) ht
  subst ex
  obtain rfl : u = Value.ref a := rx
  refine getmeth_ok I1 ea c hm l ?_
  refine PySem.W.callWith_K (first := [.ref a]) (h₀ := X.base) I.ok.mod.kin hm.kp (thn (ha.run pos pins s1 σ H1 _ I1 q) fun us s2 ⟨vs, H2, I2, r, q2⟩ => ⟨I2.kIn, ?_⟩) hst hpl
  exact run_fnS (us := .ref a :: us) (vs := .ref a :: vs) F hr hb (hx σ) I2 (.cons rfl r) q2
theorem pe_methS0 {pl : Sem Bool} (he : PE X o ta) (c : Cls X.K C) (hm : Meth X.K C m f) (F : FnOk X.prog X.w X.K X.mg X.base CX k f fd ps sp) (hr : Room k X.A) (hb : Binds X.K fd ps []) (hx : ∀ σ, PassesAt CX X σ (E σ))
    (ht : eval (.Call (.Attribute o m apos) [] [] pos) X.env = (do
      let ov ← eval o X.env
      standAt apos.atName
      let (f, first) ← holding [ov] (getMethod ov m pl)
      callWith pos f first (backTo pos (starEach [] X.env)) (backToKw pos (keywordEach [] X.env)))) :
    PE X (.Call (.Attribute o m apos) [] [] pos) (tMethS C m sp E ta tNil) := by
  refine ⟨fun pins s σ H Q I h => ?_⟩
  refine PySem.W.methodCall_KW (pl := pl) (thn (he.run pins s σ H _ I h) fun u s1 ⟨x, H1, I1, rx, a, dx, fs, ex, ea, l, q⟩ => ?_) ht
  subst ex
  obtain rfl : u = Value.ref a := rx
  refine getmeth_ok I1 ea c hm l ?_
  exact PySem.W.callWith_K0 (first := [.ref a]) I1.kIn hm.kp (run_fnS (us := [.ref a]) (vs := [.ref a]) F hr hb (hx σ) I1 (.cons rfl .nil) q)
end

/-- what is told of a function of the program -/
structure Sig where
  np : Nat
  bs : List Bool
  k : Nat
  ini : Option String
/-- the wish about a callee's exceptions -/
def XX (gd : Gd) (E : XK) (F H : Hp) (c : String) (x : Option D) : Prop := ∀ C dd F' H', Grow F H F' H' → ExR gd F' H' c x C dd → E (.ref C) dd H'
def spF (gd : Gd) (g : Sig) (φ : List D → R D) : Sp := fun vs H Q E => vs.length = g.np ∧ match g.ini with
  | none => ∃ F ds, Le F H ∧ RepM gd g.bs F H vs ds ∧ RW (φ ds) (KE gd g.k Q F H) (XX gd E F H)
  | some c => ∃ x dx C H0 F ws ds, vs = .ref x :: ws ∧ H = upd (upd H0 dx (.own x)) x (.ins C dx []) ∧ H0 x = none ∧ H0 dx = none ∧ dx ≠ x ∧ gd.mg c = some (.ref C) ∧ Le F H0 ∧ RepM gd g.bs F H0 ws ds ∧
      RW (φ ds) (fun r => ∀ F' H' S, Grow F H0 F' H' → RepN gd g.k F' H' (.ref x) r S → (∀ a ∈ S, H0 a = none) → Q .non H') (XX gd E F H0)
/-- a def of the module at a keeps the promise -/
def FnK (gd : Gd) (X : Cx) (Φ : String → List D → R D) (lv : Nat) (f : String) (g : Sig) (a : Addr) : Prop :=
  ∃ fd ps, FnOk X.prog X.w X.K X.mg X.base (L2.CX X.prog X.w) lv a fd ps (spF gd g (Φ f)) ∧ Binds X.K fd ps []

section
variable {mg : Gd} {e : Ent} {env : Sls} {F F' F1 H H' H1 : Hp} {σ : L2.St} {T : Nat → List Addr} {W : WX} {α β : Type} {X : Cx} {Φ : String → List D → R D}
/-- more may be borrowed -/
def bsLe : List Bool → List Bool → Bool
  | [], _ => true
  | b :: bs, cs => (!b || cs.headD false) && bsLe bs cs.tail
theorem RepM.weak : ∀ {bs cs : List Bool} {vs : List V} {ds : List D}, bsLe bs cs = true → Le F H → RepM mg bs F H vs ds → RepM mg cs F H vs ds
  | bs, cs, vs, [], _, _, h => by unfold RepM at h ⊢; exact h
  | bs, cs, vs, d :: ds, hl, le, h => by
    unfold RepM at h ⊢
    obtain ⟨v, r, e1, h1, h2⟩ := h
    have hh : (bs.headD false = true → cs.headD false = true) ∧ bsLe bs.tail cs.tail = true := by
      cases bs with
      | nil => exact ⟨(fun z => by cases z), rfl⟩
      | cons b bs =>
        unfold bsLe at hl
        rw [Bool.and_eq_true, Bool.or_eq_true] at hl
        refine ⟨fun z => ?_, hl.2⟩
        have z : b = true := z
        rcases hl.1 with w | w
        · rw [z] at w; cases w
        · exact w
    refine ⟨v, r, e1, ?_, RepM.weak hh.2 le h2⟩
    cases hb : bs.headD false with
    | true =>
      rw [hb, if_pos rfl] at h1
      rw [hh.1 hb, if_pos rfl]; exact h1
    | false =>
      rw [hb, if_neg (by decide)] at h1
      split
      · exact Rep.mono le h1
      · exact h1
theorem RepM.length : ∀ {bs : List Bool} {vs : List V} {ds : List D}, RepM mg bs F H vs ds → vs.length = ds.length
  | bs, vs, [], h => by unfold RepM at h; subst h; rfl
  | bs, vs, d :: ds, h => by
    unfold RepM at h
    obtain ⟨v, r, e1, _, h2⟩ := h
    subst e1
    rw [List.length_cons, List.length_cons, RepM.length h2]
theorem evs_len : ∀ {Es : List Mp.E} {t : Bool} {env : Sls}, (evs Φ Es t env).length = Es.length
  | [], _, _ => rfl
  | E :: Es, t, env => by show (evs Φ Es t env).length + 1 = _; rw [evs_len]; rfl
/-- .. of their length -/
theorem bAl {Es : List Mp.E} {K : Hp → Hp → α → Prop} (hK : Grows K) (f : Frm mg e env F σ H T) {g : List D → R α} {Q : List V → Hp → Prop} (h : RW (seqR (evs Φ Es false env) >>= g) (K F H) (EX mg W σ F H))
    (next : ∀ F1 H1 ds xs, Grow F H F1 H1 → Frm mg e env F1 σ H1 T → RepM mg (Es.map bor) F1 H1 xs ds → ds.length = Es.length → RW (g ds) (K F1 H1) (EX mg W σ F1 H1) → Q xs H1) : rdA mg e W (Es.map bor) (fun env => seqR (evs Φ Es false env)) σ H Q := by
  have sl : ∀ {rs : List (R D)} {p : List D → Prop} {q : String → Option D → Prop}, RW (seqR rs) p q → RW (seqR rs) (fun ds => ds.length = rs.length ∧ p ds) q := fun {rs} => by
    induction rs with
    | nil => intro p q h; exact ⟨rfl, h⟩
    | cons r rs ih =>
      intro p q h
      refine RW_bind.mpr ((RW_bind.mp h).imp (fun d h => RW_bind.mpr ((ih (RW_bind.mp h)).imp (fun ds h => ?_) fun _ _ z => z)) fun _ _ z => z)
      exact ⟨by rw [List.length_cons, h.1]; rfl, h.2⟩
  exact ⟨env, F, T, f, (sl (RWb h)).imp (fun ds q v F1 H1 g1 r => next F1 H1 ds v g1 (f.grow g1) r (by rw [q.1]; exact evs_len) (RW.grow hK g1 q.2)) fun _ _ z => z⟩
theorem EX.at {c : String} {x : Option D} (h : EX mg W σ F H c x) : XX mg (WE W σ) F H c x := h
theorem ok_call {lv : Nat} {f : String} {g : Sig} {a : Addr} {x : Str} {p pos : Pos} {exs : List Expr} {Es : List Mp.E} (fk : FnK mg X Φ lv f g a) (hr : Room lv X.A) (tk : Takes X W) (hg : Gl X x) (hm : X.mg x = some (.ref a)) (hk : PySem.W.keepIn X.K (.ref a) = true)
    (hi : g.ini = none) (hn : Es.length = g.np) (hb : bsLe (Es.map bor) g.bs = true) (hdb : (x == ("__debug__" : Str)) = false) (hs : (x != ("super" : Str)) = true) (ok : OkEs mg e W X Φ exs Es) : OkE mg e W X Φ (.Call (.Name x p) exs [] pos) (.call f g.k Es) := by
  obtain ⟨fd, ps, fo, bd⟩ := fk
  refine Ok3.ofE hs rfl ?_
  cases exs with
  | nil =>
    cases Es with
    | cons _ _ => exact ok.elim
    | nil =>
      refine PE.of (pe_callS0 fo hr hg hm hk bd (fun σ => passAt tk σ) hdb) fun σ H Q ⟨env, F, T, f, h⟩ => ?_
      refine ⟨hn, ?_⟩
      rw [hi]
      exact ⟨F, [], f.le, (by unfold RepM; rfl), h⟩
  | cons a0 exs =>
    have pl := ok.plain
    rw [List.all_cons, Bool.and_eq_true] at pl
    refine PE.of (pe_callS fo hr hg hm hk bd (fun σ => passAt tk σ) (r_args ok) hdb (plain_star pl.1) (plain_any pl.2)) fun σ H Q ⟨env, F, T, f, h⟩ => ?_
    refine bAl KE.grows f h fun F1 H1 ds xs g1 f1 rs hl h => ?_
    refine ⟨by rw [RepM.length rs, hl]; exact hn, ?_⟩
    rw [hi]
    exact ⟨F1, ds, f1.le, RepM.weak hb f1.le rs, h⟩
theorem RepN.anyk {k : Nat} {x : V} {r : D} {S : List Addr} (h : RepN mg k F H x r S) : RepN mg k F H x r S := h
theorem ok_new {lv : Nat} {c : String} {cs : Str} {g : Sig} {a C : Addr} {p pos : Pos} {exs : List Expr} {Es : List Mp.E} (fk : FnK mg X Φ lv (c ++ ".__init__") g a) (hr : Room (lv + 1) X.A) (tk : Takes X W) (hg : Gl X cs) (hm : X.mg cs = some (.ref C)) (hmg : mg.mg c = some (.ref C)) (M : Mk X.K C a)
    (hi : g.ini = some c) (hn : Es.length + 1 = g.np) (hb : bsLe (Es.map bor) g.bs = true) (hdb : (cs == ("__debug__" : Str)) = false) (hs : (cs != ("super" : Str)) = true) (ok : OkEs mg e W X Φ exs Es) : OkE mg e W X Φ (.Call (.Name cs p) exs [] pos) (.new c g.k Es) := by
  obtain ⟨fd, ps, fo, bd⟩ := fk
  refine Ok3.ofE hs rfl ?_
  have key : ∀ {F1 H1 : Hp} {ds : List D} {xs : List V} {Q : VK} {σ : L2.St}, Le F1 H1 → RepM mg (Es.map bor) F1 H1 xs ds → ds.length = Es.length → RW (Φ (c ++ ".__init__") ds) (KE mg g.k Q F1 H1) (EX mg W σ F1 H1) → ∀ x dx, H1 x = none → H1 dx = none → dx ≠ x →
      spF mg g (Φ (c ++ ".__init__")) (.ref x :: xs) (upd (upd H1 dx (.own x)) x (.ins C dx [])) (fun v H2 => v = .non ∧ Q (.ref x) H2) (WE W σ) := fun {F1 H1 ds xs Q σ} le rs hl h x dx n1 n2 ne => by
    refine ⟨by rw [List.length_cons, RepM.length rs, hl]; exact hn, ?_⟩
    rw [hi]
    refine ⟨x, dx, C, H1, F1, xs, ds, rfl, rfl, n1, n2, ne, hmg, le, RepM.weak hb le rs, h.imp (fun r q F' H' S g1 rn fr => ⟨rfl, q (.ref x) F' H' S g1 rn fr⟩) fun _ _ z => z⟩
  cases exs with
  | nil =>
    cases Es with
    | cons _ _ => exact ok.elim
    | nil => exact PE.of (pe_makeS0 M fo hr hg hm bd (fun σ => passAt tk σ) hdb) fun σ H Q ⟨env, F, T, f, h⟩ => key f.le (show RepM mg [] F H [] [] by unfold RepM; rfl) rfl h
  | cons a0 exs =>
    have pl := ok.plain
    rw [List.all_cons, Bool.and_eq_true] at pl
    refine PE.of (pe_makeS M fo hr hg hm bd (fun σ => passAt tk σ) (r_args ok) hdb (plain_star pl.1) (plain_any pl.2)) fun σ H Q ⟨env, F, T, f, h⟩ => ?_
    exact bAl KE.grows f h fun F1 H1 ds xs g1 f1 rs hl h => key f1.le rs hl h
theorem zip_no {m : Str} : ∀ {ns : List Str} {vs : List V}, m ∉ ns → (ns.zip vs).lookup m = none
  | [], _, _ => rfl
  | _ :: _, [], _ => rfl
  | n :: ns, v :: vs, h => by
    rw [List.mem_cons, not_or] at h
    rw [List.zip_cons_cons, List.lookup_cons, beq_eq_false_iff_ne.mpr h.1]
    exact zip_no h.2
theorem ok_met {lv : Nat} {c m : String} {ms : Str} {g : Sig} {a C : Addr} {apos pos : Pos} {o : Expr} {exs : List Expr} {O : Mp.E} {Es : List Mp.E} (fk : FnK mg X Φ lv (c ++ "." ++ m) g a) (hr : Room lv X.A) (tk : Takes X W) (hmg : mg.mg c = some (.ref C)) (cl : Cls X.K C) (hm : Meth X.K C ms a) (nf : ms ∉ mg.cf c)
    (hi : g.ini = none) (hn : Es.length + 1 = g.np) (hb : bsLe (bor O :: Es.map bor) g.bs = true) (ho : OkE mg e W X Φ o O) (ok : OkEs mg e W X Φ exs Es) (hl : (apos.endLine == pos.line) = true)
    (ht : ∃ pl : Sem Bool, eval (.Call (.Attribute o ms apos) exs [] pos) X.env = (do
      let ov ← attributeBase o ms X.env (eval o X.env)
      standAt apos.atName
      let (f, first) ← holding [ov] (getMethod ov ms pl)
      callWith pos f first (backTo pos (starEach exs X.env)) (backToKw pos (keywordEach [] X.env)))) : OkE mg e W X Φ (.Call (.Attribute o ms apos) exs [] pos) (.met c m g.k O Es) := by
  obtain ⟨fd, ps, fo, bd⟩ := fk
  obtain ⟨pl0, ht⟩ := ht
  rw [plain_base ho.pl] at ht
  refine Ok3.ofE rfl rfl ?_
  have obj : ∀ {F1 H1 : Hp} {dx : D} {x : V}, isObj' c dx = true → Rep mg H1 x dx → ∃ p d fs, x = .ref p ∧ H1 p = some (.ins C d fs) ∧ fs.lookup ms = none := fun {F1 H1 dx x} z rx => by
    cases dx with
    | obj c' ds =>
      have z : c' = c := beq_iff_eq.mp z
      subst z
      obtain ⟨p, C', d, vs, ep, _, hm', hp, _⟩ := rep_obj rx
      have : C' = C := by rw [hmg] at hm'; cases hm'; rfl
      subst this
      exact ⟨p, d, _, ep, hp, zip_no nf⟩
    | _ => cases z
  cases exs with
  | nil =>
    cases Es with
    | cons _ _ => exact ok.elim
    | nil =>
      refine PE.of (pe_methS0 (pl := pl0) ho.x cl hm fo hr bd (fun σ => passAt tk σ) ht) fun σ H Q ⟨env, F, T, f, h⟩ => ?_
      refine bX KE.grows f h fun F1 H1 dx x g1 f1 rx fx h => ?_
      obtain ⟨z, h⟩ := RW.okIf.mp h
      obtain ⟨p, d, fs, ep, hp, hl⟩ := obj (F1 := F1) z rx
      refine ⟨p, d, fs, ep, hp, hl, ?_⟩
      refine ⟨hn, ?_⟩
      rw [hi]
      refine ⟨F1, [dx], f1.le, RepM.weak hb f1.le ?_, h⟩
      unfold RepM
      refine ⟨x, [], rfl, ?_, by unfold RepM; rfl⟩
      show Rep mg (if bor O then H1 else F1) x dx
      cases hb : bor O with
      | true => exact rx
      | false => exact fx hb
  | cons a0 exs =>
    have pl := ok.plain
    rw [List.all_cons, Bool.and_eq_true] at pl
    refine PE.of (pe_methS (pl := pl0) ho.x cl hm fo hr bd (fun σ => passAt tk σ) (r_args ok) (plain_star pl.1) (plain_any pl.2) ht) fun σ H Q ⟨env, F, T, f, h⟩ => ?_
    refine bX KE.grows f h fun F1 H1 dx x g1 f1 rx fx h => ?_
    obtain ⟨z, h⟩ := RW.okIf.mp h
    obtain ⟨p, d, fs, ep, hp, hl⟩ := obj (F1 := F1) z rx
    refine ⟨p, d, fs, ep, hp, hl, ?_⟩
    refine bAl KE.grows f1 h fun F2 H2 ds xs g2 f2 rs hl h => ?_
    refine ⟨by rw [List.length_cons, RepM.length rs, hl]; exact hn, ?_⟩
    rw [hi]
    refine ⟨F2, dx :: ds, f2.le, RepM.weak hb f2.le ?_, h⟩
    unfold RepM
    refine ⟨x, xs, rfl, ?_, rs⟩
    show Rep mg (if bor O then H2 else F2) x dx
    cases hb : bor O with
    | true => exact Rep.up g2 rx
    | false => exact Rep.grow g2 (fx hb)
theorem RW.noexc {r : R α} {p : α → Prop} {q q' : String → Option D → Prop} (h : RW (noexc r) p q) : RW r p q' := by
  cases r with
  | ok a => exact h
  | exc c x => exact h.elim
  | bad => exact h.elim
theorem passNox {X : Cx} : Passes (L2.CX X.prog X.w) X.nox (fun _ _ _ => False) := fun pins σ H s e1 s' I c =>
  passes_call (X := X.nox) (W := fun _ _ _ _ => False) (fun u s' ⟨_, _, _, _, _, _, _, _, _, _, _, _, _, _, _, _, w⟩ => w.elim) (E := fun _ _ _ => False) (fun _ _ _ _ z => z) pins σ H s e1 s' I c
theorem ok_prp {lv : Nat} {c m : String} {ms : Str} {g : Sig} {a C pr : Addr} {pos : Pos} {o : Expr} {O : Mp.E} (fk : FnK mg X Φ lv (c ++ "." ++ m) g a) (hr : Room (lv + 1) X.A) (hmg : mg.mg c = some (.ref C)) (cl : Cls X.K C) (hp : PropOf X.K C ms pr a)
    (hi : g.ini = none) (hn : 1 = g.np) (hb : bsLe [bor O] g.bs = true) (ho : OkE mg e W X Φ o O) : OkE mg e W X Φ (.Attribute o ms pos) (.prp c m g.k O) := by
  obtain ⟨fd, ps, fo, bd⟩ := fk
  refine Ok3.ofE rfl rfl (PE.of (pe_prop (E := fun _ _ _ => False) ho.x cl hp fo hr bd .nil passNox (plain_base ho.pl)) fun σ H Q ⟨env, F, T, f, h⟩ => ?_)
  refine bX KE.grows f h fun F1 H1 dx x g1 f1 rx fx h => ?_
  obtain ⟨z, h⟩ := RW.okIf.mp h
  cases dx with
  | obj c' ds =>
    have z : c' = c := beq_iff_eq.mp z
    subst z
    obtain ⟨p, C', d, vs, ep, _, hm', hpp, _⟩ := rep_obj rx
    have : C' = C := by rw [hmg] at hm'; cases hm'; rfl
    subst this
    subst ep
    refine ⟨p, d, _, rfl, hpp, hn, ?_⟩
    rw [hi]
    refine ⟨F1, [.obj c' ds], f1.le, RepM.weak hb f1.le ?_, RW.noexc h⟩
    unfold RepM
    refine ⟨.ref p, [], rfl, ?_, by unfold RepM; rfl⟩
    show Rep mg (if bor O then H1 else F1) (.ref p) _
    cases hb : bor O with
    | true => exact rx
    | false => exact fx hb
  | _ => cases z
end
end Mp
/-! targets, locks, walks -/
namespace Mp
open PySem PySem.Spec PyProof.Rows L2 PySem.SeqAt

section
variable {mg : Gd} {e : Ent} {env env' : Sls} {F F' F1 H H' H1 : Hp} {σ : L2.St} {T : Nat → List Addr} {W : WX} {α β : Type} {X : Cx} {Φ : String → List D → R D}
/-! ### slots are set -/
theorem get_set_ne {α : Type} {l : List α} {i j : Nat} {x : α} (h : i ≠ j) : (l.set i x)[j]? = l[j]? := List.getElem?_set_ne h
theorem get_set_eq {α : Type} {l : List α} {i : Nat} {x y : α} (h : (l.set i x)[i]? = some y) : y = x := by
  rw [List.getElem?_set_self' ] at h
  cases q : l[i]? with
  | none => rw [q] at h; cases h
  | some z => rw [q] at h; cases h; rfl
theorem Frm.set (f : Frm mg e env F σ H T) {i : Nat} {v : V} {d : D} (hi : i < env.length) (r : Rep mg F v d) : Frm mg e (env.set i (.val d)) F (σ.set i (some v)) H T where
  same := f.same
  le := f.le
  ext := f.ext
  new := f.new
  leB := f.leB
  len := by rw [List.length_set, List.length_set]; exact f.len
  val := fun j d' h => by
    by_cases q : i = j
    · subst q
      have := get_set_eq h
      cases this
      exact ⟨v, by rw [List.getElem?_set_self (by rw [f.len]; exact hi)], r⟩
    · rw [get_set_ne q] at h ⊢; exact f.val j d' h
  bor := fun j d' h => by
    by_cases q : i = j
    · subst q; have := get_set_eq h; cases this
    · rw [get_set_ne q] at h ⊢; exact f.bor j d' h
  own := fun j k d' h => by
    by_cases q : i = j
    · subst q; have := get_set_eq h; cases this
    · rw [get_set_ne q] at h ⊢; exact f.own j k d' h
  frs := fun j k d' h => by
    by_cases q : i = j
    · subst q; have := get_set_eq h; cases this
    · rw [get_set_ne q] at h; exact f.frs j k d' h
  dis := fun j l k k' d' d'' ne h h' => by
    by_cases q : i = j
    · subst q; have := get_set_eq h; cases this
    · by_cases q' : i = l
      · subst q'; have := get_set_eq h'; cases this
      · rw [get_set_ne q] at h; rw [get_set_ne q'] at h'; exact f.dis j l k k' d' d'' ne h h'
  pin := fun w k d' hp h => by
    by_cases q : i = 0
    · subst q; have := get_set_eq h; cases this
    · rw [get_set_ne q] at h ⊢; exact f.pin w k d' hp h
theorem Frm.wipe (f : Frm mg e env F σ H T) (i : Nat) (x : Option V) : Frm mg e (env.set i .no) F (σ.set i x) H T where
  same := f.same
  le := f.le
  ext := f.ext
  new := f.new
  leB := f.leB
  len := by rw [List.length_set, List.length_set]; exact f.len
  val := fun j d' h => by
    by_cases q : i = j
    · subst q; have := get_set_eq h; cases this
    · rw [get_set_ne q] at h ⊢; exact f.val j d' h
  bor := fun j d' h => by
    by_cases q : i = j
    · subst q; have := get_set_eq h; cases this
    · rw [get_set_ne q] at h ⊢; exact f.bor j d' h
  own := fun j k d' h => by
    by_cases q : i = j
    · subst q; have := get_set_eq h; cases this
    · rw [get_set_ne q] at h ⊢; exact f.own j k d' h
  frs := fun j k d' h => by
    by_cases q : i = j
    · subst q; have := get_set_eq h; cases this
    · rw [get_set_ne q] at h; exact f.frs j k d' h
  dis := fun j l k k' d' d'' ne h h' => by
    by_cases q : i = j
    · subst q; have := get_set_eq h; cases this
    · by_cases q' : i = l
      · subst q'; have := get_set_eq h'; cases this
      · rw [get_set_ne q] at h; rw [get_set_ne q'] at h'; exact f.dis j l k k' d' d'' ne h h'
  pin := fun w k d' hp h => by
    by_cases q : i = 0
    · subst q; have := get_set_eq h; cases this
    · rw [get_set_ne q] at h ⊢; exact f.pin w k d' hp h
theorem Frm.wipes (f : Frm mg e env F σ H T) : ∀ vs : List Nat, Frm mg e (wipeE env vs) F (L2.wipe σ vs) H T
  | [] => f
  | v :: vs => (Frm.wipes f vs).wipe v none

/-! ### targets -/
mutual
/-- the target's text -/
def mT (N : List Str) (so : Scope) : Tg → Expr → Bool
  | .nm i, .Name x _ => decide (N[i]? = some x) && (decide (so.names.lookup x = some .local) || decide (so.names.lookup x = some .cell))
  | .tp ts, .Tuple es _ _ => mTs N so ts es
  | _, _ => false
def mTs (N : List Str) (so : Scope) : List Tg → List Expr → Bool
  | [], [] => true
  | t :: ts, e :: es => mT N so t e && mTs N so ts es
  | _, _ => false
end
/-- names that may be stored -/
structure AsOk (X : Cx) (so : Scope) : Prop where
  nd : X.N.Nodup
  calm : X.calm = true
  loc : ∀ x, so.names.lookup x = some .local ∨ so.names.lookup x = some .cell → Loc X.env.scope x ∧ (X.fn x = true ∨ X.env.scope.names.lookup x = some .local)
mutual
/-- the slots of a target -/
def tgs : Tg → List Nat
  | .nm i => [i]
  | .tp ts => tgss ts
def tgss : List Tg → List Nat
  | [] => []
  | t :: ts => tgs t ++ tgss ts
end
/-- no other slot has changed -/
def Only (vs : List Nat) (σ σ' : L2.St) : Prop := σ'.length = σ.length ∧ ∀ i, i ∉ vs → σ'[i]? = σ[i]?
theorem Only.refl {vs : List Nat} {σ : L2.St} : Only vs σ σ := ⟨rfl, fun _ _ => rfl⟩
theorem Only.trans {vs ws : List Nat} {a b c : L2.St} (h : Only vs a b) (g : Only ws b c) : Only (vs ++ ws) a c :=
  ⟨g.1.trans h.1, fun i m => by rw [List.mem_append, not_or] at m; rw [g.2 i m.2, h.2 i m.1]⟩
def gB (mg : Gd) (e : Ent) (tg : Tg) : TG := fun v σ H Q => ∃ env F T d env', Frm mg e env F σ H T ∧ Rep mg F v d ∧ bindT tg d env = some env' ∧ ∀ σ', Only (tgs tg) σ σ' → Frm mg e env' F σ' H T → Q σ' H
def gBs (mg : Gd) (e : Ent) (ts : List Tg) : TGs := fun vs σ H Q => ∃ env F T ds env', Frm mg e env F σ H T ∧ Reps mg F vs ds ∧ bindTs ts ds env = some env' ∧ ∀ σ', Only (tgss ts) σ σ' → Frm mg e env' F σ' H T → Q σ' H
theorem PG.of {ex : Expr} {t t' : TG} (h : PG X ex t) (i : ∀ v σ H Q, t' v σ H Q → t v σ H Q) : PG X ex t' := ⟨fun pins s σ H v u Q I r q => h.run pins s σ H v u Q I r (i v σ H Q q)⟩
theorem PGs.of {es : List Expr} {t t' : TGs} (h : PGs X es t) (i : ∀ vs σ H Q, t' vs σ H Q → t vs σ H Q) : PGs X es t' := ⟨fun pins s σ H v u Q I r q => h.run pins s σ H v u Q I r (i v σ H Q q)⟩
theorem mT_name {N : List Str} {so : Scope} {t : Tg} {ex : Expr} (h : mT N so t ex = true) : (∃ i x p, t = .nm i ∧ ex = .Name x p ∧ N[i]? = some x ∧ (so.names.lookup x = some .local ∨ so.names.lookup x = some .cell)) ∨ (∃ ts es n p, t = .tp ts ∧ ex = .Tuple es n p ∧ mTs N so ts es = true) := by
  cases t with
  | nm i =>
    cases ex with
    | Name x p =>
      unfold mT at h
      rw [Bool.and_eq_true, Bool.or_eq_true] at h
      exact .inl ⟨i, x, p, rfl, rfl, of_decide_eq_true h.1, h.2.imp of_decide_eq_true of_decide_eq_true⟩
    | _ => unfold mT at h; cases h
  | tp ts =>
    cases ex with
    | Tuple es n p => unfold mT at h; exact .inr ⟨ts, es, n, p, rfl, rfl, h⟩
    | _ => unfold mT at h; cases h
theorem mTs_len {N : List Str} {so : Scope} : ∀ {ts : List Tg} {es : List Expr}, mTs N so ts es = true → ts.length = es.length
  | [], [], _ => rfl
  | t :: ts, e :: es, h => by
    unfold mTs at h
    rw [Bool.and_eq_true] at h
    rw [List.length_cons, List.length_cons, mTs_len h.2]
  | [], _ :: _, h => by unfold mTs at h; cases h
  | _ :: _, [], h => by unfold mTs at h; cases h
theorem mT_plain {N : List Str} {so : Scope} {t : Tg} {ex : Expr} (h : mT N so t ex = true) : ∀ es : List Expr, assignEach (ex :: es) X.env = (false, assign ex X.env) :: assignEach es X.env := fun es => by
  rcases mT_name h with ⟨i, x, p, _, ee, _, _⟩ | ⟨ts, es', n, p, _, ee, _⟩ <;> (subst ee; rfl)
theorem mTs_each {N : List Str} {so : Scope} : ∀ {ts : List Tg} {es : List Expr}, mTs N so ts es = true → (assignEach es X.env).length = ts.length ∧ (assignEach es X.env).findIdx? (·.1) = none
  | [], [], _ => ⟨rfl, rfl⟩
  | t :: ts, e :: es, h => by
    unfold mTs at h
    rw [Bool.and_eq_true] at h
    obtain ⟨h1, h2⟩ := mTs_each h.2
    rw [mT_plain h.1 es]
    refine ⟨by rw [List.length_cons, h1, List.length_cons], ?_⟩
    rw [List.findIdx?_cons]
    show (if (false : Bool) = true then some 0 else _) = none
    rw [if_neg (by decide), h2]
    rfl
  | [], _ :: _, h => by unfold mTs at h; cases h
  | _ :: _, [], h => by unfold mTs at h; cases h
mutual
theorem ok_tg {so : Scope} (ao : AsOk X so) : ∀ {t : Tg} {ex : Expr}, mT X.N so t ex = true → PG X ex (gB mg e t)
  | .nm i, ex, h => by
    rcases mT_name h with ⟨i', x, p, e1, e2, hN, hl⟩ | ⟨_, _, _, _, e1, _⟩
    · cases e1; subst e2
      obtain ⟨h1, h2⟩ := ao.loc x hl
      refine PG.of (pg_name ao.nd hN h1 h2) fun v σ H Q ⟨env, F, T, d, env', f, r, hb, q⟩ => ?_
      have hb : (if i < env.length then some (env.set i (.val d)) else none) = some env' := by unfold bindT at hb; exact hb
      split at hb
      · rename_i hi; cases hb
        exact q _ ⟨List.length_set, fun j m => get_set_ne fun z => m (by rw [← z]; exact List.mem_singleton.mpr rfl)⟩ (f.set hi r)
      · cases hb
    · cases e1
  | .tp ts, ex, h => by
    rcases mT_name h with ⟨_, _, _, e1, _⟩ | ⟨ts', es, n, p, e1, e2, hm⟩
    · cases e1
    · cases e1; subst e2
      obtain ⟨h1, h2⟩ := mTs_each (X := X) hm
      refine PG.of (pg_tup ao.calm (ok_tgs ao hm) h1 h2) fun v σ H Q ⟨env, F, T, d, env', f, r, hb, q⟩ => ?_
      cases d with
      | tup ds =>
        have hb : bindTs ts ds env = some env' := by unfold bindT at hb; exact hb
        obtain ⟨a, vs, ea, g1, g2⟩ := rep_tup r
        have hlen : ∀ {ts : List Tg} {ds : List D} {env : Sls} {env' : Sls}, bindTs ts ds env = some env' → ds.length = ts.length := fun {ts} => by
          induction ts with
          | nil =>
            intro ds env env' h
            cases ds with
            | nil => rfl
            | cons _ _ => unfold bindTs at h; cases h
          | cons t ts ih =>
            intro ds env env' h
            cases ds with
            | nil => unfold bindTs at h; cases h
            | cons d ds =>
              unfold bindTs at h
              cases hb : bindT t d env with
              | none => rw [hb] at h; cases h
              | some env1 => rw [hb] at h; rw [List.length_cons, List.length_cons, ih h]
        exact ⟨a, vs, ea, SqT.of (f.le.tup g1), by rw [g2.length]; exact hlen hb, env, F, T, ds, env', f, g2, hb, q⟩
      | _ => unfold bindT at hb; cases hb
theorem ok_tgs {so : Scope} (ao : AsOk X so) : ∀ {ts : List Tg} {es : List Expr}, mTs X.N so ts es = true → PGs X es (gBs mg e ts)
  | [], [], _ => PGs.of pgs_nil fun vs σ H Q ⟨env, F, T, ds, env', f, r, hb, q⟩ => by
    cases ds with
    | nil =>
      unfold bindTs at hb
      cases hb
      unfold Reps at r
      exact ⟨r, q σ Only.refl f⟩
    | cons _ _ => unfold bindTs at hb; cases hb
  | t :: ts, ex :: es, h => by
    unfold mTs at h
    rw [Bool.and_eq_true] at h
    refine PGs.of (pgs_cons (ok_tg ao h.1) (ok_tgs ao h.2) (by rw [mT_plain h.1 es]; rfl)) fun vs σ H Q ⟨env, F, T, ds, env', f, r, hb, q⟩ => ?_
    cases ds with
    | nil => unfold bindTs at hb; cases hb
    | cons d ds =>
      unfold bindTs at hb
      cases hb1 : bindT t d env with
      | none => rw [hb1] at hb; cases hb
      | some env1 =>
        rw [hb1] at hb
        unfold Reps at r
        obtain ⟨v, vr, e1, r1, r2⟩ := r
        exact ⟨v, vr, e1, env, F, T, d, env1, f, r1, hb1, fun σ' o f' => ⟨env1, F, T, ds, env', f', r2, hb, fun σ2 o2 f2 => q σ2 (o.trans o2) f2⟩⟩
  | [], _ :: _, h => by unfold mTs at h; cases h
  | _ :: _, [], h => by unfold mTs at h; cases h
end

/-! ### a dict that is walked is locked -/
def lockH (d : Addr) (ob : Obj) (H : Hp) : Hp := fun a => if a = d then (H d).map (HO.frz ob) else H a
def unlockH (d : Addr) (u : HO) (H : Hp) : Hp := fun a => if a = d then (if (H d).isSome then some u else none) else H a
theorem lockH_at {d : Addr} {ob : Obj} {u : HO} (h : H d = some u) : lockH d ob H = upd H d (.frz ob u) := by
  funext a
  unfold lockH
  by_cases q : a = d
  · rw [if_pos q, h, q, upd_same]; rfl
  · rw [if_neg q, upd_ne q]
theorem lockH_ne {a d : Addr} {ob : Obj} (h : a ≠ d) : lockH d ob H a = H a := if_neg h
theorem lockH_eq {d : Addr} {ob : Obj} : lockH d ob H d = (H d).map (HO.frz ob) := if_pos rfl
theorem unlockH_ne {a d : Addr} {u : HO} (h : a ≠ d) : unlockH d u H a = H a := if_neg h
theorem unlockH_eq {d : Addr} {u : HO} : unlockH d u H d = if (H d).isSome then some u else none := if_pos rfl
theorem unlockH_at {d : Addr} {u o : HO} (h : H d = some o) : unlockH d u H = upd H d u := by
  funext a
  unfold unlockH
  by_cases q : a = d
  · rw [if_pos q, h, q, upd_same]; rfl
  · rw [if_neg q, upd_ne q]
def Ent.lock (e : Ent) (d : Addr) (ob : Obj) (u : HO) : Ent := ⟨upd e.F d (.frz ob u), upd e.H d (.frz ob u), e.B, e.P⟩
/-- what is read locked -/
theorem le_lock {d : Addr} {ob : Obj} {u : HO} (hd : H d = some u) (l : lockable u = true) : LeL H (lockH d ob H) := fun a o h => by
  by_cases q : a = d
  · subst q
    rw [h] at hd; cases hd
    exact .inr ⟨l, ob, by rw [lockH_eq, h]; rfl⟩
  · exact .inl (by rw [lockH_ne q]; exact h)
/-- the reading does not tell whether it is locked -/
theorem Rep.unlock {d : Addr} {ob : Obj} {u : HO} (l : lockable u = true) (hd : H d = some (.frz ob u)) : ∀ (n : Nat) {v : V} {x : D}, sizeOf x < n → Rep mg H v x → Rep mg (unlockH d u H) v x := by
  have rd : ∀ {a : Addr} {w : HO}, lockable w = true → Rd H a w → Rd (unlockH d u H) a w := fun {a w} lw r => by
    by_cases q : a = d
    · subst q
      rcases r with r | ⟨ob', r⟩
      · rw [r] at hd; cases hd; cases lw
      · rw [r] at hd; cases hd
        exact .inl (by rw [unlockH_eq, r]; rfl)
    · rcases r with r | ⟨ob', r⟩
      · exact .inl (by rw [unlockH_ne q]; exact r)
      · exact .inr ⟨ob', by rw [unlockH_ne q]; exact r⟩
  have ne : ∀ {a : Addr} {w : HO}, H a = some w → (∀ o z, w = .frz o z → lockable z = false) → unlockH d u H a = some w := fun {a w} h n => by
    by_cases q : a = d
    · subst q
      rw [h] at hd
      cases hd
      have := n ob u rfl
      rw [l] at this; cases this
    · rw [unlockH_ne q]; exact h
  intro n
  induction n with
  | zero => intro v x h; omega
  | succ n ih =>
    have ihs : ∀ {vs : List V} {ds : List D}, sizeOf ds < n + 1 → Reps mg H vs ds → Reps mg (unlockH d u H) vs ds := fun {vs ds} => by
      induction ds generalizing vs with
      | nil => intro _ r; unfold Reps at r; subst r; exact Reps.nil
      | cons y ys ih2 =>
        intro hs r
        have e1 : sizeOf (y :: ys) = 1 + sizeOf y + sizeOf ys := rfl
        unfold Reps at r
        obtain ⟨w, t, e2, a, b⟩ := r
        subst e2
        exact Reps.cons (ih (by omega) a) (ih2 (by omega) b)
    intro v x hs r
    cases x with
    | non => unfold Rep at r ⊢; exact r
    | bl b => unfold Rep at r ⊢; exact r
    | int b => unfold Rep at r ⊢; exact r
    | str b => unfold Rep at r ⊢; exact r
    | lst ds =>
      have e1 : sizeOf (D.lst ds) = 1 + sizeOf ds := by simp
      unfold Rep at r ⊢
      obtain ⟨a, vs, ea, h1, h2⟩ := r
      exact ⟨a, vs, ea, ne h1 (fun _ _ z => by cases z), ihs (by omega) h2⟩
    | tup ds =>
      have e1 : sizeOf (D.tup ds) = 1 + sizeOf ds := by simp
      unfold Rep at r ⊢
      obtain ⟨a, vs, ea, h1, h2⟩ := r
      exact ⟨a, vs, ea, ne h1 (fun _ _ z => by cases z), ihs (by omega) h2⟩
    | dK ks ds =>
      have e1 : sizeOf (D.dK ks ds) = 1 + sizeOf ks + sizeOf ds := by simp
      unfold Rep at r ⊢
      obtain ⟨a, vs, ea, hl, h1, h2⟩ := r
      exact ⟨a, vs, ea, hl, rd rfl h1, ihs (by omega) h2⟩
    | dT ks ds =>
      have e1 : sizeOf (D.dT ks ds) = 1 + sizeOf ks + sizeOf ds := by simp
      unfold Rep at r ⊢
      obtain ⟨a, vs, ea, hl, h1, h2⟩ := r
      exact ⟨a, vs, ea, hl, rd rfl h1, ihs (by omega) h2⟩
    | obj c ds =>
      have e1 : sizeOf (D.obj c ds) = 1 + sizeOf c + sizeOf ds := by simp
      unfold Rep at r ⊢
      obtain ⟨a, C, dx, vs, ea, hl, hm, h1, h2⟩ := r
      exact ⟨a, C, dx, vs, ea, hl, hm, ne h1 (fun _ _ z => by cases z), ihs (by omega) h2⟩
    | scr ns =>
      unfold Rep at r ⊢
      obtain ⟨a, ea, h1⟩ := r
      refine ⟨a, ea, h1.elim (fun z => .inl (z.elim (fun z => .inl (ne z (fun _ _ w => by cases w))) fun ⟨o, z⟩ => .inr ⟨o, ne z (fun _ _ w => by cases w; rfl)⟩)) .inr⟩
/-- what is one's own is not touched by what stays elsewhere -/
theorem RepN.other : ∀ (k : Nat) {v : V} {d : D} {S : List Addr} {G I : Hp}, (∀ {w : V} {x : D}, Rep mg F w x → Rep mg G w x) → (∀ a, F a = none → G a = none) → (∀ a ∈ S, I a = H a) → RepN mg k F H v d S → RepN mg k G I v d S
  | 0, v, d, S, G, I, hr, _, _, h => ⟨h.1, hr h.2⟩
  | k + 1, v, d, S, G, I, hr, hn, hS, h => by
    rcases h with ⟨a, b, h⟩ | ⟨p, ep, hF, nd, h⟩
    · exact .inl ⟨a, b, hr h⟩
    · refine .inr ⟨p, ep, hn p hF, nd, ?_⟩
      have sub : ∀ {vs : List V} {ds : List D} {Ss : List (List Addr)}, (∀ a ∈ Ss.flatten, I a = H a) → All3 (RepN mg k F H) vs ds Ss → All3 (RepN mg k G I) vs ds Ss := fun {vs} => by
        induction vs with
        | nil =>
          intro ds Ss _ ha
          cases ds <;> cases Ss <;> first | exact True.intro | exact ha.elim
        | cons v vs ih =>
          intro ds Ss hm ha
          cases ds with
          | nil => exact ha.elim
          | cons d ds =>
            cases Ss with
            | nil => exact ha.elim
            | cons S Ss =>
              rw [List.flatten_cons] at hm
              exact ⟨RepN.other k hr hn (fun a z => hm a (List.mem_append_left _ z)) ha.1, ih (fun a z => hm a (List.mem_append_right _ z)) ha.2⟩
      rcases h with ⟨ds, vs, Ss, e1, hp, ha, es⟩ | ⟨ks, ds, vs, Ss, e1, hl, hp, ha, es⟩ | ⟨ks, ds, vs, Ss, e1, hl, hp, ha, es⟩ | ⟨c, ds, C, dx, vs, Ss, e1, hl, hm, hd, hdx, hp, ha, es⟩
      · subst es
        exact .inl ⟨ds, vs, Ss, e1, by rw [hS p List.mem_cons_self]; exact hp, sub (fun a z => hS a (List.mem_cons_of_mem _ z)) ha, rfl⟩
      · subst es
        exact .inr (.inl ⟨ks, ds, vs, Ss, e1, hl, by rw [hS p List.mem_cons_self]; exact hp, sub (fun a z => hS a (List.mem_cons_of_mem _ z)) ha, rfl⟩)
      · subst es
        exact .inr (.inr (.inl ⟨ks, ds, vs, Ss, e1, hl, by rw [hS p List.mem_cons_self]; exact hp, sub (fun a z => hS a (List.mem_cons_of_mem _ z)) ha, rfl⟩))
      · subst es
        exact .inr (.inr (.inr ⟨c, ds, C, dx, vs, Ss, e1, hl, hm, hn dx hd, by rw [hS dx (List.mem_cons_of_mem _ List.mem_cons_self)]; exact hdx, by rw [hS p List.mem_cons_self]; exact hp, sub (fun a z => hS a (List.mem_cons_of_mem _ (List.mem_cons_of_mem _ z))) ha, rfl⟩))
/-- the frame, a dict of what stays locked -/
theorem Frm.lock (f : Frm mg e env F σ H T) {d : Addr} {u : HO} (ob : Obj) (hF : F d = some u) (hd : H d = some u) (l : lockable u = true) : Frm mg (e.lock d ob u) env (upd F d (.frz ob u)) σ (upd H d (.frz ob u)) T := by
  have own : ∀ {i k : Nat} {x : D}, env[i]? = some (.own k x) → d ∉ T i := fun {i k x} h m => by
    obtain ⟨v, _, r⟩ := f.own i k x h
    have := (RepN.at _ r d m).1
    rw [hF] at this; cases this
  have none : ∀ {a : Addr}, F a = Option.none → upd F d (.frz ob u) a = Option.none := fun {a} h => by
    have q : a ≠ d := fun z => by rw [z, hF] at h; cases h
    rw [upd_ne q]; exact h
  have back : ∀ {G : Hp} {a : Addr}, upd G d (.frz ob u) a = Option.none → a ≠ d ∧ G a = Option.none := fun {G a} h => by
    have q : a ≠ d := fun z => by rw [z, upd_same] at h; cases h
    rw [upd_ne q] at h; exact ⟨q, h⟩
  have same : ∀ {G I : Hp}, Same G I → Same (upd G d (.frz ob u)) (upd I d (.frz ob u)) := fun {G I} s a o h => by
    by_cases q : a = d
    · subst q; rw [upd_same] at h ⊢; exact h
    · rw [upd_ne q] at h ⊢; exact s a o h
  have mono : ∀ {w : V} {x : D}, Rep mg F w x → Rep mg (upd F d (.frz ob u)) w x := fun r => by
    rw [← lockH_at hF]; exact Rep.monoL (le_lock hF l) r
  refine ⟨same f.same, fun a o h => ?_, same f.ext, fun a h h' => ?_, fun a o h => ?_, f.len, fun i x h => ?_, f.bor, fun i k x h => ?_, fun i k x h a m => ?_, f.dis, f.pin⟩
  · by_cases q : a = d
    · subst q
      rw [upd_same] at h ⊢
      exact h
    · rw [upd_ne q] at h ⊢; exact f.le a o h
  · obtain ⟨q, h2⟩ := back h
    show upd e.H d _ a = _
    rw [upd_ne q] at h' ⊢
    exact f.new a h2 h'
  · show upd e.H d _ a = _ ∨ _
    rcases f.leB a o h with w | ⟨w1, ob', w⟩
    · by_cases q : a = d
      · subst q
        have := f.same a o w
        rw [hd] at this; cases this
        exact .inr ⟨l, ob, by show upd e.H a _ a = _; rw [upd_same]⟩
      · exact .inl (by rw [upd_ne q]; exact w)
    · by_cases q : a = d
      · subst q
        have := f.same a _ w
        rw [hd] at this; cases this
        cases l
      · exact .inr ⟨w1, ob', by show upd e.H d _ a = _; rw [upd_ne q]; exact w⟩
  · obtain ⟨v, e1, r⟩ := f.val i x h
    exact ⟨v, e1, mono r⟩
  · obtain ⟨v, e1, r⟩ := f.own i k x h
    exact ⟨v, e1, RepN.other _ mono (fun a => none) (fun a m => upd_ne fun z => own h (z ▸ m)) r⟩
  · have q : a ≠ d := fun z => own h (z ▸ m)
    show upd e.H d _ a = _
    rw [upd_ne q]; exact f.frs i k x h a m
/-- what the entry holds at d -/
structure Lk (e : Ent) (d : Addr) (u : HO) : Prop where
  h : ∀ o, e.H d = some o → o = u
  f : ∀ o, e.F d = some o → o = u
  n : e.F d = none → e.H d = none
  b : LeL e.B e.H
theorem Frm.lk (f : Frm mg e env F σ H T) {d : Addr} {u : HO} (hF : F d = some u) (hd : H d = some u) : Lk e d u :=
  ⟨fun o h => by have := f.same d o h; rw [hd] at this; cases this; rfl, fun o h => by have := f.ext d o h; rw [hF] at this; cases this; rfl, fun h => f.new d h (by rw [hF]; exact fun z => by cases z), f.leB⟩
theorem Frm.unlock {d : Addr} {u : HO} {ob : Obj} (f : Frm mg (e.lock d ob u) env F σ H T) (lk : Lk e d u) (l : lockable u = true) : F d = some (.frz ob u) ∧ H d = some (.frz ob u) ∧ Frm mg e env (upd F d u) σ (upd H d u) T := by
  have hF : F d = some (.frz ob u) := f.ext d _ (show upd e.F d _ d = _ from upd_same)
  have hd : H d = some (.frz ob u) := f.same d _ (show upd e.H d _ d = _ from upd_same)
  have rep : ∀ {w : V} {x : D}, Rep mg F w x → Rep mg (upd F d u) w x := fun {w x} r => by
    rw [← unlockH_at hF]; exact Rep.unlock l hF _ (Nat.lt_succ_self _) r
  refine ⟨hF, hd, fun a o h => ?_, fun a o h => ?_, fun a o h => ?_, fun a h h' => ?_, lk.b, f.len, fun i x h => ?_, f.bor, fun i k x h => ?_, fun i k x h a m => ?_, f.dis, f.pin⟩
  · by_cases q : a = d
    · subst q; rw [upd_same, lk.h o h]
    · rw [upd_ne q]; exact f.same a o (by show upd e.H d _ a = _; rw [upd_ne q]; exact h)
  · by_cases q : a = d
    · subst q; rw [upd_same] at h ⊢; exact h
    · rw [upd_ne q] at h ⊢; exact f.le a o h
  · by_cases q : a = d
    · subst q; rw [upd_same, lk.f o h]
    · rw [upd_ne q]; exact f.ext a o (by show upd e.F d _ a = _; rw [upd_ne q]; exact h)
  · by_cases q : a = d
    · subst q; exact lk.n h
    · rw [upd_ne q] at h'
      have z : upd e.H d (.frz ob u) a = none := f.new a (by show upd e.F d _ a = _; rw [upd_ne q]; exact h) h'
      rw [upd_ne q] at z; exact z
  · obtain ⟨v, e1, r⟩ := f.val i x h
    exact ⟨v, e1, rep r⟩
  · obtain ⟨v, e1, r⟩ := f.own i k x h
    have nd : ∀ a, F a = none → a ≠ d := fun a z w => by rw [w, hF] at z; cases z
    exact ⟨v, e1, RepN.other _ rep (fun a z => by rw [upd_ne (nd a z)]; exact z) (fun a m => upd_ne (nd a (RepN.at _ r a m).1)) r⟩
  · have z : upd e.H d (.frz ob u) a = none := f.frs i k x h a m
    have q : a ≠ d := fun w => by rw [w, upd_same] at z; cases z
    rw [upd_ne q] at z; exact z
/-- a value that was made under the lock -/
theorem Grow.unlock {d : Addr} {u : HO} {ob : Obj} (hF : F d = some u) (hd : H d = some u) (l : lockable u = true) (g : Grow (upd F d (.frz ob u)) (upd H d (.frz ob u)) F1 H1) :
    F1 d = some (.frz ob u) ∧ H1 d = some (.frz ob u) ∧ Grow F H (upd F1 d u) (upd H1 d u) := by
  have h1 := g.ext d _ upd_same
  have h2 := g.same d _ upd_same
  refine ⟨h1, h2, fun a o h => ?_, fun a o h => ?_, fun a h h' => ?_, fun a o h => ?_⟩
  · by_cases q : a = d
    · subst q; rw [hd] at h; rw [upd_same]; exact h
    · rw [upd_ne q]; exact g.same a o (by rw [upd_ne q]; exact h)
  · by_cases q : a = d
    · subst q; rw [hF] at h; rw [upd_same]; exact h
    · rw [upd_ne q]; exact g.ext a o (by rw [upd_ne q]; exact h)
  · have q : a ≠ d := fun z => by rw [z, hF] at h; cases h
    rw [upd_ne q] at h'
    have z := g.new a (by rw [upd_ne q]; exact h) h'
    rw [upd_ne q] at z; exact z
  · by_cases q : a = d
    · subst q; rw [upd_same] at h ⊢; exact h
    · rw [upd_ne q] at h ⊢; exact g.le a o h
theorem RepN.unlock {k : Nat} {v : V} {x : D} {S : List Addr} {d : Addr} {u : HO} {ob : Obj} (l : lockable u = true) (hF : F d = some (.frz ob u)) (r : RepN mg k F H v x S) : RepN mg k (upd F d u) (upd H d u) v x S := by
  have nd : ∀ a, F a = none → a ≠ d := fun a z w => by rw [w, hF] at z; cases z
  exact RepN.other _ (fun {w y} r => by rw [← unlockH_at hF]; exact Rep.unlock l hF _ (Nat.lt_succ_self _) r) (fun a z => by rw [upd_ne (nd a z)]; exact z) (fun a m => upd_ne (nd a (RepN.at _ r a m).1)) r
/-- .. from what was there ahead of the lock -/
theorem RepN.new_unlock {S : List Addr} {d : Addr} {u : HO} {ob : Obj} (fr : ∀ a ∈ S, upd H d (.frz ob u) a = none) : ∀ a ∈ S, H a = none := fun a m => by
  have z := fr a m
  have q : a ≠ d := fun w => by rw [w, upd_same] at z; cases z
  rw [upd_ne q] at z; exact z

/-! ### walks -/
/-- J gives the data xs, one by one, all of what stays -/
def IsIt (mg : Gd) (F : Hp) (J : It) (xs : List D) : Prop := ∃ (G : Hp → Prop) (Y : Nat → Hp → V → Hp → Prop), Walk J xs.length G Y ∧ (∀ F1 H1, Same F F1 → Le F1 H1 → G H1) ∧
  ∀ i x F1 H1 H2 d, Same F F1 → Le F1 H1 → Y i H1 x H2 → xs[i]? = some d → ∃ F2, Grow F1 H1 F2 H2 ∧ Rep mg F2 x d
theorem it_list {K : PySem.W.Frag} {a : Addr} {xs : List D} (r : Rep mg F (.ref a) (.lst xs)) : IsIt mg F (Itl K a) xs := by
  obtain ⟨a', vs, ea, h1, h2⟩ := rep_lst r
  cases ea
  refine ⟨fun H => SqL K H a vs, YAt vs, by rw [← h2.length]; exact walk_list, fun F1 H1 s le => SqL.of (le.lst (s a _ h1)), fun i x F1 H1 H2 d s le y hd => ?_⟩
  obtain ⟨e1, e2⟩ := y
  subst e1
  obtain ⟨v, e3, rv⟩ := h2.get hd
  rw [e2] at e3; cases e3
  exact ⟨F1, Grow.refl le, Rep.mono (Le.of_same s) rv⟩
theorem it_tup {K : PySem.W.Frag} {a : Addr} {xs : List D} (r : Rep mg F (.ref a) (.tup xs)) : IsIt mg F (Itt K a) xs := by
  obtain ⟨a', vs, ea, h1, h2⟩ := rep_tup r
  cases ea
  refine ⟨fun H => SqT K H a vs, YAt vs, by rw [← h2.length]; exact walk_tup, fun F1 H1 s le => SqT.of (le.tup (s a _ h1)), fun i x F1 H1 H2 d s le y hd => ?_⟩
  obtain ⟨e1, e2⟩ := y
  subst e1
  obtain ⟨v, e3, rv⟩ := h2.get hd
  rw [e2] at e3; cases e3
  exact ⟨F1, Grow.refl le, Rep.mono (Le.of_same s) rv⟩
theorem it_str {z : Str} : IsIt mg F (Its z) (z.cps.toList.map fun c => .str ⟨#[c]⟩) := by
  refine ⟨fun _ => True, _, by rw [List.length_map, Array.length_toList]; exact walk_str, fun _ _ _ _ => trivial, fun i x F1 H1 H2 d s le y hd => ?_⟩
  obtain ⟨e1, c, e2, e3⟩ := y
  subst e1
  rw [List.getElem?_map, Array.getElem?_toList, e2] at hd
  cases hd
  exact ⟨F1, Grow.refl le, by rw [e3]; unfold Rep; rfl⟩
theorem it_range {lo : Int} {n : Nat} : IsIt mg F (Itr lo n) ((List.range n).map fun i => .int (lo + (i : Nat))) := by
  refine ⟨fun _ => True, _, by rw [List.length_map, List.length_range]; exact walk_range, fun _ _ _ _ => trivial, fun i x F1 H1 H2 d s le y hd => ?_⟩
  obtain ⟨e1, e2⟩ := y
  subst e1
  rw [List.getElem?_map] at hd
  cases hi : (List.range n)[i]? with
  | none => rw [hi] at hd; cases hd
  | some j =>
    rw [hi] at hd
    cases hd
    have : j = i := by
      have := List.getElem?_eq_some_iff.mp hi
      obtain ⟨h, e3⟩ := this
      rw [List.getElem_range] at e3
      exact e3.symm
    subst this
    exact ⟨F1, Grow.refl le, by rw [e2]; unfold Rep; rfl⟩
theorem it_keys {d : Addr} {o : Obj} {ks : List Key} {vs : List V} (hl : ks.length = vs.length) (h : F d = some (.frz o (.dK (ks.zip vs)))) : IsIt mg F (Itk d o (ks.zip vs)) (ks.map kD) := by
  refine ⟨_, _, by rw [List.length_map, show ks.length = (ks.zip vs).length by rw [List.length_zip]; omega]; exact walk_keys, fun F1 H1 s le => le.frz (s d _ h), fun i x F1 H1 H2 y s le yy hd => ?_⟩
  obtain ⟨e1, k, v, e2, e3⟩ := yy
  subst e1; subst e3
  have e4 : ks[i]? = some k := by
    have := congrArg (Option.map Prod.fst) e2
    rw [← List.getElem?_map, List.map_fst_zip (by omega)] at this
    exact this
  rw [List.getElem?_map, e4] at hd
  cases hd
  refine ⟨F1, Grow.refl le, ?_⟩
  cases k <;> (show Rep mg F1 _ _; unfold kV kD; unfold Rep; rfl)
end
end Mp
/-! walks of data, comprehensions -/
namespace Mp
open PySem PySem.Spec PyProof.Rows L2 PySem.SeqAt

section
variable {mg : Gd} {e : Ent} {env env' : Sls} {F F' F1 H H' H1 : Hp} {σ : L2.St} {T : Nat → List Addr} {W : WX} {α β : Type} {X : Cx} {Φ : String → List D → R D}
theorem zip_fst {ks : List Key} {vs : List V} {i : Nat} {k : Key} {v : V} (h : (ks.zip vs)[i]? = some (k, v)) : ks[i]? = some k ∧ vs[i]? = some v := by
  rw [List.getElem?_zip_eq_some] at h
  exact h
theorem it_vals {d : Addr} {o : Obj} {ks : List Key} {vs : List V} {ds : List D} (hl : ks.length = vs.length) (h : F d = some (.frz o (.dK (ks.zip vs)))) (r : Reps mg F vs ds) : IsIt mg F (Itd d o (ks.zip vs)) ds := by
  refine ⟨_, _, by rw [show ds.length = (ks.zip vs).length by rw [List.length_zip, ← r.length]; omega]; exact walk_values, fun F1 H1 s le => le.frz (s d _ h), fun i x F1 H1 H2 y s le yy hd => ?_⟩
  obtain ⟨e1, k, e2⟩ := yy
  subst e1
  obtain ⟨_, e3⟩ := zip_fst e2
  obtain ⟨v, e4, rv⟩ := r.get hd
  rw [e3] at e4; cases e4
  exact ⟨F1, Grow.refl le, Rep.mono (Le.of_same s) rv⟩
theorem pair_new {x y : V} {a b : D} {p : Addr} (le : Le F H) (np : H p = none) (ra : Rep mg F x a) (rb : Rep mg F y b) : ∃ F2, Grow F H F2 (upd H p (.tup [x, y])) ∧ Rep mg F2 (.ref p) (.tup [a, b]) := by
  have g : Grow F H (upd F p (.tup [x, y])) (upd H p (.tup [x, y])) := Grow.keep le np
  refine ⟨_, g, ?_⟩
  unfold Rep
  exact ⟨p, _, rfl, upd_same, Reps.cons (Rep.grow g ra) (Reps.one (Rep.grow g rb))⟩
theorem rep_key (F : Hp) (k : Key) : Rep mg F (kV k) (kD k) := by
  cases k <;> (unfold kV kD; unfold Rep; rfl)
theorem it_items {d : Addr} {o : Obj} {ks : List Key} {vs : List V} {ds : List D} (hl : ks.length = vs.length) (h : F d = some (.frz o (.dK (ks.zip vs)))) (r : Reps mg F vs ds) : IsIt mg F (Iti d o (ks.zip vs)) ((ks.zip ds).map fun p => .tup [kD p.1, p.2]) := by
  refine ⟨_, _, by rw [show ((ks.zip ds).map fun p => D.tup [kD p.1, p.2]).length = (ks.zip vs).length by rw [List.length_map, List.length_zip, List.length_zip, ← r.length]]; exact walk_items, fun F1 H1 s le => le.frz (s d _ h), fun i x F1 H1 H2 y s le yy hd => ?_⟩
  obtain ⟨p, a, b, e1, np, e2, e3, e4⟩ := yy
  subst e1; subst e2
  dsimp only at e3 e4
  cases hz : (ks.zip vs)[i]? with
  | none => rw [hz] at e3; cases e3
  | some kv =>
    obtain ⟨k, v⟩ := kv
    rw [hz] at e3 e4
    cases e3; cases e4
    obtain ⟨z1, z2⟩ := zip_fst hz
    rw [List.getElem?_map] at hd
    cases hq : (ks.zip ds)[i]? with
    | none => rw [hq] at hd; cases hd
    | some kd =>
      obtain ⟨k', dd⟩ := kd
      rw [hq] at hd
      cases hd
      rw [List.getElem?_zip_eq_some] at hq
      have : k' = k := by rw [z1] at hq; exact (Option.some.inj hq.1).symm
      subst this
      obtain ⟨v', e5, rv⟩ := r.get hq.2
      rw [z2] at e5; cases e5
      exact pair_new le np (rep_key _ _) (Rep.mono (Le.of_same s) rv)
theorem it_enum {K : PySem.W.Frag} {a : Addr} {xs : List D} (r : Rep mg F (.ref a) (.lst xs)) : IsIt mg F (Ite K a) ((List.range xs.length).zip xs |>.map fun p => .tup [.int (p.1 : Nat), p.2]) := by
  obtain ⟨a', vs, ea, h1, h2⟩ := rep_lst r
  cases ea
  refine ⟨_, _, by rw [show ((List.range xs.length).zip xs |>.map fun p => D.tup [.int (p.1 : Nat), p.2]).length = vs.length by rw [List.length_map, List.length_zip, List.length_range, h2.length]; omega]; exact walk_enum (xs := vs) (K := K), fun F1 H1 s le => SqL.of (le.lst (s a _ h1)), fun i x F1 H1 H2 y s le yy hd => ?_⟩
  obtain ⟨p, b, c, e1, np, e2, e3, e4⟩ := yy
  subst e1; subst e2
  dsimp only at e4
  cases e3
  rw [List.getElem?_map] at hd
  cases hq : ((List.range xs.length).zip xs)[i]? with
  | none => rw [hq] at hd; cases hd
  | some kd =>
    obtain ⟨j, dd⟩ := kd
    rw [hq] at hd
    cases hd
    rw [List.getElem?_zip_eq_some] at hq
    obtain ⟨q1, q2⟩ := hq
    have : j = i := by
      obtain ⟨h, e3⟩ := List.getElem?_eq_some_iff.mp q1
      rw [List.getElem_range] at e3
      exact e3.symm
    subst this
    obtain ⟨v', e5, rv⟩ := h2.get q2
    rw [e4] at e5; cases e5
    exact pair_new le np (by unfold Rep; rfl) (Rep.mono (Le.of_same s) rv)

/-- any walk that there is -/
def anyPI (X : Cx) (tg iter : Expr) : TI := fun σ H R => ∃ wi, PI X tg iter wi ∧ wi σ H R
theorem anyPI_ok (tg iter : Expr) : PI X tg iter (anyPI X tg iter) := ⟨fun pins s σ H R I ⟨wi, h, q⟩ => h.run pins s σ H R I q⟩
/-- a value that is told -/
theorem dX {b : Bool} (f : Frm mg e env F σ H T) {ma : Sls → R D} {d : D} {Q : VK} (hm : ma env = .ok d) (next : ∀ F1 H1 x, Grow F H F1 H1 → Rep mg H1 x d → (b = false → Rep mg F1 x d) → Q x H1) : rdX mg e W b ma σ H Q := by
  cases b with
  | true => exact ⟨env, F, T, f, by rw [hm]; exact fun v F1 H1 g r => next F1 H1 v g r (fun z => by cases z)⟩
  | false => exact ⟨env, F, T, f, by rw [hm]; exact fun v F1 H1 S g r fr => next F1 H1 v g (Rep.mono g.le r.2) fun _ => r.2⟩
theorem eX {b : Bool} (f : Frm mg e env F σ H T) {ma : Sls → R D} {c : String} {x : Option D} {Q : VK} (hm : ma env = .exc c x) (h : EX mg W σ F H c x) : rdX mg e W b ma σ H Q := by
  cases b with
  | true => exact ⟨env, F, T, f, by rw [hm]; exact h⟩
  | false => exact ⟨env, F, T, f, by rw [hm]; exact h⟩
/-- the texts of what is walked -/
inductive ItOk (mg : Gd) (e : Ent) (W : WX) (X : Cx) (Φ : String → List D → R D) : Expr → Ik → List Mp.E → Expr → Prop where
  | any {tg ex : Expr} {E : Mp.E} (ok : OkE mg e W X Φ ex E) : ItOk mg e W X Φ tg .any [E] ex
  | vals {tg ex : Expr} {E : Mp.E} {apos cpos : Pos} (ok : OkE mg e W X Φ ex E) (hl : (apos.endLine == cpos.line) = true) : ItOk mg e W X Φ tg .vals [E] (.Call (.Attribute ex "values" apos) [] [] cpos)
  | items {elts : List Expr} {kk : Nat} {tpos : Pos} {ex : Expr} {E : Mp.E} {apos cpos : Pos} (ok : OkE mg e W X Φ ex E) (hl : (apos.endLine == cpos.line) = true) : ItOk mg e W X Φ (.Tuple elts kk tpos) .items [E] (.Call (.Attribute ex "items" apos) [] [] cpos)
  | rng1 {tg a : Expr} {A : Mp.E} {p pos : Pos} (ok : OkE mg e W X Φ a A) (hg : Gl X "range") (hm : X.mg "range" = none) : ItOk mg e W X Φ tg .rng [A] (.Call (.Name "range" p) [a] [] pos)
  | rng2 {tg a b : Expr} {A B : Mp.E} {p pos : Pos} (oka : OkE mg e W X Φ a A) (okb : OkE mg e W X Φ b B) (hg : Gl X "range") (hm : X.mg "range" = none) : ItOk mg e W X Φ tg .rng [A, B] (.Call (.Name "range" p) [a, b] [] pos)
  | enum {elts : List Expr} {kk : Nat} {tpos : Pos} {a : Expr} {A : Mp.E} {p pos : Pos} (ok : OkE mg e W X Φ a A) (hg : Gl X "enumerate") (hm : X.mg "enumerate" = none) : ItOk mg e W X Φ (.Tuple elts kk tpos) .enum [A] (.Call (.Name "enumerate" p) [a] [] pos)

/-! ### locks: after a value, off at the end -/
/-- what was not locked at first -/
def NoFz (X : Cx) (a : Addr) : Prop := ∀ o' u', X.H_0 a ≠ some (.frz o' u')
def tLk (X : Cx) (te : TE) : TE := fun σ H Q => te σ H fun x H1 => Q x H1 ∨ ∃ a u, x = .ref a ∧ H1 a = some u ∧ Mut (some u) ∧ ∀ ob, NoFz X a → Q x (upd H1 a (.frz ob u))
theorem pe_lk {ex : Expr} {te : TE} (he : PE X ex te) : PE X ex (tLk X te) := by
  refine ⟨fun pins s σ H Q I h => ?_⟩
  refine thn (he.run pins s σ H _ I h) fun u s1 ⟨x, H1, I1, rx, q⟩ => ?_
  rcases q with q | ⟨a, u', ex', hd, mu, q⟩
  · exact ⟨x, H1, I1, rx, q⟩
  · obtain ⟨od, I2⟩ := I1.lock hd mu
    exact ⟨x, _, I2, rx, q od (I1.nofrz hd mu)⟩
def Unl (X : Cx) (Q : VK) : VK := fun v H' => Q v H' ∨ ∃ a ob u, H' a = some (.frz ob u) ∧ NoFz X a ∧ Q v (upd H' a u)
theorem pe_unl {ex : Expr} {t : TE} (h : PE X ex t) : PE X ex (fun σ H Q => t σ H (Unl X Q)) := by
  refine ⟨fun pins s σ H Q I hw => ?_⟩
  refine thn (h.run pins s σ _ _ I hw) fun v s1 ⟨x, H1, I2, r, q⟩ => ?_
  rcases q with q | ⟨a, ob, u, hd, nf, q⟩
  · exact ⟨x, _, I2, r, q⟩
  · exact ⟨x, _, I2.unlock hd nf, r, q⟩
def UnlP (X : Cx) (Q : L2.St → Hp → Prop) : L2.St → Hp → Prop := fun σ H' => Q σ H' ∨ ∃ a ob u, H' a = some (.frz ob u) ∧ NoFz X a ∧ Q σ (upd H' a u)
def UnlD (X : Cx) (D : Ends) : Ends := ⟨UnlP X D.nx, Unl X D.rt, UnlP X D.bk, UnlP X D.ct⟩
theorem ps_unl {st : Stmt} {t : TS} (h : PS X st t) : PS X st (fun D σ H => t (UnlD X D) σ H) := by
  refine ⟨fun pins s σ H D I hw => ?_⟩
  refine thn (h.run pins s σ _ _ I hw) fun f s1 q => ?_
  cases f with
  | next =>
    obtain ⟨σ', H', I2, q⟩ := q
    rcases q with q | ⟨a, ob, u, hd, nf, q⟩
    · exact ⟨σ', _, I2, q⟩
    · exact ⟨σ', _, I2.unlock hd nf, q⟩
  | brk =>
    obtain ⟨σ', H', I2, q⟩ := q
    rcases q with q | ⟨a, ob, u, hd, nf, q⟩
    · exact ⟨σ', _, I2, q⟩
    · exact ⟨σ', _, I2.unlock hd nf, q⟩
  | cont =>
    obtain ⟨σ', H', I2, q⟩ := q
    rcases q with q | ⟨a, ob, u, hd, nf, q⟩
    · exact ⟨σ', _, I2, q⟩
    · exact ⟨σ', _, I2.unlock hd nf, q⟩
  | ret v =>
    obtain ⟨x, σ', H', I2, r, q⟩ := q
    rcases q with q | ⟨a, ob, u, hd, nf, q⟩
    · exact ⟨x, σ', _, I2, r, q⟩
    · exact ⟨x, σ', _, I2.unlock hd nf, r, q⟩

theorem it_go {tg iter : Expr} {ik : Ik} {it : List Mp.E} (ok : ItOk mg e W X Φ tg ik it iter) (f : Frm mg e env F σ H T) {K : Hp → Hp → α → Prop} (hK : Grows K) {c : List D → Bool} {g : Bool → List D → R α} {Rr : It → Hp → Prop}
    (h : RW (seqR (evs Φ it false env) >>= fun ds => ofO (iterD ik ds) >>= fun xs => okIf (!(it.any bor) && c xs) (g (ds.any isDct) xs)) (K F H) (EX mg W σ F H))
    (next : ∀ J F1 H1 b xs, Grow F H F1 H1 → c xs = true → IsIt mg F1 J xs → RW (g b xs) (K F1 H1) (EX mg W σ F1 H1) → Rr J H1)
    (nextL : ∀ J F1 H1 xs a ob u, Grow F H F1 H1 → c xs = true → F1 a = some u → H1 a = some u → lockable u = true → NoFz X a → IsIt mg (upd F1 a (.frz ob u)) J xs → RW (g true xs) (K F1 H1) (EX mg W σ F1 H1) → Rr J (upd H1 a (.frz ob u))) : anyPI X tg iter σ H Rr := by
  have one : ∀ {E : Mp.E} {d : D} {gg : Bool → List D → R α} {ik : Ik}, ev Φ E false env = .ok d → RW (seqR (evs Φ [E] false env) >>= fun ds => ofO (iterD ik ds) >>= fun xs => okIf (!([E].any bor) && c xs) (gg (ds.any isDct) xs)) (K F H) (EX mg W σ F H) →
      ∃ xs, iterD ik [d] = some xs ∧ bor E = false ∧ c xs = true ∧ RW (gg (isDct d) xs) (K F H) (EX mg W σ F H) := fun {E d gg ik} hm h => by
    have h : RW ((ev Φ E false env >>= fun d => pure [d]) >>= fun ds => ofO (iterD ik ds) >>= fun xs => okIf (!([E].any bor) && c xs) (gg (ds.any isDct) xs)) _ _ := h
    rw [hm] at h
    obtain ⟨xs, e1, h⟩ := RW_ofO.mp (RWb h)
    obtain ⟨z, h⟩ := RW.okIf.mp h
    rw [Bool.and_eq_true] at z
    have h : RW (gg (isDct d || false) xs) _ _ := h
    rw [Bool.or_false] at h
    refine ⟨xs, e1, ?_, z.2, h⟩
    have z1 := z.1
    rw [List.any_cons, List.any_nil, Bool.or_false] at z1
    cases hb : bor E with
    | true => rw [hb] at z1; cases z1
    | false => rfl
  have exc1 : ∀ {E : Mp.E} {cc : String} {x : Option D} {gg : List D → R α}, ev Φ E false env = .exc cc x → RW (seqR (evs Φ [E] false env) >>= gg) (K F H) (EX mg W σ F H) → EX mg W σ F H cc x := fun {E cc x gg} hm h => by
    have h : RW ((ev Φ E false env >>= fun d => pure [d]) >>= gg) _ _ := h
    rw [hm] at h
    exact h
  have bad1 : ∀ {E : Mp.E} {gg : List D → R α}, ev Φ E false env = .bad → RW (seqR (evs Φ [E] false env) >>= gg) (K F H) (EX mg W σ F H) → False := fun {E gg} hm h => by
    have h : RW ((ev Φ E false env >>= fun d => pure [d]) >>= gg) _ _ := h
    rw [hm] at h
    exact h
  have fr : ∀ {a : Expr} {A : Mp.E}, OkE mg e W X Φ a A → bor A = false → PE X a (rdX mg e W false (fun env => ev Φ A false env)) := fun ok nb => by have := ok.x; rw [nb] at this; exact this
  -- a dict
  have dct : ∀ {ks : List Key} {ds : List D} {F1 H1 : Hp} {x : V}, Grow F H F1 H1 → Rep mg F1 x (.dK ks ds) → ∃ a vs, x = .ref a ∧ ks.length = vs.length ∧ Reps mg F1 vs ds ∧
      ((∃ ob, F1 a = some (.frz ob (.dK (ks.zip vs))) ∧ H1 a = some (.frz ob (.dK (ks.zip vs)))) ∨ (F1 a = some (.dK (ks.zip vs)) ∧ H1 a = some (.dK (ks.zip vs)))) := fun {ks ds F1 H1 x} g1 rx => by
    obtain ⟨a, vs, ea, hl, hr, h4⟩ := rep_dK rx
    refine ⟨a, vs, ea, hl, h4, ?_⟩
    rcases hr with z | ⟨ob, z⟩
    · exact .inr ⟨z, g1.le a _ z⟩
    · exact .inl ⟨ob, z, g1.le a _ z⟩
  have lkR : ∀ {F1 : Hp} {a : Addr} {u : HO} {vs : List V} {ds : List D} (ob : Obj), F1 a = some u → lockable u = true → Reps mg F1 vs ds → Reps mg (upd F1 a (.frz ob u)) vs ds := fun {F1 a u vs ds} ob hF lu r => by
    rw [← lockH_at hF]; exact Reps.monoL (le_lock hF lu) r
  cases ok with
  | @any tg ex E ok =>
    cases hm : ev Φ E false env with
    | bad => exact (bad1 hm h).elim
    | exc cc x => exact ⟨_, pi_list ok.x, eX f hm (exc1 hm h)⟩
    | ok d =>
      obtain ⟨xs, hx, hb, hc, h⟩ := one (gg := g) (ik := .any) hm h
      have pe := fr ok hb
      cases d with
      | lst ys =>
        cases hx
        refine ⟨_, pi_list pe, dX f hm fun F1 H1 x g1 rx fx => ?_⟩
        obtain ⟨a, vs, ea, h1, h2⟩ := rep_lst rx
        subst ea
        exact ⟨a, rfl, ⟨vs, SqL.of h1⟩, next _ F1 H1 _ _ g1 hc (it_list (fx rfl)) (RW.grow hK g1 h)⟩
      | tup ys =>
        cases hx
        refine ⟨_, pi_tup pe, dX f hm fun F1 H1 x g1 rx fx => ?_⟩
        obtain ⟨a, vs, ea, h1, h2⟩ := rep_tup rx
        subst ea
        exact ⟨a, rfl, ⟨vs, SqT.of h1⟩, next _ F1 H1 _ _ g1 hc (it_tup (fx rfl)) (RW.grow hK g1 h)⟩
      | str z =>
        cases hx
        exact ⟨_, pi_str pe, dX f hm fun F1 H1 x g1 rx fx => ⟨z, rep_str rx, next _ F1 H1 _ _ g1 hc it_str (RW.grow hK g1 h)⟩⟩
      | dK ks ds =>
        cases hx
        refine ⟨_, pi_keys (pe_lk pe), ?_⟩
        show rdX mg e W false (fun env => ev Φ E false env) σ H _
        refine dX f hm fun F1 H1 x g1 rx fx => ?_
        obtain ⟨a, vs, ea, hl, h4, hr⟩ := dct g1 (fx rfl)
        subst ea
        rcases hr with ⟨ob, hF, hH⟩ | ⟨hF, hH⟩
        · exact .inl ⟨a, ob, rfl, .inl ⟨_, hH, next _ F1 H1 _ _ g1 hc (it_keys hl hF) (RW.grow hK g1 h)⟩⟩
        · exact .inr ⟨a, _, rfl, hH, True.intro, fun ob nf => ⟨a, ob, rfl, .inl ⟨_, upd_same, nextL _ F1 H1 _ a ob _ g1 hc hF hH rfl nf (it_keys hl upd_same) (RW.grow hK g1 h)⟩⟩⟩
      | _ => cases hx
  | @vals tg ex E apos cpos ok hl =>
    cases hm : ev Φ E false env with
    | bad => exact (bad1 hm h).elim
    | exc cc x => exact ⟨_, pi_values ok.x (plain_base ok.pl) hl, eX f hm (exc1 hm h)⟩
    | ok d =>
      obtain ⟨xs, hx, hb, hc, h⟩ := one (gg := g) (ik := .vals) hm h
      have pe := fr ok hb
      cases d with
      | dK ks ds =>
        cases hx
        refine ⟨_, pi_values (pe_lk pe) (plain_base ok.pl) hl, ?_⟩
        show rdX mg e W false (fun env => ev Φ E false env) σ H _
        refine dX f hm fun F1 H1 x g1 rx fx => ?_
        obtain ⟨a, vs, ea, hle, h4, hr⟩ := dct g1 (fx rfl)
        subst ea
        rcases hr with ⟨ob, hF, hH⟩ | ⟨hF, hH⟩
        · exact .inl ⟨a, ob, _, rfl, hH, next _ F1 H1 _ _ g1 hc (it_vals hle hF h4) (RW.grow hK g1 h)⟩
        · exact .inr ⟨a, _, rfl, hH, True.intro, fun ob nf => ⟨a, ob, _, rfl, upd_same, nextL _ F1 H1 _ a ob _ g1 hc hF hH rfl nf (it_vals hle upd_same (lkR ob hF rfl h4)) (RW.grow hK g1 h)⟩⟩
      | _ => cases hx
  | @items elts kk tpos ex E apos cpos ok hl =>
    cases hm : ev Φ E false env with
    | bad => exact (bad1 hm h).elim
    | exc cc x => exact ⟨_, pi_items ok.x (plain_base ok.pl) hl, eX f hm (exc1 hm h)⟩
    | ok d =>
      obtain ⟨xs, hx, hb, hc, h⟩ := one (gg := g) (ik := .items) hm h
      have pe := fr ok hb
      cases d with
      | dK ks ds =>
        cases hx
        refine ⟨_, pi_items (pe_lk pe) (plain_base ok.pl) hl, ?_⟩
        show rdX mg e W false (fun env => ev Φ E false env) σ H _
        refine dX f hm fun F1 H1 x g1 rx fx => ?_
        obtain ⟨a, vs, ea, hle, h4, hr⟩ := dct g1 (fx rfl)
        subst ea
        rcases hr with ⟨ob, hF, hH⟩ | ⟨hF, hH⟩
        · exact .inl ⟨a, ob, _, rfl, hH, next _ F1 H1 _ _ g1 hc (it_items hle hF h4) (RW.grow hK g1 h)⟩
        · exact .inr ⟨a, _, rfl, hH, True.intro, fun ob nf => ⟨a, ob, _, rfl, upd_same, nextL _ F1 H1 _ a ob _ g1 hc hF hH rfl nf (it_items hle upd_same (lkR ob hF rfl h4)) (RW.grow hK g1 h)⟩⟩
      | _ => cases hx
  | @rng1 tg a A p pos ok hg hmg =>
    have pa : PA X [a] (tCons (rdX mg e W (bor A) (fun env => ev Φ A false env)) tNil) := pa_cons ok.x pa_nil (plain_star ok.pl)
    cases hm : ev Φ A false env with
    | bad => exact (bad1 hm h).elim
    | exc cc x => exact ⟨_, pi_range1 hg hmg pa (by rw [plain_star ok.pl]; rfl), eX f hm (exc1 hm h)⟩
    | ok d =>
      obtain ⟨xs, hx, hb, hc, h⟩ := one (gg := g) (ik := .rng) hm h
      cases d with
      | int n =>
        have hx : (if n.natAbs < 2 ^ 62 then some ((List.range n.toNat).map fun (i : Nat) => D.int (i : Nat)) else none) = some xs := hx
        split at hx
        · rename_i z
          cases hx
          refine ⟨_, pi_range1 hg hmg pa (by rw [plain_star ok.pl]; rfl), dX f hm fun F1 H1 x g1 rx fx => ⟨n, by rw [rep_int rx], by omega, by omega, next _ F1 H1 _ _ g1 hc ?_ (RW.grow hK g1 h)⟩⟩
          have := it_range (mg := mg) (F := F1) (lo := 0) (n := n.toNat)
          simpa using this
        · cases hx
      | _ => cases hx
  | @rng2 tg a b A B p pos oka okb hg hmg =>
    have pa : PA X [a, b] (tCons (rdX mg e W (bor A) (fun env => ev Φ A false env)) (tCons (rdX mg e W (bor B) (fun env => ev Φ B false env)) tNil)) := pa_cons oka.x (pa_cons okb.x pa_nil (plain_star okb.pl)) (plain_star oka.pl)
    have h : RW ((ev Φ A false env >>= fun d => (ev Φ B false env >>= fun d' => pure [d']) >>= fun r => pure (d :: r)) >>= fun ds => ofO (iterD .rng ds) >>= fun xs => okIf (!([A, B].any bor) && c xs) (g (ds.any isDct) xs)) _ _ := h
    refine ⟨_, pi_range2 hg hmg pa (by rw [plain_star oka.pl, plain_star okb.pl]; rfl) (by rw [plain_star okb.pl]; rfl), ?_⟩
    rw [bind_assoc'] at h
    refine bX hK f h fun F1 H1 da x g1 f1 rx fx h => ?_
    rw [bind_assoc', bind_assoc'] at h
    refine bX hK f1 h fun F2 H2 db y g2 f2 ry fy h => ?_
    have h : RW (ofO (iterD .rng [da, db]) >>= fun xs => okIf (!([A, B].any bor) && c xs) (g ([da, db].any isDct) xs)) _ _ := h
    obtain ⟨xs, hx, h⟩ := RW_ofO.mp (RWb h)
    obtain ⟨z, hfin⟩ := RW.okIf.mp h
    clear h
    rw [Bool.and_eq_true] at z
    cases da with
    | int i =>
      cases db with
      | int j =>
        have hx : (if i.natAbs < 2 ^ 62 ∧ j.natAbs < 2 ^ 62 then some ((List.range (j - i).toNat).map fun (k : Nat) => D.int (i + (k : Nat))) else none) = some xs := hx
        split at hx
        · rename_i w
          cases hx
          exact ⟨i, j, by rw [rep_int rx, rep_int ry], ⟨by omega, by omega, by omega, by omega⟩, next _ F2 H2 _ _ (g1.trans g2) z.2 it_range hfin⟩
        · cases hx
      | _ => cases hx
    | _ => cases db <;> cases hx
  | @enum elts kk tpos a A p pos ok hg hmg =>
    have pa : PA X [a] (tCons (rdX mg e W (bor A) (fun env => ev Φ A false env)) tNil) := pa_cons ok.x pa_nil (plain_star ok.pl)
    cases hm : ev Φ A false env with
    | bad => exact (bad1 hm h).elim
    | exc cc x => exact ⟨_, pi_enum hg hmg pa (by rw [plain_star ok.pl]; rfl), eX f hm (exc1 hm h)⟩
    | ok d =>
      obtain ⟨xs, hx, hb, hc, h⟩ := one (gg := g) (ik := .enum) hm h
      cases d with
      | lst ys =>
        cases hx
        refine ⟨_, pi_enum hg hmg pa (by rw [plain_star ok.pl]; rfl), dX f hm fun F1 H1 x g1 rx fx => ?_⟩
        obtain ⟨q, vs, ea, h1, h2⟩ := rep_lst rx
        subst ea
        exact ⟨q, vs, rfl, SqL.of h1, next _ F1 H1 _ _ g1 hc (it_enum (fx hb)) (RW.grow hK g1 h)⟩
      | _ => cases hx
end
end Mp
/-! comprehensions -/
namespace Mp
open PySem PySem.Spec PyProof.Rows L2 PySem.SeqAt

section
variable {mg : Gd} {e : Ent} {env env' : Sls} {F F' F1 H H' H1 : Hp} {σ : L2.St} {T : Nat → List Addr} {W : WX} {α β : Type} {X : Cx} {Φ : String → List D → R D}
/-- no exception -/
def W0 : WX := fun _ _ _ _ => False
theorem wipe_len (σ : L2.St) : ∀ vs : List Nat, (wipe σ vs).length = σ.length := fun vs => wipe_length σ vs
theorem wipe_in {σ : L2.St} {i : Nat} : ∀ {vs : List Nat}, i ∈ vs → (wipe σ vs)[i]? = (σ[i]?).map fun _ => none
  | [], h => by cases h
  | v :: vs, h => by
    show ((wipe σ vs).set v none)[i]? = _
    by_cases q : v = i
    · subst q
      rw [List.getElem?_set_self']
      by_cases m : v ∈ vs
      · rw [wipe_in m]; cases σ[v]? <;> rfl
      · rw [wipe_out m]
        cases σ[v]? <;> rfl
    · rw [get_set_ne q]
      rcases List.mem_cons.mp h with z | z
      · exact absurd z.symm q
      · exact wipe_in z
theorem wipe_only {σ σ' : L2.St} {ts vs : List Nat} (o : Only ts (wipe σ vs) σ') (hs : ∀ i ∈ ts, i ∈ vs) : wipe σ' vs = wipe σ vs := by
  apply List.ext_getElem?
  intro i
  have hl : σ'.length = σ.length := by rw [o.1, wipe_len]
  by_cases m : i ∈ vs
  · rw [wipe_in m, wipe_in m]
    by_cases q : i < σ.length
    · rw [List.getElem?_eq_getElem q, List.getElem?_eq_getElem (by omega)]; rfl
    · rw [List.getElem?_eq_none (by omega), List.getElem?_eq_none (by omega)]
  · rw [wipe_out m, wipe_out m, o.2 i (fun z => m (hs i z)), wipe_out m]
/-- whatever the entry -/
def gAny (mg : Gd) (tg : Tg) : TG := fun v σ H Q => ∃ e, gB mg e tg v σ H Q
def tAnyT (mg : Gd) (W : WX) (m : Sls → R Bool) : TT := fun σ H Q => ∃ e, rdT mg e W m σ H Q
def tAnyE (mg : Gd) (W : WX) (m : Sls → R D) (k : Nat) : TE := fun σ H Q => ∃ e, rdE mg e W m k σ H Q
def tAnyB (mg : Gd) (W : WX) (m : Sls → R D) : TE := fun σ H Q => ∃ e, rdB mg e W m σ H Q
theorem PE.any {ex : Expr} {t : Ent → TE} (h : ∀ e, PE X ex (t e)) : PE X ex (fun σ H Q => ∃ e, t e σ H Q) := ⟨fun pins s σ H Q I ⟨e, q⟩ => (h e).run pins s σ H Q I q⟩
theorem PTs.any {exs : List Expr} {t : Ent → TT} (h : ∀ e, PTs X exs (t e)) : PTs X exs (fun σ H Q => ∃ e, t e σ H Q) := ⟨fun pins s σ H Q I ⟨e, q⟩ => (h e).run pins s σ H Q I q⟩
theorem ok_tgA {so : Scope} (ao : AsOk X so) {t : Tg} {ex : Expr} (h : mT X.N so t ex = true) : PG X ex (gAny mg t) := ⟨fun pins s σ H v u Q I r ⟨e, q⟩ => (ok_tg (mg := mg) (e := e) ao h).run pins s σ H v u Q I r q⟩
/-- the tests of a clause -/
theorem r_tests : ∀ {exs : List Expr} {Es : List Mp.E}, Es.length ≤ 1 → OkEs mg e W X Φ exs Es → PTs X exs (rdT mg e W (fun env => allR (evs Φ Es true env)))
  | [], [], _, _ => ⟨fun pins s σ H Q I ⟨env, F, T, f, h⟩ => pts_nil.run pins s σ H Q I (show Q true H from (show ∀ F' H', Grow F H F' H' → Q true H' from h) F H (Grow.refl f.le))⟩
  | [a], [A], _, ok => ⟨fun pins s σ H Q I ⟨env, F, T, f, h⟩ => (pts_one ok.1.tes).run pins s σ H Q I (by
      have h : RW (ev Φ A true env >>= fun d => toB d >>= fun b => if b then pure true else pure false) (fun b => ∀ F' H', Grow F H F' H' → Q b H') (EX mg W σ F H) := h
      refine ⟨env, F, T, f, ?_⟩
      show RW (ev Φ A true env >>= toB) _ _
      refine RW_bind.mpr ((RWb h).imp (fun d q => ?_) fun _ _ z => z)
      refine (RWb q).imp (fun b q => ?_) fun _ _ z => z
      cases b <;> exact q)⟩
  | [], _ :: _, _, ok => ok.elim
  | _ :: _, [], _, ok => ok.elim
  | _, _ :: _ :: _, h, _ => by simp at h
  | _ :: _ :: _, [_], _, ok => ok.2.elim
/-- what each turn does: the target, the tests -/
theorem frame_turn {J : It} {xs : List D} (f : Frm mg e env F σ H T) (g : Grow F H F1 H1) : Frm mg e env F1 σ H1 T := f.grow g
theorem lc_run {tg : Tg} {own : List Nat} {Jt : It} {xs : List D} {x : Mp.E} {cs : List Mp.E} {tt : TT} {te : TE} (f : Frm mg e env F σ H T) (hsub : ∀ i ∈ tgs tg, i ∈ own) (hit : IsIt mg F Jt xs) (hn : xs.length ≤ sizeLine)
    (htt : ∀ σ H Q, rdT mg e W0 (fun env => allR (evs Φ cs true env)) σ H Q → tt σ H Q) (hte : ∀ σ H Q, rdE mg e W0 (fun env => ev Φ x false env) 0 σ H Q → te σ H Q) {Q : VK} {q : String → Option D → Prop}
    (h : RW (lcGo (fun d => ofO (bindT tg d (wipeE env own)) >>= fun env' => noexc (allR (evs Φ cs true env') >>= fun b => if b then ev Φ x false env' >>= fun y => pure (some y) else pure none)) xs) (fun r => KE mg 1 Q F H (.lst r)) q) :
    ∀ D, H D = none → ∃ Wm : Nat → Nat → Hp → Prop, (∃ m, Wm 0 m (upd H D (.lst []))) ∧ ∀ i m H, Wm i m H →
      (Jt.stop i H ∧ Q (.ref D) H) ∨ (Jt.go i H ∧ ∃ Nx : Hp → Prop, (∀ H', Nx H' → ∃ m', m' < m ∧ Wm (i + 1) m' H') ∧ ∀ x H', Jt.yld i H x H' → gAny mg tg x (wipe σ own) H' fun σ2 H2 => wipe σ2 own = wipe σ own ∧ tt σ2 H2 fun b H3 =>
        if b = true then te σ2 H3 fun y H4 => ∃ acc, H4 D = some (.lst acc) ∧ acc.length < sizeLine ∧ Nx (upd H4 D (.lst (acc ++ [y]))) else Nx H3) := by
  intro p np
  generalize hfn : (fun d => ofO (bindT tg d (wipeE env own)) >>= fun env' => noexc (allR (evs Φ cs true env') >>= fun b => if b then ev Φ x false env' >>= fun y => pure (some y) else pure none)) = fn at h
  obtain ⟨G, Y, wk, hG, hY⟩ := hit
  refine lc_it wk (D := p) (Qd := fun Hc => Q (.ref p) Hc) (fun i Hc => ∃ F2 vs ds, Grow F H F2 Hc ∧ F2 p = none ∧ Hc p = some (.lst vs) ∧ Reps mg F2 vs ds ∧ vs.length ≤ i ∧ RW (lcGo fn (xs.drop i)) (fun r => KE mg 1 Q F H (.lst (ds ++ r))) q) ?_ ?_ ?_ ?_
  · exact ⟨F, [], [], Grow.fresh f.le np, f.le.none np, upd_same, Reps.nil, Nat.le_refl _, h⟩
  · rintro i Hc _ ⟨F2, vs, ds, g, _⟩
    exact hG F2 Hc g.ext g.le
  · rintro i y Hc H' hi ⟨F2, vs, ds, g, hF2, hp, rv, hl, hr⟩ yy
    obtain ⟨d, hd⟩ : ∃ d, xs[i]? = some d := ⟨xs[i], List.getElem?_eq_getElem hi⟩
    obtain ⟨F3, g3, rx⟩ := hY i y F2 Hc H' d g.ext g.le yy hd
    have hF3 : F3 p = none := by
      cases z : F3 p with
      | none => rfl
      | some o => have := g3.new p hF2 (by rw [z]; exact fun w => by cases w); rw [hp] at this; cases this
    have gg := g.trans g3
    have hp3 : H' p = some (.lst vs) := g3.same p _ hp
    have hdrop : xs.drop i = d :: xs.drop (i + 1) := by
      rw [List.drop_eq_getElem_cons hi]
      have := List.getElem?_eq_some_iff.mp hd
      obtain ⟨_, e2⟩ := this
      rw [e2]
    rw [hdrop] at hr
    have hr : RW (fn d >>= fun o => lcGo fn (xs.drop (i + 1)) >>= fun r => pure (optCons o r)) _ _ := hr
    have hr := RWb hr
    rw [← hfn] at hr
    obtain ⟨env2, hb, hr⟩ := RW_ofO.mp (RWb hr)
    rw [hfn] at hr
    have hr2 := RW.noexc (q' := fun _ _ => False) hr
    refine ⟨e, wipeE env own, F3, T, d, env2, (f.grow gg).wipes own, rx, hb, fun σ2 o2 f2 => ⟨wipe_only o2 hsub, htt _ _ _ ⟨env2, F3, T, f2, ?_⟩⟩⟩
    have fin : ∀ {F4 H4 : Hp} {v2 : List V} {d2 : List D}, Grow F3 H' F4 H4 → Reps mg F4 v2 d2 → v2.length ≤ i + 1 → RW (lcGo fn (xs.drop (i + 1))) (fun r => KE mg 1 Q F H (.lst (d2 ++ r))) q → ∀ Hn, Hn = upd H4 p (.lst v2) → ∃ F2 vs ds, Grow F H F2 Hn ∧ F2 p = none ∧ Hn p = some (.lst vs) ∧ Reps mg F2 vs ds ∧ vs.length ≤ i + 1 ∧ RW (lcGo fn (xs.drop (i + 1))) (fun r => KE mg 1 Q F H (.lst (ds ++ r))) q :=
      fun {F4 H4 v2 d2} g4 r4 l4 q4 Hn en => by
        have g5 : Grow F H F4 H4 := gg.trans g4
        have hF4 : F4 p = none := by
          cases z : F4 p with
          | none => rfl
          | some o => have := g4.new p hF3 (by rw [z]; exact fun w => by cases w); rw [hp3] at this; cases this
        subst en
        refine ⟨F4, v2, d2, ⟨fun a o h => ?_, g5.ext, fun a h h' => g5.new a h h', fun a o h => ?_⟩, hF4, upd_same, r4, l4, q4⟩
        · have ne : a ≠ p := ne_of_none h np
          rw [upd_ne ne]; exact g5.same a o h
        · have ne : a ≠ p := fun z => by rw [z, hF4] at h; cases h
          rw [upd_ne ne]; exact g5.le a o h
    refine (RWb hr2).imp (fun b hq F4 H4 g4 => ?_) fun _ _ z => z.elim
    cases b with
    | false =>
      rw [if_neg (by decide)] at hq ⊢
      have hq : RW (lcGo fn (xs.drop (i + 1)) >>= fun r => pure r) (fun r => KE mg 1 Q F H (.lst (ds ++ r))) q := hq
      have hq2 : RW (lcGo fn (xs.drop (i + 1))) (fun r => KE mg 1 Q F H (.lst (ds ++ r))) q := (RWb hq).imp (fun r z => z) fun _ _ z => z
      refine fin g4 (Reps.mono (Le.of_same (g3.trans g4).ext) rv) (by omega) hq2 H4 ?_
      funext a
      by_cases z : a = p
      · rw [z, upd_same]; exact g4.same p _ hp3
      · rw [upd_ne z]
    | true =>
      rw [if_pos rfl] at hq ⊢
      refine hte _ _ _ ⟨env2, F4, T, f2.grow g4, (RWb hq).imp (fun d2 hq v F5 H5 S g5 r5 fr5 => ?_) fun _ _ z => z.elim⟩
      have hq : RW (lcGo fn (xs.drop (i + 1)) >>= fun r => pure (d2 :: r)) (fun r => KE mg 1 Q F H (.lst (ds ++ r))) q := hq
      have hq2 : RW (lcGo fn (xs.drop (i + 1))) (fun r => KE mg 1 Q F H (.lst ((ds ++ [d2]) ++ r))) q := (RWb hq).imp (fun r z => by rw [List.append_assoc]; exact z) fun _ _ z => z
      have g45 := g4.trans g5
      refine ⟨vs, g45.same p _ hp3, by omega, ?_⟩
      exact fin g45 (Reps.append (Reps.mono (Le.of_same (g3.trans g45).ext) rv) (Reps.one r5.2)) (by rw [List.length_append, List.length_singleton]; omega) hq2 _ rfl
  · rintro Hc ⟨F2, vs, ds, g, hF2, hp, rv, _, hr⟩
    rw [List.drop_length] at hr
    have hr : KE mg 1 Q F H (.lst (ds ++ [])) := hr
    rw [List.append_nil] at hr
    exact hr (.ref p) F2 Hc [p] g (own_lst hF2 hp rv) (sing_new np)

/-- the block of a comprehension -/
abbrev blkX (X : Cx) (scope : Scope) (s : Shared) (H : Hp) (C : Addr) (cl : List (Str × Addr)) (fp : List Addr) : Cx := X.blk s H scope (compEnvC scope cl C X.env) fp
theorem PE.or {ex : Expr} {t u : TE} (h : PE X ex t) (h' : PE X ex u) : PE X ex (fun σ H Q => t σ H Q ∨ u σ H Q) := ⟨fun pins s σ H Q I q => q.elim (h.run pins s σ H Q I) (h'.run pins s σ H Q I)⟩
theorem plain_fold {ex : Expr} {env : Env} {x : Value} (h : plainE ex = true) : foldedSetIterable ex env x = pure x := by
  cases ex <;> first | rfl | exact absurd h Bool.false_ne_true
theorem ItOk.plain {tg iter : Expr} {ik : Ik} {it : List Mp.E} (ok : ItOk mg e W X Φ tg ik it iter) : plainE iter = true := by
  cases ok with
  | any ok => exact ok.pl
  | _ => rfl
/-- what is wanted, under the lock -/
theorem KE.lock {k : Nat} {Q : VK} {a : Addr} {ob : Obj} {u : HO} {d : D} (hF : F a = some u) (hd : H a = some u) (nf : NoFz X a) (l : lockable u = true) (h : KE mg k Q F H d) : KE mg k (Unl X Q) (upd F a (.frz ob u)) (upd H a (.frz ob u)) d := fun v F' H' S g r fr => by
  obtain ⟨h1, h2, g'⟩ := g.unlock hF hd l
  exact .inr ⟨a, ob, u, h2, nf, h v _ _ S g' (RepN.unlock l h1 r) (RepN.new_unlock fr)⟩
theorem KE.unl {k : Nat} {Q : VK} {d : D} (h : KE mg k Q F H d) : KE mg k (Unl X Q) F H d := fun v F' H' S g r fr => .inl (h v F' H' S g r fr)
theorem ok_lc {pos : Pos} {elt tgE iter : Expr} {ifs : List Expr} {scope : Scope} {own : List (Str × Nat)} {tg : Tg} {ik : Ik} {it cs : List Mp.E} {x : Mp.E} (hc : X.calm = true) (hN : X.N.Nodup) (bk : BlkOk X.N X.env.scope scope own)
    (hit : ∀ e, ItOk mg e W X Φ tgE ik it iter) (ht : mT X.N scope tg tgE = true) (ao : ∀ s H C cl fp, AsOk (blkX X scope s H C cl fp) scope) (hsub : ∀ i ∈ tgs tg, i ∈ own.map (·.2))
    (hcs : ∀ e s H C cl fp, OkEs mg e W0 (blkX X scope s H C cl fp) Φ ifs cs) (hc1 : cs.length ≤ 1) (hx : ∀ e s H C cl fp, OkE mg e W0 (blkX X scope s H C cl fp) Φ elt x) (nb : bor x = false) :
    OkE mg e W X Φ (.ListComp elt [⟨tgE, iter, ifs, 0⟩] scope pos) (.lc x (own.map (·.2)) tg ik it cs) := by
  have rule : PE X (.ListComp elt [⟨tgE, iter, ifs, 0⟩] scope pos) (tLc (anyPI X tgE iter) (gAny mg tg) (tAnyT mg W0 (fun env => allR (evs Φ cs true env))) (tAnyE mg W0 (fun env => ev Φ x false env) 0) (own.map (·.2))) :=
    pe_lc hc hN (anyPI_ok _ _) bk (fun s H C cl fp => ok_tgA (X := blkX X scope s H C cl fp) (ao s H C cl fp) ht)
      (fun s H C cl fp => PTs.any fun e => r_tests hc1 (hcs e s H C cl fp)) (fun s H C cl fp => PE.any fun e => PE.of ((hx e s H C cl fp).own nb) rdE_zero) (fun y => plain_fold (hit e).plain)
  refine Ok3.ofE rfl rfl (PE.of (pe_unl rule) fun σ H Q q => ?_)
  obtain ⟨env, F, T, f, h⟩ := q
  have h : RW (seqR (evs Φ it false env) >>= fun ds => ofO (iterD ik ds) >>= fun xs => okIf (!(it.any bor) && decide (xs.length ≤ sizeLine)) (lcGo (fun d => ofO (bindT tg d (wipeE env (own.map (·.2)))) >>= fun env' => noexc (allR (evs Φ cs true env') >>= fun b => if b then ev Φ x false env' >>= fun y => pure (some y) else pure none)) xs >>= fun r => .ok (.lst r))) (KE mg 1 Q F H) (EX mg W σ F H) := h
  have go := @it_go mg e env F H σ T W Mp.D X Φ tgE iter ik it (hit e) f (KE mg 1 Q) KE.grows (fun xs => decide (xs.length ≤ sizeLine)) (fun _ xs => lcGo (fun d => ofO (bindT tg d (wipeE env (own.map (·.2)))) >>= fun env' => noexc (allR (evs Φ cs true env') >>= fun b => if b then ev Φ x false env' >>= fun y => pure (some y) else pure none)) xs >>= fun r => .ok (.lst r))
  refine go h (fun J F1 H1 _ xs g1 hc hJ h => ?_) (fun J F1 H1 xs a ob u g1 hc hF hH lu nf hJ h => ?_)
  · exact lc_run (f.grow g1) hsub hJ (of_decide_eq_true hc) (fun _ _ _ z => ⟨_, z⟩) (fun _ _ _ z => ⟨_, z⟩) ((RWb h).imp (fun r q => KE.unl q) fun _ _ z => z)
  · exact lc_run ((f.grow g1).lock ob hF hH lu) hsub hJ (of_decide_eq_true hc) (fun _ _ _ z => ⟨_, z⟩) (fun _ _ _ z => ⟨_, z⟩) ((RWb h).imp (fun r q => KE.lock hF hH nf lu q) fun _ _ z => z)
end
end Mp
/-! comprehensions of dicts -/
namespace Mp
open PySem PySem.Spec PyProof.Rows L2 PySem.SeqAt

section
variable {mg : Gd} {e : Ent} {env env' : Sls} {F F' F1 H H' H1 : Hp} {σ : L2.St} {T : Nat → List Addr} {W : WX} {α β : Type} {X : Cx} {Φ : String → List D → R D}
theorem dc_it {J : It} {n : Nat} {G : Hp → Prop} {Y : Nat → Hp → V → Hp → Prop} (w : Walk J n G Y) {g : TG} {tt : TT} {tk tv : TE} {vs : List Nat} {σ : L2.St} {H1 : Hp} {D : Addr} {Qd : Hp → Prop} (Pv : Nat → Hp → Prop) (h0 : Pv 0 (upd H1 D (.dK []))) (hG : ∀ i H, i ≤ n → Pv i H → G H)
    (hs : ∀ i x H H', i < n → Pv i H → Y i H x H' → g x (wipe σ vs) H' fun σ2 H2 => wipe σ2 vs = wipe σ vs ∧ tt σ2 H2 fun b H3 =>
      if b = true then tk σ2 H3 fun y H4 => tv σ2 H4 fun z H5 => ∃ kvs k, y = kV k ∧ H5 D = some (.dK kvs) ∧ kvs.length < sizeLine ∧ Pv (i + 1) (upd H5 D (.dK (putK kvs k z))) else Pv (i + 1) H3) (hd : ∀ H, Pv n H → Qd H) :
    ∃ W : Nat → Nat → Hp → Prop, (∃ m, W 0 m (upd H1 D (.dK []))) ∧ ∀ i m H, W i m H →
      (J.stop i H ∧ Qd H) ∨ (J.go i H ∧ ∃ Nx : Hp → Prop, (∀ H', Nx H' → ∃ m', m' < m ∧ W (i + 1) m' H') ∧ ∀ x H', J.yld i H x H' → g x (wipe σ vs) H' fun σ2 H2 => wipe σ2 vs = wipe σ vs ∧ tt σ2 H2 fun b H3 =>
        if b = true then tk σ2 H3 fun y H4 => tv σ2 H4 fun z H5 => ∃ kvs k, y = kV k ∧ H5 D = some (.dK kvs) ∧ kvs.length < sizeLine ∧ Nx (upd H5 D (.dK (putK kvs k z))) else Nx H3) := by
  refine ⟨fun i m H => m = n - i ∧ i ≤ n ∧ Pv i H, ⟨n, by simp, Nat.zero_le _, h0⟩, ?_⟩
  rintro i m H ⟨rfl, hi, p⟩
  have q := hG i H hi p
  by_cases hlt : i < n
  · refine .inr ⟨w.goes i H hlt q, Pv (i + 1), fun H' p' => ⟨n - (i + 1), by omega, rfl, hlt, p'⟩, fun x H' y => hs i x H H' hlt p (w.yields i H x H' hlt q y)⟩
  · have e : i = n := by omega
    subst e
    exact .inl ⟨w.stops H q, hd H p⟩
theorem put_len {κ : Type} [DecidableEq κ] (k : κ) (d : D) (ks : List κ) (vs : List D) : (putD k d ks vs).1.length ≤ ks.length + 1 := by
  unfold putD
  split
  · simp
  · simp
theorem dc_run {tg : Tg} {own : List Nat} {Jt : It} {xs : List D} {kx vx : Mp.E} {cs : List Mp.E} {tt : TT} {tk tv : TE} (f : Frm mg e env F σ H T) (hsub : ∀ i ∈ tgs tg, i ∈ own) (hit : IsIt mg F Jt xs) (hn : xs.length ≤ sizeLine)
    (htt : ∀ σ H Q, rdT mg e W0 (fun env => allR (evs Φ cs true env)) σ H Q → tt σ H Q) (htk : ∀ σ H Q, rdB mg e W0 (fun env => ev Φ kx false env) σ H Q → tk σ H Q) (htv : ∀ σ H Q, rdE mg e W0 (fun env => ev Φ vx false env) 0 σ H Q → tv σ H Q) {Q : VK} {q : String → Option D → Prop}
    (h : RW (dcGo (fun d => ofO (bindT tg d (wipeE env own)) >>= fun env' => noexc (allR (evs Φ cs true env') >>= fun b => if b then ev Φ kx false env' >>= fun k => ofO (keyD k) >>= fun k => ev Φ vx false env' >>= fun y => pure (some (k, y)) else pure none)) xs ([], [])) (fun r => KE mg 1 Q F H (.dK r.1 r.2)) q) :
    ∀ D, H D = none → ∃ Wm : Nat → Nat → Hp → Prop, (∃ m, Wm 0 m (upd H D (.dK []))) ∧ ∀ i m H, Wm i m H →
      (Jt.stop i H ∧ Q (.ref D) H) ∨ (Jt.go i H ∧ ∃ Nx : Hp → Prop, (∀ H', Nx H' → ∃ m', m' < m ∧ Wm (i + 1) m' H') ∧ ∀ x H', Jt.yld i H x H' → gAny mg tg x (wipe σ own) H' fun σ2 H2 => wipe σ2 own = wipe σ own ∧ tt σ2 H2 fun b H3 =>
        if b = true then tk σ2 H3 fun y H4 => tv σ2 H4 fun z H5 => ∃ kvs k, y = kV k ∧ H5 D = some (.dK kvs) ∧ kvs.length < sizeLine ∧ Nx (upd H5 D (.dK (putK kvs k z))) else Nx H3) := by
  intro p np
  generalize hfn : (fun d => ofO (bindT tg d (wipeE env own)) >>= fun env' => noexc (allR (evs Φ cs true env') >>= fun b => if b then ev Φ kx false env' >>= fun k => ofO (keyD k) >>= fun k => ev Φ vx false env' >>= fun y => pure (some (k, y)) else pure none)) = fn at h
  obtain ⟨G, Y, wk, hG, hY⟩ := hit
  refine dc_it wk (D := p) (Qd := fun Hc => Q (.ref p) Hc) (fun i Hc => ∃ F2 ks vs ds, Grow F H F2 Hc ∧ F2 p = none ∧ ks.length = vs.length ∧ Hc p = some (.dK (ks.zip vs)) ∧ Reps mg F2 vs ds ∧ ks.length ≤ i ∧ RW (dcGo fn (xs.drop i) (ks, ds)) (fun r => KE mg 1 Q F H (.dK r.1 r.2)) q) ?_ ?_ ?_ ?_
  · exact ⟨F, [], [], [], Grow.fresh f.le np, f.le.none np, rfl, upd_same, Reps.nil, Nat.le_refl _, h⟩
  · rintro i Hc _ ⟨F2, ks, vs, ds, g, _⟩
    exact hG F2 Hc g.ext g.le
  · rintro i y Hc H' hi ⟨F2, ks, vs, ds, g, hF2, hkv, hp, rv, hl, hr⟩ yy
    obtain ⟨d, hd⟩ : ∃ d, xs[i]? = some d := ⟨xs[i], List.getElem?_eq_getElem hi⟩
    obtain ⟨F3, g3, rx⟩ := hY i y F2 Hc H' d g.ext g.le yy hd
    have hF3 : F3 p = none := by
      cases z : F3 p with
      | none => rfl
      | some o => have := g3.new p hF2 (by rw [z]; exact fun w => by cases w); rw [hp] at this; cases this
    have gg := g.trans g3
    have hp3 : H' p = some (.dK (ks.zip vs)) := g3.same p _ hp
    have hdrop : xs.drop i = d :: xs.drop (i + 1) := by
      rw [List.drop_eq_getElem_cons hi]
      have := List.getElem?_eq_some_iff.mp hd
      obtain ⟨_, e2⟩ := this
      rw [e2]
    rw [hdrop] at hr
    have hr : RW (fn d >>= fun o => dcGo fn (xs.drop (i + 1)) (dcPut o (ks, ds))) _ _ := hr
    have hr := RWb hr
    rw [← hfn] at hr
    obtain ⟨env2, hb, hr⟩ := RW_ofO.mp (RWb hr)
    rw [hfn] at hr
    have hr2 := RW.noexc (q' := fun _ _ => False) hr
    refine ⟨e, wipeE env own, F3, T, d, env2, (f.grow gg).wipes own, rx, hb, fun σ2 o2 f2 => ⟨wipe_only o2 hsub, htt _ _ _ ⟨env2, F3, T, f2, ?_⟩⟩⟩
    have fin : ∀ {F4 H4 : Hp} {k2 : List Key} {v2 : List V} {d2 : List D}, Grow F3 H' F4 H4 → k2.length = v2.length → Reps mg F4 v2 d2 → k2.length ≤ i + 1 → RW (dcGo fn (xs.drop (i + 1)) (k2, d2)) (fun r => KE mg 1 Q F H (.dK r.1 r.2)) q → ∀ Hn, Hn = upd H4 p (.dK (k2.zip v2)) →
        ∃ F2 ks vs ds, Grow F H F2 Hn ∧ F2 p = none ∧ ks.length = vs.length ∧ Hn p = some (.dK (ks.zip vs)) ∧ Reps mg F2 vs ds ∧ ks.length ≤ i + 1 ∧ RW (dcGo fn (xs.drop (i + 1)) (ks, ds)) (fun r => KE mg 1 Q F H (.dK r.1 r.2)) q :=
      fun {F4 H4 k2 v2 d2} g4 hk r4 l4 q4 Hn en => by
        have g5 : Grow F H F4 H4 := gg.trans g4
        have hF4 : F4 p = none := by
          cases z : F4 p with
          | none => rfl
          | some o => have := g4.new p hF3 (by rw [z]; exact fun w => by cases w); rw [hp3] at this; cases this
        subst en
        refine ⟨F4, k2, v2, d2, ⟨fun a o h => ?_, g5.ext, fun a h h' => g5.new a h h', fun a o h => ?_⟩, hF4, hk, upd_same, r4, l4, q4⟩
        · have ne : a ≠ p := ne_of_none h np
          rw [upd_ne ne]; exact g5.same a o h
        · have ne : a ≠ p := fun z => by rw [z, hF4] at h; cases h
          rw [upd_ne ne]; exact g5.le a o h
    refine (RWb hr2).imp (fun b hq F4 H4 g4 => ?_) fun _ _ z => z.elim
    cases b with
    | false =>
      rw [if_neg (by decide)] at hq ⊢
      have hq : RW (dcGo fn (xs.drop (i + 1)) (ks, ds)) (fun r => KE mg 1 Q F H (.dK r.1 r.2)) q := hq
      refine fin g4 hkv (Reps.mono (Le.of_same (g3.trans g4).ext) rv) (by omega) hq H4 ?_
      funext a
      by_cases z : a = p
      · rw [z, upd_same]; exact g4.same p _ hp3
      · rw [upd_ne z]
    | true =>
      rw [if_pos rfl] at hq ⊢
      refine htk _ _ _ ⟨env2, F4, T, f2.grow g4, (RWb hq).imp (fun dk hq y F5 H5 g5 r5 => ?_) fun _ _ z => z.elim⟩
      obtain ⟨k, ek, hq⟩ := RW_ofO.mp (RWb hq)
      refine htv _ _ _ ⟨env2, F5, T, (f2.grow g4).grow g5, (RWb hq).imp (fun d2 hq v F6 H6 S g6 r6 fr6 => ?_) fun _ _ z => z.elim⟩
      have hq : RW (dcGo fn (xs.drop (i + 1)) (putD k d2 ks ds)) (fun r => KE mg 1 Q F H (.dK r.1 r.2)) q := hq
      have g46 := g4.trans (g5.trans g6)
      obtain ⟨vs', e7, l7, r7⟩ := put_reps (k := k) r6.2 hkv (Reps.mono (Le.of_same (g3.trans g46).ext) rv)
      refine ⟨ks.zip vs, k, key_rep ek r5, g46.same p _ hp3, by rw [List.length_zip]; omega, ?_⟩
      exact fin g46 l7 r7 (by have := put_len k d2 ks ds; omega) hq _ (by rw [e7])
  · rintro Hc ⟨F2, ks, vs, ds, g, hF2, hkv, hp, rv, _, hr⟩
    rw [List.drop_length] at hr
    have hr : KE mg 1 Q F H (.dK ks ds) := hr
    exact hr (.ref p) F2 Hc [p] g (own_dK hF2 hkv hp rv) (sing_new np)
theorem ok_dc {pos : Pos} {kxE vxE tgE iter : Expr} {ifs : List Expr} {scope : Scope} {own : List (Str × Nat)} {tg : Tg} {ik : Ik} {it cs : List Mp.E} {kx vx : Mp.E} (hc : X.calm = true) (hN : X.N.Nodup) (bk : BlkOk X.N X.env.scope scope own)
    (hit : ∀ e, ItOk mg e W X Φ tgE ik it iter) (ht : mT X.N scope tg tgE = true) (ao : ∀ s H C cl fp, AsOk (blkX X scope s H C cl fp) scope) (hsub : ∀ i ∈ tgs tg, i ∈ own.map (·.2))
    (hcs : ∀ e s H C cl fp, OkEs mg e W0 (blkX X scope s H C cl fp) Φ ifs cs) (hc1 : cs.length ≤ 1) (hk : ∀ e s H C cl fp, OkE mg e W0 (blkX X scope s H C cl fp) Φ kxE kx) (hv : ∀ e s H C cl fp, OkE mg e W0 (blkX X scope s H C cl fp) Φ vxE vx) (nb : bor vx = false) :
    OkE mg e W X Φ (.DictComp kxE vxE [⟨tgE, iter, ifs, 0⟩] scope pos) (.dc false kx vx (own.map (·.2)) tg ik it cs) := by
  have rule : PE X (.DictComp kxE vxE [⟨tgE, iter, ifs, 0⟩] scope pos) (tDc (anyPI X tgE iter) (gAny mg tg) (tAnyT mg W0 (fun env => allR (evs Φ cs true env))) (tAnyB mg W0 (fun env => ev Φ kx false env)) (tAnyE mg W0 (fun env => ev Φ vx false env) 0) (own.map (·.2))) :=
    pe_dc hc hN (anyPI_ok _ _) bk (fun s H C cl fp => ok_tgA (X := blkX X scope s H C cl fp) (ao s H C cl fp) ht)
      (fun s H C cl fp => PTs.any fun e => r_tests hc1 (hcs e s H C cl fp)) (fun s H C cl fp => PE.any fun e => (hk e s H C cl fp).brw) (fun s H C cl fp => PE.any fun e => PE.of ((hv e s H C cl fp).own nb) rdE_zero) (fun y => plain_fold (hit e).plain)
  refine Ok3.ofE rfl rfl (PE.of (pe_unl rule) fun σ H Q q => ?_)
  obtain ⟨env, F, T, f, h⟩ := q
  have h : RW (seqR (evs Φ it false env) >>= fun ds => ofO (iterD ik ds) >>= fun xs => okIf (!(it.any bor) && (decide (xs.length ≤ sizeLine) && !false)) (dcGo (fun d => ofO (bindT tg d (wipeE env (own.map (·.2)))) >>= fun env' => noexc (allR (evs Φ cs true env') >>= fun b => if b then ev Φ kx false env' >>= fun k => ofO (keyD k) >>= fun k => ev Φ vx false env' >>= fun y => pure (some (k, y)) else pure none)) xs ([], []) >>= fun r => .ok (.dK r.1 r.2))) (KE mg 1 Q F H) (EX mg W σ F H) := h
  have hcc : ∀ {xs : List D}, (decide (xs.length ≤ sizeLine) && !false) = true → xs.length ≤ sizeLine := fun h => by rw [Bool.not_false, Bool.and_true] at h; exact of_decide_eq_true h
  have go := @it_go mg e env F H σ T W Mp.D X Φ tgE iter ik it (hit e) f (KE mg 1 Q) KE.grows (fun xs => decide (xs.length ≤ sizeLine) && !false) (fun _ xs => dcGo (fun d => ofO (bindT tg d (wipeE env (own.map (·.2)))) >>= fun env' => noexc (allR (evs Φ cs true env') >>= fun b => if b then ev Φ kx false env' >>= fun k => ofO (keyD k) >>= fun k => ev Φ vx false env' >>= fun y => pure (some (k, y)) else pure none)) xs ([], []) >>= fun r => .ok (.dK r.1 r.2))
  refine go h (fun J F1 H1 _ xs g1 hc hJ h => ?_) (fun J F1 H1 xs a ob u g1 hc hF hH lu nf hJ h => ?_)
  · exact dc_run (f.grow g1) hsub hJ (hcc hc) (fun _ _ _ z => ⟨_, z⟩) (fun _ _ _ z => ⟨_, z⟩) (fun _ _ _ z => ⟨_, z⟩) ((RWb h).imp (fun r q => KE.unl q) fun _ _ z => z)
  · exact dc_run ((f.grow g1).lock ob hF hH lu) hsub hJ (hcc hc) (fun _ _ _ z => ⟨_, z⟩) (fun _ _ _ z => ⟨_, z⟩) (fun _ _ _ z => ⟨_, z⟩) ((RWb h).imp (fun r q => KE.lock hF hH nf lu q) fun _ _ z => z)
end
end Mp
/-! the texts are these expressions: a check, and that it suffices -/
namespace Mp
open PySem PySem.Spec PyProof.Rows L2 PySem.SeqAt

/-- what the texts may name -/
structure Tbl where
  fns : List (String × Sig)
  inits : List (String × Sig)
  mets : List (String × String × Sig)
  prps : List (String × String × Sig)
  glos : List (String × D)
  cf : List (String × List String)
  xcs : List (String × Option String)
  hnd : List (String × List String × List String)
/-- the fields of its classes -/
def Tbl.fs (tb : Tbl) (c : String) : List Str := (match tb.cf.lookup c with
  | some l => l
  | none => match tb.xcs.lookup c with
    | some (some n) => [n]
    | _ => []).map Str.ofString
def Tbl.gd (tb : Tbl) (mg : Str → Option Value) (K : PySem.W.Frag) : Gd := ⟨mg, tb.fs, K⟩
def bnames : List String := ["len", "abs", "int", "str", "list", "tuple", "dict", "sum", "any", "all", "max", "min", "sorted", "set", "range", "enumerate", "isinstance", "zip", "bool"]

/-- an exception class: of one text alone, or with an attribute that its own __init__ gives -/
def ExcA (K : PySem.W.Frag) (C : Addr) : Prop := ∃ bmB initId, ExcBaseFacts "ValueError" "ValueError.__new__" initId bmB ∧ PySem.W.excIn K C bmB "ValueError.__new__" = true ∧ PySem.W.keepIn K (.ref C) = true ∧
  PySem.W.subIn K (.ref C) (.type "BaseException") = some true ∧ PySem.W.typeIn K (.ref C) = some (.type "type")
def ExcB (prog : Program) (w : World) (K : PySem.W.Frag) (mg : Str → Option Value) (base : Heap) (C : Addr) (n : Str) : Prop := ∃ (fI : Addr) (fd : FuncData) (par : Str), OexC K C ∧ XfC K C ∧ PySem.W.findIn K (.ref C) "__init__" = some (some (.ref fI)) ∧ PySem.W.typeIn K (.ref fI) = some (.type "function") ∧
  FnOk prog w K mg base (L2.CX prog w) 0 fI fd ["self", par] (spExi C n) ∧ Binds K fd ["self", par] [] ∧ PySem.W.findIn K (.ref C) n = some none
/-- whether a clause takes it -/
def HndOk (K : PySem.W.Frag) (gd : Gd) (C' : Addr) (c : String) (b : Bool) : Prop := ∃ C, gd.mg c = some (.ref C) ∧ PySem.W.exmOne K (.ref C) (.ref C') = some b ∧ ExcC K C ∧ PySem.W.kitOne K (.ref C) (.ref C') = some b
section
variable {P : Program} {w : World} {K : PySem.W.Frag} {base : Heap}
/-- what the module says of them -/
structure Fx (gd : Gd) (tb : Tbl) (Φ : String → List D → R D) (lv : Nat) (X : Cx) : Prop where
  room : Room (lv + 1) X.A
  kk : gd.K = X.K
  fn : ∀ f g, (f, g) ∈ tb.fns → g.ini = none ∧ ∃ a, X.mg f = some (.ref a) ∧ PySem.W.keepIn X.K (.ref a) = true ∧ FnK gd X Φ lv f g a
  ini : ∀ c g, (c, g) ∈ tb.inits → g.ini = some c ∧ ∃ C a, X.mg c = some (.ref C) ∧ gd.mg c = some (.ref C) ∧ Mk X.K C a ∧ FnK gd X Φ lv (c ++ ".__init__") g a
  met : ∀ c m g, (c, m, g) ∈ tb.mets → g.ini = none ∧ ∃ C a, gd.mg c = some (.ref C) ∧ Cls X.K C ∧ Meth X.K C m a ∧ (m : Str) ∉ gd.cf c ∧ FnK gd X Φ lv (c ++ "." ++ m) g a
  prp : ∀ c m g, (c, m, g) ∈ tb.prps → g.ini = none ∧ ∃ C a pr, gd.mg c = some (.ref C) ∧ Cls X.K C ∧ PropOf X.K C m pr a ∧ FnK gd X Φ lv (c ++ "." ++ m) g a
  fld : ∀ c l, (c, l) ∈ tb.cf → FldOk gd X c ∧ gd.cf c = l.map Str.ofString
  glo : ∀ x d, (x, d) ∈ tb.glos → isScal d = true ∧ ∃ v u, X.mg x = some u ∧ RelV v u ∧ ∀ F, Rep gd F v d
  bi : ∀ n ∈ bnames, X.mg n = none
  exA : ∀ c, (c, none) ∈ tb.xcs → ∃ C, X.mg c = some (.ref C) ∧ gd.mg c = some (.ref C) ∧ ExcA X.K C
  exB : ∀ c n, (c, some n) ∈ tb.xcs → gd.cf c = [Str.ofString n] ∧ ∃ C, X.mg c = some (.ref C) ∧ gd.mg c = some (.ref C) ∧ ExcB X.prog X.w X.K X.mg X.base C n
  hnd : ∀ c ys ns, (c, ys, ns) ∈ tb.hnd → ∃ C, X.mg c = some (.ref C) ∧ (∀ x ∈ ys, HndOk X.K gd C x true) ∧ ∀ x ∈ ns, HndOk X.K gd C x false
end
/-- a text's context -/
structure CD (gd : Gd) (tb : Tbl) (Φ : String → List D → R D) (lv : Nat) (N : List Str) (sc : Scope) (W : WX) (X : Cx) : Prop where
  n : X.N = N
  nd : N.Nodup
  sc : X.env.scope = sc
  calm : X.calm = true
  tk : Takes X W
  fx : Fx gd tb Φ lv X

/-! ### the forms of a text -/
def vName : Expr → Option Str
  | .Name x _ => some x
  | _ => none
theorem vName_is {ex : Expr} {x : Str} (h : vName ex = some x) : ∃ p, ex = .Name x p := by
  cases ex with
  | Name y p => cases h; exact ⟨p, rfl⟩
  | _ => cases h
def vCall : Expr → Option (Str × List Expr)
  | .Call (.Name x _) xs [] _ => some (x, xs)
  | _ => none
theorem vCall_is {ex : Expr} {x : Str} {xs : List Expr} (h : vCall ex = some (x, xs)) : ∃ p pos, ex = .Call (.Name x p) xs [] pos := by
  cases ex with
  | Call f args kws pos =>
    cases f with
    | Name y p =>
      cases kws with
      | nil => cases h; exact ⟨p, pos, rfl⟩
      | cons _ _ => cases h
    | _ => cases h
  | _ => cases h
def vMeth : Expr → Option (Expr × Str × List Expr)
  | .Call (.Attribute o m ap) xs [] pos => if ap.endLine == pos.line then some (o, m, xs) else none
  | _ => none
theorem vMeth_is {ex o : Expr} {m : Str} {xs : List Expr} (h : vMeth ex = some (o, m, xs)) : ∃ ap pos, ex = .Call (.Attribute o m ap) xs [] pos ∧ (ap.endLine == pos.line) = true := by
  cases ex with
  | Call f args kws pos =>
    cases f with
    | Attribute o' m' ap =>
      cases kws with
      | nil =>
        have h : (if ap.endLine == pos.line then some (o', m', args) else none) = some (o, m, xs) := h
        split at h
        · rename_i z; cases h; exact ⟨ap, pos, rfl, z⟩
        · cases h
      | cons _ _ => cases h
    | _ => cases h
  | _ => cases h
/-- the items of a dict's display -/
def vSome : List (Option Expr) → Option (List Expr)
  | [] => some []
  | some e :: es => (vSome es).map (e :: ·)
  | none :: _ => none
theorem vSome_is : ∀ {es : List (Option Expr)} {xs : List Expr}, vSome es = some xs → es = xs.map some
  | [], _, h => by cases h; rfl
  | none :: _, _, h => by cases h
  | some e :: es, xs, h => by
    have h : (vSome es).map (e :: ·) = some xs := h
    cases hs : vSome es with
    | none => rw [hs] at h; cases h
    | some l => rw [hs] at h; cases h; rw [vSome_is hs]; rfl
/-- a name that is read -/
def seen (sc : Scope) (x : Str) : Bool := match sc.names.lookup x with
  | some .local => true
  | some .cell => true
  | some .free => true
  | _ => false
theorem seen_is {sc : Scope} {x : Str} (h : seen sc x = true) : Vis sc x := by
  unfold seen at h
  unfold Vis
  split at h <;> first | (rename_i z; rw [z]; simp) | cases h
def okName (N : List Str) (sc : Scope) (i : Nat) (x : Str) : Bool := decide (N[i]? = some x) && seen sc x && !(x == ("__debug__" : Str)) && !(x == ("__classdict__" : Str))
/-- a name of the module or of the builtins -/
def okGl (sc : Scope) (x : Str) : Bool := decide (sc.names.lookup x = some .globalImplicit) && !(x == ("__debug__" : Str)) && (x != ("super" : Str)) && !decide (x = ("__name__" : Str))
def okCon : D → Const → Bool
  | .int i, .int j => decide (i = j)
  | .bl i, .bool j => decide (i = j)
  | .str i, .str j => decide (i = j)
  | .non, .none => true
  | _, _ => false
def sameS : D → D → Bool
  | .int i, .int j => decide (i = j)
  | .str i, .str j => decide (i = j)
  | _, _ => false
theorem sameS_is {a b : D} (h : sameS a b = true) : a = b := by
  cases a <;> cases b <;> first | exact absurd h Bool.false_ne_true | (rw [of_decide_eq_true h])
def biName : Bi → String
  | .len => "len" | .abs => "abs" | .int => "int" | .str => "str" | .list => "list" | .tuple => "tuple" | .dict => "dict" | .sum => "sum" | .any => "any" | .all => "all"
  | .max => "max" | .min => "min" | .sorted => "sorted" | .sortedSet => "sorted" | .lenSet => "len" | .isTy _ => "isinstance" | .isInst _ => "isinstance"
/-- the built-ins with a rule, so far -/
def biPlain : Bi → Bool
  | .len => true | .abs => true | .int => true | .str => true | .list => true | .tuple => true | .dict => true | .sum => true | .any => true | .all => true
  | .max => true | .min => true | .sorted => true
  | _ => false

section
variable (tb : Tbl) (N : List Str)
mutual
def mE (tb : Tbl) (N : List Str) (sc : Scope) : E → Expr → Bool
  | .loc i, ex => match vName ex with
    | some x => okName N sc i x
    | none => false
  | .lb i, ex => match vName ex with
    | some x => okName N sc i x
    | none => false
  | .con d, ex => match ex with
    | .Constant c _ _ => okCon d c
    | _ => false
  | .glo n d, ex => match vName ex with
    | some x => decide (x = (n : Str)) && okGl sc x && tb.glos.any fun p => p.1 == n && sameS p.2 d
    | none => false
  | .atm a, ex => truthE ex && mE tb N sc a ex
  | .bin o a b, ex => match ex with
    | .BinOp l o' r _ => decide (o = o') && mE tb N sc a l && mE tb N sc b r
    | _ => false
  | .neg a, ex => match ex with
    | .UnaryOp .USub x _ => mE tb N sc a x
    | _ => false
  | .not a, ex => match ex with
    | .UnaryOp .Not x _ => mE tb N sc a x
    | _ => false
  | .bo c es, ex => match ex with
    | .BoolOp o xs _ => decide (o = if c then .And else .Or) && !xs.isEmpty && !es.any bor && mEs tb N sc es xs
    | _ => false
  | .cmp o a b, ex => match ex with
    | .Compare l [o'] [r] _ => decide (o = o') && mE tb N sc a l && mE tb N sc b r
    | _ => false
  | .chn a os es, ex => match ex with
    | .Compare l os' rs _ => decide (os = os') && decide (os.length = es.length) && decide (2 ≤ os.length) && mE tb N sc a l && mEs tb N sc es rs
    | _ => false
  | .ite c a b, ex => match ex with
    | .IfExp c' a' b' _ => mE tb N sc c c' && mE tb N sc a a' && mE tb N sc b b'
    | _ => false
  | .idx a i, ex => match ex with
    | .Subscript x s _ => mE tb N sc a x && mE tb N sc i s
    | _ => false
  | .sl a lo hi, ex => match ex with
    | .Subscript x (.Slice l h none _) _ => mE tb N sc a x && mO tb N sc lo l && mO tb N sc hi h
    | _ => false
  | .stp a w, ex => match ex with
    | .Subscript x (.Slice none none (some st) _) _ => mE tb N sc a x && mE tb N sc w st
    | _ => false
  | .lst es, ex => match ex with
    | .List xs _ => !es.any bor && mEs tb N sc es xs
    | _ => false
  | .tup es, ex => match ex with
    | .Tuple xs _ _ => !es.any bor && mEs tb N sc es xs
    | _ => false
  | .dct t ks vs, ex => match ex with
    | .Dict kx vx _ => match kx, vx with
      | [], [] => ks.isEmpty && vs.isEmpty
      | _, _ => match vSome kx with
        | some kx => !t && !kx.isEmpty && decide (kx.length = vx.length) && decide (kx.length ≤ 15) && !vs.any bor && mEs tb N sc ks kx && mEs tb N sc vs vx
        | none => false
    | _ => false
  | .att c i a, ex => match ex with
    | .Attribute x n _ => (match tb.cf.lookup c with | some l => decide ((l.map Str.ofString)[i]? = some n) | none => false) && mE tb N sc a x
    | _ => false
  | .call f k es, ex => match vCall ex with
    | some (x, xs) => decide (x = (f : Str)) && okGl sc x && (match tb.fns.lookup f with | some g => g.k == k && g.ini.isNone && decide (es.length = g.np) && bsLe (es.map bor) g.bs | none => false) && mEs tb N sc es xs
    | none => false
  | .new c k es, ex => match vCall ex with
    | some (x, xs) => decide (x = (c : Str)) && okGl sc x && (match tb.inits.lookup c with | some g => g.k == k && decide (es.length + 1 = g.np) && bsLe (es.map bor) g.bs | none => false) && mEs tb N sc es xs
    | none => false
  | .bi b es, ex => match vCall ex with
    | some (x, xs) => (biPlain b && !xs.isEmpty && decide (x = (biName b : Str)) && okGl sc x && mEs tb N sc es xs) ||
      (match xs with
        | [x1] => match vCall x1 with
          | some (y, ys) => decide (b = .lenSet) && decide (x = ("len" : Str)) && okGl sc x && decide (y = ("set" : Str)) && okGl sc y && decide (ys.length = 1) && mEs tb N sc es ys
          | none => false
        | [x1, x2] => (match b with
          | .isTy t => (match vName x2 with
            | some y => decide (x = ("isinstance" : Str)) && okGl sc x && decide (y = (t : Str)) && okGl sc y && decide (t ∈ tNames) && mEs tb N sc es [x1]
            | none => false)
          | _ => false)
        | _ => false)
    | none => false
  | .get a es, ex => match vMeth ex with
    | some (o, m, xs) => decide (m = ("get" : Str)) && mE tb N sc a o && (decide (xs.length = 1) || (decide (xs.length = 2) && !es.any bor)) && mEs tb N sc es xs
    | none => false
  | .mth m a es, ex => match vMeth ex with
    | some (o, n, xs) => (match m with | .join => decide (n = ("join" : Str)) | .split => decide (n = ("split" : Str)) | _ => false) && decide (xs.length = 1) && mE tb N sc a o && mEs tb N sc es xs
    | none => false
  | .met c m k a es, ex => match vMeth ex with
    | some (o, n, xs) => decide (n = (m : Str)) && decide (xs.length < 29) && (tb.mets.any fun p => p.1 == c && p.2.1 == m && p.2.2.k == k && decide (es.length + 1 = p.2.2.np) && bsLe (bor a :: es.map bor) p.2.2.bs) && mE tb N sc a o && mEs tb N sc es xs
    | none => false
  | .prp c m k a, ex => match ex with
    | .Attribute o n _ => decide (n = (m : Str)) && (tb.prps.any fun p => p.1 == c && p.2.1 == m && p.2.2.k == k && decide (1 = p.2.2.np) && bsLe [bor a] p.2.2.bs) && mE tb N sc a o
    | _ => false
  | .lc x own tg ik it cs, ex => match ex with
    | .ListComp elt [⟨tgE, iter, ifs, n⟩] scope _ => decide (n = 0) && blkC N sc scope (own.map fun i => (N.getD i Str.empty, i)) && mT N scope tg tgE && (tgs tg).all (fun i => decide (i ∈ own)) && decide (cs.length ≤ 1) && !bor x &&
      mIt tb N sc ik it tgE iter && mEs tb N (relS scope sc) cs ifs && mE tb N (relS scope sc) x elt
    | _ => false
  | .dc b kx vx own tg ik it cs, ex => match ex with
    | .DictComp ke ve [⟨tgE, iter, ifs, n⟩] scope _ => decide (n = 0) && !b && blkC N sc scope (own.map fun i => (N.getD i Str.empty, i)) && mT N scope tg tgE && (tgs tg).all (fun i => decide (i ∈ own)) && decide (cs.length ≤ 1) && !bor vx &&
      mIt tb N sc ik it tgE iter && mEs tb N (relS scope sc) cs ifs && mE tb N (relS scope sc) kx ke && mE tb N (relS scope sc) vx ve
    | _ => false
  | .fst es, ex => match ex with
    | .JoinedStr xs _ => decide (2 ≤ xs.length) && mEs tb N sc es xs
    | _ => false
  | .fv a, ex => match ex with
    | .FormattedValue x n none _ => decide (n = -1) && mE tb N sc a x
    | _ => false
def mEs (tb : Tbl) (N : List Str) (sc : Scope) : List E → List Expr → Bool
  | [], xs => xs.isEmpty
  | e :: es, xs => match xs with
    | [] => false
    | x :: xs => mE tb N sc e x && mEs tb N sc es xs
def mO (tb : Tbl) (N : List Str) (sc : Scope) : List E → Option Expr → Bool
  | [], x => x.isNone
  | e :: es, x => match x with
    | none => false
    | some x => mE tb N sc e x && es.isEmpty
def mIt (tb : Tbl) (N : List Str) (sc : Scope) : Ik → List E → Expr → Expr → Bool
  | _, [], _, _ => false
  | ik, e :: es, tg, iter => match ik with
    | .any => es.isEmpty && mE tb N sc e iter
    | .vals => es.isEmpty && (match vMeth iter with | some (o, m, xs) => decide (m = ("values" : Str)) && xs.isEmpty && mE tb N sc e o | none => false)
    | .items => es.isEmpty && (match vMeth iter with | some (o, m, xs) => decide (m = ("items" : Str)) && xs.isEmpty && mE tb N sc e o && (match tg with | .Tuple _ _ _ => true | _ => false) | none => false)
    | .rng => match vCall iter with
      | some (x, xs) => decide (x = ("range" : Str)) && okGl sc x && (match xs with | [] => false | x1 :: xs => mE tb N sc e x1 && mEs tb N sc es xs && decide (xs.length ≤ 1))
      | none => false
    | .enum => match vCall iter with
      | some (x, xs) => decide (x = ("enumerate" : Str)) && okGl sc x && es.isEmpty && (match tg with | .Tuple _ _ _ => true | _ => false) && (match xs with | [] => false | x1 :: xs => mE tb N sc e x1 && xs.isEmpty)
      | none => false
    | .zip => false
end
end
end Mp
/-! the check suffices -/
namespace Mp
open PySem PySem.Spec PyProof.Rows L2 PySem.SeqAt

section
variable {gd : Gd} {tb : Tbl} {Φ : String → List D → R D} {lv : Nat} {N : List Str} {W : WX}
theorem nm_ok {sc : Scope} {X : Cx} {i : Nat} {x : Str} (cd : CD gd tb Φ lv N sc W X) (h : okName N sc i x = true) : X.N[i]? = some x ∧ Vis X.env.scope x ∧ (x == ("__debug__" : Str)) = false ∧ (x == ("__classdict__" : Str)) = false := by
  unfold okName at h
  simp only [Bool.and_eq_true, Bool.not_eq_true', decide_eq_true_eq] at h
  obtain ⟨⟨⟨h1, h2⟩, h3⟩, h4⟩ := h
  exact ⟨by rw [cd.n]; exact h1, by rw [cd.sc]; exact seen_is h2, h3, h4⟩
theorem gl_ok {sc : Scope} {X : Cx} {x : Str} (cd : CD gd tb Φ lv N sc W X) (h : okGl sc x = true) : Gl X x ∧ (x == ("__debug__" : Str)) = false ∧ (x != ("super" : Str)) = true ∧ x ≠ "__name__" := by
  unfold okGl at h
  simp only [Bool.and_eq_true, Bool.not_eq_true', decide_eq_true_eq, decide_eq_false_iff_not] at h
  obtain ⟨⟨⟨h1, h2⟩, h3⟩, h4⟩ := h
  refine ⟨?_, h2, h3, h4⟩
  unfold Gl Env.kindOf
  rw [cd.sc]; exact h1
theorem CD.hu {sc : Scope} {X : Cx} (cd : CD gd tb Φ lv N sc W X) : X.A.units + 64 < cLine := cd.fx.room.units
theorem lookup_mem {β : Type} : ∀ {l : List (String × β)} {k : String} {b : β}, l.lookup k = some b → (k, b) ∈ l
  | [], _, _, h => by cases h
  | (k', b') :: l, k, b, h => by
    rw [List.lookup_cons] at h
    by_cases q : (k == k') = true
    · rw [q] at h
      cases h
      rw [beq_iff_eq.mp q]
      exact List.mem_cons_self
    · rw [Bool.not_eq_true] at q
      rw [q] at h
      exact List.mem_cons_of_mem _ (lookup_mem h)
/-- the block's context -/
theorem CD.blk {sc : Scope} {X : Cx} (cd : CD gd tb Φ lv N sc W X) (scope : Scope) (s : Shared) (H : Hp) (C : Addr) (cl : List (Str × Addr)) (fp : List Addr) : CD gd tb Φ lv N (relS scope sc) W0 (blkX X scope s H C cl fp) where
  n := cd.n
  nd := cd.nd
  sc := by rw [← cd.sc]; rfl
  calm := cd.calm
  tk := fun u s' ⟨_, _, _, _, _, _, _, _, _, _, _, _, _, _, _, _, w⟩ => w.elim
  fx := ⟨cd.fx.room, cd.fx.kk, cd.fx.fn, cd.fx.ini, cd.fx.met, cd.fx.prp, (fun c l h => ⟨⟨(cd.fx.fld c l h).1.nd, (cd.fx.fld c l h).1.cls, (cd.fx.fld c l h).1.no⟩, (cd.fx.fld c l h).2⟩), cd.fx.glo, cd.fx.bi, cd.fx.exA, cd.fx.exB, cd.fx.hnd⟩
theorem CD.as {sc : Scope} {X : Cx} (cd : CD gd tb Φ lv N sc W X) (scope : Scope) (s : Shared) (H : Hp) (C : Addr) (cl : List (Str × Addr)) (fp : List Addr) : AsOk (blkX X scope s H C cl fp) scope where
  nd := by show X.N.Nodup; rw [cd.n]; exact cd.nd
  calm := cd.calm
  loc := fun x h => by
    rcases h with h | h
    · have k : (relS scope X.env.scope).names.lookup x = some .local := lookup_relS_keep (by decide) h
      exact ⟨.inl k, .inr k⟩
    · have k : (relS scope X.env.scope).names.lookup x = some .cell := lookup_relS_keep (by decide) h
      exact ⟨.inr k, .inl (by show (scope.names.lookup x == some .cell) = true; rw [h]; rfl)⟩
theorem met_few {X : Cx} {xs : List Expr} {pos : Pos} (hp : xs.all plainE = true) (hl : xs.length < 29) : methodCallForm (xs.length + ([] : List Keyword).length) (backTo pos (starEach xs X.env)) (backToKw pos (keywordEach [] X.env)) = true := by
  have key : ∀ {xs : List Expr}, xs.all plainE = true → (backTo pos (starEach xs X.env)).all (fun x => !x.1) = true := fun {xs} => by
    induction xs with
    | nil => intro _; rfl
    | cons e es ih =>
      intro h
      rw [List.all_cons, Bool.and_eq_true] at h
      rw [plain_star h.1]
      exact ih h.2
  unfold methodCallForm
  rw [key hp]
  show (true && true && decide (xs.length + 0 + 0 < 30)) = true
  rw [decide_eq_true (by omega)]; rfl
theorem met_tree {X : Cx} {o : Expr} {m : Str} {ap pos : Pos} {xs : List Expr} (hp : xs.all plainE = true) (hl : xs.length < 29) (hline : (ap.endLine == pos.line) = true) : ∃ pl : Sem Bool, eval (.Call (.Attribute o m ap) xs [] pos) X.env = (do
      let ov ← attributeBase o m X.env (eval o X.env)
      standAt ap.atName
      let (f, first) ← holding [ov] (getMethod ov m pl)
      callWith pos f first (backTo pos (starEach xs X.env)) (backToKw pos (keywordEach [] X.env))) := by
  refine ⟨(do return (← importBound o X.env).getD true), ?_⟩
  have e1 : eval (.Call (.Attribute o m ap) xs [] pos) X.env = (do
      let ov ← attributeBase o m X.env (eval o X.env)
      standAt ap.atName
      methodCall o m ap pos X.env ov (xs.length + ([] : List Keyword).length) (backTo pos (starEach xs X.env)) (backToKw pos (keywordEach [] X.env))) := rfl
  rw [e1]
  unfold methodCall
  rw [met_few hp hl]
  unfold methodCallPos calleeOf
  rw [hline]
  rfl
theorem con_ok {e : Ent} {X : Cx} {d : D} {c : Const} {k : Nat} {p : Pos} (h : okCon d c = true) : OkE gd e W X Φ (.Constant c k p) (.con d) := by
  cases d <;> cases c <;> first | exact absurd h Bool.false_ne_true | skip
  · exact ok_non
  · have := of_decide_eq_true h; subst this; exact ok_bl
  · have := of_decide_eq_true h; subst this; exact ok_int
  · have := of_decide_eq_true h; subst this; exact ok_str
theorem bi_ok {sc : Scope} {e : Ent} {X : Cx} (cd : CD gd tb Φ lv N sc W X) {b : Bi} {x : Str} {p pos : Pos} {xs : List Expr} {es : List Mp.E} (hb : biPlain b = true) (hne : xs.isEmpty = false) (hx : x = (biName b : Str)) (hg : okGl sc x = true) (ok : OkEs gd e W X Φ xs es) :
    OkE gd e W X Φ (.Call (.Name x p) xs [] pos) (.bi b es) := by
  obtain ⟨g1, g2, g3, g4⟩ := gl_ok cd hg
  cases xs with
  | nil => cases hne
  | cons a r =>
    subst hx
    cases b with
    | len => exact ok_biB (bi_len cd.fx.kk) g1 (cd.fx.bi _ (by decide)) boot_len g4 g2 g3 ok
    | abs => exact ok_biB bi_abs g1 (cd.fx.bi _ (by decide)) (by decide +kernel) g4 g2 g3 ok
    | int => exact ok_biT bi_int g1 (cd.fx.bi _ (by decide)) (by decide +kernel) g4 g2 g3 ok
    | str => exact ok_biT bi_str g1 (cd.fx.bi _ (by decide)) (by decide +kernel) g4 g2 g3 ok
    | list => exact ok_biT (bi_list cd.calm) g1 (cd.fx.bi _ (by decide)) (by decide +kernel) g4 g2 g3 ok
    | tuple => exact ok_biT bi_tuple g1 (cd.fx.bi _ (by decide)) (by decide +kernel) g4 g2 g3 ok
    | dict => exact ok_biT bi_dict g1 (cd.fx.bi _ (by decide)) (by decide +kernel) g4 g2 g3 ok
    | sum => exact ok_biB (bi_sum cd.calm) g1 (cd.fx.bi _ (by decide)) (by decide +kernel) g4 g2 g3 ok
    | any => exact ok_biB (bi_any cd.calm) g1 (cd.fx.bi _ (by decide)) (by decide +kernel) g4 g2 g3 ok
    | all => exact ok_biB (bi_all cd.calm) g1 (cd.fx.bi _ (by decide)) (by decide +kernel) g4 g2 g3 ok
    | max => exact ok_biB (bi_max cd.calm) g1 (cd.fx.bi _ (by decide)) (by decide +kernel) g4 g2 g3 ok
    | min => exact ok_biB (bi_min cd.calm) g1 (cd.fx.bi _ (by decide)) (by decide +kernel) g4 g2 g3 ok
    | sorted => exact ok_biB (bi_sorted cd.calm cd.hu) g1 (cd.fx.bi _ (by decide)) (by decide +kernel) g4 g2 g3 ok
    | _ => cases hb
theorem own_map {own : List Nat} : (own.map fun i => (N.getD i Str.empty, i)).map (·.2) = own := by
  rw [List.map_map]
  exact List.map_id' own
theorem mE_loc {sc : Scope} {e : Ent} {X : Cx} (cd : CD gd tb Φ lv N sc W X) {i : Nat} {ex : Expr} (h : mE tb N sc (.loc i) ex = true) : ∃ x p, ex = .Name x p ∧ X.N[i]? = some x ∧ Vis X.env.scope x ∧ (x == ("__debug__" : Str)) = false ∧ (x == ("__classdict__" : Str)) = false := by
  unfold mE at h
  cases hv : vName ex with
  | none => rw [hv] at h; cases h
  | some x =>
    rw [hv] at h
    obtain ⟨p, ee⟩ := vName_is hv
    exact ⟨x, p, ee, nm_ok cd h⟩
end
section
variable {gd : Gd} {tb : Tbl} {Φ : String → List D → R D} {lv : Nat} {N : List Str}
mutual
theorem mE_ok : ∀ (E : Mp.E) {sc : Scope} {ex : Expr} {W : WX} {X : Cx} (e : Ent), CD gd tb Φ lv N sc W X → mE tb N sc E ex = true → OkE gd e W X Φ ex E
  | .loc i, sc, ex, W, X, e, cd, h => by
    obtain ⟨x, p, ee, h1, h2, h3, h4⟩ := mE_loc (e := e) cd h
    subst ee
    exact ok_loc h1 h2 h3 h4
  | .lb i, sc, ex, W, X, e, cd, h => by
    unfold mE at h
    cases hv : vName ex with
    | none => rw [hv] at h; cases h
    | some x =>
      rw [hv] at h
      obtain ⟨p, ee⟩ := vName_is hv
      subst ee
      obtain ⟨h1, h2, h3, h4⟩ := nm_ok cd h
      exact ok_lb h1 h2 h3 h4
  | .con d, sc, ex, W, X, e, cd, h => by
    unfold mE at h
    cases ex <;> first | exact absurd h Bool.false_ne_true | exact con_ok h
  | .glo n d, sc, ex, W, X, e, cd, h => by
    unfold mE at h
    cases hv : vName ex with
    | none => rw [hv] at h; cases h
    | some x =>
      rw [hv] at h
      obtain ⟨p, ee⟩ := vName_is hv
      subst ee
      simp only [Bool.and_eq_true, decide_eq_true_eq, List.any_eq_true, beq_iff_eq] at h
      obtain ⟨⟨h1, h2⟩, ⟨n', d'⟩, hm, h3, h4⟩ := h
      have h3 : n' = n := h3
      have h4 := sameS_is h4
      have h4 : d' = d := h4
      subst h3; subst h4; subst h1
      obtain ⟨g1, g2, g3, g4⟩ := gl_ok cd h2
      obtain ⟨z, v, u, q1, q2, q3⟩ := cd.fx.glo _ _ hm
      exact ok_glo g1 q1 q2 q3 z g2
  | .atm a, sc, ex, W, X, e, cd, h => by
    unfold mE at h
    rw [Bool.and_eq_true] at h
    exact ok_atm (mE_ok a e cd h.2) h.1
  | .bin o a b, sc, ex, W, X, e, cd, h => by
    unfold mE at h
    cases ex <;> first | exact absurd h Bool.false_ne_true | skip
    simp only [Bool.and_eq_true, decide_eq_true_eq] at h
    obtain ⟨⟨h1, h2⟩, h3⟩ := h
    subst h1
    exact ok_bin (mE_ok a e cd h2) (mE_ok b e cd h3)
  | .neg a, sc, ex, W, X, e, cd, h => by
    unfold mE at h
    cases ex with
    | UnaryOp o x p => cases o <;> first | exact absurd h Bool.false_ne_true | exact ok_neg (mE_ok a e cd h)
    | _ => exact absurd h Bool.false_ne_true
  | .not a, sc, ex, W, X, e, cd, h => by
    unfold mE at h
    cases ex with
    | UnaryOp o x p => cases o <;> first | exact absurd h Bool.false_ne_true | exact ok_notE (mE_ok a e cd h)
    | _ => exact absurd h Bool.false_ne_true
  | .bo c es, sc, ex, W, X, e, cd, h => by
    unfold mE at h
    cases ex <;> first | exact absurd h Bool.false_ne_true | skip
    simp only [Bool.and_eq_true, decide_eq_true_eq, Bool.not_eq_true'] at h
    obtain ⟨⟨⟨h1, h2⟩, h3⟩, h4⟩ := h
    subst h1
    exact ok_bo (by intro z; rw [z] at h2; cases h2) h3 (mEs_ok es e cd h4)
  | .cmp o a b, sc, ex, W, X, e, cd, h => by
    unfold mE at h
    cases ex with
    | Compare l os rs p =>
      match os, rs, h with
      | [o'], [r], h =>
        simp only [Bool.and_eq_true, decide_eq_true_eq] at h
        obtain ⟨⟨h1, h2⟩, h3⟩ := h
        subst h1
        exact ok_cmpE cd.hu (mE_ok a e cd h2) (mE_ok b e cd h3)
    | _ => exact absurd h Bool.false_ne_true
  | .chn a os es, sc, ex, W, X, e, cd, h => by
    unfold mE at h
    cases ex <;> first | exact absurd h Bool.false_ne_true | skip
    simp only [Bool.and_eq_true, decide_eq_true_eq] at h
    obtain ⟨⟨⟨⟨h1, h2⟩, h3⟩, h4⟩, h5⟩ := h
    subst h1
    have ok := mEs_ok es e cd h5
    match os, es, h2, h3, ok with
    | o :: o' :: os, b :: c :: es, h2, h3, ok =>
      rename_i l rs p _ _ _
      match rs, ok with
      | b' :: c' :: rs, ok => exact ok_chn cd.hu (mE_ok a e cd h4) ok h2
      | [], ok => exact ok.elim
      | [_], ok => exact ok.2.elim
    | [], _, _, h3, _ => simp at h3
    | [_], _, _, h3, _ => simp at h3
    | _ :: _ :: _, [], h2, _, _ => simp at h2
    | _ :: _ :: _, [_], h2, _, _ => simp at h2
  | .ite c a b, sc, ex, W, X, e, cd, h => by
    unfold mE at h
    cases ex <;> first | exact absurd h Bool.false_ne_true | skip
    simp only [Bool.and_eq_true] at h
    exact ok_ite (mE_ok c e cd h.1.1) (mE_ok a e cd h.1.2) (mE_ok b e cd h.2)
  | .idx a i, sc, ex, W, X, e, cd, h => by
    unfold mE at h
    cases ex <;> first | exact absurd h Bool.false_ne_true | skip
    simp only [Bool.and_eq_true] at h
    exact ok_idx cd.hu (mE_ok a e cd h.1) (mE_ok i e cd h.2)
  | .sl a lo hi, sc, ex, W, X, e, cd, h => by
    unfold mE at h
    cases ex with
    | Subscript x s p =>
      cases s with
      | Slice l u st p2 =>
        cases st with
        | none =>
          simp only [Bool.and_eq_true] at h
          exact ok_sl cd.fx.kk (mE_ok a e cd h.1.1) (mO_ok lo e cd h.1.2) (mO_ok hi e cd h.2)
        | some _ => exact absurd h Bool.false_ne_true
      | _ => exact absurd h Bool.false_ne_true
    | _ => exact absurd h Bool.false_ne_true
  | .stp a w, sc, ex, W, X, e, cd, h => by
    unfold mE at h
    cases ex with
    | Subscript x s p =>
      cases s with
      | Slice l u st p2 =>
        cases l with
        | none =>
          cases u with
          | none =>
            cases st with
            | some st =>
              simp only [Bool.and_eq_true] at h
              exact ok_stp (mE_ok a e cd h.1) (mE_ok w e cd h.2)
            | none => exact absurd h Bool.false_ne_true
          | some _ => exact absurd h Bool.false_ne_true
        | some _ => exact absurd h Bool.false_ne_true
      | _ => exact absurd h Bool.false_ne_true
    | _ => exact absurd h Bool.false_ne_true
  | .lst es, sc, ex, W, X, e, cd, h => by
    unfold mE at h
    cases ex <;> first | exact absurd h Bool.false_ne_true | skip
    simp only [Bool.and_eq_true, Bool.not_eq_true'] at h
    exact ok_lst h.1 (mEs_ok es e cd h.2)
  | .tup es, sc, ex, W, X, e, cd, h => by
    unfold mE at h
    cases ex <;> first | exact absurd h Bool.false_ne_true | skip
    simp only [Bool.and_eq_true, Bool.not_eq_true'] at h
    exact ok_tup h.1 (mEs_ok es e cd h.2)
  | .dct t ks vs, sc, ex, W, X, e, cd, h => by
    unfold mE at h
    cases ex <;> first | exact absurd h Bool.false_ne_true | skip
    rename_i kx vx p
    have main : ∀ {l : List Expr}, vSome kx = some l → (!t && !l.isEmpty && decide (l.length = vx.length) && decide (l.length ≤ 15) && !vs.any bor && mEs tb N sc ks l && mEs tb N sc vs vx) = true → OkE gd e W X Φ (.Dict kx vx p) (.dct t ks vs) := fun {l} hs h => by
      simp only [Bool.and_eq_true, decide_eq_true_eq, Bool.not_eq_true'] at h
      obtain ⟨⟨⟨⟨⟨⟨h0, h1⟩, h2⟩, h3⟩, h4⟩, h5⟩, h6⟩ := h
      subst h0
      rw [vSome_is hs]
      exact ok_dct (mEs_ok ks e cd h5) (mEs_ok vs e cd h6) h4 h2 (by intro z; rw [z] at h1; cases h1) h3
    have gen : (match vSome kx with | some kx => !t && !kx.isEmpty && decide (kx.length = vx.length) && decide (kx.length ≤ 15) && !vs.any bor && mEs tb N sc ks kx && mEs tb N sc vs vx | none => false) = true → OkE gd e W X Φ (.Dict kx vx p) (.dct t ks vs) := fun h => by
      cases hs : vSome kx with
      | none => rw [hs] at h; cases h
      | some l => rw [hs] at h; exact main hs h
    cases kx with
    | nil =>
      cases vx with
      | nil =>
        rw [Bool.and_eq_true] at h
        cases ks with
        | nil =>
          cases vs with
          | nil => exact ok_dct0
          | cons _ _ => cases h.2
        | cons _ _ => cases h.1
      | cons _ _ => exact gen h
    | cons _ _ => exact gen h
  | .att c i a, sc, ex, W, X, e, cd, h => by
    unfold mE at h
    cases ex <;> first | exact absurd h Bool.false_ne_true | skip
    rw [Bool.and_eq_true] at h
    cases hl : tb.cf.lookup c with
    | none => rw [hl] at h; cases h.1
    | some l =>
      rw [hl] at h
      obtain ⟨f1, f2⟩ := cd.fx.fld c l (lookup_mem hl)
      exact ok_att f1 (by rw [f2]; exact of_decide_eq_true h.1) (mE_ok a e cd h.2)
  | .call f k es, sc, ex, W, X, e, cd, h => by
    unfold mE at h
    cases hv : vCall ex with
    | none => rw [hv] at h; cases h
    | some xx =>
      obtain ⟨x, xs⟩ := xx
      rw [hv] at h
      obtain ⟨p, pos, ee⟩ := vCall_is hv
      subst ee
      simp only [Bool.and_eq_true, decide_eq_true_eq] at h
      obtain ⟨⟨⟨h1, h2⟩, h3⟩, h4⟩ := h
      cases hl : tb.fns.lookup f with
      | none => rw [hl] at h3; cases h3
      | some g =>
        rw [hl] at h3
        simp only [Bool.and_eq_true, decide_eq_true_eq, beq_iff_eq] at h3
        obtain ⟨⟨⟨k1, k2⟩, k3⟩, k4⟩ := h3
        obtain ⟨g1, g2, g3, g4⟩ := gl_ok cd h2
        obtain ⟨hi, a, q1, q2, q3⟩ := cd.fx.fn f g (lookup_mem hl)
        subst h1; subst k1
        exact ok_call q3 (cd.fx.room.mono (Nat.le_succ _)) cd.tk g1 q1 q2 hi k3 k4 g2 g3 (mEs_ok es e cd h4)
  | .new c k es, sc, ex, W, X, e, cd, h => by
    unfold mE at h
    cases hv : vCall ex with
    | none => rw [hv] at h; cases h
    | some xx =>
      obtain ⟨x, xs⟩ := xx
      rw [hv] at h
      obtain ⟨p, pos, ee⟩ := vCall_is hv
      subst ee
      simp only [Bool.and_eq_true, decide_eq_true_eq] at h
      obtain ⟨⟨⟨h1, h2⟩, h3⟩, h4⟩ := h
      cases hl : tb.inits.lookup c with
      | none => rw [hl] at h3; cases h3
      | some g =>
        rw [hl] at h3
        simp only [Bool.and_eq_true, decide_eq_true_eq, beq_iff_eq] at h3
        obtain ⟨⟨k1, k3⟩, k4⟩ := h3
        obtain ⟨g1, g2, g3, g4⟩ := gl_ok cd h2
        obtain ⟨hi, C, a, q1, q2, q3, q4⟩ := cd.fx.ini c g (lookup_mem hl)
        subst h1; subst k1
        exact ok_new q4 cd.fx.room cd.tk g1 q1 q2 q3 hi k3 k4 g2 g3 (mEs_ok es e cd h4)
  | .bi b es, sc, ex, W, X, e, cd, h => by
    unfold mE at h
    cases hv : vCall ex with
    | none => rw [hv] at h; cases h
    | some xx =>
      obtain ⟨x, xs⟩ := xx
      rw [hv] at h
      obtain ⟨p, pos, ee⟩ := vCall_is hv
      subst ee
      rw [Bool.or_eq_true] at h
      rcases h with h | h
      · simp only [Bool.and_eq_true, decide_eq_true_eq, Bool.not_eq_true'] at h
        obtain ⟨⟨⟨⟨h0, h1⟩, h2⟩, h3⟩, h4⟩ := h
        exact bi_ok cd h0 h1 h2 h3 (mEs_ok es e cd h4)
      · match xs, h with
        | [x1], h =>
          dsimp only at h
          cases hy : vCall x1 with
          | none => rw [hy] at h; cases h
          | some yy =>
            obtain ⟨y, ys⟩ := yy
            rw [hy] at h
            obtain ⟨p2, q2, ee⟩ := vCall_is hy
            subst ee
            simp only [Bool.and_eq_true, decide_eq_true_eq] at h
            obtain ⟨⟨⟨⟨⟨⟨h0, h1⟩, h2⟩, h3⟩, h4⟩, h5⟩, h6⟩ := h
            subst h0; subst h1; subst h3
            obtain ⟨g1, g2, g3, g4⟩ := gl_ok cd h2
            obtain ⟨k1, k2, k3, k4⟩ := gl_ok cd h4
            have ok := mEs_ok es e cd h6
            match ys, es, h5, ok with
            | [a], [A], _, ok => exact ok_lenSet cd.calm g1 (cd.fx.bi _ (by decide)) k1 (cd.fx.bi _ (by decide)) ok.1
            | [_], [], _, ok => exact ok.elim
            | [_], _ :: _ :: _, _, ok => exact ok.2.elim
            | [], _, h5, _ => simp at h5
            | _ :: _ :: _, _, h5, _ => simp at h5
        | [x1, x2], h =>
          cases b <;> first | exact absurd h Bool.false_ne_true | skip
          rename_i t
          dsimp only at h
          cases hy : vName x2 with
          | none => rw [hy] at h; cases h
          | some y =>
            rw [hy] at h
            obtain ⟨p2, ee⟩ := vName_is hy
            subst ee
            simp only [Bool.and_eq_true, decide_eq_true_eq] at h
            obtain ⟨⟨⟨⟨⟨h1, h2⟩, h3⟩, h4⟩, h5⟩, h6⟩ := h
            subst h1; subst h3
            obtain ⟨g1, g2, g3, g4⟩ := gl_ok cd h2
            obtain ⟨k1, k2, k3, k4⟩ := gl_ok cd h4
            have ok := mEs_ok es e cd h6
            match es, ok with
            | [A], ok => exact ok_isTy g1 (cd.fx.bi _ (by decide)) h5 k1 (cd.fx.bi _ (by
                simp only [tNames, List.mem_cons, List.not_mem_nil, or_false] at h5
                rcases h5 with h | h | h | h | h | h <;> subst h <;> decide)) ok.1
            | [], ok => exact ok.elim
            | _ :: _ :: _, ok => exact ok.2.elim
  | .get a es, sc, ex, W, X, e, cd, h => by
    unfold mE at h
    cases hv : vMeth ex with
    | none => rw [hv] at h; cases h
    | some xx =>
      obtain ⟨o, m, xs⟩ := xx
      rw [hv] at h
      obtain ⟨ap, pos, ee, hl⟩ := vMeth_is hv
      subst ee
      simp only [Bool.and_eq_true, decide_eq_true_eq, Bool.or_eq_true, Bool.not_eq_true'] at h
      obtain ⟨⟨⟨h1, h2⟩, h3⟩, h4⟩ := h
      subst h1
      have ok := mEs_ok es e cd h4
      match xs, es, h3, ok with
      | [x1], [e1], h3, ok => exact ok_get1 cd.hu (mE_ok a e cd h2) ok.1 hl
      | [x1, x2], [e1, e2], h3, ok =>
        have nb : bor e2 = false := by
          rcases h3 with z | z
          · simp at z
          · have z := z.2
            rw [List.any_cons, List.any_cons, List.any_nil, Bool.or_false, Bool.or_eq_false_iff] at z
            exact z.2
        exact ok_get2 cd.hu (mE_ok a e cd h2) ok.1 ok.2.1 nb hl
      | [], _, h3, _ => simp at h3
      | _ :: _ :: _ :: _, _, h3, _ => simp at h3
      | [_], [], _, ok => exact ok.elim
      | [_], _ :: _ :: _, _, ok => exact ok.2.elim
      | [_, _], [], _, ok => exact ok.elim
      | [_, _], [_], _, ok => exact ok.2.elim
      | [_, _], _ :: _ :: _ :: _, _, ok => exact ok.2.2.elim
  | .mth m a es, sc, ex, W, X, e, cd, h => by
    unfold mE at h
    cases hv : vMeth ex with
    | none => rw [hv] at h; cases h
    | some xx =>
      obtain ⟨o, n, xs⟩ := xx
      rw [hv] at h
      obtain ⟨ap, pos, ee, hl⟩ := vMeth_is hv
      subst ee
      rw [Bool.and_eq_true, Bool.and_eq_true, Bool.and_eq_true, decide_eq_true_eq] at h
      obtain ⟨⟨⟨h1, h3⟩, h2⟩, h4⟩ := h
      have ok := mEs_ok es e cd h4
      match xs, es, h3, ok with
      | [x1], [e1], h3, ok =>
        cases m with
        | join => have h1 := of_decide_eq_true h1; subst h1; exact ok_join (mE_ok a e cd h2) ok.1 hl
        | split => have h1 := of_decide_eq_true h1; subst h1; exact ok_split (mE_ok a e cd h2) ok.1 hl
        | _ => exact absurd h1 Bool.false_ne_true
      | [], _, h3, _ => simp at h3
      | _ :: _ :: _, _, h3, _ => simp at h3
      | [_], [], _, ok => exact ok.elim
      | [_], _ :: _ :: _, _, ok => exact ok.2.elim
  | .met c m k a es, sc, ex, W, X, e, cd, h => by
    unfold mE at h
    cases hv : vMeth ex with
    | none => rw [hv] at h; cases h
    | some xx =>
      obtain ⟨o, n, xs⟩ := xx
      rw [hv] at h
      obtain ⟨ap, pos, ee, hl⟩ := vMeth_is hv
      subst ee
      simp only [Bool.and_eq_true, decide_eq_true_eq, List.any_eq_true, beq_iff_eq] at h
      obtain ⟨⟨⟨⟨h1, h2⟩, ⟨c', m', g⟩, hm, hg⟩, h3⟩, h4⟩ := h
      obtain ⟨⟨⟨⟨k1, k2⟩, k3⟩, k4⟩, k5⟩ := hg
      have k1 : c' = c := k1
      have k2 : m' = m := k2
      subst k1; subst k2; subst h1
      obtain ⟨hi, C, ad, q1, q2, q3, q4, q5⟩ := cd.fx.met _ _ _ hm
      have ok := mEs_ok es e cd h4
      have k3 : g.k = k := k3
      subst k3
      exact ok_met q5 (cd.fx.room.mono (Nat.le_succ _)) cd.tk q1 q2 q3 q4 hi k4 k5 (mE_ok a e cd h3) ok hl (met_tree ok.plain h2 hl)
  | .prp c m k a, sc, ex, W, X, e, cd, h => by
    unfold mE at h
    cases ex <;> first | exact absurd h Bool.false_ne_true | skip
    simp only [Bool.and_eq_true, decide_eq_true_eq, List.any_eq_true, beq_iff_eq] at h
    obtain ⟨⟨h1, ⟨c', m', g⟩, hm, hg⟩, h3⟩ := h
    obtain ⟨⟨⟨⟨k1, k2⟩, k3⟩, k4⟩, k5⟩ := hg
    have k1 : c' = c := k1
    have k2 : m' = m := k2
    have k3 : g.k = k := k3
    subst k1; subst k2; subst h1; subst k3
    obtain ⟨hi, C, ad, pr, q1, q2, q3, q4⟩ := cd.fx.prp _ _ _ hm
    exact ok_prp q4 cd.fx.room q1 q2 q3 hi k4 k5 (mE_ok a e cd h3)
  | .lc x own tg ik it cs, sc, ex, W, X, e, cd, h => by
    unfold mE at h
    cases ex with
    | ListComp elt gens scope pos =>
      match gens, h with
      | [⟨tgE, iter, ifs, n⟩], h =>
        simp only [Bool.and_eq_true, decide_eq_true_eq, Bool.not_eq_true', List.all_eq_true] at h
        obtain ⟨⟨⟨⟨⟨⟨⟨⟨h0, h1⟩, h2⟩, h3⟩, h4⟩, h5⟩, h6⟩, h7⟩, h8⟩ := h
        subst h0
        have := ok_lc (e := e) (W := W) (pos := pos) (Φ := Φ) (mg := gd) (x := x) (it := it) (cs := cs) cd.calm (by rw [cd.n]; exact cd.nd) (blkOk_by (by rw [cd.n, cd.sc]; exact h1)) (fun e => mIt_ok it e cd h6) (by rw [cd.n]; exact h2) (cd.as scope) (by rw [own_map]; exact h3)
          (fun e s H C cl fp => mEs_ok cs e (cd.blk scope s H C cl fp) h7) h4 (fun e s H C cl fp => mE_ok x e (cd.blk scope s H C cl fp) h8) h5
        rw [own_map] at this
        exact this
    | _ => exact absurd h Bool.false_ne_true
  | .dc b kx vx own tg ik it cs, sc, ex, W, X, e, cd, h => by
    unfold mE at h
    cases ex with
    | DictComp ke ve gens scope pos =>
      match gens, h with
      | [⟨tgE, iter, ifs, n⟩], h =>
        simp only [Bool.and_eq_true, decide_eq_true_eq, Bool.not_eq_true', List.all_eq_true] at h
        obtain ⟨⟨⟨⟨⟨⟨⟨⟨⟨⟨h0, hb⟩, h1⟩, h2⟩, h3⟩, h4⟩, h5⟩, h6⟩, h7⟩, h8⟩, h9⟩ := h
        subst h0; subst hb
        have := ok_dc (e := e) (W := W) (pos := pos) (Φ := Φ) (mg := gd) (kx := kx) (vx := vx) (it := it) (cs := cs) cd.calm (by rw [cd.n]; exact cd.nd) (blkOk_by (by rw [cd.n, cd.sc]; exact h1)) (fun e => mIt_ok it e cd h6) (by rw [cd.n]; exact h2) (cd.as scope) (by rw [own_map]; exact h3)
          (fun e s H C cl fp => mEs_ok cs e (cd.blk scope s H C cl fp) h7) h4 (fun e s H C cl fp => mE_ok kx e (cd.blk scope s H C cl fp) h8) (fun e s H C cl fp => mE_ok vx e (cd.blk scope s H C cl fp) h9) h5
        rw [own_map] at this
        exact this
    | _ => exact absurd h Bool.false_ne_true
  | .fst es, sc, ex, W, X, e, cd, h => by
    unfold mE at h
    cases ex <;> first | exact absurd h Bool.false_ne_true | skip
    rename_i xs p
    simp only [Bool.and_eq_true, decide_eq_true_eq] at h
    have ok := mEs_ok es e cd h.2
    match xs, h.1, ok with
    | a :: b :: r, _, ok => exact ok_fst ok
    | [], z, _ => simp at z
    | [_], z, _ => simp at z
  | .fv a, sc, ex, W, X, e, cd, h => by
    unfold mE at h
    cases ex with
    | FormattedValue x n sp p =>
      cases sp with
      | none =>
        simp only [Bool.and_eq_true, decide_eq_true_eq] at h
        obtain ⟨h1, h2⟩ := h
        subst h1
        exact ok_fv (mE_ok a e cd h2)
      | some _ => exact absurd h Bool.false_ne_true
    | _ => exact absurd h Bool.false_ne_true
theorem mEs_ok : ∀ (Es : List Mp.E) {sc : Scope} {xs : List Expr} {W : WX} {X : Cx} (e : Ent), CD gd tb Φ lv N sc W X → mEs tb N sc Es xs = true → OkEs gd e W X Φ xs Es
  | [], sc, xs, W, X, e, cd, h => by
    unfold mEs at h
    cases xs with
    | nil => exact True.intro
    | cons _ _ => cases h
  | E :: Es, sc, xs, W, X, e, cd, h => by
    unfold mEs at h
    cases xs with
    | nil => cases h
    | cons x xs =>
      rw [Bool.and_eq_true] at h
      exact ⟨mE_ok E e cd h.1, mEs_ok Es e cd h.2⟩
theorem mO_ok : ∀ (Es : List Mp.E) {sc : Scope} {x : Option Expr} {W : WX} {X : Cx} (e : Ent), CD gd tb Φ lv N sc W X → mO tb N sc Es x = true → OkO gd e W X Φ x Es
  | [], sc, x, W, X, e, cd, h => by
    unfold mO at h
    cases x with
    | none => exact True.intro
    | some _ => cases h
  | E :: Es, sc, x, W, X, e, cd, h => by
    unfold mO at h
    cases x with
    | none => cases h
    | some x =>
      rw [Bool.and_eq_true] at h
      cases Es with
      | nil => exact mE_ok E e cd h.1
      | cons _ _ => cases h.2
theorem mIt_ok : ∀ (it : List Mp.E) {sc : Scope} {ik : Ik} {tg iter : Expr} {W : WX} {X : Cx} (e : Ent), CD gd tb Φ lv N sc W X → mIt tb N sc ik it tg iter = true → ItOk gd e W X Φ tg ik it iter
  | [], sc, ik, tg, iter, W, X, e, cd, h => by unfold mIt at h; cases h
  | E :: es, sc, ik, tg, iter, W, X, e, cd, h => by
    unfold mIt at h
    cases ik with
    | any =>
      simp only [Bool.and_eq_true] at h
      cases es with
      | cons _ _ => cases h.1
      | nil =>
        exact .any (mE_ok E e cd h.2)
    | vals =>
      rw [Bool.and_eq_true] at h
      cases hm : vMeth iter with
      | none => rw [hm] at h; cases h.2
      | some xx =>
        obtain ⟨o, m, xs⟩ := xx
        rw [hm] at h
        obtain ⟨ap, pos, ee, hl⟩ := vMeth_is hm
        subst ee
        simp only [Bool.and_eq_true, decide_eq_true_eq] at h
        obtain ⟨h0, ⟨h1, h2⟩, h4⟩ := h
        subst h1
        cases es with
        | cons _ _ => cases h0
        | nil =>
          cases xs with
          | cons _ _ => cases h2
          | nil => exact .vals (mE_ok E e cd h4) hl
    | items =>
      rw [Bool.and_eq_true] at h
      cases hm : vMeth iter with
      | none => rw [hm] at h; cases h.2
      | some xx =>
        obtain ⟨o, m, xs⟩ := xx
        rw [hm] at h
        obtain ⟨ap, pos, ee, hl⟩ := vMeth_is hm
        subst ee
        simp only [Bool.and_eq_true, decide_eq_true_eq] at h
        obtain ⟨h0, ⟨⟨h1, h2⟩, h4⟩, h5⟩ := h
        subst h1
        cases es with
        | cons _ _ => cases h0
        | nil =>
          cases xs with
          | cons _ _ => cases h2
          | nil =>
            cases tg <;> first | exact absurd h5 Bool.false_ne_true | skip
            exact .items (mE_ok E e cd h4) hl
    | rng =>
      cases hm : vCall iter with
      | none => rw [hm] at h; cases h
      | some xx =>
        obtain ⟨x, xs⟩ := xx
        rw [hm] at h
        obtain ⟨p, pos, ee⟩ := vCall_is hm
        subst ee
        rw [Bool.and_eq_true, Bool.and_eq_true, decide_eq_true_eq] at h
        obtain ⟨⟨h1, h2⟩, h3⟩ := h
        subst h1
        obtain ⟨g1, g2, g3, g4⟩ := gl_ok cd h2
        cases xs with
        | nil => cases h3
        | cons x1 xs =>
          simp only [Bool.and_eq_true, decide_eq_true_eq] at h3
          obtain ⟨⟨k1, k2⟩, k3⟩ := h3
          have ok1 := mE_ok E e cd k1
          have ok := mEs_ok es e cd k2
          match xs, es, ok, k3 with
          | [], [], _, _ => exact .rng1 ok1 g1 (cd.fx.bi _ (by decide))
          | [b], [B], ok, _ => exact .rng2 ok1 ok.1 g1 (cd.fx.bi _ (by decide))
          | _ :: _ :: _, _, _, z => simp at z
          | [], _ :: _, ok, _ => exact ok.elim
          | [_], [], ok, _ => exact ok.elim
          | [_], _ :: _ :: _, ok, _ => exact ok.2.elim
    | enum =>
      cases hm : vCall iter with
      | none => rw [hm] at h; cases h
      | some xx =>
        obtain ⟨x, xs⟩ := xx
        rw [hm] at h
        obtain ⟨p, pos, ee⟩ := vCall_is hm
        subst ee
        rw [Bool.and_eq_true, Bool.and_eq_true, Bool.and_eq_true, Bool.and_eq_true, decide_eq_true_eq] at h
        obtain ⟨⟨⟨⟨h1, h2⟩, h3⟩, h4⟩, h5⟩ := h
        subst h1
        obtain ⟨g1, g2, g3, g4⟩ := gl_ok cd h2
        cases es with
        | cons _ _ => cases h3
        | nil =>
          cases tg <;> first | exact absurd h4 Bool.false_ne_true | skip
          cases xs with
          | nil => cases h5
          | cons x1 xs =>
            rw [Bool.and_eq_true] at h5
            cases xs with
            | cons _ _ => cases h5.2
            | nil => exact .enum (mE_ok E e cd h5.1) g1 (cd.fx.bi _ (by decide))
    | zip => cases h
end
end
end Mp
/-! statements and what they mean -/
namespace Mp
open PySem PySem.Spec PyProof.Rows L2

/-- an expression of an except suite: c is the exception's class, x its attribute -/
inductive HE where
  | con (d : D) | loc (i : Nat) | att (cs : List String) | isx (c : String) (ys ns : List String) | tup (es : List HE)
  deriving Inhabited
/-- a statement of an except suite -/
inductive HS where
  | ret (e : HE) | inc (i : Nat) (k : Int) | pass
  deriving Inhabited
/-- a clause: its class; the classes that it takes, and those that it does not; its name; its suite -/
structure Hd where
  c : String
  ys : List String
  ns : List String
  n : Option Nat
  ss : List HS
  deriving Inhabited
inductive S where
  | exp (e : E)
  | set (t : Tg) (e : E)
  | own (i : Nat) (e : E)
  | ret (e : E) | retn | retv (i : Nat)
  | ite (c : E) (a b : List S)
  | whl (c : E) (b : List S)
  | for (tg : Tg) (ik : Ik) (it : List E) (b : List S)
  | brk | cnt | pass
  | app (i : Nat) (e : E)
  | ext (i : Nat) (e : E)
  | sub (i : Nat) (k e : E)
  | aug (i : Nat) (o : Operator) (e : E)
  | augs (i : Nat) (k : E) (o : Operator) (e : E)
  | pop (t : Tg) (i : Nat)
  | del (i : Nat) (k : E)
  | par (i j : Nat) (a b : E)
  | sat (c : String) (n : Nat) (i : Nat) (e : E)
  | frz (i : Nat)
  | nev
  | raise (c : String) (es : List E)
  | try (b : List S) (h : List Hd)
  deriving Inhabited

/-- what a statement comes to -/
inductive RS where
  | nx (env : Sls) | bk (env : Sls) | ct (env : Sls) | rt (d : D) | exc (c : String) (x : Option D) (env : Sls) | bad
def liftR {α : Type} (r : R α) (env : Sls) (f : α → RS) : RS := match r with
  | .ok a => f a
  | .exc c x => .exc c x env
  | .bad => .bad
def optS (o : Option Sls) : RS := match o with
  | some env => .nx env
  | none => .bad
def seqS (r : RS) (f : Sls → RS) : RS := match r with
  | .nx env => f env
  | r => r
def forGo (bind : D → Sls → Option Sls) (body : Sls → RS) : List D → Sls → RS
  | [], env => .nx env
  | d :: ds, env => match bind d env with
    | none => .bad
    | some env => match body env with
      | .nx env => forGo bind body ds env
      | .ct env => forGo bind body ds env
      | .bk env => .nx env
      | r => r
def whlGo (c : Sls → R Bool) (body : Sls → RS) : Nat → Sls → RS
  | 0, _ => .bad
  | n + 1, env => liftR (c env) env fun b => if b then match body env with
      | .nx env => whlGo c body n env
      | .ct env => whlGo c body n env
      | .bk env => .nx env
      | r => r
    else .nx env
/-- no exception of it is carried -/
def noXS : RS → RS
  | .exc _ _ _ => .bad
  | r => r
/-- the turns of a while -/
def wF : Nat := 2 ^ 24
/-- the slot i is one's own list, dict or object -/
def ownAt (env : Sls) (i : Nat) (f : D → RS) : RS := match env[i]? with
  | some (.own 0 d) => f d
  | _ => .bad
def delI (xs : List D) (i : Int) : Option (List D) := (ixN xs.length i).map fun j => xs.eraseIdx j
def subD (d k x : D) : Option D := match d with
  | .lst xs => match k with
    | .int i => (ixN xs.length i).map fun j => .lst (xs.set j x)
    | _ => none
  | .dK ks vs => if ks.length < sizeLine then (keyD k).map fun q => .dK (putD q x ks vs).1 (putD q x ks vs).2 else none
  | .dT ks vs => if ks.length < sizeLine then (tkeyD k).map fun q => .dT (putD q x ks vs).1 (putD q x ks vs).2 else none
  | _ => none
def augD (o : Operator) : D → D → Option D
  | .int i, .int j => match o with
    | .Add => some (.int (i + j))
    | .Sub => some (.int (i - j))
    | .Mult => if i.natAbs < 2 ^ 64 ∨ j.natAbs < 2 ^ 64 then some (.int (i * j)) else none
    | _ => none
  | .str x, .str y => match o with
    | .Add => if x.length + y.length ≤ sizeLine then some (.str (x ++ y)) else none
    | _ => none
  | _, _ => none
def isMut : D → Bool
  | .lst _ => true
  | .dK _ _ => true
  | .dT _ _ => true
  | _ => false
def satD (c : String) (n : Nat) (x : D) : D → Option D
  | .obj c' vs => if c' = c then (if n < vs.length then some (.obj c (vs.set n x)) else if n = vs.length then some (.obj c (vs ++ [x])) else none) else none
  | _ => none
mutual
def hev (c : String) (x : Option D) (env : Sls) : HE → Option D
  | .con d => if isScal d then some d else none
  | .loc i => match env[i]? with
    | some (.val d) => some d
    | _ => none
  | .att cs => if c ∈ cs then x else none
  | .isx _ ys ns => if c ∈ ys then some (.bl true) else if c ∈ ns then some (.bl false) else none
  | .tup es => (hevs c x env es).map D.tup
def hevs (c : String) (x : Option D) (env : Sls) : List HE → Option (List D)
  | [] => some []
  | e :: es => (hev c x env e).bind fun d => (hevs c x env es).map (d :: ·)
end
def hsL (kk : Nat) (c : String) (x : Option D) : List HS → Sls → RS
  | [], env => .nx env
  | .ret e :: _, env => match hev c x env e with
    | some d => if kk == 0 || isAtom d then .rt d else .bad
    | none => .bad
  | .inc i k :: ss, env => match env[i]? with
    | some (.val (.int z)) => hsL kk c x ss (env.set i (.val (.int (z + k))))
    | _ => .bad
  | .pass :: ss, env => hsL kk c x ss env
/-- the clauses, one after the other -/
def exH (kk : Nat) (c : String) (x : Option D) (env : Sls) : List Hd → RS
  | [] => .exc c x env
  | h :: hs => if c ∈ h.ys then (match h.n with
      | none => hsL kk c x h.ss env
      | some i => match env[i]? with
        | some .no => hsL kk c x h.ss env
        | _ => .bad) else if c ∈ h.ns then exH kk c x env hs else .bad

section
variable (Φ : String → List D → R D) (kk : Nat)
mutual
def exS : S → Sls → RS
  | .exp e, env => liftR (ev Φ e false env) env fun _ => .nx env
  | .set t e, env => liftR (ev Φ e false env) env fun d => if bor e then .bad else optS (bindT t d env)
  | .own i e, env => liftR (ev Φ e false env) env fun d => match kd e with
    | 0 => .bad
    | k + 1 => if bor e || !decide (0 < i ∧ i < env.length) then .bad else .nx (env.set i (.own k d))
  | .ret e, env => liftR (ev Φ e false env) env fun d => if !bor e && (kd e == kk || kk == 0 || isAtom d) then .rt d else .bad
  | .retn, env => .rt .non
  | .retv i, env => match env[i]? with
    | some (.own k d) => if k + 1 = kk then .rt d else .bad
    | _ => .bad
  | .ite c a b, env => liftR (ev Φ c true env >>= toB) env fun z => if z then exL a env else exL b env
  | .whl c b, env => whlGo (fun env => ev Φ c true env >>= toB) (fun env => exL b env) wF env
  | .for tg ik it b, env => liftR (seqR (evs Φ it false env) >>= fun ds => ofO (iterD ik ds) >>= fun xs => okIf (!(it.any bor)) (.ok (ds.any isDct, xs))) env fun p =>
      if p.1 then noXS (forGo (fun d env => bindT tg d env) (fun env => exL b env) p.2 env) else forGo (fun d env => bindT tg d env) (fun env => exL b env) p.2 env
  | .brk, env => .bk env
  | .cnt, env => .ct env
  | .pass, env => .nx env
  | .app i e, env => ownAt env i fun x => match x with
    | .lst xs => liftR (ev Φ e false env) env fun d => if !bor e && decide (xs.length < sizeLine) then .nx (env.set i (.own 0 (.lst (xs ++ [d])))) else .bad
    | _ => .bad
  | .ext i e, env => ownAt env i fun x => match x with
    | .lst xs => liftR (ev Φ e false env) env fun d => match d with
      | .lst ys => if !bor e && decide (xs.length + ys.length ≤ sizeLine) then .nx (env.set i (.own 0 (.lst (xs ++ ys)))) else .bad
      | _ => .bad
    | _ => .bad
  | .sub i k e, env => liftR (ev Φ e false env) env fun d => ownAt env i fun x => liftR (ev Φ k false env) env fun q => if bor e then .bad else match subD x q d with
    | some y => .nx (env.set i (.own 0 y))
    | none => .bad
  | .aug i o e, env => match env[i]? with
    | some (.val x) => liftR (ev Φ e false env) env fun d => match augD o x d with
      | some y => .nx (env.set i (.val y))
      | none => .bad
    | _ => .bad
  | .augs i k o e, env => ownAt env i fun x => if isMut x then liftR (ev Φ k false env) env fun q => match idxD x q with
      | some y => if isScal y then liftR (ev Φ e false env) env fun d => match (augD o y d).bind fun z => subD x q z with
        | some x' => .nx (env.set i (.own 0 x'))
        | none => .bad
        else .bad
      | none => .bad
    else .bad
  | .pop t i, env => ownAt env i fun x => match x with
    | .lst xs => match xs.getLast? with
      | some y => optS (bindT t y (env.set i (.own 0 (.lst xs.dropLast))))
      | none => .bad
    | _ => .bad
  | .del i k, env => ownAt env i fun x => liftR (ev Φ k false env) env fun q => match x with
    | .lst xs => match q with
      | .int j => if j.natAbs < 2 ^ 63 then match delI xs j with
        | some ys => .nx (env.set i (.own 0 (.lst ys)))
        | none => .bad
        else .bad
      | _ => .bad
    | .dK ks vs => match keyD q with
      | some k => if hasK k ks then .nx (env.set i (.own 0 (.dK (dropD k ks vs).1 (dropD k ks vs).2))) else .bad
      | none => .bad
    | _ => .bad
  | .par i j a b, env => liftR (ev Φ a false env) env fun x => liftR (ev Φ b false env) env fun y => if bor a || bor b || !decide (i < env.length) || !decide (j < env.length) || decide (i = j) then .bad else .nx ((env.set i (.val x)).set j (.val y))
  | .sat c n i e, env => liftR (ev Φ e false env) env fun d => if bor e then .bad else ownAt env i fun x => match satD c n d x with
    | some y => .nx (env.set i (.own 0 y))
    | none => .bad
  | .nev, _ => .bad
  | .frz i, env => match env[i]? with
    | some (.own k d) => .nx (env.set i (.val d))
    | some (.val d) => .nx env
    | _ => .bad
  | .raise c es, env => liftR (seqR (evs Φ es false env)) env fun ds => match ds with
    | [] => .exc c none env
    | [d] => if es.any bor then .bad else .exc c (some d) env
    | _ => .bad
  | .try b h, env => match exL b env with
    | .exc c x env => exH kk c x env h
    | r => r
def exL : List S → Sls → RS
  | [], env => .nx env
  | s :: ss, env => seqS (exS s env) fun env => exL ss env
end
end
/-- a def: its names, its promise, its text -/
structure Def where
  sig : Sig
  nv : Nat
  body : List S
/-- the arguments in their slots -/
def argE : List Bool → List D → Sls
  | _, [] => []
  | bs, d :: ds => (if bs.headD false then .bor d else .val d) :: argE bs.tail ds
def ini (g : Sig) (nv : Nat) (ds : List D) : Sls := match g.ini with
  | none => argE g.bs ds ++ List.replicate (nv - ds.length) .no
  | some c => .own 0 (.obj c []) :: (argE g.bs ds ++ List.replicate (nv - (ds.length + 1)) .no)
/-- what a def's end means -/
def outS (g : Sig) (r : RS) : R D := match g.ini with
  | none => match r with
    | .rt d => .ok d
    | .nx _ => .ok .non
    | .exc c x _ => .exc c x
    | _ => .bad
  | some _ => match r with
    | .nx env => match (env[0]? : Option Sl) with
      | some (.own k d) => if k + 1 = g.k then .ok d else .bad
      | _ => .bad
    | .exc c x _ => .exc c x
    | _ => .bad
/-- the program, calls n deep -/
def run (P : String → Option Def) : Nat → String → List D → R D
  | 0, _, _ => .bad
  | n + 1, f, ds => match P f with
    | none => .bad
    | some d => outS d.sig (exL (run P n) d.sig.k d.body (ini d.sig d.nv ds))
end Mp
/-! statements: the rules -/
namespace Mp
open PySem PySem.Spec PyProof.Rows L2 PySem.SeqAt

/-- what is wanted of a statement's end -/
def WS (mg : Gd) (e : Ent) (W : WX) (kk : Nat) (D : Ends) : RS → Prop
  | .nx env => ∀ σ F H T, Frm mg e env F σ H T → D.nx σ H
  | .bk env => ∀ σ F H T, Frm mg e env F σ H T → D.bk σ H
  | .ct env => ∀ σ F H T, Frm mg e env F σ H T → D.ct σ H
  | .rt d => KE mg kk D.rt e.F e.H d
  | .exc c x env => ∀ σ F H T C dd, Frm mg e env F σ H T → ExR mg F H c x C dd → W (.ref C) dd σ H
  | .bad => False
def rdS (mg : Gd) (e : Ent) (W : WX) (kk : Nat) (m : Sls → RS) : TS := fun D σ H => ∃ env F T, Frm mg e env F σ H T ∧ WS mg e W kk D (m env)
theorem PS.of {X : Cx} {st : Stmt} {t t' : TS} (h : PS X st t) (i : ∀ D σ H, t' D σ H → t D σ H) : PS X st t' := ⟨fun pins s σ H D I q => h.run pins s σ H D I (i D σ H q)⟩
theorem PSs.of {X : Cx} {st : List Stmt} {t t' : TS} (h : PSs X st t) (i : ∀ D σ H, t' D σ H → t D σ H) : PSs X st t' := ⟨fun pins s σ H D I q => h.run pins s σ H D I (i D σ H q)⟩

section
variable {mg : Gd} {e : Ent} {env env' : Sls} {F F' F1 H H' H1 : Hp} {σ : L2.St} {T : Nat → List Addr} {W : WX} {α β : Type} {X : Cx} {Φ : String → List D → R D} {kk : Nat} {De : Ends}
theorem lift_rw {r : R α} {g : α → RS} (f : Frm mg e env F σ H T) (h : WS mg e W kk De (liftR r env g)) : RW r (fun a => WS mg e W kk De (g a)) (EX mg W σ F H) := by
  cases r with
  | ok a => exact h
  | exc c x => exact fun C dd F' H' g' xr => h σ F' H' T C dd (f.grow g') xr
  | bad => exact h
theorem Frm.entry (f : Frm mg e env F σ H T) : Grow e.F e.H F H := ⟨f.same, f.ext, f.new, f.le⟩
theorem WS.opt {o : Option Sls} (h : WS mg e W kk De (optS o)) : ∃ env, o = some env ∧ ∀ σ F H T, Frm mg e env F σ H T → De.nx σ H := by
  cases o with
  | none => exact h.elim
  | some env => exact ⟨env, rfl, h⟩
/-- a statement and its text -/
def OkS (mg : Gd) (e : Ent) (W : WX) (X : Cx) (Φ : String → List D → R D) (kk : Nat) (st : Stmt) (s : S) : Prop := PS X st (rdS mg e W kk (exS Φ kk s))
def OkL (mg : Gd) (e : Ent) (W : WX) (X : Cx) (Φ : String → List D → R D) (kk : Nat) (st : List Stmt) (s : List S) : Prop := PSs X st (rdS mg e W kk (exL Φ kk s))
/-- no comprehension -/
def noComp : Expr → Bool
  | .ListComp _ _ _ _ => false
  | .DictComp _ _ _ _ _ => false
  | .SetComp _ _ _ _ => false
  | _ => true
theorem noComp_sw {ex : Expr} {t : Option Expr} {l : Nat} {env : Env} (h : noComp ex = true) : swapsWith ex t l env = pure false := by
  cases ex <;> first | rfl | exact absurd h Bool.false_ne_true

theorem sExp {ex : Expr} {E : Mp.E} {pos : Pos} (ok : OkE mg e W X Φ ex E) (nc : noComp ex = true) : OkS mg e W X Φ kk (.Expr ex pos) (.exp E) :=
  PS.of (ps_expr ok.brw (noComp_sw nc)) fun D σ H ⟨env, F, T, f, h⟩ => ⟨env, F, T, f, (lift_rw f h).imp (fun d z v F1 H1 g1 r => z σ F1 H1 T (f.grow g1)) fun _ _ z => z⟩
theorem sPass {pos : Pos} : OkS mg e W X Φ kk (.Pass pos) .pass := PS.of ps_pass fun D σ H ⟨env, F, T, f, h⟩ => h σ F H T f
theorem sDoc {x : Str} {j : Nat} {p pos : Pos} : OkS mg e W X Φ kk (.Expr (.Constant (.str x) j p) pos) .pass := PS.of ps_doc fun D σ H ⟨env, F, T, f, h⟩ => h σ F H T f
theorem sBrk {pos : Pos} : OkS mg e W X Φ kk (.Break pos) .brk := PS.of ps_break fun D σ H ⟨env, F, T, f, h⟩ => h σ F H T f
theorem sCnt {pos : Pos} : OkS mg e W X Φ kk (.Continue pos) .cnt := PS.of ps_continue fun D σ H ⟨env, F, T, f, h⟩ => h σ F H T f
theorem sRetn {pos : Pos} : OkS mg e W X Φ kk (.Return none pos) .retn := PS.of ps_retN fun D σ H ⟨env, F, T, f, h⟩ =>
  (show KE mg kk D.rt e.F e.H .non from h) .non F H [] f.entry (rep_atom rfl (by unfold Rep; rfl)) fun _ z => by cases z
theorem sRet {ex : Expr} {E : Mp.E} {pos : Pos} (ok : OkE mg e W X Φ ex E) : OkS mg e W X Φ kk (.Return (some ex) pos) (.ret E) := by
  cases hb : bor E with
  | true =>
    refine PS.of (ps_ret ok.brw) fun D σ H ⟨env, F, T, f, h⟩ => ⟨env, F, T, f, (lift_rw f h).imp (fun d z v F1 H1 g1 r => ?_) fun _ _ z => z⟩
    rw [hb] at z
    exact z.elim
  | false =>
    have pk := ok.own hb
    refine ⟨fun pins s σ H D I ⟨env, F, T, f, h⟩ => ?_⟩
    have h := lift_rw f h
    by_cases hk : kd E = kk
    · refine (ps_ret pk).run pins s σ H D I ⟨env, F, T, f, h.imp (fun d z v F1 H1 S g1 r fr => ?_) fun _ _ z => z⟩
      rw [hb, hk] at z
      have z : WS mg e W kk D (if (true && (kk == kk || kk == 0 || isAtom d)) = true then RS.rt d else RS.bad) := z
      rw [Bool.true_and, beq_self_eq_true, Bool.true_or, Bool.true_or, if_pos rfl] at z
      have z : KE mg kk D.rt e.F e.H d := z
      rw [hk] at r
      exact z v F1 H1 S (f.grow g1).entry r fun a m => Same.none f.same (fr a m)
    · refine (ps_ret (PE.of pk rdE_zero)).run pins s σ H D I ⟨env, F, T, f, h.imp (fun d z v F1 H1 S g1 r fr => ?_) fun _ _ z => z⟩
      rw [hb] at z
      have z : WS mg e W kk D (if (true && (kd E == kk || kk == 0 || isAtom d)) = true then RS.rt d else RS.bad) := z
      rw [Bool.true_and, beq_eq_false_iff_ne.mpr hk, Bool.false_or] at z
      by_cases w : (kk == 0 || isAtom d) = true
      · rw [if_pos w] at z
        have z : KE mg kk D.rt e.F e.H d := z
        rw [Bool.or_eq_true, beq_iff_eq] at w
        refine z v F1 H1 [] (f.grow g1).entry ?_ fun _ z => by cases z
        rcases w with w | w
        · rw [w]; exact ⟨rfl, r.2⟩
        · exact rep_atom w r.2
      · rw [if_neg w] at z; exact z.elim
theorem own_get (f : Frm mg e env F σ H T) {i k : Nat} {d : Mp.D} (h : env[i]? = some (.own k d)) : ∃ v, σ[i]? = some (some v) ∧ RepN mg (k + 1) F H v d (T i) := f.own i k d h
theorem sRetv {x : Str} {i : Nat} {p pos : Pos} (hN : X.N[i]? = some x) (hv : Vis X.env.scope x) (hd : (x == ("__debug__" : Str)) = false) (hcd : (x == ("__classdict__" : Str)) = false) : OkS mg e W X Φ kk (.Return (some (.Name x p)) pos) (.retv i) := by
  refine PS.of (ps_ret (pe_var hN hv hd hcd)) fun D σ H ⟨env, F, T, f, h⟩ => ?_
  have h : WS mg e W kk D (match env[i]? with | some (.own k d) => if k + 1 = kk then .rt d else .bad | _ => .bad) := h
  cases q : env[i]? with
  | none => rw [q] at h; exact h.elim
  | some sl =>
    rw [q] at h
    cases sl with
    | own k d =>
      have h : WS mg e W kk D (if k + 1 = kk then .rt d else .bad) := h
      by_cases z : k + 1 = kk
      · rw [if_pos z] at h
        obtain ⟨v, h1, r⟩ := f.own i k d q
        rw [z] at r
        exact ⟨v, h1, (show KE mg kk D.rt e.F e.H d from h) v F H (T i) f.entry r (f.frs i k d q)⟩
      · rw [if_neg z] at h; exact h.elim
    | _ => exact h.elim
theorem sIte {c : Expr} {C : Mp.E} {a b : List Stmt} {A B : List S} {pos : Pos} (hc : OkE mg e W X Φ c C) (ha : OkL mg e W X Φ kk a A) (hb : OkL mg e W X Φ kk b B) : OkS mg e W X Φ kk (.If c a b pos) (.ite C A B) := by
  refine PS.of (ps_if hc.tes ha hb) fun D σ H ⟨env, F, T, f, h⟩ => ⟨env, F, T, f, (lift_rw f h).imp (fun z h F1 H1 g1 => ?_) fun _ _ z => z⟩
  cases z with
  | true => rw [if_pos rfl] at h ⊢; exact ⟨env, F1, T, f.grow g1, h⟩
  | false => rw [if_neg (by decide)] at h ⊢; exact ⟨env, F1, T, f.grow g1, h⟩
/-- targets that are names, values that are no pair of displays -/
def okAsg : Expr → Expr → Bool
  | .Name _ _, ex => noComp ex
  | .Tuple _ _ _, .Tuple _ _ _ => false
  | .Tuple _ _ _, .SetComp _ _ _ _ => false
  | .Tuple _ _ _, _ => true
  | _, _ => false
theorem okAsg_is {tg ex : Expr} {l : Nat} {env : Env} (h : okAsg tg ex = true) : swapsWithSole [tg] ex l env = pure false ∧ swappedStores [tg] ex env = pure none ∧ (assignEach [tg] env).map (·.2) = [assign tg env] := by
  cases tg with
  | Name x p => exact ⟨noComp_sw (t := some (.Name x p)) (l := l) (env := env) h, rfl, rfl⟩
  | Tuple es n p => cases ex <;> first | exact absurd h Bool.false_ne_true | exact ⟨rfl, rfl, rfl⟩
  | _ => exact absurd h Bool.false_ne_true
theorem sSet {tgE ex : Expr} {tg : Tg} {E : Mp.E} {so : Scope} {pos : Pos} (ao : AsOk X so) (ht : mT X.N so tg tgE = true) (ok : OkE mg e W X Φ ex E) (oa : okAsg tgE ex = true) : OkS mg e W X Φ kk (.Assign [tgE] ex pos) (.set tg E) := by
  obtain ⟨h1, h2, h3⟩ := okAsg_is (l := pos.line) (env := X.env) oa
  cases hb : bor E with
  | true =>
    refine PS.of (ps_asg ok.brw (ok_tg (mg := mg) (e := e) ao ht) h1 h2 h3) fun D σ H ⟨env, F, T, f, h⟩ => ⟨env, F, T, f, (lift_rw f h).imp (fun d z v F1 H1 g1 r => ?_) fun _ _ z => z⟩
    rw [hb] at z; exact z.elim
  | false =>
    refine PS.of (ps_asg (PE.of (ok.own hb) rdE_zero) (ok_tg (mg := mg) (e := e) ao ht) h1 h2 h3) fun D σ H ⟨env, F, T, f, h⟩ => ⟨env, F, T, f, (lift_rw f h).imp (fun d z v F1 H1 S g1 r fr => ?_) fun _ _ z => z⟩
    rw [hb, if_neg (by decide)] at z
    obtain ⟨env', e1, z⟩ := WS.opt z
    exact ⟨env, F1, T, d, env', f.grow g1, r.2, e1, fun σ' _ f' => z σ' F1 H1 T f'⟩
/-- a slot takes a new thing -/
theorem Frm.take (f : Frm mg e env F σ H T) {i k : Nat} {v : V} {d : Mp.D} {S : List Addr} (hi0 : 0 < i ∧ i < env.length) (r : RepN mg (k + 1) F H v d S) (h0 : ∀ a ∈ S, e.H a = none) (hT : ∀ j l d', j ≠ i → env[j]? = some (.own l d') → ∀ a ∈ S, a ∉ T j) :
    Frm mg e (env.set i (.own k d)) F (σ.set i (some v)) H (fun j => if j = i then S else T j) where
  same := f.same
  le := f.le
  ext := f.ext
  new := f.new
  leB := f.leB
  len := by rw [List.length_set, List.length_set]; exact f.len
  val := fun j d' h => by
    by_cases q : i = j
    · subst q; have := get_set_eq h; cases this
    · rw [get_set_ne q] at h ⊢; exact f.val j d' h
  bor := fun j d' h => by
    by_cases q : i = j
    · subst q; have := get_set_eq h; cases this
    · rw [get_set_ne q] at h ⊢; exact f.bor j d' h
  own := fun j l d' h => by
    by_cases q : i = j
    · subst q
      have := get_set_eq h; cases this
      rw [if_pos rfl]
      exact ⟨v, by rw [List.getElem?_set_self (by rw [f.len]; exact hi0.2)], r⟩
    · rw [get_set_ne q] at h ⊢
      rw [if_neg (Ne.symm q)]
      exact f.own j l d' h
  frs := fun j l d' h => by
    by_cases q : i = j
    · subst q; rw [if_pos rfl]; exact h0
    · rw [get_set_ne q] at h
      rw [if_neg (Ne.symm q)]
      exact f.frs j l d' h
  dis := fun j j' l l' d' d'' ne h h' => by
    by_cases q : i = j
    · subst q
      rw [if_pos rfl, if_neg (Ne.symm ne)]
      rw [get_set_ne ne] at h'
      exact hT j' l' d'' (Ne.symm ne) h'
    · rw [get_set_ne q] at h
      rw [if_neg (Ne.symm q)]
      by_cases q' : i = j'
      · subst q'
        rw [if_pos rfl]
        exact fun a m m' => hT j l d' (Ne.symm q) h a m' m
      · rw [get_set_ne q'] at h'
        rw [if_neg (Ne.symm q')]
        exact f.dis j j' l l' d' d'' ne h h'
  pin := fun w k d' hp h => by
    have q : i ≠ 0 := Nat.ne_of_gt hi0.1
    rw [get_set_ne q] at h ⊢; exact f.pin w k d' hp h
/-- a fresh thing is no one's -/
theorem Frm.fresh (f : Frm mg e env F σ H T) {S : List Addr} (fr : ∀ a ∈ S, H a = none) : (∀ a ∈ S, e.H a = none) ∧ ∀ j l d', env[j]? = some (.own l d') → ∀ a ∈ S, a ∉ T j :=
  ⟨fun a m => Same.none f.same (fr a m), fun j l d' h a m m' => by
    obtain ⟨v, _, r⟩ := f.own j l d' h
    exact (RepN.at _ r a m').2 (fr a m)⟩
theorem sOwn {x : Str} {i : Nat} {ex : Expr} {E : Mp.E} {so : Scope} {p pos : Pos} (ao : AsOk X so) (hN : X.N[i]? = some x) (hl : so.names.lookup x = some .local ∨ so.names.lookup x = some .cell) (ok : OkE mg e W X Φ ex E) (nc : noComp ex = true) : OkS mg e W X Φ kk (.Assign [.Name x p] ex pos) (.own i E) := by
  obtain ⟨h1, h2⟩ := ao.loc x hl
  cases hb : bor E with
  | true =>
    refine PS.of (ps_set ao.nd hN h1 ok.brw (noComp_sw nc) h2) fun D σ H ⟨env, F, T, f, h⟩ => ⟨env, F, T, f, (lift_rw f h).imp (fun d z v F1 H1 g1 r => ?_) fun _ _ z => z⟩
    cases hk : kd E with
    | zero => rw [hk] at z; exact z.elim
    | succ k => rw [hk] at z; simp only [hb, Bool.true_or, if_true] at z; exact z.elim
  | false =>
    refine PS.of (ps_set ao.nd hN h1 (ok.own hb) (noComp_sw nc) h2) fun D σ H ⟨env, F, T, f, h⟩ => ⟨env, F, T, f, (lift_rw f h).imp (fun d z v F1 H1 S g1 r fr => ?_) fun _ _ z => z⟩
    cases hk : kd E with
    | zero => rw [hk] at z; exact z.elim
    | succ k =>
      rw [hk] at z r
      have z : WS mg e W kk D (if (bor E || !decide (0 < i ∧ i < env.length)) = true then RS.bad else RS.nx (env.set i (.own k d))) := z
      rw [hb, Bool.false_or] at z
      by_cases hi : 0 < i ∧ i < env.length
      · rw [decide_eq_true hi, if_neg (by decide)] at z
        obtain ⟨k1, k2⟩ := f.fresh fr
        exact z _ F1 H1 _ ((f.grow g1).take hi r k1 fun j l d' _ hj => k2 j l d' hj)
      · rw [decide_eq_false hi, Bool.not_false, if_pos rfl] at z; exact z.elim
/-! ### lists of statements -/
theorem lNil : OkL mg e W X Φ kk [] [] := PSs.of pss_nil fun D σ H ⟨env, F, T, f, h⟩ => h σ F H T f
theorem lCons {st : Stmt} {sts : List Stmt} {s : S} {ss : List S} (h1 : OkS mg e W X Φ kk st s) (h2 : OkL mg e W X Φ kk sts ss) : OkL mg e W X Φ kk (st :: sts) (s :: ss) := by
  refine PSs.of (pss_cons h1 h2) fun D σ H ⟨env, F, T, f, h⟩ => ⟨env, F, T, f, ?_⟩
  have h : WS mg e W kk D (seqS (exS Φ kk s env) fun env => exL Φ kk ss env) := h
  cases hs : exS Φ kk s env with
  | nx env' =>
    rw [hs] at h
    exact fun σ F H T f' => ⟨env', F, T, f', h⟩
  | _ => rw [hs] at h; exact h
/-- what is one's own is from now on what stays -/
theorem Frm.freeze (f : Frm mg e env F σ H T) {i k : Nat} {d : Mp.D} (h : env[i]? = some (.own k d)) : Frm mg e (env.set i (.val d)) (froze F H (T i)) σ H T := by
  obtain ⟨v, h1, r⟩ := f.own i k d h
  have hT : ∀ a ∈ T i, F a = none := fun a m => (RepN.at _ r a m).1
  have hi : i < env.length := by
    rw [← f.len]
    exact (List.getElem?_eq_some_iff.mp h1).1
  have ext := froze_ext (H := H) hT
  refine ⟨f.same, froze_le f.le _, fun a o z => ext a o (f.ext a o z), fun a z z' => ?_, f.leB, by rw [List.length_set]; exact f.len, fun j d' hj => ?_, fun j d' hj => ?_, fun j l d' hj => ?_, fun j l d' hj => ?_, fun j j' l l' d' d'' ne hj hj' => ?_, fun w l d' hp hj => ?_⟩
  · by_cases m : a ∈ T i
    · exact f.frs i k d h a m
    · rw [froze_out m] at z'; exact f.new a z z'
  · by_cases q : i = j
    · subst q
      have := get_set_eq hj; cases this
      exact ⟨v, h1, RepN.frozen _ r (fun _ z => z) hT⟩
    · rw [get_set_ne q] at hj
      obtain ⟨w, h3, r3⟩ := f.val j d' hj
      exact ⟨w, h3, Rep.mono (Le.of_same ext) r3⟩
  · by_cases q : i = j
    · subst q; have := get_set_eq hj; cases this
    · rw [get_set_ne q] at hj; exact f.bor j d' hj
  · by_cases q : i = j
    · subst q; have := get_set_eq hj; cases this
    · rw [get_set_ne q] at hj
      obtain ⟨w, h3, r3⟩ := f.own j l d' hj
      have dis : ∀ a ∈ T j, a ∉ T i := f.dis j i l k d' d (Ne.symm q) hj h
      -- its own addresses stay out of what stays
      refine ⟨w, h3, ?_⟩
      have key : ∀ (n : Nat) {v : V} {x : Mp.D} {S : List Addr}, (∀ a ∈ S, a ∉ T i) → RepN mg n F H v x S → RepN mg n (froze F H (T i)) H v x S := fun n => by
        induction n with
        | zero => intro v x S _ r; exact ⟨r.1, Rep.mono (Le.of_same ext) r.2⟩
        | succ n ih =>
          intro v x S hS r
          have sub : ∀ {vs : List V} {ds : List Mp.D} {Ss : List (List Addr)}, (∀ a ∈ Ss.flatten, a ∉ T i) → All3 (RepN mg n F H) vs ds Ss → All3 (RepN mg n (froze F H (T i)) H) vs ds Ss := fun {vs} => by
            induction vs with
            | nil =>
              intro ds Ss _ ha
              cases ds <;> cases Ss <;> first | exact True.intro | exact ha.elim
            | cons v vs ih2 =>
              intro ds Ss hm ha
              cases ds with
              | nil => exact ha.elim
              | cons d ds =>
                cases Ss with
                | nil => exact ha.elim
                | cons S Ss =>
                  rw [List.flatten_cons] at hm
                  exact ⟨ih (fun a z => hm a (List.mem_append_left _ z)) ha.1, ih2 (fun a z => hm a (List.mem_append_right _ z)) ha.2⟩
          have out : ∀ {a : Addr}, a ∈ S → F a = none → froze F H (T i) a = none := fun m z => by rw [froze_out (hS _ m)]; exact z
          rcases r with ⟨a, b, r⟩ | ⟨p, ep, hF, nd, r⟩
          · exact .inl ⟨a, b, Rep.mono (Le.of_same ext) r⟩
          · rcases r with ⟨ds, vs, Ss, e1, hp, ha, es⟩ | ⟨ks, ds, vs, Ss, e1, hl, hp, ha, es⟩ | ⟨ks, ds, vs, Ss, e1, hl, hp, ha, es⟩ | ⟨c, ds, C, dx, vs, Ss, e1, hl, hm, hd, hdx, hp, ha, es⟩
            · refine .inr ⟨p, ep, out (by rw [es]; exact List.mem_cons_self) hF, nd, .inl ⟨ds, vs, Ss, e1, hp, sub (fun a z => hS a (by rw [es]; exact List.mem_cons_of_mem _ z)) ha, es⟩⟩
            · refine .inr ⟨p, ep, out (by rw [es]; exact List.mem_cons_self) hF, nd, .inr (.inl ⟨ks, ds, vs, Ss, e1, hl, hp, sub (fun a z => hS a (by rw [es]; exact List.mem_cons_of_mem _ z)) ha, es⟩)⟩
            · refine .inr ⟨p, ep, out (by rw [es]; exact List.mem_cons_self) hF, nd, .inr (.inr (.inl ⟨ks, ds, vs, Ss, e1, hl, hp, sub (fun a z => hS a (by rw [es]; exact List.mem_cons_of_mem _ z)) ha, es⟩))⟩
            · refine .inr ⟨p, ep, out (by rw [es]; exact List.mem_cons_self) hF, nd, .inr (.inr (.inr ⟨c, ds, C, dx, vs, Ss, e1, hl, hm, out (by rw [es]; exact List.mem_cons_of_mem _ List.mem_cons_self) hd, hdx, hp, sub (fun a z => hS a (by rw [es]; exact List.mem_cons_of_mem _ (List.mem_cons_of_mem _ z))) ha, es⟩))⟩
      exact key _ dis r3
  · by_cases q : i = j
    · subst q; have := get_set_eq hj; cases this
    · rw [get_set_ne q] at hj; exact f.frs j l d' hj
  · by_cases q : i = j
    · subst q; have := get_set_eq hj; cases this
    · by_cases q' : i = j'
      · subst q'; have := get_set_eq hj'; cases this
      · rw [get_set_ne q] at hj; rw [get_set_ne q'] at hj'; exact f.dis j j' l l' d' d'' ne hj hj'
  · by_cases q : i = 0
    · subst q; have := get_set_eq hj; cases this
    · rw [get_set_ne q] at hj; exact f.pin w l d' hp hj
theorem lFrz {sts : List Stmt} {i : Nat} {ss : List S} (h2 : OkL mg e W X Φ kk sts ss) : OkL mg e W X Φ kk sts (.frz i :: ss) := by
  refine PSs.of h2 fun D σ H ⟨env, F, T, f, h⟩ => ?_
  have h : WS mg e W kk D (seqS (match env[i]? with | some (.own k d) => .nx (env.set i (.val d)) | some (.val d) => .nx env | _ => .bad) fun env => exL Φ kk ss env) := h
  cases q : env[i]? with
  | none => rw [q] at h; exact h.elim
  | some sl =>
    rw [q] at h
    cases sl with
    | own k d => exact ⟨_, _, _, f.freeze q, h⟩
    | val d => exact ⟨_, _, _, f, h⟩
    | _ => exact h.elim
end
end Mp
/-! what is one's own is changed -/
namespace Mp
open PySem PySem.Spec PyProof.Rows L2 PySem.SeqAt

section
variable {mg : Gd} {e : Ent} {env env' : Sls} {F F' F1 H H' H1 : Hp} {σ : L2.St} {T : Nat → List Addr} {W : WX} {α β : Type} {X : Cx} {Φ : String → List D → R D} {kk : Nat} {De : Ends}
/-- one's own of one level -/
theorem all3_inv : ∀ {vs : List V} {ds : List D} {Ss : List (List Addr)}, All3 (RepN mg 0 F H) vs ds Ss → Reps mg F vs ds ∧ Ss.flatten = []
  | [], [], [], _ => ⟨Reps.nil, rfl⟩
  | v :: vs, d :: ds, S :: Ss, h => by
    obtain ⟨h1, h2⟩ := all3_inv h.2
    refine ⟨Reps.cons h.1.2 h1, ?_⟩
    rw [List.flatten_cons, h2, h.1.1]; rfl
  | [], [], _ :: _, h => h.elim
  | [], _ :: _, _, h => h.elim
  | _ :: _, [], _, h => h.elim
  | _ :: _, _ :: _, [], h => h.elim
theorem inv_lst {v : V} {ds : List D} {S : List Addr} (h : RepN mg 1 F H v (.lst ds) S) : ∃ p vs, v = .ref p ∧ F p = none ∧ H p = some (.lst vs) ∧ Reps mg F vs ds ∧ S = [p] := by
  rcases h with ⟨_, z, _⟩ | ⟨p, ep, hF, nd, h⟩
  · cases z
  · rcases h with ⟨ds', vs, Ss, e1, hp, ha, es⟩ | ⟨ks, ds', vs, Ss, e1, hl, hp, ha, es⟩ | ⟨ks, ds', vs, Ss, e1, hl, hp, ha, es⟩ | ⟨c, ds', C, dx, vs, Ss, e1, hl, hm, hd, hdx, hp, ha, es⟩ <;> cases e1
    obtain ⟨h1, h2⟩ := all3_inv ha
    rw [h2] at es
    exact ⟨p, vs, ep, hF, hp, h1, es⟩
theorem inv_dK {v : V} {ks : List Key} {ds : List D} {S : List Addr} (h : RepN mg 1 F H v (.dK ks ds) S) : ∃ p vs, v = .ref p ∧ F p = none ∧ ks.length = vs.length ∧ H p = some (.dK (ks.zip vs)) ∧ Reps mg F vs ds ∧ S = [p] := by
  rcases h with ⟨_, z, _⟩ | ⟨p, ep, hF, nd, h⟩
  · cases z
  · rcases h with ⟨ds', vs, Ss, e1, hp, ha, es⟩ | ⟨ks, ds', vs, Ss, e1, hl, hp, ha, es⟩ | ⟨ks, ds', vs, Ss, e1, hl, hp, ha, es⟩ | ⟨c, ds', C, dx, vs, Ss, e1, hl, hm, hd, hdx, hp, ha, es⟩ <;> cases e1
    obtain ⟨h1, h2⟩ := all3_inv ha
    rw [h2] at es
    exact ⟨p, vs, ep, hF, hl, hp, h1, es⟩
theorem inv_dT {v : V} {ks : List (List Key)} {ds : List D} {S : List Addr} (h : RepN mg 1 F H v (.dT ks ds) S) : ∃ p vs, v = .ref p ∧ F p = none ∧ ks.length = vs.length ∧ H p = some (.dT (ks.zip vs)) ∧ Reps mg F vs ds ∧ S = [p] := by
  rcases h with ⟨_, z, _⟩ | ⟨p, ep, hF, nd, h⟩
  · cases z
  · rcases h with ⟨ds', vs, Ss, e1, hp, ha, es⟩ | ⟨ks, ds', vs, Ss, e1, hl, hp, ha, es⟩ | ⟨ks, ds', vs, Ss, e1, hl, hp, ha, es⟩ | ⟨c, ds', C, dx, vs, Ss, e1, hl, hm, hd, hdx, hp, ha, es⟩ <;> cases e1
    obtain ⟨h1, h2⟩ := all3_inv ha
    rw [h2] at es
    exact ⟨p, vs, ep, hF, hl, hp, h1, es⟩
theorem inv_obj {v : V} {c : String} {ds : List D} {S : List Addr} (h : RepN mg 1 F H v (.obj c ds) S) : ∃ p C dx vs, v = .ref p ∧ F p = none ∧ F dx = none ∧ H dx = some (.own p) ∧ vs.length ≤ (mg.cf c).length ∧ mg.mg c = some (.ref C) ∧ H p = some (.ins C dx ((mg.cf c).zip vs)) ∧ Reps mg F vs ds ∧ S = [p, dx] := by
  rcases h with ⟨_, z, _⟩ | ⟨p, ep, hF, nd, h⟩
  · cases z
  · rcases h with ⟨ds', vs, Ss, e1, hp, ha, es⟩ | ⟨ks, ds', vs, Ss, e1, hl, hp, ha, es⟩ | ⟨ks, ds', vs, Ss, e1, hl, hp, ha, es⟩ | ⟨c, ds', C, dx, vs, Ss, e1, hl, hm, hd, hdx, hp, ha, es⟩ <;> cases e1
    obtain ⟨h1, h2⟩ := all3_inv ha
    rw [h2] at es
    exact ⟨p, C, dx, vs, ep, hF, hd, hdx, hl, hm, hp, h1, es⟩
/-- the thing of slot i is another one now -/
theorem Frm.put (f : Frm mg e env F σ H T) {i k : Nat} {v : V} {d d' : D} {p : Addr} {o : HO} (q : env[i]? = some (.own k d)) (hs : σ[i]? = some (some v)) (hp : p ∈ T i) (r : RepN mg (k + 1) F (upd H p o) v d' (T i)) :
    Frm mg e (env.set i (.own k d')) F σ (upd H p o) T := by
  have hF : F p = none := by
    obtain ⟨_, _, r0⟩ := f.own i k d q
    exact (RepN.at _ r0 p hp).1
  have hi : i < env.length := (List.getElem?_eq_some_iff.mp q).1
  have oth : ∀ {j l : Nat} {d2 : D}, i ≠ j → env[j]? = some (.own l d2) → ∀ a ∈ T j, upd H p o a = H a := fun {j l d2} ne h a m => upd_ne fun z => f.dis i j k l d d2 ne q h p hp (z ▸ m)
  refine ⟨fun a u h => ?_, fun a u h => ?_, f.ext, f.new, f.leB, by rw [List.length_set]; exact f.len, fun j d2 h => ?_, fun j d2 h => ?_, fun j l d2 h => ?_, fun j l d2 h => ?_, fun j j' l l' d1 d2 ne h h' => ?_, fun w l d2 hp2 h => ?_⟩
  · rw [upd_ne (ne_of_none h (f.frs i k d q p hp))]; exact f.same a u h
  · rw [upd_ne (ne_of_none h hF)]; exact f.le a u h
  · by_cases z : i = j
    · subst z; have := get_set_eq h; cases this
    · rw [get_set_ne z] at h; exact f.val j d2 h
  · by_cases z : i = j
    · subst z; have := get_set_eq h; cases this
    · rw [get_set_ne z] at h; exact f.bor j d2 h
  · by_cases z : i = j
    · subst z; have := get_set_eq h; cases this; exact ⟨v, hs, r⟩
    · rw [get_set_ne z] at h
      obtain ⟨w, h1, r1⟩ := f.own j l d2 h
      exact ⟨w, h1, RepN.other _ (fun r => r) (fun _ z => z) (oth z h) r1⟩
  · by_cases z : i = j
    · subst z; exact f.frs i k d q
    · rw [get_set_ne z] at h; exact f.frs j l d2 h
  · by_cases z : i = j
    · subst z
      rw [get_set_ne ne] at h'
      exact f.dis i j' k l' d d2 ne q h'
    · rw [get_set_ne z] at h
      by_cases z' : i = j'
      · subst z'; exact f.dis j i l k d1 d ne h q
      · rw [get_set_ne z'] at h'; exact f.dis j j' l l' d1 d2 ne h h'
  · by_cases z : i = 0
    · subst z; exact f.pin w k d hp2 q
    · rw [get_set_ne z] at h; exact f.pin w l d2 hp2 h
theorem ownAt_inv {i : Nat} {g : D → RS} (h : WS mg e W kk De (ownAt env i g)) : ∃ d, env[i]? = some (.own 0 d) ∧ WS mg e W kk De (g d) := by
  have h : WS mg e W kk De (match env[i]? with | some (.own 0 d) => g d | _ => .bad) := h
  cases q : env[i]? with
  | none => rw [q] at h; exact h.elim
  | some sl =>
    rw [q] at h
    cases sl with
    | own k d =>
      cases k with
      | zero => exact ⟨d, rfl, h⟩
      | succ k => exact h.elim
    | _ => exact h.elim
theorem own_lst' {p : Addr} {vs : List V} {ds : List D} (hF : F p = none) (hp : H p = some (.lst vs)) (r : Reps mg F vs ds) : RepN mg 1 F H (.ref p) (.lst ds) [p] := own_lst hF hp r
/-- a name's text in a slot -/
structure NmOk (X : Cx) (x : Str) (i : Nat) : Prop where
  n : X.N[i]? = some x
  v : Vis X.env.scope x
  d : (x == ("__debug__" : Str)) = false
  c : (x == ("__classdict__" : Str)) = false
theorem NmOk.pe {x : Str} {i : Nat} {p : Pos} (n : NmOk X x i) : PE X (.Name x p) (tVar i) := pe_var n.n n.v n.d n.c
theorem sApp {x : Str} {i : Nat} {ex : Expr} {E : Mp.E} {p ap cp pos : Pos} (n : NmOk X x i) (ok : OkE mg e W X Φ ex E) (hl : (ap.endLine == cp.line) = true) :
    OkS mg e W X Φ kk (.Expr (.Call (.Attribute (.Name x p) "append" ap) [ex] [] cp) pos) (.app i E) := by
  have pa : PA X [ex] (tCons (rdX mg e W (bor E) (fun env => ev Φ E false env)) tNil) := pa_cons ok.x pa_nil (plain_star ok.pl)
  refine PS.of (ps_expr (pe_bm PySem.F.plainAttrs_list PySem.F.slot_list_append PySem.F.type_list_append (id := "list.append") mt_append n.pe pa (by rfl) (by rw [plain_back1 ok.pl]; rfl) hl (plain_star ok.pl) (by rfl)) (by rfl)) fun D σ H ⟨env, F, T, f, h⟩ => ?_
  obtain ⟨d, q, h⟩ := ownAt_inv h
  cases d with
  | lst xs =>
    obtain ⟨v, h1, r⟩ := f.own i 0 _ q
    obtain ⟨a, vs, ev, hF, hp, hr, hS⟩ := inv_lst r
    subst ev
    refine ⟨.ref a, h1, .inl ⟨rfl, vs, SqL.of hp⟩, ?_⟩
    have h := lift_rw f h
    cases hb : bor E with
    | true => exact ⟨env, F, T, f, h.imp (fun d z v F1 H1 g1 r => by rw [hb] at z; exact z.elim) fun _ _ z => z⟩
    | false =>
      refine ⟨env, F, T, f, h.imp (fun d z w F1 H1 S g1 rw1 fr => ?_) fun _ _ z => z⟩
      have z : WS mg e W kk D (if (!(bor E) && decide (xs.length < sizeLine)) = true then RS.nx (env.set i (.own 0 (.lst (xs ++ [d])))) else RS.bad) := z
      rw [hb, Bool.not_false, Bool.true_and] at z
      by_cases hn : xs.length < sizeLine
      · rw [decide_eq_true hn, if_pos rfl] at z
        have f1 := f.grow g1
        have hp1 := g1.same a _ hp
        have hF1 : F1 a = none := by
          cases w : F1 a with
          | none => rfl
          | some o => have := g1.new a hF (by rw [w]; exact fun z => by cases z); rw [hp] at this; cases this
        refine ⟨a, vs, w, rfl, rfl, hp1, by rw [hr.length]; exact hn, z _ F1 _ T (f1.put q h1 (by rw [hS]; exact List.mem_singleton.mpr rfl) ?_)⟩
        rw [hS]
        exact own_lst hF1 upd_same (Reps.append (Reps.grow g1 hr) (Reps.one rw1.2))
      · rw [decide_eq_false hn, if_neg (by decide)] at z; exact z.elim
  | _ => exact h.elim
theorem keep_none {a : Addr} {o : HO} (g : Grow F H F1 H1) (hF : F a = none) (hp : H a = some o) : F1 a = none := by
  cases w : F1 a with
  | none => rfl
  | some u => have := g.new a hF (by rw [w]; exact fun z => by cases z); rw [hp] at this; cases this
theorem sExt {x : Str} {i : Nat} {ex : Expr} {E : Mp.E} {p ap cp pos : Pos} (n : NmOk X x i) (ok : OkE mg e W X Φ ex E) (hl : (ap.endLine == cp.line) = true) :
    OkS mg e W X Φ kk (.Expr (.Call (.Attribute (.Name x p) "extend" ap) [ex] [] cp) pos) (.ext i E) := by
  have pa : PA X [ex] (tCons (rdX mg e W (bor E) (fun env => ev Φ E false env)) tNil) := pa_cons ok.x pa_nil (plain_star ok.pl)
  refine PS.of (ps_expr (pe_bm PySem.F.plainAttrs_list PySem.F.slot_list_extend (by show builtinType _ = _; rw [builtinType_eq_fast]; kernel_rfl) (id := "list.extend") mt_extend n.pe pa (by rfl) (by rw [plain_back1 ok.pl]; rfl) hl (plain_star ok.pl) (by rfl)) (by rfl)) fun D σ H ⟨env, F, T, f, h⟩ => ?_
  obtain ⟨d, q, h⟩ := ownAt_inv h
  cases d with
  | lst xs =>
    obtain ⟨v, h1, r⟩ := f.own i 0 _ q
    obtain ⟨a, vs, ev, hF, hp, hr, hS⟩ := inv_lst r
    subst ev
    refine ⟨.ref a, h1, .inl ⟨rfl, vs, SqL.of hp⟩, ?_⟩
    have h := lift_rw f h
    cases hb : bor E with
    | true =>
      refine ⟨env, F, T, f, h.imp (fun d z v F1 H1 g1 r => ?_) fun _ _ z => z⟩
      cases d with
      | lst ys => have z : WS mg e W kk D (if (!(bor E) && decide (xs.length + ys.length ≤ sizeLine)) = true then RS.nx (env.set i (.own 0 (.lst (xs ++ ys)))) else RS.bad) := z; rw [hb, Bool.not_true, Bool.false_and, if_neg (by decide)] at z; exact z.elim
      | _ => exact z.elim
    | false =>
      refine ⟨env, F, T, f, h.imp (fun d z w F1 H1 S g1 rw1 fr => ?_) fun _ _ z => z⟩
      cases d with
      | lst ys =>
        have z : WS mg e W kk D (if (!(bor E) && decide (xs.length + ys.length ≤ sizeLine)) = true then RS.nx (env.set i (.own 0 (.lst (xs ++ ys)))) else RS.bad) := z
        rw [hb, Bool.not_false, Bool.true_and] at z
        by_cases hn : xs.length + ys.length ≤ sizeLine
        · rw [decide_eq_true hn, if_pos rfl] at z
          have f1 := f.grow g1
          have hp1 := g1.same a _ hp
          obtain ⟨b, ws, ew, k1, k2⟩ := rep_lst rw1.2
          subst ew
          refine ⟨a, b, vs, ws, rfl, rfl, hp1, g1.le.lst k1, by rw [hr.length, k2.length]; exact hn, z _ F1 _ T (f1.put q h1 (by rw [hS]; exact List.mem_singleton.mpr rfl) ?_)⟩
          rw [hS]
          exact own_lst (keep_none g1 hF hp) upd_same (Reps.append (Reps.grow g1 hr) k2)
        · rw [decide_eq_false hn, if_neg (by decide)] at z; exact z.elim
      | _ => exact z.elim
  | _ => exact h.elim
/-! ### x[k] = e -/
theorem set_dict (hu : X.A.units + 1 < cLine) : PSet X (fun o i v H Q => ∃ a H', o = .ref a ∧ DPut H a i v H' ∧ Q H') := fun pins s σ H o i v ov iv u Q I ro ri rv ⟨a, H', eo, g, q⟩ => by
  subst eo
  cases ro
  exact d_setItem hu I g ri rv fun s' I' => ⟨H', I', q⟩
theorem reps_set {vs : List V} {ds : List D} {v : V} {d : D} (i : Nat) (r : Reps mg H vs ds) (q : Rep mg H v d) : Reps mg H (vs.set i v) (ds.set i d) := Reps.set i r q
theorem put_repsT {k : List Key} {v : V} {d : D} (rv : Rep mg H v d) {ks : List (List Key)} {vs : List V} {ds : List D} (hl : ks.length = vs.length) (r : Reps mg H vs ds) :
    ∃ vs', putK (ks.zip vs) k v = (putD k d ks ds).1.zip vs' ∧ (putD k d ks ds).1.length = vs'.length ∧ Reps mg H vs' (putD k d ks ds).2 := put_reps rv hl r
/-- the slot's thing takes y at the key: what stands then -/
theorem sub_op (hu : X.A.units + 1 < cLine) (f : Frm mg e env F σ H T) {i : Nat} {x q d y : D} {vk vd : V} (hq : env[i]? = some (.own 0 x)) {v : V} (hs : σ[i]? = some (some v)) (rk : Rep mg H vk q) (rd : Rep mg F vd d) (h : subD x q d = some y) :
    ∃ p o, p ∈ T i ∧ v = .ref p ∧ (∀ Q : Hp → Prop, Q (upd H p o) → anySet X v vk vd H Q) ∧ Frm mg e (env.set i (.own 0 y)) F σ (upd H p o) T := by
  obtain ⟨v', h1, r⟩ := f.own i 0 x hq
  rw [hs] at h1; cases h1
  cases x with
  | lst xs =>
    obtain ⟨p, vs, ev, hF, hp, hr, hS⟩ := inv_lst r
    subst ev
    cases q with
    | int j =>
      have h : (ixN xs.length j).map (fun j => D.lst (xs.set j d)) = some y := h
      cases hi : ixN xs.length j with
      | none => rw [hi] at h; cases h
      | some m =>
        rw [hi] at h; cases h
        refine ⟨p, .lst (vs.set m vd), by rw [hS]; exact List.mem_singleton.mpr rfl, rfl, fun Q hQ => ⟨_, set_list, p, vs, j, m, rfl, rep_int rk, hp, by rw [hr.length]; exact hi, hQ⟩, f.put hq hs (by rw [hS]; exact List.mem_singleton.mpr rfl) ?_⟩
        rw [hS]
        exact own_lst hF upd_same (Reps.set m hr rd)
    | _ => cases h
  | dK ks ds =>
    obtain ⟨p, vs, ev, hF, hl, hp, hr, hS⟩ := inv_dK r
    subst ev
    have h : (if ks.length < sizeLine then (keyD q).map fun k => D.dK (putD k d ks ds).1 (putD k d ks ds).2 else none) = some y := h
    split at h
    · rename_i hn
      cases hk : keyD q with
      | none => rw [hk] at h; cases h
      | some k =>
        rw [hk] at h; cases h
        obtain ⟨vs', e1, l1, r1⟩ := put_reps (k := k) rd hl hr
        refine ⟨p, .dK (putK (ks.zip vs) k vd), by rw [hS]; exact List.mem_singleton.mpr rfl, rfl, fun Q hQ => ⟨_, set_dict hu, p, _, rfl, .inl ⟨_, k, hp, key_rep hk rk, by rw [List.length_zip]; omega, rfl⟩, hQ⟩, f.put hq hs (by rw [hS]; exact List.mem_singleton.mpr rfl) ?_⟩
        rw [hS, e1]
        exact own_dK hF l1 upd_same r1
    · cases h
  | dT ks ds =>
    obtain ⟨p, vs, ev, hF, hl, hp, hr, hS⟩ := inv_dT r
    subst ev
    have h : (if ks.length < sizeLine then (tkeyD q).map fun k => D.dT (putD k d ks ds).1 (putD k d ks ds).2 else none) = some y := h
    split at h
    · rename_i hn
      cases hk : tkeyD q with
      | none => rw [hk] at h; cases h
      | some k =>
        rw [hk] at h; cases h
        obtain ⟨b, eb, hb⟩ := tkey_rep hk rk
        obtain ⟨vs', e1, l1, r1⟩ := put_repsT (k := k) rd hl hr
        refine ⟨p, .dT (putK (ks.zip vs) k vd), by rw [hS]; exact List.mem_singleton.mpr rfl, rfl, fun Q hQ => ⟨_, set_dict hu, p, _, rfl, .inr ⟨_, k, b, hp, eb, hb, by rw [List.length_zip]; omega, rfl⟩, hQ⟩, f.put hq hs (by rw [hS]; exact List.mem_singleton.mpr rfl) ?_⟩
        rw [hS, e1]
        exact own_dT hF l1 upd_same r1
    · cases h
  | _ => cases h
theorem plain_assign {o i : Expr} {pos : Pos} {env : Env} (h : plainE i = true) : ∀ v, assign (.Subscript o i pos) env v = (do
      let ov ← holding [v] (eval o env)
      let iv ← holding [v, ov] (eval i env)
      standAt pos
      holding [v, ov, iv] (setItem ov iv v)
      release [v, ov, iv] []) := fun v => by
  cases i <;> first | rfl | exact absurd h Bool.false_ne_true
theorem plain_aug {i : Expr} (h : plainE i = true) : ∀ ov iv new, augStore i ov iv new = (do holding [new, ov, iv] (setItem ov iv new); release [new, ov, iv] []; pure .next) := fun _ _ _ => by
  cases i <;> first | rfl | exact absurd h Bool.false_ne_true
def noSetC : Expr → Bool
  | .SetComp _ _ _ _ => false
  | _ => true
theorem sSub (hu : X.A.units + 64 < cLine) {x : Str} {i : Nat} {kx ex : Expr} {K E : Mp.E} {p tp pos : Pos} (n : NmOk X x i) (okk : OkE mg e W X Φ kx K) (ok : OkE mg e W X Φ ex E) (nc : noSetC ex = true) :
    OkS mg e W X Φ kk (.Assign [.Subscript (.Name x p) kx tp] ex pos) (.sub i K E) := by
  have hsw : swapsWithSole [.Subscript (.Name x p) kx tp] ex pos.line X.env = pure false := by cases ex <;> first | rfl | exact absurd nc Bool.false_ne_true
  have hst : swappedStores [.Subscript (.Name x p) kx tp] ex X.env = pure none := by cases ex <;> first | rfl | exact absurd nc Bool.false_ne_true
  cases hb : bor E with
  | true =>
    refine PS.of (ps_asg ok.brw (pg_sub n.pe okk.brw anySet_ok (plain_assign okk.pl)) hsw hst (by rfl)) fun D σ H ⟨env, F, T, f, h⟩ => ⟨env, F, T, f, (lift_rw f h).imp (fun d z v F1 H1 g1 r => ?_) fun _ _ z => z⟩
    obtain ⟨d', q, z⟩ := ownAt_inv z
    obtain ⟨v', h1, r'⟩ := f.own i 0 _ q
    refine ⟨v', h1, env, F1, T, f.grow g1, (lift_rw (f.grow g1) z).imp (fun q z v F2 H2 g2 r2 => ?_) fun _ _ z => z⟩
    rw [hb, if_pos rfl] at z; exact z.elim
  | false =>
    refine PS.of (ps_asg (PE.of (ok.own hb) rdE_zero) (pg_sub n.pe okk.brw anySet_ok (plain_assign okk.pl)) hsw hst (by rfl)) fun D σ H ⟨env, F, T, f, h⟩ => ⟨env, F, T, f, (lift_rw f h).imp (fun d z v F1 H1 S g1 r fr => ?_) fun _ _ z => z⟩
    obtain ⟨x', q, z⟩ := ownAt_inv z
    have f1 := f.grow g1
    obtain ⟨v', h1, r'⟩ := f1.own i 0 _ q
    refine ⟨v', h1, env, F1, T, f1, (lift_rw f1 z).imp (fun qd z vk F2 H2 g2 r2 => ?_) fun _ _ z => z⟩
    rw [hb, if_neg (by decide)] at z
    cases hy : subD x' qd d with
    | none => rw [hy] at z; exact z.elim
    | some y =>
      rw [hy] at z
      obtain ⟨pp, o, _, ev, hset, f3⟩ := sub_op (X := X) (by omega) (f1.grow g2) q h1 r2 (Rep.grow g2 r.2) hy
      exact hset _ (z σ F2 _ T f3)
/-! ### x op= e -/
theorem aug_op {o : Operator} {a b d : D} {x y : V} {Q : VK} (rx : Rep mg H x a) (ry : Rep mg H y b) (h : augD o a b = some d) (q : ∀ v, (∀ G : Hp, Rep mg G v d) → Q v H) : anyIp X o x y H Q := by
  cases a with
  | int i =>
    cases b with
    | int j =>
      have e1 := rep_int rx; have e2 := rep_int ry
      cases o with
      | Add => cases h; exact ⟨_, iop_add, i, j, e1, e2, q _ fun G => by unfold Rep; rfl⟩
      | Sub => cases h; exact ⟨_, iop_sub, i, j, e1, e2, q _ fun G => by unfold Rep; rfl⟩
      | Mult =>
        have h : (if i.natAbs < 2 ^ 64 ∨ j.natAbs < 2 ^ 64 then some (D.int (i * j)) else none) = some d := h
        split at h
        · rename_i z; cases h; exact ⟨_, iop_mul, i, j, e1, e2, z.imp (fun z => ⟨by omega, by omega⟩) (fun z => ⟨by omega, by omega⟩), q _ fun G => by unfold Rep; rfl⟩
        · cases h
      | _ => cases h
    | _ => cases h
  | str i =>
    cases b with
    | str j =>
      have e1 := rep_str rx; have e2 := rep_str ry
      cases o with
      | Add =>
        have h : (if i.length + j.length ≤ sizeLine then some (D.str (i ++ j)) else none) = some d := h
        split at h
        · rename_i z; cases h; exact ⟨_, iop_add_str, i, j, e1, e2, z, q _ fun G => by unfold Rep; rfl⟩
        · cases h
      | _ => cases h
    | _ => cases h
  | _ => cases b <;> cases h
theorem sAug {x : Str} {i : Nat} {o : Operator} {ex : Expr} {E : Mp.E} {so : Scope} {p pos : Pos} (ao : AsOk X so) (hN : X.N[i]? = some x) (hl : so.names.lookup x = some .local ∨ so.names.lookup x = some .cell) (ok : OkE mg e W X Φ ex E) :
    OkS mg e W X Φ kk (.AugAssign (.Name x p) o ex pos) (.aug i o E) := by
  obtain ⟨h1, h2⟩ := ao.loc x hl
  refine PS.of (ps_aug ao.nd hN h1 ok.brw (anyIp_ok o) h2) fun D σ H ⟨env, F, T, f, h⟩ => ?_
  have h : WS mg e W kk D (match env[i]? with | some (.val x) => liftR (ev Φ E false env) env fun d => (match augD o x d with | some y => .nx (env.set i (.val y)) | none => .bad) | _ => .bad) := h
  cases q : env[i]? with
  | none => rw [q] at h; exact h.elim
  | some sl =>
    rw [q] at h
    cases sl with
    | val x =>
      obtain ⟨v, hv, r⟩ := f.val i x q
      refine ⟨v, hv, env, F, T, f, (lift_rw f h).imp (fun d z w F1 H1 g1 rw1 => ?_) fun _ _ z => z⟩
      cases hy : augD o x d with
      | none => rw [hy] at z; exact z.elim
      | some y =>
        rw [hy] at z
        have f1 := f.grow g1
        exact aug_op (Rep.up g1 (Rep.mono f.le r)) rw1 hy fun u ru => z _ F1 H1 T (f1.set (List.getElem?_eq_some_iff.mp q).1 (ru F1))
    | _ => exact h.elim
def anyGet (X : Cx) : V → V → Hp → VK → Prop := fun x y H Q => ∃ t, PGet X t ∧ t x y H Q
theorem anyGet_ok : PGet X (anyGet X) := fun pins s σ H o i ov iv Q I ro ri ⟨t, ho, h⟩ => ho pins s σ H o i ov iv Q I ro ri h
theorem get_list : PGet X (fun o i H Q => ∃ p xs j v, o = .ref p ∧ i = .int j ∧ H p = some (.lst xs) ∧ atI xs j = some v ∧ Q v H) := by
  intro pins s σ H o i ov iv Q I ro ri ⟨p, xs, j, v, eo, ei, hp, hv, q⟩
  subst eo ei
  cases ro
  obtain ⟨t, rfl⟩ := ri
  obtain ⟨its, r, pl, hz⟩ := I.list (SqL.of hp)
  obtain ⟨m, h1, h2, h3, h4, h5⟩ := atI_get hv
  obtain ⟨w, ew, rw'⟩ := r.get h2
  have hl := r.length
  have hn := line63
  by_cases h0 : 0 ≤ j
  · have hj : j.toNat = m := by rw [seqIndex_of h0 h5] at h1; exact Option.some.inj h1
    exact wpAny_getItem_list pl.isList h0 (by omega) (by rw [hj]; simpa using ew) ⟨v, H, I, rw', q⟩
  · have hj : (j + (its.toArray.size : Int)).toNat = m := by
      rw [seqIndex_neg (by omega) h4] at h1
      rw [List.size_toArray, ← hl]
      exact Option.some.inj h1
    exact wpAny_getItem_list_neg pl.isList (by omega) (by rw [List.size_toArray] <;> omega) (by omega) (by rw [hj]; simpa using ew) ⟨v, H, I, rw', q⟩
theorem get_dict (hu : X.A.units + 1 < cLine) : PGet X (fun o i H Q => ∃ a v, o = .ref a ∧ DGet H a i (some v) ∧ Q v H) := fun pins s σ H o i ov iv Q I ro ri ⟨a, v, eo, g, q⟩ => by
  subst eo
  cases ro
  exact d_getItem hu I g ri fun w' s' I' rw' => ⟨v, H, I', rw', q⟩
theorem get_op (hu : X.A.units + 1 < cLine) {x q y : D} {vx vk : V} {Q : VK} (mu : isMut x = true) (rx : Rep mg H vx x) (rk : Rep mg H vk q) (h : idxD x q = some y) (sc : isScal y = true) (hq : ∀ v, (∀ G : Hp, Rep mg G v y) → Q v H) : anyGet X vx vk H Q := by
  have all : ∀ {v : V}, Rep mg H v y → ∀ G : Hp, Rep mg G v y := fun r G => rep_scal sc r
  cases x with
  | lst xs =>
    cases q with
    | int j =>
      obtain ⟨a, vs, e1, h1, h2⟩ := rep_lst rx
      subst e1
      obtain ⟨v, e2, e3⟩ := atI_reps h2 h
      exact ⟨_, get_list, a, vs, j, v, rfl, rep_int rk, h1, e2, hq v (all e3)⟩
    | _ => cases h
  | dK ks ds =>
    have h : (match keyD q with | some k => lookD k ks ds | none => none) = some y := by cases q <;> exact h
    cases hk : keyD q with
    | none => rw [hk] at h; cases h
    | some k =>
      rw [hk] at h
      obtain ⟨a, vs, e1, hl, hd, hr⟩ := rep_dK rx
      subst e1
      obtain ⟨v, e2, e3⟩ := look_val hl hr h
      exact ⟨_, get_dict hu, a, v, rfl, .inl ⟨_, k, hd, key_rep hk rk, e2.symm⟩, hq v (all e3)⟩
  | dT ks ds =>
    have h : (match tkeyD q with | some k => lookD k ks ds | none => none) = some y := by cases q <;> exact h
    cases hk : tkeyD q with
    | none => rw [hk] at h; cases h
    | some k =>
      rw [hk] at h
      obtain ⟨a, vs, e1, hl, hd, hr⟩ := rep_dT rx
      subst e1
      obtain ⟨b, eb, hb⟩ := tkey_rep hk rk
      obtain ⟨v, e2, e3⟩ := look_val hl hr h
      exact ⟨_, get_dict hu, a, v, rfl, .inr ⟨_, k, b, hd, eb, hb, e2.symm⟩, hq v (all e3)⟩
  | _ => cases mu
theorem sAugs (hu : X.A.units + 64 < cLine) {x : Str} {i : Nat} {o : Operator} {kx ex : Expr} {K E : Mp.E} {p tp pos : Pos} (n : NmOk X x i) (okk : OkE mg e W X Φ kx K) (ok : OkE mg e W X Φ ex E) :
    OkS mg e W X Φ kk (.AugAssign (.Subscript (.Name x p) kx tp) o ex pos) (.augs i K o E) := by
  refine PS.of (ps_augS n.pe okk.brw anyGet_ok ok.brw (anyIp_ok o) anySet_ok (plain_aug okk.pl)) fun D σ H ⟨env, F, T, f, h⟩ => ?_
  obtain ⟨x', q, h⟩ := ownAt_inv h
  obtain ⟨v, h1, r⟩ := f.own i 0 _ q
  have h : WS mg e W kk D (if isMut x' then _ else RS.bad) := h
  cases mu : isMut x' with
  | false => rw [mu, if_neg (by decide)] at h; exact h.elim
  | true =>
    rw [mu, if_pos rfl] at h
    refine ⟨v, h1, env, F, T, f, (lift_rw f h).imp (fun qd z vk F1 H1 g1 r1 => ?_) fun _ _ z => z⟩
    have f1 := f.grow g1
    cases hy : idxD x' qd with
    | none => rw [hy] at z; exact z.elim
    | some y =>
      rw [hy] at z
      cases sc : isScal y with
      | false => simp only [sc] at z; exact z.elim
      | true =>
        simp only [sc, if_true] at z
        have rx : Rep mg H1 v x' := RepN.rep f1.le 1 (RepN.grow g1 1 r)
        refine get_op (by omega) mu rx r1 hy sc fun vy ry => ⟨env, F1, T, f1, (lift_rw f1 z).imp (fun d z vd F2 H2 g2 r2 => ?_) fun _ _ z => z⟩
        have f2 := f1.grow g2
        cases ha : augD o y d with
        | none => rw [ha] at z; exact z.elim
        | some w =>
          rw [ha] at z
          have z : WS mg e W kk D (match subD x' qd w with | some x' => .nx (env.set i (.own 0 x')) | none => .bad) := z
          cases hz : subD x' qd w with
          | none => rw [hz] at z; exact z.elim
          | some x2 =>
            rw [hz] at z
            refine aug_op (ry H2) r2 ha fun u ru => ?_
            obtain ⟨pp, o', _, ev, hset, f3⟩ := sub_op (X := X) (by omega) f2 q h1 (Rep.up g2 r1) (ru F2) hz
            exact hset _ (z σ F2 _ T f3)
/-! ### t = x.pop(), del x[k] -/
theorem sPop {x : Str} {i : Nat} {tgE : Expr} {tg : Tg} {so : Scope} {p ap cp pos : Pos} (ao : AsOk X so) (ht : mT X.N so tg tgE = true) (n : NmOk X x i) (hl : (ap.endLine == cp.line) = true) :
    OkS mg e W X Φ kk (.Assign [tgE] (.Call (.Attribute (.Name x p) "pop" ap) [] [] cp) pos) (.pop tg i) := by
  have oa : okAsg tgE (.Call (.Attribute (.Name x p) "pop" ap) [] [] cp) = true := by
    rcases mT_name ht with ⟨_, _, _, _, ee, _⟩ | ⟨_, _, _, _, _, ee, _⟩ <;> (subst ee; rfl)
  obtain ⟨h1, h2, h3⟩ := okAsg_is (l := pos.line) (env := X.env) oa
  refine PS.of (ps_asg (pe_bm0 PySem.F.plainAttrs_list PySem.F.slot_list_pop (by show builtinType _ = _; rw [builtinType_eq_fast]; kernel_rfl) (id := "list.pop") mt_pop n.pe (by rfl) hl) (ok_tg (mg := mg) (e := e) ao ht) h1 h2 h3) fun D σ H ⟨env, F, T, f, h⟩ => ?_
  obtain ⟨d, q, h⟩ := ownAt_inv h
  cases d with
  | lst xs =>
    obtain ⟨v, hv, r⟩ := f.own i 0 _ q
    obtain ⟨a, vs, ev, hF, hp, hr, hS⟩ := inv_lst r
    subst ev
    have h : WS mg e W kk D (match xs.getLast? with | some y => optS (bindT tg y (env.set i (.own 0 (.lst xs.dropLast)))) | none => .bad) := h
    cases hy : xs.getLast? with
    | none => rw [hy] at h; exact h.elim
    | some y =>
      rw [hy] at h
      obtain ⟨env', e1, h⟩ := WS.opt h
      have hg : xs[xs.length - 1]? = some y := by rw [← List.getLast?_eq_getElem?]; exact hy
      obtain ⟨w, e2, rw2⟩ := hr.get hg
      have hdl : Reps mg F vs.dropLast xs.dropLast := by
        rw [List.dropLast_eq_take, List.dropLast_eq_take, hr.length]
        exact Reps.take _ hr
      refine ⟨.ref a, hv, .inl ⟨rfl, vs, SqL.of hp⟩, a, vs, w, rfl, rfl, hp, by rw [hr.length]; exact e2, ?_⟩
      refine ⟨_, F, T, y, env', f.put q hv (by rw [hS]; exact List.mem_singleton.mpr rfl) (d' := .lst xs.dropLast) (o := .lst vs.dropLast) ?_, rw2, e1, fun σ' _ f' => h σ' F _ T f'⟩
      rw [hS]
      exact own_lst hF upd_same hdl
  | _ => exact h.elim
theorem drop_reps {k : Key} : ∀ {ks : List Key} {vs : List V} {ds : List D}, ks.length = vs.length → Reps mg H vs ds → ∃ vs', dropK (ks.zip vs) k = (dropD k ks ds).1.zip vs' ∧ (dropD k ks ds).1.length = vs'.length ∧ Reps mg H vs' (dropD k ks ds).2
  | [], vs, ds, hl, r => ⟨[], rfl, rfl, Reps.nil⟩
  | j :: js, [], ds, hl, r => by simp at hl
  | j :: js, v :: vs, [], hl, r => by unfold Reps at r; cases r
  | j :: js, v :: vs, d :: ds, hl, r => by
    unfold Reps at r
    obtain ⟨w, t, e1, a, b⟩ := r
    cases e1
    obtain ⟨vs', e2, l2, r2⟩ := drop_reps (k := k) (by simpa using hl) b
    unfold dropK at e2 ⊢
    rw [List.zip_cons_cons, List.filter_cons]
    unfold dropD
    by_cases q : j = k
    · rw [if_pos q]
      rw [if_neg (by simp [q])]
      exact ⟨vs', e2, l2, r2⟩
    · rw [if_neg q]
      rw [if_pos (by simp [q]), e2]
      exact ⟨v :: vs', rfl, by simp [l2], Reps.cons a r2⟩
theorem PS.or {st : Stmt} {t u : TS} (h : PS X st t) (h' : PS X st u) : PS X st (fun D σ H => t D σ H ∨ u D σ H) := ⟨fun pins s σ H D I q => q.elim (h.run pins s σ H D I) (h'.run pins s σ H D I)⟩
theorem ixN_seqI {n : Nat} {i : Int} {j : Nat} (h : ixN n i = some j) : seqIndex? i n = some j := (ixN_seq h).1
theorem sDel {x : Str} {i : Nat} {kx : Expr} {K : Mp.E} {p tp pos : Pos} (n : NmOk X x i) (okk : OkE mg e W X Φ kx K) : OkS mg e W X Φ kk (.Delete [.Subscript (.Name x p) kx tp] pos) (.del i K) := by
  refine PS.of (PS.or (ps_delL n.pe okk.brw) (ps_ddel n.pe okk.brw)) fun D σ H ⟨env, F, T, f, h⟩ => ?_
  obtain ⟨d, q, h⟩ := ownAt_inv h
  obtain ⟨v, h1, r⟩ := f.own i 0 _ q
  cases d with
  | lst xs =>
    refine .inl ⟨v, h1, env, F, T, f, (lift_rw f h).imp (fun qd z vk F1 H1 g1 r1 => ?_) fun _ _ z => z⟩
    have f1 := f.grow g1
    obtain ⟨a, vs, ev, hF, hp, hr, hS⟩ := inv_lst (RepN.grow g1 1 r)
    subst ev
    cases qd with
    | int j =>
      have z : WS mg e W kk D (if j.natAbs < 2 ^ 63 then match delI xs j with | some ys => .nx (env.set i (.own 0 (.lst ys))) | none => .bad else .bad) := z
      split at z
      · rename_i hj0
        have hj : -(2 ^ 63) ≤ j ∧ j < 2 ^ 63 := ⟨by omega, by omega⟩
        have z : WS mg e W kk D (match (ixN xs.length j).map (fun j => xs.eraseIdx j) with | some ys => .nx (env.set i (.own 0 (.lst ys))) | none => .bad) := z
        cases hi : ixN xs.length j with
        | none => rw [hi] at z; exact z.elim
        | some m =>
          rw [hi] at z
          have er : ∀ {vs : List V} {xs : List Mp.D} (m : Nat), Reps mg F1 vs xs → Reps mg F1 (vs.eraseIdx m) (xs.eraseIdx m) := fun {vs xs} m r => by
            rw [List.eraseIdx_eq_take_drop_succ, List.eraseIdx_eq_take_drop_succ]
            exact Reps.append (Reps.take _ r) (Reps.drop _ r)
          refine ⟨a, vs, j, m, rfl, rep_int r1, hp, hj.1, hj.2, by rw [hr.length]; exact ixN_seqI hi, z σ F1 _ T (f1.put q h1 (by rw [hS]; exact List.mem_singleton.mpr rfl) ?_)⟩
          rw [hS]
          exact own_lst hF upd_same (er m hr)
      · exact z.elim
    | _ => exact z.elim
  | dK ks ds =>
    refine .inr ⟨v, h1, env, F, T, f, (lift_rw f h).imp (fun qd z vk F1 H1 g1 r1 => ?_) fun _ _ z => z⟩
    have f1 := f.grow g1
    obtain ⟨a, vs, ev, hF, hl, hp, hr, hS⟩ := inv_dK (RepN.grow g1 1 r)
    subst ev
    have z : WS mg e W kk D (match keyD qd with | some k => if hasK k ks then .nx (env.set i (.own 0 (.dK (dropD k ks ds).1 (dropD k ks ds).2))) else .bad | none => .bad) := z
    cases hk : keyD qd with
    | none => rw [hk] at z; exact z.elim
    | some k =>
      rw [hk] at z
      cases hh : hasK k ks with
      | false => simp only [hh] at z; exact z.elim
      | true =>
        simp only [hh, if_true] at z
        obtain ⟨vs', e2, l2, r2⟩ := drop_reps (k := k) hl hr
        refine ⟨a, _, k, rfl, hp, key_rep hk r1, by rw [has_val hl]; exact hh, z σ F1 _ T (f1.put q h1 (by rw [hS]; exact List.mem_singleton.mpr rfl) ?_)⟩
        rw [hS, e2]
        exact own_dK hF l2 upd_same r2
  | _ =>
    refine .inl ⟨v, h1, env, F, T, f, (lift_rw f h).imp (fun qd z vk F1 H1 g1 r1 => z.elim) fun _ _ z => z⟩
end
end Mp
/-! pairs, fields, loops -/
namespace Mp
open PySem PySem.Spec PyProof.Rows L2 PySem.SeqAt

section
variable {mg : Gd} {e : Ent} {env env' : Sls} {F F' F1 H H' H1 : Hp} {σ : L2.St} {T : Nat → List Addr} {W : WX} {α β : Type} {X : Cx} {Φ : String → List D → R D} {kk : Nat} {De : Ends}
/-- a statement that is not reached -/
theorem sNev {st : Stmt} : OkS mg e W X Φ kk st .nev := ⟨fun pins s σ H D I ⟨env, F, T, f, h⟩ => (show False from h).elim⟩
theorem swap_two {env : Env} {x y : Str} {px py pt pt2 : Pos} {kt k2 : Nat} {a b : Expr} (hk : env.scope.kind = .function) (hx : env.scope.names.lookup x = some .local) (hy : env.scope.names.lookup y = some .local) (hn : (x == y) = false) (hl : (py.line == px.line) = true)
    (h1 : plainE a = true) (h2 : plainE b = true) (h3 : [a, b].all (foldedForSure 8) = false) (h4 : [a, b].all (constantsAlone 8) = false) : swappedStores [.Tuple [.Name x px, .Name y py] kt pt] (.Tuple [a, b] k2 pt2) env = pure (some [x, y]) := by
  have hb : env.blockKind = .function := by unfold Env.blockKind; rw [hk]; rfl
  have kx : env.kindOf x = some .local := hx
  have ky : env.kindOf y = some .local := hy
  have hl' : py.line = px.line := by simpa using hl
  have hyx : (y == x) = false := by
    rw [beq_eq_false_iff_ne] at hn ⊢
    exact fun z => hn z.symm
  unfold swappedStores
  dsimp only
  have e1 : (!([Expr.Name x px, Expr.Name y py].length == 2 || [Expr.Name x px, Expr.Name y py].length == 3) || [a, b].length != [Expr.Name x px, Expr.Name y py].length || env.blockKind != .function) = false := by rw [hb]; rfl
  have e4 : ([x, y].length != [Expr.Name x px, Expr.Name y py].length || [x, y].eraseDups.length != [x, y].length) = false := by
    have : [x, y].eraseDups = [x, y] := by simp [List.eraseDups, List.eraseDupsBy, List.eraseDupsBy.loop, hyx, hn]
    rw [this]; rfl
  rw [if_neg (by rw [e1]; decide)]
  rw [if_neg (by cases a <;> first | exact absurd h1 Bool.false_ne_true | (cases b <;> first | exact absurd h2 Bool.false_ne_true | exact Bool.false_ne_true))]
  have q1 : (env.kindOf x == some .local && px.line == px.line) = true := by rw [kx]; simp
  have q2 : (env.kindOf y == some .local && py.line == px.line) = true := by rw [ky, hl']; simp
  simp only [List.filterMap_cons, List.filterMap_nil, List.head?_cons, Option.map_some, Option.getD_some, Expr.pos, q1, q2, if_true]
  rw [if_neg (by rw [e4]; decide), if_neg (by rw [h3]; decide), if_neg (by rw [h4]; decide)]
theorem sPar {x y : Str} {i j : Nat} {a b : Expr} {A B : Mp.E} {px py pt pt2 pos : Pos} {kt k2 : Nat} (hc : X.calm = true) (nd : X.N.Nodup) (hi : X.N[i]? = some x) (hj : X.N[j]? = some y) (hx : X.env.scope.names.lookup x = some .local) (hy : X.env.scope.names.lookup y = some .local)
    (oka : OkE mg e W X Φ a A) (okb : OkE mg e W X Φ b B) (hk : X.env.scope.kind = .function) (hn : (x == y) = false) (hl : (py.line == px.line) = true) (h3 : [a, b].all (foldedForSure 8) = false) (h4 : [a, b].all (constantsAlone 8) = false) :
    OkS mg e W X Φ kk (.Assign [.Tuple [.Name x px, .Name y py] kt pt] (.Tuple [a, b] k2 pt2) pos) (.par i j A B) := by
  have hij : i ≠ j := fun z => by
    subst z
    rw [hi] at hj
    have : x = y := Option.some.inj hj
    rw [this, beq_self_eq_true] at hn
    cases hn
  have pa : PA X [a, b] (tCons (rdX mg e W (bor A) (fun env => ev Φ A false env)) (tCons (rdX mg e W (bor B) (fun env => ev Φ B false env)) tNil)) := pa_cons oka.x (pa_cons okb.x pa_nil (plain_star okb.pl)) (plain_star oka.pl)
  refine PS.of (ps_par hc nd hi hj hij hx hy pa (swap_two hk hx hy hn hl oka.pl okb.pl h3 h4) (by rfl)) fun D σ H ⟨env, F, T, f, h⟩ => ?_
  have h1 := lift_rw f h
  cases hba : bor A with
  | true =>
    refine ⟨env, F, T, f, h1.imp (fun d z v F1 H1 g1 r => ?_) fun _ _ z => z⟩
    cases hbb : bor B with
    | true => exact ⟨env, F1, T, f.grow g1, (lift_rw (f.grow g1) z).imp (fun d2 z2 v2 F2 H2 g2 r2 => by rw [hba] at z2; simp only [Bool.true_or, if_true] at z2; exact z2.elim) fun _ _ z => z⟩
    | false => exact ⟨env, F1, T, f.grow g1, (lift_rw (f.grow g1) z).imp (fun d2 z2 v2 F2 H2 S2 g2 r2 fr2 => by rw [hba] at z2; simp only [Bool.true_or, if_true] at z2; exact z2.elim) fun _ _ z => z⟩
  | false =>
    refine ⟨env, F, T, f, h1.imp (fun d z v F1 H1 S g1 r fr => ?_) fun _ _ z => z⟩
    cases hbb : bor B with
    | true => exact ⟨env, F1, T, f.grow g1, (lift_rw (f.grow g1) z).imp (fun d2 z2 v2 F2 H2 g2 r2 => by rw [hbb] at z2; simp only [Bool.true_or, Bool.or_true, if_true] at z2; exact z2.elim) fun _ _ z => z⟩
    | false =>
      refine ⟨env, F1, T, f.grow g1, (lift_rw (f.grow g1) z).imp (fun d2 z2 v2 F2 H2 S2 g2 r2 fr2 => ?_) fun _ _ z => z⟩
      refine ⟨v, v2, rfl, ?_⟩
      have z2 : WS mg e W kk D (if (bor A || bor B || !decide (i < env.length) || !decide (j < env.length) || decide (i = j)) = true then RS.bad else RS.nx ((env.set i (.val d)).set j (.val d2))) := z2
      rw [hba, hbb, decide_eq_false hij] at z2
      by_cases hi' : i < env.length
      · by_cases hj' : j < env.length
        · rw [decide_eq_true hi', decide_eq_true hj', if_neg (by decide)] at z2
          have f2 := (f.grow g1).grow g2
          exact z2 _ F2 H2 T ((f2.set hi' (Rep.grow g2 r.2)).set (by rw [List.length_set]; exact hj') r2.2)
        · rw [decide_eq_false hj'] at z2; simp at z2; exact z2.elim
      · rw [decide_eq_false hi'] at z2; simp at z2; exact z2.elim
/-! ### self.f = e -/
theorem putF_zip {n : Nat} {nm : Str} {y : V} : ∀ {ns : List Str} {vs : List V} {m : Nat}, ns.Nodup → ns[m]? = some nm → m ≤ vs.length → vs.length ≤ ns.length →
    ∃ ws, putF nm y (ns.zip vs) = ns.zip ws ∧ ws = (if m < vs.length then vs.set m y else vs ++ [y])
  | [], vs, m, _, h, _, _ => by simp at h
  | k :: ns, [], 0, nd, h, _, _ => by
    simp at h; subst h
    exact ⟨[y], by simp [putF], rfl⟩
  | k :: ns, [], m + 1, nd, h, hm, _ => by simp at hm
  | k :: ns, v :: vs, 0, nd, h, _, _ => by
    simp at h; subst h
    refine ⟨y :: vs, ?_, by simp⟩
    simp [putF]
  | k :: ns, v :: vs, m + 1, nd, h, hm, hl => by
    rw [List.nodup_cons] at nd
    have h : ns[m]? = some nm := by simpa using h
    have ne : k ≠ nm := fun z => nd.1 (z ▸ List.mem_of_getElem? h)
    obtain ⟨ws, e1, e2⟩ := putF_zip (n := n) (y := y) nd.2 h (by simpa using hm) (by simpa using hl)
    refine ⟨v :: ws, ?_, ?_⟩
    · rw [List.zip_cons_cons, List.zip_cons_cons]
      unfold putF
      rw [if_neg ne, e1]
    · subst e2
      by_cases q : m < vs.length
      · rw [if_pos q, if_pos (by simpa using q)]; rfl
      · rw [if_neg q, if_neg (by simpa using q)]; rfl
theorem sSat {c : String} {m : Nat} {nm x : Str} {i : Nat} {ex : Expr} {E : Mp.E} {p tp pos : Pos} (fo : FldOk mg X c) (hn : (mg.cf c)[m]? = some nm) (hlen : (mg.cf c).length < 1000) (n : NmOk X x i) (ok : OkE mg e W X Φ ex E) (nc : noComp ex = true) :
    OkS mg e W X Φ kk (.Assign [.Attribute (.Name x p) nm tp] ex pos) (.sat c m i E) := by
  cases hb : bor E with
  | true =>
    refine PS.of (ps_fld n.pe ok.brw (noComp_sw nc)) fun D σ H ⟨env, F, T, f, h⟩ => ⟨env, F, T, f, (lift_rw f h).imp (fun d z v F1 H1 g1 r => ?_) fun _ _ z => z⟩
    rw [hb] at z; exact z.elim
  | false =>
    refine PS.of (ps_fld n.pe (PE.of (ok.own hb) rdE_zero) (noComp_sw nc)) fun D σ H ⟨env, F, T, f, h⟩ => ⟨env, F, T, f, (lift_rw f h).imp (fun d z y F1 H1 S g1 r fr => ?_) fun _ _ z => z⟩
    rw [hb, if_neg (by decide)] at z
    obtain ⟨x', q, z⟩ := ownAt_inv z
    have f1 := f.grow g1
    obtain ⟨v, h1, r1⟩ := f1.own i 0 _ q
    cases hs : satD c m d x' with
    | none => rw [hs] at z; exact z.elim
    | some y' =>
      rw [hs] at z
      cases x' with
      | obj c' ds =>
        have hs2 : (if c' = c then (if m < ds.length then some (Mp.D.obj c (ds.set m d)) else if m = ds.length then some (.obj c (ds ++ [d])) else none) else none) = some y' := hs
        by_cases hc : c' = c
        · rw [if_pos hc] at hs2
          subst hc
          obtain ⟨pp, C, dx, vs, ev, hF, hFd, hdx, hl, hm, hp, hr, hS⟩ := inv_obj r1
          subst ev
          have hmle : m ≤ vs.length := by
            rw [hr.length]
            by_cases z1 : m < ds.length
            · omega
            · rw [if_neg z1] at hs2
              by_cases z2 : m = ds.length
              · omega
              · rw [if_neg z2] at hs2; cases hs2
          obtain ⟨ws, e1, e2⟩ := putF_zip (n := 0) (y := y) fo.nd hn hmle hl
          have hmlt : m < (mg.cf c').length := (List.getElem?_eq_some_iff.mp hn).1
          have hwl : ws.length ≤ (mg.cf c').length := by
            subst e2
            split
            · rw [List.length_set]; exact hl
            · rw [List.length_append, List.length_singleton]; omega
          have hfin : ∃ ds', y' = .obj c' ds' ∧ Reps mg F1 ws ds' := by
            by_cases z1 : m < ds.length
            · rw [if_pos z1] at hs2; cases hs2
              rw [if_pos (by rw [hr.length]; exact z1)] at e2
              subst e2
              exact ⟨_, rfl, Reps.set m hr r.2⟩
            · rw [if_neg z1] at hs2
              by_cases z2 : m = ds.length
              · rw [if_pos z2] at hs2; cases hs2
                rw [if_neg (by rw [hr.length]; exact z1)] at e2
                subst e2
                exact ⟨_, rfl, Reps.append hr (Reps.one r.2)⟩
              · rw [if_neg z2] at hs2; cases hs2
          obtain ⟨ds', ey, hr'⟩ := hfin
          subst ey
          have hne : dx ≠ pp := fun w => by rw [w, hp] at hdx; cases hdx
          refine ⟨.ref pp, h1, pp, C, dx, _, rfl, hp, fo.cls C hm, fo.no C nm hm (List.mem_of_getElem? hn), by rw [List.length_zip]; omega, z σ F1 _ T (f1.put q h1 (by rw [hS]; exact List.mem_cons_self) ?_)⟩
          rw [hS, e1]
          refine .inr ⟨pp, rfl, hF, by rw [List.nodup_cons]; exact ⟨by rw [List.mem_singleton]; exact fun w => hne w.symm, by simp⟩, .inr (.inr (.inr ⟨c', ds', C, dx, ws, List.replicate ds'.length [], rfl, hwl, hm, hFd, by rw [upd_ne hne]; exact hdx, upd_same, all3_zero _ hr', by rw [flat_rep]⟩))⟩
        · rw [if_neg hc] at hs2; cases hs2
      | _ => cases hs
/-! ### while -/
theorem whl_run {c : Sls → R Bool} {body : Sls → RS} {tc : TT} {tb : TS} (htc : ∀ σ H Q, rdT mg e W c σ H Q → tc σ H Q) (htb : ∀ D σ H, rdS mg e W kk body D σ H → tb D σ H) {n : Nat} {D : Ends} (f : Frm mg e env F σ H T) (h : WS mg e W kk D (whlGo c body n env)) : tWhile tc tb D σ H := by
  refine ⟨fun m σ H => ∃ env F T, Frm mg e env F σ H T ∧ WS mg e W kk D (whlGo c body m env), ⟨n, env, F, T, f, h⟩, ?_⟩
  rintro m σ H ⟨env, F, T, f, h⟩
  cases m with
  | zero => exact h.elim
  | succ m =>
    have h : WS mg e W kk D (liftR (c env) env fun b => if b then match body env with
      | .nx env => whlGo c body m env
      | .ct env => whlGo c body m env
      | .bk env => .nx env
      | r => r
      else .nx env) := h
    refine htc _ _ _ ⟨env, F, T, f, (lift_rw f h).imp (fun b z F1 H1 g1 => ?_) fun _ _ z => z⟩
    have f1 := f.grow g1
    dsimp only
    cases b with
    | false => rw [if_neg (by decide)] at z ⊢; exact z σ F1 H1 T f1
    | true =>
      rw [if_pos rfl] at z ⊢
      refine ⟨fun σ H => ∃ env F T, Frm mg e env F σ H T ∧ WS mg e W kk D (whlGo c body m env), fun σ' H' q => ⟨m, Nat.lt_succ_self m, q⟩, htb _ _ _ ⟨env, F1, T, f1, ?_⟩⟩
      cases hb : body env with
      | nx env2 => rw [hb] at z; exact fun σ F H T f => ⟨env2, F, T, f, z⟩
      | ct env2 => rw [hb] at z; exact fun σ F H T f => ⟨env2, F, T, f, z⟩
      | bk env2 => rw [hb] at z; exact z
      | rt d => rw [hb] at z; exact z
      | exc c x env2 => rw [hb] at z; exact z
      | bad => rw [hb] at z; exact z
theorem sWhl {c : Expr} {C : Mp.E} {b : List Stmt} {B : List S} {pos : Pos} (hp : PassesOwn (model X.prog X.w) X.A X.env X.xe) (hc : OkE mg e W X Φ c C) (hb : OkL mg e W X Φ kk b B) : OkS mg e W X Φ kk (.While c b [] pos) (.whl C B) :=
  PS.of (ps_while hp hc.tes hb) fun D σ H ⟨env, F, T, f, h⟩ => whl_run (fun _ _ _ z => z) (fun _ _ _ z => z) f h
/-! ### for -/
/-- from what stays now on -/
def Ent.at (e : Ent) (F : Hp) : Ent := ⟨F, e.H, e.B, e.P⟩
theorem Frm.into (f0 : Frm mg e env F σ H T) {env2 : Sls} {σ2 : L2.St} {F2 H2 : Hp} {T2 : Nat → List Addr} (f : Frm mg e env2 F2 σ2 H2 T2) (s : Same F F2) : Frm mg (e.at F) env2 F2 σ2 H2 T2 :=
  ⟨f.same, f.le, s, fun a h h' => f.new a (by cases q : e.F a with | none => rfl | some o => have z := f0.ext a o q; rw [show F a = none from h] at z; cases z) h', f.leB, f.len, f.val, f.bor, f.own, f.frs, f.dis, f.pin⟩
theorem Frm.back (f0 : Frm mg e env F σ H T) {env2 : Sls} {σ2 : L2.St} {F2 H2 : Hp} {T2 : Nat → List Addr} (f : Frm mg (e.at F) env2 F2 σ2 H2 T2) : Frm mg e env2 F2 σ2 H2 T2 ∧ Same F F2 :=
  ⟨⟨f.same, f.le, fun a o h => f.ext a o (f0.ext a o h), fun a h h' => by
    cases q : F a with
    | none => exact f.new a q h'
    | some o => exact f0.new a h (by rw [q]; exact fun z => by cases z), f.leB, f.len, f.val, f.bor, f.own, f.frs, f.dis, f.pin⟩, f.ext⟩
theorem WS.at (f0 : Frm mg e env F σ H T) {r : RS} (h : WS mg e W kk De r) : WS mg (e.at F) W kk De r := by
  cases r with
  | nx env2 => exact fun σ2 F2 H2 T2 f => h σ2 F2 H2 T2 (f0.back f).1
  | bk env2 => exact fun σ2 F2 H2 T2 f => h σ2 F2 H2 T2 (f0.back f).1
  | ct env2 => exact fun σ2 F2 H2 T2 f => h σ2 F2 H2 T2 (f0.back f).1
  | rt d =>
    intro v F' H' S g r fr
    refine (show KE mg kk De.rt e.F e.H d from h) v F' H' S ⟨g.same, fun a o z => g.ext a o (f0.ext a o z), fun a z z' => ?_, g.le⟩ r fr
    cases q : F a with
    | none => exact g.new a q z'
    | some o => exact f0.new a z (by rw [q]; exact fun w => by cases w)
  | exc c x env2 => exact fun σ2 F2 H2 T2 C dd f xr => h σ2 F2 H2 T2 C dd (f0.back f).1 xr
  | bad => exact h
/-- bodies, whatever the entry -/
def bAny (mg : Gd) (W : WX) (kk : Nat) (m : Sls → RS) : TS := fun D σ H => ∃ e, rdS mg e W kk m D σ H
theorem for_run {tg : Tg} {J : It} {xs : List D} {body : Sls → RS} {D : Ends} (f : Frm mg e env F σ H T) (hit : IsIt mg F J xs) (h : WS mg e W kk D (forGo (fun d env => bindT tg d env) body xs env)) :
    ∃ Wm : Nat → Nat → L2.St → Hp → Prop, (∃ m, Wm 0 m σ H) ∧ ∀ i m σ H, Wm i m σ H → (J.stop i H ∧ D.nx σ H) ∨ (J.go i H ∧ ∃ N : L2.St → Hp → Prop, (∀ σ' H', N σ' H' → ∃ m', m' < m ∧ Wm (i + 1) m' σ' H') ∧
      ∀ x H', J.yld i H x H' → gAny mg tg x σ H' fun σ2 H2 => bAny mg W kk body { D with nx := N, ct := N, bk := D.nx } σ2 H2) := by
  obtain ⟨G, Y, wk, hG, hY⟩ := hit
  refine for_it wk (tb := bAny mg W kk body) (g := gAny mg tg) (fun i σ H => ∃ env2 F2 T2, Frm mg e env2 F2 σ H T2 ∧ Same F F2 ∧ WS mg e W kk D (forGo (fun d env => bindT tg d env) body (xs.drop i) env2)) ⟨env, F, T, f, fun _ _ z => z, h⟩ ?_ ?_ ?_
  · rintro i σ2 H2 _ ⟨env2, F2, T2, f2, s2, _⟩
    exact hG F2 H2 s2 f2.le
  · rintro i x σ2 H2 H' hi ⟨env2, F2, T2, f2, s2, h2⟩ yy
    obtain ⟨d, hd⟩ : ∃ d, xs[i]? = some d := ⟨xs[i], List.getElem?_eq_getElem hi⟩
    obtain ⟨F3, g3, rx⟩ := hY i x F2 H2 H' d s2 f2.le yy hd
    have hdrop : xs.drop i = d :: xs.drop (i + 1) := by
      rw [List.drop_eq_getElem_cons hi]
      obtain ⟨_, e2⟩ := List.getElem?_eq_some_iff.mp hd
      rw [e2]
    rw [hdrop] at h2
    have h2 : WS mg e W kk D (match bindT tg d env2 with
      | none => .bad
      | some env => match body env with
        | .nx env => forGo (fun d env => bindT tg d env) body (xs.drop (i + 1)) env
        | .ct env => forGo (fun d env => bindT tg d env) body (xs.drop (i + 1)) env
        | .bk env => .nx env
        | r => r) := h2
    have f3 := f2.grow g3
    cases hb : bindT tg d env2 with
    | none => rw [hb] at h2; exact h2.elim
    | some env3 =>
      rw [hb] at h2
      dsimp only at h2
      have s3 : Same F F3 := fun a o z => g3.ext a o (s2 a o z)
      refine ⟨e, env2, F3, T2, d, env3, f3, rx, hb, fun σ3 _ f4 => ⟨e.at F, env3, F3, T2, f.into f4 s3, ?_⟩⟩
      cases hr : body env3 with
      | nx env4 => rw [hr] at h2; exact fun σ F' H T f5 => ⟨env4, F', T, (f.back f5).1, (f.back f5).2, h2⟩
      | ct env4 => rw [hr] at h2; exact fun σ F' H T f5 => ⟨env4, F', T, (f.back f5).1, (f.back f5).2, h2⟩
      | bk env4 => rw [hr] at h2; exact fun σ F' H T f5 => h2 σ F' H T (f.back f5).1
      | rt d2 =>
        rw [hr] at h2
        exact WS.at f (De := D) (r := .rt d2) h2
      | exc c x env4 =>
        rw [hr] at h2
        exact WS.at f (De := D) (r := .exc c x env4) h2
      | bad => rw [hr] at h2; exact h2
  · rintro σ2 H2 ⟨env2, F2, T2, f2, s2, h2⟩
    rw [List.drop_length] at h2
    exact h2 σ2 F2 H2 T2 f2
/-- ends, under the lock -/
def DL (D : Ends) (d : Addr) (ob : Obj) (u : HO) : Ends := ⟨fun σ' H' => H' d = some (.frz ob u) ∧ D.nx σ' (upd H' d u), fun v H' => H' d = some (.frz ob u) ∧ D.rt v (upd H' d u), fun σ' H' => H' d = some (.frz ob u) ∧ D.bk σ' (upd H' d u), fun σ' H' => H' d = some (.frz ob u) ∧ D.ct σ' (upd H' d u)⟩
theorem WS.lock {d : Addr} {u : HO} {ob : Obj} (lk : Lk e d u) (l : lockable u = true) {r : RS} (h : WS mg e W kk De (noXS r)) : WS mg (e.lock d ob u) W kk (DL De d ob u) r := by
  cases r with
  | nx env2 => exact fun σ2 F2 H2 T2 f => ⟨(f.unlock lk l).2.1, h σ2 _ _ T2 (f.unlock lk l).2.2⟩
  | bk env2 => exact fun σ2 F2 H2 T2 f => ⟨(f.unlock lk l).2.1, h σ2 _ _ T2 (f.unlock lk l).2.2⟩
  | ct env2 => exact fun σ2 F2 H2 T2 f => ⟨(f.unlock lk l).2.1, h σ2 _ _ T2 (f.unlock lk l).2.2⟩
  | rt d2 =>
    intro v F' H' S g r fr
    have hF : F' d = some (.frz ob u) := g.ext d _ (show upd e.F d _ d = _ from upd_same)
    have hH : H' d = some (.frz ob u) := g.same d _ (show upd e.H d _ d = _ from upd_same)
    refine ⟨hH, (show KE mg kk De.rt e.F e.H d2 from h) v (upd F' d u) (upd H' d u) S ⟨fun a o z => ?_, fun a o z => ?_, fun a z z' => ?_, fun a o z => ?_⟩ (RepN.unlock l hF r) fun a m => ?_⟩
    · by_cases q : a = d
      · subst q; rw [upd_same, lk.h o z]
      · rw [upd_ne q]; exact g.same a o (by show upd e.H d _ a = _; rw [upd_ne q]; exact z)
    · by_cases q : a = d
      · subst q; rw [upd_same, lk.f o z]
      · rw [upd_ne q]; exact g.ext a o (by show upd e.F d _ a = _; rw [upd_ne q]; exact z)
    · by_cases q : a = d
      · subst q; exact lk.n z
      · rw [upd_ne q] at z'
        have w : upd e.H d (.frz ob u) a = none := g.new a (by show upd e.F d _ a = _; rw [upd_ne q]; exact z) z'
        rw [upd_ne q] at w; exact w
    · by_cases q : a = d
      · subst q; rw [upd_same] at z ⊢; exact z
      · rw [upd_ne q] at z ⊢; exact g.le a o z
    · have w : upd e.H d (.frz ob u) a = none := fr a m
      have q : a ≠ d := fun z => by rw [z, upd_same] at w; cases w
      rw [upd_ne q] at w; exact w
  | exc c x env2 => exact h.elim
  | bad => exact h
theorem WS.ends {D D' : Ends} (hn : ∀ σ H, D.nx σ H → D'.nx σ H) (hr : ∀ v H, D.rt v H → D'.rt v H) (hb : ∀ σ H, D.bk σ H → D'.bk σ H) (hc : ∀ σ H, D.ct σ H → D'.ct σ H) {r : RS} (h : WS mg e W kk D r) : WS mg e W kk D' r := by
  cases r with
  | nx env2 => exact fun σ2 F2 H2 T2 f => hn _ _ (h σ2 F2 H2 T2 f)
  | bk env2 => exact fun σ2 F2 H2 T2 f => hb _ _ (h σ2 F2 H2 T2 f)
  | ct env2 => exact fun σ2 F2 H2 T2 f => hc _ _ (h σ2 F2 H2 T2 f)
  | rt d => exact fun v F' H' S g r fr => hr _ _ ((show KE mg kk D.rt e.F e.H d from h) v F' H' S g r fr)
  | exc c x env2 => exact h
  | bad => exact h
theorem WS.unl {D : Ends} {r : RS} (h : WS mg e W kk D r) : WS mg e W kk (UnlD X D) r := h.ends (D' := UnlD X D) (fun _ _ z => Or.inl z) (fun _ _ z => Or.inl z) (fun _ _ z => Or.inl z) (fun _ _ z => Or.inl z)
theorem sFor {tgE iter : Expr} {b : List Stmt} {tg : Tg} {ik : Ik} {it : List Mp.E} {B : List S} {so : Scope} {pos : Pos} (hp : PassesOwn (model X.prog X.w) X.A X.env X.xe) (hc : X.calm = true) (ao : AsOk X so) (hit : ∀ e, ItOk mg e W X Φ tgE ik it iter) (ht : mT X.N so tg tgE = true) (hb : ∀ e, OkL mg e W X Φ kk b B) :
    OkS mg e W X Φ kk (.For tgE iter b [] pos) (.for tg ik it B) := by
  have rule : PS X (.For tgE iter b [] pos) (tFor (anyPI X tgE iter) (gAny mg tg) (bAny mg W kk (exL Φ kk B))) :=
    ps_for hp hc (anyPI_ok _ _) ⟨fun pins s σ H v u Q I r ⟨e, q⟩ => (ok_tg (mg := mg) (e := e) ao ht).run pins s σ H v u Q I r q⟩ ⟨fun pins s σ H D I ⟨e, q⟩ => (hb e).run pins s σ H D I q⟩ (fun y => plain_fold (hit e).plain)
  refine PS.of (ps_unl rule) fun D σ H ⟨env, F, T, f, h⟩ => ?_
  have h : WS mg e W kk D (liftR (seqR (evs Φ it false env) >>= fun ds => ofO (iterD ik ds) >>= fun xs => okIf (!(it.any bor)) (.ok (ds.any isDct, xs))) env fun p =>
      if p.1 then noXS (forGo (fun d env => bindT tg d env) (fun env => exL Φ kk B env) p.2 env) else forGo (fun d env => bindT tg d env) (fun env => exL Φ kk B env) p.2 env) := h
  have h1 := lift_rw f h
  have noX_ws : ∀ {r : RS}, WS mg e W kk D (noXS r) → WS mg e W kk D r := fun {r} h => by cases r <;> first | exact h | exact h.elim
  have h2 : RW (seqR (evs Φ it false env) >>= fun ds => ofO (iterD ik ds) >>= fun xs => okIf (!(it.any bor) && true) ((fun b xs => .ok (b, xs)) (ds.any isDct) xs)) (fun p => WS mg e W kk D (if p.1 then noXS (forGo (fun d env => bindT tg d env) (fun env => exL Φ kk B env) p.2 env) else forGo (fun d env => bindT tg d env) (fun env => exL Φ kk B env) p.2 env)) (EX mg W σ F H) := by
    rw [Bool.and_true]; exact h1
  have go := @it_go mg e env F H σ T W (Bool × List Mp.D) X Φ tgE iter ik it (hit e) f (fun _ _ p => WS mg e W kk D (if p.1 then noXS (forGo (fun d env => bindT tg d env) (fun env => exL Φ kk B env) p.2 env) else forGo (fun d env => bindT tg d env) (fun env => exL Φ kk B env) p.2 env)) (fun _ _ _ _ _ _ z => z) (fun _ => true) (fun b xs => .ok (b, xs))
  refine go h2 (fun J F1 H1 b xs g1 _ hJ h => ?_) (fun J F1 H1 xs a ob u g1 _ hF hH lu nf hJ h => ?_)
  · refine for_run (f.grow g1) hJ (WS.unl ?_)
    have h : WS mg e W kk D (if b then noXS (forGo (fun d env => bindT tg d env) (fun env => exL Φ kk B env) xs env) else forGo (fun d env => bindT tg d env) (fun env => exL Φ kk B env) xs env) := h
    cases b with
    | true => rw [if_pos rfl] at h; exact noX_ws h
    | false => rw [if_neg (by decide)] at h; exact h
  · have h : WS mg e W kk D (if true then noXS (forGo (fun d env => bindT tg d env) (fun env => exL Φ kk B env) xs env) else forGo (fun d env => bindT tg d env) (fun env => exL Φ kk B env) xs env) := h
    rw [if_pos rfl] at h
    exact for_run ((f.grow g1).lock ob hF hH lu) hJ (WS.ends (D := DL D a ob u) (D' := UnlD X D) (fun σ H z => Or.inr ⟨a, ob, u, z.1, nf, z.2⟩) (fun v H z => Or.inr ⟨a, ob, u, z.1, nf, z.2⟩) (fun σ H z => Or.inr ⟨a, ob, u, z.1, nf, z.2⟩) (fun σ H z => Or.inr ⟨a, ob, u, z.1, nf, z.2⟩) (WS.lock ((f.grow g1).lk hF hH) lu h))
end
end Mp
/-! a name takes a comprehension -/
namespace Mp
open PySem PySem.Spec PyProof.Rows L2 PySem.SeqAt

section
variable {mg : Gd} {e : Ent} {env env' : Sls} {F F' F1 H H' H1 : Hp} {σ : L2.St} {T : Nat → List Addr} {W : WX} {α β : Type} {X : Cx} {Φ : String → List D → R D} {kk : Nat} {De : Ends}
/-- name = {..} on one line, the name a local -/
theorem ps_setDc {i : Nat} {y : Str} {py : Pos} {kx vx tg iter : Expr} {ifs : List Expr} {scope : Scope} {own : List (Str × Nat)} {pos spos : Pos} {wi : TI} {g : TG} {tt : TT} {tk tv : TE} (hc : X.calm = true) (hN : X.N.Nodup) (hy : X.N[i]? = some y) (hyl : X.env.scope.names.lookup y = some .local)
    (hsw : swapsWith (.DictComp kx vx [⟨tg, iter, ifs, 0⟩] scope pos) (some (.Name y py)) spos.line X.env = pure true) (hi : PI X tg iter wi) (ok : BlkOk X.N X.env.scope scope own)
    (hg : ∀ (s : Shared) (H : Hp) (C : Addr) (cl : List (Str × Addr)) (fp : List Addr), PG (X.blk s H scope (compEnvC scope cl C X.env) fp) tg g) (ht : ∀ (s : Shared) (H : Hp) (C : Addr) (cl : List (Str × Addr)) (fp : List Addr), PTs (X.blk s H scope (compEnvC scope cl C X.env) fp) ifs tt)
    (hk : ∀ (s : Shared) (H : Hp) (C : Addr) (cl : List (Str × Addr)) (fp : List Addr), PE (X.blk s H scope (compEnvC scope cl C X.env) fp) kx tk)
    (he : ∀ (s : Shared) (H : Hp) (C : Addr) (cl : List (Str × Addr)) (fp : List Addr), PE (X.blk s H scope (compEnvC scope cl C X.env) fp) vx tv) (hs : ∀ x, foldedSetIterable iter X.env x = pure x) :
    PS X (.Assign [.Name y py] (.DictComp kx vx [⟨tg, iter, ifs, 0⟩] scope pos) spos) (tAsg (tDc wi g tt tk tv (own.map (·.2))) (gName i)) := by
  refine ⟨fun pins s σ H D I h => ?_⟩
  rw [exec_Assign_Name_used _ _ _ _ hsw]
  refine wpAny_bind (wpAny_standAt (wpAny_bind ?_))
  show wpAny _ X.A (do let _ ← comprehension (.DictComp kx vx [⟨tg, iter, ifs, 0⟩] scope pos) scope X.env (firstIterPos [⟨tg, iter, ifs, 0⟩] pos) newDict false (eval iter X.env) (some (assign (.Name y py) X.env))) _ _ s
  have h : tDc wi g tt tk tv (own.map (·.2)) σ H (fun x H1 => gName i x σ H1 D.nx) := h
  refine wpAny_bind (thn (dc_core (Qf := fun _ s' => SP X pins D .next s') hc hN I hi ok hg ht hk he hs h fun L C s' m H' I' q hn f => ?_) fun _ s' hq => wpAny_pure (wpAny_pure hq))
  show wpAny _ _ (assign (.Name y py) X.env (.ref L)) _ _ _
  refine wpAny_assign_Name (store_ok2 (v := V.ref L) I' hN hy (.inl hyl) rfl (fun s2 I2 ⟨a, sb, ha⟩ => ?_) (.inr hyl))
  obtain ⟨f0, f1, f2, f3, f4, f5⟩ := f
  have haC : C ≠ a := by
    rcases ha with z | z
    · rw [z]; exact f1
    · exact fun e => f4 y a z e.symm
  refine ⟨m, hn.sameBut sb haC, fun h3 sb3 => ?_⟩
  exact ⟨_, H', I2.turned (t' := s2.toks) (fun b o hb e => (sb3.2 b hb).trans e) f0 f1 f3 f4 f5, q⟩
theorem sw_trueD {kx vx : Expr} {gs : List Comprehension} {scope : Scope} {pos py : Pos} {y : Str} {l : Nat} {env : Env} (hk : env.scope.kind = .function) (hy : env.scope.names.lookup y = some .local) (hl : (py.line == pos.line) = true)
    (ha : (scope.names.any fun (n, k) => n == y && (k == .local || k == .cell)) = false) : swapsWith (.DictComp kx vx gs scope pos) (some (.Name y py)) l env = pure true := by
  have ky : env.kindOf y = some .local := hy
  have hb : env.blockKind = .function := by unfold Env.blockKind; rw [hk]; rfl
  unfold swapsWith
  simp only [hb, ky, ha, Expr.pos, hl]
  rfl
/-- the name of slot i takes the value -/
def rdA1 (mg : Gd) (e : Ent) (W : WX) (i : Nat) (m : Sls → R Mp.D) (k : Nat) : TS := fun D σ H => rdE mg e W m k σ H (fun x H1 => D.nx (σ.set i (some x)) H1)
theorem grow_froze {k : Nat} {v : V} {d : Mp.D} {S : List Addr} (g : Grow F H F1 H1) (r : RepN mg k F1 H1 v d S) (fr : ∀ a ∈ S, H a = none) : Grow F H (froze F1 H1 S) H1 ∧ Rep mg (froze F1 H1 S) v d := by
  have hS : ∀ a ∈ S, F1 a = none := fun a m => (RepN.at k r a m).1
  refine ⟨⟨g.same, fun a o z => froze_ext hS a o (g.ext a o z), fun a z z' => ?_, froze_le g.le S⟩, RepN.frozen k r (fun _ z => z) hS⟩
  by_cases m : a ∈ S
  · exact fr a m
  · rw [froze_out m] at z'; exact g.new a z z'
theorem setA {i : Nat} {E : Mp.E} {st : Stmt} (hb : bor E = false) (h : PS X st (rdA1 mg e W i (fun env => ev Φ E false env) (kd E))) : OkS mg e W X Φ kk st (.set (.nm i) E) := by
  refine PS.of h fun D σ H ⟨env, F, T, f, h⟩ => ⟨env, F, T, f, (lift_rw f h).imp (fun d z v F1 H1 S g1 r fr => ?_) fun _ _ z => z⟩
  rw [hb, if_neg (by decide)] at z
  obtain ⟨env', e1, z⟩ := WS.opt z
  have e1 : (if i < env.length then some (env.set i (.val d)) else none) = some env' := by unfold bindT at e1; exact e1
  split at e1
  · rename_i hi
    cases e1
    obtain ⟨g2, r2⟩ := grow_froze g1 r fr
    exact z _ _ H1 T ((f.grow g2).set hi r2)
  · cases e1
theorem ownA {i : Nat} {E : Mp.E} {st : Stmt} (hb : bor E = false) (h : PS X st (rdA1 mg e W i (fun env => ev Φ E false env) (kd E))) : OkS mg e W X Φ kk st (.own i E) := by
  refine PS.of h fun D σ H ⟨env, F, T, f, h⟩ => ⟨env, F, T, f, (lift_rw f h).imp (fun d z v F1 H1 S g1 r fr => ?_) fun _ _ z => z⟩
  cases hk : kd E with
  | zero => rw [hk] at z; exact z.elim
  | succ k =>
    rw [hk] at z r
    have z : WS mg e W kk D (if (bor E || !decide (0 < i ∧ i < env.length)) = true then RS.bad else RS.nx (env.set i (.own k d))) := z
    rw [hb, Bool.false_or] at z
    by_cases hi : 0 < i ∧ i < env.length
    · rw [decide_eq_true hi, if_neg (by decide)] at z
      obtain ⟨k1, k2⟩ := f.fresh fr
      exact z _ F1 H1 _ ((f.grow g1).take hi r k1 fun j l d' _ hj => k2 j l d' hj)
    · rw [decide_eq_false hi, Bool.not_false, if_pos rfl] at z; exact z.elim
theorem asg_lc {i : Nat} {y : Str} {py pos spos : Pos} {elt tgE iter : Expr} {ifs : List Expr} {scope : Scope} {own : List (Str × Nat)} {tg : Tg} {ik : Ik} {it cs : List Mp.E} {x : Mp.E} (hc : X.calm = true) (hN : X.N.Nodup) (hy : X.N[i]? = some y) (hyl : X.env.scope.names.lookup y = some .local) (hk : X.env.scope.kind = .function)
    (hl : (py.line == pos.line) = true) (ha : (scope.names.any fun (n, k) => n == y && (k == .local || k == .cell)) = false) (bk : BlkOk X.N X.env.scope scope own)
    (hit : ∀ e, ItOk mg e W X Φ tgE ik it iter) (ht : mT X.N scope tg tgE = true) (ao : ∀ s H C cl fp, AsOk (blkX X scope s H C cl fp) scope) (hsub : ∀ i ∈ tgs tg, i ∈ own.map (·.2))
    (hcs : ∀ e s H C cl fp, OkEs mg e W0 (blkX X scope s H C cl fp) Φ ifs cs) (hc1 : cs.length ≤ 1) (hx : ∀ e s H C cl fp, OkE mg e W0 (blkX X scope s H C cl fp) Φ elt x) (nb : bor x = false) :
    PS X (.Assign [.Name y py] (.ListComp elt [⟨tgE, iter, ifs, 0⟩] scope pos) spos) (rdA1 mg e W i (fun env => ev Φ (.lc x (own.map (·.2)) tg ik it cs) false env) 1) := by
  have rule : PS X (.Assign [.Name y py] (.ListComp elt [⟨tgE, iter, ifs, 0⟩] scope pos) spos) (tAsg (tLc (anyPI X tgE iter) (gAny mg tg) (tAnyT mg W0 (fun env => allR (evs Φ cs true env))) (tAnyE mg W0 (fun env => ev Φ x false env) 0) (own.map (·.2))) (gName i)) :=
    ps_setLc hc hN hy hyl (sw_true hk hyl hl ha) (anyPI_ok _ _) bk (fun s H C cl fp => ok_tgA (X := blkX X scope s H C cl fp) (ao s H C cl fp) ht)
      (fun s H C cl fp => PTs.any fun e => r_tests hc1 (hcs e s H C cl fp)) (fun s H C cl fp => PE.any fun e => PE.of ((hx e s H C cl fp).own nb) rdE_zero) (fun y => plain_fold (hit e).plain)
  refine PS.of (ps_unl rule) fun D σ H ⟨env, F, T, f, h⟩ => ?_
  have h : RW (seqR (evs Φ it false env) >>= fun ds => ofO (iterD ik ds) >>= fun xs => okIf (!(it.any bor) && decide (xs.length ≤ sizeLine)) (lcGo (fun d => ofO (bindT tg d (wipeE env (own.map (·.2)))) >>= fun env' => noexc (allR (evs Φ cs true env') >>= fun b => if b then ev Φ x false env' >>= fun y => pure (some y) else pure none)) xs >>= fun r => .ok (.lst r))) (KE mg 1 (fun x H1 => D.nx (σ.set i (some x)) H1) F H) (EX mg W σ F H) := h
  show tLc _ _ _ _ _ σ H (Unl X fun x H1 => D.nx (σ.set i (some x)) H1)
  have go := @it_go mg e env F H σ T W Mp.D X Φ tgE iter ik it (hit e) f (KE mg 1 (fun x H1 => D.nx (σ.set i (some x)) H1)) KE.grows (fun xs => decide (xs.length ≤ sizeLine)) (fun _ xs => lcGo (fun d => ofO (bindT tg d (wipeE env (own.map (·.2)))) >>= fun env' => noexc (allR (evs Φ cs true env') >>= fun b => if b then ev Φ x false env' >>= fun y => pure (some y) else pure none)) xs >>= fun r => .ok (.lst r))
  refine go h (fun J F1 H1 _ xs g1 hc hJ h => ?_) (fun J F1 H1 xs a ob u g1 hc hF hH lu nf hJ h => ?_)
  · exact lc_run (f.grow g1) hsub hJ (of_decide_eq_true hc) (fun _ _ _ z => ⟨_, z⟩) (fun _ _ _ z => ⟨_, z⟩) ((RWb h).imp (fun r q => KE.unl q) fun _ _ z => z)
  · exact lc_run ((f.grow g1).lock ob hF hH lu) hsub hJ (of_decide_eq_true hc) (fun _ _ _ z => ⟨_, z⟩) (fun _ _ _ z => ⟨_, z⟩) ((RWb h).imp (fun r q => KE.lock hF hH nf lu q) fun _ _ z => z)
theorem asg_dc {i : Nat} {y : Str} {py pos spos : Pos} {kxE vxE tgE iter : Expr} {ifs : List Expr} {scope : Scope} {own : List (Str × Nat)} {tg : Tg} {ik : Ik} {it cs : List Mp.E} {kx vx : Mp.E} (hc : X.calm = true) (hN : X.N.Nodup) (hy : X.N[i]? = some y) (hyl : X.env.scope.names.lookup y = some .local) (hkf : X.env.scope.kind = .function)
    (hl : (py.line == pos.line) = true) (ha : (scope.names.any fun (n, k) => n == y && (k == .local || k == .cell)) = false) (bk : BlkOk X.N X.env.scope scope own)
    (hit : ∀ e, ItOk mg e W X Φ tgE ik it iter) (ht : mT X.N scope tg tgE = true) (ao : ∀ s H C cl fp, AsOk (blkX X scope s H C cl fp) scope) (hsub : ∀ i ∈ tgs tg, i ∈ own.map (·.2))
    (hcs : ∀ e s H C cl fp, OkEs mg e W0 (blkX X scope s H C cl fp) Φ ifs cs) (hc1 : cs.length ≤ 1) (hk : ∀ e s H C cl fp, OkE mg e W0 (blkX X scope s H C cl fp) Φ kxE kx) (hv : ∀ e s H C cl fp, OkE mg e W0 (blkX X scope s H C cl fp) Φ vxE vx) (nb : bor vx = false) :
    PS X (.Assign [.Name y py] (.DictComp kxE vxE [⟨tgE, iter, ifs, 0⟩] scope pos) spos) (rdA1 mg e W i (fun env => ev Φ (.dc false kx vx (own.map (·.2)) tg ik it cs) false env) 1) := by
  have rule : PS X (.Assign [.Name y py] (.DictComp kxE vxE [⟨tgE, iter, ifs, 0⟩] scope pos) spos) (tAsg (tDc (anyPI X tgE iter) (gAny mg tg) (tAnyT mg W0 (fun env => allR (evs Φ cs true env))) (tAnyB mg W0 (fun env => ev Φ kx false env)) (tAnyE mg W0 (fun env => ev Φ vx false env) 0) (own.map (·.2))) (gName i)) :=
    ps_setDc hc hN hy hyl (sw_trueD hkf hyl hl ha) (anyPI_ok _ _) bk (fun s H C cl fp => ok_tgA (X := blkX X scope s H C cl fp) (ao s H C cl fp) ht)
      (fun s H C cl fp => PTs.any fun e => r_tests hc1 (hcs e s H C cl fp)) (fun s H C cl fp => PE.any fun e => (hk e s H C cl fp).brw) (fun s H C cl fp => PE.any fun e => PE.of ((hv e s H C cl fp).own nb) rdE_zero) (fun y => plain_fold (hit e).plain)
  refine PS.of (ps_unl rule) fun D σ H ⟨env, F, T, f, h⟩ => ?_
  have h : RW (seqR (evs Φ it false env) >>= fun ds => ofO (iterD ik ds) >>= fun xs => okIf (!(it.any bor) && (decide (xs.length ≤ sizeLine) && !false)) (dcGo (fun d => ofO (bindT tg d (wipeE env (own.map (·.2)))) >>= fun env' => noexc (allR (evs Φ cs true env') >>= fun b => if b then ev Φ kx false env' >>= fun k => ofO (keyD k) >>= fun k => ev Φ vx false env' >>= fun y => pure (some (k, y)) else pure none)) xs ([], []) >>= fun r => .ok (.dK r.1 r.2))) (KE mg 1 (fun x H1 => D.nx (σ.set i (some x)) H1) F H) (EX mg W σ F H) := h
  have hcc : ∀ {xs : List Mp.D}, (decide (xs.length ≤ sizeLine) && !false) = true → xs.length ≤ sizeLine := fun h => by rw [Bool.not_false, Bool.and_true] at h; exact of_decide_eq_true h
  show tDc _ _ _ _ _ _ σ H (Unl X fun x H1 => D.nx (σ.set i (some x)) H1)
  have go := @it_go mg e env F H σ T W Mp.D X Φ tgE iter ik it (hit e) f (KE mg 1 (fun x H1 => D.nx (σ.set i (some x)) H1)) KE.grows (fun xs => decide (xs.length ≤ sizeLine) && !false) (fun _ xs => dcGo (fun d => ofO (bindT tg d (wipeE env (own.map (·.2)))) >>= fun env' => noexc (allR (evs Φ cs true env') >>= fun b => if b then ev Φ kx false env' >>= fun k => ofO (keyD k) >>= fun k => ev Φ vx false env' >>= fun y => pure (some (k, y)) else pure none)) xs ([], []) >>= fun r => .ok (.dK r.1 r.2))
  refine go h (fun J F1 H1 _ xs g1 hc hJ h => ?_) (fun J F1 H1 xs a ob u g1 hc hF hH lu nf hJ h => ?_)
  · exact dc_run (f.grow g1) hsub hJ (hcc hc) (fun _ _ _ z => ⟨_, z⟩) (fun _ _ _ z => ⟨_, z⟩) (fun _ _ _ z => ⟨_, z⟩) ((RWb h).imp (fun r q => KE.unl q) fun _ _ z => z)
  · exact dc_run ((f.grow g1).lock ob hF hH lu) hsub hJ (hcc hc) (fun _ _ _ z => ⟨_, z⟩) (fun _ _ _ z => ⟨_, z⟩) (fun _ _ _ z => ⟨_, z⟩) ((RWb h).imp (fun r q => KE.lock hF hH nf lu q) fun _ _ z => z)
end
end Mp
/-! raise, try -/
namespace Mp
open PySem PySem.Spec PyProof.Rows L2 PySem.SeqAt

section
variable {mg : Gd} {e : Ent} {env env' : Sls} {F F' F1 H H' H1 : Hp} {σ : L2.St} {T : Nat → List Addr} {W : WX} {α β : Type} {X : Cx} {Φ : String → List D → R D} {kk : Nat} {De : Ends} {c : String} {x : Option D} {C : Addr} {dd : Option Addr}
theorem seq1 {A : Mp.E} {k : List D → R α} : (seqR (evs Φ [A] false env) >>= k) = (ev Φ A false env >>= fun d => k [d]) := by
  show (seqR [ev Φ A false env] >>= k) = _
  cases ev Φ A false env <;> rfl
theorem seq1' {A : Mp.E} : seqR (evs Φ [A] false env) = (ev Φ A false env >>= fun d => R.ok [d]) := by
  show seqR [ev Φ A false env] = _
  cases ev Φ A false env <;> rfl
/-! ### raise -/
theorem sRaiseA {cs m : Str} {j : Nat} {p p2 pos rpos : Pos} (hx : ExcA X.K C) (hg : Gl X cs) (hm : X.mg cs = some (.ref C)) (hmg : mg.mg c = some (.ref C)) (tk : Takes X W) (hc : X.calm = true) (hdb : (cs == ("__debug__" : Str)) = false) :
    OkS mg e W X Φ kk (.Raise (some (.Call (.Name cs p) [.Constant (.str m) j p2] [] pos)) none rpos) (.raise c []) := by
  obtain ⟨bmB, initId, FB, q, kp, h1, h2⟩ := hx
  exact PS.of (ps_raise hc tk (pmk_own FB q hm kp (raises_own h1 h2) hg hdb)) fun D σ H ⟨env, F, T, f, h⟩ => (show ∀ σ F H T C dd, Frm mg e env F σ H T → ExR mg F H c none C dd → W (.ref C) dd σ H from h) σ F H T C none f ⟨hmg, rfl⟩
theorem passF : Passes (L2.CX X.prog X.w) X (fun _ _ _ => False) := fun _ _ _ _ _ _ _ ⟨_, _, _, _, _, _, _, _, _, _, _, _, z⟩ => z.elim
theorem sRaiseB {cs n : Str} {p pos rpos : Pos} {ex : Expr} {E : Mp.E} (hx : ExcB X.prog X.w X.K X.mg X.base C n) (hcf : mg.cf c = [n]) (hg : Gl X cs) (hm : X.mg cs = some (.ref C)) (hmg : mg.mg c = some (.ref C)) (tk : Takes X W) (hc : X.calm = true) (hdb : (cs == ("__debug__" : Str)) = false)
    (hr : Room 1 X.A) (hb : bor E = false) (ok : OkE mg e W X Φ ex E) : OkS mg e W X Φ kk (.Raise (some (.Call (.Name cs p) [ex] [] pos)) none rpos) (.raise c [E]) := by
  obtain ⟨fI, fd, par, T, _, iC, tI, F1, bd, no⟩ := hx
  have ha : PA X [ex] (tCons (rdE mg e W (fun env => ev Φ E false env) 0) tNil) := pa_cons (PE.of (ok.own hb) rdE_zero |> fun h => PE.of h fun σ H Q z => z) pa_nil (plain_star ok.pl)
  refine PS.of (ps_raise hc tk (pmk_oex T iC tI F1 hr bd .nil passF hg hm ha hdb (plain_star ok.pl) rfl)) fun D σ H ⟨env, F, T0, f, h⟩ => ?_
  refine ⟨env, F, T0, f, ?_⟩
  have h1 := lift_rw f h
  rw [seq1'] at h1
  refine (RW_bind.mp h1).imp (fun d z v F1 H1 S g1 r fr => ?_) fun _ _ z => z
  have z : WS mg e W kk D (if ([E] : List Mp.E).any bor then .bad else .exc c (some d) env) := z
  rw [show ([E] : List Mp.E).any bor = false from by show (bor E || false) = false; rw [hb]; rfl, if_neg (by decide)] at z
  have f1 := f.grow g1
  refine ⟨by show 1 ≤ 1000; decide, fun a na => ⟨a, v, rfl, upd_same, fun dx n1 n2 => ⟨rfl, dx, [(n, v)], upd_same, (upd_ne n2).trans upd_same, (upd_ne n2).symm.trans n1, ?_⟩⟩⟩
  have nd : H1 dx = none := (upd_ne n2).symm.trans n1
  have eH : upd (del (upd (upd (upd H1 a (exo a C none)) dx (exd dx [(n, v)])) a (exo a C (some dx))) a) dx (.xd [(n, v)]) = upd H1 dx (.xd [(n, v)]) := by
    funext b
    by_cases h1 : b = dx
    · rw [h1, upd_same, upd_same]
    · rw [upd_ne h1, upd_ne h1]
      by_cases h2 : b = a
      · rw [h2, del_same, na]
      · rw [del_ne h2, upd_ne h2, upd_ne h1, upd_ne h2]
  rw [eH]
  have g2 : Grow F1 H1 F1 (upd H1 dx (.xd [(n, v)])) := Grow.fresh f1.le nd
  exact (show ∀ σ F H T C dd, Frm mg e env F σ H T → ExR mg F H c (some d) C dd → W (.ref C) dd σ H from z) σ F1 _ T0 C (some dx) (f1.grow g2) ⟨hmg, dx, v, n, rfl, hcf, upd_same, r.2⟩

/-! ### suites -/
theorem ExR.grow (r : ExR mg F H c x C dd) (g : Grow F H F' H') : ExR mg F' H' c x C dd := by
  refine ⟨r.1, ?_⟩
  have r2 := r.2
  cases x with
  | none => exact r2
  | some d =>
    obtain ⟨a, v, n, e1, e2, e3, e4⟩ := r2
    exact ⟨a, v, n, e1, e2, g.same _ _ e3, Rep.grow g e4⟩
/-- an empty slot may hold anything -/
theorem Frm.free (f : Frm mg e env F σ H T) {i : Nat} {v : Option V} (h : env[i]? = some .no) : Frm mg e env F (σ.set i v) H T where
  same := f.same
  le := f.le
  ext := f.ext
  new := f.new
  leB := f.leB
  len := by rw [List.length_set]; exact f.len
  val := fun j d hj => by
    have ne : j ≠ i := fun z => by rw [z, h] at hj; cases hj
    rw [List.getElem?_set_ne (Ne.symm ne)]; exact f.val j d hj
  bor := fun j d hj => by
    have ne : j ≠ i := fun z => by rw [z, h] at hj; cases hj
    rw [List.getElem?_set_ne (Ne.symm ne)]; exact f.bor j d hj
  own := fun j k d hj => by
    have ne : j ≠ i := fun z => by rw [z, h] at hj; cases hj
    rw [List.getElem?_set_ne (Ne.symm ne)]; exact f.own j k d hj
  frs := f.frs
  dis := f.dis
  pin := fun v k d h1 h2 => by
    have ne : 0 ≠ i := fun z => by rw [← z, h2] at h; cases h
    rw [List.getElem?_set_ne (Ne.symm ne)]; exact f.pin v k d h1 h2
/-- the exception stands in its slot -/
def Here (n : Option Nat) (a : Addr) (env : Sls) (σ : L2.St) : Prop := match n with
  | none => True
  | some i => σ[i]? = some (some (.ref a)) ∧ env[i]? = some .no
/-- the reading of a suite's expression -/
def rdHE (mg : Gd) (e : Ent) (n : Option Nat) (a : Addr) (cls : Value) (dd : Option Addr) (m : String → Option D → Sls → Option D) : TE := fun σ H Q => ∃ c x C env F T, cls = .ref C ∧ Frm mg e env F σ H T ∧ ExR mg F H c x C dd ∧ Here n a env σ ∧
  ∃ d, m c x env = some d ∧ ∀ v F' H', Grow F H F' H' → Rep mg F' v d → Q v H'
def rdHA (mg : Gd) (e : Ent) (n : Option Nat) (a : Addr) (cls : Value) (dd : Option Addr) (m : String → Option D → Sls → Option (List D)) : TA := fun σ H Q => ∃ c x C env F T, cls = .ref C ∧ Frm mg e env F σ H T ∧ ExR mg F H c x C dd ∧ Here n a env σ ∧
  ∃ ds, m c x env = some ds ∧ ∀ vs F' H', Grow F H F' H' → Reps mg F' vs ds → Q vs H'
/-- .. of a suite -/
def rdH (mg : Gd) (e : Ent) (W : WX) (kk : Nat) (n : Option Nat) (m : String → Option D → Sls → RS) : Addr → Value → Option Addr → TS := fun a cls dd De σ H => ∃ c x C env F T, cls = .ref C ∧ Frm mg e env F σ H T ∧ ExR mg F H c x C dd ∧ Here n a env σ ∧ WS mg e W kk De (m c x env)
end
end Mp

namespace Mp
open PySem PySem.Spec PyProof.Rows L2 PySem.SeqAt
/-! ### suites and their texts -/
mutual
def mH (tb : Tbl) (N : List Str) (sc : Scope) (n : Option Nat) : HE → Expr → Bool
  | .con d, ex => match ex with
    | .Constant c _ _ => okCon d c
    | _ => false
  | .loc i, ex => match vName ex with
    | some x => okName N sc i x
    | none => false
  | .att cs, ex => match ex with
    | .Attribute o nm _ => (match vName o with
      | some y => (match n with | some i => okName N sc i y | none => false)
      | none => false) && cs.all fun c => match tb.xcs.lookup c with
        | some (some a) => decide (nm = Str.ofString a)
        | _ => false
    | _ => false
  | .isx c ys ns, ex => match vCall ex with
    | some (x, [o, t]) => decide (x = ("isinstance" : Str)) && okGl sc x && (match vName o with
        | some y => (match n with | some i => okName N sc i y | none => false)
        | none => false) && (match vName t with
        | some y => decide (y = (c : Str)) && okGl sc y
        | none => false) && decide ((c, ys, ns) ∈ tb.hnd)
    | _ => false
  | .tup es, ex => match ex with
    | .Tuple xs _ _ => decide (es.length ≤ 9) && mHs tb N sc n es xs
    | _ => false
def mHs (tb : Tbl) (N : List Str) (sc : Scope) (n : Option Nat) : List HE → List Expr → Bool
  | [], xs => xs.isEmpty
  | e :: es, xs => match xs with
    | [] => false
    | x :: xs => mH tb N sc n e x && mHs tb N sc n es xs
end
section
variable {gd : Gd} {tb : Tbl} {Φ : String → List D → R D} {lv : Nat} {N : List Str} {kk : Nat} {sc : Scope} {W : WX} {X : Cx} {e : Ent} {n : Option Nat} {a : Addr} {oe : Obj} {cls : Value} {dd : Option Addr} {pn : List (Addr × Obj)}
theorem RepN.zero {k : Nat} {F H : Hp} {v : V} {d : D} (r : Rep gd F v d) : RepN gd 0 F H v d [] := ⟨rfl, r⟩
/-- the caught exception by its name -/
theorem pe_err (cd : CD gd tb Φ lv N sc W X) {i : Nat} {y : Str} {p : Pos} (h : okName N sc i y = true) : PE (X.suite a ((a, oe) :: pn)) (.Name y p) (tVar i) := by
  obtain ⟨h1, h2, h3, h4⟩ := nm_ok cd h
  exact pe_var h1 h2 h3 h4
theorem hevs_len {c : String} {x : Option D} {env : Sls} : ∀ {es : List HE} {ds : List D}, hevs c x env es = some ds → ds.length = es.length
  | [], ds, h => by cases h; rfl
  | E :: Es, ds, h => by
    have h : ((hev c x env E).bind fun d => (hevs c x env Es).map (d :: ·)) = some ds := by unfold hevs at h; exact h
    cases hd : hev c x env E with
    | none => rw [hd] at h; cases h
    | some d =>
      rw [hd] at h
      cases hs : hevs c x env Es with
      | none => rw [hs] at h; cases h
      | some l => rw [hs] at h; cases h; rw [List.length_cons, List.length_cons, hevs_len hs]
mutual
theorem mH_ok (cd : CD gd tb Φ lv N sc W X) (hz : Zc cls dd oe) (hf : ∃ vs, oe.data = .fields vs) : ∀ (E : HE) {ex : Expr}, mH tb N sc n E ex = true → plainE ex = true ∧ PE (X.suite a ((a, oe) :: pn)) ex (rdHE gd e n a cls dd (fun c x env => hev c x env E))
  | .con d, ex, h => by
    unfold mH at h
    cases ex with
    | Constant c k p =>
      have ok : OkE gd e W (X.suite a ((a, oe) :: pn)) Φ (.Constant c k p) (.con d) := con_ok h
      refine ⟨ok.pl, PE.of (ok.own rfl) fun σ H Q ⟨c', x, C, env, F, T, _, f, _, _, dv, ed, q⟩ => ⟨env, F, T, f, ?_⟩⟩
      have ed : (if isScal d then some d else none) = some dv := by unfold hev at ed; exact ed
      split at ed
      · cases ed
        exact fun v F' H' S g r _ => q v F' H' g r.2
      · cases ed
    | _ => exact absurd h Bool.false_ne_true
  | .loc i, ex, h => by
    unfold mH at h
    cases hv : vName ex with
    | none => rw [hv] at h; cases h
    | some y =>
      rw [hv] at h
      obtain ⟨p, ee⟩ := vName_is hv
      subst ee
      refine ⟨rfl, PE.of (pe_err cd h) fun σ H Q ⟨c', x, C, env, F, T, _, f, _, _, dv, ed, q⟩ => ?_⟩
      have ed : (match env[i]? with | some (.val d) => some d | _ => none) = some dv := by unfold hev at ed; exact ed
      split at ed
      · rename_i d hi
        cases ed
        obtain ⟨v, h1, r⟩ := f.val i _ hi
        exact ⟨v, h1, q v F H (Grow.refl f.le) r⟩
      · cases ed
  | .att cs, ex, h => by
    unfold mH at h
    cases ex with
    | Attribute o nm pos =>
      rw [Bool.and_eq_true] at h
      obtain ⟨h1, h2⟩ := h
      cases hv : vName o with
      | none => rw [hv] at h1; cases h1
      | some y =>
        rw [hv] at h1
        obtain ⟨p, ee⟩ := vName_is hv
        subst ee
        cases n with
        | none => cases h1
        | some i =>
          refine ⟨rfl, ⟨fun pins s σ H Q I ⟨c, x, C, env, F, T, ec, f, r, hh, dv, ed, q⟩ => ?_⟩⟩
          have ed : (if c ∈ cs then x else none) = some dv := by unfold hev at ed; exact ed
          split at ed
          · rename_i hm
            subst ed
            have hx := List.all_eq_true.mp h2 c hm
            cases hl : tb.xcs.lookup c with
            | none => rw [hl] at hx; cases hx
            | some oa =>
              cases oa with
              | none => rw [hl] at hx; cases hx
              | some at' =>
                rw [hl] at hx
                have en := of_decide_eq_true hx
                subst en
                obtain ⟨hcf, C1, _, m2, fI, fd, par, T1, xf, iC, tI, F1, bd, no⟩ := cd.fx.exB c at' (lookup_mem hl)
                obtain ⟨r1, a1, v, m, e1, e2, e3, e4⟩ := r
                rw [m2] at r1; cases r1
                rw [hcf] at e2; cases e2
                subst ec
                exact (pe_xf xf no hz hf (pe_err (p := p) cd h1) rfl).run pins s σ H Q I ⟨.ref a, hh.1, rfl, rfl, a1, _, v, e1, e3, by rw [List.lookup_cons, beq_self_eq_true], q v F H (Grow.refl f.le) e4⟩
          · cases ed
    | _ => exact absurd h Bool.false_ne_true
  | .isx c' ys ns, ex, h => by
    unfold mH at h
    cases hv : vCall ex with
    | none => rw [hv] at h; cases h
    | some q =>
      obtain ⟨x, l⟩ := q
      rw [hv] at h
      obtain ⟨p, pos, ee⟩ := vCall_is hv
      subst ee
      match l, h with
      | [o, t], h =>
        simp only [Bool.and_eq_true, decide_eq_true_eq] at h
        obtain ⟨⟨⟨⟨h1, h2⟩, h3⟩, h4⟩, h5⟩ := h
        subst h1
        cases ho : vName o with
        | none => rw [ho] at h3; cases h3
        | some y =>
          rw [ho] at h3
          cases ht : vName t with
          | none => rw [ht] at h4; cases h4
          | some z =>
            rw [ht] at h4
            obtain ⟨p1, e1⟩ := vName_is ho
            obtain ⟨p2, e2⟩ := vName_is ht
            subst e1; subst e2
            simp only [Bool.and_eq_true, decide_eq_true_eq] at h4
            obtain ⟨ez, h4⟩ := h4
            subst ez
            cases n with
            | none => cases h3
            | some i =>
              obtain ⟨g1, g2, g3, g4⟩ := gl_ok cd h2
              obtain ⟨k1, k2, k3, k4⟩ := gl_ok cd h4
              obtain ⟨C', hC', hy, hn⟩ := cd.fx.hnd _ _ _ h5
              refine ⟨rfl, ⟨fun pins s σ H Q I ⟨c, x, C, env, F, T, ec, f, r, hh, dv, ed, q⟩ => ?_⟩⟩
              have ed : (if c ∈ ys then some (D.bl true) else if c ∈ ns then some (D.bl false) else none) = some dv := by unfold hev at ed; exact ed
              have key : ∃ b, dv = .bl b ∧ HndOk X.K gd C' c b := by
                split at ed
                · rename_i hm; cases ed; exact ⟨true, rfl, hy c hm⟩
                · split at ed
                  · rename_i hm; cases ed; exact ⟨false, rfl, hn c hm⟩
                  · cases ed
              obtain ⟨b, eb, C1, m1, _, xc, kt⟩ := key
              subst eb
              have r1 := r.1
              rw [m1] at r1; cases r1
              subst ec
              have pa : PA (X.suite a ((a, oe) :: pn)) [.Name y p1, .Name (c' : Str) p2] (tCons (tVar i) (tCons (tC (.ref C')) tNil)) := pa_cons (pe_err cd h3) (pa_cons (pe_glob k1 hC' rfl k2) pa_nil rfl) rfl
              refine (pe_callB (X := X.suite a ((a, oe) :: pn)) (call_isX xc hz hf) g1 (cd.fx.bi _ (by decide)) boot_isi pa (by decide) (by decide) rfl rfl).run pins s σ H Q I ⟨.ref a, hh.1, ?_⟩
              refine ⟨⟨.ref C', .ref C', b, rfl, fun u z => z, kt, q (.bl b) F H (Grow.refl f.le) (by unfold Rep; rfl)⟩, ?_⟩
              intro pp ep
              have r2 := r.2
              cases x with
              | none => rw [ep] at r2; cases r2
              | some d =>
                obtain ⟨a1, v, m, z1, z2, z3, z4⟩ := r2
                rw [ep] at z1; cases z1
                exact ⟨_, z3⟩
  | .tup es, ex, h => by
    unfold mH at h
    cases ex with
    | Tuple xs k pos =>
      rw [Bool.and_eq_true, decide_eq_true_eq] at h
      obtain ⟨pl, pa⟩ := mHs_ok cd hz hf es h.2
      refine ⟨rfl, PE.of (pe_tup pa) fun σ H Q ⟨c, x, C, env, F, T, ec, f, r, hh, dv, ed, q⟩ => ?_⟩
      have ed : (hevs c x env es).map D.tup = some dv := by unfold hev at ed; exact ed
      cases hd : hevs c x env es with
      | none => rw [hd] at ed; cases ed
      | some ds =>
        rw [hd] at ed; cases ed
        refine ⟨c, x, C, env, F, T, ec, f, r, hh, ds, hd, fun vs F1 H1 g1 rs => ⟨?_, fun p np => ?_⟩⟩
        · rw [rs.length, hevs_len hd]
          exact Nat.le_of_lt (small1000 (Nat.le_trans h.1 (by decide)))
        · have g2 := g1.trans (Grow.keep (o := .tup vs) (f.grow g1).le np)
          refine q (.ref p) _ _ g2 ?_
          unfold Rep
          exact ⟨p, vs, rfl, upd_same, Reps.grow (Grow.keep (o := .tup vs) (f.grow g1).le np) rs⟩
    | _ => exact absurd h Bool.false_ne_true
theorem mHs_ok (cd : CD gd tb Φ lv N sc W X) (hz : Zc cls dd oe) (hf : ∃ vs, oe.data = .fields vs) : ∀ (Es : List HE) {exs : List Expr}, mHs tb N sc n Es exs = true → exs.all plainE = true ∧ PA (X.suite a ((a, oe) :: pn)) exs (rdHA gd e n a cls dd (fun c x env => hevs c x env Es))
  | [], exs, h => by
    cases exs with
    | cons _ _ => unfold mHs at h; cases h
    | nil => exact ⟨rfl, PA.of pa_nil fun σ H Q ⟨c, x, C, env, F, T, ec, f, r, hh, ds, ed, q⟩ => by
        cases ed
        exact q [] F H (Grow.refl f.le) Reps.nil⟩
  | E :: Es, exs, h => by
    cases exs with
    | nil => unfold mHs at h; cases h
    | cons ex exs =>
      unfold mHs at h
      rw [Bool.and_eq_true] at h
      obtain ⟨p1, q1⟩ := mH_ok cd hz hf E h.1
      obtain ⟨p2, q2⟩ := mHs_ok cd hz hf Es h.2
      refine ⟨by rw [List.all_cons, p1, p2]; rfl, PA.of (pa_cons q1 q2 (plain_star p1)) fun σ H Q ⟨c, x, C, env, F, T, ec, f, r, hh, ds, ed, q⟩ => ?_⟩
      have ed : ((hev c x env E).bind fun d => (hevs c x env Es).map (d :: ·)) = some ds := by unfold hevs at ed; exact ed
      cases hd : hev c x env E with
      | none => rw [hd] at ed; cases ed
      | some d =>
        rw [hd] at ed
        cases hs : hevs c x env Es with
        | none => rw [hs] at ed; cases ed
        | some l =>
          rw [hs] at ed
          cases ed
          refine ⟨c, x, C, env, F, T, ec, f, r, hh, d, hd, fun v F1 H1 g1 rv => ?_⟩
          refine ⟨c, x, C, env, F1, T, ec, f.grow g1, r.grow g1, hh, l, hs, fun vs F2 H2 g2 rs => ?_⟩
          exact q (v :: vs) F2 H2 (g1.trans g2) (Reps.cons (Rep.grow g2 rv) rs)
end
end
end Mp

namespace Mp
open PySem PySem.Spec PyProof.Rows L2 PySem.SeqAt
def vRet1 : List Stmt → Option Expr
  | .Return v _ :: r => if r.isEmpty then v else none
  | _ => none
theorem vRet1_is {sts : List Stmt} {ex : Expr} (h : vRet1 sts = some ex) : ∃ p, sts = [.Return (some ex) p] := by
  cases sts with
  | nil => cases h
  | cons st r =>
    cases st with
    | Return v p =>
      have h : (if r.isEmpty then v else none) = some ex := h
      cases r with
      | nil => exact ⟨p, by have h : v = some ex := h; rw [h]⟩
      | cons _ _ => cases h
    | _ => cases h
/-- x = y + c -/
def vInc : Stmt → Option (Str × Str × Const)
  | .Assign [.Name x _] v _ => match v with
    | .BinOp (.Name y _) o (.Constant c _ _) _ => if o = .Add then some (x, y, c) else none
    | _ => none
  | _ => none
theorem vInc_is {st : Stmt} {x y : Str} {c : Const} (h : vInc st = some (x, y, c)) : ∃ p py ck cp bp ap, st = .Assign [.Name x p] (.BinOp (.Name y py) .Add (.Constant c ck cp) bp) ap := by
  cases st with
  | Assign ts v ap =>
    cases ts with
    | nil => cases h
    | cons t ts =>
      cases ts with
      | cons _ _ => cases t <;> cases h
      | nil =>
        cases t with
        | Name x' p =>
          cases v with
          | BinOp l o r bp =>
            cases l with
            | Name y' py =>
              cases r with
              | Constant c' ck cp =>
                have h : (if o = .Add then some (x', y', c') else none) = some (x, y, c) := h
                split at h
                · rename_i ho; cases h; subst ho; exact ⟨p, py, ck, cp, bp, ap, rfl⟩
                · cases h
              | _ => cases h
            | _ => cases h
          | _ => cases h
        | _ => cases h
  | _ => cases h
def mHS (tb : Tbl) (N : List Str) (sc : Scope) (n : Option Nat) : List HS → List Stmt → Bool
  | [], sts => sts.isEmpty
  | .ret E :: _, sts => match vRet1 sts with
    | some ex => mH tb N sc n E ex
    | none => false
  | .inc i k :: ss, sts => match sts with
    | st :: sts => match vInc st with
      | some (x, y, c) => decide (N[i]? = some x) && decide (sc.names.lookup x = some .local) && okName N sc i y && okCon (.int k) c && mHS tb N sc n ss sts
      | none => false
    | [] => false
  | .pass :: ss, sts => match sts with
    | .Pass _ :: sts => mHS tb N sc n ss sts
    | _ => false
section
variable {gd : Gd} {tb : Tbl} {Φ : String → List D → R D} {lv : Nat} {N : List Str} {kk : Nat} {sc : Scope} {W : WX} {X : Cx} {e : Ent} {n : Option Nat} {a : Addr} {oe : Obj} {cls : Value} {dd : Option Addr} {pn : List (Addr × Obj)}
theorem mHS_ok (cd : CD gd tb Φ lv N sc W X) (hz : Zc cls dd oe) (hf : ∃ vs, oe.data = .fields vs) : ∀ (ss : List HS) {sts : List Stmt}, mHS tb N sc n ss sts = true → PSs (X.suite a ((a, oe) :: pn)) sts (rdH gd e W kk n (fun c x env => hsL kk c x ss env) a cls dd)
  | [], sts, h => by
    cases sts with
    | cons _ _ => unfold mHS at h; cases h
    | nil => exact PSs.of pss_nil fun D σ H ⟨c, x, C, env, F, T, ec, f, r, hh, h⟩ => (show ∀ σ F H T, Frm gd e env F σ H T → D.nx σ H from by unfold hsL at h; exact h) σ F H T f
  | .pass :: ss, sts, h => by
    unfold mHS at h
    cases sts with
    | nil => cases h
    | cons st sts =>
      cases st with
      | Pass p =>
        have h : mHS tb N sc n ss sts = true := h
        refine PSs.of (pss_cons ps_pass (mHS_ok cd hz hf ss h)) fun D σ H ⟨c, x, C, env, F, T, ec, f, r, hh, h⟩ => ?_
        exact ⟨c, x, C, env, F, T, ec, f, r, hh, by unfold hsL at h; exact h⟩
      | _ => exact absurd h Bool.false_ne_true
  | .ret E :: ss, sts, h => by
    unfold mHS at h
    cases hv : vRet1 sts with
    | none => rw [hv] at h; cases h
    | some ex =>
      rw [hv] at h
      obtain ⟨p, ee⟩ := vRet1_is hv
      subst ee
      have h : mH tb N sc n E ex = true := h
      obtain ⟨pl, pe⟩ := mH_ok (e := e) (a := a) (pn := pn) cd hz hf E h
      refine PSs.of (pss_cons (ps_ret pe) pss_nil) fun D σ H ⟨c, x, C, env, F, T, ec, f, r, hh, h⟩ => ?_
      have h : WS gd e W kk D (match hev c x env E with | some d => if kk == 0 || isAtom d then .rt d else .bad | none => .bad) := by unfold hsL at h; exact h
      cases hd : hev c x env E with
      | none => rw [hd] at h; exact h.elim
      | some d =>
        rw [hd] at h
        have h : WS gd e W kk D (if (kk == 0 || isAtom d) = true then .rt d else .bad) := h
        by_cases w : (kk == 0 || isAtom d) = true
        · rw [if_pos w] at h
          have h : KE gd kk D.rt e.F e.H d := h
          rw [Bool.or_eq_true, beq_iff_eq] at w
          refine ⟨c, x, C, env, F, T, ec, f, r, hh, d, hd, fun v F1 H1 g1 rv => ?_⟩
          refine h v F1 H1 [] (f.grow g1).entry ?_ fun _ z => by cases z
          rcases w with w | w
          · rw [w]; exact ⟨rfl, rv⟩
          · exact rep_atom w rv
        · rw [if_neg w] at h; exact h.elim
  | .inc i k :: ss, sts, h => by
    unfold mHS at h
    cases sts with
    | nil => exact absurd h Bool.false_ne_true
    | cons st sts =>
    have h : (match vInc st with | some (x, y, c) => decide (N[i]? = some x) && decide (sc.names.lookup x = some .local) && okName N sc i y && okCon (.int k) c && mHS tb N sc n ss sts | none => false) = true := h
    cases hv : vInc st with
    | none => rw [hv] at h; exact absurd h Bool.false_ne_true
    | some q =>
      obtain ⟨x, y, cc⟩ := q
      rw [hv] at h
      obtain ⟨p, py, ck, cp, bp, ap, ee⟩ := vInc_is hv
      subst ee
      have h : (decide (N[i]? = some x) && decide (sc.names.lookup x = some .local) && okName N sc i y && okCon (.int k) cc && mHS tb N sc n ss sts) = true := h
      rw [Bool.and_eq_true, Bool.and_eq_true, Bool.and_eq_true, Bool.and_eq_true, decide_eq_true_eq, decide_eq_true_eq] at h
      obtain ⟨⟨⟨⟨h1, h2⟩, h3⟩, h4⟩, h5⟩ := h
      obtain ⟨k1, k2, k3, k4⟩ := nm_ok cd h3
      have ok : OkE gd e W (X.suite a ((a, oe) :: pn)) Φ (.BinOp (.Name y py) .Add (.Constant cc ck cp) bp) (.bin .Add (.loc i) (.con (.int k))) := ok_bin (ok_loc k1 k2 k3 k4) (con_ok h4)
      have ps : PS (X.suite a ((a, oe) :: pn)) (.Assign [.Name x p] (.BinOp (.Name y py) .Add (.Constant cc ck cp) bp) ap) _ := ps_asg (PE.of (ok.own rfl) rdE_zero) (pg_name (X := X.suite a ((a, oe) :: pn)) (by show X.N.Nodup; rw [cd.n]; exact cd.nd) (by show X.N[i]? = _; rw [cd.n]; exact h1) (.inl (by show X.env.scope.names.lookup x = _; rw [cd.sc]; exact h2)) (.inr (by show X.env.scope.names.lookup x = _; rw [cd.sc]; exact h2)))
      refine PSs.of (pss_cons ps (mHS_ok cd hz hf ss h5)) fun D σ H ⟨c, x, C, env, F, T, ec, f, r, hh, h⟩ => ?_
      have h : WS gd e W kk D (match env[i]? with | some (.val (.int z)) => hsL kk c x ss (env.set i (.val (.int (z + k)))) | _ => .bad) := by unfold hsL at h; exact h
      split at h
      · rename_i z hi
        have ev0 : ev Φ (.bin .Add (.loc i) (.con (.int k))) false env = .ok (.int (z + k)) := by
          show fin false (fin false (slotD false env[i]?) >>= fun x => fin false (.ok (.int k)) >>= fun y => ofO (binD _ .Add x y)) = _
          rw [hi]
          rfl
        refine ⟨env, F, T, f, ?_⟩
        show RW (ev Φ (.bin .Add (.loc i) (.con (.int k))) false env) _ _
        rw [ev0]
        intro v F1 H1 S g1 rv fr
        have lt : i < env.length := by
          by_cases w : i < env.length
          · exact w
          · rw [List.getElem?_eq_none (by omega)] at hi; cases hi
        refine ⟨c, x, C, env.set i (.val (.int (z + k))), F1, T, ec, (f.grow g1).set lt rv.2, r.grow g1, ?_, h⟩
        cases n with
        | none => exact True.intro
        | some j =>
          have ne : j ≠ i := fun w => by
            have := hh.2
            rw [w, hi] at this; cases this
          exact ⟨by rw [List.getElem?_set_ne (Ne.symm ne)]; exact hh.1, by rw [List.getElem?_set_ne (Ne.symm ne)]; exact hh.2⟩
      · exact h.elim
theorem hsL_no {c : String} {x : Option D} {i : Nat} : ∀ {ss : List HS} {env : Sls}, env[i]? = some .no → (∃ env', hsL kk c x ss env = .nx env' ∧ env'[i]? = some .no) ∨ (∃ d, hsL kk c x ss env = .rt d) ∨ hsL kk c x ss env = .bad
  | [], env, h => .inl ⟨env, rfl, h⟩
  | .ret E :: ss, env, h => by
    unfold hsL
    cases hev c x env E with
    | none => exact .inr (.inr rfl)
    | some d =>
      show _ ∨ (∃ d', (if (kk == 0 || isAtom d) = true then RS.rt d else .bad) = .rt d') ∨ (if (kk == 0 || isAtom d) = true then RS.rt d else .bad) = .bad
      by_cases w : (kk == 0 || isAtom d) = true
      · exact .inr (.inl ⟨d, if_pos w⟩)
      · exact .inr (.inr (if_neg w))
  | .pass :: ss, env, h => by unfold hsL; exact hsL_no h
  | .inc j k :: ss, env, h => by
    unfold hsL
    split
    · rename_i z hj
      refine hsL_no ?_
      have ne : i ≠ j := fun w => by rw [w, hj] at h; cases h
      rw [List.getElem?_set_ne (Ne.symm ne)]; exact h
    · exact .inr (.inr rfl)
end
end Mp

namespace Mp
open PySem PySem.Spec PyProof.Rows L2 PySem.SeqAt
structure CS (gd : Gd) (tb : Tbl) (Φ : String → List D → R D) (lv : Nat) (N : List Str) (so : Scope) (W : WX) (X : Cx) : Prop extends CD gd tb Φ lv N so W X where
  pa : PassesOwn (model X.prog X.w) X.A X.env X.xe
  ao : AsOk X so
  fk : so.kind = .function
  st : X.stack = X.env :: X.outer
  fr : X.env.frame = some X.env.locals
def mNm (N : List Str) (sc : Scope) : Option Nat → Option Str → Bool
  | none, none => true
  | some i, some s => decide (N[i]? = some s) && decide (sc.names.lookup s = some .local)
  | _, _ => false
def mHd (tb : Tbl) (N : List Str) (sc : Scope) (h : Hd) : ExceptHandler → Bool
  | .ExceptHandler (some ty) nm body _ => (match vName ty with
    | some y => decide (y = (h.c : Str)) && okGl sc y
    | none => false) && mNm N sc h.n nm && decide ((h.c, h.ys, h.ns) ∈ tb.hnd) && !body.isEmpty && mHS tb N sc h.n h.ss body
  | _ => false
def mHds (tb : Tbl) (N : List Str) (sc : Scope) : List Hd → List ExceptHandler → Bool
  | [], l => l.isEmpty
  | h :: hs, l => match l with
    | x :: xs => mHd tb N sc h x && mHds tb N sc hs xs
    | [] => false
/-- raise C("..") | raise C(e) -/
def vRaise : Stmt → Option (Str × Expr)
  | .Raise (some (.Call (.Name x _) [ex] [] _)) none _ => some (x, ex)
  | _ => none
theorem vRaise_is {st : Stmt} {x : Str} {ex : Expr} (h : vRaise st = some (x, ex)) : ∃ p pos rpos, st = .Raise (some (.Call (.Name x p) [ex] [] pos)) none rpos := by
  cases st with
  | Raise v c rpos =>
    cases v with
    | none => cases h
    | some v =>
      cases v with
      | Call f args kws pos =>
        cases f with
        | Name y p =>
          cases args with
          | nil => cases h
          | cons a r =>
            cases r with
            | cons _ _ => cases h
            | nil =>
              cases kws with
              | cons _ _ => cases h
              | nil =>
                cases c with
                | some _ => cases h
                | none => cases h; exact ⟨p, pos, rpos, rfl⟩
        | _ => cases h
      | _ => cases h
  | _ => cases h
def isTxt : Expr → Bool
  | .Constant (.str _) _ _ => true
  | _ => false
theorem isTxt_is {ex : Expr} (h : isTxt ex = true) : ∃ s j p, ex = .Constant (.str s) j p := by
  cases ex with
  | Constant c j p =>
    cases c with
    | str s => exact ⟨s, j, p, rfl⟩
    | _ => cases h
  | _ => cases h
def mRz (tb : Tbl) (N : List Str) (sc : Scope) (c : String) (ex : Expr) : List E → Bool
  | [] => isTxt ex && decide (tb.xcs.lookup c = some none)
  | [E] => !bor E && (match tb.xcs.lookup c with | some (some _) => true | _ => false) && mE tb N sc E ex
  | _ => false
def mRaise (tb : Tbl) (N : List Str) (sc : Scope) (c : String) (es : List E) (st : Stmt) : Bool := match vRaise st with
  | some (x, ex) => decide (x = (c : Str)) && okGl sc x && mRz tb N sc c ex es
  | none => false
section
variable {gd : Gd} {tb : Tbl} {Φ : String → List D → R D} {lv : Nat} {N : List Str} {kk : Nat} {sc : Scope} {W : WX} {X : Cx} {e : Ent}
theorem raise_ok (cs : CS gd tb Φ lv N sc W X) {c : String} {es : List E} {st : Stmt} (h : mRaise tb N sc c es st = true) : OkS gd e W X Φ kk st (.raise c es) := by
  unfold mRaise at h
  cases hv : vRaise st with
  | none => rw [hv] at h; cases h
  | some q =>
    obtain ⟨x, ex⟩ := q
    rw [hv] at h
    obtain ⟨p, pos, rpos, ee⟩ := vRaise_is hv
    subst ee
    have h : (decide (x = (c : Str)) && okGl sc x && mRz tb N sc c ex es) = true := h
    rw [Bool.and_eq_true, Bool.and_eq_true, decide_eq_true_eq] at h
    obtain ⟨⟨h1, h2⟩, h3⟩ := h
    subst h1
    obtain ⟨g1, g2, g3, g4⟩ := gl_ok cs.toCD h2
    clear h hv
    match es, h3 with
    | [], h3 =>
      have h3 : (isTxt ex && decide (tb.xcs.lookup c = some none)) = true := h3
      rw [Bool.and_eq_true, decide_eq_true_eq] at h3
      obtain ⟨s, j, p2, ee⟩ := isTxt_is h3.1
      subst ee
      obtain ⟨C, m1, m2, hA⟩ := cs.fx.exA c (lookup_mem h3.2)
      exact sRaiseA hA g1 m1 m2 cs.tk cs.calm g2
    | [E], h3 =>
      have h3 : (!bor E && (match tb.xcs.lookup c with | some (some _) => true | _ => false) && mE tb N sc E ex) = true := h3
      rw [Bool.and_eq_true, Bool.and_eq_true, Bool.not_eq_true'] at h3
      obtain ⟨⟨k1, k2⟩, k3⟩ := h3
      cases hl : tb.xcs.lookup c with
      | none => rw [hl] at k2; cases k2
      | some oa =>
        cases oa with
        | none => rw [hl] at k2; cases k2
        | some at' =>
          obtain ⟨hcf, C, m1, m2, hB⟩ := cs.fx.exB c at' (lookup_mem hl)
          exact sRaiseB hB hcf g1 m1 m2 cs.tk cs.calm g2 (cs.fx.room.mono (by omega)) k1 (mE_ok E e cs.toCD k3)
    | _ :: _ :: _, h3 => exact absurd h3 Bool.false_ne_true
theorem CS.tr (cs : CS gd tb Φ lv N sc W X) {W' : WX} {pn : List (Addr × Obj)} {xe : Value → Shared → Prop} (tk : Takes (X.tr pn xe) W') (po : PassesOwn (model X.prog X.w) X.A X.env xe) : CS gd tb Φ lv N sc W' (X.tr pn xe) :=
  { n := cs.n, nd := cs.nd, sc := cs.sc, calm := cs.calm, tk := tk,
    fx := ⟨cs.fx.room, cs.fx.kk, cs.fx.fn, cs.fx.ini, cs.fx.met, cs.fx.prp, (fun c l h => ⟨⟨(cs.fx.fld c l h).1.nd, (cs.fx.fld c l h).1.cls, (cs.fx.fld c l h).1.no⟩, (cs.fx.fld c l h).2⟩), cs.fx.glo, cs.fx.bi, cs.fx.exA, cs.fx.exB, cs.fx.hnd⟩
    pa := po, ao := ⟨cs.ao.nd, cs.ao.calm, cs.ao.loc⟩, fk := cs.fk, st := cs.st, fr := cs.fr }
theorem goneD_ws {n : Option Nat} {De : Ends} {c : String} {x : Option D} {ss : List HS} {env : Sls} (hn : match n with | none => True | some i => env[i]? = some .no) (h : WS gd e W kk De (hsL kk c x ss env)) : WS gd e W kk (goneD n De) (hsL kk c x ss env) := by
  cases n with
  | none => exact h
  | some i =>
    rcases hsL_no (kk := kk) (c := c) (x := x) (ss := ss) hn with ⟨env', e1, e2⟩ | ⟨d, e1⟩ | e1
    · rw [e1] at h ⊢
      exact fun σ F H T f => (show ∀ σ F H T, Frm gd e env' F σ H T → De.nx σ H from h) _ F H T (f.free e2)
    · rw [e1] at h ⊢; exact h
    · rw [e1] at h; exact h.elim
theorem mHds_ok (cs : CS gd tb Φ lv N sc W X) : ∀ (hs : List Hd) {hds : List ExceptHandler}, mHds tb N sc hs hds = true → ∃ l, Hds X hds l ∧ ∀ De c x env, WS gd e W kk De (exH kk c x env hs) → ∀ σ F H T C dd, Frm gd e env F σ H T → ExR gd F H c x C dd → wMix X.K W De l (.ref C) dd σ H
  | [], hds, h => by
    cases hds with
    | cons _ _ => unfold mHds at h; cases h
    | nil => exact ⟨[], .nil, fun De c x env w σ F H T C dd f r => (show ∀ σ F H T C dd, Frm gd e env F σ H T → ExR gd F H c x C dd → W (.ref C) dd σ H from by unfold exH at w; exact w) σ F H T C dd f r⟩
  | hd :: hs, hds, h => by
    cases hds with
    | nil => unfold mHds at h; cases h
    | cons eh hds =>
      unfold mHds at h
      have h : (mHd tb N sc hd eh && mHds tb N sc hs hds) = true := h
      rw [Bool.and_eq_true] at h
      obtain ⟨h1, h2⟩ := h
      obtain ⟨l, hl, ih⟩ := mHds_ok cs hs h2
      obtain ⟨ty, nm, body, q⟩ := eh
      cases ty with
      | none => cases h1
      | some ty =>
        have h1 : ((match vName ty with | some y => decide (y = (hd.c : Str)) && okGl sc y | none => false) && mNm N sc hd.n nm && decide ((hd.c, hd.ys, hd.ns) ∈ tb.hnd) && !body.isEmpty && mHS tb N sc hd.n hd.ss body) = true := h1
        rw [Bool.and_eq_true, Bool.and_eq_true, Bool.and_eq_true, Bool.and_eq_true, decide_eq_true_eq, Bool.not_eq_true'] at h1
        obtain ⟨⟨⟨⟨k1, k2⟩, k3⟩, k4⟩, k5⟩ := h1
        cases hv : vName ty with
        | none => rw [hv] at k1; cases k1
        | some y =>
          rw [hv] at k1
          have k1 : (decide (y = (hd.c : Str)) && okGl sc y) = true := k1
          rw [Bool.and_eq_true, decide_eq_true_eq] at k1
          obtain ⟨ey, k1⟩ := k1
          subst ey
          obtain ⟨p, ee⟩ := vName_is hv
          subst ee
          obtain ⟨g1, g2, g3, g4⟩ := gl_ok cs.toCD k1
          obtain ⟨C', hC', hy, hn⟩ := cs.fx.hnd _ _ _ k3
          cases body with
          | nil => cases k4
          | cons st sts =>
            have nx : NmX X nm hd.n := by
              cases hd with
              | mk c' ys ns n ss =>
                cases n with
                | none =>
                  cases nm with
                  | none => exact .none
                  | some s => cases k2
                | some i =>
                  cases nm with
                  | none => cases k2
                  | some s =>
                    have k2 : (decide (N[i]? = some s) && decide (sc.names.lookup s = some .local)) = true := k2
                    rw [Bool.and_eq_true, decide_eq_true_eq, decide_eq_true_eq] at k2
                    exact .some (by rw [cs.n]; exact k2.1) (by unfold Env.kindOf; rw [cs.sc]; exact k2.2)
            refine ⟨(.ref C', hd.n, rdH gd e W kk hd.n (fun c x env => hsL kk c x hd.ss env)) :: l, .cons ⟨g1, g2, .inl hC'⟩ nx (fun a oe cls d pn hz hf => mHS_ok cs.toCD hz hf hd.ss k5) hl, fun De c x env w σ F H T C dd f r => ?_⟩
            unfold exH at w
            by_cases hm : c ∈ hd.ys
            · rw [if_pos hm] at w
              obtain ⟨C1, m1, ex, _, _⟩ := hy c hm
              have r1 := r.1
              rw [m1] at r1; cases r1
              refine ⟨true, ex, fun _ a na => ?_, (fun z => by cases z)⟩
              cases hn' : hd.n with
              | none =>
                rw [hn'] at w
                exact ⟨c, x, C, env, F, T, rfl, f, r, True.intro, w⟩
              | some i =>
                rw [hn'] at w
                have w : WS gd e W kk De (match env[i]? with | some .no => hsL kk c x hd.ss env | _ => .bad) := w
                split at w
                · rename_i hi
                  have lt : i < σ.length := by
                    rw [f.len]
                    by_cases z : i < env.length
                    · exact z
                    · rw [List.getElem?_eq_none (by omega)] at hi; cases hi
                  exact ⟨c, x, C, env, F, T, rfl, f.free hi, r, ⟨List.getElem?_set_self lt, hi⟩, goneD_ws (n := some i) hi w⟩
                · exact w.elim
            · rw [if_neg hm] at w
              by_cases hm2 : c ∈ hd.ns
              · rw [if_pos hm2] at w
                obtain ⟨C1, m1, ex, _, _⟩ := hn c hm2
                have r1 := r.1
                rw [m1] at r1; cases r1
                exact ⟨false, ex, (fun z => by cases z), fun _ => ih De c x env w σ F H T C dd f r⟩
              · rw [if_neg hm2] at w; exact w.elim
theorem sTry (cs : CS gd tb Φ lv N sc W X) {body : List Stmt} {b : List S} {hds : List ExceptHandler} {hs : List Hd} {pos : Pos} (hb : ∀ {W' : WX} {X' : Cx}, CS gd tb Φ lv N sc W' X' → OkL gd e W' X' Φ kk body b) (hne : hds.isEmpty = false) (hh : mHds tb N sc hs hds = true) :
    OkS gd e W X Φ kk (.Try body hds [] [] pos) (.try b hs) := by
  obtain ⟨l, hl, w⟩ := mHds_ok (e := e) (kk := kk) cs hs hh
  cases hds with
  | nil => cases hne
  | cons h₀ hds =>
    refine PS.of (ps_try_mix (tb := fun W' => rdS gd e W' kk (exL Φ kk b)) cs.st cs.fr (by rw [cs.n]; exact cs.nd) cs.tk (fun W' pn xe tk po => hb (cs.tr tk po)) hl) fun De σ H ⟨env, F, T, f, h⟩ => ⟨env, F, T, f, ?_⟩
    have h : WS gd e W kk De (match exL Φ kk b env with | .exc c x env => exH kk c x env hs | r => r) := h
    cases hr : exL Φ kk b env with
    | exc c x env' =>
      rw [hr] at h
      exact fun σ F H T C dd f r => w De c x env' h σ F H T C dd f r
    | _ => rw [hr] at h; exact h
end
end Mp
/-! the texts of statements: a check, and that it suffices -/
namespace Mp
open PySem PySem.Spec PyProof.Rows L2 PySem.SeqAt

def vAsg : Stmt → Option (Expr × Expr)
  | .Assign [t] ex _ => some (t, ex)
  | _ => none
theorem vAsg_is {st : Stmt} {t ex : Expr} (h : vAsg st = some (t, ex)) : ∃ pos, st = .Assign [t] ex pos := by
  cases st with
  | Assign ts v pos =>
    match ts, h with
    | [t], h => cases h; exact ⟨pos, rfl⟩
  | _ => cases h
/-- name.method(args) as a statement -/
def vDo : Stmt → Option (Expr × Str × List Expr)
  | .Expr ex _ => vMeth ex
  | _ => none
theorem vDo_is {st : Stmt} {o : Expr} {m : Str} {xs : List Expr} (h : vDo st = some (o, m, xs)) : ∃ ap cp pos, st = .Expr (.Call (.Attribute o m ap) xs [] cp) pos ∧ (ap.endLine == cp.line) = true := by
  cases st with
  | Expr ex pos =>
    obtain ⟨ap, cp, e1, e2⟩ := vMeth_is (show vMeth ex = some (o, m, xs) from h)
    subst e1
    exact ⟨ap, cp, pos, rfl, e2⟩
  | _ => cases h
def isComp : E → Bool
  | .lc _ _ _ _ _ _ => true
  | .dc _ _ _ _ _ _ _ _ => true
  | _ => false
def notIn (scope : Scope) (y : Str) : Bool := !(scope.names.any fun (n, k) => n == y && (k == .local || k == .cell))
/-- name = comprehension -/
def compHead (N : List Str) (sc : Scope) (i : Nat) : Expr → Expr → Bool
  | .Name y py, .ListComp _ _ scope pos => decide (N[i]? = some y) && decide (sc.names.lookup y = some .local) && (py.line == pos.line) && notIn scope y
  | .Name y py, .DictComp _ _ _ scope pos => decide (N[i]? = some y) && decide (sc.names.lookup y = some .local) && (py.line == pos.line) && notIn scope y
  | _, _ => false
def okLoc (N : List Str) (sc : Scope) (i : Nat) (x : Str) : Bool := decide (N[i]? = some x) && (decide (sc.names.lookup x = some .local) || decide (sc.names.lookup x = some .cell))
mutual
def mS (tb : Tbl) (N : List Str) (sc : Scope) : S → Stmt → Bool
  | .nev, _ => true
  | .pass, st => match st with
    | .Pass _ => true
    | .Expr (.Constant (.str _) _ _) _ => true
    | _ => false
  | .exp e, st => match st with
    | .Expr ex _ => noComp ex && mE tb N sc e ex
    | _ => false
  | .set t e, st => match vAsg st with
    | some (tg, ex) => (mT N sc t tg && okAsg tg ex && mE tb N sc e ex) || (match t with | .nm i => compHead N sc i tg ex && isComp e && mE tb N sc e ex | _ => false)
    | none => false
  | .own i e, st => match vAsg st with
    | some (tg, ex) => (match vName tg with | some x => okLoc N sc i x && noComp ex && mE tb N sc e ex | none => false) || (compHead N sc i tg ex && isComp e && mE tb N sc e ex)
    | none => false
  | .ret e, st => match st with
    | .Return (some ex) _ => mE tb N sc e ex
    | _ => false
  | .retn, st => match st with
    | .Return none _ => true
    | _ => false
  | .retv i, st => match st with
    | .Return (some (.Name x _)) _ => okName N sc i x
    | _ => false
  | .ite c a b, st => match st with
    | .If c' a' b' _ => mE tb N sc c c' && mL tb N sc a a' && mL tb N sc b b'
    | _ => false
  | .whl c b, st => match st with
    | .While c' b' [] _ => mE tb N sc c c' && mL tb N sc b b'
    | _ => false
  | .for tg ik it b, st => match st with
    | .For tgE iter b' [] _ => mT N sc tg tgE && mIt tb N sc ik it tgE iter && mL tb N sc b b'
    | _ => false
  | .brk, st => match st with
    | .Break _ => true
    | _ => false
  | .cnt, st => match st with
    | .Continue _ => true
    | _ => false
  | .app i e, st => match vDo st with
    | some (.Name x _, m, [ex]) => decide (m = ("append" : Str)) && okName N sc i x && mE tb N sc e ex
    | _ => false
  | .ext i e, st => match vDo st with
    | some (.Name x _, m, [ex]) => decide (m = ("extend" : Str)) && okName N sc i x && mE tb N sc e ex
    | _ => false
  | .sub i k e, st => match vAsg st with
    | some (.Subscript (.Name x _) kx tp, ex) => okName N sc i x && noSetC ex && mE tb N sc k kx && mE tb N sc e ex
    | _ => false
  | .aug i o e, st => match st with
    | .AugAssign (.Name x _) o' ex _ => decide (o = o') && okLoc N sc i x && mE tb N sc e ex
    | _ => false
  | .augs i k o e, st => match st with
    | .AugAssign (.Subscript (.Name x _) kx _) o' ex _ => decide (o = o') && okName N sc i x && mE tb N sc k kx && mE tb N sc e ex
    | _ => false
  | .pop t i, st => match vAsg st with
    | some (tg, ex) => mT N sc t tg && (match vMeth ex with | some (.Name x _, m, []) => decide (m = ("pop" : Str)) && okName N sc i x | _ => false)
    | none => false
  | .del i k, st => match st with
    | .Delete [.Subscript (.Name x _) kx _] _ => okName N sc i x && mE tb N sc k kx
    | _ => false
  | .par i j a b, st => match vAsg st with
    | some (.Tuple [.Name x px, .Name y py] _ _, .Tuple [ax, bx] _ _) => decide (N[i]? = some x) && decide (N[j]? = some y) && decide (sc.names.lookup x = some .local) && decide (sc.names.lookup y = some .local) &&
        !(x == y) && (py.line == px.line) && !([ax, bx].all (foldedForSure 8)) && !([ax, bx].all (constantsAlone 8)) && mE tb N sc a ax && mE tb N sc b bx
    | _ => false
  | .sat c n i e, st => match vAsg st with
    | some (.Attribute (.Name x _) nm _, ex) => (match tb.cf.lookup c with | some l => decide ((l.map Str.ofString)[n]? = some nm) && decide (l.length < 1000) | none => false) && okName N sc i x && noComp ex && mE tb N sc e ex
    | _ => false
  | .frz _, _ => false
  | .raise c es, st => mRaise tb N sc c es st
  | .try b hs, st => match st with
    | .Try body hds els fin _ => els.isEmpty && fin.isEmpty && !hds.isEmpty && mL tb N sc b body && mHds tb N sc hs hds
    | _ => false
def mL (tb : Tbl) (N : List Str) (sc : Scope) : List S → List Stmt → Bool
  | [], sts => sts.isEmpty
  | s :: ss, sts => match s with
    | .frz _ => mL tb N sc ss sts
    | _ => match sts with
      | [] => false
      | st :: sts => mS tb N sc s st && mL tb N sc ss sts
end

section
variable {gd : Gd} {tb : Tbl} {Φ : String → List D → R D} {lv : Nat} {N : List Str} {kk : Nat}
theorem loc_ok {sc : Scope} {W : WX} {X : Cx} {i : Nat} {x : Str} (cd : CD gd tb Φ lv N sc W X) (h : okLoc N sc i x = true) : X.N[i]? = some x ∧ (sc.names.lookup x = some .local ∨ sc.names.lookup x = some .cell) := by
  unfold okLoc at h
  simp only [Bool.and_eq_true, decide_eq_true_eq, Bool.or_eq_true] at h
  rw [cd.n]; exact h
theorem nmOk {sc : Scope} {W : WX} {X : Cx} {i : Nat} {x : Str} (cd : CD gd tb Φ lv N sc W X) (h : okName N sc i x = true) : NmOk X x i := by
  obtain ⟨h1, h2, h3, h4⟩ := nm_ok cd h
  exact ⟨h1, h2, h3, h4⟩
theorem comp_set {sc : Scope} {W : WX} {X : Cx} {e : Ent} {i : Nat} {tg ex : Expr} {E : Mp.E} {spos : Pos} (cs : CS gd tb Φ lv N sc W X) (h1 : compHead N sc i tg ex = true) (h2 : isComp E = true) (h3 : mE tb N sc E ex = true) :
    bor E = false ∧ PS X (.Assign [tg] ex spos) (rdA1 gd e W i (fun env => ev Φ E false env) (kd E)) := by
  have cd := cs.toCD
  cases E with
  | lc x own tgC ik it ccs =>
    refine ⟨rfl, ?_⟩
    have h := h3
    unfold mE at h
    cases ex with
    | ListComp elt gens scope pos =>
      cases tg with
      | Name y py =>
        match gens, h with
        | [⟨tgE, iter, ifs, n⟩], h =>
          unfold compHead notIn at h1
          simp only [Bool.and_eq_true, decide_eq_true_eq, Bool.not_eq_true', List.all_eq_true] at h h1
          obtain ⟨⟨⟨⟨⟨⟨⟨⟨h0, h1'⟩, h2'⟩, h3'⟩, h4⟩, h5⟩, h6⟩, h7⟩, h8⟩ := h
          obtain ⟨⟨⟨k1, k2⟩, k3⟩, k4⟩ := h1
          subst h0
          have := asg_lc (e := e) (W := W) (pos := pos) (py := py) (spos := spos) (Φ := Φ) (mg := gd) (x := x) (it := it) (cs := ccs) cd.calm (by rw [cd.n]; exact cd.nd) (by rw [cd.n]; exact k1) (by rw [cd.sc]; exact k2) (by rw [cd.sc]; exact cs.fk) k3 k4
            (blkOk_by (by rw [cd.n, cd.sc]; exact h1')) (fun e => mIt_ok it e cd h6) (by rw [cd.n]; exact h2') (cd.as scope) (by rw [own_map]; exact h3')
            (fun e s H C cl fp => mEs_ok ccs e (cd.blk scope s H C cl fp) h7) h4 (fun e s H C cl fp => mE_ok x e (cd.blk scope s H C cl fp) h8) h5
          rw [own_map] at this
          exact this
      | _ => exact absurd h1 Bool.false_ne_true
    | _ => exact absurd h Bool.false_ne_true
  | dc b kx vx own tgC ik it ccs =>
    refine ⟨rfl, ?_⟩
    have h := h3
    unfold mE at h
    cases ex with
    | DictComp ke ve gens scope pos =>
      cases tg with
      | Name y py =>
        match gens, h with
        | [⟨tgE, iter, ifs, n⟩], h =>
          unfold compHead notIn at h1
          simp only [Bool.and_eq_true, decide_eq_true_eq, Bool.not_eq_true', List.all_eq_true] at h h1
          obtain ⟨⟨⟨⟨⟨⟨⟨⟨⟨⟨h0, hb⟩, h1'⟩, h2'⟩, h3'⟩, h4⟩, h5⟩, h6⟩, h7⟩, h8⟩, h9⟩ := h
          obtain ⟨⟨⟨k1, k2⟩, k3⟩, k4⟩ := h1
          subst h0; subst hb
          have := asg_dc (e := e) (W := W) (pos := pos) (py := py) (spos := spos) (Φ := Φ) (mg := gd) (kx := kx) (vx := vx) (it := it) (cs := ccs) cd.calm (by rw [cd.n]; exact cd.nd) (by rw [cd.n]; exact k1) (by rw [cd.sc]; exact k2) (by rw [cd.sc]; exact cs.fk) k3 k4
            (blkOk_by (by rw [cd.n, cd.sc]; exact h1')) (fun e => mIt_ok it e cd h6) (by rw [cd.n]; exact h2') (cd.as scope) (by rw [own_map]; exact h3')
            (fun e s H C cl fp => mEs_ok ccs e (cd.blk scope s H C cl fp) h7) h4 (fun e s H C cl fp => mE_ok kx e (cd.blk scope s H C cl fp) h8) (fun e s H C cl fp => mE_ok vx e (cd.blk scope s H C cl fp) h9) h5
          rw [own_map] at this
          exact this
      | _ => exact absurd h1 Bool.false_ne_true
    | _ => exact absurd h Bool.false_ne_true
  | _ => exact absurd h2 Bool.false_ne_true
mutual
theorem mS_ok : ∀ (s : S) {st : Stmt} {sc : Scope} {W : WX} {X : Cx} (e : Ent), CS gd tb Φ lv N sc W X → mS tb N sc s st = true → OkS gd e W X Φ kk st s
  | .nev, st, sc, W, X, e, cs, h => sNev
  | .pass, st, sc, W, X, e, cs, h => by
    unfold mS at h
    cases st with
    | Pass pos => exact sPass
    | Expr ex pos =>
      cases ex with
      | Constant c j p =>
        cases c with
        | str x => exact sDoc
        | _ => exact absurd h Bool.false_ne_true
      | _ => exact absurd h Bool.false_ne_true
    | _ => exact absurd h Bool.false_ne_true
  | .exp E, st, sc, W, X, e, cs, h => by
    unfold mS at h
    cases st with
    | Expr ex pos =>
      simp only [Bool.and_eq_true] at h
      exact sExp (mE_ok E e cs.toCD h.2) h.1
    | _ => exact absurd h Bool.false_ne_true
  | .set t E, st, sc, W, X, e, cs, h => by
    unfold mS at h
    cases hv : vAsg st with
    | none => rw [hv] at h; cases h
    | some p =>
      obtain ⟨tg, ex⟩ := p
      rw [hv] at h
      obtain ⟨pos, ee⟩ := vAsg_is hv
      subst ee
      rw [Bool.or_eq_true] at h
      rcases h with h | h
      · simp only [Bool.and_eq_true] at h
        exact sSet cs.ao (by rw [cs.n]; exact h.1.1) (mE_ok E e cs.toCD h.2) h.1.2
      · cases t with
        | nm i =>
          simp only [Bool.and_eq_true] at h
          obtain ⟨z1, z2⟩ := comp_set (e := e) cs h.1.1 h.1.2 h.2
          exact setA z1 z2
        | tp _ => exact absurd h Bool.false_ne_true
  | .own i E, st, sc, W, X, e, cs, h => by
    unfold mS at h
    cases hv : vAsg st with
    | none => rw [hv] at h; cases h
    | some p =>
      obtain ⟨tg, ex⟩ := p
      rw [hv] at h
      obtain ⟨pos, ee⟩ := vAsg_is hv
      subst ee
      rw [Bool.or_eq_true] at h
      rcases h with h | h
      · cases hn : vName tg with
        | none => rw [hn] at h; cases h
        | some x =>
          rw [hn] at h
          obtain ⟨p, ee⟩ := vName_is hn
          subst ee
          simp only [Bool.and_eq_true] at h
          obtain ⟨q1, q2⟩ := loc_ok cs.toCD h.1.1
          exact sOwn cs.ao q1 q2 (mE_ok E e cs.toCD h.2) h.1.2
      · simp only [Bool.and_eq_true] at h
        obtain ⟨z1, z2⟩ := comp_set (e := e) cs h.1.1 h.1.2 h.2
        exact ownA z1 z2
  | .ret E, st, sc, W, X, e, cs, h => by
    unfold mS at h
    cases st with
    | Return v pos =>
      cases v with
      | some ex => exact sRet (mE_ok E e cs.toCD h)
      | none => exact absurd h Bool.false_ne_true
    | _ => exact absurd h Bool.false_ne_true
  | .retn, st, sc, W, X, e, cs, h => by
    unfold mS at h
    cases st with
    | Return v pos =>
      cases v with
      | none => exact sRetn
      | some ex => exact absurd h Bool.false_ne_true
    | _ => exact absurd h Bool.false_ne_true
  | .retv i, st, sc, W, X, e, cs, h => by
    unfold mS at h
    cases st with
    | Return v pos =>
      cases v with
      | none => exact absurd h Bool.false_ne_true
      | some ex =>
        cases ex with
        | Name x p =>
          obtain ⟨h1, h2, h3, h4⟩ := nm_ok cs.toCD h
          exact sRetv h1 h2 h3 h4
        | _ => exact absurd h Bool.false_ne_true
    | _ => exact absurd h Bool.false_ne_true
  | .ite c a b, st, sc, W, X, e, cs, h => by
    unfold mS at h
    cases st with
    | If c' a' b' pos =>
      simp only [Bool.and_eq_true] at h
      exact sIte (mE_ok c e cs.toCD h.1.1) (mL_ok a e cs h.1.2) (mL_ok b e cs h.2)
    | _ => exact absurd h Bool.false_ne_true
  | .whl c b, st, sc, W, X, e, cs, h => by
    unfold mS at h
    cases st with
    | While c' b' els pos =>
      cases els with
      | nil =>
        simp only [Bool.and_eq_true] at h
        exact sWhl cs.pa (mE_ok c e cs.toCD h.1) (mL_ok b e cs h.2)
      | cons _ _ => exact absurd h Bool.false_ne_true
    | _ => exact absurd h Bool.false_ne_true
  | .for tg ik it b, st, sc, W, X, e, cs, h => by
    unfold mS at h
    cases st with
    | For tgE iter b' els pos =>
      cases els with
      | nil =>
        simp only [Bool.and_eq_true] at h
        exact sFor cs.pa cs.calm cs.ao (fun e => mIt_ok it e cs.toCD h.1.2) (by rw [cs.n]; exact h.1.1) (fun e => mL_ok b e cs h.2)
      | cons _ _ => exact absurd h Bool.false_ne_true
    | _ => exact absurd h Bool.false_ne_true
  | .brk, st, sc, W, X, e, cs, h => by
    unfold mS at h
    cases st with
    | Break pos => exact sBrk
    | _ => exact absurd h Bool.false_ne_true
  | .cnt, st, sc, W, X, e, cs, h => by
    unfold mS at h
    cases st with
    | Continue pos => exact sCnt
    | _ => exact absurd h Bool.false_ne_true
  | .app i E, st, sc, W, X, e, cs, h => by
    unfold mS at h
    cases hv : vDo st with
    | none => rw [hv] at h; cases h
    | some p =>
      obtain ⟨o, m, xs⟩ := p
      rw [hv] at h
      obtain ⟨ap, cp, pos, ee, hl⟩ := vDo_is hv
      subst ee
      cases o with
      | Name x pp =>
        match xs, h with
        | [ex], h =>
          simp only [Bool.and_eq_true, decide_eq_true_eq] at h
          obtain ⟨⟨h1, h2⟩, h3⟩ := h
          subst h1
          exact sApp (nmOk cs.toCD h2) (mE_ok E e cs.toCD h3) hl
      | _ => exact absurd h Bool.false_ne_true
  | .ext i E, st, sc, W, X, e, cs, h => by
    unfold mS at h
    cases hv : vDo st with
    | none => rw [hv] at h; cases h
    | some p =>
      obtain ⟨o, m, xs⟩ := p
      rw [hv] at h
      obtain ⟨ap, cp, pos, ee, hl⟩ := vDo_is hv
      subst ee
      cases o with
      | Name x pp =>
        match xs, h with
        | [ex], h =>
          simp only [Bool.and_eq_true, decide_eq_true_eq] at h
          obtain ⟨⟨h1, h2⟩, h3⟩ := h
          subst h1
          exact sExt (nmOk cs.toCD h2) (mE_ok E e cs.toCD h3) hl
      | _ => exact absurd h Bool.false_ne_true
  | .sub i k E, st, sc, W, X, e, cs, h => by
    unfold mS at h
    cases hv : vAsg st with
    | none => rw [hv] at h; cases h
    | some p =>
      obtain ⟨tg, ex⟩ := p
      rw [hv] at h
      obtain ⟨pos, ee⟩ := vAsg_is hv
      subst ee
      cases tg with
      | Subscript o kx tp =>
        cases o with
        | Name x pp =>
          simp only [Bool.and_eq_true] at h
          exact sSub cs.hu (nmOk cs.toCD h.1.1.1) (mE_ok k e cs.toCD h.1.2) (mE_ok E e cs.toCD h.2) h.1.1.2
        | _ => exact absurd h Bool.false_ne_true
      | _ => exact absurd h Bool.false_ne_true
  | .aug i o E, st, sc, W, X, e, cs, h => by
    unfold mS at h
    cases st with
    | AugAssign tg o' ex pos =>
      cases tg with
      | Name x p =>
        simp only [Bool.and_eq_true, decide_eq_true_eq] at h
        obtain ⟨⟨h1, h2⟩, h3⟩ := h
        subst h1
        obtain ⟨q1, q2⟩ := loc_ok cs.toCD h2
        exact sAug cs.ao q1 q2 (mE_ok E e cs.toCD h3)
      | _ => exact absurd h Bool.false_ne_true
    | _ => exact absurd h Bool.false_ne_true
  | .augs i k o E, st, sc, W, X, e, cs, h => by
    unfold mS at h
    cases st with
    | AugAssign tg o' ex pos =>
      cases tg with
      | Subscript ob kx tp =>
        cases ob with
        | Name x p =>
          simp only [Bool.and_eq_true, decide_eq_true_eq] at h
          obtain ⟨⟨⟨h1, h2⟩, h3⟩, h4⟩ := h
          subst h1
          exact sAugs cs.hu (nmOk cs.toCD h2) (mE_ok k e cs.toCD h3) (mE_ok E e cs.toCD h4)
        | _ => exact absurd h Bool.false_ne_true
      | _ => exact absurd h Bool.false_ne_true
    | _ => exact absurd h Bool.false_ne_true
  | .pop t i, st, sc, W, X, e, cs, h => by
    unfold mS at h
    cases hv : vAsg st with
    | none => rw [hv] at h; cases h
    | some p =>
      obtain ⟨tg, ex⟩ := p
      rw [hv] at h
      obtain ⟨pos, ee⟩ := vAsg_is hv
      subst ee
      rw [Bool.and_eq_true] at h
      obtain ⟨h1, h2⟩ := h
      cases hm : vMeth ex with
      | none => rw [hm] at h2; cases h2
      | some q =>
        obtain ⟨o, m, xs⟩ := q
        rw [hm] at h2
        obtain ⟨ap, cp, ee, hl⟩ := vMeth_is hm
        subst ee
        cases o with
        | Name x pp =>
          match xs, h2 with
          | [], h2 =>
            simp only [Bool.and_eq_true, decide_eq_true_eq] at h2
            obtain ⟨k1, k2⟩ := h2
            subst k1
            exact sPop cs.ao (by rw [cs.n]; exact h1) (nmOk cs.toCD k2) hl
        | _ => exact absurd h2 Bool.false_ne_true
  | .del i k, st, sc, W, X, e, cs, h => by
    unfold mS at h
    cases st with
    | Delete ts pos =>
      match ts, h with
      | [.Subscript (.Name x p) kx tp], h =>
        simp only [Bool.and_eq_true] at h
        exact sDel (nmOk cs.toCD h.1) (mE_ok k e cs.toCD h.2)
    | _ => exact absurd h Bool.false_ne_true
  | .par i j a b, st, sc, W, X, e, cs, h => by
    unfold mS at h
    cases hv : vAsg st with
    | none => rw [hv] at h; cases h
    | some p =>
      obtain ⟨tg, ex⟩ := p
      rw [hv] at h
      obtain ⟨pos, ee⟩ := vAsg_is hv
      subst ee
      match tg, ex, h with
      | .Tuple [.Name x px, .Name y py] kt pt, .Tuple [ax, bx] k2 pt2, h =>
        simp only [Bool.and_eq_true, decide_eq_true_eq, Bool.not_eq_true'] at h
        obtain ⟨⟨⟨⟨⟨⟨⟨⟨⟨h1, h2⟩, h3⟩, h4⟩, h5⟩, h6⟩, h7⟩, h8⟩, h9⟩, h10⟩ := h
        exact sPar cs.calm (by rw [cs.n]; exact cs.nd) (by rw [cs.n]; exact h1) (by rw [cs.n]; exact h2) (by rw [cs.sc]; exact h3) (by rw [cs.sc]; exact h4) (mE_ok a e cs.toCD h9) (mE_ok b e cs.toCD h10) (by rw [cs.sc]; exact cs.fk) h5 h6 h7 h8
  | .sat c n i E, st, sc, W, X, e, cs, h => by
    unfold mS at h
    cases hv : vAsg st with
    | none => rw [hv] at h; cases h
    | some p =>
      obtain ⟨tg, ex⟩ := p
      rw [hv] at h
      obtain ⟨pos, ee⟩ := vAsg_is hv
      subst ee
      match tg, h with
      | .Attribute (.Name x pp) nm tp, h =>
        simp only [Bool.and_eq_true] at h
        obtain ⟨⟨⟨h1, h2⟩, h3⟩, h4⟩ := h
        cases hl : tb.cf.lookup c with
        | none => rw [hl] at h1; cases h1
        | some l =>
          rw [hl] at h1
          simp only [Bool.and_eq_true, decide_eq_true_eq] at h1
          obtain ⟨fo, hcf⟩ := cs.fx.fld c l (lookup_mem hl)
          exact sSat fo (by rw [hcf]; exact h1.1) (by rw [hcf, List.length_map]; exact h1.2) (nmOk cs.toCD h2) (mE_ok E e cs.toCD h4) h3
  | .frz i, st, sc, W, X, e, cs, h => by unfold mS at h; cases h
  | .raise c es, st, sc, W, X, e, cs, h => by
    unfold mS at h
    exact raise_ok cs h
  | .try b hs, st, sc, W, X, e, cs, h => by
    unfold mS at h
    cases st with
    | Try body hds els fin pos =>
      have h : (els.isEmpty && fin.isEmpty && !hds.isEmpty && mL tb N sc b body && mHds tb N sc hs hds) = true := h
      rw [Bool.and_eq_true, Bool.and_eq_true, Bool.and_eq_true, Bool.and_eq_true, Bool.not_eq_true'] at h
      obtain ⟨⟨⟨⟨h1, h2⟩, h3⟩, h4⟩, h5⟩ := h
      cases els with
      | cons _ _ => cases h1
      | nil =>
        cases fin with
        | cons _ _ => cases h2
        | nil => exact sTry cs (fun cs' => mL_ok b e cs' h4) h3 h5
    | _ => exact absurd h Bool.false_ne_true
theorem mL_ok : ∀ (ss : List S) {sts : List Stmt} {sc : Scope} {W : WX} {X : Cx} (e : Ent), CS gd tb Φ lv N sc W X → mL tb N sc ss sts = true → OkL gd e W X Φ kk sts ss
  | [], sts, sc, W, X, e, cs, h => by
    unfold mL at h
    cases sts with
    | nil => exact lNil
    | cons _ _ => cases h
  | s :: ss, sts, sc, W, X, e, cs, h => by
    cases s with
    | frz i =>
      unfold mL at h
      exact lFrz (mL_ok ss e cs h)
    | _ =>
      unfold mL at h
      cases sts with
      | nil => exact absurd h Bool.false_ne_true
      | cons st sts =>
        have h : (mS tb N sc _ st && mL tb N sc ss sts) = true := h
        rw [Bool.and_eq_true] at h
        exact lCons (mS_ok _ e cs h.1) (mL_ok ss e cs h.2)
end
end
end Mp
/-! a module's defs do what `run` says -/
namespace Mp
open PySem PySem.Spec PyProof.Rows L2 PySem.SeqAt

/-- the def at a is the text d -/
def FAt (K : PySem.W.Frag) (tb : Tbl) (d : Def) (a : Addr) (fd : FuncData) (ps : List Str) : Prop :=
  ∃ (oc : Value) (od : Option Addr) (osl : Array (Option Value)) (name qual : Str) (params : Arguments) (body : List Stmt) (scope : Scope) (dV kV doc pm : Value) (an : Option Addr) (cdv ct : Value) (N : List Str),
    fd = PySem.W.fnOf name qual params body scope dV kV doc pm an cdv ct ∧
    K.lookup a = some ⟨oc, od, .func (PySem.W.fnOf name qual params body scope dV kV doc pm an cdv ct), osl⟩ ∧ PySem.W.codeIn K cdv qual = true ∧ FnScope N ps scope ∧
    Binds K (PySem.W.fnOf name qual params body scope dV kV doc pm an cdv ct) ps [] ∧ mL tb N scope d.body body = true ∧ ps.length = d.sig.np ∧ N.length = d.nv
def FA (K : PySem.W.Frag) (tb : Tbl) (d : Def) (a : Addr) : Prop := ∃ fd ps, FAt K tb d a fd ps
/-- what a module is known to hold -/
structure MF (prog : Program) (w : World) (base : Heap) (K : PySem.W.Frag) (mg : Str → Option Value) (gd : Gd) (tb : Tbl) (P : String → Option Def) : Prop where
  kk : gd.K = K
  fn : ∀ f g, (f, g) ∈ tb.fns → g.ini = none ∧ ∃ a d, mg f = some (.ref a) ∧ PySem.W.keepIn K (.ref a) = true ∧ P f = some d ∧ d.sig = g ∧ FA K tb d a
  ini : ∀ c g, (c, g) ∈ tb.inits → g.ini = some c ∧ ∃ C a d, mg c = some (.ref C) ∧ gd.mg c = some (.ref C) ∧ Mk K C a ∧ P (c ++ ".__init__") = some d ∧ d.sig = g ∧ FA K tb d a
  met : ∀ c m g, (c, m, g) ∈ tb.mets → g.ini = none ∧ ∃ C a d, gd.mg c = some (.ref C) ∧ Cls K C ∧ Meth K C m a ∧ (m : Str) ∉ gd.cf c ∧ P (c ++ "." ++ m) = some d ∧ d.sig = g ∧ FA K tb d a
  prp : ∀ c m g, (c, m, g) ∈ tb.prps → g.ini = none ∧ ∃ C a pr d, gd.mg c = some (.ref C) ∧ Cls K C ∧ PropOf K C m pr a ∧ P (c ++ "." ++ m) = some d ∧ d.sig = g ∧ FA K tb d a
  fld : ∀ c l, (c, l) ∈ tb.cf → (∀ X : Cx, X.K = K → FldOk gd X c) ∧ gd.cf c = l.map Str.ofString
  glo : ∀ x d, (x, d) ∈ tb.glos → isScal d = true ∧ ∃ v u, mg x = some u ∧ RelV v u ∧ ∀ F, Rep gd F v d
  bi : ∀ n ∈ bnames, mg n = none
  exA : ∀ c, (c, none) ∈ tb.xcs → ∃ C, mg c = some (.ref C) ∧ gd.mg c = some (.ref C) ∧ ExcA K C
  exB : ∀ c n, (c, some n) ∈ tb.xcs → gd.cf c = [Str.ofString n] ∧ ∃ C, mg c = some (.ref C) ∧ gd.mg c = some (.ref C) ∧ ExcB prog w K mg base C n
  hnd : ∀ c ys ns, (c, ys, ns) ∈ tb.hnd → ∃ C, mg c = some (.ref C) ∧ (∀ x ∈ ys, HndOk K gd C x true) ∧ ∀ x ∈ ns, HndOk K gd C x false

section
variable {prog : Program} {w : World} {K : PySem.W.Frag} {mg : Str → Option Value} {base : Heap} {gd : Gd} {tb : Tbl} {P : String → Option Def}
/-- the defs of the module, n calls deep -/
def FK (prog : Program) (w : World) (K : PySem.W.Frag) (mg : Str → Option Value) (base : Heap) (gd : Gd) (tb : Tbl) (P : String → Option Def) (n : Nat) : Prop :=
  ∀ f d a fd ps, P f = some d → FAt K tb d a fd ps → FnOk prog w K mg base (L2.CX prog w) (2 * n) a fd ps (spF gd d.sig (run P n f)) ∧ Binds K fd ps []
theorem FK.ex {n : Nat} (k : FK prog w K mg base gd tb P n) {f : String} {d : Def} {a : Addr} (h : P f = some d) (h' : FA K tb d a) : ∃ fd ps, FnOk prog w K mg base (L2.CX prog w) (2 * n) a fd ps (spF gd d.sig (run P n f)) ∧ Binds K fd ps [] :=
  let ⟨fd, ps, x⟩ := h'
  ⟨fd, ps, k f d a fd ps h x⟩
theorem fx_of {X : Cx} {n : Nat} (m : MF X.prog X.w X.base X.K X.mg gd tb P) (k : FK X.prog X.w X.K X.mg X.base gd tb P n) (hr : Room (2 * n + 1) X.A) : Fx gd tb (run P n) (2 * n) X where
  room := hr
  kk := m.kk
  fn := fun f g h => by
    obtain ⟨h1, a, d, h2, h3, h4, h5, h6⟩ := m.fn f g h
    subst h5
    exact ⟨h1, a, h2, h3, k.ex h4 h6⟩
  ini := fun c g h => by
    obtain ⟨h1, C, a, d, h2, h3, h4, h5, h6, h7⟩ := m.ini c g h
    subst h6
    exact ⟨h1, C, a, h2, h3, h4, k.ex h5 h7⟩
  met := fun c mm g h => by
    obtain ⟨h1, C, a, d, h2, h3, h4, h5, h6, h7, h8⟩ := m.met c mm g h
    subst h7
    exact ⟨h1, C, a, h2, h3, h4, h5, k.ex h6 h8⟩
  prp := fun c mm g h => by
    obtain ⟨h1, C, a, pr, d, h2, h3, h4, h5, h6, h7⟩ := m.prp c mm g h
    subst h6
    exact ⟨h1, C, a, pr, h2, h3, h4, k.ex h5 h7⟩
  fld := fun c l h => ⟨(m.fld c l h).1 X rfl, (m.fld c l h).2⟩
  glo := m.glo
  bi := m.bi
  exA := m.exA
  exB := m.exB
  hnd := m.hnd
/-! ### the entry -/
theorem args_at {F H : Hp} : ∀ {bs : List Bool} {vs : List V} {ds : List D} {m : Nat}, RepM gd bs F H vs ds → ∀ (i : Nat) (sl : Sl), (argE bs ds ++ List.replicate m Sl.no)[i]? = some sl →
    match sl with
    | .no => True
    | .val d => ∃ v, (vs.map some ++ List.replicate m (none : Option V))[i]? = some (some v) ∧ Rep gd F v d
    | .bor d => ∃ v, (vs.map some ++ List.replicate m (none : Option V))[i]? = some (some v) ∧ Rep gd H v d
    | .own _ _ => False
  | bs, vs, [], m, r, i, sl, h => by
    unfold argE at h
    rw [List.nil_append] at h
    rw [List.getElem?_replicate] at h
    split at h
    · cases h; exact True.intro
    · cases h
  | bs, vs, d :: ds, m, r, i, sl, h => by
    unfold RepM at r
    obtain ⟨v, r', ev, h1, h2⟩ := r
    subst ev
    unfold argE at h
    cases i with
    | zero =>
      rw [List.cons_append, List.getElem?_cons_zero] at h
      cases h
      rw [List.map_cons, List.cons_append]
      cases hb : bs.headD false with
      | true => rw [hb, if_pos rfl] at h1; exact ⟨v, rfl, h1⟩
      | false => rw [hb, if_neg (by decide)] at h1; exact ⟨v, rfl, h1⟩
    | succ i =>
      rw [List.cons_append, List.getElem?_cons_succ] at h
      have := args_at (m := m) h2 i sl h
      rw [List.map_cons, List.cons_append]
      cases sl <;> first | exact True.intro | exact this
theorem argE_len : ∀ {bs : List Bool} {ds : List D}, (argE bs ds).length = ds.length
  | _, [] => rfl
  | bs, d :: ds => by unfold argE; rw [List.length_cons, List.length_cons, argE_len]
/-- a def's entry -/
theorem entry_frm {g : Sig} {nv : Nat} {N : List Str} {F H : Hp} {vs : List V} {ds : List D} (hi : g.ini = none) (hN : N.length = nv) (hl : vs.length ≤ nv) (le : Le F H) (r : RepM gd g.bs F H vs ds) :
    Frm gd ⟨F, H, H, none⟩ (ini g nv ds) F (start N vs) H (fun _ => []) := by
  have hlen := RepM.length r
  have at' : ∀ i sl, (ini g nv ds)[i]? = some sl → _ := fun i sl h => args_at (m := nv - ds.length) r i sl (by unfold ini at h; rw [hi] at h; exact h)
  have es : start N vs = vs.map some ++ List.replicate (nv - ds.length) none := by unfold L2.start; rw [hN, hlen]
  refine ⟨fun _ _ z => z, le, fun _ _ z => z, fun _ h h' => absurd h h', LeL.refl _, ?_, fun i d h => ?_, fun i d h => ?_, fun i k d h => ?_, fun i k d h => ?_, fun i j k l d d' _ h => ?_, fun v k d h => by cases h⟩
  · rw [es]; unfold ini; rw [hi]
    show _ = (argE g.bs ds ++ _).length
    rw [List.length_append, List.length_append, List.length_map, argE_len, hlen, List.length_replicate, List.length_replicate]
  · rw [es]; exact at' i _ h
  · rw [es]; exact at' i _ h
  · exact (at' i _ h).elim
  · exact (at' i _ h).elim
  · exact (at' i _ h).elim
theorem entry_ini {g : Sig} {nv : Nat} {N : List Str} {F H0 : Hp} {x dx C : Addr} {c : String} {vs : List V} {ds : List D} (hi : g.ini = some c) (hN : N.length = nv) (hl : vs.length + 1 ≤ nv) (le : Le F H0) (r : RepM gd g.bs F H0 vs ds)
    (h1 : H0 x = none) (h2 : H0 dx = none) (hne : dx ≠ x) (hm : gd.mg c = some (.ref C)) :
    Frm gd ⟨F, H0, H0, some (.ref x)⟩ (ini g nv ds) F (start N (.ref x :: vs)) (upd (upd H0 dx (.own x)) x (.ins C dx [])) (fun i => if i = 0 then [x, dx] else []) := by
  have hlen := RepM.length r
  have same : Same H0 (upd (upd H0 dx (.own x)) x (.ins C dx [])) := fun a o z => by
    rw [upd_ne (ne_of_none z h1), upd_ne (ne_of_none z h2)]; exact z
  have e0 : ini g nv ds = .own 0 (.obj c []) :: (argE g.bs ds ++ List.replicate (nv - (ds.length + 1)) .no) := by unfold ini; rw [hi]
  have es : start N (.ref x :: vs) = some (.ref x) :: (vs.map some ++ List.replicate (nv - (ds.length + 1)) none) := by unfold L2.start; rw [hN, List.length_cons, hlen]; rfl
  have at' : ∀ i sl, (ini g nv ds)[i + 1]? = some sl → _ := fun i sl h => args_at (m := nv - (ds.length + 1)) r i sl (by rw [e0] at h; exact h)
  have noown : ∀ i k d, (ini g nv ds)[i]? = some (.own k d) → i = 0 ∧ k = 0 ∧ d = .obj c [] := fun i k d h => by
    cases i with
    | zero => rw [e0] at h; cases h; exact ⟨rfl, rfl, rfl⟩
    | succ i => exact (at' i _ h).elim
  refine ⟨same, Le.trans le (Le.of_same same), fun _ _ z => z, fun _ h h' => absurd h h', LeL.refl _, ?_, fun i d h => ?_, fun i d h => ?_, fun i k d h => ?_, fun i k d h a m => ?_, fun i j k l d d' ne h h' => ?_, fun v k d h h' => ?_⟩
  · rw [es, e0, List.length_cons, List.length_cons, List.length_append, List.length_append, List.length_map, argE_len, hlen, List.length_replicate, List.length_replicate]
  · cases i with
    | zero => rw [e0] at h; cases h
    | succ i => rw [es]; exact at' i _ h
  · cases i with
    | zero => rw [e0] at h; cases h
    | succ i => rw [es]; exact at' i _ h
  · obtain ⟨rfl, rfl, rfl⟩ := noown i k d h
    refine ⟨.ref x, by rw [es]; rfl, .inr ⟨x, rfl, le.none h1, ?_, .inr (.inr (.inr ⟨c, [], C, dx, [], [], rfl, Nat.zero_le _, hm, le.none h2, ?_, ?_, True.intro, rfl⟩))⟩⟩
    · show [x, dx].Nodup
      rw [List.nodup_cons, List.mem_singleton]
      exact ⟨fun z => hne z.symm, List.nodup_cons.mpr ⟨List.not_mem_nil, List.nodup_nil⟩⟩
    · rw [upd_ne hne, upd_same]
    · rw [upd_same, List.zip_nil_right]
  · obtain ⟨rfl, rfl, rfl⟩ := noown i k d h
    have m : a ∈ [x, dx] := m
    rw [List.mem_cons, List.mem_singleton] at m
    rcases m with z | z <;> (subst z; assumption)
  · obtain ⟨z, _, _⟩ := noown i k d h
    obtain ⟨z', _, _⟩ := noown j l d' h'
    exact absurd (z.trans z'.symm) ne
  · cases h; rw [es]; rfl
/-- a def's end -/
theorem end_none {g : Sig} {F H : Hp} {Q : VK} {E : XK} {r : RS} {T0 : Nat} (hi : g.ini = none) (h : RW (outS g r) (KE gd g.k Q F H) (XX gd E F H)) : WS gd ⟨F, H, H, none⟩ (fun cls d _ H => E cls d H) g.k { nx := fun _ H' => Q .non H', rt := Q } r := by
  unfold outS at h
  rw [hi] at h
  cases r with
  | rt d => exact h
  | nx env => exact fun σ F' H' T f => (show KE gd g.k Q F H .non from h) .non F' H' [] f.entry (rep_atom rfl (by unfold Rep; rfl)) fun _ z => by cases z
  | exc c x env => exact fun σ F' H' T C dd f xr => (show XX gd E F H c x from h) C dd F' H' f.entry xr
  | bk _ => exact h.elim
  | ct _ => exact h.elim
  | bad => exact h.elim
theorem end_ini {g : Sig} {F H0 : Hp} {x : Addr} {c : String} {Q : VK} {E : XK} {r : RS} (hi : g.ini = some c) (h : RW (outS g r) (fun d => ∀ F' H' S, Grow F H0 F' H' → RepN gd g.k F' H' (.ref x) d S → (∀ a ∈ S, H0 a = none) → Q .non H') (XX gd E F H0)) :
    WS gd ⟨F, H0, H0, some (.ref x)⟩ (fun cls d _ H => E cls d H) g.k { nx := fun _ H' => Q .non H', rt := Q } r := by
  unfold outS at h
  rw [hi] at h
  cases r with
  | rt d => exact h.elim
  | nx env =>
    have h : RW (match (env[0]? : Option Sl) with | some (.own k d) => if k + 1 = g.k then R.ok d else .bad | _ => .bad) _ _ := h
    cases q : env[0]? with
    | none => rw [q] at h; exact h.elim
    | some sl =>
      rw [q] at h
      cases sl with
      | own k d =>
        have h : RW (if k + 1 = g.k then R.ok d else .bad) _ _ := h
        by_cases z : k + 1 = g.k
        · rw [if_pos z] at h
          intro σ F' H' T f
          obtain ⟨v, hv, r⟩ := f.own 0 k d q
          have := f.pin (.ref x) k d rfl q
          rw [hv] at this; cases this
          rw [z] at r
          exact h F' H' (T 0) f.entry r (f.frs 0 k d q)
        · rw [if_neg z] at h; exact h.elim
      | _ => exact h.elim
  | exc c x env => exact fun σ F' H' T C dd f xr => (show XX gd E F H0 c x from h) C dd F' H' f.entry xr
  | bk _ => exact h.elim
  | ct _ => exact h.elim
  | bad => exact h.elim
theorem fk_zero : FK prog w K mg base gd tb P 0 := fun f d a fd ps hP ⟨oc, od, osl, name, qual, params, body, scope, dV, kV, doc, pm, an, cdv, ct, N, ef, lk, hcd, S, hb, hm, hl, hN⟩ => by
  subst ef
  have no : ∀ {vs H Q E}, spF gd d.sig (run P 0 f) vs H Q E → False := fun {vs H Q E} h => by
    obtain ⟨_, h⟩ := h
    cases hi : d.sig.ini with
    | none => rw [hi] at h; obtain ⟨F, ds, _, _, h⟩ := h; exact h
    | some c => rw [hi] at h; obtain ⟨x, dx, C, H0, F, ws, ds, _, _, _, _, _, _, _, _, h⟩ := h; exact h
  exact ⟨⟨fun vs H Q E h => (no h).elim, fun A outer s H args us vs Q E _ _ _ _ h => (no h).elim⟩, hb⟩
theorem fk_succ {n : Nat} (m : MF prog w base K mg gd tb P) (k : FK prog w K mg base gd tb P n) : FK prog w K mg base gd tb P (n + 1) := fun f d a fd ps hP ⟨oc, od, osl, name, qual, params, body, scope, dV, kV, doc, pm, an, cdv, ct, N, ef, lk, hcd, S, hb, hm, hl, hN⟩ => by
  subst ef
  refine ⟨fn_of (k := 2 * n + 1) lk hcd S (fun vs H Q E h => by rw [hl]; exact h.1) ?_, hb⟩
  intro A outer s H vs Q E hr hsp
  have er : ∀ ds, run P (n + 1) f ds = outS d.sig (exL (run P n) d.sig.k d.body (ini d.sig d.nv ds)) := fun ds => by
    show (match P f with | none => R.bad | some d => outS d.sig (exL (run P n) d.sig.k d.body (ini d.sig d.nv ds))) = _
    rw [hP]
  have hpl : ps.length ≤ N.length := by have := congrArg List.length S.pre; rw [List.length_take] at this; omega
  obtain ⟨hv, hsp⟩ := hsp
  have cs : ∀ e : XK, CS gd tb (run P n) (2 * n) N scope (fun cls d _ H => e cls d H) (cxOf (L2.CX prog w) prog w K mg base N qual scope a cdv A outer s H e) := fun e =>
    { n := rfl, nd := S.nd, sc := rfl, calm := rfl, tk := takes_of rfl rfl rfl rfl, fx := fx_of m k hr, pa := passes_of rfl, ao := ⟨S.nd, rfl, fun x h => ⟨h, .inl rfl⟩⟩, fk := S.kind, st := rfl, fr := rfl }
  cases hi : d.sig.ini with
  | none =>
    rw [hi] at hsp
    obtain ⟨F, ds, le, r, h⟩ := hsp
    rw [er] at h
    exact ⟨_, mL_ok (kk := d.sig.k) d.body ⟨F, H, H, none⟩ (cs E) hm, _, F, _, entry_frm hi hN (by rw [hv, ← hl, ← hN]; exact hpl) le r, end_none (T0 := 0) hi h⟩
  | some c =>
    rw [hi] at hsp
    obtain ⟨x, dx, C, H0, F, ws, ds, ev, eH, h1, h2, hne, hmg, le, r, h⟩ := hsp
    rw [er] at h
    subst ev; subst eH
    rw [List.length_cons] at hv
    exact ⟨_, mL_ok (kk := d.sig.k) d.body ⟨F, H0, H0, some (.ref x)⟩ (cs E) hm, _, F, _, entry_ini hi hN (by rw [hv, ← hl, ← hN]; exact hpl) le r h1 h2 hne hmg, end_ini hi h⟩
/-- THE DEFS: each does what its text says -/
theorem fk (m : MF prog w base K mg gd tb P) : ∀ n, FK prog w K mg base gd tb P n
  | 0 => fk_zero
  | n + 1 => fk_succ m (fk m n)
end
end Mp
/-! a law's def, handed over -/
namespace Mp
open PySem PySem.Spec PyProof.Rows L2 PySem.SeqAt

/-- all of a list -/
def AllL {α : Type} (p : α → Prop) : List α → Prop
  | [] => True
  | x :: xs => p x ∧ AllL p xs
theorem AllL.get {α : Type} {p : α → Prop} : ∀ {l : List α}, AllL p l → ∀ x ∈ l, p x
  | y :: ys, h, x, m => by
    rcases List.mem_cons.mp m with z | z
    · exact z ▸ h.1
    · exact AllL.get h.2 x z
/-! ### exception classes -/
/-- what every one of them has -/
structure XFacts (K : PySem.W.Frag) (C : Addr) : Prop where
  kp : PySem.W.keepIn K (.ref C) = true
  bs : PySem.W.subIn K (.ref C) (.type "BaseException") = some true
  ty : PySem.W.typeIn K (.ref C) = some (.type "type")
  hd : PySem.W.hasDictIn K C = true
  ga : PySem.W.findIn K (.ref C) "__getattribute__" = some (some (.builtin "BaseException.__getattribute__"))
  gg : PySem.W.findIn K (.ref C) "__getattr__" = some none
  cl : PySem.W.findIn K (.ref C) "__class__" = some (some (.builtin "object.__class__"))
  ob : PySem.W.mroIn K C (.type "object") = some true
  me : PySem.W.mroIn K C (.ref C) = some true
theorem XFacts.exc {K : PySem.W.Frag} {C : Addr} (x : XFacts K C) (hn : PySem.W.specialIn K (.builtin "object.__class__") "__get__" = some (some (.builtin "getset_descriptor.__get__"))) (ht : PySem.W.takesIn K (.builtin "object.__class__") = some true) : ExcC K C :=
  ⟨x.ga, x.gg, x.bs, x.hd, x.cl, hn, ht, x.ob⟩
theorem XFacts.xf {K : PySem.W.Frag} {C : Addr} (x : XFacts K C) : XfC K C := ⟨x.ga, x.gg, x.bs, x.hd⟩
theorem kit_sub {K : PySem.W.Frag} {C C' : Addr} {b : Bool} (x : XFacts K C') (h : PySem.W.subIn K (.ref C) (.ref C') = some b) : PySem.W.kitOne K (.ref C) (.ref C') = some b := by
  unfold PySem.W.kitOne
  by_cases z : C = C'
  · subst z
    have me : PySem.W.subIn K (.ref C) (.ref C) = some true := x.me
    rw [me] at h; cases h
    simp
  · have ne : ((Value.ref C == Value.ref C') : Bool) = false := by simp [z]
    rw [ne, if_neg (by decide)]
    obtain ⟨cd, hc, _⟩ := PySem.W.any_some x.hd
    have e2 : ((PySem.W.clsIn K C').isSome && PySem.W.typeIn K (.ref C') == some (.type "type")) = true := by rw [hc, x.ty] <;> rfl
    show (if ((PySem.W.clsIn K C').isSome && PySem.W.typeIn K (.ref C') == some (.type "type")) = true then PySem.W.subIn K (.ref C) (.ref C') else none) = some b
    rw [if_pos e2]; exact h
theorem hnd_mk {K : PySem.W.Frag} {gd : Gd} {c : String} {C C' : Addr} {b : Bool} (hm : gd.mg c = some (.ref C)) (x : XFacts K C) (x' : XFacts K C') (h : PySem.W.subIn K (.ref C) (.ref C') = some b) (hn : PySem.W.specialIn K (.builtin "object.__class__") "__get__" = some (some (.builtin "getset_descriptor.__get__"))) (ht : PySem.W.takesIn K (.builtin "object.__class__") = some true) :
    HndOk K gd C' c b := ⟨C, hm, PySem.W.exm_ref x'.bs x'.hd x'.ty h, x.exc hn ht, kit_sub x' h⟩
theorem excA_mk {K : PySem.W.Frag} {C : Addr} (x : XFacts K C) (h : PySem.W.excIn K C [.type "ValueError", .type "Exception", .type "BaseException", .type "object"] "ValueError.__new__" = true) : ExcA K C :=
  ⟨_, _, F.excBase_ValueError, h, x.kp, x.bs, x.ty⟩
/-- the text of its own __init__ -/
structure ExiTxt (st : Stmt) (attr pr : Str) : Prop where
  body : ∃ txt p0 p1 p2 p3 p4 p5 p6 p7 p8 p9 j, defBody st = exiBody attr pr txt p0 p1 p2 p3 p4 p5 p6 p7 p8 p9 j ∧ (p2.endLine == p4.line) = true
  head : ∃ ar, ((defArgs st).posonlyargs ++ (defArgs st).args).head? = some ar ∧ ar.arg = "self"
  kind : (defScope st).kind = .function
  co : (defScope st).isCoroutine = false
  gen : (defScope st).isGenerator = false
  nocell : ∀ x ∈ (defScope st).names, x.2 ≠ .cell
  nofree : ∀ x ∈ (defScope st).names, x.2 = .free → x.1 = "__class__"
  sup : (defScope st).names.lookup ("super" : Str) = some .globalImplicit
  cls : (defScope st).names.lookup ("__class__" : Str) = some .free
  self : (defScope st).names.lookup ("self" : Str) = some .local
  par : (defScope st).names.lookup pr = some .local
  db : (pr == ("__debug__" : Str)) = false
  cd : (pr == ("__classdict__" : Str)) = false
  ne : ("self" : Str) ≠ pr
theorem excB_mk {prog : Program} {w : World} {K : PySem.W.Frag} {mg : Str → Option Value} {base : Heap} {C fI cda cc N : Addr} {st : Stmt} {n par nm q qual file : Str} {bs bm : List Value} {sn : List Str} {sub : List Value} {ab : Bool} {col : Option Bool} {dd od an cdd cld : Option Addr} {k0 k1 k2 k3 k5 : Option Value}
    {oc kV doc pm ct ccl cl : Value} {osl ccs csl : Array (Option Value)} {vs : Array Value} {tf : Tok}
    (T : ExiTxt st n par) (hb : ∀ (kV doc pm : Value) (an : Option Addr) (cdv ct : Value) (cc : Addr) (us : List Value), us.length = (["self", par] : List Str).length → bindArgs (PySem.W.ksFn "__init__" qual (defArgs st) (defBody st) (defScope st) .none kV doc pm an cdv ct cc) ⟨us, []⟩ = pure ((["self", par] : List Str).zip us)) (x : XFacts K C)
    (lC : K.lookup C = some (excClassObj nm q C N bs bm true sn sub ab col dd k0 k1 k2 k3 k5 "ValueError.__new__")) (rv : PySem.HandSPX.refsVE bm = true) (sa : PySem.W.findIn K (.ref C) "__setattr__" = some (some (.builtin "object.__setattr__")))
    (iC : PySem.W.findIn K (.ref C) "__init__" = some (some (.ref fI))) (tI : PySem.W.typeIn K (.ref fI) = some (.type "function")) (lI : K.lookup fI = some ⟨oc, od, .func (PySem.W.ksFn "__init__" qual (defArgs st) (defBody st) (defScope st) .none kV doc pm an (.ref cda) ct cc), osl⟩) (cI : PySem.W.codeIn K (.ref cda) qual = true)
    (lD : K.lookup cda = some ⟨ccl, cdd, .fields vs, ccs⟩) (vF : vs[2]? = some (.str file tf)) (fF : ((prog.main.file : Str) == file) = true) (lc : K.lookup cc = some ⟨cl, cld, .cell (some (.ref C)), csl⟩) (no : PySem.W.findIn K (.ref C) n = some none)
    (up : PySem.W.ks_superIn K C C "__init__" = some (some (.builtin "ValueError.__init__"))) (ve : PySem.W.subIn K (.ref C) (.type "ValueError") = some true) (so : PySem.W.nsIn K cStatics "thirdparty.any" = some none) (ns : PySem.W.nsIn K mainGlobals "super" = some none) (top : (prog.main.scope.names.lookup ("super" : Str)).isSome = false) :
    ExcB prog w K mg base C n := by
  obtain ⟨txt, p0, p1, p2, p3, p4, p5, p6, p7, p8, p9, j, eb, hl⟩ := T.body
  obtain ⟨ar, h1, h2⟩ := T.head
  have O : OexC K C := ⟨⟨nm, q, N, bs, bm, sn, sub, ab, col, dd, k0, k1, k2, k3, k5, lC, rv⟩, sa, x.bs, x.ty, x.kp⟩
  have b := hb
  rw [eb] at lI b
  exact ⟨fI, _, par, O, x.xf, iC, tI, exi_fn ⟨⟨oc, od, osl, "__init__", qual, txt, _, _, _, kV, doc, pm, ct, an, cda, cc, p0, p1, p2, p3, p4, p5, p6, p7, p8, p9, j, ar, ccl, cdd, vs, ccs, file, tf, cl, cld, csl, rfl, lI, cI, h1, h2, lD, vF, fF, lc, T.kind, T.co, T.gen, T.nocell, T.nofree, T.sup, T.cls, T.self, T.par, T.db, T.cd, T.ne, hl⟩, O, no, up, ve, x.me, so, ns, top⟩,
    .all (b kV doc pm an (.ref cda) ct cc), no⟩
section
variable {prog : Program} {w : World} {base : Heap} {K : PySem.W.Frag} {mg : Str → Option Value} {tb : Tbl} {P : String → Option Def}
/-- a def by its place in the program's text -/
theorem fat_mk {x qual : Str} {st : Stmt} {f : Addr} {oc : Value} {od an : Option Addr} {osl : Array (Option Value)} {kV doc pm cdv ct : Value} {d : Def} {N ps : List Str}
    (l : K.lookup f = some ⟨oc, od, .func (PySem.W.fnOf x qual (defArgs st) (defBody st) (defScope st) .none kV doc pm an cdv ct), osl⟩)
    (c : PySem.W.codeIn K cdv qual = true) (k : PySem.W.keepIn K (.ref f) = true) (S : FnScope N ps (defScope st))
    (hb : ∀ (kV doc pm : Value) (an : Option Addr) (cdv ct : Value) (us : List Value), us.length = ps.length → bindArgs (PySem.W.fnOf x qual (defArgs st) (defBody st) (defScope st) .none kV doc pm an cdv ct) ⟨us, []⟩ = pure (ps.zip us))
    (hm : mL tb N (defScope st) d.body (defBody st) = true) (hp : ps.length = d.sig.np) (hN : N.length = d.nv) :
    FAt K tb d f (PySem.W.fnOf x qual (defArgs st) (defBody st) (defScope st) .none kV doc pm an cdv ct) ps :=
  ⟨oc, od, osl, x, qual, _, _, _, .none, kV, doc, pm, an, cdv, ct, N, rfl, l, c, S, (L2.fun_mk (st := st) l c k).binds hb, hm, hp, hN⟩
/-- what the module is known to hold, item by item -/
theorem mf_of (fn : AllL (fun p : String × Sig => p.2.ini = none ∧ ∃ a d, mg p.1 = some (.ref a) ∧ PySem.W.keepIn K (.ref a) = true ∧ P p.1 = some d ∧ d.sig = p.2 ∧ FA K tb d a) tb.fns)
    (ini : AllL (fun p : String × Sig => p.2.ini = some p.1 ∧ ∃ C a d, mg p.1 = some (.ref C) ∧ Mk K C a ∧ P (p.1 ++ ".__init__") = some d ∧ d.sig = p.2 ∧ FA K tb d a) tb.inits)
    (met : AllL (fun p : String × String × Sig => p.2.2.ini = none ∧ ∃ C a d, mg p.1 = some (.ref C) ∧ Cls K C ∧ Meth K C p.2.1 a ∧ (p.2.1 : Str) ∉ tb.fs p.1 ∧ P (p.1 ++ "." ++ p.2.1) = some d ∧ d.sig = p.2.2 ∧ FA K tb d a) tb.mets)
    (prp : AllL (fun p : String × String × Sig => p.2.2.ini = none ∧ ∃ C a pr d, mg p.1 = some (.ref C) ∧ Cls K C ∧ PropOf K C p.2.1 pr a ∧ P (p.1 ++ "." ++ p.2.1) = some d ∧ d.sig = p.2.2 ∧ FA K tb d a) tb.prps)
    (fld : AllL (fun p : String × List String => (p.2.map Str.ofString).Nodup ∧ tb.cf.lookup p.1 = some p.2 ∧ ∃ C, mg p.1 = some (.ref C) ∧ Cls K C ∧ AllL (fun n => NoAttr K C (Str.ofString n)) p.2) tb.cf)
    (glo : AllL (fun p : String × D => isScal p.2 = true ∧ ∃ v u, mg p.1 = some u ∧ RelV v u ∧ ∀ F, Rep (tb.gd mg K) F v p.2) tb.glos)
    (bi : AllL (fun n : String => mg n = none) bnames)
    (exc : AllL (fun p : String × Option String => ∃ C, mg p.1 = some (.ref C) ∧ match p.2 with
      | none => ExcA K C
      | some n => (tb.cf.lookup p.1 = none ∧ tb.xcs.lookup p.1 = some (some n)) ∧ ExcB prog w K mg base C (Str.ofString n)) tb.xcs)
    (hnd : AllL (fun p : String × List String × List String => ∃ C, mg p.1 = some (.ref C) ∧ AllL (fun c : String => HndOk K (tb.gd mg K) C c true) p.2.1 ∧ AllL (fun c : String => HndOk K (tb.gd mg K) C c false) p.2.2) tb.hnd) : MF prog w base K mg (tb.gd mg K) tb P where
  kk := rfl
  fn := fun f g h => fn.get _ h
  ini := fun c g h => by
    obtain ⟨h1, C, a, d, h2, h3⟩ := ini.get _ h
    exact ⟨h1, C, a, d, h2, h2, h3⟩
  met := fun c m g h => met.get _ h
  prp := fun c m g h => prp.get _ h
  fld := fun c l h => by
    obtain ⟨h1, h2, C, h3, h4, h5⟩ := fld.get _ h
    have e : (tb.gd mg K).cf c = l.map Str.ofString := by
      show tb.fs c = _
      unfold Tbl.fs
      rw [show tb.cf.lookup c = some l from h2]
    refine ⟨fun X hX => ⟨by rw [e]; exact h1, fun C' hC => ?_, fun C' n hC hn => ?_⟩, e⟩
    · have hC : mg c = some (.ref C') := hC
      have h3 : mg c = some (.ref C) := h3
      rw [h3] at hC; cases hC
      rw [hX]; exact h4
    · have hC : mg c = some (.ref C') := hC
      have h3 : mg c = some (.ref C) := h3
      rw [h3] at hC; cases hC
      rw [e] at hn
      obtain ⟨y, hy, ey⟩ := List.mem_map.mp hn
      rw [hX, ← ey]
      exact h5.get y hy
  glo := fun x d h => glo.get _ h
  bi := fun n h => bi.get n h
  exA := fun c h => by
    obtain ⟨C, h1, h2⟩ := exc.get _ h
    exact ⟨C, h1, h1, h2⟩
  exB := fun c n h => by
    obtain ⟨C, h1, ⟨h2, h3⟩, h4⟩ := exc.get _ h
    refine ⟨?_, C, h1, h1, h4⟩
    show tb.fs c = _
    unfold Tbl.fs
    rw [show tb.cf.lookup c = none from h2, show tb.xcs.lookup c = some (some n) from h3]
    rfl
  hnd := fun c ys ns h => by
    obtain ⟨C, h1, h2, h3⟩ := hnd.get _ h
    exact ⟨C, h1, h2.get, h3.get⟩
/-- the law's promise -/
def spLaw (K : PySem.W.Frag) : Sp := fun vs H Q _ => ∃ (a : Addr) (ns : List Int), vs = [.ref a] ∧ SqL K H a (ns.map V.int) ∧ ns.length ≤ 63 ∧ (∀ z ∈ ns, Builtin.Int.intBits z ≤ 1048576) ∧ ∀ H', Q (.bl true) H'
theorem law_fn {n : Nat} {d : Def} {a : Addr} {fd : FuncData} {ps : List Str} {bs : List Bool} (m : MF prog w base K mg (tb.gd mg K) tb P) (hP : P "law" = some d) (hs : d.sig = ⟨1, bs, 0, none⟩) (fa : FAt K tb d a fd ps)
    (h : ∀ ns : List Int, ns.length ≤ 63 → (∀ z ∈ ns, Builtin.Int.intBits z ≤ 1048576) → run P n "law" [.scr ns] = .ok (.bl true)) : FnOk prog w K mg base (L2.CX prog w) (2 * n) a fd ps (spLaw K) := by
  refine (fk m n "law" d a fd ps hP fa).1.imp fun vs H Q E ⟨a, ns, ev, hS, hl, hb, q⟩ => ?_
  subst ev
  rw [hs]
  refine ⟨rfl, H, [.scr ns], Le.refl H, ?_, ?_⟩
  · refine ⟨_, [], rfl, ?_, rfl⟩
    have r : Rep (tb.gd mg K) H (.ref a) (.scr ns) := by unfold Rep; exact ⟨a, rfl, hS⟩
    split <;> exact r
  · rw [h ns hl hb]
    intro v F' H' S g r fr
    have r := RepN.rep g.le 0 r
    unfold Rep at r
    subst r
    exact q H'
end
theorem walk_law {l : PySem.W.OpenLaw} {q : Program} {loose : List Str} {XP : (Str → Option Value) → Heap → Prop} {YP : World → Heap → Prop} {d : DefRec} {K : Params → PySem.W.Frag} {n : Nat} (hn : l.most = some 63) (hdf : d.params.defaults = [])
    (hr : Room (2 * n) callerA) (hY : ∀ (w : World) (h : Heap), YP w h → (K w.params).In h)
    (F : ∀ (w : World) (mg : Str → Option Value) (fa : Addr) (h : Heap), (K w.params).In h → h.Ns mainGlobals mg → mg d.name = some (.ref fa) →
      ∃ fd : FuncData, (∀ (s : Shared) (u : Value), BindsTo s fd ⟨[u], []⟩ [("_law_script", u)]) ∧ ∀ base : Heap, (K w.params).In base → base.Ns mainGlobals mg → FnOk l.prog w (K w.params) mg base (L2.CX l.prog w) (2 * n) fa fd ["_law_script"] (spLaw (K w.params))) :
    PySem.W.WalkO q loose XP YP l.row.toRowW d [] (fun f vs => PySem.call f vs) :=
  L2.walk_ofB (n := 63) (k := 2 * n) (x := "_law_script") (CX := fun w => L2.CX l.prog w) (sp := fun w => spLaw (K w.params)) hn (by decide) hdf hr hY F (fun _ _ a ns hl hb _ hS => ⟨a, ns, rfl, hS, hl, hb, fun _ => rfl⟩)
    fun w H s e s' ⟨_, _, _, _, _, _, _, _, _, _, _, _, z⟩ => z
end Mp
/-! how the interpreter is worked out: plain Lean -/
namespace Mp
open PySem PySem.Spec PyProof.Rows L2

section
variable {α β : Type}
@[simp] theorem R_okb (a : α) (f : α → R β) : ((R.ok a : R α) >>= f) = f a := rfl
@[simp] theorem R_excb (c : String) (x : Option D) (f : α → R β) : ((R.exc c x : R α) >>= f) = R.exc c x := rfl
@[simp] theorem R_badb (f : α → R β) : ((R.bad : R α) >>= f) = R.bad := rfl
@[simp] theorem R_pure (a : α) : (pure a : R α) = R.ok a := rfl
@[simp] theorem R_assoc {γ : Type} (x : R α) (f : α → R β) (g : β → R γ) : ((x >>= f) >>= g) = (x >>= fun a => f a >>= g) := by cases x <;> rfl
@[simp] theorem ofO_some (a : α) : ofO (some a) = R.ok a := rfl
@[simp] theorem ofO_none : (ofO none : R α) = R.bad := rfl
@[simp] theorem okIf_t (r : R α) : okIf true r = r := rfl
@[simp] theorem okIf_f (r : R α) : okIf false r = R.bad := rfl
theorem okIf_of {b : Bool} {r : R α} (h : b = true) : okIf b r = r := by rw [h]; rfl
@[simp] theorem noexc_ok (a : α) : noexc (R.ok a) = R.ok a := rfl
@[simp] theorem fin_f (r : R D) : fin false r = r := rfl
@[simp] theorem fin_t_ok (d : D) : fin true (R.ok d) = ofO ((truD d).map D.bl) := rfl
@[simp] theorem fin_t_exc (c : String) (x : Option D) : fin true (R.exc c x) = R.exc c x := rfl
@[simp] theorem fin_t_bad : fin true R.bad = R.bad := rfl
@[simp] theorem slot_val (b : Bool) (d : D) : slotD b (some (.val d)) = R.ok d := rfl
@[simp] theorem slot_own (k : Nat) (d : D) : slotD true (some (.own k d)) = R.ok d := rfl
@[simp] theorem slot_bor (d : D) : slotD true (some (.bor d)) = R.ok d := rfl
@[simp] theorem toB_bl (b : Bool) : toB (.bl b) = R.ok b := rfl
@[simp] theorem tru_bl (b : Bool) : truD (.bl b) = some b := rfl
@[simp] theorem tru_int (i : Int) : truD (.int i) = some (i != 0) := rfl
@[simp] theorem tru_lst (xs : List D) : truD (.lst xs) = some (!xs.isEmpty) := rfl
@[simp] theorem tru_tup (xs : List D) : truD (.tup xs) = some (!xs.isEmpty) := rfl
@[simp] theorem tru_non : truD .non = some false := rfl
@[simp] theorem notD_bl (b : Bool) : notD (.bl b) = some (.bl (!b)) := rfl
@[simp] theorem negD_int (i : Int) : negD (.int i) = some (.int (-i)) := rfl
@[simp] theorem optS_some (env : Sls) : optS (some env) = RS.nx env := rfl
@[simp] theorem optS_none : optS none = RS.bad := rfl
@[simp] theorem liftR_ok (a : α) (env : Sls) (f : α → RS) : liftR (R.ok a) env f = f a := rfl
@[simp] theorem liftR_exc (c : String) (x : Option D) (env : Sls) (f : α → RS) : liftR (R.exc c x : R α) env f = RS.exc c x env := rfl
@[simp] theorem liftR_bad (env : Sls) (f : α → RS) : liftR (R.bad : R α) env f = RS.bad := rfl
@[simp] theorem seqS_nx (env : Sls) (f : Sls → RS) : seqS (RS.nx env) f = f env := rfl
@[simp] theorem seqS_rt (d : D) (f : Sls → RS) : seqS (RS.rt d) f = RS.rt d := rfl
@[simp] theorem seqS_bk (env : Sls) (f : Sls → RS) : seqS (RS.bk env) f = RS.bk env := rfl
@[simp] theorem seqS_ct (env : Sls) (f : Sls → RS) : seqS (RS.ct env) f = RS.ct env := rfl
@[simp] theorem seqS_exc (c : String) (x : Option D) (env : Sls) (f : Sls → RS) : seqS (RS.exc c x env) f = RS.exc c x env := rfl
@[simp] theorem noXS_nx (env : Sls) : noXS (.nx env) = .nx env := rfl
@[simp] theorem noXS_rt (d : D) : noXS (.rt d) = .rt d := rfl
end

section
variable (Φ : String → List D → R D) (kk : Nat)
@[simp] theorem exL_nil (env : Sls) : exL Φ kk [] env = .nx env := rfl
@[simp] theorem exL_cons (s : S) (ss : List S) (env : Sls) : exL Φ kk (s :: ss) env = seqS (exS Φ kk s env) (exL Φ kk ss) := rfl
/-- one turn's test, a comprehension's -/
def lcF (x : E) (own : List Nat) (tg : Tg) (cs : List E) (env : Sls) : D → R (Option D) := fun d => ofO (bindT tg d (wipeE env own)) >>= fun env' => noexc (allR (evs Φ cs true env') >>= fun b => if b then ev Φ x false env' >>= fun y => pure (some y) else pure none)
def dcF (kx vx : E) (own : List Nat) (tg : Tg) (cs : List E) (env : Sls) : D → R (Option (Key × D)) := fun d => ofO (bindT tg d (wipeE env own)) >>= fun env' => noexc (allR (evs Φ cs true env') >>= fun b => if b then ev Φ kx false env' >>= fun k => ofO (keyD k) >>= fun k => ev Φ vx false env' >>= fun y => pure (some (k, y)) else pure none)
theorem lcF_eq {x : E} {own : List Nat} {tg : Tg} {cs : List E} {env env' : Sls} {d : D} (h : bindT tg d (wipeE env own) = some env') : lcF Φ x own tg cs env d = noexc (allR (evs Φ cs true env') >>= fun b => if b then ev Φ x false env' >>= fun y => pure (some y) else pure none) := by
  unfold lcF; rw [h]; rfl
theorem dcF_eq {kx vx : E} {own : List Nat} {tg : Tg} {cs : List E} {env env' : Sls} {d : D} (h : bindT tg d (wipeE env own) = some env') : dcF Φ kx vx own tg cs env d = noexc (allR (evs Φ cs true env') >>= fun b => if b then ev Φ kx false env' >>= fun k => ofO (keyD k) >>= fun k => ev Φ vx false env' >>= fun y => pure (some (k, y)) else pure none) := by
  unfold dcF; rw [h]; rfl
section
variable (t : Bool) (env : Sls)
@[simp] theorem ev_loc (i : Nat) : ev Φ (.loc i) t env = fin t (slotD false env[i]?) := rfl
@[simp] theorem ev_lb (i : Nat) : ev Φ (.lb i) t env = fin t (slotD true env[i]?) := rfl
@[simp] theorem ev_con (d : D) : ev Φ (.con d) t env = fin t (.ok d) := rfl
@[simp] theorem ev_glo (n : String) (d : D) : ev Φ (.glo n d) t env = fin t (.ok d) := rfl
@[simp] theorem ev_atm (a : E) : ev Φ (.atm a) t env = fin t (ev Φ a false env >>= fun d => okIf (isScal d) (.ok d)) := rfl
@[simp] theorem ev_bin (o : Operator) (a b : E) : ev Φ (.bin o a b) t env = fin t (ev Φ a false env >>= fun x => ev Φ b false env >>= fun y => ofO (binD (bor a || bor b) o x y)) := rfl
@[simp] theorem ev_neg (a : E) : ev Φ (.neg a) t env = fin t (ev Φ a false env >>= fun x => ofO (negD x)) := rfl
@[simp] theorem ev_nott (a : E) : ev Φ (.not a) true env = (ev Φ a true env >>= fun x => ofO (notD x)) := rfl
@[simp] theorem ev_notf (a : E) : ev Φ (.not a) false env = (fin true (ev Φ a false env) >>= fun x => ofO (notD x)) := rfl
@[simp] theorem ev_bo (c : Bool) (es : List E) : ev Φ (.bo c es) t env = boGo c (evs Φ es t env) := rfl
@[simp] theorem ev_cmp (o : CmpOp) (a b : E) : ev Φ (.cmp o a b) t env = fin t (ev Φ a false env >>= fun x => ev Φ b false env >>= fun y => ofO ((cmpD o x y).map D.bl)) := rfl
@[simp] theorem ev_chn (a : E) (os : List CmpOp) (es : List E) : ev Φ (.chn a os es) t env = fin t (ev Φ a false env >>= fun x => chnGo (fun x o y => cmpD o x y) x os (evs Φ es false env)) := rfl
@[simp] theorem ev_ite (c a b : E) : ev Φ (.ite c a b) t env = (ev Φ c true env >>= fun x => toB x >>= fun z => if z then ev Φ a t env else ev Φ b t env) := rfl
@[simp] theorem ev_idx (a i : E) : ev Φ (.idx a i) t env = fin t (ev Φ a false env >>= fun x => ev Φ i false env >>= fun y => ofO (idxD x y)) := rfl
@[simp] theorem ev_sl (a : E) (lo hi : List E) : ev Φ (.sl a lo hi) t env = fin t (ev Φ a false env >>= fun x => (seqR (evs Φ lo false env) >>= fun l => ofO (optI l)) >>= fun l => (seqR (evs Φ hi false env) >>= fun h => ofO (optI h)) >>= fun h => ofO (slD (bor a) l h x)) := rfl
@[simp] theorem ev_stp (a w : E) : ev Φ (.stp a w) t env = fin t (ev Φ a false env >>= fun x => ev Φ w false env >>= fun y => ofO (stpD (bor a) x y)) := rfl
@[simp] theorem ev_lst (es : List E) : ev Φ (.lst es) t env = fin t (seqR (evs Φ es false env) >>= fun ds => okIf (decide (ds.length ≤ sizeLine)) (.ok (.lst ds))) := rfl
@[simp] theorem ev_tup (es : List E) : ev Φ (.tup es) t env = fin t (seqR (evs Φ es false env) >>= fun ds => okIf (decide (ds.length ≤ sizeLine)) (.ok (.tup ds))) := rfl
@[simp] theorem ev_dct (b : Bool) (ks vs : List E) : ev Φ (.dct b ks vs) t env = fin t (pairR (evs Φ ks false env) (evs Φ vs false env) >>= fun ps =>
      if b then okIf ps.isEmpty (.ok (.dT [] [])) else okIf (decide (ps.length ≤ 15)) (ofO ((dctP ps ([], [])).map fun r => .dK r.1 r.2))) := rfl
@[simp] theorem ev_att (c : String) (i : Nat) (a : E) : ev Φ (.att c i a) t env = fin t (ev Φ a false env >>= fun x => ofO (attD c i x)) := rfl
@[simp] theorem ev_call (f : String) (k : Nat) (es : List E) : ev Φ (.call f k es) t env = fin t (seqR (evs Φ es false env) >>= fun ds => Φ f ds) := rfl
@[simp] theorem ev_new (c : String) (k : Nat) (es : List E) : ev Φ (.new c k es) t env = fin t (seqR (evs Φ es false env) >>= fun ds => Φ (c ++ ".__init__") ds) := rfl
@[simp] theorem ev_bi (b : Bi) (es : List E) : ev Φ (.bi b es) t env = fin t (seqR (evs Φ es false env) >>= fun ds => ofO (biD b (es.any bor) ds)) := rfl
@[simp] theorem ev_get (a : E) (es : List E) : ev Φ (.get a es) t env = fin t (ev Φ a false env >>= fun x => okIf (isDct x) (seqR (evs Φ es false env) >>= fun ds => ofO (getD' x ds))) := rfl
@[simp] theorem ev_mth (m : Mt) (a : E) (es : List E) : ev Φ (.mth m a es) t env = fin t (ev Φ a false env >>= fun x => okIf (mOk m x) (seqR (evs Φ es false env) >>= fun ds => ofO (mthD m x ds))) := rfl
@[simp] theorem ev_met (c m : String) (k : Nat) (a : E) (es : List E) : ev Φ (.met c m k a es) t env = fin t (ev Φ a false env >>= fun x => okIf (isObj' c x) (seqR (evs Φ es false env) >>= fun ds => Φ (c ++ "." ++ m) (x :: ds))) := rfl
@[simp] theorem ev_prp (c m : String) (k : Nat) (a : E) : ev Φ (.prp c m k a) t env = fin t (ev Φ a false env >>= fun x => okIf (isObj' c x) (noexc (Φ (c ++ "." ++ m) [x]))) := rfl
@[simp] theorem ev_lc (x : E) (own : List Nat) (tg : Tg) (ik : Ik) (it cs : List E) : ev Φ (.lc x own tg ik it cs) t env = fin t (seqR (evs Φ it false env) >>= fun ds => ofO (iterD ik ds) >>= fun xs => okIf (!(it.any bor) && decide (xs.length ≤ sizeLine)) (lcGo (lcF Φ x own tg cs env) xs >>= fun r => .ok (.lst r))) := rfl
@[simp] theorem ev_dc (kx vx : E) (own : List Nat) (tg : Tg) (ik : Ik) (it cs : List E) : ev Φ (.dc false kx vx own tg ik it cs) t env = fin t (seqR (evs Φ it false env) >>= fun ds => ofO (iterD ik ds) >>= fun xs => okIf (!(it.any bor) && (decide (xs.length ≤ sizeLine) && !false)) (dcGo (dcF Φ kx vx own tg cs env) xs ([], []) >>= fun r => .ok (.dK r.1 r.2))) := rfl
@[simp] theorem ev_fst (es : List E) : ev Φ (.fst es) t env = fin t (fstGo Str.empty (evs Φ es false env)) := rfl
@[simp] theorem ev_fv (a : E) : ev Φ (.fv a) t env = fin t (ev Φ a false env >>= fun x => ofO (fmtD x)) := rfl
@[simp] theorem evs_nil : evs Φ [] t env = [] := rfl
@[simp] theorem evs_cons (e : E) (es : List E) : evs Φ (e :: es) t env = ev Φ e t env :: evs Φ es t env := rfl
end
section
variable (env : Sls)
@[simp] theorem exS_exp (e : E) : exS Φ kk (.exp e) env = liftR (ev Φ e false env) env fun _ => .nx env := rfl
@[simp] theorem exS_set (t : Tg) (e : E) : exS Φ kk (.set t e) env = liftR (ev Φ e false env) env fun d => if bor e then .bad else optS (bindT t d env) := rfl
@[simp] theorem exS_own (i : Nat) (e : E) : exS Φ kk (.own i e) env = liftR (ev Φ e false env) env fun d => match kd e with
    | 0 => .bad
    | k + 1 => if bor e || !decide (0 < i ∧ i < env.length) then .bad else .nx (env.set i (.own k d)) := rfl
@[simp] theorem exS_ret (e : E) : exS Φ kk (.ret e) env = liftR (ev Φ e false env) env fun d => if !bor e && (kd e == kk || kk == 0 || isAtom d) then .rt d else .bad := rfl
@[simp] theorem exS_retn : exS Φ kk .retn env = .rt .non := rfl
@[simp] theorem exS_retv (i : Nat) : exS Φ kk (.retv i) env = match env[i]? with
    | some (.own k d) => if k + 1 = kk then .rt d else .bad
    | _ => .bad := rfl
@[simp] theorem exS_ite (c : E) (a b : List S) : exS Φ kk (.ite c a b) env = liftR (ev Φ c true env >>= toB) env fun z => if z then exL Φ kk a env else exL Φ kk b env := rfl
def condF (c : E) : Sls → R Bool := fun env => ev Φ c true env >>= toB
@[simp] theorem exS_whl (c : E) (b : List S) : exS Φ kk (.whl c b) env = whlGo (condF Φ c) (exL Φ kk b) wF env := rfl
def forF (b : Bool) (r : RS) : RS := if b then noXS r else r
@[simp] theorem exS_for (tg : Tg) (ik : Ik) (it : List E) (b : List S) : exS Φ kk (.for tg ik it b) env = liftR (seqR (evs Φ it false env) >>= fun ds => ofO (iterD ik ds) >>= fun xs => okIf (!(it.any bor)) (.ok (ds.any isDct, xs))) env fun p =>
      forF p.1 (forGo (bindT tg) (exL Φ kk b) p.2 env) := rfl
@[simp] theorem exS_brk : exS Φ kk .brk env = .bk env := rfl
@[simp] theorem exS_cnt : exS Φ kk .cnt env = .ct env := rfl
@[simp] theorem exS_pass : exS Φ kk .pass env = .nx env := rfl
@[simp] theorem exS_app (i : Nat) (e : E) : exS Φ kk (.app i e) env = ownAt env i fun x => match x with
    | .lst xs => liftR (ev Φ e false env) env fun d => if !bor e && decide (xs.length < sizeLine) then .nx (env.set i (.own 0 (.lst (xs ++ [d])))) else .bad
    | _ => .bad := rfl
@[simp] theorem exS_ext (i : Nat) (e : E) : exS Φ kk (.ext i e) env = ownAt env i fun x => match x with
    | .lst xs => liftR (ev Φ e false env) env fun d => match d with
      | .lst ys => if !bor e && decide (xs.length + ys.length ≤ sizeLine) then .nx (env.set i (.own 0 (.lst (xs ++ ys)))) else .bad
      | _ => .bad
    | _ => .bad := rfl
@[simp] theorem exS_sub (i : Nat) (k e : E) : exS Φ kk (.sub i k e) env = liftR (ev Φ e false env) env fun d => ownAt env i fun x => liftR (ev Φ k false env) env fun q => if bor e then .bad else match subD x q d with
    | some y => .nx (env.set i (.own 0 y))
    | none => .bad := rfl
@[simp] theorem exS_aug (i : Nat) (o : Operator) (e : E) : exS Φ kk (.aug i o e) env = match env[i]? with
    | some (.val x) => liftR (ev Φ e false env) env fun d => match augD o x d with
      | some y => .nx (env.set i (.val y))
      | none => .bad
    | _ => .bad := rfl
@[simp] theorem exS_augs (i : Nat) (k : E) (o : Operator) (e : E) : exS Φ kk (.augs i k o e) env = ownAt env i fun x => if isMut x then liftR (ev Φ k false env) env fun q => match idxD x q with
      | some y => if isScal y then liftR (ev Φ e false env) env fun d => match (augD o y d).bind fun z => subD x q z with
        | some x' => .nx (env.set i (.own 0 x'))
        | none => .bad
        else .bad
      | none => .bad
    else .bad := rfl
@[simp] theorem exS_pop (t : Tg) (i : Nat) : exS Φ kk (.pop t i) env = ownAt env i fun x => match x with
    | .lst xs => match xs.getLast? with
      | some y => optS (bindT t y (env.set i (.own 0 (.lst xs.dropLast))))
      | none => .bad
    | _ => .bad := rfl
@[simp] theorem exS_par (i j : Nat) (a b : E) : exS Φ kk (.par i j a b) env = liftR (ev Φ a false env) env fun x => liftR (ev Φ b false env) env fun y => if bor a || bor b || !decide (i < env.length) || !decide (j < env.length) || decide (i = j) then .bad else .nx ((env.set i (.val x)).set j (.val y)) := rfl
@[simp] theorem exS_sat (c : String) (n i : Nat) (e : E) : exS Φ kk (.sat c n i e) env = liftR (ev Φ e false env) env fun d => if bor e then .bad else ownAt env i fun x => match satD c n d x with
    | some y => .nx (env.set i (.own 0 y))
    | none => .bad := rfl
@[simp] theorem exS_nev : exS Φ kk .nev env = .bad := rfl
@[simp] theorem exS_frz (i : Nat) : exS Φ kk (.frz i) env = match env[i]? with
    | some (.own k d) => .nx (env.set i (.val d))
    | some (.val d) => .nx env
    | _ => .bad := rfl
@[simp] theorem forF_f (r : RS) : forF false r = r := rfl
@[simp] theorem forF_nx (b : Bool) (env : Sls) : forF b (.nx env) = .nx env := by cases b <;> rfl
@[simp] theorem forF_rt (b : Bool) (d : D) : forF b (.rt d) = .rt d := by cases b <;> rfl
end
end
theorem run_succ {P : String → Option Def} {n : Nat} {f : String} {ds : List D} {d : Def} (h : P f = some d) : run P (n + 1) f ds = outS d.sig (exL (run P n) d.sig.k d.body (ini d.sig d.nv ds)) := by
  show (match P f with | none => R.bad | some d => outS d.sig (exL (run P n) d.sig.k d.body (ini d.sig d.nv ds))) = _
  rw [h]
@[simp] theorem outS_rt (np k : Nat) (bs : List Bool) (d : D) : outS ⟨np, bs, k, none⟩ (.rt d) = .ok d := rfl
@[simp] theorem outS_nx (np k : Nat) (bs : List Bool) (env : Sls) : outS ⟨np, bs, k, none⟩ (.nx env) = .ok .non := rfl
@[simp] theorem seqR_nil : seqR [] = .ok [] := rfl
@[simp] theorem seqR_cons (x : R D) (xs : List (R D)) : seqR (x :: xs) = (x >>= fun d => seqR xs >>= fun r => .ok (d :: r)) := rfl
@[simp] theorem boGo_one (c : Bool) (x : R D) : boGo c [x] = x := rfl
theorem boGo_cons (c : Bool) (x y : R D) (ys : List (R D)) : boGo c (x :: y :: ys) = (x >>= fun d => match d with | .bl b => if b = c then boGo c (y :: ys) else pure (.bl b) | _ => .bad) := rfl
@[simp] theorem boGo_ok (c b : Bool) (y : R D) (ys : List (R D)) : boGo c (.ok (.bl b) :: y :: ys) = if b = c then boGo c (y :: ys) else .ok (.bl b) := rfl
@[simp] theorem allR_nil : allR [] = .ok true := rfl
@[simp] theorem allR_cons (x : R D) (xs : List (R D)) : allR (x :: xs) = (x >>= fun d => toB d >>= fun b => if b then allR xs else .ok false) := rfl
@[simp] theorem pairR_nil : pairR [] [] = .ok [] := rfl
@[simp] theorem bindT_nm (i : Nat) (d : D) (env : Sls) : bindT (.nm i) d env = if i < env.length then some (env.set i (.val d)) else none := rfl
@[simp] theorem bindT_tp (ts : List Tg) (ds : List D) (env : Sls) : bindT (.tp ts) (.tup ds) env = bindTs ts ds env := rfl
@[simp] theorem bindTs_nil (env : Sls) : bindTs [] [] env = some env := rfl
@[simp] theorem bindTs_cons (t : Tg) (ts : List Tg) (d : D) (ds : List D) (env : Sls) : bindTs (t :: ts) (d :: ds) env = (bindT t d env).bind fun env' => bindTs ts ds env' := rfl
@[simp] theorem wipeE_nil (env : Sls) : wipeE env [] = env := rfl
@[simp] theorem wipeE_cons (env : Sls) (v : Nat) (vs : List Nat) : wipeE env (v :: vs) = (wipeE env vs).set v .no := rfl
@[simp] theorem ownAt_own (env : Sls) (i : Nat) (f : D → RS) (d : D) (h : env[i]? = some (.own 0 d)) : ownAt env i f = f d := by unfold ownAt; rw [h]; rfl

/-! ### loops -/
section
variable {α : Type}
/-- it goes on -/
def Goes (r : RS) (env : Sls) : Prop := r = .nx env ∨ r = .ct env
def turn (bind : D → Sls → Option Sls) (body : Sls → RS) (d : D) (env : Sls) : RS := match bind d env with
  | none => .bad
  | some env => body env
theorem turn_eq {bind : D → Sls → Option Sls} {body : Sls → RS} {d : D} {env env' : Sls} (h : bind d env = some env') : turn bind body d env = body env' := by unfold turn; rw [h]
theorem forGo_cons (bind : D → Sls → Option Sls) (body : Sls → RS) (d : D) (ds : List D) (env : Sls) : forGo bind body (d :: ds) env = match turn bind body d env with
      | .nx env => forGo bind body ds env
      | .ct env => forGo bind body ds env
      | .bk env => .nx env
      | r => r := by
  show (match bind d env with | none => RS.bad | some env => _) = _
  unfold turn
  cases bind d env <;> rfl
/-- a value is returned, or it goes on to the end -/
theorem forGo_ret {bind : D → Sls → Option Sls} {body : Sls → RS} (h : α → D) (I : Nat → Sls → Prop) (Z : D → Prop) : ∀ (as : List α) (i : Nat) (env : Sls), I i env →
    (∀ j a env, as[j]? = some a → I (i + j) env → (∃ env2, Goes (turn bind body (h a) env) env2 ∧ I (i + j + 1) env2) ∨ ∃ z, turn bind body (h a) env = .rt z ∧ Z z) →
    (∃ env', forGo bind body (as.map h) env = .nx env' ∧ I (i + as.length) env') ∨ ∃ z, forGo bind body (as.map h) env = .rt z ∧ Z z
  | [], i, env, h, _ => .inl ⟨env, rfl, h⟩
  | a :: as, i, env, hI, hs => by
    rw [List.map_cons, forGo_cons]
    rcases hs 0 a env rfl hI with ⟨env2, e2, h2⟩ | ⟨z, e2, h2⟩
    · have e3 := forGo_ret h I Z as (i + 1) env2 h2 (fun j d env hj hI => by
        have := hs (j + 1) d env (by simpa using hj) (by rw [show i + (j + 1) = i + 1 + j by omega]; exact hI)
        rw [show i + (j + 1) + 1 = i + 1 + j + 1 by omega] at this
        exact this)
      rw [List.length_cons, show i + (as.length + 1) = i + 1 + as.length by omega]
      rcases e2 with e2 | e2 <;> rw [e2] <;> exact e3
    · rw [e2]; exact .inr ⟨z, rfl, h2⟩
theorem forGo_inv {bind : D → Sls → Option Sls} {body : Sls → RS} (h : α → D) (I : Nat → Sls → Prop) (as : List α) (env : Sls) (h0 : I 0 env)
    (hs : ∀ j a env, as[j]? = some a → I j env → ∃ env2, Goes (turn bind body (h a) env) env2 ∧ I (j + 1) env2) : ∃ env', forGo bind body (as.map h) env = .nx env' ∧ I as.length env' := by
  rcases forGo_ret (bind := bind) (body := body) h I (fun _ => False) as 0 env h0 (fun j a env hj hI => .inl (by rw [Nat.zero_add] at hI ⊢; exact hs j a env hj hI)) with h | ⟨_, _, h⟩
  · rw [Nat.zero_add] at h; exact h
  · exact h.elim
theorem forGo_invL {bind : D → Sls → Option Sls} {body : Sls → RS} (I : Nat → Sls → Prop) (ds : List D) (env : Sls) (h0 : I 0 env)
    (hs : ∀ j d env, ds[j]? = some d → I j env → ∃ env2, Goes (turn bind body d env) env2 ∧ I (j + 1) env2) : ∃ env', forGo bind body ds env = .nx env' ∧ I ds.length env' := by
  have := forGo_inv (bind := bind) (body := body) id I ds env h0 hs
  rwa [List.map_id] at this
theorem forGo_rng {bind : D → Sls → Option Sls} {body : Sls → RS} (f : Nat → D) (I : Nat → Sls → Prop) (n : Nat) (env : Sls) (h0 : I 0 env)
    (hs : ∀ j env, j < n → I j env → ∃ env2, Goes (turn bind body (f j) env) env2 ∧ I (j + 1) env2) : ∃ env', forGo bind body ((List.range n).map f) env = .nx env' ∧ I n env' := by
  have := forGo_inv (bind := bind) (body := body) f I (List.range n) env h0 (fun j a env hj hI => by
    obtain ⟨hl, e⟩ := List.getElem?_eq_some_iff.mp hj
    rw [List.getElem_range] at e
    subst e
    exact hs j env (by simpa using hl) hI)
  rwa [List.length_range] at this
@[simp] theorem Goes_nx (a b : Sls) : Goes (.nx a) b ↔ a = b := ⟨fun h => h.elim (fun h => by cases h; rfl) (fun h => by cases h), fun h => .inl (by rw [h])⟩
@[simp] theorem Goes_ct (a b : Sls) : Goes (.ct a) b ↔ a = b := ⟨fun h => h.elim (fun h => by cases h) (fun h => by cases h; rfl), fun h => .inr (by rw [h])⟩
theorem whlGo_inv {c : Sls → R Bool} {body : Sls → RS} (I : Nat → Sls → Prop) (Post : Sls → Prop) (hs : ∀ m env, I m env → (c env = .ok false ∧ Post env) ∨ (c env = .ok true ∧ ∃ env' m', m' < m ∧ Goes (body env) env' ∧ I m' env')) :
    ∀ (n m : Nat) (env : Sls), I m env → m < n → ∃ env', whlGo c body n env = .nx env' ∧ Post env'
  | 0, m, env, _, h => by omega
  | n + 1, m, env, h, hn => by
    rcases hs m env h with ⟨e1, h1⟩ | ⟨e1, env', m', hm, e2, h2⟩
    · refine ⟨env, ?_, h1⟩
      show liftR (c env) env _ = _
      rw [e1]; rfl
    · obtain ⟨env2, e3, h3⟩ := whlGo_inv I Post hs n m' env' h2 (by omega)
      refine ⟨env2, ?_, h3⟩
      show liftR (c env) env (fun b => if b then match body env with
        | .nx env => whlGo c body n env
        | .ct env => whlGo c body n env
        | .bk env => .nx env
        | r => r
      else .nx env) = _
      rw [e1]
      show (match body env with
        | .nx env => whlGo c body n env
        | .ct env => whlGo c body n env
        | .bk env => RS.nx env
        | r => r) = _
      rcases e2 with e2 | e2 <;> rw [e2] <;> exact e3
/-! ### comprehensions -/
theorem lcGo_of {f : D → R (Option D)} {h : α → D} {o : α → Option D} : ∀ {as : List α}, (∀ a ∈ as, f (h a) = .ok (o a)) → lcGo f (as.map h) = .ok (as.filterMap o)
  | [], _ => rfl
  | a :: as, hs => by
    show (f (h a) >>= fun o => lcGo f (as.map h) >>= fun r => pure (optCons o r)) = _
    rw [hs a List.mem_cons_self, R_okb, lcGo_of fun x m => hs x (List.mem_cons_of_mem _ m), R_okb, List.filterMap_cons]
    cases o a <;> rfl
theorem lcGo_map {f : D → R (Option D)} {h g : α → D} {as : List α} (hs : ∀ a ∈ as, f (h a) = .ok (some (g a))) : lcGo f (as.map h) = .ok (as.map g) := by
  rw [lcGo_of (o := fun a => some (g a)) hs]
  congr 1
  induction as with
  | nil => rfl
  | cons a as ih => rw [List.filterMap_cons]; dsimp only; rw [ih fun x m => hs x (List.mem_cons_of_mem _ m)]; rfl
theorem lcGo_filter {f : D → R (Option D)} {h g : α → D} {p : α → Bool} {as : List α} (hs : ∀ a ∈ as, f (h a) = .ok (if p a then some (g a) else none)) : lcGo f (as.map h) = .ok ((as.filter p).map g) := by
  rw [lcGo_of (o := fun a => if p a then some (g a) else none) hs]
  congr 1
  clear hs
  induction as with
  | nil => rfl
  | cons a as ih =>
    rw [List.filterMap_cons, List.filter_cons]
    cases p a <;> simp [ih]
/-! ### data -/
@[simp] theorem intsD_map (ns : List Int) : intsD (ns.map D.int) = some ns := by
  induction ns with
  | nil => rfl
  | cons n ns ih => show (intsD (ns.map D.int)).map (n :: ·) = _; rw [ih]; rfl
@[simp] theorem strsD_map (ns : List Str) : strsD (ns.map D.str) = some ns := by
  induction ns with
  | nil => rfl
  | cons n ns ih => show (strsD (ns.map D.str)).map (n :: ·) = _; rw [ih]; rfl
@[simp] theorem blsD_map (ns : List Bool) : blsD (ns.map D.bl) = some ns := by
  induction ns with
  | nil => rfl
  | cons n ns ih => show (blsD (ns.map D.bl)).map (n :: ·) = _; rw [ih]; rfl
theorem scal_str (ss : List Str) : (ss.map D.str).all isScal = true := by simp [isScal]
theorem scal_int (ss : List Int) : (ss.map D.int).all isScal = true := by simp [isScal]
@[simp] theorem memD_str (s : Str) (ss : List Str) : memD (.str s) (ss.map D.str) = some (decide (s ∈ ss)) := by
  unfold memD
  rw [scal_str]
  show some _ = _
  congr 1
  induction ss with
  | nil => rfl
  | cons x xs ih =>
    rw [List.map_cons, List.any_cons, ih]
    show (x == s || decide (s ∈ xs)) = _
    by_cases h : s = x
    · subst h; simp
    · have : (x == s) = false := beq_eq_false_iff_ne.mpr fun z => h z.symm
      rw [this, Bool.false_or]
      simp [h]
end
/-- the names of a list, each once: a list is that if and only if no name stands twice -/
theorem nub_aux (xs : List Str) : ∀ acc : List Str, acc.Nodup → (xs.foldl (fun acc x => if x ∈ acc then acc else acc ++ [x]) acc).Nodup ∧ (xs.foldl (fun acc x => if x ∈ acc then acc else acc ++ [x]) acc).length ≤ acc.length + xs.length ∧
    ((xs.foldl (fun acc x => if x ∈ acc then acc else acc ++ [x]) acc).length = acc.length + xs.length ↔ (acc ++ xs).Nodup) := by
  induction xs with
  | nil => intro acc h; simp [h]
  | cons x xs ih =>
    intro acc h
    rw [List.foldl_cons]
    by_cases m : x ∈ acc
    · rw [if_pos m]
      obtain ⟨h1, h2, h3⟩ := ih acc h
      refine ⟨h1, by rw [List.length_cons]; omega, ?_⟩
      constructor
      · intro e; rw [List.length_cons] at e; omega
      · intro n
        rw [List.nodup_append] at n
        exact absurd rfl (n.2.2 x m x List.mem_cons_self)
    · rw [if_neg m]
      have h' : (acc ++ [x]).Nodup := by
        rw [List.nodup_append]
        refine ⟨h, by simp, ?_⟩
        intro a ha b hb
        rw [List.mem_singleton] at hb
        subst hb
        exact fun e => m (e ▸ ha)
      obtain ⟨h1, h2, h3⟩ := ih (acc ++ [x]) h'
      rw [List.length_append, List.length_singleton] at h2 h3
      refine ⟨h1, by rw [List.length_cons]; omega, ?_⟩
      rw [List.length_cons, show acc.length + (xs.length + 1) = acc.length + 1 + xs.length by omega, h3, List.append_assoc]
      rfl
theorem nub_len (xs : List Str) : (nubS xs).length = xs.length ↔ xs.Nodup := by
  have := (nub_aux xs [] List.nodup_nil).2.2
  simpa [nubS] using this
end Mp
/-! how data are worked out -/
namespace Mp
open PySem PySem.Spec PyProof.Rows L2

@[simp] theorem szl : sizeLine = 16777216 := by decide
section
variable {α : Type}
theorem atI_neg {xs : List α} {i : Int} (h : i < 0) (h' : -(xs.length : Int) ≤ i) : atI xs i = xs[(i + xs.length).toNat]? := by
  unfold atI ixN
  rw [if_neg (by omega), if_pos h']; rfl
theorem atI_pos {xs : List α} {i : Int} (h : 0 ≤ i) : atI xs i = xs[i.toNat]? := by
  unfold atI ixN
  rw [if_pos h]
  by_cases q : i < xs.length
  · rw [if_pos q]; rfl
  · rw [if_neg q, List.getElem?_eq_none (by omega)]; rfl
@[simp] theorem atI_0 (xs : List α) : atI xs 0 = xs[0]? := atI_pos (by omega)
@[simp] theorem atI_1 (xs : List α) : atI xs 1 = xs[1]? := atI_pos (by omega)
@[simp] theorem atI_2 (xs : List α) : atI xs 2 = xs[2]? := atI_pos (by omega)
@[simp] theorem atI_3 (xs : List α) : atI xs 3 = xs[3]? := atI_pos (by omega)
@[simp] theorem atI_4 (xs : List α) : atI xs 4 = xs[4]? := atI_pos (by omega)
@[simp] theorem atI_cast (xs : List α) (n : Nat) : atI xs (n : Int) = xs[n]? := by rw [atI_pos (by omega)]; congr 1
theorem atI_m1 (xs : List α) (h : xs ≠ []) : atI xs (-1) = xs.getLast? := by
  have hl : 0 < xs.length := List.length_pos_iff.mpr h
  rw [atI_neg (by omega) (by omega), List.getLast?_eq_getElem?]
  congr 1
  omega
theorem atI_map {β : Type} (f : α → β) (xs : List α) (i : Int) : atI (xs.map f) i = (atI xs i).map f := by
  unfold atI
  rw [List.length_map]
  cases ixN xs.length i with
  | none => rfl
  | some j => simp
theorem atI_some {xs : List α} {i : Int} (h : 0 ≤ i) (h' : i < xs.length) : ∃ x, atI xs i = some x ∧ x ∈ xs := by
  rw [atI_pos h]
  exact ⟨xs[i.toNat]'(by omega), List.getElem?_eq_getElem (by omega), List.getElem_mem _⟩
end
@[simp] theorem optI_nil : optI [] = some none := rfl
@[simp] theorem optI_int (i : Int) : optI [.int i] = some (some i) := rfl
@[simp] theorem slD_scr (b : Bool) (lo hi : Option Int) (ns : List Int) : slD b lo hi (.scr ns) = some (.lst ((cutD ns lo hi).map D.int)) := rfl
@[simp] theorem slD_lst (lo hi : Option Int) (xs : List D) : slD false lo hi (.lst xs) = some (.lst (cutD xs lo hi)) := rfl
@[simp] theorem slD_tup (lo hi : Option Int) (xs : List D) : slD false lo hi (.tup xs) = some (.tup (cutD xs lo hi)) := rfl
@[simp] theorem stpD_lst_r (xs : List D) : stpD false (.lst xs) (.int (-1)) = some (.lst xs.reverse) := rfl
@[simp] theorem stpD_lst_1 (xs : List D) : stpD false (.lst xs) (.int 1) = some (.lst xs) := rfl
@[simp] theorem stpD_tup_r (xs : List D) : stpD false (.tup xs) (.int (-1)) = some (.tup xs.reverse) := rfl
@[simp] theorem stpD_tup_1 (xs : List D) : stpD false (.tup xs) (.int 1) = some (.tup xs) := rfl
section
variable {α β : Type}
theorem cut_map (f : α → β) (xs : List α) (lo hi : Option Int) : cutD (xs.map f) lo hi = (cutD xs lo hi).map f := by
  unfold cutD
  rw [List.length_map, List.map_take, List.map_drop]
theorem cut_to (xs : List α) (k : Nat) : cutD xs none (some (k : Int)) = xs.take k := by
  unfold cutD
  rw [HT.sIx_none, HT.sIx_nat, List.drop_zero, Nat.sub_zero]
  by_cases h : k ≤ xs.length
  · rw [Nat.min_eq_left h]
  · rw [Nat.min_eq_right (by omega), List.take_length, List.take_of_length_le (by omega)]
theorem cut_toI (xs : List α) {k : Int} (h : 0 ≤ k) : cutD xs none (some k) = xs.take k.toNat := by
  have := cut_to xs k.toNat
  rw [Int.toNat_of_nonneg h] at this
  exact this
theorem cut_from (xs : List α) {k : Int} (h : 0 ≤ k) : cutD xs (some k) none = xs.drop k.toNat := by
  unfold cutD
  rw [HT.sIx_none, ← Int.toNat_of_nonneg h, HT.sIx_nat, Int.toNat_natCast]
  by_cases h : k.toNat ≤ xs.length
  · rw [Nat.min_eq_left h, List.take_of_length_le (by rw [List.length_drop]; omega)]
  · rw [Nat.min_eq_right (by omega), List.drop_length, List.drop_of_length_le (by omega), List.take_nil]
@[simp] theorem cut_all' (xs : List α) : cutD xs none none = xs := by
  unfold cutD
  rw [HT.sIx_none, HT.sIx_none, List.drop_zero, Nat.sub_zero, List.take_length]
@[simp] theorem cut_to2 (a b : α) (xs : List α) : cutD (a :: b :: xs) none (some 2) = [a, b] := by
  rw [cut_toI _ (by omega)]; rfl
theorem cut_but1 (xs : List α) : cutD xs none (some (-1)) = xs.dropLast := by
  have e : HT.sIx xs.length xs.length (some (-1)) = xs.length - 1 := by
    show (if (-1 : Int) < 0 then ((-1 : Int) + (xs.length : Int)).toNat else min (-1 : Int).toNat xs.length) = _
    rw [if_pos (by omega)]; omega
  unfold cutD
  rw [HT.sIx_none, e, List.drop_zero, Nat.sub_zero, List.dropLast_eq_take]
theorem cut_last1 (xs : List α) : cutD xs (some (-1)) none = xs.drop (xs.length - 1) := by
  have e : HT.sIx xs.length 0 (some (-1)) = xs.length - 1 := by
    show (if (-1 : Int) < 0 then ((-1 : Int) + (xs.length : Int)).toNat else min (-1 : Int).toNat xs.length) = _
    rw [if_pos (by omega)]; omega
  unfold cutD
  rw [HT.sIx_none, e, List.take_of_length_le (by rw [List.length_drop]; omega)]
theorem cut_len (xs : List α) (lo hi : Option Int) : (cutD xs lo hi).length ≤ xs.length := by
  unfold cutD
  rw [List.length_take, List.length_drop]; omega
theorem cut_mem {xs : List α} {lo hi : Option Int} {x : α} (h : x ∈ cutD xs lo hi) : x ∈ xs := by
  unfold cutD at h
  exact List.mem_of_mem_drop (List.mem_of_mem_take h)
end
@[simp] theorem attD_obj (c : String) (i : Nat) (vs : List D) : attD c i (.obj c vs) = vs[i]? := by show (if c = c then vs[i]? else none) = _; rw [if_pos rfl]
@[simp] theorem isObj_obj (c : String) (vs : List D) : isObj' c (.obj c vs) = true := by unfold isObj'; simp
@[simp] theorem it_l (xs : List D) : iterD .any [.lst xs] = some xs := rfl
@[simp] theorem it_t (xs : List D) : iterD .any [.tup xs] = some xs := rfl
@[simp] theorem it_k (ks : List Key) (vs : List D) : iterD .any [.dK ks vs] = some (ks.map kD) := rfl
@[simp] theorem it_s (s : Str) : iterD .any [.str s] = some (s.cps.toList.map fun c => .str ⟨#[c]⟩) := rfl
@[simp] theorem it_v (ks : List Key) (vs : List D) : iterD .vals [.dK ks vs] = some vs := rfl
@[simp] theorem it_i (ks : List Key) (vs : List D) : iterD .items [.dK ks vs] = some ((ks.zip vs).map fun p => .tup [kD p.1, p.2]) := rfl
theorem it_r1 {n : Int} (h : n.natAbs < 2 ^ 62) : iterD .rng [.int n] = some ((List.range n.toNat).map fun (i : Nat) => .int (i : Nat)) := by
  show (if n.natAbs < 2 ^ 62 then some ((List.range n.toNat).map fun (i : Nat) => D.int (i : Nat)) else none) = _
  rw [if_pos h]
theorem it_r2 {a b : Int} (h : a.natAbs < 2 ^ 62 ∧ b.natAbs < 2 ^ 62) : iterD .rng [.int a, .int b] = some ((List.range (b - a).toNat).map fun (i : Nat) => .int (a + (i : Nat))) := by
  show (if a.natAbs < 2 ^ 62 ∧ b.natAbs < 2 ^ 62 then some ((List.range (b - a).toNat).map fun (i : Nat) => D.int (a + (i : Nat))) else none) = _
  rw [if_pos h]
@[simp] theorem len_l (b : Bool) (xs : List D) : biD .len b [.lst xs] = some (.int (xs.length : Nat)) := rfl
@[simp] theorem len_t (b : Bool) (xs : List D) : biD .len b [.tup xs] = some (.int (xs.length : Nat)) := rfl
@[simp] theorem len_k (b : Bool) (ks : List Key) (vs : List D) : biD .len b [.dK ks vs] = some (.int (ks.length : Nat)) := rfl
theorem len_s (b : Bool) {s : Str} (h : s.length ≤ sizeLine) : biD .len b [.str s] = some (.int (s.length : Nat)) := by
  show (if s.length ≤ sizeLine then some s.length else none).map (fun n => D.int (n : Nat)) = _
  rw [if_pos h]; rfl
@[simp] theorem bi_absI (b : Bool) (i : Int) : biD .abs b [.int i] = some (.int (if i < 0 then -i else i)) := rfl
@[simp] theorem bi_intI (b : Bool) (i : Int) : biD .int b [.int i] = some (.int i) := rfl
@[simp] theorem bi_intB (b k : Bool) : biD .int b [.bl k] = some (.int (if k then 1 else 0)) := rfl
@[simp] theorem bi_listL (xs : List D) : biD .list false [.lst xs] = some (.lst xs) := rfl
@[simp] theorem bi_listT (xs : List D) : biD .list false [.tup xs] = some (.lst xs) := rfl
@[simp] theorem bi_listK (b : Bool) (ks : List Key) (vs : List D) : biD .list b [.dK ks vs] = some (.lst (ks.map kD)) := rfl
@[simp] theorem bi_dictK (ks : List Key) (vs : List D) : biD .dict false [.dK ks vs] = some (.dK ks vs) := rfl
@[simp] theorem bi_tupL (xs : List D) : biD .tuple false [.lst xs] = some (.tup xs) := rfl
@[simp] theorem bi_sumL (b : Bool) (ns : List Int) : biD .sum b [.lst (ns.map D.int)] = some (.int ns.sum) := by
  show (intsD (ns.map D.int)).map (fun ns => D.int ns.sum) = _
  rw [intsD_map]; rfl
@[simp] theorem bi_anyL (b : Bool) (ns : List Bool) : biD .any b [.lst (ns.map D.bl)] = some (.bl (ns.any id)) := by
  show (blsD (ns.map D.bl)).map (fun ns => D.bl (ns.any id)) = _
  rw [blsD_map]; rfl
@[simp] theorem bi_allL (b : Bool) (ns : List Bool) : biD .all b [.lst (ns.map D.bl)] = some (.bl (ns.all id)) := by
  show (blsD (ns.map D.bl)).map (fun ns => D.bl (ns.all id)) = _
  rw [blsD_map]; rfl
@[simp] theorem bi_max2 (b : Bool) (i j : Int) : biD .max b [.int i, .int j] = some (.int (if j > i then j else i)) := rfl
@[simp] theorem bi_min2 (b : Bool) (i j : Int) : biD .min b [.int i, .int j] = some (.int (if j < i then j else i)) := rfl
theorem bi_lenSet (b : Bool) {ss : List Str} (h : ss.length < 128) : biD .lenSet b [.lst (ss.map D.str)] = some (.int ((nubS ss).length : Nat)) := by
  show (if (ss.map D.str).length < 128 then (strsD (ss.map D.str)).bind fun ss => some (D.int ((nubS ss).length : Nat)) else none) = _
  rw [List.length_map, if_pos h, strsD_map]; rfl
@[simp] theorem bi_isTyBl (b k : Bool) : biD (.isTy "bool") b [.bl k] = some (.bl true) := rfl
theorem bi_sortS {ss : List Str} (h : ss.length < 64) : biD .sorted false [.lst (ss.map D.str)] = some (.lst ((sortB ltS ss).map D.str)) := by
  show (sortD (ss.map D.str)).map D.lst = _
  unfold sortD
  cases ss with
  | nil => rfl
  | cons s ss =>
    have e : intsD ((s :: ss).map D.str) = none := rfl
    rw [e, strsD_map]
    dsimp only
    rw [if_pos h]; rfl
theorem bi_sortKs (b : Bool) {ss : List Str} (vs : List D) (h : ss.length < 64) : biD .sorted b [.dK (ss.map Sum.inr) vs] = some (.lst ((sortB ltS ss).map D.str)) := by
  show (if (ss.map Sum.inr : List Key).length < 64 then (sortD ((ss.map Sum.inr : List Key).map kD)).map D.lst else none) = _
  rw [List.length_map, if_pos h, List.map_map]
  exact bi_sortS h
@[simp] theorem bin_add (b : Bool) (i j : Int) : binD b .Add (.int i) (.int j) = some (.int (i + j)) := rfl
@[simp] theorem bin_sub (b : Bool) (i j : Int) : binD b .Sub (.int i) (.int j) = some (.int (i - j)) := rfl
theorem bin_mul (b : Bool) (i j : Int) (h : i.natAbs < 2 ^ 64 ∨ j.natAbs < 2 ^ 64) : binD b .Mult (.int i) (.int j) = some (.int (i * j)) := by
  show ((if i.natAbs < 2 ^ 64 ∨ j.natAbs < 2 ^ 64 then some (i * j) else none) : Option Int).map D.int = _
  rw [if_pos h]; rfl
theorem bin_mod (b : Bool) (i : Int) {j : Int} (h : 0 < j) : binD b .Mod (.int i) (.int j) = some (.int (i % j)) := by
  show ((if 0 < j then some (i % j) else none) : Option Int).map D.int = _
  rw [if_pos h]; rfl
theorem bin_div (b : Bool) (i : Int) {j : Int} (h : 0 < j) (h' : j.natAbs < 1073741824) : binD b .FloorDiv (.int i) (.int j) = some (.int (i / j)) := by
  show ((if 0 < j ∧ j.natAbs < 1073741824 then some (i / j) else none) : Option Int).map D.int = _
  rw [if_pos ⟨h, h'⟩]; rfl
theorem bin_pow (b : Bool) (i : Int) {j : Int} (h : 0 ≤ j ∧ j.natAbs ≤ 1000000 ∧ i.natAbs < 2 ^ 64) : binD b .Pow (.int i) (.int j) = some (.int (i ^ j.toNat)) := by
  show ((if 0 ≤ j ∧ j.natAbs ≤ 1000000 ∧ i.natAbs < 2 ^ 64 then some (i ^ j.toNat) else none) : Option Int).map D.int = _
  rw [if_pos h]; rfl
theorem bin_catL {xs ys : List D} (h : xs.length + ys.length ≤ 16777216) : binD false .Add (.lst xs) (.lst ys) = some (.lst (xs ++ ys)) := by
  show (if xs.length + ys.length ≤ sizeLine ∧ shr false xs = true ∧ shr false ys = true then some (D.lst (xs ++ ys)) else none) = _
  rw [if_pos ⟨by rw [szl]; exact h, rfl, rfl⟩]
theorem bin_catT {xs ys : List D} (h : xs.length + ys.length ≤ 16777216) : binD false .Add (.tup xs) (.tup ys) = some (.tup (xs ++ ys)) := by
  show (if xs.length + ys.length ≤ sizeLine then some (D.tup (xs ++ ys)) else none) = _
  rw [if_pos (by rw [szl]; exact h)]
theorem bin_catS (b : Bool) {x y : Str} (h : x.length + y.length ≤ 16777216) : binD b .Add (.str x) (.str y) = some (.str (x ++ y)) := by
  show (if x.length + y.length ≤ sizeLine then some (D.str (x ++ y)) else none) = _
  rw [if_pos (by rw [szl]; exact h)]
@[simp] theorem idx_l (xs : List D) (i : Int) : idxD (.lst xs) (.int i) = atI xs i := rfl
@[simp] theorem idx_t (xs : List D) (i : Int) : idxD (.tup xs) (.int i) = atI xs i := rfl
@[simp] theorem idx_k (ks : List Key) (vs : List D) (s : Str) : idxD (.dK ks vs) (.str s) = lookD (.inr s) ks vs := rfl
@[simp] theorem keyD_s (s : Str) : keyD (.str s) = some (.inr s) := rfl
@[simp] theorem keyD_i (s : Int) : keyD (.int s) = some (.inl s) := rfl
@[simp] theorem kD_s (s : Str) : kD (.inr s) = .str s := rfl
@[simp] theorem kD_i (s : Int) : kD (.inl s) = .int s := rfl
@[simp] theorem cmp_eqI (i j : Int) : cmpD .Eq (.int i) (.int j) = some (i == j) := rfl
@[simp] theorem cmp_neI (i j : Int) : cmpD .NotEq (.int i) (.int j) = some (!(i == j)) := rfl
@[simp] theorem cmp_ltI (i j : Int) : cmpD .Lt (.int i) (.int j) = some (decide (i < j)) := rfl
@[simp] theorem cmp_gtI (i j : Int) : cmpD .Gt (.int i) (.int j) = some (decide (j < i)) := rfl
@[simp] theorem cmp_leI (i j : Int) : cmpD .LtE (.int i) (.int j) = some (decide (i ≤ j)) := rfl
@[simp] theorem cmp_geI (i j : Int) : cmpD .GtE (.int i) (.int j) = some (decide (j ≤ i)) := rfl
@[simp] theorem cmp_eqS (i j : Str) : cmpD .Eq (.str i) (.str j) = some (i == j) := rfl
@[simp] theorem cmp_neS (i j : Str) : cmpD .NotEq (.str i) (.str j) = some (!(i == j)) := rfl
@[simp] theorem cmp_eqB (i j : Bool) : cmpD .Eq (.bl i) (.bl j) = some (i == j) := rfl
@[simp] theorem cmp_neB (i j : Bool) : cmpD .NotEq (.bl i) (.bl j) = some (!(i == j)) := rfl
@[simp] theorem cmp_isN (d : D) : cmpD .Is d .non = some (isNon d) := by cases d <;> rfl
@[simp] theorem cmp_isnN (d : D) : cmpD .IsNot d .non = some (!isNon d) := by cases d <;> rfl
@[simp] theorem cmp_inS (s : Str) (ss : List Str) : cmpD .In (.str s) (.lst (ss.map D.str)) = some (decide (s ∈ ss)) := memD_str s ss
@[simp] theorem cmp_ninS (s : Str) (ss : List Str) : cmpD .NotIn (.str s) (.lst (ss.map D.str)) = some (!decide (s ∈ ss)) := by
  show (memD (.str s) (ss.map D.str)).map not = _
  rw [memD_str]; rfl
theorem hasK_s (s : Str) (ss : List Str) : hasK (.inr s : Key) (ss.map Sum.inr) = decide (s ∈ ss) := by
  unfold hasK
  induction ss with
  | nil => rfl
  | cons x xs ih =>
    rw [List.map_cons, List.any_cons, ih]
    by_cases h : s = x
    · subst h; simp
    · have : decide ((Sum.inr x : Key) = Sum.inr s) = false := decide_eq_false fun z => h (Sum.inr.inj z).symm
      rw [this, Bool.false_or]
      simp [h]
@[simp] theorem cmp_inK (s : Str) (ss : List Str) (vs : List D) : cmpD .In (.str s) (.dK (ss.map Sum.inr) vs) = some (decide (s ∈ ss)) := by
  show some (hasK (.inr s : Key) (ss.map Sum.inr)) = _
  rw [hasK_s]
@[simp] theorem cmp_ninK (s : Str) (ss : List Str) (vs : List D) : cmpD .NotIn (.str s) (.dK (ss.map Sum.inr) vs) = some (!decide (s ∈ ss)) := by
  show (some (hasK (.inr s : Key) (ss.map Sum.inr))).map not = _
  rw [hasK_s]; rfl
theorem memD_intL (i : Int) (ys : List Int) : memD (.int i) (ys.map D.int) = some (decide (i ∈ ys)) := by
  unfold memD
  rw [scal_int]
  show some _ = _
  congr 1
  induction ys with
  | nil => rfl
  | cons x xs ih =>
    rw [List.map_cons, List.any_cons, ih]
    show (x == i || decide (i ∈ xs)) = _
    by_cases h : i = x
    · subst h; simp
    · have : (x == i) = false := beq_eq_false_iff_ne.mpr fun z => h z.symm
      rw [this, Bool.false_or]
      simp [h]
@[simp] theorem cmp_nin2 (i a b : Int) : cmpD .NotIn (.int i) (.lst [.int a, .int b]) = some (!decide (i = a ∨ i = b)) := by
  show (memD (.int i) ([a, b].map D.int)).map not = _
  rw [memD_intL]; simp
@[simp] theorem cmp_nin2t (i a b : Int) : cmpD .NotIn (.int i) (.tup [.int a, .int b]) = some (!decide (i = a ∨ i = b)) := by
  show (memD (.int i) ([a, b].map D.int)).map not = _
  rw [memD_intL]; simp
@[simp] theorem cmp_inC (c : Nat) (s : Str) : cmpD .In (.str ⟨#[c]⟩) (.str s) = some (decide (c ∈ s.cps.toList)) := rfl
@[simp] theorem cmp_ninC (c : Nat) (s : Str) : cmpD .NotIn (.str ⟨#[c]⟩) (.str s) = some (!decide (c ∈ s.cps.toList)) := rfl
section
variable (Φ : D → CmpOp → D → Option Bool)
@[simp] theorem chn_one (x d : D) (o : CmpOp) : chnGo Φ x [o] [.ok d] = (ofO (Φ x o d) >>= fun b => .ok (.bl b)) := rfl
@[simp] theorem chn_cons (x d y : D) (o o' : CmpOp) (os : List CmpOp) (ys : List (R D)) : chnGo Φ x (o :: o' :: os) (.ok d :: .ok y :: ys) = (ofO (Φ x o d) >>= fun b => if b then chnGo Φ d (o' :: os) (.ok y :: ys) else .ok (.bl false)) := rfl
end
theorem lcGo_map2 {α β : Type} {f : D → R (Option D)} {h : α → D} {g : α → β} {k : β → D} {as : List α} (hs : ∀ a ∈ as, f (h a) = .ok (some (k (g a)))) : lcGo f (as.map h) = .ok ((as.map g).map k) := by
  rw [lcGo_map (g := fun a => k (g a)) hs, List.map_map]; rfl
theorem lcGo_filt2 {α β : Type} {f : D → R (Option D)} {h : α → D} {p : α → Bool} {g : α → β} {k : β → D} {as : List α} (hs : ∀ a ∈ as, f (h a) = .ok (if p a then some (k (g a)) else none)) : lcGo f (as.map h) = .ok (((as.filter p).map g).map k) := by
  rw [lcGo_filter (g := fun a => k (g a)) hs, List.map_map]; rfl
section
variable {α β : Type} {lt : α → α → Bool} {lt' : β → β → Bool} {f : α → β}
theorem insB_map (h : ∀ a b, lt' (f a) (f b) = lt a b) (x : α) : ∀ ys : List α, insB lt' (f x) (ys.map f) = (insB lt x ys).map f
  | [] => rfl
  | y :: ys => by
    rw [List.map_cons]
    show (if lt' (f y) (f x) then f y :: insB lt' (f x) (ys.map f) else f x :: f y :: ys.map f) = List.map f (if lt y x then y :: insB lt x ys else x :: y :: ys)
    rw [h, insB_map h x ys]
    cases lt y x <;> rfl
theorem sortB_map (h : ∀ a b, lt' (f a) (f b) = lt a b) : ∀ xs : List α, sortB lt' (xs.map f) = (sortB lt xs).map f
  | [] => rfl
  | x :: xs => by
    show insB lt' (f x) (sortB lt' (xs.map f)) = _
    rw [sortB_map h xs, insB_map h]; rfl
end
/-- equal data, some levels deep -/
theorem eqs_map {α : Type} {f : α → D} {n : Nat} (xs ys : List α) [DecidableEq α] (h : ∀ x ∈ xs, ∀ y ∈ ys, eqN n (f x) (f y) = some (decide (x = y))) : eqs (eqN n) (xs.map f) (ys.map f) = some (decide (xs = ys)) := by
  induction xs generalizing ys with
  | nil => cases ys <;> simp [eqs]
  | cons x xs ih =>
    cases ys with
    | nil => simp [eqs]
    | cons y ys =>
      show (eqN n (f x) (f y)).bind (fun b => (eqs (eqN n) (xs.map f) (ys.map f)).map fun r => b && r) = _
      rw [h x List.mem_cons_self y List.mem_cons_self, ih ys fun a ha b hb => h a (List.mem_cons_of_mem _ ha) b (List.mem_cons_of_mem _ hb)]
      show some (decide (x = y) && decide (xs = ys)) = _
      congr 1
      by_cases h1 : x = y <;> by_cases h2 : xs = ys <;> simp [h1, h2]
theorem eqN_lst {α : Type} {f : α → D} {n : Nat} (xs ys : List α) [DecidableEq α] (h : ∀ x ∈ xs, ∀ y ∈ ys, eqN n (f x) (f y) = some (decide (x = y))) : eqN (n + 1) (.lst (xs.map f)) (.lst (ys.map f)) = some (decide (xs = ys)) := by
  show (if (xs.map f).length = (ys.map f).length then eqs (eqN n) (xs.map f) (ys.map f) else some false) = _
  rw [List.length_map, List.length_map]
  by_cases hl : xs.length = ys.length
  · rw [if_pos hl]; exact eqs_map xs ys h
  · rw [if_neg hl]
    rw [decide_eq_false fun z => hl (by rw [z])]
theorem cmp_eqL {α : Type} {f : α → D} (xs ys : List α) [DecidableEq α] (h : ∀ x ∈ xs, ∀ y ∈ ys, eqN 23 (f x) (f y) = some (decide (x = y))) : cmpD .Eq (.lst (xs.map f)) (.lst (ys.map f)) = some (decide (xs = ys)) := eqN_lst xs ys h
theorem cmp_neL {α : Type} {f : α → D} (xs ys : List α) [DecidableEq α] (h : ∀ x ∈ xs, ∀ y ∈ ys, eqN 23 (f x) (f y) = some (decide (x = y))) : cmpD .NotEq (.lst (xs.map f)) (.lst (ys.map f)) = some (!decide (xs = ys)) := by
  show (eqD (.lst (xs.map f)) (.lst (ys.map f))).map not = _
  rw [show eqD (.lst (xs.map f)) (.lst (ys.map f)) = _ from eqN_lst xs ys h]; rfl
@[simp] theorem eqN_s (n : Nat) (a b : Str) : eqN (n + 1) (.str a) (.str b) = some (decide (a = b)) := by
  show some (a == b) = _
  by_cases h : a = b <;> simp [h]
@[simp] theorem eqN_i (n : Nat) (a b : Int) : eqN (n + 1) (.int a) (.int b) = some (decide (a = b)) := by
  show some (a == b) = _
  by_cases h : a = b <;> simp [h]
theorem eqN_t2 (n : Nat) (a b c d : D) {p q : Bool} (h : eqN n a c = some p) (h' : eqN n b d = some q) : eqN (n + 1) (.tup [a, b]) (.tup [c, d]) = some (p && q) := by
  show (eqN n a c).bind (fun x => (Option.map (fun r => x && r) ((eqN n b d).bind fun x => Option.map (fun r => x && r) (some true)))) = _
  rw [h, h']; simp
end Mp
/-! exceptions, worked out -/
namespace Mp
open PySem PySem.Spec PyProof.Rows L2
section
variable (Φ : String → List D → R D) (kk : Nat) (env : Sls) (c : String) (x : Option D)
@[simp] theorem exS_raise0 : exS Φ kk (.raise c []) env = .exc c none env := rfl
@[simp] theorem exS_raise1 (e : E) : exS Φ kk (.raise c [e]) env = liftR (ev Φ e false env) env fun d => if bor e then .bad else .exc c (some d) env := by
  show liftR (seqR (evs Φ [e] false env)) env _ = _
  have h : seqR (evs Φ [e] false env) = (ev Φ e false env >>= fun d => R.ok [d]) := seq1'
  rw [h]
  cases ev Φ e false env with
  | ok a => show (if ([e] : List E).any bor then RS.bad else .exc c (some a) env) = if bor e then .bad else .exc c (some a) env; rw [List.any_cons, List.any_nil, Bool.or_false]
  | exc c x => rfl
  | bad => rfl
def tryF (r : RS) (hs : List Hd) : RS := match r with
  | .exc c x env => exH kk c x env hs
  | r => r
@[simp] theorem exS_try (b : List S) (hs : List Hd) : exS Φ kk (.try b hs) env = tryF kk (exL Φ kk b env) hs := rfl
@[simp] theorem tryF_nx (hs : List Hd) : tryF kk (.nx env) hs = .nx env := rfl
@[simp] theorem tryF_bk (hs : List Hd) : tryF kk (.bk env) hs = .bk env := rfl
@[simp] theorem tryF_ct (hs : List Hd) : tryF kk (.ct env) hs = .ct env := rfl
@[simp] theorem tryF_rt (d : D) (hs : List Hd) : tryF kk (.rt d) hs = .rt d := rfl
@[simp] theorem tryF_exc (hs : List Hd) : tryF kk (.exc c x env) hs = exH kk c x env hs := rfl
@[simp] theorem exH_nil : exH kk c x env [] = .exc c x env := rfl
@[simp] theorem exH_cons (c' : String) (ys ns : List String) (n : Option Nat) (ss : List HS) (hs : List Hd) : exH kk c x env (⟨c', ys, ns, n, ss⟩ :: hs) = if c ∈ ys then (match n with
      | none => hsL kk c x ss env
      | some i => match env[i]? with
        | some .no => hsL kk c x ss env
        | _ => .bad) else if c ∈ ns then exH kk c x env hs else .bad := rfl
@[simp] theorem hsL_nil : hsL kk c x [] env = .nx env := rfl
@[simp] theorem hsL_ret (e : HE) (ss : List HS) : hsL kk c x (.ret e :: ss) env = match hev c x env e with
    | some d => if kk == 0 || isAtom d then .rt d else .bad
    | none => .bad := rfl
@[simp] theorem hsL_inc (i : Nat) (k : Int) (ss : List HS) : hsL kk c x (.inc i k :: ss) env = match env[i]? with
    | some (.val (.int z)) => hsL kk c x ss (env.set i (.val (.int (z + k))))
    | _ => .bad := rfl
@[simp] theorem hsL_pass (ss : List HS) : hsL kk c x (.pass :: ss) env = hsL kk c x ss env := rfl
@[simp] theorem hev_con (d : D) : hev c x env (.con d) = if isScal d then some d else none := rfl
@[simp] theorem hev_att (cs : List String) : hev c x env (.att cs) = if c ∈ cs then x else none := rfl
@[simp] theorem hev_isx (c' : String) (ys ns : List String) : hev c x env (.isx c' ys ns) = if c ∈ ys then some (.bl true) else if c ∈ ns then some (.bl false) else none := rfl
@[simp] theorem hev_tup (es : List HE) : hev c x env (.tup es) = (hevs c x env es).map D.tup := rfl
@[simp] theorem hevs_nil : hevs c x env [] = some [] := rfl
@[simp] theorem hevs_cons (e : HE) (es : List HE) : hevs c x env (e :: es) = (hev c x env e).bind fun d => (hevs c x env es).map (d :: ·) := rfl
@[simp] theorem outS_exc (np k : Nat) (bs : List Bool) : outS ⟨np, bs, k, none⟩ (.exc c x env) = .exc c x := rfl
@[simp] theorem outS_excI (np k : Nat) (bs : List Bool) (i : String) : outS ⟨np, bs, k, some i⟩ (.exc c x env) = .exc c x := rfl
@[simp] theorem noXS_exc : noXS (.exc c x env) = .bad := rfl
@[simp] theorem forF_exc : forF false (.exc c x env) = .exc c x env := rfl
@[simp] theorem seqS_nil (r : RS) : seqS r (exL Φ kk []) = r := by cases r <;> rfl
end
@[simp] theorem dctP_nil (r : List Key × List D) : dctP [] r = some r := rfl
@[simp] theorem isNon_non : isNon .non = true := rfl
@[simp] theorem isNon_bl (b : Bool) : isNon (.bl b) = false := rfl
@[simp] theorem isNon_int (i : Int) : isNon (.int i) = false := rfl
@[simp] theorem isNon_str (s : Str) : isNon (.str s) = false := rfl
@[simp] theorem isNon_lst (s : List D) : isNon (.lst s) = false := rfl
@[simp] theorem isNon_tup (s : List D) : isNon (.tup s) = false := rfl
@[simp] theorem isNon_dK (k : List Key) (s : List D) : isNon (.dK k s) = false := rfl
@[simp] theorem cmp_isB (a b : Bool) : cmpD .Is (.bl a) (.bl b) = some (a == b) := rfl
@[simp] theorem cmp_isnB (a b : Bool) : cmpD .IsNot (.bl a) (.bl b) = some (!(a == b)) := rfl
/-! ### dicts of a function -/
/-- the dict with the keys ns, the value at n told by g -/
def fD (ns : List Str) (g : Str → D) : D := .dK (ns.map Sum.inr) (ns.map g)
theorem lookD_f (x : Str) (g : Str → D) : ∀ ns : List Str, lookD (.inr x : Key) (ns.map Sum.inr) (ns.map g) = if x ∈ ns then some (g x) else none
  | [] => rfl
  | n :: ns => by
    show (if (Sum.inr n : Key) = Sum.inr x then some (g n) else lookD _ (ns.map Sum.inr) (ns.map g)) = _
    rw [lookD_f x g ns]
    by_cases h : n = x
    · rw [if_pos (by rw [h]), if_pos (by rw [h]; exact List.mem_cons_self), h]
    · rw [if_neg fun z => h (Sum.inr.inj z)]
      by_cases m : x ∈ ns
      · rw [if_pos m, if_pos (List.mem_cons_of_mem _ m)]
      · rw [if_neg m, if_neg fun z => (List.mem_cons.mp z).elim (fun e => h e.symm) m]
def updF (g : Str → D) (x : Str) (v : D) : Str → D := fun y => if y = x then v else g y
theorem replD_f (x : Str) (v : D) (g : Str → D) : ∀ ns : List Str, replD (.inr x : Key) v (ns.map Sum.inr) (ns.map g) = ns.map (updF g x v)
  | [] => rfl
  | n :: ns => by
    show (if (Sum.inr n : Key) = Sum.inr x then v else g n) :: replD _ v (ns.map Sum.inr) (ns.map g) = updF g x v n :: _
    rw [replD_f x v g ns]
    unfold updF
    by_cases h : n = x
    · rw [if_pos (by rw [h]), if_pos h]
    · rw [if_neg fun z => h (Sum.inr.inj z), if_neg h]
theorem putD_f {x : Str} {v : D} {g : Str → D} {ns : List Str} : putD (.inr x : Key) v (ns.map Sum.inr) (ns.map g) = if x ∈ ns then (ns.map Sum.inr, ns.map (updF g x v)) else ((ns ++ [x]).map Sum.inr, (ns ++ [x]).map (updF g x v)) := by
  unfold putD
  rw [hasK_s]
  by_cases h : x ∈ ns
  · rw [decide_eq_true h, if_pos rfl, if_pos h, replD_f]
  · rw [decide_eq_false h, if_neg (by decide), if_neg h, List.map_append, List.map_append]
    congr 1
    · show ns.map g ++ [v] = ns.map (updF g x v) ++ [updF g x v x]
      rw [show updF g x v x = v from if_pos rfl]
      congr 1
      apply List.map_congr_left
      intro y m
      exact (if_neg (c := y = x) fun z => h (z ▸ m)).symm
/-- one key more, or a key's new value -/
def putN (ns : List Str) (x : Str) : List Str := if x ∈ ns then ns else ns ++ [x]
theorem sub_f {x : Str} {v : D} {g : Str → D} {ns : List Str} (h : ns.length < 16777216) : subD (fD ns g) (.str x) v = some (fD (putN ns x) (updF g x v)) := by
  have hl : (ns.map Sum.inr : List Key).length < sizeLine := by rw [List.length_map, szl]; exact h
  show (if (ns.map Sum.inr : List Key).length < sizeLine then (keyD (.str x)).map fun q => D.dK (putD q v (ns.map Sum.inr) (ns.map g)).1 (putD q v (ns.map Sum.inr) (ns.map g)).2 else none) = _
  rw [if_pos hl, keyD_s]
  show some (D.dK (putD (.inr x : Key) v (ns.map Sum.inr) (ns.map g)).1 (putD (.inr x : Key) v (ns.map Sum.inr) (ns.map g)).2) = _
  rw [putD_f]
  unfold putN fD
  by_cases m : x ∈ ns
  · rw [if_pos m, if_pos m]
  · rw [if_neg m, if_neg m]
theorem idx_f {x : Str} {g : Str → D} {ns : List Str} (h : x ∈ ns) : idxD (fD ns g) (.str x) = some (g x) := by
  show lookD (.inr x : Key) (ns.map Sum.inr) (ns.map g) = _
  rw [lookD_f, if_pos h]
theorem in_f (x : Str) (g : Str → D) (ns : List Str) : cmpD .In (.str x) (fD ns g) = some (decide (x ∈ ns)) := cmp_inK x ns _
theorem nin_f (x : Str) (g : Str → D) (ns : List Str) : cmpD .NotIn (.str x) (fD ns g) = some (!decide (x ∈ ns)) := cmp_ninK x ns _
theorem it_f (g : Str → D) (ns : List Str) : iterD .any [fD ns g] = some (ns.map D.str) := by
  show some ((ns.map Sum.inr : List Key).map kD) = _
  rw [List.map_map]; rfl
theorem list_f (b : Bool) (g : Str → D) (ns : List Str) : biD .list b [fD ns g] = some (.lst (ns.map D.str)) := by
  show some (D.lst ((ns.map Sum.inr : List Key).map kD)) = _
  rw [List.map_map]; rfl
theorem fD_nil (g : Str → D) : D.dK [] [] = fD [] g := rfl
theorem fD_congr {ns : List Str} {f g : Str → D} (h : ∀ n ∈ ns, f n = g n) : fD ns f = fD ns g := by
  unfold fD
  rw [List.map_congr_left h]
/-- == of two such dicts -/
theorem eqKs_f {α : Type} [DecidableEq α] {k : α → D} (hk : ∀ a b, eqD (k a) (k b) = some (decide (a = b))) {g g' : Str → α} {js : List Str} : ∀ {ns : List Str}, (∀ n ∈ ns, n ∈ js) → eqKs eqD (js.map Sum.inr) (js.map fun n => k (g' n)) (ns.map Sum.inr) (ns.map fun n => k (g n)) = some (decide (∀ n ∈ ns, g n = g' n))
  | [], _ => by simp [eqKs]
  | n :: ns, h => by
    show (match lookD (Sum.inr n : Key) (js.map Sum.inr) (js.map fun n => k (g' n)) with | none => some false | some u => (eqD (k (g n)) u).bind fun b => (eqKs eqD (js.map Sum.inr) (js.map fun n => k (g' n)) (ns.map Sum.inr) (ns.map fun n => k (g n))).map (b && ·)) = _
    rw [lookD_f n (fun n => k (g' n)) js, if_pos (h n List.mem_cons_self)]
    dsimp only
    rw [hk, eqKs_f hk fun m hm => h m (List.mem_cons_of_mem _ hm)]
    show some (decide (g n = g' n) && decide (∀ n ∈ ns, g n = g' n)) = _
    congr 1
    by_cases h1 : g n = g' n <;> by_cases h2 : ∀ n ∈ ns, g n = g' n <;> simp [h1, h2]
end Mp
/-! the laws' numbers -/
namespace Sh
open PySem Mp
def b1_row : List S := [(.set (.nm 4) (.bin .Mod (.bi .int [(.bin .Add (.bin .Mult (.bin .Add (.loc 4) (.con (.int 1))) (.con (.int 48271))) (.bin .Mult (.con (.int 69621)) (.loc 5)))]) (.con (.int 2147483647)))),
  (.ite (.cmp .Gt (.loc 3) (.con (.int 0))) [(.app 2 (.bin .Mod (.bi .int [(.loc 3)]) (.con (.int 1009)))),
  (.set (.nm 3) (.bin .FloorDiv (.loc 3) (.con (.int 1009))))] [(.app 2 (.bin .Mod (.bi .int [(.bin .FloorDiv (.loc 4) (.con (.int 2048)))]) (.con (.int 1009))))])]
def d_row : Def := ⟨⟨2, [], 0, none⟩, 6, [(.own 2 (.lst [])),
  (.set (.nm 3) (.con (.int 0))),
  (.ite (.cmp .GtE (.bi .abs [(.loc 0)]) (.bin .Pow (.con (.int 10)) (.con (.int 18)))) [(.set (.nm 3) (.bi .abs [(.loc 0)]))] []),
  (.set (.nm 4) (.bin .Mod (.bi .int [(.bi .abs [(.loc 0)])]) (.con (.int 2147483647)))),
  (.for (.nm 5) .rng [(.loc 1)] b1_row),
  (.frz 2),
  (.ret (.loc 2))]⟩
def b3_numbers : List S := [(.app 4 (.con (.int 0)))]
def b2_numbers : List S := [(.app 4 (.loc 6))]
def b1_numbers : List S := [(.for (.nm 6) .any [(.call "_law_row" 0 [(.loc 5), (.loc 3)])] b2_numbers)]
def d_numbers : Def := ⟨⟨2, [], 0, none⟩, 7, [(.set (.nm 2) (.sl (.loc 0) [] [(.con (.int 63))])),
  (.set (.nm 3) (.bin .Add (.con (.int 1)) (.bin .FloorDiv (.loc 1) (.bi .max [(.con (.int 1)), (.bi .len [(.loc 2)])])))),
  (.own 4 (.lst [])),
  (.for (.nm 5) .any [(.loc 2)] b1_numbers),
  (.whl (.cmp .Lt (.bi .len [(.lb 4)]) (.loc 1)) b3_numbers),
  (.frz 4),
  (.ret (.sl (.loc 4) [] [(.loc 1)]))]⟩
/-- small numbers, from 0 on -/
def Sm (xs : List Int) : Prop := ∀ x ∈ xs, 0 ≤ x ∧ x < 1009
theorem Sm.nil : Sm [] := fun _ h => by cases h
theorem Sm.app {xs ys : List Int} (h : Sm xs) (h' : Sm ys) : Sm (xs ++ ys) := fun x m => (List.mem_append.mp m).elim (h x) (h' x)
theorem Sm.one {y : Int} (h0 : 0 ≤ y) (h1 : y < 1009) : Sm [y] := fun x m => by rw [List.mem_singleton] at m; subst m; exact ⟨h0, h1⟩
theorem Sm.mod (y : Int) : Sm [y % 1009] := Sm.one (Int.emod_nonneg _ (by decide)) (Int.emod_lt_of_pos _ (by decide))
section
variable {P : String → Option Def}
theorem row_eq (h : P "_law_row" = some d_row) (n : Nat) (c : Int) (m : Int) (hm : 0 ≤ m) (hm2 : m < 10000) : ∃ ms : List Int, Sm ms ∧ (ms.length : Int) = m ∧ run P (n + 1) "_law_row" [.int c, .int m] = .ok (.lst (ms.map D.int)) := by
  have key : ∀ rest : Int, 0 ≤ rest → ∃ ms : List Int, Sm ms ∧ (ms.length : Int) = m ∧ outS ⟨2, [], 0, none⟩ (exL (run P n) 0 (d_row.body.drop 3) [.val (.int c), .val (.int m), .own 0 (.lst []), .val (.int rest), .no, .no]) = .ok (.lst (ms.map D.int)) := by
    intro rest hr
    obtain ⟨env', e1, acc, rest', st, sl, e2, e3, e4, _⟩ := forGo_rng (bind := bindT (.nm 5)) (body := exL (run P n) 0 b1_row) (fun (i : Nat) => D.int (i : Nat))
      (fun i env => ∃ (acc : List Int) (rest st : Int) (sl : Sl), env = [.val (.int c), .val (.int m), .own 0 (.lst (acc.map D.int)), .val (.int rest), .val (.int st), sl] ∧ Sm acc ∧ acc.length = i ∧ 0 ≤ rest) m.toNat
      [.val (.int c), .val (.int m), .own 0 (.lst []), .val (.int rest), .val (.int ((if c < 0 then -c else c) % 2147483647)), .no]
      ⟨[], rest, _, .no, rfl, Sm.nil, rfl, hr⟩ (by
        rintro j env hj ⟨acc, rest, st, sl, rfl, h1, h2, h3⟩
        have hl : acc.length < 16777216 := by omega
        by_cases hr : 0 < rest
        · refine ⟨[.val (.int c), .val (.int m), .own 0 (.lst ((acc ++ [rest % 1009]).map D.int)), .val (.int (rest / 1009)), .val (.int (((st + 1) * 48271 + 69621 * j) % 2147483647)), .val (.int j)], ?_, acc ++ [rest % 1009], _, _, _, rfl, h1.app (Sm.mod _), by simp; omega, Int.ediv_nonneg h3 (by decide)⟩
          simp [turn, b1_row, bor, bin_mod, bin_mul, bin_div, hr, hl]
        · refine ⟨[.val (.int c), .val (.int m), .own 0 (.lst ((acc ++ [((((st + 1) * 48271 + 69621 * j) % 2147483647) / 2048) % 1009]).map D.int)), .val (.int rest), .val (.int (((st + 1) * 48271 + 69621 * j) % 2147483647)), .val (.int j)], ?_, acc ++ [_], _, _, _, rfl, h1.app (Sm.mod _), by simp; omega, h3⟩
          simp [turn, b1_row, bor, bin_mod, bin_mul, bin_div, hr, hl])
    refine ⟨acc, e3, by rw [e4]; omega, ?_⟩
    simp [d_row, bin_mod, bor, it_r1 (n := m) (by omega), e1, e2, isDct]
  rw [run_succ h]
  simp [d_row, ini, argE, bor, kd, bin_pow]
  by_cases hc : 1000000000000000000 ≤ if c < 0 then -c else c
  · rw [if_pos hc]; exact key _ (by split <;> omega)
  · rw [if_neg hc]; exact key 0 (by omega)
theorem numbers_eq (h : P "_law_row" = some d_row) (h' : P "_law_numbers" = some d_numbers) (n : Nat) (ns : List Int) (m : Int) (hm : 0 ≤ m) (hm2 : m < 5000) : ∃ ms : List Int, Sm ms ∧ (ms.length : Int) = m ∧ run P (n + 2) "_law_numbers" [.scr ns, .int m] = .ok (.lst (ms.map D.int)) := by
  obtain ⟨E, hE⟩ : ∃ E : Int, E = if 1 < ((min 63 ns.length : Nat) : Int) then ((min 63 ns.length : Nat) : Int) else 1 := ⟨_, rfl⟩
  have hE1 : 0 < E ∧ E ≤ 63 := by rw [hE]; split <;> omega
  have hd0 : 0 ≤ m / E := Int.ediv_nonneg hm (by omega)
  have hd1 : m / E ≤ m := Int.ediv_le_self _ hm
  obtain ⟨cs, hcs⟩ : ∃ cs : List Int, cs = ns.take 63 := ⟨_, rfl⟩
  have hcl : cs.length ≤ 63 := by rw [hcs, List.length_take]; omega
  -- the rows, one behind the other
  obtain ⟨env1, e1, acc, x5, x6, q1, q2, q3⟩ := forGo_inv (bind := bindT (.nm 5)) (body := exL (run P (n + 1)) 0 b1_numbers) D.int
    (fun i env => ∃ (acc : List Int) (x5 x6 : Sl), env = [.val (.scr ns), .val (.int m), .val (.lst (cs.map D.int)), .val (.int (1 + m / E)), .own 0 (.lst (acc.map D.int)), x5, x6] ∧ Sm acc ∧ acc.length ≤ i * 10000) cs
    [.val (.scr ns), .val (.int m), .val (.lst (cs.map D.int)), .val (.int (1 + m / E)), .own 0 (.lst []), .no, .no] ⟨[], .no, .no, rfl, Sm.nil, by simp⟩ (by
      rintro j c env hj ⟨acc, x5, x6, rfl, h1, h2⟩
      obtain ⟨hj63, _⟩ := List.getElem?_eq_some_iff.mp hj
      obtain ⟨ms, r1, r2, r3⟩ := row_eq h n c (1 + m / E) (by omega) (by omega)
      obtain ⟨env2, e2, x6, q2⟩ := forGo_inv (bind := bindT (.nm 6)) (body := exL (run P (n + 1)) 0 b2_numbers) D.int
        (fun i env => ∃ x6 : Sl, env = [.val (.scr ns), .val (.int m), .val (.lst (cs.map D.int)), .val (.int (1 + m / E)), .own 0 (.lst ((acc ++ ms.take i).map D.int)), .val (.int c), x6]) ms
        [.val (.scr ns), .val (.int m), .val (.lst (cs.map D.int)), .val (.int (1 + m / E)), .own 0 (.lst (acc.map D.int)), .val (.int c), x6] ⟨x6, by simp⟩ (by
          rintro k y env hk ⟨x6, rfl⟩
          obtain ⟨hk2, ek⟩ := List.getElem?_eq_some_iff.mp hk
          have hl : (acc ++ ms.take k).length < 16777216 := by rw [List.length_append, List.length_take]; omega
          refine ⟨_, ?_, .val (.int y), rfl⟩
          have et : ms.take (k + 1) = ms.take k ++ [y] := by rw [List.take_succ, hk]; rfl
          rw [et]
          simp only [List.length_append, List.length_take] at hl
          simp [turn, b2_numbers, bor, hl])
      refine ⟨_, ?_, acc ++ ms, .val (.int c), x6, rfl, h1.app r1, by rw [List.length_append]; omega⟩
      simp [turn, b1_numbers, bor, r3, e2, q2, isDct])
  subst q1
  -- up to m
  obtain ⟨env2, e2, acc2, q4, q5, q6⟩ := whlGo_inv (c := condF (run P (n + 1)) (.cmp .Lt (.bi .len [(.lb 4)]) (.loc 1))) (body := exL (run P (n + 1)) 0 b3_numbers)
    (fun k env => ∃ acc2 : List Int, env = [.val (.scr ns), .val (.int m), .val (.lst (cs.map D.int)), .val (.int (1 + m / E)), .own 0 (.lst (acc2.map D.int)), x5, x6] ∧ Sm acc2 ∧ k = m.toNat - acc2.length)
    (fun env => ∃ acc2 : List Int, env = [.val (.scr ns), .val (.int m), .val (.lst (cs.map D.int)), .val (.int (1 + m / E)), .own 0 (.lst (acc2.map D.int)), x5, x6] ∧ Sm acc2 ∧ m ≤ acc2.length) (by
      rintro k env ⟨acc2, rfl, h1, h2⟩
      by_cases hl : (acc2.length : Int) < m
      · refine .inr ⟨by simp [condF, hl], _, _, ?_, ?_, acc2 ++ [0], rfl, h1.app (Sm.one (by omega) (by omega)), rfl⟩
        · rw [List.length_append, List.length_singleton]; omega
        · have hl2 : acc2.length < 16777216 := by omega
          simp [b3_numbers, bor, hl2]
      · refine .inl ⟨by simp [condF, hl], acc2, rfl, h1, by omega⟩) wF (m.toNat - acc.length) _ ⟨acc, rfl, q2, rfl⟩ (by unfold wF; omega)
  subst q4
  refine ⟨acc2.take m.toNat, fun x hx => q5 x (List.mem_of_mem_take hx), by rw [List.length_take]; omega, ?_⟩
  rw [run_succ h']
  simp only [d_numbers, ini, argE]
  simp [bor, kd, cut_toI]
  rw [← hE]
  simp [bor, kd, bin_div false m hE1.1 (by omega), isDct]
  rw [← List.map_take, ← hcs, e1]
  simp [bor, kd, e2, cut_toI _ hm]
end
end Sh
/-! plants -/
namespace Sh
open PySem Mp L2
def d_is_name : Def := ⟨⟨1, [], 0, none⟩, 2, [(.ret (.bo true [(.chn (.con (.int 1)) [.LtE, .LtE] [(.bi .len [(.loc 0)]), (.con (.int 12))]), (.bi .all [(.lc (.cmp .In (.loc 1) (.glo "LETTERS" (.str "abcdefghijklmnopqrstuvwxyz0123456789"))) [1] (.nm 1) .any [(.loc 0)] [])])]))]⟩
def b1_named : List S := [(.ite (.cmp .Eq (.idx (.loc 2) (.con (.int 0))) (.loc 1)) [(.ret (.loc 2))] [])]
def d_named (r : S) : Def := ⟨⟨2, [], 0, none⟩, 3, [(.for (.nm 2) .any [(.att "Plant" 1 (.loc 0))] b1_named),
  r]⟩
def d_is_stream : Def := ⟨⟨2, [], 0, none⟩, 7, [(.ite (.cmp .NotEq (.bi .len [(.loc 0)]) (.con (.int 5))) [(.ret (.con (.bl false)))] []),
  (.set (.tp [(.nm 2), (.nm 3), (.nm 4), (.nm 5), (.nm 6)]) (.loc 0)),
  (.ret (.bo true [(.cmp .In (.loc 3) (.loc 1)), (.cmp .In (.loc 4) (.loc 1)), (.chn (.con (.int 0)) [.LtE, .LtE, .LtE] [(.loc 5), (.loc 6), (.glo "MOST_FLOW" (.int 1000000))])]))]⟩
def d_are_names : Def := ⟨⟨1, [], 0, none⟩, 2, [(.ret (.bo true [(.bi .all [(.lc (.call "is_name" 0 [(.loc 1)]) [1] (.nm 1) .any [(.loc 0)] [])]), (.cmp .Eq (.bi .lenSet [(.loc 0)]) (.bi .len [(.loc 0)]))]))]⟩
def d_stream_names : Def := ⟨⟨1, [], 0, none⟩, 2, [(.ret (.lc (.idx (.loc 1) (.con (.int 0))) [1] (.nm 1) .any [(.att "Plant" 1 (.loc 0))] []))]⟩
def d_init (r1 r2 r3 : S) : Def := ⟨⟨3, [], 1, (some "Plant")⟩, 4, [(.ite (.bo false [(.not (.chn (.con (.int 1)) [.LtE, .LtE] [(.bi .len [(.loc 1)]), (.glo "MOST_KNOTS" (.int 24))])), (.not (.call "are_names" 0 [(.loc 1)]))]) [r1] []),
  (.ite (.bo false [(.cmp .Gt (.bi .len [(.loc 2)]) (.glo "MOST_STREAMS" (.int 60))), (.not (.bi .all [(.lc (.call "is_stream" 0 [(.loc 3), (.loc 1)]) [3] (.nm 3) .any [(.loc 2)] [])]))]) [r2] []),
  (.ite (.not (.call "are_names" 0 [(.lc (.idx (.loc 3) (.con (.int 0))) [3] (.nm 3) .any [(.loc 2)] [])])) [r3] []),
  (.sat "Plant" 0 0 (.bi .sorted [(.loc 1)])),
  (.sat "Plant" 1 0 (.bi .sorted [(.loc 2)]))]⟩
def letters : Str := "abcdefghijklmnopqrstuvwxyz0123456789"
def nameB (s : Str) : Bool := decide (1 ≤ s.length) && decide (s.length ≤ 12) && s.cps.toList.all fun c => decide (c ∈ letters.cps.toList)
/-- a stream -/
structure St where
  name : Str
  tail : Str
  head : Str
  low : Int
  high : Int
  deriving DecidableEq
def tupS (s : St) : D := .tup [.str s.name, .str s.tail, .str s.head, .int s.low, .int s.high]
def keyS (s : St) : List Key := [.inr s.name, .inr s.tail, .inr s.head, .inl s.low, .inl s.high]
def ltSt (a b : St) : Bool := ltKs (keyS a) (keyS b)
def sortSt (ss : List St) : List St := sortB ltSt ss
def sortN (ss : List Str) : List Str := sortB ltS ss
theorem tupK_S (s : St) : tupK (keyS s) = tupS s := rfl
theorem intsD_S (s : St) (ss : List St) : intsD ((s :: ss).map tupS) = none := rfl
theorem strsD_S (s : St) (ss : List St) : strsD ((s :: ss).map tupS) = none := rfl
theorem tkeysD_S : ∀ ss : List St, tkeysD (ss.map tupS) = some (ss.map keyS)
  | [] => rfl
  | s :: ss => by
    show (tkeyD (tupS s)).bind (fun k => (tkeysD (ss.map tupS)).map (k :: ·)) = _
    rw [tkeysD_S ss]; rfl
theorem sortD_S (ss : List St) : sortD (ss.map tupS) = some ((sortSt ss).map tupS) := by
  cases ss with
  | nil => rfl
  | cons s ss =>
    unfold sortD
    rw [intsD_S, strsD_S, tkeysD_S]
    show (if (keyS s).isEmpty || !((ss.map keyS).all fun j => decide (shape j = shape (keyS s))) then none else some ((sortB ltKs ((s :: ss).map keyS)).map tupK)) = _
    rw [sortB_map (lt := ltSt) (f := keyS) (fun _ _ => rfl), List.map_map]
    have : ((ss.map keyS).all fun j => decide (shape j = shape (keyS s))) = true := by
      rw [List.all_eq_true]
      intro k hk
      obtain ⟨x, _, rfl⟩ := List.mem_map.mp hk
      rfl
    rw [this]; rfl
@[simp] theorem bi_sortSt (ss : List St) : biD .sorted false [.lst (ss.map tupS)] = some (.lst ((sortSt ss).map tupS)) := by
  show (if shr false (ss.map tupS) then (sortD (ss.map tupS)).map D.lst else none) = _
  rw [sortD_S]; rfl
section
variable {P : String → Option Def}
theorem is_name_eq (h : P "is_name" = some d_is_name) (n : Nat) {s : Str} (hs : s.length ≤ sizeLine) : run P (n + 1) "is_name" [.str s] = .ok (.bl (nameB s)) := by
  have hl : s.cps.toList.length ≤ 16777216 := by rw [szl] at hs; exact hs
  rw [run_succ h]
  simp [d_is_name, ini, argE, bor, kd, len_s false hs]
  rw [lcGo_map2 (h := fun c => D.str ⟨#[c]⟩) (g := fun c => decide (c ∈ letters.cps.toList)) (k := D.bl)]
  · have hl2 : s.cps.size ≤ 16777216 := by simpa using hl
    have hf : nameB s = (decide ((1 : Int) ≤ s.length) && decide ((s.length : Int) ≤ 12) && (s.cps.toList.map (fun c => decide (c ∈ letters.cps.toList))).all id) := by
      unfold nameB
      rw [List.all_map]
      congr 2
      · simp; omega
      · simp; omega
    rw [hf]
    generalize s.cps.toList.map (fun c => decide (c ∈ letters.cps.toList)) = bs
    by_cases h1 : (1 : Int) ≤ s.length <;> by_cases h2 : (s.length : Int) ≤ 12 <;> simp only [h1, h2] <;> simp [hl2, bor]
  · intro c _
    rw [lcF_eq (env' := [.val (.str s), .val (.str ⟨#[c]⟩)]) _ (by simp)]
    simp [letters]
theorem name_small {s : Str} (h : nameB s = true) : s.length ≤ 12 := by
  unfold nameB at h
  simp only [Bool.and_eq_true, decide_eq_true_eq] at h
  exact h.1.2
theorem are_names_eq (h : P "is_name" = some d_is_name) (h' : P "are_names" = some d_are_names) (n : Nat) {ss : List Str} (hl : ss.length < 128) (hs : ∀ s ∈ ss, s.length ≤ sizeLine) :
    run P (n + 2) "are_names" [.lst (ss.map D.str)] = .ok (.bl (ss.all nameB && decide ss.Nodup)) := by
  rw [run_succ h']
  have hl2 : ss.length ≤ 16777216 := by omega
  have en : decide ((nubS ss).length = ss.length) = decide ss.Nodup := by simp only [nub_len]
  have ei : decide (((nubS ss).length : Int) = (ss.length : Int)) = decide ss.Nodup := by rw [← en]; simp; omega
  simp [d_are_names, ini, argE, bor, kd, bi_lenSet false hl, hl2]
  rw [lcGo_map2 (h := D.str) (g := nameB) (k := D.bl)]
  · have hf : ss.all nameB = (ss.map nameB).all id := by rw [List.all_map]; rfl
    rw [hf]
    have eb : (((nubS ss).length : Int) == (ss.length : Int)) = decide ss.Nodup := by
      rw [← ei]
      by_cases e : ((nubS ss).length : Int) = ss.length <;> simp [e]
    have ha : biD .all false [.lst ((ss.map nameB).map D.bl)] = some (.bl ((ss.map nameB).all id)) := bi_allL _ _
    generalize ss.map nameB = bs at ha ⊢
    generalize bs.all id = q at ha ⊢
    cases q <;> simp [bor, ha, eb, -bi_allL]
  · intro s m
    rw [lcF_eq (env' := [.val (.lst (ss.map D.str)), .val (.str s)]) _ (by simp)]
    simp [is_name_eq h n (hs s m)]
def streamB (ks : List Str) (s : St) : Bool := decide (s.tail ∈ ks) && decide (s.head ∈ ks) && decide (0 ≤ s.low) && decide (s.low ≤ s.high) && decide (s.high ≤ 1000000)
theorem is_stream_eq (h : P "is_stream" = some d_is_stream) (n : Nat) (ks : List Str) (s : St) : run P (n + 1) "is_stream" [tupS s, .lst (ks.map D.str)] = .ok (.bl (streamB ks s)) := by
  rw [run_succ h]
  simp [d_is_stream, ini, argE, bor, kd, tupS, streamB]
  by_cases h1 : s.tail ∈ ks <;> by_cases h2 : s.head ∈ ks <;> by_cases h3 : 0 ≤ s.low <;> by_cases h4 : s.low ≤ s.high <;> simp [h1, h2, h3, h4]
/-- what a plant may be made of -/
structure Parts (ks : List Str) (ss : List St) : Prop where
  k1 : 1 ≤ ks.length
  k2 : ks.length ≤ 24
  kn : ks.all nameB = true
  kd : ks.Nodup
  s2 : ss.length ≤ 60
  st : ss.all (streamB ks) = true
  sn : (ss.map St.name).all nameB = true
  sd : (ss.map St.name).Nodup
def plantD (ks : List Str) (ss : List St) : D := .obj "Plant" [.lst (ks.map D.str), .lst (ss.map tupS)]
theorem init_eq {r1 r2 r3 : S} (h1 : P "is_name" = some d_is_name) (h2 : P "are_names" = some d_are_names) (h3 : P "is_stream" = some d_is_stream) (h4 : P "Plant.__init__" = some (d_init r1 r2 r3)) (n : Nat) {ks : List Str} {ss : List St} (p : Parts ks ss) :
    run P (n + 3) "Plant.__init__" [.lst (ks.map D.str), .lst (ss.map tupS)] = .ok (plantD (sortN ks) (sortSt ss)) := by
  rw [run_succ h4]
  have a1 := are_names_eq h1 h2 n (ss := ks) (by have := p.k2; omega) (fun s m => by have := name_small (List.all_eq_true.mp p.kn s m); rw [szl]; omega)
  have a2 := are_names_eq h1 h2 n (ss := ss.map St.name) (by rw [List.length_map]; have := p.s2; omega) (fun s m => by have := name_small (List.all_eq_true.mp p.sn s m); rw [szl]; omega)
  rw [p.kn, decide_eq_true p.kd] at a1
  rw [p.sn, decide_eq_true p.sd] at a2
  have k1 := p.k1
  have k2 := p.k2
  have s2 := p.s2
  have c1 : (1 : Int) ≤ ks.length := by omega
  have c2 : (ks.length : Int) ≤ 24 := by omega
  have c3 : ¬ (60 : Int) < ss.length := by omega
  have hl2 : ss.length ≤ 16777216 := by omega
  have hs : ks.length < 64 := by omega
  simp only [d_init, ini, argE]
  simp [bor, kd, a1, c1, c2, c3, hl2, isDct]
  rw [lcGo_map2 (h := tupS) (g := streamB ks) (k := D.bl)]
  · have hf : (ss.map (streamB ks)).all id = true := by rw [List.all_map]; exact p.st
    have ha : biD .all false [.lst ((ss.map (streamB ks)).map D.bl)] = some (.bl true) := by rw [bi_allL, hf]
    generalize ss.map (streamB ks) = bs at ha ⊢
    simp [bor, hl2, ha, -bi_allL, -List.map_map]
    rw [lcGo_map2 (h := tupS) (g := St.name) (k := D.str)]
    · simp [a2, bor, kd, bi_sortS hs, satD, outS, plantD, sortN, -List.map_map]
    · intro s m
      rw [lcF_eq (env' := [.own 0 (.obj "Plant" []), .val (.lst (ks.map D.str)), .val (.lst (ss.map tupS)), .val (tupS s)]) _ (by simp)]
      simp [tupS]
  · intro s m
    rw [lcF_eq (env' := [.own 0 (.obj "Plant" []), .val (.lst (ks.map D.str)), .val (.lst (ss.map tupS)), .val (tupS s)]) _ (by simp)]
    simp [is_stream_eq h3 (n + 1) ks s]
theorem stream_names_eq (h : P "Plant.stream_names" = some d_stream_names) (n : Nat) (ks : List Str) {ss : List St} (hl : ss.length ≤ 60) : run P (n + 1) "Plant.stream_names" [plantD ks ss] = .ok (.lst ((ss.map St.name).map D.str)) := by
  have hl2 : ss.length ≤ 16777216 := by omega
  rw [run_succ h]
  simp [d_stream_names, ini, argE, bor, kd, plantD, hl2, -List.map_map]
  rw [lcGo_map2 (h := tupS) (g := St.name) (k := D.str)]
  · simp [-List.map_map]
  · intro s m
    rw [lcF_eq (env' := [.val (plantD ks ss), .val (tupS s)]) _ (by simp [plantD])]
    simp [tupS]
/-- the stream of a name -/
def named (ss : List St) (x : Str) : Option St := ss.find? fun s => s.name == x
theorem named_eq {r : S} (h : P "Plant.stream_named" = some (d_named r)) (n : Nat) (ks : List Str) {ss : List St} {x : Str} {s : St} (hx : named ss x = some s) : run P (n + 1) "Plant.stream_named" [plantD ks ss, .str x] = .ok (tupS s) := by
  have key : ∀ (ss' : List St) (sl : Sl), named ss' x = some s → forGo (bindT (.nm 2)) (exL (run P n) 0 b1_named) (ss'.map tupS) [.val (plantD ks ss), .val (.str x), sl] = .rt (tupS s) := by
    intro ss'
    induction ss' with
    | nil => intro sl e; cases e
    | cons y ys ih =>
      intro sl e
      rw [List.map_cons, forGo_cons]
      unfold named at e
      rw [List.find?_cons] at e
      cases hq : (y.name == x) with
      | true =>
        rw [hq] at e
        cases e
        simp [turn, b1_named, bor, tupS, hq]
      | false =>
        rw [hq] at e
        have := ih (.val (tupS y)) e
        simp [turn, b1_named, bor, tupS, hq] at this ⊢
        exact this
  rw [run_succ h]
  have k := key ss .no hx
  simp [d_named, ini, argE, bor, kd, plantD, isDct] at k ⊢
  rw [k]
  simp
end
end Sh
/-! what stands at a place of a list -/
namespace Sh
open PySem Mp L2
theorem num_at {ms : List Int} (h : Sm ms) {i : Int} (h0 : 0 ≤ i) (h1 : i < ms.length) : ∃ y : Int, 0 ≤ y ∧ y < 1009 ∧ atI (ms.map D.int) i = some (.int y) := by
  obtain ⟨y, e, m⟩ := atI_some h0 h1
  exact ⟨y, (h y m).1, (h y m).2, by rw [atI_map, e]; rfl⟩
theorem str_at {ss : List Str} {i : Int} (h0 : 0 ≤ i) (h1 : i < ss.length) : ∃ s ∈ ss, atI (ss.map D.str) i = some (.str s) := by
  obtain ⟨y, e, m⟩ := atI_some h0 h1
  exact ⟨y, m, by rw [atI_map, e]; rfl⟩
end Sh
/-! drawn parts of a plant: knots of one base, streams of different letters -/
namespace Sh
open PySem Mp L2
def b1_law_parts : List S := [(.set (.nm 9) (.bin .Add (.bin .Add (.loc 1) (.con (.int 3))) (.bin .Mult (.con (.int 5)) (.loc 8)))),
  (.set (.nm 10) (.idx (.loc 5) (.bin .Mod (.bi .int [(.idx (.loc 0) (.loc 9))]) (.bi .len [(.loc 5)])))),
  (.set (.nm 11) (.idx (.loc 5) (.bin .Mod (.bi .int [(.idx (.loc 0) (.bin .Add (.loc 9) (.con (.int 1))))]) (.bi .len [(.loc 5)])))),
  (.set (.nm 12) (.bin .Mod (.bi .int [(.bin .Add (.bin .Mult (.idx (.loc 0) (.bin .Add (.loc 9) (.con (.int 2)))) (.con (.int 991))) (.idx (.loc 0) (.bin .Add (.loc 9) (.con (.int 3)))))]) (.bin .Add (.loc 6) (.con (.int 1))))),
  (.ite (.cmp .Gt (.bin .Mod (.bi .int [(.idx (.loc 0) (.bin .Add (.loc 9) (.con (.int 4))))]) (.con (.int 3))) (.con (.int 0))) [(.set (.nm 12) (.con (.int 0)))] []),
  (.set (.nm 13) (.bi .min [(.con (.int 1000000)), (.bin .Add (.loc 12) (.bin .Mod (.bi .int [(.bin .Add (.bin .Mult (.idx (.loc 0) (.bin .Add (.loc 9) (.con (.int 3)))) (.con (.int 997))) (.idx (.loc 0) (.bin .Add (.loc 9) (.con (.int 4)))))]) (.bin .Add (.loc 6) (.con (.int 1)))))])),
  (.set (.nm 14) (.bin .Add (.bin .Add (.con (.str "s")) (.idx (.con (.str "mabzqlkyxcdwv9876543210efghijnoprtu")) (.loc 8))) (.idx (.lst [(.con (.str "")), (.con (.str "q")), (.con (.str "qq"))]) (.bin .Mod (.bin .FloorDiv (.bi .int [(.idx (.loc 0) (.bin .Add (.loc 9) (.con (.int 4))))]) (.con (.int 3))) (.con (.int 3)))))),
  (.app 7 (.tup [(.loc 14), (.loc 10), (.loc 11), (.loc 12), (.loc 13)]))]
def d_law_parts : Def := ⟨⟨4, [], 0, none⟩, 15, [(.set (.nm 4) (.idx (.lst [(.con (.str "k")), (.con (.str "knot")), (.con (.str "a")), (.con (.str "x9x9x9x9x9x"))]) (.bin .Mod (.bi .int [(.idx (.loc 0) (.loc 1))]) (.con (.int 4))))),
  (.set (.nm 5) (.lc (.bin .Add (.loc 4) (.idx (.con (.str "0123456789abcdefghijklmnop")) (.loc 8))) [8] (.nm 8) .rng [(.bin .Add (.con (.int 1)) (.bin .Mod (.bi .int [(.idx (.loc 0) (.bin .Add (.loc 1) (.con (.int 1))))]) (.loc 2)))] [])),
  (.set (.nm 6) (.idx (.lst [(.con (.int 4)), (.con (.int 9)), (.con (.int 60)), (.con (.int 1000000))]) (.bin .Mod (.bin .FloorDiv (.bi .int [(.idx (.loc 0) (.loc 1))]) (.con (.int 4))) (.con (.int 4))))),
  (.own 7 (.lst [])),
  (.for (.nm 8) .rng [(.bin .Mod (.bi .int [(.idx (.loc 0) (.bin .Add (.loc 1) (.con (.int 2))))]) (.bin .Add (.loc 3) (.con (.int 1))))] b1_law_parts),
  (.frz 7),
  (.ret (.tup [(.loc 5), (.loc 7)]))]⟩
def bases : List Str := ["k", "knot", "a", "x9x9x9x9x9x"]
def digs : Str := "0123456789abcdefghijklmnop"
def lets : Str := "mabzqlkyxcdwv9876543210efghijnoprtu"
def sufs : List Str := ["", "q", "qq"]
def one (s : Str) (i : Nat) : Str := ⟨#[(s.cps.toList[i]?).getD 0]⟩
def knotN (b i : Nat) : Str := (bases[b]?).getD Str.empty ++ one digs i
def streamN (i q : Nat) : Str := ("s" : Str) ++ one lets i ++ (sufs[q]?).getD Str.empty
theorem knotN_inj : ∀ b : Fin 4, ∀ i j : Fin 8, i ≠ j → knotN b.1 i.1 ≠ knotN b.1 j.1 := by decide +kernel
theorem knotN_name : ∀ b : Fin 4, ∀ i : Fin 8, nameB (knotN b.1 i.1) = true := by decide +kernel
theorem streamN_inj : ∀ i j : Fin 12, ∀ p q : Fin 3, i ≠ j → streamN i.1 p.1 ≠ streamN j.1 q.1 := by decide +kernel
theorem streamN_name : ∀ i : Fin 12, ∀ p : Fin 3, nameB (streamN i.1 p.1) = true := by decide +kernel
/-- drawn parts -/
structure DrP (ks : List Str) (ss : List St) : Prop where
  parts : Parts ks ss
  kf : ∃ b, b < 4 ∧ ks.length ≤ 8 ∧ ks = (List.range ks.length).map (knotN b)
  nf : ss.length ≤ 12 ∧ ∀ j s, ss[j]? = some s → ∃ q, q < 3 ∧ s.name = streamN j q
theorem dig_at {s : Str} (hs : s.length ≤ 16777216) {i : Int} (h0 : 0 ≤ i) (h1 : i.toNat < s.cps.toList.length) : idxD (.str s) (.int i) = some (.str (one s i.toNat)) := by
  show (if s.length ≤ sizeLine then (atI s.cps.toList i).map fun c => D.str ⟨#[c]⟩ else none) = _
  rw [if_pos (by rw [szl]; exact hs), atI_pos h0]
  unfold one
  rw [List.getElem?_eq_getElem h1]; rfl
theorem lst_at {α : Type} {xs : List α} {f : α → D} {i : Int} (h0 : 0 ≤ i) (h1 : i < xs.length) : ∃ y ∈ xs, xs[i.toNat]? = some y ∧ atI (xs.map f) i = some (f y) := by
  have hl : i.toNat < xs.length := by omega
  refine ⟨xs[i.toNat], List.getElem_mem _, List.getElem?_eq_getElem hl, ?_⟩
  rw [atI_pos h0, List.getElem?_map, List.getElem?_eq_getElem hl]; rfl
section
variable {P : String → Option Def}
theorem law_parts_eq (h : P "_law_parts" = some d_law_parts) (n : Nat) {nums : List Int} (hs : Sm nums) (at' K S : Int) (h0 : 0 ≤ at') (hK : 1 ≤ K) (hK8 : K ≤ 8) (hS : 0 ≤ S) (hS9 : S ≤ 12) (hl : at' + 2 + 5 * S < nums.length) :
    ∃ (ks : List Str) (ss : List St), DrP ks ss ∧ (ks.length : Int) ≤ K ∧ (ss.length : Int) ≤ S ∧ run P (n + 1) "_law_parts" [.lst (nums.map D.int), .int at', .int K, .int S] = .ok (.tup [.lst (ks.map D.str), .lst (ss.map tupS)]) := by
  obtain ⟨y0, y00, y01, ye0⟩ := num_at hs (i := at') h0 (by omega)
  obtain ⟨y1, y10, y11, ye1⟩ := num_at hs (i := at' + 1) (by omega) (by omega)
  obtain ⟨y2, y20, y21, ye2⟩ := num_at hs (i := at' + 2) (by omega) (by omega)
  obtain ⟨b, hb⟩ : ∃ b : Nat, b = (y0 % 4).toNat := ⟨_, rfl⟩
  have hb4 : b < 4 := by omega
  obtain ⟨base, hbm, hbe, hbi⟩ := lst_at (xs := bases) (f := D.str) (i := y0 % 4) (by omega) (by have : bases.length = 4 := rfl; omega)
  obtain ⟨spread, hsm, hse, hsi⟩ := lst_at (xs := ([4, 9, 60, 1000000] : List Int)) (f := D.int) (i := y0 / 4 % 4) (by omega) (by have : ([4, 9, 60, 1000000] : List Int).length = 4 := rfl; omega)
  have hsp : 4 ≤ spread ∧ spread ≤ 1000000 := by
    simp only [List.mem_cons, List.not_mem_nil, or_false] at hsm
    omega
  have hbl : base.length ≤ 11 := by
    have : ∀ s ∈ bases, s.length ≤ 11 := by decide +kernel
    exact this base hbm
  obtain ⟨many, hmany⟩ : ∃ many : Int, many = 1 + y1 % K := ⟨_, rfl⟩
  have hm1 : 1 ≤ many ∧ many ≤ K := by
    have := Int.emod_nonneg y1 (show K ≠ 0 by omega)
    have := Int.emod_lt_of_pos y1 (show 0 < K by omega)
    omega
  obtain ⟨ks, hks⟩ : ∃ ks : List Str, ks = (List.range many.toNat).map (knotN b) := ⟨_, rfl⟩
  have hlen : (ks.length : Int) = many := by rw [hks, List.length_map, List.length_range]; omega
  obtain ⟨cnt, hcnt⟩ : ∃ cnt : Int, cnt = y2 % (S + 1) := ⟨_, rfl⟩
  have hc : 0 ≤ cnt ∧ cnt ≤ S := by
    have := Int.emod_nonneg y2 (show S + 1 ≠ 0 by omega)
    have := Int.emod_lt_of_pos y2 (show 0 < S + 1 by omega)
    omega
  obtain ⟨env1, e1, ss, x8, x9, x10, x11, x12, x13, x14, q1, q2, q3⟩ := forGo_rng (bind := bindT (.nm 8)) (body := exL (run P n) 0 b1_law_parts) (fun (i : Nat) => D.int (i : Nat))
    (fun i env => ∃ (ss : List St) (x8 x9 x10 x11 x12 x13 x14 : Sl), env = [.val (.lst (nums.map D.int)), .val (.int at'), .val (.int K), .val (.int S), .val (.str base), .val (.lst (ks.map D.str)), .val (.int spread), .own 0 (.lst (ss.map tupS)), x8, x9, x10, x11, x12, x13, x14] ∧
      ss.length = i ∧ (∀ j s, ss[j]? = some s → (∃ q, q < 3 ∧ s.name = streamN j q) ∧ s.tail ∈ ks ∧ s.head ∈ ks ∧ 0 ≤ s.low ∧ s.low ≤ s.high ∧ s.high ≤ 1000000)) cnt.toNat
    [.val (.lst (nums.map D.int)), .val (.int at'), .val (.int K), .val (.int S), .val (.str base), .val (.lst (ks.map D.str)), .val (.int spread), .own 0 (.lst []), .no, .no, .no, .no, .no, .no, .no]
    ⟨[], _, _, _, _, _, _, _, rfl, rfl, fun j s h => by simp at h⟩ (by
      rintro j env hj ⟨ss, x8, x9, x10, x11, x12, x13, x14, rfl, f1, f2⟩
      obtain ⟨a0, a00, a01, ae0⟩ := num_at hs (i := at' + 3 + 5 * (j : Int)) (by omega) (by omega)
      obtain ⟨a1, a10, a11, ae1⟩ := num_at hs (i := at' + 3 + 5 * (j : Int) + 1) (by omega) (by omega)
      obtain ⟨a2, a20, a21, ae2⟩ := num_at hs (i := at' + 3 + 5 * (j : Int) + 2) (by omega) (by omega)
      obtain ⟨a3, a30, a31, ae3⟩ := num_at hs (i := at' + 3 + 5 * (j : Int) + 3) (by omega) (by omega)
      obtain ⟨a4, a40, a41, ae4⟩ := num_at hs (i := at' + 3 + 5 * (j : Int) + 4) (by omega) (by omega)
      have hll : biD .len false [.lst (ks.map D.str)] = some (.int many) := by rw [len_l, List.length_map, hlen]
      have em : ∀ z : Int, 0 ≤ z % many ∧ z % many < ks.length := fun z => by
        have := Int.emod_nonneg z (show many ≠ 0 by omega)
        have := Int.emod_lt_of_pos z (show 0 < many by omega)
        omega
      obtain ⟨tl, m1, t1⟩ := str_at (em a0).1 (em a0).2
      obtain ⟨hd, m2, t2⟩ := str_at (em a1).1 (em a1).2
      obtain ⟨sf, m3, e3, t3⟩ := lst_at (xs := sufs) (f := D.str) (i := a4 / 3 % 3) (by omega) (by have : sufs.length = 3 := rfl; omega)
      have hsf : sf.length ≤ 2 := by
        have : ∀ s ∈ sufs, s.length ≤ 2 := by decide +kernel
        exact this sf m3
      obtain ⟨low0, hlow0⟩ : ∃ low0 : Int, low0 = (a2 * 991 + a3) % (spread + 1) := ⟨_, rfl⟩
      have hl0 : 0 ≤ low0 ∧ low0 ≤ spread := by
        have := Int.emod_nonneg (a2 * 991 + a3) (show spread + 1 ≠ 0 by omega)
        have := Int.emod_lt_of_pos (a2 * 991 + a3) (show 0 < spread + 1 by omega)
        omega
      obtain ⟨more, hmore⟩ : ∃ more : Int, more = (a3 * 997 + a4) % (spread + 1) := ⟨_, rfl⟩
      have hm0 : 0 ≤ more := hmore ▸ Int.emod_nonneg _ (by omega)
      obtain ⟨low, hlow⟩ : ∃ low : Int, low = if 0 < a4 % 3 then 0 else low0 := ⟨_, rfl⟩
      have hl1 : 0 ≤ low ∧ low ≤ 1000000 := by rw [hlow]; split <;> omega
      obtain ⟨high, hhigh⟩ : ∃ high : Int, high = if low + more < 1000000 then low + more else 1000000 := ⟨_, rfl⟩
      have hh1 : low ≤ high ∧ high ≤ 1000000 := by rw [hhigh]; split <;> omega
      have hj12 : j < 12 := by omega
      have hnm : streamN j (a4 / 3 % 3).toNat = ("s" : Str) ++ one lets j ++ sf := by unfold streamN; rw [e3]; rfl
      have letsl : lets.cps.toList.length = 35 := by decide +kernel
      have hle : idxD (.str lets) (.int (j : Int)) = some (.str (one lets j)) := by
        have := dig_at (s := lets) (by decide +kernel) (i := (j : Int)) (by omega) (by omega)
        simpa using this
      have c1 : binD false .Add (.str ("s" : Str)) (.str (one lets j)) = some (.str (("s" : Str) ++ one lets j)) := bin_catS _ (by show 1 + 1 ≤ _; decide)
      have c2 : binD false .Add (.str (("s" : Str) ++ one lets j)) (.str sf) = some (.str (("s" : Str) ++ one lets j ++ sf)) := bin_catS _ (by
        have : (("s" : Str) ++ one lets j).length = 2 := rfl
        omega)
      have hlss : ss.length < 16777216 := by omega
      have hk0 : 0 < many := by omega
      have hsp1 : 0 < spread + 1 := by omega
      refine ⟨[.val (.lst (nums.map D.int)), .val (.int at'), .val (.int K), .val (.int S), .val (.str base), .val (.lst (ks.map D.str)), .val (.int spread), .own 0 (.lst ((ss ++ [St.mk (streamN j (a4 / 3 % 3).toNat) tl hd low high]).map tupS)), .val (.int j), .val (.int (at' + 3 + 5 * (j : Int))), .val (.str tl), .val (.str hd), .val (.int low), .val (.int high), .val (.str (streamN j (a4 / 3 % 3).toNat))], ?_,
        ss ++ [St.mk (streamN j (a4 / 3 % 3).toNat) tl hd low high], _, _, _, _, _, _, _, rfl, by simp; omega, ?_⟩
      · have s1 : binD false .Mult (.int 5) (.int (j : Int)) = some (.int (5 * (j : Int))) := bin_mul _ _ _ (.inl (by decide))
        have s2 : binD false .Mult (.int a2) (.int 991) = some (.int (a2 * 991)) := bin_mul _ _ _ (.inr (by decide))
        have s3 : binD false .Mult (.int a3) (.int 997) = some (.int (a3 * 997)) := bin_mul _ _ _ (.inr (by decide))
        have s4 : binD false .Mod (.int (a2 * 991 + a3)) (.int (spread + 1)) = some (.int low0) := by rw [bin_mod _ _ hsp1, hlow0]
        have s5 : binD false .Mod (.int (a3 * 997 + a4)) (.int (spread + 1)) = some (.int more) := by rw [bin_mod _ _ hsp1, hmore]
        have lets' : ("mabzqlkyxcdwv9876543210efghijnoprtu" : Str) = lets := rfl
        have sufl : sufs.length = 3 := rfl
        have sufs' : ([.str "", .str "q", .str "qq"] : List D) = sufs.map D.str := rfl
        by_cases h3 : 0 < a4 % 3
        · rw [if_pos h3] at hlow
          subst hlow
          simp only [Int.zero_add] at hhigh
          simp only [b1_law_parts]
          simp [turn, bor, kd, ae0, ae1, ae2, ae3, ae4, t1, t2, t3, s1, s2, s3, s4, s5, bin_mod, bin_div, hk0, h3, lets', sufs', sufl, hle, c1, c2, hnm, hlss, hll, ← hhigh, tupS, -len_l]
        · rw [if_neg h3] at hlow
          subst hlow
          simp only [b1_law_parts]
          simp [turn, bor, kd, ae0, ae1, ae2, ae3, ae4, t1, t2, t3, s1, s2, s3, s4, s5, bin_mod, bin_div, hk0, h3, lets', sufs', sufl, hle, c1, c2, hnm, hlss, hll, ← hhigh, tupS, -len_l]
      · intro i s hi
        rw [List.getElem?_append] at hi
        split at hi
        · exact f2 i s hi
        · rename_i hge
          have ei : i = j := by
            have : i - ss.length < 1 := by
              by_cases z : i - ss.length < 1
              · exact z
              · rw [List.getElem?_eq_none (by rw [List.length_singleton]; omega)] at hi; cases hi
            omega
          subst ei
          rw [f1, Nat.sub_self] at hi
          cases hi
          exact ⟨⟨(a4 / 3 % 3).toNat, by omega, rfl⟩, m1, m2, hl1.1, hh1.1, hh1.2⟩)
  subst q1
  have k8 : ks.length ≤ 8 := by omega
  have s12 : ss.length ≤ 12 := by omega
  have kform : ks = (List.range ks.length).map (knotN b) := by
    have : ks.length = many.toNat := by omega
    rw [this]; exact hks
  have kget : ∀ k ∈ ks, ∃ i, i < 8 ∧ k = knotN b i := fun k m => by
    rw [hks] at m
    obtain ⟨i, hi, e⟩ := List.mem_map.mp m
    rw [List.mem_range] at hi
    exact ⟨i, by omega, e.symm⟩
  have sget : ∀ s ∈ ss, ∃ j, ss[j]? = some s ∧ j < 12 := fun s m => by
    obtain ⟨j, hj, e⟩ := List.getElem_of_mem m
    exact ⟨j, by rw [List.getElem?_eq_getElem hj, e], by omega⟩
  have parts : Parts ks ss := {
    k1 := by omega
    k2 := by omega
    kn := List.all_eq_true.mpr fun k m => by
      obtain ⟨i, hi, e⟩ := kget k m
      rw [e]; exact knotN_name ⟨b, hb4⟩ ⟨i, hi⟩
    kd := by
      rw [hks]
      refine List.nodup_iff_pairwise_ne.mpr (List.pairwise_map.mpr ?_)
      refine List.Pairwise.imp_of_mem (fun {i j} mi mj ne => ?_) (List.nodup_range (n := many.toNat))
      rw [List.mem_range] at mi mj
      exact knotN_inj ⟨b, hb4⟩ ⟨i, by omega⟩ ⟨j, by omega⟩ fun z => ne (Fin.mk.inj z)
    s2 := by omega
    st := List.all_eq_true.mpr fun s m => by
      obtain ⟨j, hj, _⟩ := sget s m
      obtain ⟨_, h2, h3, h4, h5, h6⟩ := q3 j s hj
      unfold streamB
      rw [decide_eq_true h2, decide_eq_true h3, decide_eq_true h4, decide_eq_true h5, decide_eq_true h6]; rfl
    sn := List.all_eq_true.mpr fun x m => by
      obtain ⟨s, hs, e⟩ := List.mem_map.mp m
      obtain ⟨j, hj, j12⟩ := sget s hs
      obtain ⟨⟨q, hq, en⟩, _⟩ := q3 j s hj
      rw [← e, en]; exact streamN_name ⟨j, j12⟩ ⟨q, hq⟩
    sd := by
      rw [List.nodup_iff_pairwise_ne, List.pairwise_map, List.pairwise_iff_getElem]
      intro i j hi hj hij
      obtain ⟨⟨p, hp, e1⟩, _⟩ := q3 i ss[i] (List.getElem?_eq_getElem hi)
      obtain ⟨⟨q, hq, e2⟩, _⟩ := q3 j ss[j] (List.getElem?_eq_getElem hj)
      rw [e1, e2]
      exact streamN_inj ⟨i, by omega⟩ ⟨j, by omega⟩ ⟨p, hp⟩ ⟨q, hq⟩ fun z => Nat.ne_of_lt hij (Fin.mk.inj z) }
  refine ⟨ks, ss, ⟨parts, ⟨b, hb4, k8, kform⟩, s12, fun j s hj => (q3 j s hj).1⟩, by omega, by omega, ?_⟩
  have hS0 : 0 < S + 1 := by omega
  have hK0 : 0 < K := by omega
  have dl : digs.cps.toList.length = 26 := by decide +kernel
  have lc : lcGo (lcF (run P n) (.bin .Add (.loc 4) (.idx (.con (.str "0123456789abcdefghijklmnop")) (.loc 8))) [8] (.nm 8) []
      [.val (.lst (nums.map D.int)), .val (.int at'), .val (.int K), .val (.int S), .val (.str base), .no, .no, .no, .no, .no, .no, .no, .no, .no, .no]) ((List.range many.toNat).map fun (i : Nat) => D.int (i : Nat)) = .ok (ks.map D.str) := by
    rw [hks]
    refine lcGo_map2 fun i m => ?_
    rw [List.mem_range] at m
    rw [lcF_eq (env' := [.val (.lst (nums.map D.int)), .val (.int at'), .val (.int K), .val (.int S), .val (.str base), .no, .no, .no, .val (.int (i : Nat)), .no, .no, .no, .no, .no, .no]) _ (by simp)]
    have de : idxD (.str digs) (.int (i : Nat)) = some (.str (one digs i)) := by
      have := dig_at (s := digs) (by decide +kernel) (i := (i : Int)) (by omega) (by omega)
      simpa using this
    have cc : binD false .Add (.str base) (.str (one digs i)) = some (.str (knotN b i)) := by
      rw [bin_catS _ (by show base.length + 1 ≤ _; omega)]
      unfold knotN
      rw [hb, hbe]; rfl
    have digs' : ("0123456789abcdefghijklmnop" : Str) = digs := rfl
    simp [bor, digs', de, cc]
  have b' : ([.str "k", .str "knot", .str "a", .str "x9x9x9x9x9x"] : List D) = bases.map D.str := rfl
  have bl : bases.length = 4 := rfl
  have s' : ([.int 4, .int 9, .int 60, .int 1000000] : List D) = ([4, 9, 60, 1000000] : List Int).map D.int := rfl
  have sl' : (([4, 9, 60, 1000000] : List Int).map D.int).length = 4 := rfl
  generalize ([4, 9, 60, 1000000] : List Int).map D.int = spl at hsi s' sl'
  have ml : many ≤ 16777216 := by omega
  rw [run_succ h]
  simp only [d_law_parts, ini, argE]
  simp [bor, kd, ye0, ye1, ye2, b', bl, hbi, s', sl', hsi, bin_mod, bin_div, hS0, hK0, ← hcnt, ← hmany, it_r1 (n := many) (by omega), it_r1 (n := cnt) (by omega), lc, ml, e1, isDct]
end
end Sh
/-! plants: what they hold, knots that are checked -/
namespace Sh
open PySem Mp L2
def d_knots : Def := ⟨⟨1, [], 0, none⟩, 1, [(.ret (.bi .list [(.att "Plant" 0 (.loc 0))]))]⟩
def d_streams : Def := ⟨⟨1, [], 0, none⟩, 1, [(.ret (.bi .list [(.att "Plant" 1 (.loc 0))]))]⟩
def d_check_knot : Def := ⟨⟨2, [], 0, none⟩, 2, [(.ite (.cmp .NotIn (.loc 1) (.att "Plant" 0 (.loc 0))) [(.raise "UnknownKnot" [(.loc 1)])] [])]⟩
section
variable {P : String → Option Def}
theorem knots_eq (h : P "Plant.knots" = some d_knots) (n : Nat) (ks : List Str) (ss : List St) : run P (n + 1) "Plant.knots" [plantD ks ss] = .ok (.lst (ks.map D.str)) := by
  rw [run_succ h]
  simp [d_knots, ini, argE, bor, kd, plantD]
theorem streams_eq (h : P "Plant.streams" = some d_streams) (n : Nat) (ks : List Str) (ss : List St) : run P (n + 1) "Plant.streams" [plantD ks ss] = .ok (.lst (ss.map tupS)) := by
  rw [run_succ h]
  simp [d_streams, ini, argE, bor, kd, plantD]
theorem check_knot_eq (h : P "Plant.check_knot" = some d_check_knot) (n : Nat) (ks : List Str) (ss : List St) (k : Str) : run P (n + 1) "Plant.check_knot" [plantD ks ss, .str k] = if k ∈ ks then .ok .non else .exc "UnknownKnot" (some (.str k)) := by
  rw [run_succ h]
  by_cases hk : k ∈ ks
  · simp [d_check_knot, ini, argE, bor, kd, plantD, hk]
  · simp [d_check_knot, ini, argE, bor, kd, plantD, hk]
end
end Sh
/-! sorted lists -/
namespace Sh
open PySem Mp L2
theorem sort_perm {α : Type} {lt : α → α → Bool} (t : Tot lt) {xs ys : List α} (p : xs.Perm ys) : sortB lt xs = sortB lt ys :=
  sortB_only t ((sortB_perm xs).trans p) (sortB_up t xs)
theorem keyS_inj {a b : St} (h : keyS a = keyS b) : a = b := by
  cases a; cases b
  simp only [keyS, List.cons.injEq, Sum.inr.injEq, Sum.inl.injEq, and_true] at h
  obtain ⟨h1, h2, h3, h4, h5⟩ := h
  subst h1 h2 h3 h4 h5; rfl
theorem tot_St : Tot ltSt := ⟨fun a b h => tot_Ks.asy _ _ h, fun a b c h1 h2 => tot_Ks.ntr _ _ _ h1 h2, fun a b h1 h2 => keyS_inj (tot_Ks.eqs _ _ h1 h2)⟩
theorem sortN_perm (xs : List Str) : (sortN xs).Perm xs := sortB_perm xs
theorem sortSt_perm (xs : List St) : (sortSt xs).Perm xs := sortB_perm xs
theorem sortN_rev (xs : List Str) : sortN (sortN xs).reverse = sortN xs := sort_perm tot_S ((List.reverse_perm _).trans (sortN_perm xs))
theorem nodup_le {α : Type} [DecidableEq α] : ∀ {xs ys : List α}, xs.Nodup → (∀ x ∈ xs, x ∈ ys) → xs.length ≤ ys.length
  | [], _, _, _ => Nat.zero_le _
  | x :: xs, ys, n, h => by
    rw [List.nodup_cons] at n
    have m := h x List.mem_cons_self
    have := nodup_le (xs := xs) (ys := ys.erase x) n.2 fun z hz => (List.mem_erase_of_ne fun e => n.1 (by rw [← e]; exact hz)).mpr (h z (List.mem_cons_of_mem _ hz))
    rw [List.length_erase_of_mem m] at this
    have := List.length_pos_of_mem m
    rw [List.length_cons]; omega
theorem sortN_filter (p : Str → Bool) (xs : List Str) : sortN (xs.filter p) = (sortN xs).filter p :=
  (sortB_only tot_S ((sortN_perm xs).filter p) ((sortB_up tot_S xs).filter p)).symm
theorem sortN_sortN (xs : List Str) : sortN (sortN xs) = sortN xs := sort_perm tot_S (sortN_perm xs)
theorem sortSt_filter (p : St → Bool) (xs : List St) : sortSt (xs.filter p) = (sortSt xs).filter p :=
  (sortB_only tot_St ((sortSt_perm xs).filter p) ((sortB_up tot_St xs).filter p)).symm
theorem sortN_mem {x : Str} {xs : List Str} : x ∈ sortN xs ↔ x ∈ xs := (sortN_perm xs).mem_iff
theorem sortSt_mem {x : St} {xs : List St} : x ∈ sortSt xs ↔ x ∈ xs := (sortSt_perm xs).mem_iff
theorem lenSet_ne (ss : List Str) : (!(((nubS ss).length : Int) == (ss.length : Int))) = !decide ss.Nodup := by
  have en : decide ((nubS ss).length = ss.length) = decide ss.Nodup := by simp only [nub_len]
  rw [← en]
  by_cases h : (nubS ss).length = ss.length
  · simp [h]
  · have : ¬ ((nubS ss).length : Int) = (ss.length : Int) := by omega
    simp [h, this]
theorem lenSet_eq (ss : List Str) : (((nubS ss).length : Int) == (ss.length : Int)) = decide ss.Nodup := by
  have := lenSet_ne ss
  rw [Bool.not_inj_iff] at this
  exact this
end Sh
/-! the texts of the defs, as this program's terms -/
namespace Law
open PySem Mp
def d_is_name : Def := ⟨⟨1, [], 0, none⟩, 2, [(.ret (.bo true [(.chn (.con (.int 1)) [.LtE, .LtE] [(.bi .len [(.loc 0)]), (.con (.int 12))]), (.bi .all [(.lc (.cmp .In (.loc 1) (.glo "LETTERS" (.str "abcdefghijklmnopqrstuvwxyz0123456789"))) [1] (.nm 1) .any [(.loc 0)] [])])]))]⟩
def d_Plant_streams : Def := ⟨⟨1, [], 0, none⟩, 1, [(.ret (.bi .list [(.att "Plant" 1 (.loc 0))]))]⟩
def d_Plant_check_knot : Def := ⟨⟨2, [], 0, none⟩, 2, [(.ite (.cmp .NotIn (.loc 1) (.att "Plant" 0 (.loc 0))) [(.raise "UnknownKnot" [(.loc 1)])] [])]⟩
def d_Plant_knots : Def := ⟨⟨1, [], 0, none⟩, 1, [(.ret (.bi .list [(.att "Plant" 0 (.loc 0))]))]⟩
def d_is_stream : Def := ⟨⟨2, [], 0, none⟩, 7, [(.ite (.cmp .NotEq (.bi .len [(.loc 0)]) (.con (.int 5))) [(.ret (.con (.bl false)))] []),
  (.set (.tp [(.nm 2), (.nm 3), (.nm 4), (.nm 5), (.nm 6)]) (.loc 0)),
  (.ret (.bo true [(.cmp .In (.loc 3) (.loc 1)), (.cmp .In (.loc 4) (.loc 1)), (.chn (.con (.int 0)) [.LtE, .LtE, .LtE] [(.loc 5), (.loc 6), (.glo "MOST_FLOW" (.int 1000000))])]))]⟩
def d_are_names : Def := ⟨⟨1, [], 0, none⟩, 2, [(.ret (.bo true [(.bi .all [(.lc (.call "is_name" 0 [(.loc 1)]) [1] (.nm 1) .any [(.loc 0)] [])]), (.cmp .Eq (.bi .lenSet [(.loc 0)]) (.bi .len [(.loc 0)]))]))]⟩
def b1_law_row : List S := [(.set (.nm 4) (.bin .Mod (.bi .int [(.bin .Add (.bin .Mult (.bin .Add (.loc 4) (.con (.int 1))) (.con (.int 48271))) (.bin .Mult (.con (.int 69621)) (.loc 5)))]) (.con (.int 2147483647)))),
  (.ite (.cmp .Gt (.loc 3) (.con (.int 0))) [(.app 2 (.bin .Mod (.bi .int [(.loc 3)]) (.con (.int 1009)))),
  (.set (.nm 3) (.bin .FloorDiv (.loc 3) (.con (.int 1009))))] [(.app 2 (.bin .Mod (.bi .int [(.bin .FloorDiv (.loc 4) (.con (.int 2048)))]) (.con (.int 1009))))])]
def d_law_row : Def := ⟨⟨2, [], 0, none⟩, 6, [(.own 2 (.lst [])),
  (.set (.nm 3) (.con (.int 0))),
  (.ite (.cmp .GtE (.bi .abs [(.loc 0)]) (.bin .Pow (.con (.int 10)) (.con (.int 18)))) [(.set (.nm 3) (.bi .abs [(.loc 0)]))] []),
  (.set (.nm 4) (.bin .Mod (.bi .int [(.bi .abs [(.loc 0)])]) (.con (.int 2147483647)))),
  (.for (.nm 5) .rng [(.loc 1)] b1_law_row),
  (.frz 2),
  (.ret (.loc 2))]⟩
def d_law_refused : Def := ⟨⟨3, [], 0, none⟩, 4, [(.try [(.ite (.cmp .Eq (.loc 1) (.con (.int 0))) [(.exp (.call "leaving" 0 [(.loc 0), (.loc 2)]))] [(.exp (.call "coming_into" 0 [(.loc 0), (.loc 2)]))]),
  (.ret (.con .non))] [⟨"UnknownKnot", ["UnknownKnot"], ["InvalidPlant"], some 3, [(.ret (.att ["UnknownKnot"]))]⟩])]⟩
def b1_coming_into : List S := [(.exp (.met "Plant" "check_knot" 0 (.loc 0) [(.loc 2)]))]
def d_coming_into : Def := ⟨⟨2, [], 0, none⟩, 7, [(.for (.nm 2) .any [(.loc 1)] b1_coming_into),
  (.ret (.lc (.loc 3) [3, 4, 5, 6] (.tp [(.nm 3), (.nm 4), (.nm 5), (.nm 6), (.nm 6)]) .any [(.prp "Plant" "streams" 0 (.loc 0))] [(.bo true [(.cmp .In (.loc 5) (.loc 1)), (.cmp .NotIn (.loc 4) (.loc 1))])]))]⟩
def b1_leaving : List S := [(.exp (.met "Plant" "check_knot" 0 (.loc 0) [(.loc 2)]))]
def d_leaving : Def := ⟨⟨2, [], 0, none⟩, 7, [(.for (.nm 2) .any [(.loc 1)] b1_leaving),
  (.ret (.lc (.loc 3) [3, 4, 5, 6] (.tp [(.nm 3), (.nm 4), (.nm 5), (.nm 6), (.nm 6)]) .any [(.prp "Plant" "streams" 0 (.loc 0))] [(.bo true [(.cmp .In (.loc 4) (.loc 1)), (.cmp .NotIn (.loc 5) (.loc 1))])]))]⟩
def d_is_lot : Def := ⟨⟨2, [], 0, none⟩, 3, [(.ret (.cmp .Eq (.loc 1) (.lc (.loc 2) [2] (.nm 2) .any [(.prp "Plant" "knots" 0 (.loc 0))] [(.cmp .In (.loc 2) (.loc 1))])))]⟩
def b3_law_round : List S := [(.sub 3 (.loc 11) (.bin .Add (.bin .Add (.atm (.idx (.lb 3) (.loc 11))) (.con (.int 1))) (.bin .Mod (.bi .int [(.idx (.loc 1) (.loc 2))]) (.con (.int 5)))))]
def b2_law_round : List S := [(.set (.nm 9) (.lc (.loc 4) [4] (.nm 4) .any [(.loc 0)] [(.bo false [(.cmp .Is (.loc 5) (.con .non)), (.cmp .Eq (.idx (.loc 4) (.con (.int 1))) (.loc 5))])])),
  (.ite (.cmp .Gt (.bi .len [(.loc 9)]) (.con (.int 0))) [(.set (.nm 10) (.idx (.loc 9) (.bin .Mod (.bi .int [(.idx (.loc 1) (.bin .Add (.loc 2) (.loc 8)))]) (.bi .len [(.loc 9)])))),
  (.ite (.cmp .Is (.loc 5) (.con .non)) [(.set (.nm 6) (.idx (.loc 10) (.con (.int 1))))] []),
  (.app 7 (.idx (.loc 10) (.con (.int 0)))),
  (.set (.nm 5) (.idx (.loc 10) (.con (.int 2)))),
  (.ite (.cmp .Eq (.loc 5) (.loc 6)) [(.frz 7),
  (.for (.nm 11) .any [(.loc 7)] b3_law_round),
  (.frz 3),
  (.ret (.loc 3))] [])] [])]
def b1_law_round : List S := [(.sub 3 (.idx (.loc 4) (.con (.int 0))) (.con (.int 0)))]
def d_law_round : Def := ⟨⟨3, [], 0, none⟩, 12, [(.own 3 (.dct false [] [])),
  (.for (.nm 4) .any [(.loc 0)] b1_law_round),
  (.set (.nm 5) (.con .non)),
  (.set (.nm 6) (.con .non)),
  (.own 7 (.lst [])),
  (.for (.nm 8) .rng [(.con (.int 12))] b2_law_round),
  (.frz 3),
  (.ret (.loc 3))]⟩
def d_Plant__init_ : Def := ⟨⟨3, [], 1, (some "Plant")⟩, 4, [(.ite (.bo false [(.not (.chn (.con (.int 1)) [.LtE, .LtE] [(.bi .len [(.loc 1)]), (.glo "MOST_KNOTS" (.int 24))])), (.not (.call "are_names" 0 [(.loc 1)]))]) [(.raise "InvalidPlant" [])] []),
  (.ite (.bo false [(.cmp .Gt (.bi .len [(.loc 2)]) (.glo "MOST_STREAMS" (.int 60))), (.not (.bi .all [(.lc (.call "is_stream" 0 [(.loc 3), (.loc 1)]) [3] (.nm 3) .any [(.loc 2)] [])]))]) [(.raise "InvalidPlant" [])] []),
  (.ite (.not (.call "are_names" 0 [(.lc (.idx (.loc 3) (.con (.int 0))) [3] (.nm 3) .any [(.loc 2)] [])])) [(.raise "InvalidPlant" [])] []),
  (.sat "Plant" 0 0 (.bi .sorted [(.loc 1)])),
  (.sat "Plant" 1 0 (.bi .sorted [(.loc 2)]))]⟩
def b1_law_parts : List S := [(.set (.nm 9) (.bin .Add (.bin .Add (.loc 1) (.con (.int 3))) (.bin .Mult (.con (.int 5)) (.loc 8)))),
  (.set (.nm 10) (.idx (.loc 5) (.bin .Mod (.bi .int [(.idx (.loc 0) (.loc 9))]) (.bi .len [(.loc 5)])))),
  (.set (.nm 11) (.idx (.loc 5) (.bin .Mod (.bi .int [(.idx (.loc 0) (.bin .Add (.loc 9) (.con (.int 1))))]) (.bi .len [(.loc 5)])))),
  (.set (.nm 12) (.bin .Mod (.bi .int [(.bin .Add (.bin .Mult (.idx (.loc 0) (.bin .Add (.loc 9) (.con (.int 2)))) (.con (.int 991))) (.idx (.loc 0) (.bin .Add (.loc 9) (.con (.int 3)))))]) (.bin .Add (.loc 6) (.con (.int 1))))),
  (.ite (.cmp .Gt (.bin .Mod (.bi .int [(.idx (.loc 0) (.bin .Add (.loc 9) (.con (.int 4))))]) (.con (.int 3))) (.con (.int 0))) [(.set (.nm 12) (.con (.int 0)))] []),
  (.set (.nm 13) (.bi .min [(.con (.int 1000000)), (.bin .Add (.loc 12) (.bin .Mod (.bi .int [(.bin .Add (.bin .Mult (.idx (.loc 0) (.bin .Add (.loc 9) (.con (.int 3)))) (.con (.int 997))) (.idx (.loc 0) (.bin .Add (.loc 9) (.con (.int 4)))))]) (.bin .Add (.loc 6) (.con (.int 1)))))])),
  (.set (.nm 14) (.bin .Add (.bin .Add (.con (.str "s")) (.idx (.con (.str "mabzqlkyxcdwv9876543210efghijnoprtu")) (.loc 8))) (.idx (.lst [(.con (.str "")), (.con (.str "q")), (.con (.str "qq"))]) (.bin .Mod (.bin .FloorDiv (.bi .int [(.idx (.loc 0) (.bin .Add (.loc 9) (.con (.int 4))))]) (.con (.int 3))) (.con (.int 3)))))),
  (.app 7 (.tup [(.loc 14), (.loc 10), (.loc 11), (.loc 12), (.loc 13)]))]
def d_law_parts : Def := ⟨⟨4, [], 0, none⟩, 15, [(.set (.nm 4) (.idx (.lst [(.con (.str "k")), (.con (.str "knot")), (.con (.str "a")), (.con (.str "x9x9x9x9x9x"))]) (.bin .Mod (.bi .int [(.idx (.loc 0) (.loc 1))]) (.con (.int 4))))),
  (.set (.nm 5) (.lc (.bin .Add (.loc 4) (.idx (.con (.str "0123456789abcdefghijklmnop")) (.loc 8))) [8] (.nm 8) .rng [(.bin .Add (.con (.int 1)) (.bin .Mod (.bi .int [(.idx (.loc 0) (.bin .Add (.loc 1) (.con (.int 1))))]) (.loc 2)))] [])),
  (.set (.nm 6) (.idx (.lst [(.con (.int 4)), (.con (.int 9)), (.con (.int 60)), (.con (.int 1000000))]) (.bin .Mod (.bin .FloorDiv (.bi .int [(.idx (.loc 0) (.loc 1))]) (.con (.int 4))) (.con (.int 4))))),
  (.own 7 (.lst [])),
  (.for (.nm 8) .rng [(.bin .Mod (.bi .int [(.idx (.loc 0) (.bin .Add (.loc 1) (.con (.int 2))))]) (.bin .Add (.loc 3) (.con (.int 1))))] b1_law_parts),
  (.frz 7),
  (.ret (.tup [(.loc 5), (.loc 7)]))]⟩
def b3_law_numbers : List S := [(.app 4 (.con (.int 0)))]
def b2_law_numbers : List S := [(.app 4 (.loc 6))]
def b1_law_numbers : List S := [(.for (.nm 6) .any [(.call "_law_row" 0 [(.loc 5), (.loc 3)])] b2_law_numbers)]
def d_law_numbers : Def := ⟨⟨2, [], 0, none⟩, 7, [(.set (.nm 2) (.sl (.loc 0) [] [(.con (.int 63))])),
  (.set (.nm 3) (.bin .Add (.con (.int 1)) (.bin .FloorDiv (.loc 1) (.bi .max [(.con (.int 1)), (.bi .len [(.loc 2)])])))),
  (.own 4 (.lst [])),
  (.for (.nm 5) .any [(.loc 2)] b1_law_numbers),
  (.whl (.cmp .Lt (.bi .len [(.lb 4)]) (.loc 1)) b3_law_numbers),
  (.frz 4),
  (.ret (.sl (.loc 4) [] [(.loc 1)]))]⟩
def b3_law : List S := [(.ite (.bo false [(.cmp .NotEq (.call "_law_refused" 0 [(.loc 4), (.loc 14), (.bin .Add (.loc 7) (.lst [(.con (.str "zzz")), (.con (.str "zzy"))]))]) (.con (.str "zzz"))), (.cmp .IsNot (.call "_law_refused" 0 [(.loc 4), (.loc 14), (.loc 7)]) (.con .non))]) [(.ret (.con (.bl false)))] [])]
def b2_law : List S := [(.set (.nm 9) (.idx (.loc 2) (.bin .Mod (.bi .int [(.bin .Add (.idx (.loc 1) (.bin .Add (.con (.int 61)) (.loc 6))) (.bin .Mult (.bin .Mult (.con (.int 5)) (.loc 8)) (.idx (.loc 1) (.bin .Add (.con (.int 67)) (.loc 6)))))]) (.bi .len [(.loc 2)])))),
  (.ite (.bo false [(.cmp .NotIn (.loc 9) (.lb 7)), (.cmp .Eq (.bin .Mod (.bi .int [(.idx (.loc 1) (.bin .Add (.con (.int 67)) (.loc 6)))]) (.con (.int 5))) (.con (.int 0)))]) [(.app 7 (.loc 9))] [])]
def b1_law : List S := [(.own 7 (.lst [])),
  (.for (.nm 8) .rng [(.bin .Mod (.bi .int [(.idx (.loc 1) (.bin .Add (.con (.int 55)) (.loc 6)))]) (.con (.int 6)))] b2_law),
  (.frz 7),
  (.set (.nm 10) (.bo true [(.cmp .Eq (.bi .lenSet [(.lb 7)]) (.bi .len [(.lb 7)])), (.cmp .Eq (.lb 7) (.bi .sorted [(.loc 7)]))])),
  (.set (.nm 11) (.call "is_lot" 0 [(.loc 4), (.bi .list [(.loc 7)])])),
  (.ite (.bo false [(.not (.bi (.isTy "bool") [(.loc 11)])), (.cmp .NotEq (.loc 11) (.loc 10)), (.cmp .IsNot (.call "is_lot" 0 [(.loc 4), (.bin .Add (.loc 7) (.lst [(.con (.str "zzz"))]))]) (.con (.bl false)))]) [(.ret (.con (.bl false)))] []),
  (.set (.nm 12) (.bi .sorted [(.lc (.idx (.loc 15) (.con (.int 0))) [15] (.nm 15) .any [(.loc 3)] [(.bo true [(.cmp .In (.idx (.loc 15) (.con (.int 1))) (.loc 7)), (.cmp .NotIn (.idx (.loc 15) (.con (.int 2))) (.loc 7))])])])),
  (.set (.nm 13) (.bi .sorted [(.lc (.idx (.loc 15) (.con (.int 0))) [15] (.nm 15) .any [(.loc 3)] [(.bo true [(.cmp .In (.idx (.loc 15) (.con (.int 2))) (.loc 7)), (.cmp .NotIn (.idx (.loc 15) (.con (.int 1))) (.loc 7))])])])),
  (.ite (.bo false [(.cmp .NotEq (.call "leaving" 0 [(.loc 4), (.bi .list [(.loc 7)])]) (.loc 12)), (.cmp .NotEq (.call "coming_into" 0 [(.loc 4), (.stp (.loc 7) (.neg (.con (.int 1))))]) (.loc 13))]) [(.ret (.con (.bl false)))] []),
  (.ite (.cmp .NotEq (.bi .sum [(.lc (.idx (.loc 5) (.loc 16)) [16] (.nm 16) .any [(.loc 12)] [])]) (.bi .sum [(.lc (.idx (.loc 5) (.loc 16)) [16] (.nm 16) .any [(.loc 13)] [])])) [(.ret (.con (.bl false)))] []),
  (.for (.nm 14) .rng [(.con (.int 2))] b3_law)]
def d_law : Def := ⟨⟨1, [], 0, none⟩, 17, [(.set (.nm 1) (.call "_law_numbers" 0 [(.loc 0), (.con (.int 100))])),
  (.set (.tp [(.nm 2), (.nm 3)]) (.call "_law_parts" 0 [(.loc 1), (.con (.int 0)), (.con (.int 7)), (.con (.int 10))])),
  (.set (.nm 4) (.new "Plant" 1 [(.loc 2), (.loc 3)])),
  (.set (.nm 5) (.call "_law_round" 0 [(.loc 3), (.loc 1), (.con (.int 80))])),
  (.for (.nm 6) .rng [(.con (.int 6))] b1_law),
  (.ret (.bo true [(.cmp .Is (.call "is_lot" 0 [(.loc 4), (.lst [])]) (.con (.bl true))), (.cmp .Is (.call "is_lot" 0 [(.loc 4), (.bi .sorted [(.loc 2)])]) (.con (.bl true)))]))]⟩
def pList : List (String × Def) := [("law", d_law), ("_law_numbers", d_law_numbers), ("_law_parts", d_law_parts), ("Plant.__init__", d_Plant__init_), ("_law_round", d_law_round), ("is_lot", d_is_lot), ("leaving", d_leaving), ("coming_into", d_coming_into), ("_law_refused", d_law_refused), ("_law_row", d_law_row), ("are_names", d_are_names), ("is_stream", d_is_stream), ("Plant.knots", d_Plant_knots), ("Plant.check_knot", d_Plant_check_knot), ("Plant.streams", d_Plant_streams), ("is_name", d_is_name)]
def Pr : String → Option Def := fun f => pList.lookup f
def tb : Tbl := { fns := [("law", ⟨1, [], 0, none⟩), ("_law_numbers", ⟨2, [], 0, none⟩), ("_law_parts", ⟨4, [], 0, none⟩), ("_law_round", ⟨3, [], 0, none⟩), ("is_lot", ⟨2, [], 0, none⟩), ("leaving", ⟨2, [], 0, none⟩), ("coming_into", ⟨2, [], 0, none⟩), ("_law_refused", ⟨3, [], 0, none⟩), ("_law_row", ⟨2, [], 0, none⟩), ("are_names", ⟨1, [], 0, none⟩), ("is_stream", ⟨2, [], 0, none⟩), ("is_name", ⟨1, [], 0, none⟩)], inits := [("Plant", ⟨3, [], 1, some "Plant"⟩)], mets := [("Plant", "check_knot", ⟨2, [], 0, none⟩)], prps := [("Plant", "knots", ⟨1, [], 0, none⟩), ("Plant", "streams", ⟨1, [], 0, none⟩)], glos := [("LETTERS", (.str "abcdefghijklmnopqrstuvwxyz0123456789")), ("MOST_FLOW", (.int 1000000)), ("MOST_KNOTS", (.int 24)), ("MOST_STREAMS", (.int 60))], cf := [("Plant", ["_knots", "_streams"])], xcs := [("InvalidPlant", none), ("UnknownKnot", some "name")], hnd := [("UnknownKnot", ["UnknownKnot"], ["InvalidPlant"])] }
end Law
/-! lots and borders -/
namespace Law
open PySem Mp Sh
open L2 hiding St
section
theorem objP (ks : List Str) (ss : List St) : isObj' "Plant" (plantD ks ss) = true := rfl
theorem is_lot_eq (n : Nat) {ks : List Str} (ss : List St) (lot : List Str) (hk : ks.length ≤ 24) : run Pr (n + 2) "is_lot" [plantD ks ss, .lst (lot.map D.str)] = .ok (.bl (decide (lot = ks.filter fun k => decide (k ∈ lot)))) := by
  have hk2 : ks.length ≤ 16777216 := by omega
  have kn := knots_eq (P := Pr) rfl n ks ss
  rw [run_succ (d := d_is_lot) rfl]
  generalize hp : plantD ks ss = p at kn ⊢
  have op : isObj' "Plant" p = true := by rw [← hp]; rfl
  have lc : lcGo (lcF (run Pr (n + 1)) (.loc 2) [2] (.nm 2) [(.cmp .In (.loc 2) (.loc 1))] [.val p, .val (.lst (lot.map D.str)), .no]) (ks.map D.str) = .ok ((ks.filter fun k => decide (k ∈ lot)).map D.str) := by
    have := lcGo_filt2 (f := lcF (run Pr (n + 1)) (.loc 2) [2] (.nm 2) [(.cmp .In (.loc 2) (.loc 1))] [.val p, .val (.lst (lot.map D.str)), .no]) (h := D.str) (p := fun k => decide (k ∈ lot)) (g := id) (k := D.str) (as := ks) (fun k m => by
      rw [lcF_eq (env' := [.val p, .val (.lst (lot.map D.str)), .val (.str k)]) _ (by simp)]
      by_cases h : k ∈ lot <;> simp [h])
    rwa [List.map_id] at this
  have ce := cmp_eqL (f := D.str) lot (ks.filter fun k => decide (k ∈ lot)) (fun x _ y _ => eqN_s 22 x y)
  simp [d_is_lot, ini, argE, bor, kd, op, kn, hk2, lc, ce]
/-- the first of the lot that is no knot -/
def strange (ks lot : List Str) : Option Str := lot.find? fun k => !decide (k ∈ ks)
theorem checks (n : Nat) {bd : List S} (hb : bd = [(.exp (.met "Plant" "check_knot" 0 (.loc 0) [(.loc 2)]))]) (ks : List Str) (ss : List St) (lt : D) (r : List Sl) : ∀ (lot : List Str) (sl : Sl),
    ∃ sl', forGo (bindT (.nm 2)) (exL (run Pr (n + 1)) 0 bd) (lot.map D.str) (.val (plantD ks ss) :: .val lt :: sl :: r) = match strange ks lot with
      | none => .nx (.val (plantD ks ss) :: .val lt :: sl' :: r)
      | some k => .exc "UnknownKnot" (some (.str k)) (.val (plantD ks ss) :: .val lt :: sl' :: r)
  | [], sl => ⟨sl, rfl⟩
  | k :: lot, sl => by
    have ck := check_knot_eq (P := Pr) rfl n ks ss k
    obtain ⟨sl', ih⟩ := checks n hb ks ss lt r lot (.val (.str k))
    generalize hp : plantD ks ss = p at ck ih ⊢
    have op : isObj' "Plant" p = true := by rw [← hp]; rfl
    rw [List.map_cons, forGo_cons]
    by_cases h : k ∈ ks
    · have e : strange ks (k :: lot) = strange ks lot := by unfold strange; rw [List.find?_cons]; simp [h]
      rw [if_pos h] at ck
      refine ⟨sl', ?_⟩
      rw [e, ← ih]
      simp [turn, hb, bor, op, ck]
    · have e : strange ks (k :: lot) = some k := by unfold strange; rw [List.find?_cons]; simp [h]
      rw [if_neg h] at ck
      refine ⟨.val (.str k), ?_⟩
      rw [e]
      simp [turn, hb, bor, op, ck]
/-- the streams of a border -/
def outS' (ss : List St) (lot : List Str) : List St := ss.filter fun s => decide (s.tail ∈ lot) && !decide (s.head ∈ lot)
def intoS (ss : List St) (lot : List Str) : List St := ss.filter fun s => decide (s.head ∈ lot) && !decide (s.tail ∈ lot)
theorem leaving_eq (n : Nat) (ks : List Str) {ss : List St} (lot : List Str) (hs : ss.length ≤ 60) : run Pr (n + 2) "leaving" [plantD ks ss, .lst (lot.map D.str)] = match strange ks lot with
      | none => .ok (.lst (((outS' ss lot).map St.name).map D.str))
      | some k => .exc "UnknownKnot" (some (.str k)) := by
  have hk2 : ss.length ≤ 16777216 := by omega
  have sn := streams_eq (P := Pr) rfl n ks ss
  obtain ⟨sl', ck⟩ := checks n (bd := b1_leaving) rfl ks ss (.lst (lot.map D.str)) [.no, .no, .no, .no] lot .no
  rw [run_succ (d := d_leaving) rfl]
  generalize hp : plantD ks ss = p at ck sn ⊢
  have op : isObj' "Plant" p = true := by rw [← hp]; rfl
  cases h : strange ks lot with
  | some k => rw [h] at ck; simp [d_leaving, ini, argE, bor, kd, ck, isDct]
  | none =>
    rw [h] at ck
    have lc : lcGo (lcF (run Pr (n + 1)) (.loc 3) [3, 4, 5, 6] (.tp [(.nm 3), (.nm 4), (.nm 5), (.nm 6), (.nm 6)]) [(.bo true [(.cmp .In (.loc 4) (.loc 1)), (.cmp .NotIn (.loc 5) (.loc 1))])] [.val p, .val (.lst (lot.map D.str)), sl', .no, .no, .no, .no]) (ss.map tupS) = .ok (((outS' ss lot).map St.name).map D.str) :=
      lcGo_filt2 fun s m => by
        rw [lcF_eq (env' := [.val p, .val (.lst (lot.map D.str)), sl', .val (.str s.name), .val (.str s.tail), .val (.str s.head), .val (.int s.high)]) _ (by simp [tupS])]
        by_cases h1 : s.tail ∈ lot <;> by_cases h2 : s.head ∈ lot <;> simp [h1, h2]
    simp [d_leaving, ini, argE, bor, kd, ck, op, sn, hk2, lc, isDct, -List.map_map]
theorem coming_eq (n : Nat) (ks : List Str) {ss : List St} (lot : List Str) (hs : ss.length ≤ 60) : run Pr (n + 2) "coming_into" [plantD ks ss, .lst (lot.map D.str)] = match strange ks lot with
      | none => .ok (.lst (((intoS ss lot).map St.name).map D.str))
      | some k => .exc "UnknownKnot" (some (.str k)) := by
  have hk2 : ss.length ≤ 16777216 := by omega
  have sn := streams_eq (P := Pr) rfl n ks ss
  obtain ⟨sl', ck⟩ := checks n (bd := b1_coming_into) rfl ks ss (.lst (lot.map D.str)) [.no, .no, .no, .no] lot .no
  rw [run_succ (d := d_coming_into) rfl]
  generalize hp : plantD ks ss = p at ck sn ⊢
  have op : isObj' "Plant" p = true := by rw [← hp]; rfl
  cases h : strange ks lot with
  | some k => rw [h] at ck; simp [d_coming_into, ini, argE, bor, kd, ck, isDct]
  | none =>
    rw [h] at ck
    have lc : lcGo (lcF (run Pr (n + 1)) (.loc 3) [3, 4, 5, 6] (.tp [(.nm 3), (.nm 4), (.nm 5), (.nm 6), (.nm 6)]) [(.bo true [(.cmp .In (.loc 5) (.loc 1)), (.cmp .NotIn (.loc 4) (.loc 1))])] [.val p, .val (.lst (lot.map D.str)), sl', .no, .no, .no, .no]) (ss.map tupS) = .ok (((intoS ss lot).map St.name).map D.str) :=
      lcGo_filt2 fun s m => by
        rw [lcF_eq (env' := [.val p, .val (.lst (lot.map D.str)), sl', .val (.str s.name), .val (.str s.tail), .val (.str s.head), .val (.int s.high)]) _ (by simp [tupS])]
        by_cases h1 : s.tail ∈ lot <;> by_cases h2 : s.head ∈ lot <;> simp [h1, h2]
    simp [d_coming_into, ini, argE, bor, kd, ck, op, sn, hk2, lc, isDct, -List.map_map]
theorem refused_eq (n : Nat) (ks : List Str) {ss : List St} (i : Int) (lot : List Str) (hs : ss.length ≤ 60) : run Pr (n + 3) "_law_refused" [plantD ks ss, .int i, .lst (lot.map D.str)] = .ok (match strange ks lot with
      | none => .non
      | some k => .str k) := by
  have h1 := leaving_eq n ks lot hs
  have h2 := coming_eq n ks lot hs
  rw [run_succ (d := d_law_refused) rfl]
  generalize hp : plantD ks ss = p at h1 h2 ⊢
  cases h : strange ks lot with
  | none => rw [h] at h1 h2; by_cases hi : i = 0 <;> simp [d_law_refused, ini, argE, bor, kd, hi, h1, h2]
  | some k => rw [h] at h1 h2; by_cases hi : i = 0 <;> simp [d_law_refused, ini, argE, bor, kd, hi, h1, h2]
end
end Law
/-! flows along a closed way -/
namespace Law
open PySem Mp Sh
open L2 hiding St
/-- a way along streams -/
def Walk (ss : List St) : Str → List St → Str → Prop
  | a, [], b => a = b
  | a, s :: w, b => s ∈ ss ∧ s.tail = a ∧ Walk ss s.head w b
theorem Walk.snoc {ss : List St} {s : St} : ∀ {w : List St} {a : Str}, Walk ss a w s.tail → s ∈ ss → Walk ss a (w ++ [s]) s.head
  | [], a, h, m => ⟨m, h.symm, rfl⟩
  | t :: w, a, h, m => ⟨h.1, h.2.1, Walk.snoc h.2.2 m⟩
theorem Walk.sub {ss : List St} : ∀ {w : List St} {a b : Str}, Walk ss a w b → ∀ s ∈ w, s ∈ ss
  | [], _, _, _, s, m => by cases m
  | t :: w, _, _, h, s, m => by
    rcases List.mem_cons.mp m with e | e
    · exact e ▸ h.1
    · exact Walk.sub h.2.2 s e
def outB (lot : List Str) (s : St) : Bool := decide (s.tail ∈ lot) && !decide (s.head ∈ lot)
def intoB (lot : List Str) (s : St) : Bool := decide (s.head ∈ lot) && !decide (s.tail ∈ lot)
theorem walk_bal {ss : List St} (lot : List Str) : ∀ {w : List St} {a b : Str}, Walk ss a w b → ((w.filter (outB lot)).length : Int) + (if b ∈ lot then 1 else 0) = ((w.filter (intoB lot)).length : Int) + (if a ∈ lot then 1 else 0)
  | [], a, b, h => by cases h; simp
  | s :: w, a, b, h => by
    obtain ⟨_, e, h⟩ := h
    have ih := walk_bal lot h
    subst e
    rw [List.filter_cons, List.filter_cons]
    unfold outB intoB at ih ⊢
    by_cases h1 : s.tail ∈ lot <;> by_cases h2 : s.head ∈ lot <;> simp [h1, h2] at ih ⊢ <;> omega
/-- how often along the way, summed over streams -/
theorem sum_count {p : St → Bool} {ss : List St} (hn : (ss.map St.name).Nodup) (t : St) (ht : t ∈ ss) (c : Int) : ((ss.filter p).map fun s => if s.name = t.name then c else 0).sum = if p t then c else 0 := by
  induction ss with
  | nil => cases ht
  | cons s ss ih =>
    rw [List.map_cons, List.nodup_cons] at hn
    rw [List.filter_cons]
    rcases List.mem_cons.mp ht with e | m
    · subst e
      have z : ((ss.filter p).map fun s => if s.name = t.name then c else 0).sum = 0 := by
        have : ∀ x ∈ (ss.filter p).map fun s => if s.name = t.name then c else 0, x = 0 := fun x hx => by
          obtain ⟨s, hs, e⟩ := List.mem_map.mp hx
          have : s.name ≠ t.name := fun z => hn.1 (z ▸ List.mem_map_of_mem (List.mem_filter.mp hs).1)
          rw [if_neg this] at e; exact e.symm
        generalize (ss.filter p).map (fun s => if s.name = t.name then c else 0) = l at this
        induction l with
        | nil => rfl
        | cons x l ih2 => rw [List.sum_cons, this x List.mem_cons_self, ih2 fun y hy => this y (List.mem_cons_of_mem _ hy)]; rfl
      cases p t with
      | true => simp [z]
      | false => simp [z]
    · have ne : s.name ≠ t.name := fun z => hn.1 (z ▸ List.mem_map_of_mem m)
      have := ih hn.2 m
      cases p s with
      | true => simp only [if_true, List.map_cons, List.sum_cons, if_neg ne, Int.zero_add]; exact this
      | false => exact this
/-- what goes along a way, c each time -/
def alongF (c : Int) (w : List St) (n : Str) : Int := c * (w.filter fun t => t.name = n).length
theorem sum_along {p : St → Bool} {ss : List St} (hn : (ss.map St.name).Nodup) (c : Int) : ∀ {w : List St}, (∀ t ∈ w, t ∈ ss) → ((ss.filter p).map fun s => alongF c w s.name).sum = c * (w.filter p).length
  | [], _ => by
    have : ∀ l : List St, (l.map fun s => alongF c [] s.name).sum = 0 := fun l => by
      induction l with
      | nil => rfl
      | cons s l ih => rw [List.map_cons, List.sum_cons, ih]; simp [alongF]
    rw [this]; simp
  | t :: w, h => by
    have ih := sum_along (p := p) hn c (w := w) fun x m => h x (List.mem_cons_of_mem _ m)
    have e : ((ss.filter p).map fun s => alongF c (t :: w) s.name) = (ss.filter p).map fun s => (if s.name = t.name then c else 0) + alongF c w s.name := by
      apply List.map_congr_left
      intro s _
      unfold alongF
      rw [List.filter_cons]
      by_cases z : t.name = s.name
      · simp [z, Int.mul_add]; omega
      · have z' : ¬ s.name = t.name := fun e => z e.symm
        simp [z, z']
    have add : ∀ l : List St, (l.map fun s => (if s.name = t.name then c else 0) + alongF c w s.name).sum = (l.map fun s => if s.name = t.name then c else 0).sum + (l.map fun s => alongF c w s.name).sum := fun l => by
      induction l with
      | nil => rfl
      | cons s l ih2 => rw [List.map_cons, List.sum_cons, ih2, List.map_cons, List.sum_cons, List.map_cons, List.sum_cons]; omega
    rw [e, add, ih, sum_count hn t (h t List.mem_cons_self) c, List.filter_cons]
    cases p t with
    | true => simp [Int.mul_add]; omega
    | false => simp
/-- flows that bring in what they take out -/
def Bal (ss : List St) (g : Str → Int) : Prop := ∀ lot : List Str, ((outS' ss lot).map fun s => g s.name).sum = ((intoS ss lot).map fun s => g s.name).sum
theorem along_bal {ss : List St} (hn : (ss.map St.name).Nodup) (c : Int) {w : List St} {a : Str} (h : Walk ss a w a) : Bal ss (alongF c w) := fun lot => by
  have := walk_bal lot h
  have e1 := sum_along (p := outB lot) hn c h.sub
  have e2 := sum_along (p := intoB lot) hn c h.sub
  unfold outS' intoS
  rw [show (fun s : St => decide (s.tail ∈ lot) && !decide (s.head ∈ lot)) = outB lot from rfl, show (fun s : St => decide (s.head ∈ lot) && !decide (s.tail ∈ lot)) = intoB lot from rfl, e1, e2]
  have : ((w.filter (outB lot)).length : Int) = (w.filter (intoB lot)).length := by omega
  rw [this]
theorem zero_bal (ss : List St) : Bal ss fun _ => 0 := fun lot => by
  have : ∀ l : List St, (l.map fun _ => (0 : Int)).sum = 0 := fun l => by
    induction l with
    | nil => rfl
    | cons s l ih => rw [List.map_cons, List.sum_cons, ih]; rfl
  rw [this, this]

/-- a dict of numbers -/
def iD (ns : List Str) (g : Str → Int) : D := fD ns fun n => .int (g n)
theorem updI (g : Str → Int) (x : Str) (v : Int) : updF (fun n => D.int (g n)) x (.int v) = fun n => .int (if n = x then v else g n) := by
  funext n
  unfold updF
  by_cases h : n = x
  · rw [if_pos h, if_pos h]
  · rw [if_neg h, if_neg h]
theorem sub_i {x : Str} {v : Int} {g : Str → Int} {ns : List Str} (h : ns.length < 16777216) : subD (iD ns g) (.str x) (.int v) = some (iD (putN ns x) fun n => if n = x then v else g n) := by
  unfold iD
  rw [sub_f h, updI]
theorem idx_i {x : Str} {g : Str → Int} {ns : List Str} (h : x ∈ ns) : idxD (iD ns g) (.str x) = some (.int (g x)) := idx_f h
theorem putN_mem {ns : List Str} {x : Str} (h : x ∈ ns) : putN ns x = ns := if_pos h
theorem nd_take {α : Type} : ∀ {l : List α} {j : Nat} {x : α}, l.Nodup → l[j]? = some x → x ∉ l.take j
  | [], j, x, _, e => by simp at e
  | y :: l, 0, x, _, _ => by simp
  | y :: l, j + 1, x, h, e => by
    rw [List.nodup_cons] at h
    rw [List.getElem?_cons_succ] at e
    rw [List.take_succ_cons, List.mem_cons, not_or]
    exact ⟨fun z => h.1 (z ▸ List.mem_of_getElem? e), nd_take h.2 e⟩
theorem alongF_snoc (c : Int) (w : List St) (t : St) : alongF c (w ++ [t]) = fun n => if n = t.name then alongF c w t.name + c else alongF c w n := by
  funext n
  unfold alongF
  rw [List.filter_append, List.length_append]
  by_cases h : n = t.name
  · subst h
    simp [Int.mul_add]
  · have h' : ¬ t.name = n := fun z => h z.symm
    simp [h, h']
/-- the flows along the way that is closed -/
theorem along_loop (n : Nat) {names : List Str} (hnl : names.length ≤ 12) {nums : List Int} {at' y : Int} (ye : atI (nums.map D.int) at' = some (.int y)) (a0 a4 a5 a6 a7 a8 a9 a10 x11 : Sl) (w : List St) (hw : ∀ s ∈ w, s.name ∈ names) :
    ∃ x11', forGo (bindT (.nm 11)) (exL (run Pr n) 0 b3_law_round) ((w.map St.name).map D.str) [a0, .val (.lst (nums.map D.int)), .val (.int at'), .own 0 (iD names fun _ => 0), a4, a5, a6, a7, a8, a9, a10, x11] =
      .nx [a0, .val (.lst (nums.map D.int)), .val (.int at'), .own 0 (iD names (alongF (1 + y % 5) w)), a4, a5, a6, a7, a8, a9, a10, x11'] := by
  obtain ⟨c, hc⟩ : ∃ c : Int, c = 1 + y % 5 := ⟨_, rfl⟩
  rw [← hc, List.map_map]
  obtain ⟨env1, e1, x, q⟩ := forGo_inv (bind := bindT (.nm 11)) (body := exL (run Pr n) 0 b3_law_round) (D.str ∘ St.name)
    (fun i env => ∃ x11 : Sl, env = [a0, .val (.lst (nums.map D.int)), .val (.int at'), .own 0 (iD names (alongF c (w.take i))), a4, a5, a6, a7, a8, a9, a10, x11]) w
    [a0, .val (.lst (nums.map D.int)), .val (.int at'), .own 0 (iD names fun _ => 0), a4, a5, a6, a7, a8, a9, a10, x11] ⟨x11, by
      have : alongF c [] = fun _ => 0 := by funext n; simp [alongF]
      rw [List.take_zero, this]⟩ (by
      rintro j s env hj ⟨x11, rfl⟩
      have hm := hw s (List.mem_of_getElem? hj)
      have et : w.take (j + 1) = w.take j ++ [s] := by rw [List.take_succ, hj]; rfl
      refine ⟨_, ?_, .val (.str s.name), rfl⟩
      have sb : subD (iD names (alongF c (w.take j))) (.str s.name) (.int (alongF c (w.take j) s.name + c)) = some (iD names (alongF c (w.take (j + 1)))) := by
        rw [sub_i (by omega), putN_mem hm, et, alongF_snoc]
      have ix : idxD (iD names (alongF c (w.take j))) (.str s.name) = some (.int (alongF c (w.take j) s.name)) := idx_i hm
      have ea : alongF c (w.take j) s.name + c = alongF c (w.take j) s.name + 1 + y % 5 := by omega
      rw [ea] at sb
      have sci : ∀ z : Int, isScal (.int z) = true := fun _ => rfl
      generalize alongF c (w.take j) s.name = z at sb ix
      generalize iD names (alongF c (w.take (j + 1))) = d2 at sb ⊢
      generalize iD names (alongF c (w.take j)) = d1 at sb ix ⊢
      simp [turn, b3_law_round, bor, ye, ix, sb, bin_mod, sci])
  subst q
  rw [e1, List.take_length]
  exact ⟨x, rfl⟩
theorem round_eq (n : Nat) {nums : List Int} (hs : Sm nums) {at' : Int} (h0 : 0 ≤ at') (hl : at' + 11 < nums.length) {ss : List St} (hn : (ss.map St.name).Nodup) (h12 : ss.length ≤ 12) :
    ∃ g : Str → Int, Bal ss g ∧ run Pr (n + 1) "_law_round" [.lst (ss.map tupS), .lst (nums.map D.int), .int at'] = .ok (iD (ss.map St.name) g) := by
  obtain ⟨names, hnames⟩ : ∃ names : List Str, names = ss.map St.name := ⟨_, rfl⟩
  have hnl : names.length ≤ 12 := by rw [hnames, List.length_map]; exact h12
  obtain ⟨y, y0, y1, ye⟩ := num_at hs (i := at') h0 (by omega)
  -- all flows 0
  obtain ⟨env1, e1, x4, q1⟩ := forGo_inv (bind := bindT (.nm 4)) (body := exL (run Pr n) 0 b1_law_round) tupS
    (fun i env => ∃ x4 : Sl, env = [.val (.lst (ss.map tupS)), .val (.lst (nums.map D.int)), .val (.int at'), .own 0 (iD (names.take i) fun _ => 0), x4, .no, .no, .no, .no, .no, .no, .no]) ss
    [.val (.lst (ss.map tupS)), .val (.lst (nums.map D.int)), .val (.int at'), .own 0 (.dK [] []), .no, .no, .no, .no, .no, .no, .no, .no] ⟨.no, rfl⟩ (by
      rintro j s env hj ⟨x4, rfl⟩
      obtain ⟨hj2, ej⟩ := List.getElem?_eq_some_iff.mp hj
      refine ⟨_, ?_, .val (tupS s), rfl⟩
      have hlt : (names.take j).length < 16777216 := by rw [List.length_take]; omega
      have nj : names[j]? = some s.name := by rw [hnames, List.getElem?_map, hj]; rfl
      have ne : s.name ∉ names.take j := nd_take (hnames ▸ hn) nj
      have et : names.take (j + 1) = putN (names.take j) s.name := by
        unfold putN
        rw [if_neg ne, List.take_succ, nj]; rfl
      have sb : subD (iD (names.take j) fun _ => 0) (.str s.name) (.int 0) = some (iD (names.take (j + 1)) fun _ => 0) := by
        rw [sub_i hlt, et]
        congr 2
        funext z
        split <;> rfl
      generalize iD (names.take (j + 1)) (fun _ => 0) = d2 at sb ⊢
      generalize iD (names.take j) (fun _ => 0) = d1 at sb ⊢
      simp [turn, b1_law_round, bor, tupS, sb])
  subst q1
  have tk : names.take ss.length = names := List.take_of_length_le (by rw [hnames, List.length_map]; exact Nat.le_refl _)
  rw [tk] at e1
  -- the way
  have main := forGo_ret (bind := bindT (.nm 8)) (body := exL (run Pr n) 0 b2_law_round) (fun (i : Nat) => D.int (i : Nat))
    (fun i env => ∃ (x4 here start x8 x9 x10 x11 : Sl) (w : List St), env = [.val (.lst (ss.map tupS)), .val (.lst (nums.map D.int)), .val (.int at'), .own 0 (iD names fun _ => 0), x4, here, start, .own 0 (.lst ((w.map St.name).map D.str)), x8, x9, x10, x11] ∧ w.length ≤ i ∧
      ((w = [] ∧ here = .val .non ∧ start = .val .non) ∨ ∃ a b : Str, here = .val (.str b) ∧ start = .val (.str a) ∧ Walk ss a w b))
    (fun z => ∃ g : Str → Int, Bal ss g ∧ z = iD names g) (List.range 12) 0
    [.val (.lst (ss.map tupS)), .val (.lst (nums.map D.int)), .val (.int at'), .own 0 (iD names fun _ => 0), x4, .val .non, .val .non, .own 0 (.lst []), .no, .no, .no, .no]
    ⟨x4, _, _, _, _, _, _, [], rfl, Nat.le_refl _, .inl ⟨rfl, rfl, rfl⟩⟩ (by
      rintro j k env hj ⟨x4, here, start, x8, x9, x10, x11, w, rfl, hw, hst⟩
      obtain ⟨hj2, ej⟩ := List.getElem?_eq_some_iff.mp hj
      rw [List.length_range] at hj2
      rw [List.getElem_range] at ej
      subst ej
      obtain ⟨z, z0, z1, ze⟩ := num_at hs (i := at' + (j : Int)) (by omega) (by omega)
      -- a turn, from where it stands
      have step : ∀ (hv sv : D) (p : St → Bool), (∀ s ∈ ss, (if isNon hv then some true else eqD (.str s.tail) hv) = some (p s)) → here = .val hv → start = .val sv →
          (∀ s ∈ ss, p s = true → ∃ a : Str, (if isNon hv then D.str s.tail else sv) = .str a ∧ Walk ss a (w ++ [s]) s.head) → (∃ t, ∀ d : D, d = hv → cmpD .Is d .non = some t ∧ isNon hv = t) →
          (∃ env2, Goes (turn (bindT (.nm 8)) (exL (run Pr n) 0 b2_law_round) (.int (j : Nat)) [.val (.lst (ss.map tupS)), .val (.lst (nums.map D.int)), .val (.int at'), .own 0 (iD names fun _ => 0), x4, here, start, .own 0 (.lst ((w.map St.name).map D.str)), x8, x9, x10, x11]) env2 ∧
            ∃ (x4 here start x8 x9 x10 x11 : Sl) (w : List St), env2 = [.val (.lst (ss.map tupS)), .val (.lst (nums.map D.int)), .val (.int at'), .own 0 (iD names fun _ => 0), x4, here, start, .own 0 (.lst ((w.map St.name).map D.str)), x8, x9, x10, x11] ∧ w.length ≤ 0 + j + 1 ∧
            ((w = [] ∧ here = .val .non ∧ start = .val .non) ∨ ∃ a b : Str, here = .val (.str b) ∧ start = .val (.str a) ∧ Walk ss a w b)) ∨
          ∃ d, turn (bindT (.nm 8)) (exL (run Pr n) 0 b2_law_round) (.int (j : Nat)) [.val (.lst (ss.map tupS)), .val (.lst (nums.map D.int)), .val (.int at'), .own 0 (iD names fun _ => 0), x4, here, start, .own 0 (.lst ((w.map St.name).map D.str)), x8, x9, x10, x11] = .rt d ∧ ∃ g : Str → Int, Bal ss g ∧ d = iD names g := by
        intro hv sv p hp eh es hwk _
        subst eh; subst es
        obtain ⟨menu, hmenu⟩ : ∃ menu : List St, menu = ss.filter p := ⟨_, rfl⟩
        have lc : lcGo (lcF (run Pr n) (.loc 4) [4] (.nm 4) [(.bo false [(.cmp .Is (.loc 5) (.con .non)), (.cmp .Eq (.idx (.loc 4) (.con (.int 1))) (.loc 5))])]
            [.val (.lst (ss.map tupS)), .val (.lst (nums.map D.int)), .val (.int at'), .own 0 (iD names fun _ => 0), x4, .val hv, .val sv, .own 0 (.lst ((w.map St.name).map D.str)), .val (.int (j : Nat)), x9, x10, x11]) (ss.map tupS) = .ok (menu.map tupS) := by
          have := lcGo_filt2 (f := lcF (run Pr n) (.loc 4) [4] (.nm 4) [(.bo false [(.cmp .Is (.loc 5) (.con .non)), (.cmp .Eq (.idx (.loc 4) (.con (.int 1))) (.loc 5))])]
            [.val (.lst (ss.map tupS)), .val (.lst (nums.map D.int)), .val (.int at'), .own 0 (iD names fun _ => 0), x4, .val hv, .val sv, .own 0 (.lst ((w.map St.name).map D.str)), .val (.int (j : Nat)), x9, x10, x11]) (h := tupS) (p := p) (g := id) (k := tupS) (as := ss) (fun s m => by
              have hps := hp s m
              rw [lcF_eq (env' := [.val (.lst (ss.map tupS)), .val (.lst (nums.map D.int)), .val (.int at'), .own 0 (iD names fun _ => 0), .val (tupS s), .val hv, .val sv, .own 0 (.lst ((w.map St.name).map D.str)), .val (.int (j : Nat)), x9, x10, x11]) _ (by simp)]
              cases hq : isNon hv with
              | true =>
                rw [hq] at hps
                have hps : p s = true := (Option.some.inj (show some true = some (p s) from hps)).symm
                simp [tupS, hq, hps]
              | false =>
                rw [hq] at hps
                have hps : eqD (.str s.tail) hv = some (p s) := hps
                have ce : cmpD .Eq (.str s.tail) hv = some (p s) := hps
                simp [tupS, hq, ce]
                cases p s <;> rfl)
          rw [List.map_id, ← hmenu] at this
          exact this
        obtain ⟨len, hlen⟩ : ∃ len : Int, ((menu.length : Nat) : Int) = len := ⟨_, rfl⟩
        have hll : biD .len false [.lst (menu.map tupS)] = some (.int len) := by rw [len_l, List.length_map, hlen]
        have hsl : ss.length ≤ 16777216 := by omega
        by_cases hm : 0 < len
        · have em : 0 ≤ z % len ∧ z % len < menu.length := by
            have := Int.emod_nonneg z (show len ≠ 0 by omega)
            have := Int.emod_lt_of_pos z hm
            omega
          obtain ⟨s, m, _, t⟩ := lst_at (f := tupS) em.1 em.2
          rw [hmenu, List.mem_filter] at m
          obtain ⟨a, ea, wk⟩ := hwk s m.1 m.2
          have hwl : w.length < 16777216 := by omega
          have wapp : (w.map St.name).map D.str ++ [.str s.name] = ((w ++ [s]).map St.name).map D.str := by simp
          obtain ⟨x11', al⟩ := along_loop n (names := names) hnl ye (.val (.lst (ss.map tupS))) x4 (.val (.str s.head)) (.val (.str a)) (.val (.lst (((w ++ [s]).map St.name).map D.str))) (.val (.int (j : Nat))) (.val (.lst (menu.map tupS))) (.val (tupS s)) x11 (w ++ [s]) (fun t ht => hnames ▸ List.mem_map_of_mem (wk.sub t ht))
          generalize hfz : iD names (fun _ => 0) = fz at lc al ⊢
          have wb : ([(S.app 7 (.idx (.loc 10) (.con (.int 0))))] : List S) = [(S.app 7 (.idx (.loc 10) (.con (.int 0))))] := rfl
          have bb : binD false .Mod (.int z) (.int len) = some (.int (z % len)) := bin_mod _ _ hm
          have tail_ : ∀ env1 : Sls, env1 = [.val (.lst (ss.map tupS)), .val (.lst (nums.map D.int)), .val (.int at'), .own 0 fz, x4, .val hv, .val (.str a), .own 0 (.lst ((w.map St.name).map D.str)), .val (.int (j : Nat)), .val (.lst (menu.map tupS)), .val (tupS s), x11] →
              exL (run Pr n) 0 [(.app 7 (.idx (.loc 10) (.con (.int 0)))), (.set (.nm 5) (.idx (.loc 10) (.con (.int 2)))), (.ite (.cmp .Eq (.loc 5) (.loc 6)) [(.frz 7), (.for (.nm 11) .any [(.loc 7)] b3_law_round), (.frz 3), (.ret (.loc 3))] [])] env1 =
              if s.head = a then .rt (iD names (alongF (1 + y % 5) (w ++ [s]))) else .nx [.val (.lst (ss.map tupS)), .val (.lst (nums.map D.int)), .val (.int at'), .own 0 fz, x4, .val (.str s.head), .val (.str a), .own 0 (.lst (((w ++ [s]).map St.name).map D.str)), .val (.int (j : Nat)), .val (.lst (menu.map tupS)), .val (tupS s), x11] := by
            intro env1 he
            subst he
            have hwl2 : ((w.map St.name).map D.str).length < 16777216 := by rw [List.length_map, List.length_map]; exact hwl
            generalize hW : ((w ++ [s]).map St.name).map D.str = W at al wapp ⊢
            generalize (w.map St.name).map D.str = W0 at wapp hwl2 ⊢
            generalize (menu.map tupS) = M at al ⊢
            have nk : isDct (.lst W) = false := rfl
            simp only [tupS] at al ⊢
            by_cases hc : s.head = a
            · rw [if_pos hc]
              rw [hc] at al
              simp [bor, kd, wapp, hwl2, hc, al, nk]
            · rw [if_neg hc]
              simp [bor, kd, wapp, hwl2, hc]
          have turn_ : turn (bindT (.nm 8)) (exL (run Pr n) 0 b2_law_round) (.int (j : Nat)) [.val (.lst (ss.map tupS)), .val (.lst (nums.map D.int)), .val (.int at'), .own 0 fz, x4, .val hv, .val sv, .own 0 (.lst ((w.map St.name).map D.str)), x8, x9, x10, x11] =
              if s.head = a then .rt (iD names (alongF (1 + y % 5) (w ++ [s]))) else .nx [.val (.lst (ss.map tupS)), .val (.lst (nums.map D.int)), .val (.int at'), .own 0 fz, x4, .val (.str s.head), .val (.str a), .own 0 (.lst (((w ++ [s]).map St.name).map D.str)), .val (.int (j : Nat)), .val (.lst (menu.map tupS)), .val (tupS s), x11] := by
            rw [← tail_ _ rfl]
            have i1 : idxD (tupS s) (.int 1) = some (.str s.tail) := rfl
            cases hq : isNon hv with
            | true =>
              rw [hq] at ea
              have ea : s.tail = a := D.str.inj (show D.str s.tail = .str a from ea)
              subst ea
              simp [turn, b2_law_round, bor, kd, lc, hll, hm, hsl, ze, bb, t, hq, i1, -len_l, -List.map_map, -exS_app, -exS_for]
            | false =>
              rw [hq] at ea
              have ea : sv = .str a := ea
              subst ea
              simp [turn, b2_law_round, bor, kd, lc, hll, hm, hsl, ze, bb, t, hq, -len_l, -List.map_map, -exS_app, -exS_for]
          rw [turn_]
          by_cases hc : s.head = a
          · rw [if_pos hc]
            exact .inr ⟨_, rfl, _, along_bal hn _ (show Walk ss a (w ++ [s]) a from hc ▸ wk), rfl⟩
          · rw [if_neg hc]
            exact .inl ⟨_, .inl rfl, x4, _, _, _, _, _, _, w ++ [s], rfl, by rw [List.length_append, List.length_singleton]; omega, .inr ⟨a, s.head, rfl, rfl, wk⟩⟩
        · refine .inl ⟨[.val (.lst (ss.map tupS)), .val (.lst (nums.map D.int)), .val (.int at'), .own 0 (iD names fun _ => 0), x4, .val hv, .val sv, .own 0 (.lst ((w.map St.name).map D.str)), .val (.int (j : Nat)), .val (.lst (menu.map tupS)), x10, x11], ?_, x4, _, _, _, _, _, _, w, rfl, by omega, hst⟩
          simp [turn, b2_law_round, bor, kd, lc, hll, hm, hsl, -len_l, -List.map_map]
      rcases hst with ⟨e1, e2, e3⟩ | ⟨a, b, e2, e3, wk⟩
      · subst e1
        exact step .non .non (fun _ => true) (fun s m => rfl) e2 e3 (fun s m _ => ⟨s.tail, rfl, m, rfl, rfl⟩) ⟨true, fun d e => by subst e; exact ⟨rfl, rfl⟩⟩
      · exact step (.str b) (.str a) (fun s => s.tail == b) (fun s m => rfl) e2 e3 (fun s m h => ⟨a, rfl, Walk.snoc (by rw [beq_iff_eq.mp h]; exact wk) m⟩) ⟨false, fun d e => by subst e; exact ⟨rfl, rfl⟩⟩)
  have it12 : iterD .rng [.int 12] = some ((List.range 12).map fun (i : Nat) => D.int (i : Nat)) := rfl
  rw [← hnames]
  rcases main with ⟨env2, e2, x4, here, start, x8, x9, x10, x11, w, q2, _, _⟩ | ⟨d, e2, g, hg, ed⟩
  · subst q2
    refine ⟨fun _ => 0, zero_bal ss, ?_⟩
    rw [run_succ (d := d_law_round) rfl]
    generalize iD names (fun _ => 0) = fz at e1 e2 ⊢
    simp only [d_law_round, ini, argE]
    simp [bor, kd, e1, it12, e2, isDct, -List.map_map]
  · refine ⟨g, hg, ?_⟩
    rw [run_succ (d := d_law_round) rfl, ← ed]
    generalize iD names (fun _ => 0) = fz at e1 e2
    simp only [d_law_round, ini, argE]
    simp [bor, kd, e1, it12, e2, isDct, -List.map_map]
end Law
/-! the law -/
namespace Law
open PySem Mp Sh
open L2 hiding St
theorem lot_sure {ks lot : List Str} (hk : ks.Nodup) (hl : ∀ k ∈ lot, k ∈ ks) : decide (lot = (sortN ks).filter fun k => decide (k ∈ lot)) = (decide lot.Nodup && decide (lot = sortN lot)) := by
  have hF : ((sortN ks).filter fun k => decide (k ∈ lot)).Nodup := ((sortN_perm ks).nodup_iff.mpr hk).filter _
  have hS : sortN ((sortN ks).filter fun k => decide (k ∈ lot)) = (sortN ks).filter fun k => decide (k ∈ lot) := by rw [sortN_filter, sortN_sortN]
  have key : lot = (sortN ks).filter (fun k => decide (k ∈ lot)) ↔ lot.Nodup ∧ lot = sortN lot := by
    constructor
    · intro e
      refine ⟨by rw [e]; exact hF, ?_⟩
      generalize (sortN ks).filter (fun k => decide (k ∈ lot)) = F at e hS
      rw [e]; exact hS.symm
    · intro ⟨h1, h2⟩
      have p : lot.Perm ((sortN ks).filter fun k => decide (k ∈ lot)) := (List.perm_ext_iff_of_nodup h1 hF).mpr fun x => by
        rw [List.mem_filter, decide_eq_true_eq, sortN_mem]
        exact ⟨fun m => ⟨hl x m, m⟩, fun m => m.2⟩
      exact h2.trans ((sort_perm tot_S p).trans hS)
  by_cases h : lot.Nodup ∧ lot = sortN lot
  · rw [decide_eq_true (key.mpr h), decide_eq_true h.1, decide_eq_true h.2]; rfl
  · rw [decide_eq_false fun z => h (key.mp z)]
    by_cases h1 : lot.Nodup
    · have h2 : ¬ lot = sortN lot := fun z => h ⟨h1, z⟩
      rw [decide_eq_false h2]; simp
    · rw [decide_eq_false h1]; rfl
/-- names in the order of the streams -/
theorem names_sorted (xs : List St) : (sortSt xs).map St.name = sortN (xs.map St.name) := by
  refine sortB_only tot_S ((sortSt_perm xs).map _) (List.pairwise_map.mpr ((sortB_up tot_St xs).imp fun {a b} h => ?_))
  have h : ltKs (keyS b) (keyS a) = false := h
  cases hq : ltS b.name a.name with
  | false => rfl
  | true =>
    have ne : b.name ≠ a.name := fun z => by rw [z, tot_S.irr] at hq; cases hq
    have e : ltKs (keyS b) (keyS a) = ltS b.name a.name := by
      show (if (Sum.inr b.name : Key) = Sum.inr a.name then _ else ltKey (.inr b.name) (.inr a.name)) = _
      rw [if_neg fun z => ne (Sum.inr.inj z)]; rfl
    rw [e, hq] at h; cases h
theorem strange_none {ks lot : List Str} (h : ∀ k ∈ lot, k ∈ ks) : strange ks lot = none := by
  unfold strange
  rw [List.find?_eq_none]
  intro x m
  simp [h x m]
theorem strange_app {ks lot : List Str} {x y : Str} (h : ∀ k ∈ lot, k ∈ ks) (hx : x ∉ ks) : strange ks (lot ++ [x, y]) = some x := by
  have := strange_none h
  unfold strange at this ⊢
  rw [List.find?_append, this]
  simp [hx]
theorem zzz_knot : ∀ b : Fin 4, ∀ i : Fin 8, knotN b.1 i.1 ≠ "zzz" := by decide +kernel
theorem no_zzz {ks : List Str} {ss : List St} (h : DrP ks ss) : ("zzz" : Str) ∉ ks := by
  obtain ⟨b, hb, h8, e⟩ := h.kf
  intro m
  rw [e] at m
  obtain ⟨i, hi, e2⟩ := List.mem_map.mp m
  rw [List.mem_range] at hi
  exact zzz_knot ⟨b, hb⟩ ⟨i, by omega⟩ e2
theorem sum_perm {xs ys : List Int} (p : xs.Perm ys) : xs.sum = ys.sum := by
  induction p with
  | nil => rfl
  | cons x _ ih => rw [List.sum_cons, List.sum_cons, ih]
  | swap x y l => simp only [List.sum_cons]; omega
  | trans _ _ h1 h2 => exact h1.trans h2
theorem bal_sorted {ss : List St} {g : Str → Int} (h : Bal ss g) (lot : List Str) : ((sortN ((outS' ss lot).map St.name)).map g).sum = ((sortN ((intoS ss lot).map St.name)).map g).sum := by
  have e1 := sum_perm ((sortN_perm ((outS' ss lot).map St.name)).map g)
  have e2 := sum_perm ((sortN_perm ((intoS ss lot).map St.name)).map g)
  rw [e1, e2, List.map_map, List.map_map]
  exact h lot
section
/-- a drawn lot -/
theorem lot_loop (n : Nat) {nums : List Int} (hs : Sm nums) (h100 : nums.length = 100) {ks : List Str} (hk : 1 ≤ ks.length) (a0 a3 a4 a5 : Sl) (k : Nat) (hk6 : k < 6) (m : Nat) (hm : m ≤ 6) (x8 x9 x10 x11 x12 x13 x14 x15 x16 : Sl) :
    ∃ (lot : List Str) (x8' x9' : Sl), (∀ k ∈ lot, k ∈ ks) ∧ lot.length ≤ 6 ∧ forGo (bindT (.nm 8)) (exL (run Pr n) 0 b2_law) ((List.range m).map fun (i : Nat) => D.int (i : Nat)) [a0, .val (.lst (nums.map D.int)), .val (.lst (ks.map D.str)), a3, a4, a5, .val (.int (k : Nat)), .own 0 (.lst []), x8, x9, x10, x11, x12, x13, x14, x15, x16] =
      .nx [a0, .val (.lst (nums.map D.int)), .val (.lst (ks.map D.str)), a3, a4, a5, .val (.int (k : Nat)), .own 0 (.lst (lot.map D.str)), x8', x9', x10, x11, x12, x13, x14, x15, x16] := by
  obtain ⟨y, y0, y1, ye⟩ := num_at hs (i := 61 + (k : Int)) (by omega) (by omega)
  obtain ⟨z, z0, z1, ze⟩ := num_at hs (i := 67 + (k : Int)) (by omega) (by omega)
  obtain ⟨len, hlen⟩ : ∃ len : Int, ((ks.length : Nat) : Int) = len := ⟨_, rfl⟩
  have hll : biD .len false [.lst (ks.map D.str)] = some (.int len) := by rw [len_l, List.length_map, hlen]
  have hl0 : 0 < len := by omega
  obtain ⟨env1, e1, lot, x8', x9', q1, q2, q3⟩ := forGo_rng (bind := bindT (.nm 8)) (body := exL (run Pr n) 0 b2_law) (fun (i : Nat) => D.int (i : Nat))
    (fun i env => ∃ (lot : List Str) (x8 x9 : Sl), env = [a0, .val (.lst (nums.map D.int)), .val (.lst (ks.map D.str)), a3, a4, a5, .val (.int (k : Nat)), .own 0 (.lst (lot.map D.str)), x8, x9, x10, x11, x12, x13, x14, x15, x16] ∧ (∀ k ∈ lot, k ∈ ks) ∧ lot.length ≤ i) m
    [a0, .val (.lst (nums.map D.int)), .val (.lst (ks.map D.str)), a3, a4, a5, .val (.int (k : Nat)), .own 0 (.lst []), x8, x9, x10, x11, x12, x13, x14, x15, x16] ⟨[], x8, x9, rfl, (fun _ h => by cases h), Nat.le_refl _⟩ (by
      rintro j env hj ⟨lot, x8, x9, rfl, f1, f2⟩
      have em : 0 ≤ (y + 5 * (j : Int) * z) % len ∧ (y + 5 * (j : Int) * z) % len < ks.length := by
        have := Int.emod_nonneg (y + 5 * (j : Int) * z) (show len ≠ 0 by omega)
        have := Int.emod_lt_of_pos (y + 5 * (j : Int) * z) hl0
        omega
      obtain ⟨kn, m1, t1⟩ := str_at em.1 em.2
      have s1 : binD false .Mult (.int 5) (.int (j : Int)) = some (.int (5 * (j : Int))) := bin_mul _ _ _ (.inl (by decide))
      have s2 : binD false .Mult (.int (5 * (j : Int))) (.int z) = some (.int (5 * (j : Int) * z)) := bin_mul _ _ _ (.inr (by omega))
      have s3 : binD false .Mod (.int (y + 5 * (j : Int) * z)) (.int len) = some (.int ((y + 5 * (j : Int) * z) % len)) := bin_mod _ _ hl0
      have hl2 : lot.length < 16777216 := by omega
      by_cases hin : kn ∈ lot ∧ ¬ z % 5 = 0
      · refine ⟨[a0, .val (.lst (nums.map D.int)), .val (.lst (ks.map D.str)), a3, a4, a5, .val (.int (k : Nat)), .own 0 (.lst (lot.map D.str)), .val (.int (j : Nat)), .val (.str kn), x10, x11, x12, x13, x14, x15, x16], ?_, lot, _, _, rfl, f1, by omega⟩
        simp [turn, b2_law, bor, kd, ye, ze, hll, s1, s2, s3, t1, hin.1, hin.2, bin_mod, -len_l]
      · refine ⟨[a0, .val (.lst (nums.map D.int)), .val (.lst (ks.map D.str)), a3, a4, a5, .val (.int (k : Nat)), .own 0 (.lst ((lot ++ [kn]).map D.str)), .val (.int (j : Nat)), .val (.str kn), x10, x11, x12, x13, x14, x15, x16], ?_, lot ++ [kn], _, _, rfl, fun x mx => ?_, by simp; omega⟩
        · by_cases h1 : kn ∈ lot
          · have h2 : z % 5 = 0 := by
              by_cases h2 : z % 5 = 0
              · exact h2
              · exact absurd ⟨h1, h2⟩ hin
            simp [turn, b2_law, bor, kd, ye, ze, hll, s1, s2, s3, t1, h1, h2, hl2, bin_mod, -len_l]
          · simp [turn, b2_law, bor, kd, ye, ze, hll, s1, s2, s3, t1, h1, hl2, bin_mod, -len_l]
        · rcases List.mem_append.mp mx with mx | mx
          · exact f1 x mx
          · rw [List.mem_singleton] at mx; rw [mx]; exact m1)
  subst q1
  exact ⟨lot, x8', x9', q2, by omega, e1⟩
theorem lot_turn (n : Nat) {nums : List Int} (hs : Sm nums) (h100 : nums.length = 100) {ks : List Str} {ss : List St} (d : DrP ks ss) {g : Str → Int} (hg : Bal ss g) (a0 : Sl) (k : Nat) (hk6 : k < 6) (x6 x7 x8 x9 x10 x11 x12 x13 x14 x15 x16 : Sl) :
    ∃ x7' x8' x9' x10' x11' x12' x13' x14' : Sl, turn (bindT (.nm 6)) (exL (run Pr (n + 3)) 0 b1_law) (.int (k : Nat)) [a0, .val (.lst (nums.map D.int)), .val (.lst (ks.map D.str)), .val (.lst (ss.map tupS)), .val (plantD (sortN ks) (sortSt ss)), .val (iD (ss.map St.name) g), x6, x7, x8, x9, x10, x11, x12, x13, x14, x15, x16] =
      .nx [a0, .val (.lst (nums.map D.int)), .val (.lst (ks.map D.str)), .val (.lst (ss.map tupS)), .val (plantD (sortN ks) (sortSt ss)), .val (iD (ss.map St.name) g), .val (.int (k : Nat)), x7', x8', x9', x10', x11', x12', x13', x14', x15, x16] := by
  obtain ⟨y, y0, y1, ye⟩ := num_at hs (i := 55 + (k : Int)) (by omega) (by omega)
  obtain ⟨m, hm⟩ : ∃ m : Int, m = y % 6 := ⟨_, rfl⟩
  have hm6 : 0 ≤ m ∧ m ≤ 5 := by omega
  obtain ⟨lot, x8', x9', hl, hl6, el⟩ := lot_loop (n + 3) hs h100 (by exact d.parts.k1) a0 (.val (.lst (ss.map tupS))) (.val (plantD (sortN ks) (sortSt ss))) (.val (iD (ss.map St.name) g)) k hk6 m.toNat (by omega) x8 x9 x10 x11 x12 x13 x14 x15 x16
  have k24 := d.parts.k2
  have s60 := d.parts.s2
  have kp := sortN_perm ks
  have sp := sortSt_perm ss
  have k24' : (sortN ks).length ≤ 24 := by rw [kp.length_eq]; exact k24
  have s60' : (sortSt ss).length ≤ 60 := by rw [sp.length_eq]; exact s60
  have hl' : ∀ k ∈ lot, k ∈ sortN ks := fun k m => sortN_mem.mpr (hl k m)
  have zz : ("zzz" : Str) ∉ sortN ks := fun z => no_zzz d (sortN_mem.mp z)
  -- what the program answers
  have i1 := is_lot_eq (n + 1) (sortSt ss) lot k24'
  have i2 := is_lot_eq (n + 1) (sortSt ss) (lot ++ ([("zzz" : Str)] : List Str)) k24'
  rw [decide_eq_false (fun z => zz ((List.mem_filter.mp (z ▸ (by simp : ("zzz" : Str) ∈ lot ++ ([("zzz" : Str)] : List Str)))).1))] at i2
  rw [lot_sure d.parts.kd hl] at i1
  have l1 := leaving_eq (n + 1) (sortN ks) lot s60'
  rw [strange_none hl'] at l1
  have l2 := coming_eq (n + 1) (sortN ks) lot.reverse s60'
  rw [strange_none fun k m => hl' k (List.mem_reverse.mp m)] at l2
  have r1 : ∀ i : Int, Mp.run Pr (n + 3) "_law_refused" [plantD (sortN ks) (sortSt ss), .int i, .lst ((lot ++ ([("zzz" : Str), ("zzy" : Str)] : List Str)).map D.str)] = .ok (.str "zzz") := fun i => by
    have := refused_eq n (sortN ks) i (lot ++ ([("zzz" : Str), ("zzy" : Str)] : List Str)) s60'
    rw [strange_app hl' zz] at this; exact this
  have r2 : ∀ i : Int, Mp.run Pr (n + 3) "_law_refused" [plantD (sortN ks) (sortSt ss), .int i, .lst (lot.map D.str)] = .ok .non := fun i => by
    have := refused_eq n (sortN ks) i lot s60'
    rw [strange_none hl'] at this; exact this
  -- what the law finds
  obtain ⟨out, hout⟩ : ∃ out : List Str, out = sortN ((outS' ss lot).map St.name) := ⟨_, rfl⟩
  obtain ⟨into, hinto⟩ : ∃ into : List Str, into = sortN ((intoS ss lot).map St.name) := ⟨_, rfl⟩
  have o1 : (outS' (sortSt ss) lot).map St.name = out := by
    unfold outS' at hout ⊢
    rw [hout, ← names_sorted, sortSt_filter]
  have o2 : (intoS (sortSt ss) lot.reverse).map St.name = into := by
    unfold intoS at hinto ⊢
    rw [hinto, ← names_sorted, sortSt_filter]
    congr 1
    apply List.filter_congr
    intro s _
    simp
  rw [o1] at l1
  rw [o2] at l2
  obtain ⟨p, hp⟩ : ∃ p : D, p = plantD (sortN ks) (sortSt ss) := ⟨_, rfl⟩
  obtain ⟨F, hF⟩ : ∃ F : D, F = iD (ss.map St.name) g := ⟨_, rfl⟩
  obtain ⟨Z1, hZ1⟩ : ∃ Z1 : List D, Z1 = (lot ++ ([("zzz" : Str)] : List Str)).map D.str := ⟨_, rfl⟩
  obtain ⟨Z2, hZ2⟩ : ∃ Z2 : List D, Z2 = (lot ++ ([("zzz" : Str), ("zzy" : Str)] : List Str)).map D.str := ⟨_, rfl⟩
  obtain ⟨R', hR⟩ : ∃ R' : List D, R' = lot.reverse.map D.str := ⟨_, rfl⟩
  obtain ⟨Ls, hLs⟩ : ∃ Ls : List D, Ls = (sortN lot).map D.str := ⟨_, rfl⟩
  obtain ⟨Lt, hLt⟩ : ∃ Lt : List D, Lt = lot.map D.str := ⟨_, rfl⟩
  obtain ⟨Ot, hOt⟩ : ∃ Ot : List D, Ot = out.map D.str := ⟨_, rfl⟩
  obtain ⟨It, hIt⟩ : ∃ It : List D, It = into.map D.str := ⟨_, rfl⟩
  have b1 : binD false .Add (.lst Lt) (.lst [.str "zzz"]) = some (.lst Z1) := by
    rw [bin_catL (by rw [hLt, List.length_map]; simp; omega), hZ1, hLt, List.map_append]; rfl
  have b2 : binD false .Add (.lst Lt) (.lst [.str "zzz", .str "zzy"]) = some (.lst Z2) := by
    rw [bin_catL (by rw [hLt, List.length_map]; simp; omega), hZ2, hLt, List.map_append]; rfl
  have b3 : stpD false (.lst Lt) (.int (-1)) = some (.lst R') := by rw [stpD_lst_r, hLt, hR, List.map_reverse]
  have b4 : biD .sorted false [.lst Lt] = some (.lst Ls) := by rw [hLt, hLs]; exact bi_sortS (by omega)
  have b5 : ∀ b, biD .lenSet b [.lst Lt] = some (.int ((nubS lot).length : Nat)) := fun b => by rw [hLt]; exact bi_lenSet b (by omega)
  have b6 : ∀ b, biD .len b [.lst Lt] = some (.int (lot.length : Nat)) := fun b => by rw [len_l, hLt, List.length_map]
  have c1 : cmpD .Eq (.lst Lt) (.lst Ls) = some (decide (lot = sortN lot)) := by rw [hLt, hLs]; exact cmp_eqL (f := D.str) _ _ (fun x _ y _ => eqN_s 22 x y)
  have c2 : cmpD .Eq (.int ((nubS lot).length : Nat)) (.int (lot.length : Nat)) = some (decide lot.Nodup) := by rw [cmp_eqI, lenSet_eq]
  have c3 : cmpD .NotEq (.lst Ot) (.lst Ot) = some false := by
    rw [hOt, cmp_neL (f := D.str) out out (fun x _ y _ => eqN_s 22 x y)]; simp
  have c4 : cmpD .NotEq (.lst It) (.lst It) = some false := by
    rw [hIt, cmp_neL (f := D.str) into into (fun x _ y _ => eqN_s 22 x y)]; simp
  have lc1 : ∀ x15, lcGo (lcF (run Pr (n + 3)) (.idx (.loc 15) (.con (.int 0))) [15] (.nm 15) [(.bo true [(.cmp .In (.idx (.loc 15) (.con (.int 1))) (.loc 7)), (.cmp .NotIn (.idx (.loc 15) (.con (.int 2))) (.loc 7))])]
      [a0, .val (.lst (nums.map D.int)), .val (.lst (ks.map D.str)), .val (.lst (ss.map tupS)), .val p, .val F, .val (.int (k : Nat)), .val (.lst Lt), x8', x9', .val (.bl (decide lot.Nodup && decide (lot = sortN lot))), .val (.bl (decide lot.Nodup && decide (lot = sortN lot))), x12, x13, x14, x15, x16]) (ss.map tupS) = .ok (((outS' ss lot).map St.name).map D.str) := fun x15 =>
    lcGo_filt2 fun s m => by
      rw [lcF_eq (env' := [a0, .val (.lst (nums.map D.int)), .val (.lst (ks.map D.str)), .val (.lst (ss.map tupS)), .val p, .val F, .val (.int (k : Nat)), .val (.lst Lt), x8', x9', .val (.bl (decide lot.Nodup && decide (lot = sortN lot))), .val (.bl (decide lot.Nodup && decide (lot = sortN lot))), x12, x13, x14, .val (tupS s), x16]) _ (by simp)]
      rw [hLt]
      by_cases h1 : s.tail ∈ lot <;> by_cases h2 : s.head ∈ lot <;> simp [tupS, h1, h2]
  have lc2 : ∀ x12 x15, lcGo (lcF (run Pr (n + 3)) (.idx (.loc 15) (.con (.int 0))) [15] (.nm 15) [(.bo true [(.cmp .In (.idx (.loc 15) (.con (.int 2))) (.loc 7)), (.cmp .NotIn (.idx (.loc 15) (.con (.int 1))) (.loc 7))])]
      [a0, .val (.lst (nums.map D.int)), .val (.lst (ks.map D.str)), .val (.lst (ss.map tupS)), .val p, .val F, .val (.int (k : Nat)), .val (.lst Lt), x8', x9', .val (.bl (decide lot.Nodup && decide (lot = sortN lot))), .val (.bl (decide lot.Nodup && decide (lot = sortN lot))), x12, x13, x14, x15, x16]) (ss.map tupS) = .ok (((intoS ss lot).map St.name).map D.str) := fun x12 x15 =>
    lcGo_filt2 fun s m => by
      rw [lcF_eq (env' := [a0, .val (.lst (nums.map D.int)), .val (.lst (ks.map D.str)), .val (.lst (ss.map tupS)), .val p, .val F, .val (.int (k : Nat)), .val (.lst Lt), x8', x9', .val (.bl (decide lot.Nodup && decide (lot = sortN lot))), .val (.bl (decide lot.Nodup && decide (lot = sortN lot))), x12, x13, x14, .val (tupS s), x16]) _ (by simp)]
      rw [hLt]
      by_cases h1 : s.tail ∈ lot <;> by_cases h2 : s.head ∈ lot <;> simp [tupS, h1, h2]
  have onames : ∀ x ∈ out, x ∈ ss.map St.name := fun x m => by
    rw [hout, sortN_mem] at m
    obtain ⟨s, hs, e⟩ := List.mem_map.mp m
    exact e ▸ List.mem_map_of_mem (List.mem_filter.mp hs).1
  have inames : ∀ x ∈ into, x ∈ ss.map St.name := fun x m => by
    rw [hinto, sortN_mem] at m
    obtain ⟨s, hs, e⟩ := List.mem_map.mp m
    exact e ▸ List.mem_map_of_mem (List.mem_filter.mp hs).1
  have s1 : biD .sorted false [.lst (((outS' ss lot).map St.name).map D.str)] = some (.lst Ot) := by
    rw [bi_sortS (by rw [List.length_map]; exact Nat.lt_of_le_of_lt (List.length_filter_le _ _) (by omega)), hOt, hout]; rfl
  have s2 : biD .sorted false [.lst (((intoS ss lot).map St.name).map D.str)] = some (.lst It) := by
    rw [bi_sortS (by rw [List.length_map]; exact Nat.lt_of_le_of_lt (List.length_filter_le _ _) (by omega)), hIt, hinto]; rfl
  have lc3 : ∀ (xs : List Str), (∀ x ∈ xs, x ∈ ss.map St.name) → ∀ x7 x8 x9 x10 x11 x12 x13 x14 x15 x16, lcGo (lcF (run Pr (n + 3)) (.idx (.loc 5) (.loc 16)) [16] (.nm 16) []
      [a0, .val (.lst (nums.map D.int)), .val (.lst (ks.map D.str)), .val (.lst (ss.map tupS)), .val p, .val F, .val (.int (k : Nat)), x7, x8, x9, x10, x11, x12, x13, x14, x15, x16]) (xs.map D.str) = .ok ((xs.map g).map D.int) := fun xs hx x7 x8 x9 x10 x11 x12 x13 x14 x15 x16 =>
    lcGo_map2 fun x m => by
      rw [lcF_eq (env' := [a0, .val (.lst (nums.map D.int)), .val (.lst (ks.map D.str)), .val (.lst (ss.map tupS)), .val p, .val F, .val (.int (k : Nat)), x7, x8, x9, x10, x11, x12, x13, x14, x15, .val (.str x)]) _ (by simp)]
      have := idx_i (g := g) (hx x m)
      rw [← hF] at this
      simp [this]
  have lco := lc3 out onames
  have lci := lc3 into inames
  rw [← hOt] at lco
  rw [← hIt] at lci
  have olen : Ot.length ≤ 16777216 := by
    rw [hOt, List.length_map, hout, (sortN_perm _).length_eq, List.length_map]
    exact Nat.le_trans (List.length_filter_le _ _) (by omega)
  have ilen : It.length ≤ 16777216 := by
    rw [hIt, List.length_map, hinto, (sortN_perm _).length_eq, List.length_map]
    exact Nat.le_trans (List.length_filter_le _ _) (by omega)
  have sums : (out.map g).sum = (into.map g).sum := by rw [hout, hinto]; exact bal_sorted hg lot
  rw [← hp, ← hLt] at i1
  rw [← hp, ← hZ1] at i2
  rw [← hp, ← hLt, ← hOt] at l1
  rw [← hp, ← hR, ← hIt] at l2
  rw [← hp, ← hLt] at r2
  rw [← hp, ← hZ2] at r1
  rw [← hp, ← hF, ← hLt] at el
  rw [← hp, ← hF]
  have i1 : run Pr (n + 3) "is_lot" [p, .lst Lt] = .ok (.bl (decide lot.Nodup && decide (lot = sortN lot))) := i1
  have i2 : run Pr (n + 3) "is_lot" [p, .lst Z1] = .ok (.bl false) := i2
  have l1 : run Pr (n + 3) "leaving" [p, .lst Lt] = .ok (.lst Ot) := l1
  have l2 : run Pr (n + 3) "coming_into" [p, .lst R'] = .ok (.lst It) := l2
  have hsl : ss.length ≤ 16777216 := by omega
  generalize decide lot.Nodup = q1 at i1 c2 lc1 lc2
  generalize decide (lot = sortN lot) = q2 at i1 c1 lc1 lc2
  obtain ⟨q, hq⟩ : ∃ q : Bool, q = (q1 && q2) := ⟨_, rfl⟩
  rw [← hq] at i1
  simp only [← hq] at lc1 lc2
  -- both kinds
  have kinds : ∀ x14 : Sl, ∃ x14' : Sl, forGo (bindT (.nm 14)) (exL (run Pr (n + 3)) 0 b3_law) ((List.range 2).map fun (i : Nat) => D.int (i : Nat))
      [a0, .val (.lst (nums.map D.int)), .val (.lst (ks.map D.str)), .val (.lst (ss.map tupS)), .val p, .val F, .val (.int (k : Nat)), .val (.lst Lt), x8', x9', .val (.bl q), .val (.bl q), .val (.lst Ot), .val (.lst It), x14, x15, x16] =
      .nx [a0, .val (.lst (nums.map D.int)), .val (.lst (ks.map D.str)), .val (.lst (ss.map tupS)), .val p, .val F, .val (.int (k : Nat)), .val (.lst Lt), x8', x9', .val (.bl q), .val (.bl q), .val (.lst Ot), .val (.lst It), x14', x15, x16] := fun x14 => by
    obtain ⟨env1, e1, x14', q9⟩ := forGo_rng (bind := bindT (.nm 14)) (body := exL (run Pr (n + 3)) 0 b3_law) (fun (i : Nat) => D.int (i : Nat))
      (fun i env => ∃ x14 : Sl, env = [a0, .val (.lst (nums.map D.int)), .val (.lst (ks.map D.str)), .val (.lst (ss.map tupS)), .val p, .val F, .val (.int (k : Nat)), .val (.lst Lt), x8', x9', .val (.bl q), .val (.bl q), .val (.lst Ot), .val (.lst It), x14, x15, x16]) 2 _ ⟨x14, rfl⟩ (by
        rintro j env hj ⟨x14, rfl⟩
        refine ⟨_, ?_, .val (.int (j : Nat)), rfl⟩
        simp [turn, b3_law, bor, kd, b2, r1, r2])
    subst q9
    exact ⟨x14', e1⟩
  obtain ⟨x14', ke⟩ := kinds x14
  have it2 : iterD .rng [.int 2] = some ((List.range 2).map fun (i : Nat) => D.int (i : Nat)) := rfl
  have itm := it_r1 (n := m) (by omega)
  have sum1 : ∀ b (xs : List Int), biD .sum b [.lst (xs.map D.int)] = some (.int xs.sum) := bi_sumL
  refine ⟨.val (.lst Lt), x8', x9', .val (.bl q), .val (.bl q), .val (.lst Ot), .val (.lst It), x14', ?_⟩
  simp only [b1_law]
  cases q1 <;> cases q2 <;> simp only [Bool.and_true, Bool.and_false, Bool.false_and, Bool.true_and, Bool.and_self] at hq <;> subst hq <;>
  simp [turn, bor, kd, ye, ← hm, bin_mod, itm, el, isDct, b1, b3, b4, b5, b6, c1, c2, c3, c4, i1, i2, l1, l2, lc1, lc2, s1, s2, hsl, lco, lci, olen, ilen, sums, it2, ke, sum1, -List.map_map, -len_l]
theorem law_true (ns : List Int) (hl : ns.length ≤ 63) (hb : ∀ z ∈ ns, Builtin.Int.intBits z ≤ 1048576) : run Law.Pr 8 "law" [.scr ns] = .ok (.bl true) := by
  obtain ⟨nums, hs, hn, e1⟩ := numbers_eq (P := Pr) rfl rfl 5 ns 100 (by decide) (by decide)
  have h100 : nums.length = 100 := by omega
  obtain ⟨ks, ss, d, hk7, hs10, e2⟩ := law_parts_eq (P := Pr) rfl 6 hs 0 7 10 (by decide) (by decide) (by decide) (by decide) (by decide) (by omega)
  have e3 := init_eq (P := Pr) (r1 := .raise "InvalidPlant" []) (r2 := .raise "InvalidPlant" []) (r3 := .raise "InvalidPlant" []) rfl rfl rfl rfl 4 d.parts
  obtain ⟨g, hg, e4⟩ := round_eq 6 hs (at' := 80) (by decide) (by omega) d.parts.sd (by have := d.nf.1; exact this)
  have k24' : (sortN ks).length ≤ 24 := by rw [(sortN_perm ks).length_eq]; exact d.parts.k2
  have i1 := is_lot_eq 5 (ks := sortN ks) (sortSt ss) [] k24'
  have i2 := is_lot_eq 5 (ks := sortN ks) (sortSt ss) (sortN ks) k24'
  have f1 : ([] : List Str) = (sortN ks).filter fun k => decide (k ∈ ([] : List Str)) := (List.filter_eq_nil_iff.mpr fun x _ => by simp).symm
  have f2 : sortN ks = (sortN ks).filter fun k => decide (k ∈ sortN ks) := (List.filter_eq_self.mpr fun x m => by simp [m]).symm
  rw [decide_eq_true f1] at i1
  rw [decide_eq_true f2] at i2
  obtain ⟨env1, l1, x6, x7, x8, x9, x10, x11, x12, x13, x14, q1⟩ := forGo_rng (bind := bindT (.nm 6)) (body := exL (run Pr 7) 0 b1_law) (fun (i : Nat) => D.int (i : Nat))
    (fun i env => ∃ x6 x7 x8 x9 x10 x11 x12 x13 x14 : Sl, env = [.val (.scr ns), .val (.lst (nums.map D.int)), .val (.lst (ks.map D.str)), .val (.lst (ss.map tupS)), .val (plantD (sortN ks) (sortSt ss)), .val (iD (ss.map St.name) g), x6, x7, x8, x9, x10, x11, x12, x13, x14, .no, .no]) 6
    [.val (.scr ns), .val (.lst (nums.map D.int)), .val (.lst (ks.map D.str)), .val (.lst (ss.map tupS)), .val (plantD (sortN ks) (sortSt ss)), .val (iD (ss.map St.name) g), .no, .no, .no, .no, .no, .no, .no, .no, .no, .no, .no] ⟨_, _, _, _, _, _, _, _, _, rfl⟩ (by
      rintro j env hj ⟨x6, x7, x8, x9, x10, x11, x12, x13, x14, rfl⟩
      obtain ⟨y7, y8, y9, y10, y11, y12, y13, y14, e⟩ := lot_turn 4 hs h100 d hg (.val (.scr ns)) j hj x6 x7 x8 x9 x10 x11 x12 x13 x14 .no .no
      exact ⟨_, .inl e, _, _, _, _, _, _, _, _, _, rfl⟩)
  subst q1
  have it6 : iterD .rng [.int 6] = some ((List.range 6).map fun (i : Nat) => D.int (i : Nat)) := rfl
  have so : biD .sorted false [.lst (ks.map D.str)] = some (.lst ((sortN ks).map D.str)) := bi_sortS (by have := d.parts.k2; omega)
  have nil : (.lst [] : D) = .lst (([] : List Str).map D.str) := rfl
  rw [run_succ (d := d_law) rfl]
  generalize plantD (sortN ks) (sortSt ss) = p at e3 i1 i2 l1
  generalize iD (ss.map St.name) g = F at e4 l1
  generalize (sortN ks).map D.str = Ks at i2 so
  simp only [d_law, ini, argE]
  simp only [List.map_nil] at i1
  simp [bor, kd, e1, e2, e3, e4, l1, it6, isDct, i1, so, i2]
end
end Law
/-! the row -/
namespace Law
open PySem PySem.Spec PyProof.Rows L2 PySem.SeqAt Mp
def top (i : Nat) : Stmt := PySem.Challenge.pw_metersure_k04_lots_and_borders.main.body.getD i (.Pass ⟨0, 0, 0, 0⟩)
abbrev st0 : Stmt := top 24
theorem sc0 : FnScope ["_law_script", "_law_numbers_here", "_law_knots", "_law_streams", "_law_plant", "_law_flows", "_law_k", "_law_lot", "_law_j", "_law_knot", "_law_sure", "_law_told", "_law_out", "_law_into", "_law_kind", "_law_stream", "_law_name"] ["_law_script"] (defScope st0) := ⟨rfl, rfl, rfl, by decide +kernel, rfl, by decide +kernel, by decide +kernel⟩
theorem ml0 : mL tb ["_law_script", "_law_numbers_here", "_law_knots", "_law_streams", "_law_plant", "_law_flows", "_law_k", "_law_lot", "_law_j", "_law_knot", "_law_sure", "_law_told", "_law_out", "_law_into", "_law_kind", "_law_stream", "_law_name"] (defScope st0) d_law.body (defBody st0) = true := by decide +kernel
theorem bd0 (kV doc pm : Value) (an : Option Addr) (cdv ct : Value) (us : List Value) (hl : us.length = (["_law_script"] : List Str).length) : bindArgs (PySem.W.fnOf "law" "law" (defArgs st0) (defBody st0) (defScope st0) .none kV doc pm an cdv ct) ⟨us, []⟩ = pure ((["_law_script"] : List Str).zip us) :=
  match us, hl with | [_], _ => rfl
abbrev st1 : Stmt := top 19
theorem sc1 : FnScope ["_law_script", "_law_many", "_law_cells", "_law_each", "_law_numbers_here", "_law_cell", "_law_number"] ["_law_script", "_law_many"] (defScope st1) := ⟨rfl, rfl, rfl, by decide +kernel, rfl, by decide +kernel, by decide +kernel⟩
theorem ml1 : mL tb ["_law_script", "_law_many", "_law_cells", "_law_each", "_law_numbers_here", "_law_cell", "_law_number"] (defScope st1) d_law_numbers.body (defBody st1) = true := by decide +kernel
theorem bd1 (kV doc pm : Value) (an : Option Addr) (cdv ct : Value) (us : List Value) (hl : us.length = (["_law_script", "_law_many"] : List Str).length) : bindArgs (PySem.W.fnOf "_law_numbers" "_law_numbers" (defArgs st1) (defBody st1) (defScope st1) .none kV doc pm an cdv ct) ⟨us, []⟩ = pure ((["_law_script", "_law_many"] : List Str).zip us) :=
  match us, hl with | [_, _], _ => rfl
abbrev st2 : Stmt := top 20
theorem sc2 : FnScope ["_law_numbers_here", "_law_at", "_law_many", "_law_more", "_law_base", "_law_knots", "_law_spread", "_law_streams", "_law_k", "_law_place", "_law_tail", "_law_head", "_law_low", "_law_high", "_law_name"] ["_law_numbers_here", "_law_at", "_law_many", "_law_more"] (defScope st2) := ⟨rfl, rfl, rfl, by decide +kernel, rfl, by decide +kernel, by decide +kernel⟩
theorem ml2 : mL tb ["_law_numbers_here", "_law_at", "_law_many", "_law_more", "_law_base", "_law_knots", "_law_spread", "_law_streams", "_law_k", "_law_place", "_law_tail", "_law_head", "_law_low", "_law_high", "_law_name"] (defScope st2) d_law_parts.body (defBody st2) = true := by decide +kernel
theorem bd2 (kV doc pm : Value) (an : Option Addr) (cdv ct : Value) (us : List Value) (hl : us.length = (["_law_numbers_here", "_law_at", "_law_many", "_law_more"] : List Str).length) : bindArgs (PySem.W.fnOf "_law_parts" "_law_parts" (defArgs st2) (defBody st2) (defScope st2) .none kV doc pm an cdv ct) ⟨us, []⟩ = pure ((["_law_numbers_here", "_law_at", "_law_many", "_law_more"] : List Str).zip us) :=
  match us, hl with | [_, _, _, _], _ => rfl
abbrev st3 : Stmt := inClass (top 13) 0
theorem sc3 : FnScope ["self", "knots", "streams", "stream"] ["self", "knots", "streams"] (defScope st3) := ⟨rfl, rfl, rfl, by decide +kernel, rfl, by decide +kernel, by decide +kernel⟩
theorem ml3 : mL tb ["self", "knots", "streams", "stream"] (defScope st3) d_Plant__init_.body (defBody st3) = true := by decide +kernel
theorem bd3 (kV doc pm : Value) (an : Option Addr) (cdv ct : Value) (us : List Value) (hl : us.length = (["self", "knots", "streams"] : List Str).length) : bindArgs (PySem.W.fnOf "__init__" "Plant.__init__" (defArgs st3) (defBody st3) (defScope st3) .none kV doc pm an cdv ct) ⟨us, []⟩ = pure ((["self", "knots", "streams"] : List Str).zip us) :=
  match us, hl with | [_, _, _], _ => rfl
abbrev st4 : Stmt := top 23
theorem sc4 : FnScope ["_law_streams", "_law_numbers_here", "_law_at", "_law_flows", "_law_stream", "_law_here", "_law_start", "_law_way", "_law_k", "_law_menu", "_law_step", "_law_name"] ["_law_streams", "_law_numbers_here", "_law_at"] (defScope st4) := ⟨rfl, rfl, rfl, by decide +kernel, rfl, by decide +kernel, by decide +kernel⟩
theorem ml4 : mL tb ["_law_streams", "_law_numbers_here", "_law_at", "_law_flows", "_law_stream", "_law_here", "_law_start", "_law_way", "_law_k", "_law_menu", "_law_step", "_law_name"] (defScope st4) d_law_round.body (defBody st4) = true := by decide +kernel
theorem bd4 (kV doc pm : Value) (an : Option Addr) (cdv ct : Value) (us : List Value) (hl : us.length = (["_law_streams", "_law_numbers_here", "_law_at"] : List Str).length) : bindArgs (PySem.W.fnOf "_law_round" "_law_round" (defArgs st4) (defBody st4) (defScope st4) .none kV doc pm an cdv ct) ⟨us, []⟩ = pure ((["_law_streams", "_law_numbers_here", "_law_at"] : List Str).zip us) :=
  match us, hl with | [_, _, _], _ => rfl
abbrev st5 : Stmt := top 14
theorem sc5 : FnScope ["plant", "lot", "knot"] ["plant", "lot"] (defScope st5) := ⟨rfl, rfl, rfl, by decide +kernel, rfl, by decide +kernel, by decide +kernel⟩
theorem ml5 : mL tb ["plant", "lot", "knot"] (defScope st5) d_is_lot.body (defBody st5) = true := by decide +kernel
theorem bd5 (kV doc pm : Value) (an : Option Addr) (cdv ct : Value) (us : List Value) (hl : us.length = (["plant", "lot"] : List Str).length) : bindArgs (PySem.W.fnOf "is_lot" "is_lot" (defArgs st5) (defBody st5) (defScope st5) .none kV doc pm an cdv ct) ⟨us, []⟩ = pure ((["plant", "lot"] : List Str).zip us) :=
  match us, hl with | [_, _], _ => rfl
abbrev st6 : Stmt := top 15
theorem sc6 : FnScope ["plant", "lot", "knot", "name", "tail", "head", "_"] ["plant", "lot"] (defScope st6) := ⟨rfl, rfl, rfl, by decide +kernel, rfl, by decide +kernel, by decide +kernel⟩
theorem ml6 : mL tb ["plant", "lot", "knot", "name", "tail", "head", "_"] (defScope st6) d_leaving.body (defBody st6) = true := by decide +kernel
theorem bd6 (kV doc pm : Value) (an : Option Addr) (cdv ct : Value) (us : List Value) (hl : us.length = (["plant", "lot"] : List Str).length) : bindArgs (PySem.W.fnOf "leaving" "leaving" (defArgs st6) (defBody st6) (defScope st6) .none kV doc pm an cdv ct) ⟨us, []⟩ = pure ((["plant", "lot"] : List Str).zip us) :=
  match us, hl with | [_, _], _ => rfl
abbrev st7 : Stmt := top 16
theorem sc7 : FnScope ["plant", "lot", "knot", "name", "tail", "head", "_"] ["plant", "lot"] (defScope st7) := ⟨rfl, rfl, rfl, by decide +kernel, rfl, by decide +kernel, by decide +kernel⟩
theorem ml7 : mL tb ["plant", "lot", "knot", "name", "tail", "head", "_"] (defScope st7) d_coming_into.body (defBody st7) = true := by decide +kernel
theorem bd7 (kV doc pm : Value) (an : Option Addr) (cdv ct : Value) (us : List Value) (hl : us.length = (["plant", "lot"] : List Str).length) : bindArgs (PySem.W.fnOf "coming_into" "coming_into" (defArgs st7) (defBody st7) (defScope st7) .none kV doc pm an cdv ct) ⟨us, []⟩ = pure ((["plant", "lot"] : List Str).zip us) :=
  match us, hl with | [_, _], _ => rfl
abbrev st8 : Stmt := top 22
theorem sc8 : FnScope ["_law_plant", "_law_kind", "_law_lot", "error"] ["_law_plant", "_law_kind", "_law_lot"] (defScope st8) := ⟨rfl, rfl, rfl, by decide +kernel, rfl, by decide +kernel, by decide +kernel⟩
theorem ml8 : mL tb ["_law_plant", "_law_kind", "_law_lot", "error"] (defScope st8) d_law_refused.body (defBody st8) = true := by decide +kernel
theorem bd8 (kV doc pm : Value) (an : Option Addr) (cdv ct : Value) (us : List Value) (hl : us.length = (["_law_plant", "_law_kind", "_law_lot"] : List Str).length) : bindArgs (PySem.W.fnOf "_law_refused" "_law_refused" (defArgs st8) (defBody st8) (defScope st8) .none kV doc pm an cdv ct) ⟨us, []⟩ = pure ((["_law_plant", "_law_kind", "_law_lot"] : List Str).zip us) :=
  match us, hl with | [_, _, _], _ => rfl
abbrev st9 : Stmt := top 18
theorem sc9 : FnScope ["_law_cell", "_law_many", "_law_row_here", "_law_rest", "_law_state", "_law_k"] ["_law_cell", "_law_many"] (defScope st9) := ⟨rfl, rfl, rfl, by decide +kernel, rfl, by decide +kernel, by decide +kernel⟩
theorem ml9 : mL tb ["_law_cell", "_law_many", "_law_row_here", "_law_rest", "_law_state", "_law_k"] (defScope st9) d_law_row.body (defBody st9) = true := by decide +kernel
theorem bd9 (kV doc pm : Value) (an : Option Addr) (cdv ct : Value) (us : List Value) (hl : us.length = (["_law_cell", "_law_many"] : List Str).length) : bindArgs (PySem.W.fnOf "_law_row" "_law_row" (defArgs st9) (defBody st9) (defScope st9) .none kV doc pm an cdv ct) ⟨us, []⟩ = pure ((["_law_cell", "_law_many"] : List Str).zip us) :=
  match us, hl with | [_, _], _ => rfl
abbrev st10 : Stmt := top 11
theorem sc10 : FnScope ["texts", "text"] ["texts"] (defScope st10) := ⟨rfl, rfl, rfl, by decide +kernel, rfl, by decide +kernel, by decide +kernel⟩
theorem ml10 : mL tb ["texts", "text"] (defScope st10) d_are_names.body (defBody st10) = true := by decide +kernel
theorem bd10 (kV doc pm : Value) (an : Option Addr) (cdv ct : Value) (us : List Value) (hl : us.length = (["texts"] : List Str).length) : bindArgs (PySem.W.fnOf "are_names" "are_names" (defArgs st10) (defBody st10) (defScope st10) .none kV doc pm an cdv ct) ⟨us, []⟩ = pure ((["texts"] : List Str).zip us) :=
  match us, hl with | [_], _ => rfl
abbrev st11 : Stmt := top 12
theorem sc11 : FnScope ["stream", "knots", "_", "tail", "head", "low", "high"] ["stream", "knots"] (defScope st11) := ⟨rfl, rfl, rfl, by decide +kernel, rfl, by decide +kernel, by decide +kernel⟩
theorem ml11 : mL tb ["stream", "knots", "_", "tail", "head", "low", "high"] (defScope st11) d_is_stream.body (defBody st11) = true := by decide +kernel
theorem bd11 (kV doc pm : Value) (an : Option Addr) (cdv ct : Value) (us : List Value) (hl : us.length = (["stream", "knots"] : List Str).length) : bindArgs (PySem.W.fnOf "is_stream" "is_stream" (defArgs st11) (defBody st11) (defScope st11) .none kV doc pm an cdv ct) ⟨us, []⟩ = pure ((["stream", "knots"] : List Str).zip us) :=
  match us, hl with | [_, _], _ => rfl
abbrev st12 : Stmt := inClass (top 13) 1
theorem sc12 : FnScope ["self"] ["self"] (defScope st12) := ⟨rfl, rfl, rfl, by decide +kernel, rfl, by decide +kernel, by decide +kernel⟩
theorem ml12 : mL tb ["self"] (defScope st12) d_Plant_knots.body (defBody st12) = true := by decide +kernel
theorem bd12 (kV doc pm : Value) (an : Option Addr) (cdv ct : Value) (us : List Value) (hl : us.length = (["self"] : List Str).length) : bindArgs (PySem.W.fnOf "knots" "Plant.knots" (defArgs st12) (defBody st12) (defScope st12) .none kV doc pm an cdv ct) ⟨us, []⟩ = pure ((["self"] : List Str).zip us) :=
  match us, hl with | [_], _ => rfl
abbrev st13 : Stmt := inClass (top 13) 5
theorem sc13 : FnScope ["self", "knot"] ["self", "knot"] (defScope st13) := ⟨rfl, rfl, rfl, by decide +kernel, rfl, by decide +kernel, by decide +kernel⟩
theorem ml13 : mL tb ["self", "knot"] (defScope st13) d_Plant_check_knot.body (defBody st13) = true := by decide +kernel
theorem bd13 (kV doc pm : Value) (an : Option Addr) (cdv ct : Value) (us : List Value) (hl : us.length = (["self", "knot"] : List Str).length) : bindArgs (PySem.W.fnOf "check_knot" "Plant.check_knot" (defArgs st13) (defBody st13) (defScope st13) .none kV doc pm an cdv ct) ⟨us, []⟩ = pure ((["self", "knot"] : List Str).zip us) :=
  match us, hl with | [_, _], _ => rfl
abbrev st14 : Stmt := inClass (top 13) 2
theorem sc14 : FnScope ["self"] ["self"] (defScope st14) := ⟨rfl, rfl, rfl, by decide +kernel, rfl, by decide +kernel, by decide +kernel⟩
theorem ml14 : mL tb ["self"] (defScope st14) d_Plant_streams.body (defBody st14) = true := by decide +kernel
theorem bd14 (kV doc pm : Value) (an : Option Addr) (cdv ct : Value) (us : List Value) (hl : us.length = (["self"] : List Str).length) : bindArgs (PySem.W.fnOf "streams" "Plant.streams" (defArgs st14) (defBody st14) (defScope st14) .none kV doc pm an cdv ct) ⟨us, []⟩ = pure ((["self"] : List Str).zip us) :=
  match us, hl with | [_], _ => rfl
abbrev st15 : Stmt := top 10
theorem sc15 : FnScope ["text", "sign"] ["text"] (defScope st15) := ⟨rfl, rfl, rfl, by decide +kernel, rfl, by decide +kernel, by decide +kernel⟩
theorem ml15 : mL tb ["text", "sign"] (defScope st15) d_is_name.body (defBody st15) = true := by decide +kernel
theorem bd15 (kV doc pm : Value) (an : Option Addr) (cdv ct : Value) (us : List Value) (hl : us.length = (["text"] : List Str).length) : bindArgs (PySem.W.fnOf "is_name" "is_name" (defArgs st15) (defBody st15) (defScope st15) .none kV doc pm an cdv ct) ⟨us, []⟩ = pure ((["text"] : List Str).zip us) :=
  match us, hl with | [_], _ => rfl
abbrev sx_UnknownKnot : Stmt := inClass (top 4) 0
theorem tx_UnknownKnot : ExiTxt sx_UnknownKnot "name" "name" := ⟨⟨_, _, _, _, _, _, _, _, _, _, _, _, rfl, rfl⟩, ⟨_, rfl, rfl⟩, rfl, rfl, rfl, by decide +kernel, by decide +kernel, rfl, rfl, rfl, rfl, by decide, by decide, by decide⟩
theorem bx_UnknownKnot (kV doc pm : Value) (an : Option Addr) (cdv ct : Value) (cc : Addr) (us : List Value) (hl : us.length = (["self", "name"] : List Str).length) : bindArgs (PySem.W.ksFn "__init__" "UnknownKnot.__init__" (defArgs sx_UnknownKnot) (defBody sx_UnknownKnot) (defScope sx_UnknownKnot) .none kV doc pm an cdv ct cc) ⟨us, []⟩ = pure ((["self", "name"] : List Str).zip us) :=
  match us, hl with | [_, _], _ => rfl
theorem all_mk {prog : Program} {w : World} {K : PySem.W.Frag} {h : Heap} {mg : Str → Option Value} {fa : Addr} (X : K.In h) (G : h.Ns mainGlobals mg) (hfa : mg "law" = some (.ref fa))
    {f0 f1 f2 f3 f4 f5 f6 f7 f8 f9 f10 f11 f12 f13 f14 f15 C_Plant : Addr}
    {od0 an0 od1 an1 od2 an2 od3 an3 od4 an4 od5 an5 od6 an6 od7 an7 od8 an8 od9 an9 od10 an10 od11 an11 od12 an12 od13 an13 od14 an14 od15 an15 : Option Addr}
    {sl0 sl1 sl2 sl3 sl4 sl5 sl6 sl7 sl8 sl9 sl10 sl11 sl12 sl13 sl14 sl15 : Array (Option Value)}
    {oc0 kV0 dc0 pm0 cd0 ct0 oc1 kV1 dc1 pm1 cd1 ct1 oc2 kV2 dc2 pm2 cd2 ct2 oc3 kV3 dc3 pm3 cd3 ct3 oc4 kV4 dc4 pm4 cd4 ct4 oc5 kV5 dc5 pm5 cd5 ct5 oc6 kV6 dc6 pm6 cd6 ct6 oc7 kV7 dc7 pm7 cd7 ct7 oc8 kV8 dc8 pm8 cd8 ct8 oc9 kV9 dc9 pm9 cd9 ct9 oc10 kV10 dc10 pm10 cd10 ct10 oc11 kV11 dc11 pm11 cd11 ct11 oc12 kV12 dc12 pm12 cd12 ct12 oc13 kV13 dc13 pm13 cd13 ct13 oc14 kV14 dc14 pm14 cd14 ct14 oc15 kV15 dc15 pm15 cd15 ct15 : Value}
    {pr12 pr14 : Addr}
    {tk_LETTERS tk_MOST_FLOW tk_MOST_KNOTS tk_MOST_STREAMS : Tok}
    {C_InvalidPlant C_UnknownKnot : Addr}
    {xf_UnknownKnot xcda_UnknownKnot xcc_UnknownKnot xN_UnknownKnot : Addr}
    {xnm_UnknownKnot xq_UnknownKnot xfile_UnknownKnot : Str}
    {xbase_UnknownKnot xbm_UnknownKnot : List Value}
    {xsn_UnknownKnot : List Str} {xsub_UnknownKnot : List Value} {xab_UnknownKnot : Bool} {xcol_UnknownKnot : Option Bool}
    {xdd_UnknownKnot xod_UnknownKnot xan_UnknownKnot xcdd_UnknownKnot xcld_UnknownKnot : Option Addr} {xk0_UnknownKnot xk1_UnknownKnot xk2_UnknownKnot xk3_UnknownKnot xk5_UnknownKnot : Option Value}
    {xoc_UnknownKnot xkV_UnknownKnot xdoc_UnknownKnot xpm_UnknownKnot xct_UnknownKnot xccl_UnknownKnot xclv_UnknownKnot : Value} {xosl_UnknownKnot xccs_UnknownKnot xcsl_UnknownKnot : Array (Option Value)} {xvs_UnknownKnot : Array Value} {xtf_UnknownKnot : Tok}
    (c_Plant : PySem.W.nsIn K mainGlobals "Plant" = some (some (.ref C_Plant)))
    (a0 : PySem.W.nsIn K mainGlobals "law" = some (some (.ref f0)))
    (l0 : K.lookup f0 = some ⟨oc0, od0, .func (PySem.W.fnOf "law" "law" (defArgs st0) (defBody st0) (defScope st0) .none kV0 dc0 pm0 an0 cd0 ct0), sl0⟩)
    (c0 : PySem.W.codeIn K cd0 "law" = true)
    (k0 : PySem.W.keepIn K (.ref f0) = true)
    (a1 : PySem.W.nsIn K mainGlobals "_law_numbers" = some (some (.ref f1)))
    (l1 : K.lookup f1 = some ⟨oc1, od1, .func (PySem.W.fnOf "_law_numbers" "_law_numbers" (defArgs st1) (defBody st1) (defScope st1) .none kV1 dc1 pm1 an1 cd1 ct1), sl1⟩)
    (c1 : PySem.W.codeIn K cd1 "_law_numbers" = true)
    (k1 : PySem.W.keepIn K (.ref f1) = true)
    (a2 : PySem.W.nsIn K mainGlobals "_law_parts" = some (some (.ref f2)))
    (l2 : K.lookup f2 = some ⟨oc2, od2, .func (PySem.W.fnOf "_law_parts" "_law_parts" (defArgs st2) (defBody st2) (defScope st2) .none kV2 dc2 pm2 an2 cd2 ct2), sl2⟩)
    (c2 : PySem.W.codeIn K cd2 "_law_parts" = true)
    (k2 : PySem.W.keepIn K (.ref f2) = true)
    (a3 : PySem.W.findIn K (.ref C_Plant) "__init__" = some (some (.ref f3)))
    (i3 : PySem.W.isFn K (.ref f3) = true)
    (l3 : K.lookup f3 = some ⟨oc3, od3, .func (PySem.W.fnOf "__init__" "Plant.__init__" (defArgs st3) (defBody st3) (defScope st3) .none kV3 dc3 pm3 an3 cd3 ct3), sl3⟩)
    (c3 : PySem.W.codeIn K cd3 "Plant.__init__" = true)
    (k3 : PySem.W.keepIn K (.ref f3) = true)
    (a4 : PySem.W.nsIn K mainGlobals "_law_round" = some (some (.ref f4)))
    (l4 : K.lookup f4 = some ⟨oc4, od4, .func (PySem.W.fnOf "_law_round" "_law_round" (defArgs st4) (defBody st4) (defScope st4) .none kV4 dc4 pm4 an4 cd4 ct4), sl4⟩)
    (c4 : PySem.W.codeIn K cd4 "_law_round" = true)
    (k4 : PySem.W.keepIn K (.ref f4) = true)
    (a5 : PySem.W.nsIn K mainGlobals "is_lot" = some (some (.ref f5)))
    (l5 : K.lookup f5 = some ⟨oc5, od5, .func (PySem.W.fnOf "is_lot" "is_lot" (defArgs st5) (defBody st5) (defScope st5) .none kV5 dc5 pm5 an5 cd5 ct5), sl5⟩)
    (c5 : PySem.W.codeIn K cd5 "is_lot" = true)
    (k5 : PySem.W.keepIn K (.ref f5) = true)
    (a6 : PySem.W.nsIn K mainGlobals "leaving" = some (some (.ref f6)))
    (l6 : K.lookup f6 = some ⟨oc6, od6, .func (PySem.W.fnOf "leaving" "leaving" (defArgs st6) (defBody st6) (defScope st6) .none kV6 dc6 pm6 an6 cd6 ct6), sl6⟩)
    (c6 : PySem.W.codeIn K cd6 "leaving" = true)
    (k6 : PySem.W.keepIn K (.ref f6) = true)
    (a7 : PySem.W.nsIn K mainGlobals "coming_into" = some (some (.ref f7)))
    (l7 : K.lookup f7 = some ⟨oc7, od7, .func (PySem.W.fnOf "coming_into" "coming_into" (defArgs st7) (defBody st7) (defScope st7) .none kV7 dc7 pm7 an7 cd7 ct7), sl7⟩)
    (c7 : PySem.W.codeIn K cd7 "coming_into" = true)
    (k7 : PySem.W.keepIn K (.ref f7) = true)
    (a8 : PySem.W.nsIn K mainGlobals "_law_refused" = some (some (.ref f8)))
    (l8 : K.lookup f8 = some ⟨oc8, od8, .func (PySem.W.fnOf "_law_refused" "_law_refused" (defArgs st8) (defBody st8) (defScope st8) .none kV8 dc8 pm8 an8 cd8 ct8), sl8⟩)
    (c8 : PySem.W.codeIn K cd8 "_law_refused" = true)
    (k8 : PySem.W.keepIn K (.ref f8) = true)
    (a9 : PySem.W.nsIn K mainGlobals "_law_row" = some (some (.ref f9)))
    (l9 : K.lookup f9 = some ⟨oc9, od9, .func (PySem.W.fnOf "_law_row" "_law_row" (defArgs st9) (defBody st9) (defScope st9) .none kV9 dc9 pm9 an9 cd9 ct9), sl9⟩)
    (c9 : PySem.W.codeIn K cd9 "_law_row" = true)
    (k9 : PySem.W.keepIn K (.ref f9) = true)
    (a10 : PySem.W.nsIn K mainGlobals "are_names" = some (some (.ref f10)))
    (l10 : K.lookup f10 = some ⟨oc10, od10, .func (PySem.W.fnOf "are_names" "are_names" (defArgs st10) (defBody st10) (defScope st10) .none kV10 dc10 pm10 an10 cd10 ct10), sl10⟩)
    (c10 : PySem.W.codeIn K cd10 "are_names" = true)
    (k10 : PySem.W.keepIn K (.ref f10) = true)
    (a11 : PySem.W.nsIn K mainGlobals "is_stream" = some (some (.ref f11)))
    (l11 : K.lookup f11 = some ⟨oc11, od11, .func (PySem.W.fnOf "is_stream" "is_stream" (defArgs st11) (defBody st11) (defScope st11) .none kV11 dc11 pm11 an11 cd11 ct11), sl11⟩)
    (c11 : PySem.W.codeIn K cd11 "is_stream" = true)
    (k11 : PySem.W.keepIn K (.ref f11) = true)
    (a12 : PySem.W.findIn K (.ref C_Plant) "knots" = some (some (.ref pr12)))
    (pg12 : PySem.W.specialIn K (.ref pr12) "__get__" = some (some (.builtin "property.__get__")))
    (pt12 : PySem.W.takesIn K (.ref pr12) = some true)
    (px12 : ∃ rest, PySem.W.recIn K pr12 "property" = some (.ref f12 :: rest))
    (l12 : K.lookup f12 = some ⟨oc12, od12, .func (PySem.W.fnOf "knots" "Plant.knots" (defArgs st12) (defBody st12) (defScope st12) .none kV12 dc12 pm12 an12 cd12 ct12), sl12⟩)
    (c12 : PySem.W.codeIn K cd12 "Plant.knots" = true)
    (k12 : PySem.W.keepIn K (.ref f12) = true)
    (a13 : PySem.W.findIn K (.ref C_Plant) "check_knot" = some (some (.ref f13)))
    (i13 : PySem.W.isFn K (.ref f13) = true)
    (l13 : K.lookup f13 = some ⟨oc13, od13, .func (PySem.W.fnOf "check_knot" "Plant.check_knot" (defArgs st13) (defBody st13) (defScope st13) .none kV13 dc13 pm13 an13 cd13 ct13), sl13⟩)
    (c13 : PySem.W.codeIn K cd13 "Plant.check_knot" = true)
    (k13 : PySem.W.keepIn K (.ref f13) = true)
    (a14 : PySem.W.findIn K (.ref C_Plant) "streams" = some (some (.ref pr14)))
    (pg14 : PySem.W.specialIn K (.ref pr14) "__get__" = some (some (.builtin "property.__get__")))
    (pt14 : PySem.W.takesIn K (.ref pr14) = some true)
    (px14 : ∃ rest, PySem.W.recIn K pr14 "property" = some (.ref f14 :: rest))
    (l14 : K.lookup f14 = some ⟨oc14, od14, .func (PySem.W.fnOf "streams" "Plant.streams" (defArgs st14) (defBody st14) (defScope st14) .none kV14 dc14 pm14 an14 cd14 ct14), sl14⟩)
    (c14 : PySem.W.codeIn K cd14 "Plant.streams" = true)
    (k14 : PySem.W.keepIn K (.ref f14) = true)
    (a15 : PySem.W.nsIn K mainGlobals "is_name" = some (some (.ref f15)))
    (l15 : K.lookup f15 = some ⟨oc15, od15, .func (PySem.W.fnOf "is_name" "is_name" (defArgs st15) (defBody st15) (defScope st15) .none kV15 dc15 pm15 an15 cd15 ct15), sl15⟩)
    (c15 : PySem.W.codeIn K cd15 "is_name" = true)
    (k15 : PySem.W.keepIn K (.ref f15) = true)
    (pg_Plant : PySem.W.plainGet K C_Plant Str.empty = true)
    (hd_Plant : PySem.W.hasDictIn K C_Plant = true)
    (po_Plant : PySem.W.plainOver K C_Plant = true)
    (sa_Plant : PySem.W.findIn K (.ref C_Plant) "__setattr__" = some (some (.builtin "object.__setattr__")))
    (mk_Plant : PySem.W.makesIn K C_Plant = true)
    (kc_Plant : PySem.W.keepIn K (.ref C_Plant) = true)
    (n_Plant__knots : PySem.W.findIn K (.ref C_Plant) "_knots" = some none)
    (n_Plant__streams : PySem.W.findIn K (.ref C_Plant) "_streams" = some none)
    (g_LETTERS : PySem.W.nsIn K mainGlobals "LETTERS" = some (some (.str "abcdefghijklmnopqrstuvwxyz0123456789" tk_LETTERS)))
    (g_MOST_FLOW : PySem.W.nsIn K mainGlobals "MOST_FLOW" = some (some (.int 1000000 tk_MOST_FLOW)))
    (g_MOST_KNOTS : PySem.W.nsIn K mainGlobals "MOST_KNOTS" = some (some (.int 24 tk_MOST_KNOTS)))
    (g_MOST_STREAMS : PySem.W.nsIn K mainGlobals "MOST_STREAMS" = some (some (.int 60 tk_MOST_STREAMS)))
    (x_sp : PySem.W.specialIn K (.builtin "object.__class__") "__get__" = some (some (.builtin "getset_descriptor.__get__")))
    (x_tk : PySem.W.takesIn K (.builtin "object.__class__") = some true)
    (x_so : PySem.W.nsIn K cStatics "thirdparty.any" = some none)
    (x_ns : PySem.W.nsIn K mainGlobals "super" = some none)
    (x_top : (prog.main.scope.names.lookup ("super" : Str)).isSome = false)
    (c_InvalidPlant : PySem.W.nsIn K mainGlobals "InvalidPlant" = some (some (.ref C_InvalidPlant)))
    (xkp_InvalidPlant : PySem.W.keepIn K (.ref C_InvalidPlant) = true)
    (xbs_InvalidPlant : PySem.W.subIn K (.ref C_InvalidPlant) (.type "BaseException") = some true)
    (xty_InvalidPlant : PySem.W.typeIn K (.ref C_InvalidPlant) = some (.type "type"))
    (xhd_InvalidPlant : PySem.W.hasDictIn K C_InvalidPlant = true)
    (xga_InvalidPlant : PySem.W.findIn K (.ref C_InvalidPlant) "__getattribute__" = some (some (.builtin "BaseException.__getattribute__")))
    (xgg_InvalidPlant : PySem.W.findIn K (.ref C_InvalidPlant) "__getattr__" = some none)
    (xcl_InvalidPlant : PySem.W.findIn K (.ref C_InvalidPlant) "__class__" = some (some (.builtin "object.__class__")))
    (xob_InvalidPlant : PySem.W.mroIn K C_InvalidPlant (.type "object") = some true)
    (xme_InvalidPlant : PySem.W.mroIn K C_InvalidPlant (.ref C_InvalidPlant) = some true)
    (c_UnknownKnot : PySem.W.nsIn K mainGlobals "UnknownKnot" = some (some (.ref C_UnknownKnot)))
    (xkp_UnknownKnot : PySem.W.keepIn K (.ref C_UnknownKnot) = true)
    (xbs_UnknownKnot : PySem.W.subIn K (.ref C_UnknownKnot) (.type "BaseException") = some true)
    (xty_UnknownKnot : PySem.W.typeIn K (.ref C_UnknownKnot) = some (.type "type"))
    (xhd_UnknownKnot : PySem.W.hasDictIn K C_UnknownKnot = true)
    (xga_UnknownKnot : PySem.W.findIn K (.ref C_UnknownKnot) "__getattribute__" = some (some (.builtin "BaseException.__getattribute__")))
    (xgg_UnknownKnot : PySem.W.findIn K (.ref C_UnknownKnot) "__getattr__" = some none)
    (xcl_UnknownKnot : PySem.W.findIn K (.ref C_UnknownKnot) "__class__" = some (some (.builtin "object.__class__")))
    (xob_UnknownKnot : PySem.W.mroIn K C_UnknownKnot (.type "object") = some true)
    (xme_UnknownKnot : PySem.W.mroIn K C_UnknownKnot (.ref C_UnknownKnot) = some true)
    (xs_InvalidPlant_UnknownKnot : PySem.W.subIn K (.ref C_InvalidPlant) (.ref C_UnknownKnot) = some false)
    (xs_UnknownKnot_UnknownKnot : PySem.W.subIn K (.ref C_UnknownKnot) (.ref C_UnknownKnot) = some true)
    (xe_InvalidPlant : PySem.W.excIn K C_InvalidPlant [.type "ValueError", .type "Exception", .type "BaseException", .type "object"] "ValueError.__new__" = true)
    (x1_UnknownKnot : K.lookup C_UnknownKnot = some (excClassObj xnm_UnknownKnot xq_UnknownKnot C_UnknownKnot xN_UnknownKnot xbase_UnknownKnot xbm_UnknownKnot true xsn_UnknownKnot xsub_UnknownKnot xab_UnknownKnot xcol_UnknownKnot xdd_UnknownKnot xk0_UnknownKnot xk1_UnknownKnot xk2_UnknownKnot xk3_UnknownKnot xk5_UnknownKnot "ValueError.__new__"))
    (x2_UnknownKnot : PySem.HandSPX.refsVE xbm_UnknownKnot = true)
    (x3_UnknownKnot : PySem.W.findIn K (.ref C_UnknownKnot) "__setattr__" = some (some (.builtin "object.__setattr__")))
    (x4_UnknownKnot : PySem.W.findIn K (.ref C_UnknownKnot) "__init__" = some (some (.ref xf_UnknownKnot)))
    (x5_UnknownKnot : PySem.W.typeIn K (.ref xf_UnknownKnot) = some (.type "function"))
    (x6_UnknownKnot : K.lookup xf_UnknownKnot = some ⟨xoc_UnknownKnot, xod_UnknownKnot, .func (PySem.W.ksFn "__init__" "UnknownKnot.__init__" (defArgs sx_UnknownKnot) (defBody sx_UnknownKnot) (defScope sx_UnknownKnot) .none xkV_UnknownKnot xdoc_UnknownKnot xpm_UnknownKnot xan_UnknownKnot (.ref xcda_UnknownKnot) xct_UnknownKnot xcc_UnknownKnot), xosl_UnknownKnot⟩)
    (x7_UnknownKnot : PySem.W.codeIn K (.ref xcda_UnknownKnot) "UnknownKnot.__init__" = true)
    (x8_UnknownKnot : K.lookup xcda_UnknownKnot = some ⟨xccl_UnknownKnot, xcdd_UnknownKnot, .fields xvs_UnknownKnot, xccs_UnknownKnot⟩)
    (x9_UnknownKnot : xvs_UnknownKnot[2]? = some (.str xfile_UnknownKnot xtf_UnknownKnot))
    (x10_UnknownKnot : ((prog.main.file : Str) == xfile_UnknownKnot) = true)
    (x11_UnknownKnot : K.lookup xcc_UnknownKnot = some ⟨xclv_UnknownKnot, xcld_UnknownKnot, .cell (some (.ref C_UnknownKnot)), xcsl_UnknownKnot⟩)
    (x12_UnknownKnot : PySem.W.findIn K (.ref C_UnknownKnot) "name" = some none)
    (x13_UnknownKnot : PySem.W.ks_superIn K C_UnknownKnot C_UnknownKnot "__init__" = some (some (.builtin "ValueError.__init__")))
    (x14_UnknownKnot : PySem.W.subIn K (.ref C_UnknownKnot) (.type "ValueError") = some true)
    (b_len : PySem.W.nsIn K mainGlobals "len" = some none)
    (b_abs : PySem.W.nsIn K mainGlobals "abs" = some none)
    (b_int : PySem.W.nsIn K mainGlobals "int" = some none)
    (b_str : PySem.W.nsIn K mainGlobals "str" = some none)
    (b_list : PySem.W.nsIn K mainGlobals "list" = some none)
    (b_tuple : PySem.W.nsIn K mainGlobals "tuple" = some none)
    (b_dict : PySem.W.nsIn K mainGlobals "dict" = some none)
    (b_sum : PySem.W.nsIn K mainGlobals "sum" = some none)
    (b_any : PySem.W.nsIn K mainGlobals "any" = some none)
    (b_all : PySem.W.nsIn K mainGlobals "all" = some none)
    (b_max : PySem.W.nsIn K mainGlobals "max" = some none)
    (b_min : PySem.W.nsIn K mainGlobals "min" = some none)
    (b_sorted : PySem.W.nsIn K mainGlobals "sorted" = some none)
    (b_set : PySem.W.nsIn K mainGlobals "set" = some none)
    (b_range : PySem.W.nsIn K mainGlobals "range" = some none)
    (b_enumerate : PySem.W.nsIn K mainGlobals "enumerate" = some none)
    (b_isinstance : PySem.W.nsIn K mainGlobals "isinstance" = some none)
    (b_zip : PySem.W.nsIn K mainGlobals "zip" = some none)
    (b_bool : PySem.W.nsIn K mainGlobals "bool" = some none) :
    ∃ fd : FuncData, (∀ (s : Shared) (v : Value), BindsTo s fd ⟨[v], []⟩ [("_law_script", v)]) ∧ ∀ base : Heap, K.In base → base.Ns mainGlobals mg → FnOk prog w K mg base (L2.CX prog w) (2 * 8) fa fd ["_law_script"] (spLaw K) := by
  have e := hfa.symm.trans (PySem.W.mg_of X G a0)
  cases e
  have q0 := fat_mk (st := st0) (d := d_law) l0 c0 k0 sc0 bd0 ml0 rfl rfl
  have q1 := fat_mk (st := st1) (d := d_law_numbers) l1 c1 k1 sc1 bd1 ml1 rfl rfl
  have q2 := fat_mk (st := st2) (d := d_law_parts) l2 c2 k2 sc2 bd2 ml2 rfl rfl
  have q3 := fat_mk (st := st3) (d := d_Plant__init_) l3 c3 k3 sc3 bd3 ml3 rfl rfl
  have q4 := fat_mk (st := st4) (d := d_law_round) l4 c4 k4 sc4 bd4 ml4 rfl rfl
  have q5 := fat_mk (st := st5) (d := d_is_lot) l5 c5 k5 sc5 bd5 ml5 rfl rfl
  have q6 := fat_mk (st := st6) (d := d_leaving) l6 c6 k6 sc6 bd6 ml6 rfl rfl
  have q7 := fat_mk (st := st7) (d := d_coming_into) l7 c7 k7 sc7 bd7 ml7 rfl rfl
  have q8 := fat_mk (st := st8) (d := d_law_refused) l8 c8 k8 sc8 bd8 ml8 rfl rfl
  have q9 := fat_mk (st := st9) (d := d_law_row) l9 c9 k9 sc9 bd9 ml9 rfl rfl
  have q10 := fat_mk (st := st10) (d := d_are_names) l10 c10 k10 sc10 bd10 ml10 rfl rfl
  have q11 := fat_mk (st := st11) (d := d_is_stream) l11 c11 k11 sc11 bd11 ml11 rfl rfl
  have q12 := fat_mk (st := st12) (d := d_Plant_knots) l12 c12 k12 sc12 bd12 ml12 rfl rfl
  have q13 := fat_mk (st := st13) (d := d_Plant_check_knot) l13 c13 k13 sc13 bd13 ml13 rfl rfl
  have q14 := fat_mk (st := st14) (d := d_Plant_streams) l14 c14 k14 sc14 bd14 ml14 rfl rfl
  have q15 := fat_mk (st := st15) (d := d_is_name) l15 c15 k15 sc15 bd15 ml15 rfl rfl
  have cl_Plant : Cls K C_Plant := ⟨pg_Plant, hd_Plant, po_Plant, sa_Plant⟩
  have xc_InvalidPlant : XFacts K C_InvalidPlant := ⟨xkp_InvalidPlant, xbs_InvalidPlant, xty_InvalidPlant, xhd_InvalidPlant, xga_InvalidPlant, xgg_InvalidPlant, xcl_InvalidPlant, xob_InvalidPlant, xme_InvalidPlant⟩
  have xc_UnknownKnot : XFacts K C_UnknownKnot := ⟨xkp_UnknownKnot, xbs_UnknownKnot, xty_UnknownKnot, xhd_UnknownKnot, xga_UnknownKnot, xgg_UnknownKnot, xcl_UnknownKnot, xob_UnknownKnot, xme_UnknownKnot⟩
  have m : ∀ base : Heap, MF prog w base K mg (tb.gd mg K) tb Pr := fun base => mf_of
    ⟨⟨rfl, _, d_law, PySem.W.mg_of X G a0, k0, rfl, rfl, _, _, q0⟩, ⟨rfl, _, d_law_numbers, PySem.W.mg_of X G a1, k1, rfl, rfl, _, _, q1⟩, ⟨rfl, _, d_law_parts, PySem.W.mg_of X G a2, k2, rfl, rfl, _, _, q2⟩, ⟨rfl, _, d_law_round, PySem.W.mg_of X G a4, k4, rfl, rfl, _, _, q4⟩, ⟨rfl, _, d_is_lot, PySem.W.mg_of X G a5, k5, rfl, rfl, _, _, q5⟩, ⟨rfl, _, d_leaving, PySem.W.mg_of X G a6, k6, rfl, rfl, _, _, q6⟩, ⟨rfl, _, d_coming_into, PySem.W.mg_of X G a7, k7, rfl, rfl, _, _, q7⟩, ⟨rfl, _, d_law_refused, PySem.W.mg_of X G a8, k8, rfl, rfl, _, _, q8⟩, ⟨rfl, _, d_law_row, PySem.W.mg_of X G a9, k9, rfl, rfl, _, _, q9⟩, ⟨rfl, _, d_are_names, PySem.W.mg_of X G a10, k10, rfl, rfl, _, _, q10⟩, ⟨rfl, _, d_is_stream, PySem.W.mg_of X G a11, k11, rfl, rfl, _, _, q11⟩, ⟨rfl, _, d_is_name, PySem.W.mg_of X G a15, k15, rfl, rfl, _, _, q15⟩, True.intro⟩
    ⟨⟨rfl, C_Plant, f3, d_Plant__init_, PySem.W.mg_of X G c_Plant, ⟨mk_Plant, a3, i3, kc_Plant⟩, rfl, rfl, _, _, q3⟩, True.intro⟩
    ⟨⟨rfl, C_Plant, f13, d_Plant_check_knot, PySem.W.mg_of X G c_Plant, cl_Plant, ⟨a13, i13, k13⟩, by decide +kernel, rfl, rfl, _, _, q13⟩, True.intro⟩
    ⟨⟨rfl, C_Plant, f12, pr12, d_Plant_knots, PySem.W.mg_of X G c_Plant, cl_Plant, ⟨a12, pg12, pt12, px12⟩, rfl, rfl, _, _, q12⟩, ⟨rfl, C_Plant, f14, pr14, d_Plant_streams, PySem.W.mg_of X G c_Plant, cl_Plant, ⟨a14, pg14, pt14, px14⟩, rfl, rfl, _, _, q14⟩, True.intro⟩
    ⟨⟨by decide +kernel, rfl, C_Plant, PySem.W.mg_of X G c_Plant, cl_Plant, ⟨n_Plant__knots, n_Plant__streams, True.intro⟩⟩, True.intro⟩
    ⟨⟨rfl, .str "abcdefghijklmnopqrstuvwxyz0123456789", _, PySem.W.mg_of X G g_LETTERS, ⟨_, rfl⟩, fun F => by unfold Rep; rfl⟩, ⟨rfl, .int 1000000, _, PySem.W.mg_of X G g_MOST_FLOW, ⟨_, rfl⟩, fun F => by unfold Rep; rfl⟩, ⟨rfl, .int 24, _, PySem.W.mg_of X G g_MOST_KNOTS, ⟨_, rfl⟩, fun F => by unfold Rep; rfl⟩, ⟨rfl, .int 60, _, PySem.W.mg_of X G g_MOST_STREAMS, ⟨_, rfl⟩, fun F => by unfold Rep; rfl⟩, True.intro⟩
    ⟨PySem.W.mg_none_of X G b_len, PySem.W.mg_none_of X G b_abs, PySem.W.mg_none_of X G b_int, PySem.W.mg_none_of X G b_str, PySem.W.mg_none_of X G b_list, PySem.W.mg_none_of X G b_tuple, PySem.W.mg_none_of X G b_dict, PySem.W.mg_none_of X G b_sum, PySem.W.mg_none_of X G b_any, PySem.W.mg_none_of X G b_all, PySem.W.mg_none_of X G b_max, PySem.W.mg_none_of X G b_min, PySem.W.mg_none_of X G b_sorted, PySem.W.mg_none_of X G b_set, PySem.W.mg_none_of X G b_range, PySem.W.mg_none_of X G b_enumerate, PySem.W.mg_none_of X G b_isinstance, PySem.W.mg_none_of X G b_zip, PySem.W.mg_none_of X G b_bool, True.intro⟩
    ⟨⟨C_InvalidPlant, PySem.W.mg_of X G c_InvalidPlant, excA_mk xc_InvalidPlant xe_InvalidPlant⟩, ⟨C_UnknownKnot, PySem.W.mg_of X G c_UnknownKnot, ⟨rfl, rfl⟩, excB_mk tx_UnknownKnot bx_UnknownKnot xc_UnknownKnot x1_UnknownKnot x2_UnknownKnot x3_UnknownKnot x4_UnknownKnot x5_UnknownKnot x6_UnknownKnot x7_UnknownKnot x8_UnknownKnot x9_UnknownKnot x10_UnknownKnot x11_UnknownKnot x12_UnknownKnot x13_UnknownKnot x14_UnknownKnot x_so x_ns x_top⟩, True.intro⟩
    ⟨⟨C_UnknownKnot, PySem.W.mg_of X G c_UnknownKnot, ⟨hnd_mk (PySem.W.mg_of X G c_UnknownKnot) xc_UnknownKnot xc_UnknownKnot xs_UnknownKnot_UnknownKnot x_sp x_tk, True.intro⟩, ⟨hnd_mk (PySem.W.mg_of X G c_InvalidPlant) xc_InvalidPlant xc_UnknownKnot xs_InvalidPlant_UnknownKnot x_sp x_tk, True.intro⟩⟩, True.intro⟩
  exact ⟨_, fun s v => .of_eq rfl, fun base _ _ => law_fn (n := 8) (m base) rfl rfl q0 law_true⟩
end Law
open PySem PySem.W PyProof.Rows
set_option maxRecDepth 100000 in
set_option maxHeartbeats 0 in
theorem PySem.Challenge.cw_metersure_k04_lots_and_borders_holds : PySem.Challenge.rw_metersure_k04_lots_and_borders.Holds := by
  w_on; o_law; k_head; (case hw => w_witness2)
  k_fill
  refine Mp.walk_law (l := PySem.Challenge.rw_metersure_k04_lots_and_borders) (n := 8) rfl rfl ⟨rfl, by decide, by decide⟩ (fun w h Y => PySem.W.kIn_of Y) ?F
  case F =>
    intro w mg fa h KX G hmg
    refine' Law.all_mk KX G hmg ?c_Plant ?a0 ?l0 ?c0 ?k0 ?a1 ?l1 ?c1 ?k1 ?a2 ?l2 ?c2 ?k2 ?a3 ?i3 ?l3 ?c3 ?k3 ?a4 ?l4 ?c4 ?k4 ?a5 ?l5 ?c5 ?k5 ?a6 ?l6 ?c6 ?k6 ?a7 ?l7 ?c7 ?k7 ?a8 ?l8 ?c8 ?k8 ?a9 ?l9 ?c9 ?k9 ?a10 ?l10 ?c10 ?k10 ?a11 ?l11 ?c11 ?k11 ?a12 ?pg12 ?pt12 ?px12 ?l12 ?c12 ?k12 ?a13 ?i13 ?l13 ?c13 ?k13 ?a14 ?pg14 ?pt14 ?px14 ?l14 ?c14 ?k14 ?a15 ?l15 ?c15 ?k15 ?pg_Plant ?hd_Plant ?po_Plant ?sa_Plant ?mk_Plant ?kc_Plant ?n_Plant__knots ?n_Plant__streams ?g_LETTERS ?g_MOST_FLOW ?g_MOST_KNOTS ?g_MOST_STREAMS ?x_sp ?x_tk ?x_so ?x_ns ?x_top ?c_InvalidPlant ?xkp_InvalidPlant ?xbs_InvalidPlant ?xty_InvalidPlant ?xhd_InvalidPlant ?xga_InvalidPlant ?xgg_InvalidPlant ?xcl_InvalidPlant ?xob_InvalidPlant ?xme_InvalidPlant ?c_UnknownKnot ?xkp_UnknownKnot ?xbs_UnknownKnot ?xty_UnknownKnot ?xhd_UnknownKnot ?xga_UnknownKnot ?xgg_UnknownKnot ?xcl_UnknownKnot ?xob_UnknownKnot ?xme_UnknownKnot ?xs_InvalidPlant_UnknownKnot ?xs_UnknownKnot_UnknownKnot ?xe_InvalidPlant ?x1_UnknownKnot ?x2_UnknownKnot ?x3_UnknownKnot ?x4_UnknownKnot ?x5_UnknownKnot ?x6_UnknownKnot ?x7_UnknownKnot ?x8_UnknownKnot ?x9_UnknownKnot ?x10_UnknownKnot ?x11_UnknownKnot ?x12_UnknownKnot ?x13_UnknownKnot ?x14_UnknownKnot ?b_len ?b_abs ?b_int ?b_str ?b_list ?b_tuple ?b_dict ?b_sum ?b_any ?b_all ?b_max ?b_min ?b_sorted ?b_set ?b_range ?b_enumerate ?b_isinstance ?b_zip ?b_bool
    (case c_Plant => k_is)
    (case a0 => k_is)
    (case l0 => k_is)
    (case c0 => k_is)
    (case k0 => k_is)
    (case a1 => k_is)
    (case l1 => k_is)
    (case c1 => k_is)
    (case k1 => k_is)
    (case a2 => k_is)
    (case l2 => k_is)
    (case c2 => k_is)
    (case k2 => k_is)
    (case a3 => k_is)
    (case i3 => k_is)
    (case l3 => k_is)
    (case c3 => k_is)
    (case k3 => k_is)
    (case a4 => k_is)
    (case l4 => k_is)
    (case c4 => k_is)
    (case k4 => k_is)
    (case a5 => k_is)
    (case l5 => k_is)
    (case c5 => k_is)
    (case k5 => k_is)
    (case a6 => k_is)
    (case l6 => k_is)
    (case c6 => k_is)
    (case k6 => k_is)
    (case a7 => k_is)
    (case l7 => k_is)
    (case c7 => k_is)
    (case k7 => k_is)
    (case a8 => k_is)
    (case l8 => k_is)
    (case c8 => k_is)
    (case k8 => k_is)
    (case a9 => k_is)
    (case l9 => k_is)
    (case c9 => k_is)
    (case k9 => k_is)
    (case a10 => k_is)
    (case l10 => k_is)
    (case c10 => k_is)
    (case k10 => k_is)
    (case a11 => k_is)
    (case l11 => k_is)
    (case c11 => k_is)
    (case k11 => k_is)
    (case a12 => k_is)
    (case pg12 => k_is)
    (case pt12 => k_is)
    (case px12 => exact ⟨_, by k_is⟩)
    (case l12 => k_is)
    (case c12 => k_is)
    (case k12 => k_is)
    (case a13 => k_is)
    (case i13 => k_is)
    (case l13 => k_is)
    (case c13 => k_is)
    (case k13 => k_is)
    (case a14 => k_is)
    (case pg14 => k_is)
    (case pt14 => k_is)
    (case px14 => exact ⟨_, by k_is⟩)
    (case l14 => k_is)
    (case c14 => k_is)
    (case k14 => k_is)
    (case a15 => k_is)
    (case l15 => k_is)
    (case c15 => k_is)
    (case k15 => k_is)
    (case pg_Plant => k_is)
    (case hd_Plant => k_is)
    (case po_Plant => k_is)
    (case sa_Plant => k_is)
    (case mk_Plant => k_is)
    (case kc_Plant => k_is)
    (case n_Plant__knots => k_is)
    (case n_Plant__streams => k_is)
    (case g_LETTERS => k_is)
    (case g_MOST_FLOW => k_is)
    (case g_MOST_KNOTS => k_is)
    (case g_MOST_STREAMS => k_is)
    (case x_sp => k_is)
    (case x_tk => k_is)
    (case x_so => k_is)
    (case x_ns => k_is)
    (case x_top => first | rfl | decide +kernel)
    (case c_InvalidPlant => k_is)
    (case xkp_InvalidPlant => k_is)
    (case xbs_InvalidPlant => k_is)
    (case xty_InvalidPlant => k_is)
    (case xhd_InvalidPlant => k_is)
    (case xga_InvalidPlant => k_is)
    (case xgg_InvalidPlant => k_is)
    (case xcl_InvalidPlant => k_is)
    (case xob_InvalidPlant => k_is)
    (case xme_InvalidPlant => k_is)
    (case c_UnknownKnot => k_is)
    (case xkp_UnknownKnot => k_is)
    (case xbs_UnknownKnot => k_is)
    (case xty_UnknownKnot => k_is)
    (case xhd_UnknownKnot => k_is)
    (case xga_UnknownKnot => k_is)
    (case xgg_UnknownKnot => k_is)
    (case xcl_UnknownKnot => k_is)
    (case xob_UnknownKnot => k_is)
    (case xme_UnknownKnot => k_is)
    (case xs_InvalidPlant_UnknownKnot => k_is)
    (case xs_UnknownKnot_UnknownKnot => k_is)
    (case xe_InvalidPlant => k_exc)
    (case x1_UnknownKnot => k_is)
    (case x2_UnknownKnot => first | rfl | decide +kernel)
    (case x3_UnknownKnot => k_is)
    (case x4_UnknownKnot => k_is)
    (case x5_UnknownKnot => k_is)
    (case x6_UnknownKnot => k_is)
    (case x7_UnknownKnot => k_is)
    (case x8_UnknownKnot => k_is)
    (case x9_UnknownKnot => rfl)
    (case x10_UnknownKnot => first | rfl | decide +kernel)
    (case x11_UnknownKnot => k_is)
    (case x12_UnknownKnot => k_is)
    (case x13_UnknownKnot => ks_is)
    (case x14_UnknownKnot => k_is)
    (case b_len => k_is)
    (case b_abs => k_is)
    (case b_int => k_is)
    (case b_str => k_is)
    (case b_list => k_is)
    (case b_tuple => k_is)
    (case b_dict => k_is)
    (case b_sum => k_is)
    (case b_any => k_is)
    (case b_all => k_is)
    (case b_max => k_is)
    (case b_min => k_is)
    (case b_sorted => k_is)
    (case b_set => k_is)
    (case b_range => k_is)
    (case b_enumerate => k_is)
    (case b_isinstance => k_is)
    (case b_zip => k_is)
    (case b_bool => k_is)
