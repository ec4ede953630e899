import PyProof.Rows.All
import Wide.All
import OpenK.AllK
import Wide.FinOn
import HandS.ForMost
import HandS.ForExc
import HandS.IsInst
import HandS.TupAny
import HandS.Zip
import KE.KExcSuper
import HandS.Style
import HandS.DictComp
import HandS.WordsDict
import HandS.Conv
import KE.SortData
import HandS.TupLe
import KE.KSortTupAny
import PySem.Challenge.RW_dragtold_k07_turns
set_option Elab.async false
set_option linter.all false
set_option maxRecDepth 100000
set_option maxHeartbeats 4000000
/-! VS1: data by value, what stands for it in the tracked memory, and how that is kept. -/
namespace VS
open PySem PySem.Spec PyProof.Rows L2

/-- data by value; the first flag of a list, dict, object: it is the holder's own (may be changed) -/
inductive D where
  | un | non | bl (b : Bool) | int (i : Int) | str (x : Str)
  | tup (ds : List D)
  | rol (ds : List D)
  | lst (m : Bool) (ds : List D)
  | dic (m : Bool) (ks ds : List D)
  | obj (m : Bool) (c : Str) (ns : List Str) (ds : List D)

/-- a set of addresses -/
abbrev AS := Addr → Prop
def Sub (A B : AS) : Prop := ∀ a, A a → B a
def Dj (A B : AS) : Prop := ∀ a, A a → B a → False
abbrev E0 : AS := fun _ => False
abbrev But (A : AS) (a : Addr) : AS := fun b => A b ∧ b ≠ a

/-- a dict's keys and values at a, as they stand -/
def DicO (o : HO) (kx xs : List V) : Prop := ∃ kvs : List (Key × V), o = .dK kvs ∧ kx = kvs.map (fun p => kV p.1) ∧ xs = kvs.map (·.2)

/-- a list that never changes again; one that may be the module's own -/
def FzL (H : Hp) (a : Addr) (xs : List V) : Prop := ∃ o, H a = some (.frz o (.lst xs))
def RoL (K : PySem.W.Frag) (H : Hp) (a : Addr) (xs : List V) : Prop :=
  FzL H a xs ∨
    ∃ (o : Obj) (its : Array Value) (n : Nat), K.lookup a = some o ∧ o.cls = .type "list" ∧ o.dict = none ∧ o.data = .seq its n ∧ its.size ≤ sizeLine ∧ Vals xs its.toList
theorem FzL.sq {K : PySem.W.Frag} {H : Hp} {a : Addr} {xs : List V} (h : FzL H a xs) : SqL K H a xs := by
  obtain ⟨o, h⟩ := h
  exact .inl (.inr ⟨o, h⟩)
theorem RoL.sq {K : PySem.W.Frag} {H : Hp} {a : Addr} {xs : List V} (h : RoL K H a xs) : SqL K H a xs := by
  rcases h with h | h
  · exact h.sq
  · exact .inr h

mutual
def Rep (K : PySem.W.Frag) (mg : Str → Option Value) (H : Hp) : D → V → AS → Prop
  | .un, _, _ => True
  | .non, v, _ => v = .non
  | .bl b, v, _ => v = .bl b
  | .int i, v, _ => v = .int i
  | .str x, v, _ => v = .str x
  | .tup ds, v, A => ∃ a xs, v = .ref a ∧ SqT K H a xs ∧ Reps K mg H ds xs A
  | .rol ds, v, _ => ∃ a xs, v = .ref a ∧ RoL K H a xs ∧ Reps K mg H ds xs E0
  | .lst true ds, v, A => ∃ a xs, v = .ref a ∧ H a = some (.lst xs) ∧ A a ∧ Reps K mg H ds xs (But A a)
  | .lst false ds, v, _ => ∃ a xs, v = .ref a ∧ FzL H a xs ∧ Reps K mg H ds xs E0
  | .dic true ks ds, v, A => ∃ a o kx xs, v = .ref a ∧ H a = some o ∧ DicO o kx xs ∧ A a ∧ Reps K mg H ks kx E0 ∧ Reps K mg H ds xs (But A a)
  | .dic false ks ds, v, _ => ∃ a ob o kx xs, v = .ref a ∧ H a = some (.frz ob o) ∧ DicO o kx xs ∧ Reps K mg H ks kx E0 ∧ Reps K mg H ds xs E0
  | .obj true c ns ds, v, A => ∃ a C dx fs, v = .ref a ∧ mg c = some (.ref C) ∧ H a = some (.ins C dx fs) ∧ A a ∧ fs.map (·.1) = ns ∧ Reps K mg H ds (fs.map (·.2)) (But A a)
  | .obj false c ns ds, v, _ => ∃ a C dx fs o, v = .ref a ∧ mg c = some (.ref C) ∧ H a = some (.frz o (.ins C dx fs)) ∧ fs.map (·.1) = ns ∧ Reps K mg H ds (fs.map (·.2)) E0
def Reps (K : PySem.W.Frag) (mg : Str → Option Value) (H : Hp) : List D → List V → AS → Prop
  | [], xs, _ => xs = []
  | d :: ds, xs, A => ∃ x ys A1 A2, xs = x :: ys ∧ Sub A1 A ∧ Sub A2 A ∧ Dj A1 A2 ∧ Rep K mg H d x A1 ∧ Reps K mg H ds ys A2
end

section
variable {K : PySem.W.Frag} {mg : Str → Option Value} {H H' : Hp}
theorem Sub.rfl {A : AS} : Sub A A := fun _ h => h
theorem Sub.trans {A B C : AS} (h : Sub A B) (g : Sub B C) : Sub A C := fun a x => g a (h a x)
theorem Sub.e0 {A : AS} : Sub E0 A := fun _ h => h.elim
theorem Sub.but {A B : AS} {a : Addr} (h : Sub A B) : Sub (But A a) (But B a) := fun b x => ⟨h b x.1, x.2⟩
theorem Dj.e0 {A : AS} : Dj E0 A := fun _ h => h.elim
theorem Dj.e0r {A : AS} : Dj A E0 := fun _ _ h => h.elim
theorem Dj.symm {A B : AS} (h : Dj A B) : Dj B A := fun a x y => h a y x
theorem Dj.sub {A B C E : AS} (h : Dj A B) (f : Sub C A) (g : Sub E B) : Dj C E := fun a x y => h a (f a x) (g a y)

/-- more room -/
theorem Reps.mono {ds : List D} {xs : List V} {A B : AS} (h : Reps K mg H ds xs A) (s : Sub A B) : Reps K mg H ds xs B := by
  cases ds with
  | nil => exact h
  | cons d ds =>
    obtain ⟨x, ys, A1, A2, e, s1, s2, j, h1, h2⟩ := h
    exact ⟨x, ys, A1, A2, e, s1.trans s, s2.trans s, j, h1, h2⟩
theorem Rep.mono {d : D} {v : V} {A B : AS} (h : Rep K mg H d v A) (s : Sub A B) : Rep K mg H d v B := by
  cases d with
  | un => trivial
  | non => exact h
  | bl => exact h
  | int => exact h
  | str => exact h
  | tup ds => obtain ⟨a, xs, e, q, r⟩ := h; exact ⟨a, xs, e, q, r.mono s⟩
  | rol ds => exact h
  | lst m ds =>
    cases m with
    | true => obtain ⟨a, xs, e, q, i, r⟩ := h; exact ⟨a, xs, e, q, s a i, r.mono s.but⟩
    | false => exact h
  | dic m ks ds =>
    cases m with
    | true => obtain ⟨a, o, kx, xs, e, q, z, i, rk, r⟩ := h; exact ⟨a, o, kx, xs, e, q, z, s a i, rk, r.mono s.but⟩
    | false => exact h
  | obj m c ns ds =>
    cases m with
    | true => obtain ⟨a, C, dx, fs, e, q, z, i, n, r⟩ := h; exact ⟨a, C, dx, fs, e, q, z, s a i, n, r.mono s.but⟩
    | false => exact h

/-- what never changes again -/
def Fix : HO → Prop
  | .tup _ => True
  | .frz _ _ => True
  | _ => False
/-- what is in A, and what never changes again, is kept -/
def Kp (A : AS) (H H' : Hp) : Prop := ∀ a o, H a = some o → (A a ∨ Fix o) → H' a = some o
theorem Kp.sub {A B : AS} (k : Kp A H H') (s : Sub B A) : Kp B H H' := fun a o e h => k a o e (h.elim (fun x => .inl (s a x)) .inr)
theorem Kp.fz {A : AS} (k : Kp A H H') : Kp E0 H H' := k.sub Sub.e0
theorem Kp.tupT {A : AS} (k : Kp A H H') {a : Addr} {xs : List V} (h : SqT K H a xs) : SqT K H' a xs := by
  rcases h with (h | ⟨o, h⟩) | h
  · exact .inl (.inl (k a _ h (.inr trivial)))
  · exact .inl (.inr ⟨o, k a _ h (.inr trivial)⟩)
  · exact .inr h
theorem Kp.fzL {A : AS} (k : Kp A H H') {a : Addr} {xs : List V} (h : FzL H a xs) : FzL H' a xs := by
  obtain ⟨o, h⟩ := h
  exact ⟨o, k a _ h (.inr trivial)⟩
theorem Kp.roL {A : AS} (k : Kp A H H') {a : Addr} {xs : List V} (h : RoL K H a xs) : RoL K H' a xs := by
  rcases h with h | h
  · exact .inl (k.fzL h)
  · exact .inr h
mutual
theorem Rep.keep : ∀ (d : D) {v : V} {A : AS}, Rep K mg H d v A → Kp A H H' → Rep K mg H' d v A
  | .un, _, _, _, _ => trivial
  | .non, _, _, h, _ => h
  | .bl _, _, _, h, _ => h
  | .int _, _, _, h, _ => h
  | .str _, _, _, h, _ => h
  | .tup ds, _, _, ⟨a, xs, e, q, r⟩, k => ⟨a, xs, e, k.tupT q, Reps.keep ds r k⟩
  | .rol ds, _, _, ⟨a, xs, e, q, r⟩, k => ⟨a, xs, e, k.roL q, Reps.keep ds r k.fz⟩
  | .lst true ds, _, _, ⟨a, xs, e, q, i, r⟩, k => ⟨a, xs, e, k a _ q (.inl i), i, Reps.keep ds r (k.sub fun _ h => h.1)⟩
  | .lst false ds, _, _, ⟨a, xs, e, q, r⟩, k => ⟨a, xs, e, k.fzL q, Reps.keep ds r k.fz⟩
  | .dic true ks ds, _, _, ⟨a, o, kx, xs, e, q, z, i, rk, r⟩, k => ⟨a, o, kx, xs, e, k a _ q (.inl i), z, i, Reps.keep ks rk k.fz, Reps.keep ds r (k.sub fun _ h => h.1)⟩
  | .dic false ks ds, _, _, ⟨a, ob, o, kx, xs, e, q, z, rk, r⟩, k => ⟨a, ob, o, kx, xs, e, k a _ q (.inr trivial), z, Reps.keep ks rk k.fz, Reps.keep ds r k.fz⟩
  | .obj true c ns ds, _, _, ⟨a, C, dx, fs, e, q, z, i, n, r⟩, k => ⟨a, C, dx, fs, e, q, k a _ z (.inl i), i, n, Reps.keep ds r (k.sub fun _ h => h.1)⟩
  | .obj false c ns ds, _, _, ⟨a, C, dx, fs, o, e, q, z, n, r⟩, k => ⟨a, C, dx, fs, o, e, q, k a _ z (.inr trivial), n, Reps.keep ds r k.fz⟩
theorem Reps.keep : ∀ (ds : List D) {xs : List V} {A : AS}, Reps K mg H ds xs A → Kp A H H' → Reps K mg H' ds xs A
  | [], _, _, h, _ => h
  | d :: ds, _, _, ⟨x, ys, A1, A2, e, s1, s2, j, h1, h2⟩, k => ⟨x, ys, A1, A2, e, s1, s2, j, Rep.keep d h1 (k.sub s1), Reps.keep ds h2 (k.sub s2)⟩
end
end

/-! ### freezing -/
mutual
def fz : D → D
  | .un => .un
  | .non => .non
  | .bl b => .bl b
  | .int i => .int i
  | .str x => .str x
  | .tup ds => .tup (fzs ds)
  | .rol ds => .rol ds
  | .lst _ ds => .lst false (fzs ds)
  | .dic _ ks ds => .dic false ks (fzs ds)
  | .obj _ c ns ds => .obj false c ns (fzs ds)
def fzs : List D → List D
  | [] => []
  | d :: ds => fz d :: fzs ds
end
/-! nothing in it may be changed -/
mutual
def pure? : D → Bool
  | .un => true
  | .non => true
  | .bl _ => true
  | .int _ => true
  | .str _ => true
  | .tup ds => pures? ds
  | .rol _ => true
  | .lst m _ => !m
  | .dic m _ _ => !m
  | .obj m _ _ _ => !m
def pures? : List D → Bool
  | [] => true
  | d :: ds => pure? d && pures? ds
end
section
variable {K : PySem.W.Frag} {mg : Str → Option Value} {H H' : Hp}
mutual
/-- what is fixed holds no room -/
theorem Rep.fixed : ∀ (d : D) {v : V} {A : AS}, pure? d = true → Rep K mg H d v A → Rep K mg H d v E0
  | .un, _, _, _, _ => trivial
  | .non, _, _, _, h => h
  | .bl _, _, _, _, h => h
  | .int _, _, _, _, h => h
  | .str _, _, _, _, h => h
  | .tup ds, _, _, p, ⟨a, xs, e, q, r⟩ => ⟨a, xs, e, q, Reps.fixed ds (by simpa [pure?] using p) r⟩
  | .rol ds, _, _, _, h => h
  | .lst true ds, _, _, p, _ => by simp [pure?] at p
  | .lst false ds, _, _, _, h => h
  | .dic true ks ds, _, _, p, _ => by simp [pure?] at p
  | .dic false ks ds, _, _, _, h => h
  | .obj true c ns ds, _, _, p, _ => by simp [pure?] at p
  | .obj false c ns ds, _, _, _, h => h
theorem Reps.fixed : ∀ (ds : List D) {xs : List V} {A : AS}, pures? ds = true → Reps K mg H ds xs A → Reps K mg H ds xs E0
  | [], _, _, _, h => h
  | d :: ds, _, _, p, ⟨x, ys, A1, A2, e, s1, s2, j, h1, h2⟩ => by
    have p1 : pure? d = true ∧ pures? ds = true := by simpa [pures?] using p
    exact ⟨x, ys, E0, E0, e, Sub.e0, Sub.e0, Dj.e0, Rep.fixed d p1.1 h1, Reps.fixed ds p1.2 h2⟩
end
/-- the objects of A are frozen in H' -/
structure Frz (A : AS) (H H' : Hp) : Prop where
  inn : ∀ a u, A a → H a = some u → Mut (some u) → ∃ o, H' a = some (.frz o u)
  out : ∀ a, ¬ A a → H' a = H a
  fix : ∀ a o, H a = some o → Fix o → H' a = some o
theorem mut_dic {o : HO} {kx xs : List V} (z : DicO o kx xs) : Mut (some o) := by
  obtain ⟨kvs, rfl, _⟩ := z
  trivial
theorem Frz.tupT {A : AS} (k : Frz A H H') {a : Addr} {xs : List V} (h : SqT K H a xs) : SqT K H' a xs := by
  rcases h with (h | ⟨o, h⟩) | h
  · exact .inl (.inl (k.fix a _ h trivial))
  · exact .inl (.inr ⟨o, k.fix a _ h trivial⟩)
  · exact .inr h
theorem Frz.kp {A : AS} (k : Frz A H H') : Kp (fun a => ¬ A a) H H' := fun a o e h => h.elim (fun n => (k.out a n).trans e) fun f => k.fix a o e f
mutual
theorem Rep.frz {A : AS} (f : Frz A H H') : ∀ (d : D) {v : V} {B : AS}, Rep K mg H d v B → Sub B A → Rep K mg H' (fz d) v E0
  | .un, _, _, _, _ => trivial
  | .non, _, _, h, _ => h
  | .bl _, _, _, h, _ => h
  | .int _, _, _, h, _ => h
  | .str _, _, _, h, _ => h
  | .tup ds, _, _, ⟨a, xs, e, q, r⟩, s => ⟨a, xs, e, f.tupT q, Reps.frz f ds r s⟩
  | .rol ds, _, _, ⟨a, xs, e, q, r⟩, s => ⟨a, xs, e, f.kp.roL q, Reps.keep ds r f.kp.fz⟩
  | .lst true ds, _, _, ⟨a, xs, e, q, i, r⟩, s => by
    obtain ⟨o, ho⟩ := f.inn a _ (s a i) q trivial
    exact ⟨a, xs, e, ⟨o, ho⟩, Reps.frz f ds r fun b h => s b h.1⟩
  | .lst false ds, _, _, ⟨a, xs, e, q, r⟩, s => ⟨a, xs, e, f.kp.fzL q, Reps.frz f ds r Sub.e0⟩
  | .dic true ks ds, _, _, ⟨a, o, kx, xs, e, q, z, i, rk, r⟩, s => by
    obtain ⟨ob, ho⟩ := f.inn a _ (s a i) q (mut_dic z)
    exact ⟨a, ob, o, kx, xs, e, ho, z, Reps.keep ks rk f.kp.fz, Reps.frz f ds r fun b h => s b h.1⟩
  | .dic false ks ds, _, _, ⟨a, ob, o, kx, xs, e, q, z, rk, r⟩, s => ⟨a, ob, o, kx, xs, e, f.fix a _ q trivial, z, Reps.keep ks rk f.kp.fz, Reps.frz f ds r Sub.e0⟩
  | .obj true c ns ds, _, _, ⟨a, C, dx, fs, e, q, z, i, n, r⟩, s => by
    obtain ⟨o, ho⟩ := f.inn a _ (s a i) z trivial
    exact ⟨a, C, dx, fs, o, e, q, ho, n, Reps.frz f ds r fun b h => s b h.1⟩
  | .obj false c ns ds, _, _, ⟨a, C, dx, fs, o, e, q, z, n, r⟩, s => ⟨a, C, dx, fs, o, e, q, f.fix a _ z trivial, n, Reps.frz f ds r Sub.e0⟩
theorem Reps.frz {A : AS} (f : Frz A H H') : ∀ (ds : List D) {xs : List V} {B : AS}, Reps K mg H ds xs B → Sub B A → Reps K mg H' (fzs ds) xs E0
  | [], _, _, h, _ => h
  | d :: ds, _, _, ⟨x, ys, A1, A2, e, s1, s2, j, h1, h2⟩, s => ⟨x, ys, E0, E0, e, Sub.e0, Sub.e0, Dj.e0, Rep.frz f d h1 (s1.trans s), Reps.frz f ds h2 (s2.trans s)⟩
end
end
/-- the memory with the objects of A frozen, as they stand in h -/
noncomputable def frzH (A : AS) (h : Heap) (H : Hp) : Hp := fun a =>
  open Classical in
  if A a ∧ Mut (H a) then (match H a, h.get? a with | some u, some o => some (.frz o u) | x, _ => x) else H a
section
variable {P : Program} {w : World} {H : Hp} {h : Heap}
theorem frzH_cases (ok : HOk P w H h) (A : AS) (a : Addr) : frzH A h H a = H a ∨ ∃ u o, H a = some u ∧ Mut (some u) ∧ h.get? a = some o ∧ frzH A h H a = some (.frz o u) ∧ A a := by
  unfold frzH
  by_cases c : A a ∧ Mut (H a)
  · rw [if_pos c]
    cases e : H a with
    | none => simp
    | some u =>
      obtain ⟨o, ho⟩ := objOk_get (ok a u e)
      rw [ho]
      refine .inr ⟨u, o, rfl, ?_, rfl, rfl, c.1⟩
      rw [← e]; exact c.2
  · rw [if_neg c]; exact .inl rfl
theorem frzH_frz (ok : HOk P w H h) (A : AS) : Frz A H (frzH A h H) where
  inn := fun a u ha e m => by
    obtain ⟨o, ho⟩ := objOk_get (ok a u e)
    refine ⟨o, ?_⟩
    unfold frzH
    rw [if_pos ⟨ha, by rw [e]; exact m⟩, e, ho]
  out := fun a na => by unfold frzH; rw [if_neg fun c => na c.1]
  fix := fun a o e f => by
    have nm : ¬ Mut (H a) := by rw [e]; cases o <;> first | exact fun z => z | exact f.elim
    unfold frzH
    rw [if_neg fun c => nm c.2, e]
/-- a frozen memory is held -/
theorem frz_ok (ok : HOk P w H h) (A : AS) : HOk P w (frzH A h H) h := fun a u e => by
  have ho : ∀ b x, H b = some (.own x) → frzH A h H b = some (.own x) := fun b x q => by
    unfold frzH
    rw [if_neg (fun c => by have := c.2; rw [q] at this; exact this), q]
  have ht : ∀ b xs, H b = some (.tup xs) → frzH A h H b = some (.tup xs) := fun b xs q => (frzH_frz ok A).fix b _ q trivial
  rcases frzH_cases ok A a with q | ⟨v, o, e1, _, e2, q, _⟩
  · rw [q] at e
    exact (ok a u e).stay (fun b v _ z => z) (fun b => ho b a) ht
  · rw [q] at e
    cases e
    exact ⟨e2, (ok a v e1).stay (fun b v _ z => z) (fun b => ho b a) ht⟩
end
theorem _root_.L2.Inv.frozen {X : Cx} {pins : List (Addr × Obj)} {σ : L2.St} {H : Hp} {s : Shared} (I : Inv X pins σ H s) (A : AS) : Inv X pins σ (frzH A s.heap H) s := by
  have f := frzH_frz I.hok A
  have none' : ∀ b, H b = none → frzH A s.heap H b = none := fun b e => by
    unfold frzH
    rw [if_neg (fun c => by have := c.2; rw [e] at this; exact this), e]
  have tbl : ∀ b ps, H b = some (.tbl ps) → frzH A s.heap H b = some (.tbl ps) := fun b ps e => by
    unfold frzH
    rw [if_neg (fun c => by have := c.2; rw [e] at this; exact this), e]
  refine ⟨I.ok, I.os, I.bare, ⟨I.base.keep, I.base.slot, fun b o e n x => none' b (I.base.free b o e n x), I.base.there, fun b xs e => f.fix b _ (I.base.tups b xs e) trivial,
    fun b o u e => f.fix b _ (I.base.frzs b o u e) trivial, fun b ps e => ?_⟩, I.loc, I.cell, none' _ I.free, fun x c e => none' c (I.freeC x c e), fun p hp => ?_, frz_ok I.hok A, I.len⟩
  · obtain ⟨m, q⟩ := I.base.tbls b ps e
    exact ⟨m, tbl b _ q⟩
  · obtain ⟨a, b, c⟩ := I.pin p hp
    exact ⟨a, none' _ b, c⟩
end VS
set_option Elab.async false
set_option linter.all false
set_option maxRecDepth 100000
set_option maxHeartbeats 4000000
/-! VS2: what evaluating gives, by value; expressions. -/
namespace VS
open PySem PySem.Spec PyProof.Rows L2

inductive Res (α : Type) where
  | ok (a : α) (ρ : List D)
  | ex (z : Str) (ρ : List D)
  | bad
/-- from the slots' data: the value, the slots' data behind it -/
abbrev M (α : Type) := List D → Res α
abbrev EM := M D
def Res.bind {α β : Type} (r : Res α) (f : α → List D → Res β) : Res β :=
  match r with
  | .ok a ρ => f a ρ
  | .ex z ρ => .ex z ρ
  | .bad => .bad
@[simp] theorem Res.bind_ok {α β : Type} {a : α} {ρ : List D} {f : α → List D → Res β} : (Res.ok a ρ).bind f = f a ρ := (Eq.refl _).trans rfl
@[simp] theorem Res.bind_ex {α β : Type} {z : Str} {ρ : List D} {f : α → List D → Res β} : (Res.ex z ρ).bind f = .ex z ρ := (Eq.refl _).trans rfl
@[simp] theorem Res.bind_bad {α β : Type} {f : α → List D → Res β} : (Res.bad : Res α).bind f = .bad := (Eq.refl _).trans rfl
/-- a partial function's answer -/
def Res.of {α : Type} (o : Option α) (ρ : List D) : Res α :=
  match o with
  | some a => .ok a ρ
  | none => .bad
@[simp] theorem Res.of_some {α : Type} {a : α} {ρ : List D} : Res.of (some a) ρ = .ok a ρ := (Eq.refl _).trans rfl
@[simp] theorem Res.of_none {α : Type} {ρ : List D} : Res.of (none : Option α) ρ = .bad := (Eq.refl _).trans rfl

def Live (H : Hp) (A : AS) : Prop := ∀ a, A a → ∃ u, H a = some u ∧ Mut (some u)
theorem Live.e0 {H : Hp} : Live H E0 := fun _ h => h.elim
theorem Live.sub {H : Hp} {A B : AS} (h : Live H A) (s : Sub B A) : Live H B := fun a x => h a (s a x)
theorem Live.keep {H H' : Hp} {A : AS} (h : Live H A) (k : Kp A H H') : Live H' A := fun a x => by
  obtain ⟨u, e, m⟩ := h a x
  exact ⟨u, k a u e (.inl x), m⟩
theorem Live.nfix {H : Hp} {A : AS} (h : Live H A) {a : Addr} {o : HO} (e : H a = some o) (f : Fix o) : ¬ A a := fun x => by
  obtain ⟨u, e', m⟩ := h a x
  rw [e] at e'; cases e'
  cases o <;> first | exact m | exact f

def RepO (K : PySem.W.Frag) (mg : Str → Option Value) (H : Hp) (d : D) (o : Option V) (A : AS) : Prop :=
  match o with
  | some v => Rep K mg H d v A
  | none => d = .un
/-- the slots' data stand for the slots' values; slot j's own room is F j -/
structure ER (K : PySem.W.Frag) (mg : Str → Option Value) (H : Hp) (ρ : List D) (σ : L2.St) (F : Nat → AS) : Prop where
  len : ρ.length = σ.length
  get : ∀ (j : Nat) (d : D), ρ[j]? = some d → ∃ o, σ[j]? = some o ∧ RepO K mg H d o (F j)
  dj : ∀ j k, j ≠ k → Dj (F j) (F k)
  live : ∀ j, Live H (F j)
/-- behind a step that touches the slots S -/
structure Aft (S : List Nat) (H : Hp) (F : Nat → AS) (H' : Hp) (F' : Nat → AS) : Prop where
  keep : ∀ a o, H a = some o → (∀ j ∈ S, ¬ F j a) → H' a = some o
  same : ∀ j, j ∉ S → Sub (F' j) (F j)
  sub : ∀ j, j ∈ S → ∀ a, F' j a → (∃ k, k ∈ S ∧ F k a) ∨ H a = none
  dom : ∀ a, H' a = none → H a = none
/-- .. that gives a value whose own room is T -/
structure Got (S : List Nat) (H : Hp) (F : Nat → AS) (H' : Hp) (F' : Nat → AS) (T : AS) : Prop extends Aft S H F H' F' where
  new : ∀ a, T a → (∃ k, k ∈ S ∧ F k a) ∨ H a = none
  dj : ∀ j, Dj T (F' j)
  live : Live H' T
/-- behind a step upon values that stand in A, giving a value in T -/
structure AftT (A : AS) (H H' : Hp) (T : AS) : Prop where
  keep : ∀ a o, H a = some o → ¬ A a → H' a = some o
  sub : ∀ a, T a → A a ∨ H a = none
  live : Live H' T
  dom : ∀ a, H' a = none → H a = none

section
variable {K : PySem.W.Frag} {mg : Str → Option Value} {H H' H'' : Hp} {ρ ρ' ρ'' : List D} {σ : L2.St} {F F' F'' : Nat → AS} {T T1 T' A : AS} {S S' : List Nat}
theorem Aft.refl : Aft S H F H F := ⟨fun _ _ e _ => e, fun _ _ => Sub.rfl, fun j hj a h => .inl ⟨j, hj, h⟩, fun _ e => e⟩
theorem Got.refl : Got S H F H F E0 := ⟨Aft.refl, fun _ h => h.elim, fun _ => Dj.e0, Live.e0⟩
theorem Aft.more (g : Aft S H F H' F') (s : ∀ j, j ∈ S → j ∈ S') : Aft S' H F H' F' where
  keep := fun a o e n => g.keep a o e fun j hj => n j (s j hj)
  same := fun j hj => g.same j fun h => hj (s j h)
  sub := fun j hj a h => by
    by_cases c : j ∈ S
    · rcases g.sub j c a h with ⟨k, hk, x⟩ | x
      · exact .inl ⟨k, s k hk, x⟩
      · exact .inr x
    · exact .inl ⟨j, hj, g.same j c a h⟩
  dom := g.dom
theorem Got.more (g : Got S H F H' F' T) (s : ∀ j, j ∈ S → j ∈ S') : Got S' H F H' F' T :=
  ⟨g.toAft.more s, fun a h => (g.new a h).imp (fun ⟨k, hk, x⟩ => ⟨k, s k hk, x⟩) id, g.dj, g.live⟩
/-- what stood, back through a step -/
theorem Aft.back (g : Aft S H F H' F') {k : Nat} {a : Addr} (h : F' k a) : (∃ k, k ∈ S ∧ F k a) ∨ F k a ∨ H a = none := by
  by_cases c : k ∈ S
  · rcases g.sub k c a h with x | x
    · exact .inl x
    · exact .inr (.inr x)
  · exact .inr (.inl (g.same k c a h))
theorem Aft.trans (g : Aft S H F H' F') (g' : Aft S' H' F' H'' F'') : Aft (S ++ S') H F H'' F'' := by
  have back : ∀ k a, F' k a → k ∈ S ++ S' → (∃ k, k ∈ S ++ S' ∧ F k a) ∨ H a = none := fun k a hk c => by
    rcases g.back hk with ⟨i, hi, x⟩ | x | x
    · exact .inl ⟨i, List.mem_append_left _ hi, x⟩
    · exact .inl ⟨k, c, x⟩
    · exact .inr x
  refine ⟨fun a o e n => ?_, fun j hj a h => g.same j (fun x => hj (List.mem_append_left _ x)) a (g'.same j (fun x => hj (List.mem_append_right _ x)) a h), fun j hj a h => ?_, fun a e => g.dom a (g'.dom a e)⟩
  · have e1 := g.keep a o e fun j hj => n j (List.mem_append_left _ hj)
    refine g'.keep a o e1 fun j hj h => ?_
    rcases g.back h with ⟨i, hi, x⟩ | x | x
    · exact n i (List.mem_append_left _ hi) x
    · exact n j (List.mem_append_right _ hj) x
    · rw [e] at x; cases x
  · rcases g'.back h with ⟨k, hk, x⟩ | x | x
    · exact back k a x (List.mem_append_right _ hk)
    · exact back j a x hj
    · exact .inr (g.dom a x)
/-- a pending value is kept through a step -/
theorem Aft.kp (g : Aft S H F H' F') (er : ER K mg H ρ σ F) (d : ∀ j, Dj T1 (F j)) : Kp T1 H H' := fun a o e h =>
  g.keep a o e fun j _ x => h.elim (fun y => d j a y x) fun f => (er.live j).nfix e f x
theorem Aft.djP (g : Aft S H F H' F') (l : Live H T1) (d : ∀ j, Dj T1 (F j)) (j : Nat) : Dj T1 (F' j) := fun a y x => by
  rcases g.back x with ⟨i, _, z⟩ | z | z
  · exact d i a y z
  · exact d j a y z
  · obtain ⟨u, e, _⟩ := l a y
    rw [e] at z; cases z
theorem Got.djT (g : Got S H F H' F' T) (l : Live H T1) (d : ∀ j, Dj T1 (F j)) : Dj T1 T := fun a y x => by
  rcases g.new a x with ⟨i, _, z⟩ | z
  · exact d i a y z
  · obtain ⟨u, e, _⟩ := l a y
    rw [e] at z; cases z
/-- a step upon a pending value, behind a step -/
theorem Got.step (g : Aft S H F H' F') (er' : ER K mg H' ρ' σ F') (dT : ∀ j, Dj A (F' j)) (hA : ∀ a, A a → (∃ k, k ∈ S ∧ F k a) ∨ H a = none) (t : AftT A H' H'' T) : Got S H F H'' F' T := by
  refine ⟨⟨fun a o e n => ?_, g.same, g.sub, fun a e => g.dom a (t.dom a e)⟩, fun a h => ?_, fun j a h x => ?_, t.live⟩
  · refine t.keep a o (g.keep a o e n) fun h => ?_
    rcases hA a h with ⟨k, hk, x⟩ | x
    · exact n k hk x
    · rw [e] at x; cases x
  · rcases t.sub a h with x | x
    · exact hA a x
    · exact .inr (g.dom a x)
  · rcases t.sub a h with y | y
    · exact dT j a y x
    · obtain ⟨u, e, _⟩ := er'.live j a x
      rw [e] at y; cases y
/-- the slots are kept through a step upon pending values -/
theorem ER.step (er : ER K mg H ρ σ F) (lA : Live H A) (dT : ∀ j, Dj A (F j)) (t : AftT A H H' T) : ER K mg H' ρ σ F := by
  have kp : ∀ j, Kp (F j) H H' := fun j a o e h => t.keep a o e fun x => h.elim (fun y => dT j a x y) fun f => lA.nfix e f x
  refine ⟨er.len, fun j d e => ?_, er.dj, fun j => (er.live j).keep (kp j)⟩
  obtain ⟨o, e1, r⟩ := er.get j d e
  refine ⟨o, e1, ?_⟩
  cases o with
  | none => exact r
  | some v => exact Rep.keep d r (kp j)
/-- a slot's data, and the rest without it -/
theorem ER.take (er : ER K mg H ρ σ F) {i : Nat} {d : D} (e : ρ[i]? = some d) (A : AS := E0) : ER K mg H (ρ.set i .un) σ (fun j => if j = i then E0 else F j) := by
  refine ⟨by rw [List.length_set]; exact er.len, fun j c q => ?_, fun j k n => ?_, fun j => ?_⟩
  · by_cases h : j = i
    · subst h
      have lt : j < ρ.length := (List.getElem?_eq_some_iff.mp e).1
      rw [List.getElem?_set_self lt] at q
      cases q
      obtain ⟨o, e1, r⟩ := er.get j d e
      refine ⟨o, e1, ?_⟩
      cases o with
      | none => rfl
      | some v => trivial
    · rw [List.getElem?_set_ne (Ne.symm h)] at q
      obtain ⟨o, e1, r⟩ := er.get j c q
      refine ⟨o, e1, ?_⟩
      rw [if_neg h]; exact r
  · by_cases h : j = i
    · rw [if_pos h]; exact Dj.e0
    · rw [if_neg h]
      by_cases h' : k = i
      · rw [if_pos h']; exact Dj.e0r
      · rw [if_neg h']; exact er.dj j k n
  · by_cases h : j = i
    · rw [if_pos h]; exact Live.e0
    · rw [if_neg h]; exact er.live j
/-- a slot is given a value -/
theorem ER.put (er : ER K mg H ρ σ F) {i : Nat} {d : D} {v : V} (lt : i < ρ.length) (r : Rep K mg H d v T) (l : Live H T) (dj : ∀ j, Dj T (F j)) : ER K mg H (ρ.set i d) (σ.set i (some v)) (fun j => if j = i then T else F j) := by
  refine ⟨by rw [List.length_set, List.length_set]; exact er.len, fun j c q => ?_, fun j k n => ?_, fun j => ?_⟩
  · by_cases h : j = i
    · subst h
      rw [List.getElem?_set_self lt] at q
      cases q
      refine ⟨some v, by rw [List.getElem?_set_self (by rw [← er.len]; exact lt)], ?_⟩
      rw [if_pos rfl]; exact r
    · rw [List.getElem?_set_ne (Ne.symm h)] at q
      obtain ⟨o, e1, r⟩ := er.get j c q
      refine ⟨o, by rw [List.getElem?_set_ne (Ne.symm h)]; exact e1, ?_⟩
      rw [if_neg h]; exact r
  · by_cases h : j = i
    · rw [if_pos h, if_neg (by omega)]; exact dj k
    · rw [if_neg h]
      by_cases h' : k = i
      · rw [if_pos h']; exact (dj j).symm
      · rw [if_neg h']; exact er.dj j k n
  · by_cases h : j = i
    · rw [if_pos h]; exact l
    · rw [if_neg h]; exact er.live j
/-- the slot's value stays the same object, its data are told anew -/
theorem ER.again (er : ER K mg H ρ σ F) {i : Nat} {d : D} {v : V} (e : σ[i]? = some (some v)) (r : Rep K mg H d v T) (l : Live H T) (dj : ∀ j, j ≠ i → Dj T (F j)) : ER K mg H (ρ.set i d) σ (fun j => if j = i then T else F j) := by
  have lt : i < ρ.length := by rw [er.len]; exact (List.getElem?_eq_some_iff.mp e).1
  refine ⟨by rw [List.length_set]; exact er.len, fun j c q => ?_, fun j k n => ?_, fun j => ?_⟩
  · by_cases h : j = i
    · subst h
      rw [List.getElem?_set_self lt] at q
      cases q
      refine ⟨some v, e, ?_⟩
      rw [if_pos rfl]; exact r
    · rw [List.getElem?_set_ne (Ne.symm h)] at q
      obtain ⟨o, e1, r⟩ := er.get j c q
      refine ⟨o, e1, ?_⟩
      rw [if_neg h]; exact r
  · by_cases h : j = i
    · rw [if_pos h, if_neg (by omega)]; exact dj k (by omega)
    · rw [if_neg h]
      by_cases h' : k = i
      · rw [if_pos h']; exact (dj j h).symm
      · rw [if_neg h']; exact er.dj j k n
  · by_cases h : j = i
    · rw [if_pos h]; exact l
    · rw [if_neg h]; exact er.live j
end

/-! ### the judgement of an expression -/
/-- the reading: m tells the value and the slots' data behind -/
def TV (K : PySem.W.Frag) (mg : Str → Option Value) (eC : Addr) (W : WX) (S : List Nat) (m : EM) : TE := fun σ H Q => ∃ ρ F, ER K mg H ρ σ F ∧
  match m ρ with
  | .ok d ρ' => ∀ v H' F' T, ER K mg H' ρ' σ F' → Rep K mg H' d v T → Got S H F H' F' T → Q v H'
  | .ex z ρ' => ∀ dd H' F', ER K mg H' ρ' σ F' → H' dd = some (.xd [("reason", .str z)]) → Aft S H F H' F' → W (.ref eC) (some dd) σ H'
  | .bad => False
abbrev VE (X : Cx) (eC : Addr) (W : WX) (S : List Nat) (e : Expr) (m : EM) : Prop := PE X e (TV X.K X.mg eC W S m)
/-- .. of an argument list -/
def TVs (K : PySem.W.Frag) (mg : Str → Option Value) (eC : Addr) (W : WX) (S : List Nat) (m : M (List D)) : TA := fun σ H Q => ∃ ρ F, ER K mg H ρ σ F ∧
  match m ρ with
  | .ok ds ρ' => ∀ vs H' F' T, ER K mg H' ρ' σ F' → Reps K mg H' ds vs T → Got S H F H' F' T → Q vs H'
  | .ex z ρ' => ∀ dd H' F', ER K mg H' ρ' σ F' → H' dd = some (.xd [("reason", .str z)]) → Aft S H F H' F' → W (.ref eC) (some dd) σ H'
  | .bad => False
abbrev VA (X : Cx) (eC : Addr) (W : WX) (S : List Nat) (es : List Expr) (m : M (List D)) : Prop := PA X es (TVs X.K X.mg eC W S m)
/-- .. of a test, of a slice's part -/
def TVt {α : Type} (K : PySem.W.Frag) (mg : Str → Option Value) (eC : Addr) (W : WX) (S : List Nat) (m : M α) : L2.St → Hp → (α → Hp → Prop) → Prop := fun σ H Q => ∃ ρ F, ER K mg H ρ σ F ∧
  match m ρ with
  | .ok b ρ' => ∀ H' F', ER K mg H' ρ' σ F' → Aft S H F H' F' → Q b H'
  | .ex z ρ' => ∀ dd H' F', ER K mg H' ρ' σ F' → H' dd = some (.xd [("reason", .str z)]) → Aft S H F H' F' → W (.ref eC) (some dd) σ H'
  | .bad => False
abbrev VT (X : Cx) (eC : Addr) (W : WX) (S : List Nat) (e : Expr) (m : M Bool) : Prop := PT X e (TVt X.K X.mg eC W S m)

theorem PE.imp {X : Cx} {e : Expr} {t t' : TE} (h : PE X e t) (i : ∀ σ H Q, t' σ H Q → t σ H Q) : PE X e t' := ⟨fun pins s σ H Q I q => h.run pins s σ H Q I (i σ H Q q)⟩
theorem PT.imp {X : Cx} {e : Expr} {t t' : TT} (h : PT X e t) (i : ∀ σ H Q, t' σ H Q → t σ H Q) : PT X e t' := ⟨fun pins s σ H Q I q => h.run pins s σ H Q I (i σ H Q q)⟩
theorem PA.imp {X : Cx} {es : List Expr} {t t' : TA} (h : PA X es t) (i : ∀ σ H Q, t' σ H Q → t σ H Q) : PA X es t' := ⟨fun pos pins s σ H Q I q => h.run pos pins s σ H Q I (i σ H Q q)⟩
theorem PS.imp {X : Cx} {st : Stmt} {t t' : TS} (h : PS X st t) (i : ∀ D σ H, t' D σ H → t D σ H) : PS X st t' := ⟨fun pins s σ H Q I q => h.run pins s σ H Q I (i Q σ H q)⟩
theorem PSs.imp {X : Cx} {st : List Stmt} {t t' : TS} (h : PSs X st t) (i : ∀ D σ H, t' D σ H → t D σ H) : PSs X st t' := ⟨fun pins s σ H Q I q => h.run pins s σ H Q I (i Q σ H q)⟩
/-- behind an expression its reader may freeze what he likes -/
theorem PE.frz {X : Cx} {e : Expr} {t : TE} (h : PE X e t) : PE X e (fun σ H Q => t σ H fun v H1 => ∃ A : AS, ∀ H2, Frz A H1 H2 → Q v H2) := ⟨fun pins s σ H Q I q =>
  thn (h.run pins s σ H _ I q) fun u s1 ⟨v, H1, I1, r, A, k⟩ => ⟨v, frzH A s1.heap H1, I1.frozen A, r, k _ (frzH_frz I1.hok A)⟩⟩

section
variable {X : Cx} {eC : Addr} {W : WX} {S S1 S2 S3 : List Nat}
theorem VE.more {e : Expr} {m : EM} (h : VE X eC W S e m) (s : ∀ j, j ∈ S → j ∈ S1) : VE X eC W S1 e m := PE.imp h fun σ H Q ⟨ρ, F, er, q⟩ => ⟨ρ, F, er, by
  cases e1 : m ρ with
  | ok d ρ' => rw [e1] at q; exact fun v H' F' T er' r g => q v H' F' T er' r (g.more s)
  | ex z ρ' => rw [e1] at q; exact fun dd H' F' er' r g => q dd H' F' er' r (g.more s)
  | bad => rw [e1] at q; exact q⟩

/-! ### constants, names -/
theorem ve_const {e : Expr} {v : V} {d : D} (h : PE X e (tC v)) (r : ∀ H, Rep X.K X.mg H d v E0) : VE X eC W [] e (fun ρ => .ok d ρ) :=
  PE.imp h fun σ H Q ⟨ρ, F, er, q⟩ => q v H F E0 er (r H) .refl
theorem ve_int {i j pos} : VE X eC W [] (.Constant (.int i) j pos) (fun ρ => .ok (.int i) ρ) := ve_const pe_int fun _ => rfl
theorem ve_bl {b j pos} : VE X eC W [] (.Constant (.bool b) j pos) (fun ρ => .ok (.bl b) ρ) := ve_const pe_bl fun _ => rfl
theorem ve_non {j pos} : VE X eC W [] (.Constant .none j pos) (fun ρ => .ok .non ρ) := ve_const pe_non fun _ => rfl
theorem ve_str {x j pos} : VE X eC W [] (.Constant (.str x) j pos) (fun ρ => .ok (.str x) ρ) := ve_const pe_str fun _ => rfl

def has? : D → Bool
  | .un => false
  | _ => true
theorem has_of {K : PySem.W.Frag} {mg : Str → Option Value} {H : Hp} {d : D} {o : Option V} {A : AS} (h : has? d = true) (r : RepO K mg H d o A) : ∃ v, o = some v ∧ Rep K mg H d v A := by
  cases o with
  | none =>
    have e : d = .un := r
    subst e
    cases h
  | some v => exact ⟨v, rfl, r⟩
/-- a name is read; what it holds can't be changed -/
def rd (i : Nat) : EM := fun ρ => match ρ[i]? with
  | some d => if has? d && pure? d then .ok d ρ else .bad
  | none => .bad
theorem ve_rd {e : Expr} {i : Nat} (h : PE X e (tVar i)) : VE X eC W [] e (rd i) := PE.imp h fun σ H Q ⟨ρ, F, er, q⟩ => by
  unfold rd at q
  cases e1 : ρ[i]? with
  | none => rw [e1] at q; exact q.elim
  | some d =>
    rw [e1] at q
    dsimp only at q
    by_cases c : (has? d && pure? d) = true
    · rw [if_pos c] at q
      obtain ⟨o, e2, r⟩ := er.get i d e1
      simp only [Bool.and_eq_true] at c
      obtain ⟨v, rfl, r⟩ := has_of c.1 r
      exact ⟨v, e2, q v H F E0 er (Rep.fixed d c.2 r) .refl⟩
    · rw [if_neg c] at q; exact q.elim
/-- a name's data are taken out of it -/
def mv (i : Nat) : EM := fun ρ => match ρ[i]? with
  | some d => if has? d then .ok d (ρ.set i .un) else .bad
  | none => .bad
theorem ve_mv {e : Expr} {i : Nat} (h : PE X e (tVar i)) : VE X eC W [i] e (mv i) := PE.imp h fun σ H Q ⟨ρ, F, er, q⟩ => by
  unfold mv at q
  cases e1 : ρ[i]? with
  | none => rw [e1] at q; exact q.elim
  | some d =>
    rw [e1] at q
    dsimp only at q
    by_cases c : has? d = true
    · rw [if_pos c] at q
      obtain ⟨o, e2, r⟩ := er.get i d e1
      obtain ⟨v, rfl, r⟩ := has_of c r
      refine ⟨v, e2, q v H _ (F i) (er.take e1) r ⟨⟨fun _ _ e _ => e, fun j hj => ?_, fun j hj a h => ?_, fun _ e => e⟩, fun a h => .inl ⟨i, List.mem_singleton.mpr rfl, h⟩, fun j => ?_, er.live i⟩⟩
      · rw [if_neg (fun z => hj (List.mem_singleton.mpr z))]; exact Sub.rfl
      · rw [if_pos (List.mem_singleton.mp hj)] at h; exact h.elim
      · by_cases z : j = i
        · rw [if_pos z]; exact Dj.e0r
        · rw [if_neg z]; exact er.dj i j (Ne.symm z)
    · rw [if_neg c] at q; exact q.elim
/-- a name is read, and what it holds is frozen -/
def fzv (i : Nat) : EM := fun ρ => match ρ[i]? with
  | some d => if has? d then .ok (fz d) (ρ.set i (fz d)) else .bad
  | none => .bad
theorem ve_fz {e : Expr} {i : Nat} (h : PE X e (tVar i)) : VE X eC W [i] e (fzv i) := PE.imp (PE.frz h) fun σ H Q ⟨ρ, F, er, q⟩ => by
  unfold fzv at q
  cases e1 : ρ[i]? with
  | none => rw [e1] at q; exact q.elim
  | some d =>
    rw [e1] at q
    dsimp only at q
    by_cases c : has? d = true
    · rw [if_pos c] at q
      obtain ⟨o, e2, r⟩ := er.get i d e1
      obtain ⟨v, rfl, r⟩ := has_of c r
      refine ⟨v, e2, F i, fun H2 f => ?_⟩
      have rf := Rep.frz f d r Sub.rfl
      have kp : ∀ j, j ≠ i → Kp (F j) H H2 := fun j n => f.kp.sub fun a x y => er.dj j i n a x y
      have er2 : ER X.K X.mg H2 (ρ.set i (fz d)) σ (fun j => if j = i then E0 else F j) := by
        have er0 := er.take e1
        have er1 : ER X.K X.mg H2 (ρ.set i .un) σ (fun j => if j = i then E0 else F j) := by
          refine ⟨er0.len, fun j d' e' => ?_, er0.dj, fun j => ?_⟩
          · obtain ⟨o, e3, r3⟩ := er0.get j d' e'
            refine ⟨o, e3, ?_⟩
            by_cases z : j = i
            · subst z
              have lt : j < ρ.length := (List.getElem?_eq_some_iff.mp e1).1
              rw [List.getElem?_set_self lt] at e'
              cases e'
              cases o <;> trivial
            · rw [if_neg z] at r3 ⊢
              cases o with
              | none => exact r3
              | some v' => exact Rep.keep d' r3 (kp j z)
          · by_cases z : j = i
            · rw [if_pos z]; exact Live.e0
            · rw [if_neg z]; exact (er.live j).keep (kp j z)
        have := er1.again (i := i) (d := fz d) e2 rf Live.e0 (fun j _ => Dj.e0)
        rw [List.set_set] at this
        refine ⟨this.len, fun j d' e' => ?_, er1.dj, er1.live⟩
        obtain ⟨o, e3, r3⟩ := this.get j d' e'
        refine ⟨o, e3, ?_⟩
        by_cases z : j = i
        · rw [if_pos z] at r3 ⊢; exact r3
        · rw [if_neg z] at r3 ⊢
          simpa only [if_neg z] using r3
      refine q v H2 _ E0 er2 rf ⟨⟨fun a o e n => (f.out a (n i (List.mem_singleton.mpr rfl))).trans e, fun j hj => ?_, fun j hj a h => ?_, fun a e => ?_⟩, fun a h => h.elim, fun j => Dj.e0, Live.e0⟩
      · rw [if_neg (fun z => hj (List.mem_singleton.mpr z))]; exact Sub.rfl
      · rw [if_pos (List.mem_singleton.mp hj)] at h; exact h.elim
      · by_cases x : F i a
        · obtain ⟨u, e', m⟩ := er.live i a x
          obtain ⟨o, e3⟩ := f.inn a u x e' m
          rw [e] at e3; cases e3
        · rw [f.out a x] at e; exact e
    · rw [if_neg c] at q; exact q.elim
end
end VS
set_option Elab.async false
set_option linter.all false
set_option maxRecDepth 100000
set_option maxHeartbeats 4000000
/-! VS3: putting expressions together. -/
namespace VS
open PySem PySem.Spec PyProof.Rows L2

abbrev Un2 (A B : AS) : AS := fun a => A a ∨ B a
section
variable {K : PySem.W.Frag} {mg : Str → Option Value} {H H' H'' : Hp} {ρ ρ' ρ'' : List D} {σ : L2.St} {F F' F'' : Nat → AS} {T T1 T2 T' A B : AS} {S S' S1 S2 : List Nat} {p : Addr} {o : HO}
theorem AftT.refl : AftT A H H E0 := ⟨fun _ _ e _ => e, fun _ h => h.elim, Live.e0, fun _ e => e⟩
theorem AftT.same (l : Live H T) (s : Sub T A) : AftT A H H T := ⟨fun _ _ e _ => e, fun a h => .inl (s a h), l, fun _ e => e⟩
theorem kp_new (np : H p = none) : Kp A H (upd H p o) := fun a u e _ => by
  rw [upd_ne (ne_of_none e np)]; exact e
theorem AftT.newF (np : H p = none) (l : Live H T) (s : Sub T A) : AftT A H (upd H p o) T :=
  ⟨fun a u e _ => by rw [upd_ne (ne_of_none e np)]; exact e, fun a h => .inl (s a h), l.keep (kp_new np), fun a e => by
    by_cases h : a = p
    · subst h; exact np
    · rw [upd_ne h] at e; exact e⟩
theorem AftT.new (np : H p = none) (m : Mut (some o)) (l : Live H T) (s : Sub T A) : AftT A H (upd H p o) (fun a => T a ∨ a = p) where
  keep := fun a u e _ => by rw [upd_ne (ne_of_none e np)]; exact e
  sub := fun a h => h.elim (fun x => .inl (s a x)) fun e => .inr (by rw [e]; exact np)
  live := fun a h => by
    rcases h with h | rfl
    · exact l.keep (kp_new np) a h
    · exact ⟨o, upd_same, m⟩
  dom := (AftT.newF (A := A) np l s).dom
theorem AftT.more (t : AftT A H H' T) (s : Sub A B) : AftT B H H' T := ⟨fun a o e n => t.keep a o e fun x => n (s a x), fun a h => (t.sub a h).imp (s a) id, t.live, t.dom⟩
theorem AftT.kp (t : AftT A H H' T) (l : Live H A) (d : Dj T1 A) : Kp T1 H H' := fun a o e h => t.keep a o e fun x => h.elim (fun y => d a y x) fun f => l.nfix e f x
theorem AftT.djP (t : AftT A H H' T) (l1 : Live H T1) (d : Dj T1 A) : Dj T1 T := fun a x y => by
  rcases t.sub a y with z | z
  · exact d a x z
  · obtain ⟨u, e, _⟩ := l1 a x
    rw [e] at z; cases z
theorem AftT.trans (t : AftT A H H' T) (t' : AftT T H' H'' T') : AftT A H H'' T' where
  keep := fun a o e n => t'.keep a o (t.keep a o e n) fun x => by
    rcases t.sub a x with z | z
    · exact n z
    · rw [e] at z; cases z
  sub := fun a h => by
    rcases t'.sub a h with z | z
    · exact t.sub a z
    · exact .inr (t.dom a z)
  live := t'.live
  dom := fun a e => t.dom a (t'.dom a e)
theorem Got.trans (g : Aft S H F H' F') (g' : Got S' H' F' H'' F'' T) : Got (S ++ S') H F H'' F'' T := by
  refine ⟨g.trans g'.toAft, fun a h => ?_, g'.dj, g'.live⟩
  rcases g'.new a h with ⟨k, hk, x⟩ | x
  · rcases g.back x with ⟨i, hi, z⟩ | z | z
    · exact .inl ⟨i, List.mem_append_left _ hi, z⟩
    · exact .inl ⟨k, List.mem_append_right _ hk, z⟩
    · exact .inr z
  · exact .inr (g.dom a x)
theorem Reps.length : ∀ {ds : List D} {xs : List V} {A : AS}, Reps K mg H ds xs A → xs.length = ds.length
  | [], _, _, h => by have e := (show _ = [] from h); subst e; rfl
  | d :: ds, _, _, ⟨x, ys, A1, A2, e, s1, s2, j, h1, h2⟩ => by rw [e, List.length_cons, List.length_cons, Reps.length h2]
end

section
variable {X : Cx} {eC : Addr} {W : WX} {S S1 S2 S3 : List Nat} {σ : L2.St} {H : Hp} {Q : VK}
/-- two values, one answer -/
def VOp (K : PySem.W.Frag) (mg : Str → Option Value) (r : R2) (f : D → D → Option D) : Prop :=
  ∀ d1 d2 d v1 v2 T1 T2 H Q, f d1 d2 = some d → Rep K mg H d1 v1 T1 → Rep K mg H d2 v2 T2 → Dj T1 T2 → Live H T1 → Live H T2 →
    (∀ v H' T, Rep K mg H' d v T → AftT (Un2 T1 T2) H H' T → Q v H') → r v1 v2 H Q
def opM (f : D → D → Option D) (ma mb : EM) : EM := fun ρ => (ma ρ).bind fun d1 ρ1 => (mb ρ1).bind fun d2 ρ2 => Res.of (f d1 d2) ρ2
theorem tv_op {K : PySem.W.Frag} {mg : Str → Option Value} {r : R2} {f : D → D → Option D} {ma mb : EM} (h : VOp K mg r f) (q : TV K mg eC W (S1 ++ S2) (opM f ma mb) σ H Q) : tOp r (TV K mg eC W S1 ma) (TV K mg eC W S2 mb) σ H Q := by
  obtain ⟨ρ, F, er, q⟩ := q
  refine ⟨ρ, F, er, ?_⟩
  unfold opM at q
  cases e1 : ma ρ with
  | bad => rw [e1] at q; exact q
  | ex z ρ1 => rw [e1] at q; exact fun dd H' F' er' x g => q dd H' F' er' x (g.more fun j hj => List.mem_append_left _ hj)
  | ok d1 ρ1 =>
    rw [e1] at q
    intro v1 H1 F1 T1 er1 r1 g1
    refine ⟨ρ1, F1, er1, ?_⟩
    simp only [Res.bind_ok] at q
    cases e2 : mb ρ1 with
    | bad => rw [e2] at q; exact q
    | ex z ρ2 => rw [e2] at q; exact fun dd H' F' er' x g => q dd H' F' er' x (g1.toAft.trans g)
    | ok d2 ρ2 =>
      rw [e2] at q
      intro v2 H2 F2 T2 er2 r2 g2
      simp only [Res.bind_ok] at q
      cases e3 : f d1 d2 with
      | none => rw [e3] at q; exact q.elim
      | some d =>
        rw [e3] at q
        have kp := g2.toAft.kp er1 g1.dj
        refine h d1 d2 d v1 v2 T1 T2 H2 Q e3 (Rep.keep d1 r1 kp) r2 (g2.djT g1.live g1.dj) (g1.live.keep kp) g2.live fun v H' T rv t => ?_
        have dT : ∀ j, Dj (Un2 T1 T2) (F2 j) := fun j a x y => x.elim (fun x => g2.toAft.djP g1.live g1.dj j a x y) fun x => g2.dj j a x y
        have lT : Live H2 (Un2 T1 T2) := fun a x => x.elim (g1.live.keep kp a) (g2.live a)
        have g12 := Got.trans g1.toAft g2
        refine q v H' F2 T (er2.step lT dT t) rv (Got.step g12.toAft er2 dT (fun a x => ?_) t)
        rcases x with x | x
        · exact (g1.new a x).imp (fun ⟨k, hk, y⟩ => ⟨k, List.mem_append_left _ hk, y⟩) id
        · exact g12.new a x
theorem ve_op {a b : Expr} {pos : Pos} {op : Operator} {r : R2} {f : D → D → Option D} {ma mb : EM} (ho : OpR X (binaryOp op) r) (h : VOp X.K X.mg r f) (ha : VE X eC W S1 a ma) (hb : VE X eC W S2 b mb) :
    VE X eC W (S1 ++ S2) (.BinOp a op b pos) (opM f ma mb) := PE.imp (pe_op ho ha hb) fun _ _ _ q => tv_op h q
theorem ve_cmp {a b : Expr} {pos : Pos} {op : CmpOp} {r : R2} {f : D → D → Option D} {ma mb : EM} (ho : OpR X (compareOp op) r) (h : VOp X.K X.mg r f) (ha : VE X eC W S1 a ma) (hb : VE X eC W S2 b mb) (hm : behindInMarks op b = false := by rfl) :
    VE X eC W (S1 ++ S2) (.Compare a [op] [b] pos) (opM f ma mb) := PE.imp (pe_cmpR ho ha hb hm) fun _ _ _ q => tv_op h q
theorem ve_ix {a b : Expr} {pos : Pos} {r : R2} {f : D → D → Option D} {ma mb : EM} (hr : IxR X r) (h : VOp X.K X.mg r f) (ha : VE X eC W S1 a ma) (hb : VE X eC W S2 b mb) (hs : PlainIx b := by exact fun _ _ => rfl) :
    VE X eC W (S1 ++ S2) (.Subscript a b pos) (opM f ma mb) := PE.imp (pe_ix hr ha hb hs) fun _ _ _ q => tv_op h q
/-- one value -/
def VUn (K : PySem.W.Frag) (mg : Str → Option Value) (r : V → Hp → VK → Prop) (f : D → Option D) : Prop :=
  ∀ d1 d v1 T1 H Q, f d1 = some d → Rep K mg H d1 v1 T1 → Live H T1 → (∀ v H' T, Rep K mg H' d v T → AftT T1 H H' T → Q v H') → r v1 H Q
def unM (f : D → Option D) (ma : EM) : EM := fun ρ => (ma ρ).bind fun d1 ρ1 => Res.of (f d1) ρ1
theorem tv_un {K : PySem.W.Frag} {mg : Str → Option Value} {r : V → Hp → VK → Prop} {f : D → Option D} {ma : EM} (h : VUn K mg r f) (q : TV K mg eC W S (unM f ma) σ H Q) : TV K mg eC W S ma σ H (fun v H1 => r v H1 Q) := by
  obtain ⟨ρ, F, er, q⟩ := q
  refine ⟨ρ, F, er, ?_⟩
  unfold unM at q
  cases e1 : ma ρ with
  | bad => rw [e1] at q; exact q
  | ex z ρ1 => rw [e1] at q; exact q
  | ok d1 ρ1 =>
    rw [e1] at q
    intro v1 H1 F1 T1 er1 r1 g1
    simp only [Res.bind_ok] at q
    cases e3 : f d1 with
    | none => rw [e3] at q; exact q.elim
    | some d =>
      rw [e3] at q
      exact h d1 d v1 T1 H1 Q e3 r1 g1.live fun v H' T rv t => q v H' F1 T (er1.step g1.live g1.dj t) rv (Got.step g1.toAft er1 g1.dj g1.new t)
theorem ve_un {a : Expr} {pos : Pos} {op : UnaryOp} {r : V → Hp → VK → Prop} {f : D → Option D} {ma : EM} (ho : UnR X (unaryOp op) r) (h : VUn X.K X.mg r f) (ha : VE X eC W S a ma) :
    VE X eC W S (.UnaryOp op a pos) (unM f ma) := PE.imp (pe_un ho ha) fun _ _ _ q => tv_un h q

/-! ### lists of expressions -/
def consM (m : EM) (ms : M (List D)) : M (List D) := fun ρ => (m ρ).bind fun d ρ1 => (ms ρ1).bind fun ds ρ2 => .ok (d :: ds) ρ2
def nilM : M (List D) := fun ρ => .ok [] ρ
theorem va_nil : VA X eC W [] [] nilM := PA.imp pa_nil fun σ H Q ⟨ρ, F, er, q⟩ => q [] H F E0 er rfl .refl
theorem va_cons {e : Expr} {es : List Expr} {m : EM} {ms : M (List D)} (h : VE X eC W S1 e m) (hs : VA X eC W S2 es ms)
    (hst : starEach (e :: es) X.env = (false, eval e X.env) :: starEach es X.env := by rfl) : VA X eC W (S1 ++ S2) (e :: es) (consM m ms) := PA.imp (pa_cons h hs hst) fun σ H Q ⟨ρ, F, er, q⟩ => by
  refine ⟨ρ, F, er, ?_⟩
  unfold consM at q
  cases e1 : m ρ with
  | bad => rw [e1] at q; exact q
  | ex z ρ1 => rw [e1] at q; exact fun dd H' F' er' x g => q dd H' F' er' x (g.more fun j hj => List.mem_append_left _ hj)
  | ok d1 ρ1 =>
    rw [e1] at q
    intro v1 H1 F1 T1 er1 r1 g1
    refine ⟨ρ1, F1, er1, ?_⟩
    simp only [Res.bind_ok] at q
    cases e2 : ms ρ1 with
    | bad => rw [e2] at q; exact q
    | ex z ρ2 => rw [e2] at q; exact fun dd H' F' er' x g => q dd H' F' er' x (g1.toAft.trans g)
    | ok ds ρ2 =>
      rw [e2] at q
      intro vs H2 F2 T2 er2 r2 g2
      simp only [Res.bind_ok] at q
      have kp := g2.toAft.kp er1 g1.dj
      have g12 := Got.trans g1.toAft g2
      refine q (v1 :: vs) H2 F2 (Un2 T1 T2) er2 ⟨v1, vs, T1, T2, rfl, fun _ => .inl, fun _ => .inr, g2.djT g1.live g1.dj, Rep.keep d1 r1 kp, r2⟩ ⟨g12.toAft, fun a x => ?_, fun j a x y => ?_, fun a x => ?_⟩
      · rcases x with x | x
        · exact (g1.new a x).imp (fun ⟨k, hk, y⟩ => ⟨k, List.mem_append_left _ hk, y⟩) id
        · exact g12.new a x
      · exact x.elim (fun x => g2.toAft.djP g1.live g1.dj j a x y) fun x => g2.dj j a x y
      · exact x.elim (g1.live.keep kp a) (g2.live a)
/-- a list of values, one answer -/
def VCl (K : PySem.W.Frag) (mg : Str → Option Value) (r : List V → Hp → VK → Prop) (f : List D → Option D) : Prop :=
  ∀ ds d vs T1 H Q, f ds = some d → Reps K mg H ds vs T1 → Live H T1 → (∀ v H' T, Rep K mg H' d v T → AftT T1 H H' T → Q v H') → r vs H Q
def clM (f : List D → Option D) (ms : M (List D)) : EM := fun ρ => (ms ρ).bind fun ds ρ1 => Res.of (f ds) ρ1
theorem tv_cl {K : PySem.W.Frag} {mg : Str → Option Value} {r : List V → Hp → VK → Prop} {f : List D → Option D} {ms : M (List D)} (h : VCl K mg r f) (q : TV K mg eC W S (clM f ms) σ H Q) : TVs K mg eC W S ms σ H (fun vs H1 => r vs H1 Q) := by
  obtain ⟨ρ, F, er, q⟩ := q
  refine ⟨ρ, F, er, ?_⟩
  unfold clM at q
  cases e1 : ms ρ with
  | bad => rw [e1] at q; exact q
  | ex z ρ1 => rw [e1] at q; exact q
  | ok ds ρ1 =>
    rw [e1] at q
    intro vs H1 F1 T1 er1 r1 g1
    simp only [Res.bind_ok] at q
    cases e3 : f ds with
    | none => rw [e3] at q; exact q.elim
    | some d =>
      rw [e3] at q
      exact h ds d vs T1 H1 Q e3 r1 g1.live fun v H' T rv t => q v H' F1 T (er1.step g1.live g1.dj t) rv (Got.step g1.toAft er1 g1.dj g1.new t)
theorem ve_callB {e : Expr} {es : List Expr} {x : Str} {p pos : Pos} {id : String} {r : List V → Hp → VK → Prop} {f : List D → Option D} {ms : M (List D)} (hc : CallR X (.builtin id) r) (h : VCl X.K X.mg r f)
    (hg : Gl X x) (hm : X.mg x = none) (hv : bootBuiltins x = some (.builtin id)) (ha : VA X eC W S (e :: es) ms)
    (hb : PE X (.Call (.Name x p) (e :: es) [] pos) (tCB r (TVs X.K X.mg eC W S ms)) := by exact pe_callB hc hg hm hv ha) : VE X eC W S (.Call (.Name x p) (e :: es) [] pos) (clM f ms) := PE.imp hb fun _ _ _ q => tv_cl h q
theorem ve_callTy {e : Expr} {es : List Expr} {x : Str} {p pos : Pos} {T : String} {r : List V → Hp → VK → Prop} {f : List D → Option D} {ms : M (List D)} (hc : CallR X (.type T) r) (h : VCl X.K X.mg r f)
    (hg : Gl X x) (hm : X.mg x = none) (hv : bootBuiltins x = some (.type T)) (ha : VA X eC W S (e :: es) ms)
    (hb : PE X (.Call (.Name x p) (e :: es) [] pos) (tCB r (TVs X.K X.mg eC W S ms)) := by exact pe_callTy hc hg hm hv ha) : VE X eC W S (.Call (.Name x p) (e :: es) [] pos) (clM f ms) := PE.imp hb fun _ _ _ q => tv_cl h q
/-- [a, b, ..], (a, b, ..) -/
def lstD : List D → Option D := fun ds => if ds.length ≤ 1000 then some (.lst true ds) else none
def tupD : List D → Option D := fun ds => if ds.length ≤ 1000 then some (.tup ds) else none
theorem small_line {n : Nat} (h : n ≤ 1000) : n ≤ sizeLine := by rw [sizeLine_eq]; omega
theorem cl_lst {K : PySem.W.Frag} {mg : Str → Option Value} : VCl K mg (fun xs H1 Q => xs.length ≤ sizeLine ∧ ∀ p, H1 p = none → Q (.ref p) (upd H1 p (.lst xs))) lstD := by
  intro ds d vs T1 H Q e r l q
  unfold lstD at e
  split at e
  · rename_i h
    cases e
    refine ⟨by rw [r.length]; exact small_line h, fun p np => q _ _ (fun a => T1 a ∨ a = p) ⟨p, vs, rfl, upd_same, .inr rfl, ?_⟩ (.new np trivial l Sub.rfl)⟩
    refine (Reps.keep ds r (kp_new np)).mono fun a x => ⟨.inl x, fun z => ?_⟩
    obtain ⟨u, e, _⟩ := l a x
    rw [z, np] at e; cases e
  · cases e
theorem cl_tup {K : PySem.W.Frag} {mg : Str → Option Value} : VCl K mg (fun xs H1 Q => xs.length ≤ sizeLine ∧ ∀ p, H1 p = none → Q (.ref p) (upd H1 p (.tup xs))) tupD := by
  intro ds d vs T1 H Q e r l q
  unfold tupD at e
  split at e
  · rename_i h
    cases e
    exact ⟨by rw [r.length]; exact small_line h, fun p np => q _ _ T1 ⟨p, vs, rfl, .of upd_same, Reps.keep ds r (kp_new np)⟩ (.newF np l Sub.rfl)⟩
  · cases e
theorem ve_lst {es : List Expr} {pos : Pos} {ms : M (List D)} (ha : VA X eC W S es ms) : VE X eC W S (.List es pos) (clM lstD ms) := PE.imp (pe_lst ha) fun _ _ _ q => tv_cl cl_lst q
theorem ve_tup {es : List Expr} {k : Nat} {pos : Pos} {ms : M (List D)} (ha : VA X eC W S es ms) : VE X eC W S (.Tuple es k pos) (clM tupD ms) := PE.imp (pe_tup ha) fun _ _ _ q => tv_cl cl_tup q
end
end VS
set_option Elab.async false
set_option linter.all false
set_option maxRecDepth 100000
set_option maxHeartbeats 4000000
/-! VS4: the operators and built-ins, by value. -/
namespace VS
open PySem PySem.Spec PyProof.Rows L2

section
variable {K : PySem.W.Frag} {mg : Str → Option Value} {H H' : Hp}
mutual
/-- as plain data, for == -/
def toP : D → Option PyData
  | .non => some .none
  | .bl b => some (.bool b)
  | .int i => some (.int i)
  | .str x => some (.str x)
  | .tup ds => (toPs ds).map .tuple
  | .lst _ ds => (toPs ds).map .list
  | .rol ds => (toPs ds).map .list
  | _ => none
def toPs : List D → Option (List PyData)
  | [] => some []
  | d :: ds => (toP d).bind fun p => (toPs ds).map fun ps => p :: ps
end
mutual
theorem Rep.dp : ∀ (d : D) {v : V} {A : AS} {p : PyData}, Rep K mg H d v A → toP d = some p → Dp K H v p
  | .un, _, _, _, _, e => by simp [toP] at e
  | .non, _, _, _, h, e => by
    cases h
    simp [toP] at e; subst e; exact .non
  | .bl b, _, _, _, h, e => by
    cases h
    simp [toP] at e; subst e; exact .bl b
  | .int i, _, _, _, h, e => by
    cases h
    simp [toP] at e; subst e; exact .int i
  | .str x, _, _, _, h, e => by
    cases h
    simp [toP] at e; subst e; exact .str x
  | .tup ds, _, _, _, ⟨a, xs, e1, q, r⟩, e => by
    subst e1
    simp only [toP, Option.map_eq_some_iff] at e
    obtain ⟨ps, e2, rfl⟩ := e
    exact .tup q (Reps.dp ds r e2)
  | .rol ds, _, _, _, ⟨a, xs, e1, q, r⟩, e => by
    subst e1
    simp only [toP, Option.map_eq_some_iff] at e
    obtain ⟨ps, e2, rfl⟩ := e
    exact .lst q.sq (Reps.dp ds r e2)
  | .lst true ds, _, _, _, ⟨a, xs, e1, q, i, r⟩, e => by
    subst e1
    simp only [toP, Option.map_eq_some_iff] at e
    obtain ⟨ps, e2, rfl⟩ := e
    exact .lst (.of q) (Reps.dp ds r e2)
  | .lst false ds, _, _, _, ⟨a, xs, e1, q, r⟩, e => by
    subst e1
    simp only [toP, Option.map_eq_some_iff] at e
    obtain ⟨ps, e2, rfl⟩ := e
    exact .lst q.sq (Reps.dp ds r e2)
  | .dic _ _ _, _, _, _, _, e => by simp [toP] at e
  | .obj _ _ _ _, _, _, _, _, e => by simp [toP] at e
theorem Reps.dp : ∀ (ds : List D) {xs : List V} {A : AS} {ps : List PyData}, Reps K mg H ds xs A → toPs ds = some ps → DpAll K H xs ps
  | [], _, _, _, h, e => by
    have e1 := (show _ = [] from h); subst e1
    simp [toPs] at e; subst e; exact .nil
  | d :: ds, _, _, _, ⟨x, ys, A1, A2, e1, s1, s2, j, h1, h2⟩, e => by
    subst e1
    simp only [toPs, Option.bind_eq_some_iff, Option.map_eq_some_iff] at e
    obtain ⟨p, e2, ps, e3, rfl⟩ := e
    exact .cons (Rep.dp d h1 e2) (Reps.dp ds h2 e3)
end
/-- the items of a list or tuple -/
def items : D → Option (List D)
  | .tup ds => some ds
  | .lst _ ds => some ds
  | .rol ds => some ds
  | _ => none
theorem Rep.seq {d : D} {ds : List D} {v : V} {A : AS} (h : Rep K mg H d v A) (e : items d = some ds) : ∃ a xs, v = .ref a ∧ (SqL K H a xs ∨ SqT K H a xs) ∧ Reps K mg H ds xs A := by
  cases d with
  | tup ds' => cases e; obtain ⟨a, xs, e1, q, r⟩ := h; exact ⟨a, xs, e1, .inr q, r⟩
  | rol ds' => cases e; obtain ⟨a, xs, e1, q, r⟩ := h; exact ⟨a, xs, e1, .inl q.sq, r.mono Sub.e0⟩
  | lst m ds' =>
    cases e
    cases m with
    | true => obtain ⟨a, xs, e1, q, i, r⟩ := h; exact ⟨a, xs, e1, .inl (.of q), r.mono fun _ h => h.1⟩
    | false => obtain ⟨a, xs, e1, q, r⟩ := h; exact ⟨a, xs, e1, .inl q.sq, r.mono Sub.e0⟩
  | _ => cases e
theorem Reps.get : ∀ {ds : List D} {xs : List V} {A : AS} {i : Nat} {d : D}, Reps K mg H ds xs A → ds[i]? = some d → ∃ v, xs[i]? = some v ∧ Rep K mg H d v A
  | [], _, _, _, _, _, e => by simp at e
  | d :: ds, _, _, 0, _, ⟨x, ys, A1, A2, e1, s1, s2, j, h1, h2⟩, e => by
    subst e1
    simp at e; subst e
    exact ⟨x, rfl, h1.mono s1⟩
  | d :: ds, _, _, i + 1, _, ⟨x, ys, A1, A2, e1, s1, s2, j, h1, h2⟩, e => by
    subst e1
    obtain ⟨v, e2, r⟩ := Reps.get (i := i) h2 (by simpa using e)
    exact ⟨v, by simpa using e2, r.mono s2⟩
theorem Reps.append : ∀ {ds es : List D} {xs ys : List V} {A B C : AS}, Reps K mg H ds xs A → Reps K mg H es ys B → Dj A B → Sub A C → Sub B C → Reps K mg H (ds ++ es) (xs ++ ys) C
  | [], _, _, _, _, _, _, h, g, _, _, sB => by
    have e := (show _ = [] from h); subst e
    exact g.mono sB
  | d :: ds, es, _, ys, A, B, C, ⟨x, zs, A1, A2, e1, s1, s2, j, h1, h2⟩, g, dj, sA, sB => by
    subst e1
    refine ⟨x, zs ++ ys, A1, (fun a => A2 a ∨ B a), rfl, s1.trans sA, fun a h => h.elim (fun y => sA a (s2 a y)) (sB a), fun a y z => z.elim (j a y) (dj a (s1 a y)), h1, ?_⟩
    exact Reps.append h2 g (fun a y z => dj a (s2 a y) z) (fun a => .inl) fun a => .inr
theorem Reps.take : ∀ {ds : List D} {xs : List V} {A : AS} (n : Nat), Reps K mg H ds xs A → Reps K mg H (ds.take n) (xs.take n) A
  | [], _, _, n, h => by
    have e := (show _ = [] from h); subst e
    simp; rfl
  | d :: ds, _, _, 0, ⟨x, ys, A1, A2, e1, s1, s2, j, h1, h2⟩ => rfl
  | d :: ds, _, _, n + 1, ⟨x, ys, A1, A2, e1, s1, s2, j, h1, h2⟩ => by
    subst e1
    exact ⟨x, ys.take n, A1, A2, rfl, s1, s2, j, h1, Reps.take n h2⟩
theorem Reps.drop : ∀ {ds : List D} {xs : List V} {A : AS} (n : Nat), Reps K mg H ds xs A → Reps K mg H (ds.drop n) (xs.drop n) A
  | ds, _, _, 0, h => by simpa using h
  | [], _, _, n + 1, h => by
    have e := (show _ = [] from h); subst e
    simp; rfl
  | d :: ds, _, _, n + 1, ⟨x, ys, A1, A2, e1, s1, s2, j, h1, h2⟩ => by
    subst e1
    simpa using (Reps.drop n h2).mono s2
end

/-! ### ints -/
section
variable {X : Cx} {K : PySem.W.Frag} {mg : Str → Option Value}
def int2 (f : Int → Int → Option D) : D → D → Option D
  | .int i, .int j => f i j
  | _, _ => none
theorem vop_int2 {r : R2} {f : Int → Int → Option D} (h : ∀ i j d H Q, f i j = some d → (∀ v H' T, Rep K mg H' d v T → AftT E0 H H' T → Q v H') → r (.int i) (.int j) H Q) : VOp K mg r (int2 f) := by
  intro d1 d2 d v1 v2 T1 T2 H Q e r1 r2 dj l1 l2 q
  cases d1 with
  | int i =>
    cases d2 with
    | int j =>
      cases (show v1 = .int i from r1)
      cases (show v2 = .int j from r2)
      exact h i j d H Q e fun v H' T rv t => q v H' T rv (t.more Sub.e0)
    | _ => cases e
  | _ => cases e
theorem vop_i {C : Int → Int → Prop} [∀ i j, Decidable (C i j)] {g : Int → Int → Int} : VOp K mg (rI C fun i j => .int (g i j)) (int2 fun i j => if C i j then some (.int (g i j)) else none) :=
  vop_int2 fun i j d H Q e q => by
    split at e
    · rename_i h
      cases e
      exact ⟨i, j, rfl, rfl, h, q _ H E0 rfl .refl⟩
    · cases e
theorem vop_i0 {g : Int → Int → Int} : VOp K mg (rI0 fun i j => .int (g i j)) (int2 fun i j => some (.int (g i j))) :=
  vop_int2 fun i j d H Q e q => by cases e; exact ⟨i, j, rfl, rfl, q _ H E0 rfl .refl⟩
theorem vop_b0 {g : Int → Int → Bool} : VOp K mg (rI0 fun i j => .bl (g i j)) (int2 fun i j => some (.bl (g i j))) :=
  vop_int2 fun i j d H Q e q => by cases e; exact ⟨i, j, rfl, rfl, q _ H E0 rfl .refl⟩
instance (i j : Int) : Decidable (CMul i j) := by unfold CMul; infer_instance
instance (i j : Int) : Decidable (CDiv i j) := by unfold CDiv; infer_instance
instance (i j : Int) : Decidable (CPow i j) := by unfold CPow; infer_instance
def subD : D → D → Option D := int2 fun i j => some (.int (i - j))
def mulD : D → D → Option D := int2 fun i j => if CMul i j then some (.int (i * j)) else none
def modD : D → D → Option D := int2 fun i j => if 0 < j then some (.int (i % j)) else none
def divD : D → D → Option D := int2 fun i j => if CDiv i j then some (.int (i / j)) else none
def powD : D → D → Option D := int2 fun i j => if CPow i j then some (.int (i ^ j.toNat)) else none
def shrD : D → D → Option D := int2 fun i j => if 0 ≤ j then some (.int (i / 2 ^ j.toNat)) else none
def shlD : D → D → Option D := int2 fun i j => if CPow i j then some (.int (i * 2 ^ j.toNat)) else none
def andD : D → D → Option D := int2 fun i j => some (.int (Builtin.bitAnd i j))
def ltD : D → D → Option D := int2 fun i j => some (.bl (decide (i < j)))
def leD : D → D → Option D := int2 fun i j => some (.bl (decide (i ≤ j)))
def gtD : D → D → Option D := int2 fun i j => some (.bl (decide (j < i)))
def geD : D → D → Option D := int2 fun i j => some (.bl (decide (j ≤ i)))
def negD : D → Option D
  | .int i => some (.int (-i))
  | _ => none
theorem vun_neg : VUn K mg (rU fun i => .int (-i)) negD := by
  intro d1 d v1 T1 H Q e r l q
  cases d1 with
  | int i => cases e; cases (show v1 = .int i from r); exact ⟨i, rfl, q _ H E0 rfl .refl⟩
  | _ => cases e

/-! ### +: ints, texts, lists, tuples -/
def LstAt (H : Hp) (a : Addr) (xs : List V) : Prop := H a = some (.lst xs) ∨ FzL H a xs
theorem LstAt.obj {pins : List (Addr × Obj)} {σ : L2.St} {H : Hp} {s : Shared} {l : Addr} {xs : List V} (I : Inv X pins σ H s) (h : LstAt H l xs) :
    xs.length ≤ sizeLine ∧ ∃ (its : List Value) (n : Nat), Vals xs its ∧ xs.length = its.length ∧ s.heap.get? l = some { cls := .type "list", data := .seq its.toArray n } := by
  rcases h with h | ⟨o, h⟩
  · exact I.lstM h
  · obtain ⟨e, z, its, n, r, e2⟩ := I.hok l _ h
    exact ⟨z, its, n, r, r.length, e2⟩
def rCatF : R2 := fun x y H Q => ∃ l b xs zs, x = .ref l ∧ y = .ref b ∧ LstAt H l xs ∧ LstAt H b zs ∧ xs.length + zs.length ≤ sizeLine ∧ ∀ p, H p = none → Q (.ref p) (upd H p (.lst (xs ++ zs)))
theorem op_catF : OpR X (binaryOp .Add) rCatF := by
  intro pins s σ H x y v u Q I rx ry h
  obtain ⟨l, b, xs, zs, rfl, rfl, hH, hB, hz, q⟩ := h
  cases rx
  cases ry
  obtain ⟨z, its, n, r, hl, e⟩ := hH.obj I
  obtain ⟨z2, its2, n2, r2, hl2, e2⟩ := hB.obj I
  refine PySem.P.add_list e e2 ?_ (by rw [List.size_toArray, List.size_toArray]; omega)
  have ea : its.toArray ++ its2.toArray = (its ++ its2).toArray := by simp
  rw [ea]
  exact ⟨.ref _, _, I.lnew (t' := s.toks) (r.append r2) (by rw [List.length_append]; omega), rfl, q _ I.fresh⟩
theorem Rep.lstAt {H : Hp} {m : Bool} {ds : List D} {v : V} {A : AS} (h : Rep K mg H (.lst m ds) v A) : ∃ a xs, v = .ref a ∧ LstAt H a xs ∧ Reps K mg H ds xs A := by
  cases m with
  | true => obtain ⟨a, xs, e1, q, i, r⟩ := h; exact ⟨a, xs, e1, .inl q, r.mono fun _ h => h.1⟩
  | false => obtain ⟨a, xs, e1, q, r⟩ := h; exact ⟨a, xs, e1, .inr q, r.mono Sub.e0⟩
/-- the largest length that is looked at here -/
def big : Nat := 1000000
theorem big_line {n : Nat} (h : n ≤ big) : n ≤ sizeLine := by
  have h' : n ≤ 1000000 := h
  rw [sizeLine_eq]; omega
def addR (K : PySem.W.Frag) : R2 := fun x y H Q => (rI0 fun i j => .int (i + j)) x y H Q ∨ ((fun x y H Q => ∃ i j, x = V.str i ∧ y = V.str j ∧ i.length + j.length ≤ sizeLine ∧ Q (.str (i ++ j)) H : R2) x y H Q ∨ (rCatF x y H Q ∨ rCatA K x y H Q))
theorem op_addR : OpR X (binaryOp .Add) (addR X.K) := op_add.or (op_add_str.or (op_catF.or op_catA))
def addD : D → D → Option D
  | .int i, .int j => some (.int (i + j))
  | .str x, .str y => if x.length + y.length ≤ big then some (.str (x ++ y)) else none
  | .lst _ as, .lst _ bs => if as.length + bs.length ≤ big then some (.lst true (as ++ bs)) else none
  | .tup as, .tup bs => if as.length + bs.length ≤ big then some (.tup (as ++ bs)) else none
  | _, _ => none
theorem not_new {H : Hp} {p : Addr} {T : AS} (np : H p = none) (l : Live H T) {a : Addr} (x : T a) : a ≠ p := fun z => by
  obtain ⟨u, e, _⟩ := l a x
  rw [z, np] at e; cases e
theorem Live.un {H : Hp} {A B : AS} (a : Live H A) (b : Live H B) : Live H (Un2 A B) := fun x h => h.elim (a x) (b x)
theorem Rep.nil_tup {H : Hp} {v : V} {A : AS} {ds : List D} {a : Addr} (q : SqT K H a []) (r : Reps K mg H ds [] A) : ds = [] := by
  have := r.length
  cases ds with
  | nil => rfl
  | cons => simp at this
theorem vop_add : VOp K mg (addR K) addD := by
  intro d1 d2 d v1 v2 T1 T2 H Q e r1 r2 dj l1 l2 q
  unfold addD at e
  split at e
  · rename_i i j
    cases e
    cases (show v1 = .int i from r1)
    cases (show v2 = .int j from r2)
    exact .inl ⟨i, j, rfl, rfl, q _ H E0 rfl .refl⟩
  · rename_i x y
    split at e
    · rename_i h
      cases e
      cases (show v1 = .str x from r1)
      cases (show v2 = .str y from r2)
      exact .inr (.inl ⟨x, y, rfl, rfl, big_line h, q _ H E0 rfl .refl⟩)
    · cases e
  · rename_i m as m' bs
    split at e
    · rename_i h
      cases e
      obtain ⟨a, xs, rfl, q1, s1⟩ := Rep.lstAt r1
      obtain ⟨b, ys, rfl, q2, s2⟩ := Rep.lstAt r2
      refine .inr (.inr (.inl ⟨a, b, xs, ys, rfl, rfl, q1, q2, by rw [s1.length, s2.length]; exact big_line h, fun p np => ?_⟩))
      refine q (.ref p) _ (fun a => Un2 T1 T2 a ∨ a = p) ⟨p, _, rfl, upd_same, .inr rfl, ?_⟩ (.new np trivial (l1.un l2) Sub.rfl)
      exact Reps.append (Reps.keep as s1 (kp_new np)) (Reps.keep bs s2 (kp_new np)) dj (fun a x => ⟨.inl (.inl x), not_new np l1 x⟩) fun a x => ⟨.inl (.inr x), not_new np l2 x⟩
    · cases e
  · rename_i as bs
    split at e
    · rename_i h
      cases e
      obtain ⟨a, xs, rfl, q1, s1⟩ := r1
      obtain ⟨b, ys, rfl, q2, s2⟩ := r2
      refine .inr (.inr (.inr ⟨a, b, xs, ys, rfl, rfl, q1, q2, by rw [s1.length, s2.length]; exact big_line h, fun hx => ?_, fun hx hy => ?_, fun _ _ p np => ?_⟩))
      · have e1 := s1.length
        rw [hx] at e1
        have : as = [] := by cases as with | nil => rfl | cons => simp at e1
        subst this
        exact q _ H T2 ⟨b, ys, rfl, q2, s2⟩ (.same l2 fun a => .inr)
      · have e1 := s2.length
        rw [hy] at e1
        have : bs = [] := by cases bs with | nil => rfl | cons => simp at e1
        subst this
        rw [List.append_nil] at q
        exact q _ H T1 ⟨a, xs, rfl, q1, s1⟩ (.same l1 fun a => .inl)
      · refine q (.ref p) _ (Un2 T1 T2) ⟨p, _, rfl, .of upd_same, ?_⟩ (.newF np (l1.un l2) Sub.rfl)
        exact Reps.append (Reps.keep as s1 (kp_new np)) (Reps.keep bs s2 (kp_new np)) dj (fun a => .inl) fun a => .inr
    · cases e
  · cases e

/-! ### ==, in, is None -/
def eqP (neg : Bool) (d1 d2 : D) : Option D := (toP d1).bind fun p => (toP d2).bind fun q => if SeqAt.shaped p && SeqAt.shaped q then some (.bl (if neg then !PyData.eqv p q else PyData.eqv p q)) else none
theorem eqP_some {neg : Bool} {d1 d2 d : D} (e : eqP neg d1 d2 = some d) : ∃ p q, toP d1 = some p ∧ toP d2 = some q ∧ SeqAt.shaped p = true ∧ SeqAt.shaped q = true ∧ d = .bl (if neg then !PyData.eqv p q else PyData.eqv p q) := by
  unfold eqP at e
  simp only [Option.bind_eq_some_iff] at e
  obtain ⟨p, e1, q, e2, e3⟩ := e
  split at e3
  · rename_i h
    simp only [Bool.and_eq_true] at h
    cases e3
    exact ⟨p, q, e1, e2, h.1, h.2, rfl⟩
  · cases e3
theorem vop_eq : VOp K mg (rEqD K) (eqP false) := by
  intro d1 d2 d v1 v2 T1 T2 H Q e r1 r2 dj l1 l2 q
  obtain ⟨p, p', e1, e2, h1, h2, rfl⟩ := eqP_some e
  exact ⟨p, p', Rep.dp d1 r1 e1, Rep.dp d2 r2 e2, h1, h2, q _ H E0 rfl .refl⟩
theorem vop_ne : VOp K mg (rNeD K) (eqP true) := by
  intro d1 d2 d v1 v2 T1 T2 H Q e r1 r2 dj l1 l2 q
  obtain ⟨p, p', e1, e2, h1, h2, rfl⟩ := eqP_some e
  exact ⟨p, p', Rep.dp d1 r1 e1, Rep.dp d2 r2 e2, h1, h2, q _ H E0 rfl .refl⟩
def rInP (K : PySem.W.Frag) (neg : Bool) : R2 := fun x y H Q => ∃ d ds, Dp K H x d ∧ (Dp K H y (.list ds) ∨ Dp K H y (.tuple ds)) ∧ SeqAt.shaped d = true ∧ SeqAt.shaped (.list ds) = true ∧
  Q (.bl (if neg then !ds.any (fun z => PyData.eqv z d) else ds.any fun z => PyData.eqv z d)) H
theorem shaped_tup {ds : List PyData} (h : SeqAt.shaped (.list ds) = true) : SeqAt.shaped (.tuple ds) = true := by
  simpa [SeqAt.shaped, PyData.canLay0, PyData.depth] using h
theorem op_inP (hu : X.A.units + 65 < cLine) : OpR X (compareOp .In) (rInP X.K false) := by
  intro pins s σ H x y v u Q I rx ry h
  obtain ⟨d, ds, hd, he, sd, se, q⟩ := h
  obtain ⟨as, r1⟩ := Dp.reads I d x v hd rx
  rcases he with he | he
  · obtain ⟨bs, r2⟩ := Dp.reads I _ y u he ry
    exact SeqAt.in_list_reads r2 r1 (SeqAt.canLay_of_shaped se) (SeqAt.canLay_of_shaped sd) (room_in_shaped sd hu) ⟨.bl _, H, I, rfl, q⟩
  · obtain ⟨bs, r2⟩ := Dp.reads I _ y u he ry
    exact SeqAt.in_tuple_reads r2 r1 (SeqAt.canLay_of_shaped (shaped_tup se)) (SeqAt.canLay_of_shaped sd) (room_in_shaped sd hu) ⟨.bl _, H, I, rfl, q⟩
theorem op_notInP (hu : X.A.units + 65 < cLine) : OpR X (compareOp .NotIn) (rInP X.K true) := by
  intro pins s σ H x y v u Q I rx ry h
  obtain ⟨d, ds, hd, he, sd, se, q⟩ := h
  obtain ⟨as, r1⟩ := Dp.reads I d x v hd rx
  rcases he with he | he
  · obtain ⟨bs, r2⟩ := Dp.reads I _ y u he ry
    exact SeqAt.notIn_list_reads r2 r1 (SeqAt.canLay_of_shaped se) (SeqAt.canLay_of_shaped sd) (room_in_shaped sd hu) ⟨.bl _, H, I, rfl, q⟩
  · obtain ⟨bs, r2⟩ := Dp.reads I _ y u he ry
    exact SeqAt.notIn_tuple_reads r2 r1 (SeqAt.canLay_of_shaped (shaped_tup se)) (SeqAt.canLay_of_shaped sd) (room_in_shaped sd hu) ⟨.bl _, H, I, rfl, q⟩
def inP (neg : Bool) (x c : D) : Option D := (toP x).bind fun p => (items c).bind fun ds => (toPs ds).bind fun ps => if SeqAt.shaped p && SeqAt.shaped (.list ps) then some (.bl (if neg then !ps.any (fun z => PyData.eqv z p) else ps.any fun z => PyData.eqv z p)) else none
theorem toP_items {c : D} {ds : List D} {ps : List PyData} (e : items c = some ds) (e2 : toPs ds = some ps) : toP c = some (.list ps) ∨ toP c = some (.tuple ps) := by
  cases c with
  | tup => cases e; exact .inr (by simp [toP, e2])
  | rol => cases e; exact .inl (by simp [toP, e2])
  | lst => cases e; exact .inl (by simp [toP, e2])
  | _ => cases e
theorem vop_in {neg : Bool} : VOp K mg (rInP K neg) (inP neg) := by
  intro d1 d2 d v1 v2 T1 T2 H Q e r1 r2 dj l1 l2 q
  unfold inP at e
  simp only [Option.bind_eq_some_iff] at e
  obtain ⟨p, e1, ds, e2, ps, e3, e4⟩ := e
  split at e4
  · rename_i h
    simp only [Bool.and_eq_true] at h
    cases e4
    refine ⟨p, ps, Rep.dp d1 r1 e1, ?_, h.1, h.2, q _ H E0 rfl .refl⟩
    exact (toP_items e2 e3).imp (Rep.dp d2 r2) (Rep.dp d2 r2)
  · cases e4
/-- x is None -/
def isNone? : D → Bool
  | .non => true
  | _ => false
def isN (neg : Bool) (d : D) : Option D := if has? d then some (.bl (if neg then !isNone? d else isNone? d)) else none
theorem Rep.non_iff {H : Hp} {d : D} {v : V} {A : AS} (h : Rep K mg H d v A) (c : has? d = true) : decide (v = .non) = isNone? d := by
  cases d with
  | un => cases c
  | non => cases (show v = .non from h); rfl
  | bl => cases h; rfl
  | int => cases h; rfl
  | str => cases h; rfl
  | tup => obtain ⟨_, _, rfl, _⟩ := h; rfl
  | rol => obtain ⟨_, _, rfl, _⟩ := h; rfl
  | lst m => cases m <;> (obtain ⟨_, _, rfl, _⟩ := h; rfl)
  | dic m => cases m <;> (obtain ⟨_, _, _, _, h⟩ := h; first | (obtain ⟨rfl, _⟩ := h; rfl) | (obtain ⟨_, rfl, _⟩ := h; rfl))
  | obj m => cases m <;> (obtain ⟨_, _, _, _, h⟩ := h; first | (obtain ⟨rfl, _⟩ := h; rfl) | (obtain ⟨_, rfl, _⟩ := h; rfl))
theorem isN_some {neg : Bool} {d d' : D} (e : isN neg d = some d') : has? d = true ∧ d' = .bl (if neg then !isNone? d else isNone? d) := by
  unfold isN at e
  split at e
  · rename_i h; cases e; exact ⟨h, rfl⟩
  · cases e
theorem vun_isN : VUn K mg (fun x H Q => Q (.bl (decide (x = .non))) H) (isN false) := by
  intro d1 d v1 T1 H Q e r l q
  obtain ⟨c, rfl⟩ := isN_some e
  refine q _ H E0 ?_ .refl
  show _ = _
  rw [r.non_iff c]; rfl
theorem vun_notN : VUn K mg (fun x H Q => Q (.bl (!decide (x = .non))) H) (isN true) := by
  intro d1 d v1 T1 H Q e r l q
  obtain ⟨c, rfl⟩ := isN_some e
  refine q _ H E0 ?_ .refl
  show _ = _
  rw [r.non_iff c]; rfl
end
end VS
set_option Elab.async false
set_option linter.all false
set_option maxRecDepth 100000
set_option maxHeartbeats 4000000
/-! VS5: built-in calls, items, slices. -/
namespace VS
open PySem PySem.Spec PyProof.Rows L2
section
variable {X : Cx} {K : PySem.W.Frag} {mg : Str → Option Value}
/-- one argument -/
def one (f : D → Option D) : List D → Option D
  | [d] => f d
  | _ => none
theorem one_some {f : D → Option D} {ds : List D} {d : D} (e : one f ds = some d) : ∃ x, ds = [x] ∧ f x = some d := by
  unfold one at e
  split at e
  · exact ⟨_, rfl, e⟩
  · cases e
theorem Reps.one {H : Hp} {d : D} {vs : List V} {A : AS} (h : Reps K mg H [d] vs A) : ∃ v, vs = [v] ∧ Rep K mg H d v A := by
  obtain ⟨x, ys, A1, A2, e, s1, s2, j, h1, h2⟩ := h
  have e2 := (show ys = [] from h2)
  subst e2
  exact ⟨x, e, h1.mono s1⟩
theorem vcl_one {r : List V → Hp → VK → Prop} {f : D → Option D} (h : VUn K mg (fun v H Q => r [v] H Q) f) : VCl K mg r (one f) := by
  intro ds d vs T1 H Q e rp l q
  obtain ⟨x, rfl, e⟩ := one_some e
  obtain ⟨v, rfl, rv⟩ := rp.one
  exact h x d v T1 H Q e rv l q
/-- len -/
def lenD : D → Option D
  | .str x => if x.length ≤ big then some (.int x.length) else none
  | .tup ds => some (.int ds.length)
  | .lst _ ds => some (.int ds.length)
  | .rol ds => some (.int ds.length)
  | _ => none
theorem vcl_len : VCl K mg (fun xs H Q => ∃ x n, xs = [x] ∧ LenV K x H n ∧ Q (.int n) H) (one lenD) := vcl_one fun d1 d v T H Q e r l q => by
  cases d1 with
  | str x =>
    cases (show v = .str x from r)
    simp only [lenD] at e
    split at e
    · rename_i h
      cases e
      exact ⟨_, _, rfl, ⟨big_line h, rfl⟩, q _ H E0 rfl .refl⟩
    · cases e
  | tup ds => cases e; obtain ⟨a, xs, rfl, s, r⟩ := r; exact ⟨_, _, rfl, .inr ⟨xs, s, rfl⟩, q _ H E0 (by show _ = _; rw [r.length]) .refl⟩
  | rol ds => cases e; obtain ⟨a, xs, rfl, s, r⟩ := r; exact ⟨_, _, rfl, .inl ⟨xs, s.sq, rfl⟩, q _ H E0 (by show _ = _; rw [r.length]) .refl⟩
  | lst m ds =>
    cases e
    obtain ⟨a, xs, rfl, s, r⟩ := r.lstAt
    exact ⟨_, _, rfl, .inl ⟨xs, s.elim .of fun h => h.sq, rfl⟩, q _ H E0 (by show _ = _; rw [r.length]) .refl⟩
  | _ => cases e
/-- int(..) of an int, a bool -/
def intD : D → Option D
  | .int i => some (.int i)
  | .bl b => some (.int (if b then 1 else 0))
  | _ => none
theorem vcl_int : VCl K mg (fun xs H Q => (∃ i, xs = [V.int i] ∧ Q (.int i) H) ∨ ∃ k, xs = [V.bl k] ∧ Q (.int (if k then 1 else 0)) H) (one intD) := vcl_one fun d1 d v T H Q e r l q => by
  cases d1 with
  | int i => cases e; cases (show v = .int i from r); exact .inl ⟨i, rfl, q _ H E0 rfl .refl⟩
  | bl b => cases e; cases (show v = .bl b from r); exact .inr ⟨b, rfl, q _ H E0 rfl .refl⟩
  | _ => cases e
def absD : D → Option D
  | .int i => some (.int (if i < 0 then -i else i))
  | _ => none
theorem vcl_abs : VCl K mg (fun xs H Q => ∃ i, xs = [V.int i] ∧ Q (.int (if i < 0 then -i else i)) H) (one absD) := vcl_one fun d1 d v T H Q e r l q => by
  cases d1 with
  | int i => cases e; cases (show v = .int i from r); exact ⟨i, rfl, q _ H E0 rfl .refl⟩
  | _ => cases e
def strD : D → Option D
  | .int i => if i.natAbs.log2 < 1920 then some (.str (toString i)) else none
  | _ => none
theorem vcl_str : VCl K mg (fun xs H Q => ∃ i, xs = [V.int i] ∧ i.natAbs.log2 < 1920 ∧ Q (.str (toString i)) H) (one strD) := vcl_one fun d1 d v T H Q e r l q => by
  cases d1 with
  | int i =>
    cases (show v = .int i from r)
    simp only [strD] at e
    split at e
    · rename_i h
      cases e
      exact ⟨i, rfl, h, q _ H E0 rfl .refl⟩
    · cases e
  | _ => cases e
/-- list(..), tuple(..) of a list or tuple -/
def toLstD : D → Option D := fun d => (items d).map (.lst true)
theorem vcl_list : VCl K mg (fun xs H Q => ∃ p ys, xs = [V.ref p] ∧ (SqL K H p ys ∨ SqT K H p ys) ∧ ∀ l, H l = none → Q (.ref l) (upd H l (.lst ys))) (one toLstD) := vcl_one fun d1 d v T H Q e r l q => by
  simp only [toLstD, Option.map_eq_some_iff] at e
  obtain ⟨ds, e, rfl⟩ := e
  obtain ⟨a, xs, rfl, s, r⟩ := r.seq e
  exact ⟨a, xs, rfl, s, fun p np => q _ _ (fun a => T a ∨ a = p) ⟨p, xs, rfl, upd_same, .inr rfl, (Reps.keep ds r (kp_new np)).mono fun a x => ⟨.inl x, not_new np l x⟩⟩ (.new np trivial l Sub.rfl)⟩
def toTupD : D → Option D := fun d => (items d).map .tup
theorem vcl_tuple : VCl K mg (fun xs H Q => ∃ p ys, xs = [V.ref p] ∧ ((SqL K H p ys ∧ ∀ l, H l = none → Q (.ref l) (upd H l (.tup ys))) ∨ (SqT K H p ys ∧ Q (.ref p) H))) (one toTupD) := vcl_one fun d1 d v T H Q e r l q => by
  simp only [toTupD, Option.map_eq_some_iff] at e
  obtain ⟨ds, e, rfl⟩ := e
  obtain ⟨a, xs, rfl, s, r⟩ := r.seq e
  refine ⟨a, xs, rfl, s.imp (fun s => ⟨s, fun p np => ?_⟩) fun s => ⟨s, ?_⟩⟩
  · exact q _ _ T ⟨p, xs, rfl, .of upd_same, Reps.keep ds r (kp_new np)⟩ (.newF np l Sub.rfl)
  · exact q _ H T ⟨a, xs, rfl, s, r⟩ (.same l Sub.rfl)
/-- all(..), any(..) of a list of bools -/
def blD : D → Option Bool
  | .bl b => some b
  | _ => none
def bools : List D → Option (List Bool)
  | [] => some []
  | d :: ds => (blD d).bind fun b => (bools ds).map (b :: ·)
theorem blD_some {d : D} {b : Bool} (e : blD d = some b) : d = .bl b := by
  cases d <;> simp [blD] at e <;> subst e <;> rfl
theorem Reps.bools {H : Hp} : ∀ (ds : List D) {xs : List V} {A : AS} {bs : List Bool}, Reps K mg H ds xs A → bools ds = some bs → xs = bs.map V.bl := by
  intro ds
  induction ds with
  | nil => intro xs A bs h e; cases e; exact h
  | cons d ds ih =>
    intro xs A bs ⟨x, ys, A1, A2, e1, s1, s2, j, h1, h2⟩ e
    simp only [VS.bools, Option.bind_eq_some_iff, Option.map_eq_some_iff] at e
    obtain ⟨b, e2, bs', e3, rfl⟩ := e
    have e4 := blD_some e2
    subst e4
    have e5 : x = .bl b := h1
    rw [e1, e5, ih h2 e3, List.map_cons]
def isLst : D → Option (List D)
  | .lst _ ds => some ds
  | .rol ds => some ds
  | _ => none
theorem Rep.lsts {H : Hp} {d : D} {ds : List D} {v : V} {A : AS} (h : Rep K mg H d v A) (e : isLst d = some ds) : ∃ a xs, v = .ref a ∧ SqL K H a xs ∧ Reps K mg H ds xs A := by
  cases d with
  | rol ds' => cases e; obtain ⟨a, xs, e1, q, r⟩ := h; exact ⟨a, xs, e1, q.sq, r.mono Sub.e0⟩
  | lst m ds' =>
    cases e
    obtain ⟨a, xs, rfl, s, r⟩ := h.lstAt
    exact ⟨a, xs, rfl, s.elim .of fun h => h.sq, r⟩
  | _ => cases e
def allD : D → Option D := fun d => ((isLst d).bind bools).map fun bs => .bl (bs.all id)
def anyD : D → Option D := fun d => ((isLst d).bind bools).map fun bs => .bl (bs.any id)
theorem vcl_all : VCl K mg (rAll K) (one allD) := vcl_one fun d1 d v T H Q e r l q => by
  simp only [allD, Option.map_eq_some_iff, Option.bind_eq_some_iff] at e
  obtain ⟨bs, ⟨ds, e1, e2⟩, rfl⟩ := e
  obtain ⟨a, xs, rfl, s, r⟩ := r.lsts e1
  have e3 := Reps.bools _ r e2
  subst e3
  exact ⟨a, bs, rfl, s, q _ H E0 rfl .refl⟩
theorem vcl_any : VCl K mg (rAny K) (one anyD) := vcl_one fun d1 d v T H Q e r l q => by
  simp only [anyD, Option.map_eq_some_iff, Option.bind_eq_some_iff] at e
  obtain ⟨bs, ⟨ds, e1, e2⟩, rfl⟩ := e
  obtain ⟨a, xs, rfl, s, r⟩ := r.lsts e1
  have e3 := Reps.bools _ r e2
  subst e3
  exact ⟨a, bs, rfl, s, q _ H E0 rfl .refl⟩
/-- sum(..), sorted(..) of ints -/
def inD : D → Option Int
  | .int b => some b
  | _ => none
def numsD : List D → Option (List Int)
  | [] => some []
  | d :: ds => (inD d).bind fun b => (numsD ds).map (b :: ·)
theorem inD_some {d : D} {b : Int} (e : inD d = some b) : d = .int b := by
  cases d <;> simp [inD] at e <;> subst e <;> rfl
theorem Reps.numsD {H : Hp} : ∀ (ds : List D) {xs : List V} {A : AS} {bs : List Int}, Reps K mg H ds xs A → numsD ds = some bs → xs = bs.map V.int := by
  intro ds
  induction ds with
  | nil => intro xs A bs h e; cases e; exact h
  | cons d ds ih =>
    intro xs A bs ⟨x, ys, A1, A2, e1, s1, s2, j, h1, h2⟩ e
    simp only [VS.numsD, Option.bind_eq_some_iff, Option.map_eq_some_iff] at e
    obtain ⟨b, e2, bs', e3, rfl⟩ := e
    have e4 := inD_some e2
    subst e4
    have e5 : x = .int b := h1
    rw [e1, e5, ih h2 e3, List.map_cons]
theorem reps_ints {H : Hp} : ∀ ns : List Int, Reps K mg H (ns.map D.int) (ns.map V.int) E0
  | [] => rfl
  | n :: ns => ⟨_, _, E0, E0, rfl, Sub.rfl, Sub.rfl, Dj.e0, rfl, reps_ints ns⟩
/-- sorted: the answer is any list with these facts -/
def sortI (ns : List Int) : List Int := ns.mergeSort (fun a b => decide (a ≤ b))
theorem sortI_perm (ns : List Int) : (sortI ns).Perm ns := List.mergeSort_perm ..
theorem sortI_sorted (ns : List Int) : (sortI ns).Pairwise (· ≤ ·) := by
  have h := List.pairwise_mergeSort (le := fun a b : Int => decide (a ≤ b)) (by intro a b c; simp; omega) (by intro a b; simp; omega) ns
  exact h.imp fun h => by simpa using h
theorem sort_one {ns ms : List Int} (p : ms.Perm ns) (s : ms.Pairwise (· ≤ ·)) : ms = sortI ns := by
  refine List.Perm.eq_of_pairwise (le := fun a b : Int => a ≤ b) ?_ s (sortI_sorted ns) (p.trans (sortI_perm ns).symm)
  intro a b _ _ h1 h2
  omega
def sortedD : D → Option D := fun d => ((isLst d).bind numsD).bind fun ns => if ns.length < 64 then some (.lst true ((sortI ns).map D.int)) else none
theorem vcl_sorted : VCl K mg (rSorted K) (one sortedD) := vcl_one fun d1 d v T H Q e r l q => by
  simp only [sortedD, Option.bind_eq_some_iff] at e
  obtain ⟨ns, ⟨ds, e1, e2⟩, e⟩ := e
  split at e
  · rename_i h
    cases e
    obtain ⟨a, xs, rfl, s, r⟩ := r.lsts e1
    have e3 := Reps.numsD _ r e2
    subst e3
    refine ⟨a, ns, rfl, s, h, fun ms p pm so np => ?_⟩
    have e4 := sort_one pm so
    subst e4
    exact q _ _ (fun a => E0 a ∨ a = p) ⟨p, _, rfl, upd_same, .inr rfl, (reps_ints _).mono Sub.e0⟩ (.new np trivial Live.e0 Sub.e0)
  · cases e
def sumD : D → Option D := fun d => ((isLst d).bind numsD).map fun ns => .int ns.sum
theorem vcl_sum : VCl K mg (rSum K) (one sumD) := vcl_one fun d1 d v T H Q e r l q => by
  simp only [sumD, Option.map_eq_some_iff, Option.bind_eq_some_iff] at e
  obtain ⟨ns, ⟨ds, e1, e2⟩, rfl⟩ := e
  obtain ⟨a, xs, rfl, s, r⟩ := r.lsts e1
  have e3 := Reps.numsD _ r e2
  subst e3
  exact ⟨a, ns, rfl, s, q _ H E0 rfl .refl⟩

/-! ### items -/
def ixD (c i : D) : Option D :=
  match i with
  | .int k => (items c).bind fun ds => atI ds k
  | _ => none
theorem Reps.atI {H : Hp} {ds : List D} {xs : List V} {A : AS} {k : Int} {d : D} (h : Reps K mg H ds xs A) (e : atI ds k = some d) : ∃ v, atI xs k = some v ∧ Rep K mg H d v A := by
  unfold L2.atI at e ⊢
  rw [h.length]
  simp only [Option.bind_eq_some_iff] at e ⊢
  obtain ⟨j, e1, e2⟩ := e
  obtain ⟨v, e3, r⟩ := h.get e2
  exact ⟨v, ⟨j, e1, e3⟩, r⟩
theorem vop_ix : VOp K mg (fun x y H Q => rIxL K x y H Q ∨ rIxT K x y H Q) ixD := by
  intro d1 d2 d v1 v2 T1 T2 H Q e r1 r2 dj l1 l2 q
  unfold ixD at e
  split at e
  · rename_i k
    simp only [Option.bind_eq_some_iff] at e
    obtain ⟨ds, e1, e2⟩ := e
    cases (show v2 = .int k from r2)
    obtain ⟨a, xs, rfl, s, r⟩ := r1.seq e1
    obtain ⟨v, e3, rv⟩ := r.atI e2
    have fin := q v H T1 rv (.same l1 fun a => .inl)
    exact s.imp (fun s => ⟨a, xs, k, v, rfl, rfl, s, e3, fin⟩) fun s => ⟨a, xs, k, v, rfl, rfl, s, e3, fin⟩
  · cases e
theorem ix_lt : IxR X (fun x y H Q => rIxL X.K x y H Q ∨ rIxT X.K x y H Q) := ix_list.or ix_tup

/-! ### isinstance -/
def tyD : D → Option String
  | .non => some "NoneType"
  | .bl _ => some "bool"
  | .int _ => some "int"
  | .str _ => some "str"
  | .tup _ => some "tuple"
  | .lst _ _ => some "list"
  | .rol _ => some "list"
  | _ => none
theorem Rep.tyx {H : Hp} {d : D} {v : V} {A : AS} {n : String} (h : Rep K mg H d v A) (e : tyD d = some n) : TyX K H v (.type n) := by
  cases d with
  | non => cases e; cases (show v = .non from h); exact .base .non
  | bl b => cases e; cases (show v = .bl b from h); exact .base (.bl b)
  | int b => cases e; cases (show v = .int b from h); exact .base (.int b)
  | str b => cases e; cases (show v = .str b from h); exact .base (.str b)
  | tup ds =>
    cases e
    obtain ⟨a, xs, rfl, (s | ⟨o, s⟩) | ⟨o, its, m, s, c, _⟩, r⟩ := h
    · exact .base (.tup s)
    · exact .fTuple s
    · exact .kTuple s c
  | rol ds =>
    cases e
    obtain ⟨a, xs, rfl, ⟨o, s⟩ | ⟨o, its, m, s, c, _⟩, r⟩ := h
    · exact .base (.frz s)
    · exact .kList s c
  | lst m ds =>
    cases e
    obtain ⟨a, xs, rfl, s | ⟨o, s⟩, r⟩ := h.lstAt
    · exact .base (.lst s)
    · exact .base (.frz s)
  | _ => cases e
/-- a built-in type's name as an argument: a text that no data have (never read) -/
def subT (a T : String) : Bool := a == T || (a == "bool" && T == "int")
theorem subT_ok : ∀ a ∈ ["NoneType", "bool", "int", "str", "tuple", "list"], ∀ T ∈ ["bool", "int", "str", "tuple", "list"], kitB a T = some (subT a T) := by decide +kernel
theorem tyD_mem {d : D} {n : String} (e : tyD d = some n) : n ∈ ["NoneType", "bool", "int", "str", "tuple", "list"] := by
  cases d <;> simp [tyD] at e <;> subst e <;> simp
def isiD (Ts : List String) (d : D) : Option D := (tyD d).map fun a => .bl (Ts.any fun T => subT a T)
theorem kitOne_of {a T : String} (ha : a ∈ ["NoneType", "bool", "int", "str", "tuple", "list"]) (hT : T ∈ ["bool", "int", "str", "tuple", "list"]) : PySem.W.kitOne K (.type a) (.type T) = some (subT a T) := kit_ty (subT_ok a ha T hT)
theorem kitAny_of {a : String} (ha : a ∈ ["NoneType", "bool", "int", "str", "tuple", "list"]) : ∀ Ts : List String, (∀ T ∈ Ts, T ∈ ["bool", "int", "str", "tuple", "list"]) → PySem.W.kitAny K (.type a) (Ts.map Value.type) = some (Ts.any fun T => subT a T)
  | [], _ => rfl
  | T :: Ts, h => by
    rw [List.map_cons, List.any_cons]
    have h1 := kitOne_of (K := K) ha (h T List.mem_cons_self)
    have h2 := kitAny_of ha Ts fun U hU => h U (List.mem_cons_of_mem _ hU)
    refine kitAny_cons h1 (fun e => ?_) fun e => ?_
    · rw [e, Bool.false_or]; exact h2
    · rw [e, Bool.true_or]
end
section
variable {X : Cx} {eC : Addr} {W : WX} {S : List Nat}
/-- isinstance(e, T) -/
theorem ve_isi {e : Expr} {m : EM} {T x : Str} {Ts : String} {p p2 pos : Pos} (hT : Ts ∈ ["bool", "int", "str", "tuple", "list"]) (hx : X.mg x = none) (hg : Gl X x) (hv : bootBuiltins x = some (.type Ts))
    (hg2 : Gl X "isinstance") (hm2 : X.mg "isinstance" = none) (hv2 : bootBuiltins "isinstance" = some (.builtin "isinstance")) (he : VE X eC W S e m) (hn : x ≠ "__name__") (hd : (x == ("__debug__" : Str)) = false)
    (hs : starEach [e, .Name x p2] X.env = (false, eval e X.env) :: starEach [.Name x p2] X.env := by rfl) (hs2 : starEach [.Name x p2] X.env = (false, eval (.Name x p2) X.env) :: starEach [] X.env := by rfl)
    (hb : PE X (.Call (.Name "isinstance" p) [e, .Name x p2] [] pos) (tCB (rIsi X.K) (tCons (TV X.K X.mg eC W S m) (tCons (tC (.ty Ts)) tNil))) := by
      exact pe_callB call_isi hg2 hm2 hv2 (pa_cons he (pa_cons (pe_bltn hg hx hv rfl hn hd) pa_nil))) :
    VE X eC W S (.Call (.Name "isinstance" p) [e, .Name x p2] [] pos) (unM (isiD [Ts]) m) := PE.imp hb fun σ H Q q => by
  refine tv_un (r := fun v H Q => rIsi X.K [v, .ty Ts] H Q) (f := isiD [Ts]) (fun d1 d v T1 H Q e r l q => ?_) q
  simp only [isiD, Option.map_eq_some_iff] at e
  obtain ⟨n, e, rfl⟩ := e
  refine ⟨v, .ty Ts, _, .type Ts, subT n Ts, rfl, .ty Ts, r.tyx e, kitOne_of (tyD_mem e) hT, ?_⟩
  refine q _ H E0 ?_ .refl
  show _ = _
  simp
end
end VS
set_option Elab.async false
set_option linter.all false
set_option maxRecDepth 100000
set_option maxHeartbeats 4000000
/-! VS6: tests, and, or, not, conditional expressions, slices, freezing. -/
namespace VS
open PySem PySem.Spec PyProof.Rows L2
section
variable (K : PySem.W.Frag) (mg : Str → Option Value) (eC : Addr) (W : WX) (S : List Nat) (σ : L2.St) (H : Hp) (F : Nat → AS)
/-- what is wanted behind, told of the answer -/
def CT {α : Type} (r : Res α) (Q : α → Hp → Prop) : Prop :=
  match r with
  | .ok b ρ' => ∀ H' F', ER K mg H' ρ' σ F' → Aft S H F H' F' → Q b H'
  | .ex z ρ' => ∀ dd H' F', ER K mg H' ρ' σ F' → H' dd = some (.xd [("reason", .str z)]) → Aft S H F H' F' → W (.ref eC) (some dd) σ H'
  | .bad => False
def CV (r : Res D) (Q : VK) : Prop :=
  match r with
  | .ok d ρ' => ∀ v H' F' T, ER K mg H' ρ' σ F' → Rep K mg H' d v T → Got S H F H' F' T → Q v H'
  | .ex z ρ' => ∀ dd H' F', ER K mg H' ρ' σ F' → H' dd = some (.xd [("reason", .str z)]) → Aft S H F H' F' → W (.ref eC) (some dd) σ H'
  | .bad => False
end
section
variable {K : PySem.W.Frag} {mg : Str → Option Value} {eC : Addr} {W : WX} {S S1 S2 S3 : List Nat} {σ : L2.St} {H : Hp}
theorem tv_iff {m : EM} {Q : VK} : TV K mg eC W S m σ H Q ↔ ∃ ρ F, ER K mg H ρ σ F ∧ CV K mg eC W S σ H F (m ρ) Q := Iff.rfl
theorem tvt_iff {α : Type} {m : M α} {Q : α → Hp → Prop} : TVt K mg eC W S m σ H Q ↔ ∃ ρ F, ER K mg H ρ σ F ∧ CT K mg eC W S σ H F (m ρ) Q := Iff.rfl
/-- a value, then something told by its data -/
theorem tv_t {α : Type} {m : EM} {f : D → List D → Res α} {Q : VK} {Q' : α → Hp → Prop} (q : TVt K mg eC W S (fun ρ => (m ρ).bind f) σ H Q')
    (h : ∀ F d ρ1 v H1 F1 T, ER K mg H1 ρ1 σ F1 → Rep K mg H1 d v T → Got S H F H1 F1 T → CT K mg eC W S σ H F (f d ρ1) Q' → Q v H1) : TV K mg eC W S m σ H Q := by
  obtain ⟨ρ, F, er, q⟩ := q
  refine ⟨ρ, F, er, ?_⟩
  dsimp only at q
  cases e1 : m ρ with
  | bad => rw [e1] at q; exact q
  | ex z ρ1 => rw [e1] at q; exact q
  | ok d ρ1 =>
    rw [e1] at q
    intro v H1 F1 T er1 r g
    exact h F d ρ1 v H1 F1 T er1 r g q
/-- one told thing, then another -/
theorem ct_ct {α β : Type} {m : M α} {f : α → List D → Res β} {Q : β → Hp → Prop} {Q' : α → Hp → Prop} (q : TVt K mg eC W (S1 ++ S2) (fun ρ => (m ρ).bind f) σ H Q)
    (h : ∀ b ρ1 H1 F1, ER K mg H1 ρ1 σ F1 → CT K mg eC W S2 σ H1 F1 (f b ρ1) Q → Q' b H1) : TVt K mg eC W S1 m σ H Q' := by
  obtain ⟨ρ, F, er, q⟩ := q
  refine ⟨ρ, F, er, ?_⟩
  dsimp only at q
  cases e1 : m ρ with
  | bad => rw [e1] at q; exact q
  | ex z ρ1 => rw [e1] at q; exact fun dd H' F' er' x g => q dd H' F' er' x (g.more fun j hj => List.mem_append_left _ hj)
  | ok b ρ1 =>
    rw [e1] at q
    intro H1 F1 er1 g
    refine h b ρ1 H1 F1 er1 ?_
    simp only [Res.bind_ok] at q
    cases e2 : f b ρ1 with
    | bad => rw [e2] at q; exact q
    | ex z ρ2 => rw [e2] at q; exact fun dd H' F' er' x g' => q dd H' F' er' x (g.trans g')
    | ok c ρ2 => rw [e2] at q; exact fun H' F' er' g' => q H' F' er' (g.trans g')
theorem ct_cv {α : Type} {m : M α} {f : α → List D → Res D} {Q : VK} {Q' : α → Hp → Prop} (q : TV K mg eC W (S1 ++ S2) (fun ρ => (m ρ).bind f) σ H Q)
    (h : ∀ b ρ1 H1 F1, ER K mg H1 ρ1 σ F1 → CV K mg eC W S2 σ H1 F1 (f b ρ1) Q → Q' b H1) : TVt K mg eC W S1 m σ H Q' := by
  obtain ⟨ρ, F, er, q⟩ := q
  refine ⟨ρ, F, er, ?_⟩
  dsimp only at q
  cases e1 : m ρ with
  | bad => rw [e1] at q; exact q
  | ex z ρ1 => rw [e1] at q; exact fun dd H' F' er' x g => q dd H' F' er' x (g.more fun j hj => List.mem_append_left _ hj)
  | ok b ρ1 =>
    rw [e1] at q
    intro H1 F1 er1 g
    refine h b ρ1 H1 F1 er1 ?_
    simp only [Res.bind_ok] at q
    cases e2 : f b ρ1 with
    | bad => rw [e2] at q; exact q
    | ex z ρ2 => rw [e2] at q; exact fun dd H' F' er' x g' => q dd H' F' er' x (g.trans g')
    | ok c ρ2 => rw [e2] at q; exact fun v H' F' T er' r g' => q v H' F' T er' r (Got.trans g g')
theorem CT.more {α : Type} {r : Res α} {Q : α → Hp → Prop} {F : Nat → AS} (q : CT K mg eC W S1 σ H F r Q) (s : ∀ j, j ∈ S2 → j ∈ S1) : CT K mg eC W S2 σ H F r Q := by
  cases r with
  | bad => exact q
  | ok b ρ => exact fun H' F' er g => q H' F' er (g.more s)
  | ex z ρ => exact fun dd H' F' er x g => q dd H' F' er x (g.more s)
theorem CV.more {r : Res D} {Q : VK} {F : Nat → AS} (q : CV K mg eC W S1 σ H F r Q) (s : ∀ j, j ∈ S2 → j ∈ S1) : CV K mg eC W S2 σ H F r Q := by
  cases r with
  | bad => exact q
  | ok b ρ => exact fun v H' F' T er rv g => q v H' F' T er rv (g.more s)
  | ex z ρ => exact fun dd H' F' er x g => q dd H' F' er x (g.more s)
def blOf : D → Option Bool
  | .bl b => some b
  | _ => none
def testM (m : EM) : M Bool := fun ρ => (m ρ).bind fun d ρ1 => Res.of (blOf d) ρ1
theorem tv_test {m : EM} {Q : Bool → Hp → Prop} (q : TVt K mg eC W S (testM m) σ H Q) : TV K mg eC W S m σ H (fun x H1 => ∃ c, x = .bl c ∧ Q c H1) :=
  tv_t q fun F d ρ1 v H1 F1 T er1 r g q => by
    cases d with
    | bl b => exact ⟨b, r, q H1 F1 er1 g.toAft⟩
    | _ => exact q.elim
end

section
variable {X : Cx} {eC : Addr} {W : WX} {S S1 S2 S3 : List Nat} {pos : Pos}
theorem vt_val {e : Expr} {m : EM} (h : VE X eC W S e m) (he : ∀ whole, isTrue e X.env whole = (do let v ← whole; standAt e.pos; holding [v] (truthy v)) := by intro _; rfl) : VT X eC W S e (testM m) :=
  PT.imp (pt_val h he) fun _ _ _ q => tv_test q
theorem vt_cmp {a b : Expr} {op : CmpOp} {r : R2} {f : D → D → Option D} {ma mb : EM} (ho : OpR X (compareOp op) r) (h : VOp X.K X.mg r f) (ha : VE X eC W S1 a ma) (hb : VE X eC W S2 b mb) (hm : behindInMarks op b = false := by rfl) :
    VT X eC W (S1 ++ S2) (.Compare a [op] [b] pos) (testM (opM f ma mb)) := PT.imp (pt_cmpR ho ha hb hm) fun _ _ _ q => tv_op (Q := fun x H1 => ∃ c, x = .bl c ∧ _) h (tv_test q)
/-- and, or, not as tests -/
abbrev VW (X : Cx) (eC : Addr) (W : WX) (S : List Nat) (e : Expr) (m : M Bool) : Prop := PW X e (TVt X.K X.mg eC W S m)
theorem PW.imp {X : Cx} {e : Expr} {t t' : TT} (h : PW X e t) (i : ∀ σ H Q, t' σ H Q → t σ H Q) : PW X e t' := ⟨fun wh pins s σ H Q I q => h.run wh pins s σ H Q I (i σ H Q q)⟩
def andM (t u : M Bool) : M Bool := fun ρ => (t ρ).bind fun b ρ1 => if b = true then u ρ1 else .ok false ρ1
def orM (t u : M Bool) : M Bool := fun ρ => (t ρ).bind fun b ρ1 => if b = true then .ok true ρ1 else u ρ1
def notM (t : M Bool) : M Bool := fun ρ => (t ρ).bind fun b ρ1 => .ok (!b) ρ1
theorem vw_and1 {a : Expr} {t : M Bool} (h : VT X eC W S a t) : VW X eC W S (.BoolOp .And [a] pos) t := pw_and1 h
theorem vw_or1 {a : Expr} {t : M Bool} (h : VT X eC W S a t) : VW X eC W S (.BoolOp .Or [a] pos) t := pw_or1 h
theorem vw_and {a b : Expr} {rest : List Expr} {t u : M Bool} (h : VT X eC W S1 a t) (g : VW X eC W S2 (.BoolOp .And (b :: rest) pos) u) : VW X eC W (S1 ++ S2) (.BoolOp .And (a :: b :: rest) pos) (andM t u) :=
  PW.imp (pw_and h g) fun σ H Q q => ct_ct q fun b ρ1 H1 F1 er1 q => by
    cases b with
    | true => rw [if_pos rfl]; exact ⟨ρ1, F1, er1, q⟩
    | false => rw [if_neg Bool.false_ne_true]; exact q H1 F1 er1 .refl
theorem vw_or {a b : Expr} {rest : List Expr} {t u : M Bool} (h : VT X eC W S1 a t) (g : VW X eC W S2 (.BoolOp .Or (b :: rest) pos) u) : VW X eC W (S1 ++ S2) (.BoolOp .Or (a :: b :: rest) pos) (orM t u) :=
  PW.imp (pw_or h g) fun σ H Q q => ct_ct q fun b ρ1 H1 F1 er1 q => by
    cases b with
    | true => rw [if_pos rfl]; exact q H1 F1 er1 .refl
    | false => rw [if_neg Bool.false_ne_true]; exact ⟨ρ1, F1, er1, q⟩
theorem vt_w {e : Expr} {m : M Bool} (h : VW X eC W S e m) : VT X eC W S e m := h.pt
theorem vt_not {a : Expr} {t : M Bool} (h : VT X eC W S a t) : VT X eC W S (.UnaryOp .Not a pos) (notM t) :=
  PT.imp (pt_not h) fun σ H Q q => ct_ct (S2 := []) (f := fun b ρ1 => .ok (!b) ρ1) (by rw [List.append_nil]; exact q) fun b ρ1 H1 F1 er1 q => q H1 F1 er1 .refl
/-- .. as values -/
def andV (ma mb : EM) : EM := fun ρ => (ma ρ).bind fun d ρ1 => (Res.of (blOf d) ρ1).bind fun b ρ2 => if b = true then mb ρ2 else .ok (.bl false) ρ2
def orV (ma mb : EM) : EM := fun ρ => (ma ρ).bind fun d ρ1 => (Res.of (blOf d) ρ1).bind fun b ρ2 => if b = true then .ok (.bl true) ρ2 else mb ρ2
theorem tv_bl {K : PySem.W.Frag} {mg : Str → Option Value} {σ : L2.St} {H : Hp} {m : EM} {f : Bool → List D → Res D} {Q : VK} {Q' : Bool → Hp → Prop} (q : TV K mg eC W (S1 ++ S2) (fun ρ => (m ρ).bind fun d ρ1 => (Res.of (blOf d) ρ1).bind f) σ H Q)
    (h : ∀ b ρ1 H1 F1, ER K mg H1 ρ1 σ F1 → CV K mg eC W S2 σ H1 F1 (f b ρ1) Q → Q' b H1) : TV K mg eC W S1 m σ H (fun x H1 => ∃ c, x = .bl c ∧ Q' c H1) := by
  refine tv_test (ct_cv (S2 := S2) (f := f) (Q := Q) ?_ h)
  obtain ⟨ρ, F, er, q⟩ := q
  refine ⟨ρ, F, er, ?_⟩
  have e : (testM m ρ).bind f = (m ρ).bind fun d ρ1 => (Res.of (blOf d) ρ1).bind f := by
    unfold testM
    cases m ρ <;> rfl
  dsimp only
  rw [e]
  exact q
theorem ve_one {a : Expr} {op : BoolOp} {m : EM} (h : VE X eC W S a m) : VE X eC W S (.BoolOp op [a] pos) m := pe_one h
theorem ve_and {a b : Expr} {rest : List Expr} {ma mb : EM} (h : VE X eC W S1 a ma) (g : VE X eC W S2 (.BoolOp .And (b :: rest) pos) mb) : VE X eC W (S1 ++ S2) (.BoolOp .And (a :: b :: rest) pos) (andV ma mb) :=
  PE.imp (pe_and h g) fun σ H Q q => tv_bl q fun b ρ1 H1 F1 er1 q => by
    cases b with
    | true => rw [if_pos rfl]; exact ⟨ρ1, F1, er1, q⟩
    | false => rw [if_neg Bool.false_ne_true]; exact q _ H1 F1 E0 er1 rfl .refl
theorem ve_or {a b : Expr} {rest : List Expr} {ma mb : EM} (h : VE X eC W S1 a ma) (g : VE X eC W S2 (.BoolOp .Or (b :: rest) pos) mb) : VE X eC W (S1 ++ S2) (.BoolOp .Or (a :: b :: rest) pos) (orV ma mb) :=
  PE.imp (pe_or h g) fun σ H Q q => tv_bl q fun b ρ1 H1 F1 er1 q => by
    cases b with
    | true => rw [if_pos rfl]; exact q _ H1 F1 E0 er1 rfl .refl
    | false => rw [if_neg Bool.false_ne_true]; exact ⟨ρ1, F1, er1, q⟩
def notV (m : EM) : EM := fun ρ => (m ρ).bind fun d ρ1 => (Res.of (blOf d) ρ1).bind fun b ρ2 => .ok (.bl (!b)) ρ2
theorem ve_not {a : Expr} {m : EM} (h : VE X eC W S a m) : VE X eC W S (.UnaryOp .Not a pos) (notV m) :=
  PE.imp (pe_not h) fun σ H Q q => tv_bl (S2 := []) (f := fun b ρ2 => .ok (.bl (!b)) ρ2) (by rw [List.append_nil]; exact q) fun b ρ1 H1 F1 er1 q => q _ H1 F1 E0 er1 rfl .refl
/-- a if t else b -/
def ifM {α : Type} (t : M Bool) (a b : M α) : M α := fun ρ => (t ρ).bind fun c ρ1 => if c = true then a ρ1 else b ρ1
theorem ve_if {c a b : Expr} {t : M Bool} {ma mb : EM} (h : VT X eC W S1 c t) (ha : VE X eC W S2 a ma) (hb : VE X eC W S3 b mb) : VE X eC W (S1 ++ (S2 ++ S3)) (.IfExp c a b pos) (ifM t ma mb) :=
  PE.imp (pe_ifExp h ha hb) fun σ H Q q => ct_cv q fun c ρ1 H1 F1 er1 q => by
    cases c with
    | true =>
      rw [if_pos rfl]
      rw [if_pos rfl] at q
      exact ⟨ρ1, F1, er1, CV.more q fun j hj => List.mem_append_left _ hj⟩
    | false =>
      rw [if_neg Bool.false_ne_true]
      rw [if_neg Bool.false_ne_true] at q
      exact ⟨ρ1, F1, er1, CV.more q fun j hj => List.mem_append_right _ hj⟩
/-- the value is frozen -/
def fzM (m : EM) : EM := fun ρ => (m ρ).bind fun d ρ1 => .ok (fz d) ρ1
theorem ve_fzM {e : Expr} {m : EM} (h : VE X eC W S e m) : VE X eC W S e (fzM m) := PE.imp (PE.frz h) fun σ H Q q => by
  obtain ⟨ρ, F, er, q⟩ := q
  refine ⟨ρ, F, er, ?_⟩
  unfold fzM at q
  cases e1 : m ρ with
  | bad => rw [e1] at q; exact q
  | ex z ρ1 => rw [e1] at q; exact q
  | ok d ρ1 =>
    rw [e1] at q
    intro v H1 F1 T er1 r g
    refine ⟨T, fun H2 f => ?_⟩
    have t : AftT T H1 H2 E0 := ⟨fun a o e n => (f.out a n).trans e, fun _ h => h.elim, Live.e0, fun a e => by
      by_cases x : T a
      · obtain ⟨u, e', m⟩ := g.live a x
        obtain ⟨o, e3⟩ := f.inn a u x e' m
        rw [e] at e3; cases e3
      · rw [f.out a x] at e; exact e⟩
    exact q v H2 F1 E0 (er1.step g.live g.dj t) (Rep.frz f d r Sub.rfl) (Got.step g.toAft er1 g.dj g.new t)
/-- truth of lists, tuples, texts, ints -/
def truD : D → Option Bool
  | .non => some false
  | .bl b => some b
  | .int i => some (i != 0)
  | .str x => if x.length ≤ big then some ((x.length : Int) != 0) else none
  | .tup ds => some (!ds.isEmpty)
  | .lst _ ds => some (!ds.isEmpty)
  | .rol ds => some (!ds.isEmpty)
  | _ => none
def truM (m : EM) : M Bool := fun ρ => (m ρ).bind fun d ρ1 => Res.of (truD d) ρ1
theorem Reps.empty {K : PySem.W.Frag} {mg : Str → Option Value} {H : Hp} {ds : List D} {xs : List V} {A : AS} (r : Reps K mg H ds xs A) : xs.isEmpty = ds.isEmpty := by
  have e := r.length
  cases ds with
  | nil => cases xs with | nil => rfl | cons => simp at e
  | cons => cases xs with | nil => simp at e | cons => rfl
theorem vt_truth {e : Expr} {m : EM} (h : VE X eC W S e m) (he : ∀ whole, isTrue e X.env whole = (do let v ← whole; standAt e.pos; holding [v] (truthy v)) := by intro _; rfl) : VT X eC W S e (truM m) :=
  PT.imp (pt_truth h he) fun σ H Q q => tv_t q fun F d ρ1 v H1 F1 T er1 r g q => by
    cases e : truD d with
    | none => rw [e] at q; exact q.elim
    | some k =>
      rw [e] at q
      refine ⟨k, ?_, q H1 F1 er1 g.toAft⟩
      cases d with
      | non => cases e; cases (show v = .non from r); rfl
      | bl b => cases (show v = .bl b from r); cases e; rfl
      | int i => cases (show v = .int i from r); cases e; rfl
      | str x =>
        simp only [truD] at e
        split at e
        · rename_i hb
          cases (show v = .str x from r); cases e; exact ⟨big_line hb, rfl⟩
        · cases e
      | tup ds => cases e; obtain ⟨a, xs, rfl, s, r⟩ := r; exact .inr (.inl ⟨xs, s, by rw [r.empty]⟩)
      | rol ds => cases e; obtain ⟨a, xs, rfl, s, r⟩ := r; exact .inl ⟨xs, s.sq, by rw [r.empty]⟩
      | lst m ds => cases e; obtain ⟨a, xs, rfl, s, r⟩ := r.lstAt; exact .inl ⟨xs, s.elim .of fun h => h.sq, by rw [r.empty]⟩
      | _ => cases e
end
end VS
set_option Elab.async false
set_option linter.all false
set_option maxRecDepth 100000
set_option maxHeartbeats 4000000
/-! VS7: statements. -/
namespace VS
open PySem PySem.Spec PyProof.Rows L2
/-- how a statement ends -/
inductive Fl where
  | nx | ret (d : D) | bk | ct
abbrev SM := M Fl
/-- behind statements -/
structure AftS (H : Hp) (F : Nat → AS) (H' : Hp) (F' : Nat → AS) : Prop where
  keep : ∀ a o, H a = some o → (∀ j, ¬ F j a) → H' a = some o
  sub : ∀ j a, F' j a → (∃ k, F k a) ∨ H a = none
  dom : ∀ a, H' a = none → H a = none
structure GotS (H : Hp) (F : Nat → AS) (H' : Hp) (F' : Nat → AS) (T : AS) : Prop extends AftS H F H' F' where
  new : ∀ a, T a → (∃ k, F k a) ∨ H a = none
  dj : ∀ j, Dj T (F' j)
  live : Live H' T
/-- the slots but SA hold the same values -/
def Agree (SA : List Nat) (σ σ' : L2.St) : Prop := σ'.length = σ.length ∧ ∀ j, j ∉ SA → σ'[j]? = σ[j]?
section
variable {K : PySem.W.Frag} {mg : Str → Option Value} {H H' H'' : Hp} {ρ ρ' : List D} {σ σ' σ'' : L2.St} {F F' F'' : Nat → AS} {T : AS} {S SA SB : List Nat}
theorem Aft.s (g : Aft S H F H' F') : AftS H F H' F' := ⟨fun a o e n => g.keep a o e fun j _ => n j, fun j a h => by
  rcases g.back h with ⟨k, _, x⟩ | x | x
  · exact .inl ⟨k, x⟩
  · exact .inl ⟨j, x⟩
  · exact .inr x, g.dom⟩
theorem Got.s (g : Got S H F H' F' T) : GotS H F H' F' T := ⟨g.toAft.s, fun a h => (g.new a h).imp (fun ⟨k, _, x⟩ => ⟨k, x⟩) id, g.dj, g.live⟩
theorem AftS.refl : AftS H F H F := ⟨fun _ _ e _ => e, fun j a h => .inl ⟨j, h⟩, fun _ e => e⟩
theorem AftS.trans (g : AftS H F H' F') (g' : AftS H' F' H'' F'') : AftS H F H'' F'' := by
  refine ⟨fun a o e n => g'.keep a o (g.keep a o e n) fun j h => ?_, fun j a h => ?_, fun a e => g.dom a (g'.dom a e)⟩
  · rcases g.sub j a h with ⟨k, x⟩ | x
    · exact n k x
    · rw [e] at x; cases x
  · rcases g'.sub j a h with ⟨k, x⟩ | x
    · exact g.sub k a x
    · exact .inr (g.dom a x)
theorem GotS.trans (g : AftS H F H' F') (g' : GotS H' F' H'' F'' T) : GotS H F H'' F'' T := ⟨g.trans g'.toAftS, fun a h => by
  rcases g'.new a h with ⟨k, x⟩ | x
  · exact g.sub k a x
  · exact .inr (g.dom a x), g'.dj, g'.live⟩
theorem Agree.refl : Agree SA σ σ := ⟨rfl, fun _ _ => rfl⟩
theorem Agree.trans (a : Agree SA σ σ') (b : Agree SA σ' σ'') : Agree SA σ σ'' := ⟨b.1.trans a.1, fun j h => (b.2 j h).trans (a.2 j h)⟩
theorem Agree.more (a : Agree SA σ σ') (s : ∀ j, j ∈ SA → j ∈ SB) : Agree SB σ σ' := ⟨a.1, fun j h => a.2 j fun x => h (s j x)⟩
theorem Agree.set {i : Nat} {v : Option V} (h : i ∈ SA) : Agree SA σ (σ.set i v) := ⟨List.length_set, fun j n => List.getElem?_set_ne (by intro e; subst e; exact n h)⟩
end
section
variable (K : PySem.W.Frag) (mg : Str → Option Value) (eC : Addr) (W : WX) (SA : List Nat) (E : Ends) (σ : L2.St) (H : Hp) (F : Nat → AS)
/-- what is wanted behind a statement, told of its end -/
def CS (r : Res Fl) : Prop :=
  match r with
  | .ok .nx ρ' => ∀ σ' H' F', ER K mg H' ρ' σ' F' → AftS H F H' F' → Agree SA σ σ' → E.nx σ' H'
  | .ok (.ret d) ρ' => ∀ v σ' H' F' T, ER K mg H' ρ' σ' F' → Rep K mg H' d v T → GotS H F H' F' T → Agree SA σ σ' → E.rt v H'
  | .ok .bk ρ' => ∀ σ' H' F', ER K mg H' ρ' σ' F' → AftS H F H' F' → Agree SA σ σ' → E.bk σ' H'
  | .ok .ct ρ' => ∀ σ' H' F', ER K mg H' ρ' σ' F' → AftS H F H' F' → Agree SA σ σ' → E.ct σ' H'
  | .ex z ρ' => ∀ dd σ' H' F', ER K mg H' ρ' σ' F' → H' dd = some (.xd [("reason", .str z)]) → AftS H F H' F' → Agree SA σ σ' → W (.ref eC) (some dd) σ' H'
  | .bad => False
def TVS (m : SM) : TS := fun E σ H => ∃ ρ F, ER K mg H ρ σ F ∧ CS K mg eC W SA E σ H F (m ρ)
end
abbrev VS (X : Cx) (eC : Addr) (W : WX) (SA : List Nat) (st : Stmt) (m : SM) : Prop := PS X st (TVS X.K X.mg eC W SA m)
abbrev VSs (X : Cx) (eC : Addr) (W : WX) (SA : List Nat) (st : List Stmt) (m : SM) : Prop := PSs X st (TVS X.K X.mg eC W SA m)
section
variable {K : PySem.W.Frag} {mg : Str → Option Value} {eC : Addr} {W : WX} {SA S1 S2 : List Nat} {E E' : Ends} {σ σ1 : L2.St} {H H1 : Hp} {F F1 : Nat → AS} {r : Res Fl}
/-- behind a step -/
theorem CS.after (q : CS K mg eC W SA E σ H F r) (g : AftS H F H1 F1) (a : Agree SA σ σ1) : CS K mg eC W SA E σ1 H1 F1 r := by
  cases r with
  | bad => exact q
  | ex z ρ => exact fun dd σ' H' F' er x g' a' => q dd σ' H' F' er x (g.trans g') (a.trans a')
  | ok f ρ =>
    cases f with
    | nx => exact fun σ' H' F' er g' a' => q σ' H' F' er (g.trans g') (a.trans a')
    | bk => exact fun σ' H' F' er g' a' => q σ' H' F' er (g.trans g') (a.trans a')
    | ct => exact fun σ' H' F' er g' a' => q σ' H' F' er (g.trans g') (a.trans a')
    | ret d => exact fun v σ' H' F' T er rv g' a' => q v σ' H' F' T er rv (GotS.trans g g') (a.trans a')
theorem CS.more (q : CS K mg eC W S1 E σ H F r) (s : ∀ j, j ∈ S2 → j ∈ S1) : CS K mg eC W S2 E σ H F r := by
  cases r with
  | bad => exact q
  | ex z ρ => exact fun dd σ' H' F' er x g' a' => q dd σ' H' F' er x g' (a'.more s)
  | ok f ρ =>
    cases f with
    | nx => exact fun σ' H' F' er g' a' => q σ' H' F' er g' (a'.more s)
    | bk => exact fun σ' H' F' er g' a' => q σ' H' F' er g' (a'.more s)
    | ct => exact fun σ' H' F' er g' a' => q σ' H' F' er g' (a'.more s)
    | ret d => exact fun v σ' H' F' T er rv g' a' => q v σ' H' F' T er rv g' (a'.more s)
/-- a value, then a statement told by its data -/
theorem tv_s {S : List Nat} {m : EM} {f : D → List D → Res Fl} {Q : VK} (q : TVS K mg eC W SA (fun ρ => (m ρ).bind f) E σ H)
    (h : ∀ d ρ1 v H1 F1 T, ER K mg H1 ρ1 σ F1 → Rep K mg H1 d v T → (∀ j, Dj T (F1 j)) → Live H1 T → (∀ H2 F2, (∀ a o, H1 a = some o → ¬ T a → (∀ j, ¬ F1 j a) → H2 a = some o) → (∀ j a, F2 j a → T a ∨ (∃ k, F1 k a) ∨ H1 a = none) → (∀ a, H2 a = none → H1 a = none) → AftS H1 F1 H2 F2 ∨ True) →
      (∃ F0 : Nat → AS, ∃ H0, CS K mg eC W SA E σ H0 F0 (f d ρ1) ∧ AftS H0 F0 H1 F1 ∧ (∀ a, T a → (∃ k, F0 k a) ∨ H0 a = none)) → Q v H1) : TV K mg eC W S m σ H Q := by
  obtain ⟨ρ, F, er, q⟩ := q
  refine ⟨ρ, F, er, ?_⟩
  dsimp only at q
  cases e1 : m ρ with
  | bad => rw [e1] at q; exact q
  | ex z ρ1 => rw [e1] at q; exact fun dd H' F' er' x g => q dd σ H' F' er' x g.s .refl
  | ok d ρ1 =>
    rw [e1] at q
    intro v H1 F1 T er1 r g
    exact h d ρ1 v H1 F1 T er1 r g.dj g.live (fun _ _ _ _ _ => .inr trivial) ⟨F, H, q, g.s.toAftS, g.s.new⟩
/-- a told test, then a statement -/
theorem tvt_s {α : Type} {S : List Nat} {m : M α} {f : α → List D → Res Fl} {Q : α → Hp → Prop} (q : TVS K mg eC W SA (fun ρ => (m ρ).bind f) E σ H)
    (h : ∀ b ρ1 H1 F1, ER K mg H1 ρ1 σ F1 → CS K mg eC W SA E σ H1 F1 (f b ρ1) → Q b H1) : TVt K mg eC W S m σ H Q := by
  obtain ⟨ρ, F, er, q⟩ := q
  refine ⟨ρ, F, er, ?_⟩
  dsimp only at q
  cases e1 : m ρ with
  | bad => rw [e1] at q; exact q
  | ex z ρ1 => rw [e1] at q; exact fun dd H' F' er' x g => q dd σ H' F' er' x g.s .refl
  | ok b ρ1 =>
    rw [e1] at q
    intro H1 F1 er1 g
    exact h b ρ1 H1 F1 er1 (CS.after q g.s .refl)
/-- a slot is stored behind a step -/
theorem CS.store {i : Nat} {d : D} {v : V} {ρ1 : List D} {T : AS} {H0 : Hp} {F0 : Nat → AS} {f : Res Fl} (q : CS K mg eC W SA E σ H0 F0 f) (g : AftS H0 F0 H1 F1) (er : ER K mg H1 ρ1 σ F1) (r : Rep K mg H1 d v T) (dj : ∀ j, Dj T (F1 j)) (l : Live H1 T)
    (new : ∀ a, T a → (∃ k, F0 k a) ∨ H0 a = none) (hi : i ∈ SA) (lt : i < ρ1.length) : ER K mg H1 (ρ1.set i d) (σ.set i (some v)) (fun j => if j = i then T else F1 j) ∧ CS K mg eC W SA E (σ.set i (some v)) H1 (fun j => if j = i then T else F1 j) f := by
  refine ⟨er.put lt r l dj, CS.after q ⟨fun a o e n => g.keep a o e n, fun j a h => ?_, g.dom⟩ (.set hi)⟩
  by_cases c : j = i
  · rw [if_pos c] at h; exact new a h
  · rw [if_neg c] at h; exact g.sub j a h
end
section
variable {X : Cx} {eC : Addr} {W : WX} {S S1 S2 SA SB : List Nat} {pos : Pos}
theorem VS.more {st : Stmt} {m : SM} (h : VS X eC W SA st m) (s : ∀ j, j ∈ SA → j ∈ SB) : VS X eC W SB st m := PS.imp h fun E σ H ⟨ρ, F, er, q⟩ => ⟨ρ, F, er, by
  cases e1 : m ρ with
  | bad => rw [e1] at q; exact q
  | ex z ρ => rw [e1] at q; exact fun dd σ' H' F' er x g' a' => q dd σ' H' F' er x g' (a'.more s)
  | ok f ρ =>
    rw [e1] at q
    cases f with
    | nx => exact fun σ' H' F' er g' a' => q σ' H' F' er g' (a'.more s)
    | bk => exact fun σ' H' F' er g' a' => q σ' H' F' er g' (a'.more s)
    | ct => exact fun σ' H' F' er g' a' => q σ' H' F' er g' (a'.more s)
    | ret d => exact fun v σ' H' F' T er rv g' a' => q v σ' H' F' T er rv g' (a'.more s)⟩
def skipM : SM := fun ρ => .ok .nx ρ
def seqM (a b : SM) : SM := fun ρ => (a ρ).bind fun f ρ1 => match f with
  | .nx => b ρ1
  | f => .ok f ρ1
theorem vss_nil : VSs X eC W SA [] skipM := PSs.imp pss_nil fun E σ H ⟨ρ, F, er, q⟩ => q σ H F er .refl .refl
theorem vss_cons {st : Stmt} {rest : List Stmt} {a b : SM} (h : VS X eC W SA st a) (g : VSs X eC W SA rest b) : VSs X eC W SA (st :: rest) (seqM a b) := PSs.imp (pss_cons h g) fun E σ H ⟨ρ, F, er, q⟩ => by
  refine ⟨ρ, F, er, ?_⟩
  unfold seqM at q
  cases e1 : a ρ with
  | bad => rw [e1] at q; exact q
  | ex z ρ1 => rw [e1] at q; exact q
  | ok f ρ1 =>
    rw [e1] at q
    cases f with
    | nx =>
      intro σ1 H1 F1 er1 g1 a1
      exact ⟨ρ1, F1, er1, CS.after (r := b ρ1) q g1 a1⟩
    | bk => exact q
    | ct => exact q
    | ret d => exact q
theorem vss_one {st : Stmt} {a : SM} (h : VS X eC W SA st a) : VSs X eC W SA [st] a := pss_one h
theorem vs_pass : VS X eC W SA (.Pass pos) skipM := PS.imp ps_pass fun E σ H ⟨ρ, F, er, q⟩ => q σ H F er .refl .refl
theorem vs_doc {x j pos pos'} : VS X eC W SA (.Expr (.Constant (.str x) j pos) pos') skipM := PS.imp ps_doc fun E σ H ⟨ρ, F, er, q⟩ => q σ H F er .refl .refl
def dropM (m : EM) : SM := fun ρ => (m ρ).bind fun _ ρ1 => .ok .nx ρ1
theorem vs_expr {e : Expr} {m : EM} (h : VE X eC W S e m) (hs : swapsWith e none pos.line X.env = pure false := by rfl) : VS X eC W SA (.Expr e pos) (dropM m) := PS.imp (ps_expr h hs) fun E σ H q =>
  tv_s (f := fun _ ρ1 => .ok .nx ρ1) q fun d ρ1 v H1 F1 T er1 r dj l _ ⟨F0, H0, q, g, new⟩ => q σ H1 F1 er1 g .refl
def retM (m : EM) : SM := fun ρ => (m ρ).bind fun d ρ1 => .ok (.ret d) ρ1
theorem vs_ret {e : Expr} {m : EM} (h : VE X eC W S e m) : VS X eC W SA (.Return (some e) pos) (retM m) := PS.imp (ps_ret h) fun E σ H q =>
  tv_s (f := fun d ρ1 => .ok (.ret d) ρ1) q fun d ρ1 v H1 F1 T er1 r dj l _ ⟨F0, H0, q, g, new⟩ => q v σ H1 F1 T er1 r ⟨g, new, dj, l⟩ .refl
def retN : SM := fun ρ => .ok (.ret .non) ρ
theorem vs_retN : VS X eC W SA (.Return none pos) retN := PS.imp ps_retN fun E σ H ⟨ρ, F, er, q⟩ => q .non σ H F E0 er rfl ⟨.refl, fun _ h => h.elim, fun _ => Dj.e0, Live.e0⟩ .refl
def iteM (t : M Bool) (a b : SM) : SM := fun ρ => (t ρ).bind fun c ρ1 => if c = true then a ρ1 else b ρ1
theorem vs_if {c : Expr} {x y : List Stmt} {t : M Bool} {a b : SM} (h : VT X eC W S c t) (ha : VSs X eC W SA x a) (hb : VSs X eC W SA y b) : VS X eC W SA (.If c x y pos) (iteM t a b) := PS.imp (ps_if h ha hb) fun E σ H q =>
  tvt_s q fun c ρ1 H1 F1 er1 q => by
    cases c with
    | true => rw [if_pos rfl]; rw [if_pos rfl] at q; exact ⟨ρ1, F1, er1, q⟩
    | false => rw [if_neg Bool.false_ne_true]; rw [if_neg Bool.false_ne_true] at q; exact ⟨ρ1, F1, er1, q⟩
/-- name = value -/
def setM (i : Nat) (m : EM) : SM := fun ρ => (m ρ).bind fun d ρ1 => if i < ρ1.length then .ok .nx (ρ1.set i d) else .bad
theorem vs_set {i : Nat} {x : Str} {e : Expr} {m : EM} {pos' : Pos} (hi : i ∈ SA) (h : VE X eC W S e m) (hN : X.N.Nodup) (hx : X.N[i]? = some x) (hl : Loc X.env.scope x) (hs : swapsWith e (some (.Name x pos')) pos.line X.env = pure false := by rfl)
    (hf : X.fn x = true ∨ X.env.scope.names.lookup x = some .local := by first | exact .inl rfl | exact .inr rfl) : VS X eC W SA (.Assign [.Name x pos'] e pos) (setM i m) := PS.imp (ps_set hN hx hl h hs hf) fun E σ H q =>
  tv_s q fun d ρ1 v H1 F1 T er1 r dj l _ ⟨F0, H0, q, g, new⟩ => by
    split at q
    · rename_i lt
      obtain ⟨er2, q2⟩ := CS.store (i := i) q g er1 r dj l new hi lt
      exact q2 _ H1 _ er2 .refl .refl
    · exact q.elim
end
end VS
set_option Elab.async false
set_option linter.all false
set_option maxRecDepth 100000
set_option maxHeartbeats 4000000
/-! VS8: places: a slot, an item of it, a field of that, .. -/
namespace VS
open PySem PySem.Spec PyProof.Rows L2
section
variable {K : PySem.W.Frag} {mg : Str → Option Value} {H H' : Hp}
/-- an item apart from the others -/
theorem Reps.kid : ∀ {ds : List D} {xs : List V} {A : AS} {k : Nat} {c : D}, Reps K mg H ds xs A → ds[k]? = some c →
    ∃ x A1 A2, xs[k]? = some x ∧ Sub A1 A ∧ Sub A2 A ∧ Dj A1 A2 ∧ Rep K mg H c x A1 ∧ Reps K mg H (ds.set k .un) xs A2
  | [], _, _, _, _, _, e => by simp at e
  | d :: ds, _, _, 0, _, ⟨x, ys, A1, A2, e1, s1, s2, j, h1, h2⟩, e => by
    subst e1
    simp at e; subst e
    exact ⟨x, A1, A2, rfl, s1, s2, j, h1, ⟨x, ys, E0, A2, rfl, Sub.e0, Sub.rfl, Dj.e0, trivial, h2⟩⟩
  | d :: ds, _, _, k + 1, _, ⟨x, ys, A1, A2, e1, s1, s2, j, h1, h2⟩, e => by
    subst e1
    obtain ⟨y, B1, B2, e2, t1, t2, dj, r1, r2⟩ := Reps.kid (k := k) h2 (by simpa using e)
    refine ⟨y, B1, Un2 A1 B2, by simpa using e2, t1.trans s2, fun a h => h.elim (s1 a) fun h => s2 a (t2 a h), fun a h g => g.elim (fun g => j a g (t1 a h)) (dj a h), r1, ?_⟩
    exact ⟨x, ys, A1, B2, rfl, fun _ => .inl, fun _ => .inr, fun a h g => j a h (t2 a g), h1, r2⟩
theorem Reps.fill : ∀ {ds : List D} {xs : List V} {A B : AS} {k : Nat} {c : D} {x : V}, Reps K mg H ds xs A → xs[k]? = some x → Rep K mg H c x B → Dj B A → Reps K mg H (ds.set k c) xs (Un2 A B)
  | [], _, _, _, _, _, _, h, e, _, _ => by
    have e1 := (show _ = [] from h); subst e1
    simp at e
  | d :: ds, _, A, B, 0, _, _, ⟨x, ys, A1, A2, e1, s1, s2, j, h1, h2⟩, e, r, dj => by
    subst e1
    simp at e; subst e
    exact ⟨x, ys, B, A2, rfl, fun _ => .inr, fun a h => .inl (s2 a h), fun a h g => dj a h (s2 a g), r, h2⟩
  | d :: ds, _, A, B, k + 1, _, _, ⟨x, ys, A1, A2, e1, s1, s2, j, h1, h2⟩, e, r, dj => by
    subst e1
    have r2 := Reps.fill (k := k) h2 (by simpa using e) r (fun a h g => dj a h (s2 a g))
    exact ⟨x, ys, A1, Un2 A2 B, rfl, fun a h => .inl (s1 a h), fun a h => h.elim (fun h => .inl (s2 a h)) .inr, fun a h g => g.elim (j a h) fun g => dj a g (s1 a h), h1, r2⟩
/-- a step: an item by its place, a field of an object of a class -/
inductive Stp where
  | ix (k : Nat)
  | fld (c f : Str)
def kidN : D → Stp → Option Nat
  | .lst _ ds, .ix k => if k < ds.length then some k else none
  | .obj _ c ns _, .fld c' f => if c = c' then ns.idxOf? f else none
  | _, _ => none
def kids : D → List D
  | .lst _ ds => ds
  | .obj _ _ _ ds => ds
  | _ => []
/-- a kid is told anew; of what is frozen nothing changes -/
def setKid : D → Nat → D → D
  | .lst true ds, k, c => .lst true (ds.set k c)
  | .obj true n ns ds, k, c => .obj true n ns (ds.set k c)
  | d, _, _ => d
def isFz : D → Bool
  | .lst false _ => true
  | .obj false _ _ _ => true
  | _ => false
/-- x stands at the step from v -/
def StpAt (K : PySem.W.Frag) (mg : Str → Option Value) (H : Hp) (v : V) (p : Stp) (x : V) : Prop :=
  match p with
  | .ix k => ∃ a xs, v = .ref a ∧ LstAt H a xs ∧ xs[k]? = some x
  | .fld c f => ∃ a C dx fs, v = .ref a ∧ mg c = some (.ref C) ∧ (H a = some (.ins C dx fs) ∨ ∃ o, H a = some (.frz o (.ins C dx fs))) ∧ fs.lookup f = some x
theorem lookup_idx {f : Str} : ∀ {fs : List (Str × V)} {k : Nat} {x : V}, (fs.map (·.1)).idxOf? f = some k → (fs.map (·.2))[k]? = some x → fs.lookup f = some x
  | [], _, _, e, _ => by simp at e
  | (g, y) :: fs, k, x, e, e2 => by
    rw [List.map_cons, List.idxOf?_cons] at e
    rw [List.lookup_cons]
    by_cases h : g = f
    · subst h
      simp at e
      subst e
      simp at e2
      simp [e2]
    · have h1 : (g == f) = false := by simpa using h
      have h2 : (f == g) = false := by simpa using Ne.symm h
      rw [h1] at e
      simp only [Bool.false_eq_true, if_false, Option.map_eq_some_iff] at e
      obtain ⟨j, e, rfl⟩ := e
      rw [h2]
      exact lookup_idx e (by simpa using e2)
/-- a kid taken out of what may be changed -/
theorem Rep.kid {d c : D} {v : V} {A : AS} {p : Stp} {k : Nat} (h : Rep K mg H d v A) (e : kidN d p = some k) (e2 : (kids d)[k]? = some c) :
    ∃ x A1 A2, StpAt K mg H v p x ∧ Sub A1 A ∧ Sub A2 A ∧ Dj A1 A2 ∧ Rep K mg H c x A1 ∧ Rep K mg H (setKid d k .un) v A2 ∧ ∀ H', Kp A2 H H' → StpAt K mg H' v p x := by
  cases d with
  | lst m ds =>
    cases p with
    | ix j =>
      simp only [kidN] at e
      split at e <;> cases e
      cases m with
      | true =>
        obtain ⟨a, xs, rfl, q, i, r⟩ := h
        obtain ⟨x, A1, A2, e3, s1, s2, dj, r1, r2⟩ := r.kid e2
        refine ⟨x, A1, (fun b => A2 b ∨ b = a), ⟨a, xs, rfl, .inl q, e3⟩, fun b h => (s1 b h).1, fun b h => h.elim (fun h => (s2 b h).1) (fun h => by rw [h]; exact i), fun b h g => g.elim (dj b h) fun g => (s1 b h).2 g, r1, ?_, fun H' k => ⟨a, xs, rfl, .inl (k a _ q (.inl (.inr rfl))), e3⟩⟩
        exact ⟨a, xs, rfl, q, .inr rfl, r2.mono fun b h => ⟨.inl h, (s2 b h).2⟩⟩
      | false =>
        obtain ⟨a, xs, rfl, q, r⟩ := h
        obtain ⟨x, A1, A2, e3, s1, s2, dj, r1, r2⟩ := r.kid e2
        exact ⟨x, E0, E0, ⟨a, xs, rfl, .inr q, e3⟩, Sub.e0, Sub.e0, Dj.e0, r1.mono s1, ⟨a, xs, rfl, q, r⟩, fun H' k => ⟨a, xs, rfl, .inr (k.fzL q), e3⟩⟩
    | fld => cases e
  | obj m n ns ds =>
    cases p with
    | ix => cases e
    | fld n' f =>
      simp only [kidN] at e
      split at e
      · rename_i en
        subst en
        cases m with
        | true =>
          obtain ⟨a, C, dx, fs, rfl, q, z, i, en, r⟩ := h
          subst en
          obtain ⟨x, A1, A2, e3, s1, s2, dj, r1, r2⟩ := r.kid e2
          refine ⟨x, A1, (fun b => A2 b ∨ b = a), ⟨a, C, dx, fs, rfl, q, .inl z, lookup_idx e e3⟩, fun b h => (s1 b h).1, fun b h => h.elim (fun h => (s2 b h).1) (fun h => by rw [h]; exact i), fun b h g => g.elim (dj b h) fun g => (s1 b h).2 g, r1, ?_, fun H' k => ⟨a, C, dx, fs, rfl, q, .inl (k a _ z (.inl (.inr rfl))), lookup_idx e e3⟩⟩
          exact ⟨a, C, dx, fs, rfl, q, z, .inr rfl, rfl, r2.mono fun b h => ⟨.inl h, (s2 b h).2⟩⟩
        | false =>
          obtain ⟨a, C, dx, fs, o, rfl, q, z, en, r⟩ := h
          subst en
          obtain ⟨x, A1, A2, e3, s1, s2, dj, r1, r2⟩ := r.kid e2
          exact ⟨x, E0, E0, ⟨a, C, dx, fs, rfl, q, .inr ⟨o, z⟩, lookup_idx e e3⟩, Sub.e0, Sub.e0, Dj.e0, r1.mono s1, ⟨a, C, dx, fs, o, rfl, q, z, rfl, r⟩, fun H' k => ⟨a, C, dx, fs, rfl, q, .inr ⟨o, k a _ z (.inr trivial)⟩, lookup_idx e e3⟩⟩
      · cases e
  | _ => cases p <;> cases e
theorem LstAt.inj {a : Addr} {xs ys : List V} (h : H a = some (.lst xs)) (g : LstAt H a ys) : ys = xs := by
  rcases g with g | ⟨o, g⟩
  · rw [h] at g; cases g; rfl
  · rw [h] at g; cases g
theorem idx_lookup {f : Str} : ∀ {fs : List (Str × V)} {k : Nat} {x : V}, (fs.map (·.1)).idxOf? f = some k → fs.lookup f = some x → (fs.map (·.2))[k]? = some x
  | [], _, _, e, _ => by simp at e
  | (g, y) :: fs, k, x, e, e2 => by
    rw [List.map_cons, List.idxOf?_cons] at e
    rw [List.lookup_cons] at e2
    by_cases h : g = f
    · subst h
      simp at e
      subst e
      simp at e2
      simp [e2]
    · have h1 : (g == f) = false := by simpa using h
      have h2 : (f == g) = false := by simpa using Ne.symm h
      rw [h1] at e
      simp only [Bool.false_eq_true, if_false, Option.map_eq_some_iff] at e
      obtain ⟨j, e, rfl⟩ := e
      rw [h2] at e2
      simpa using idx_lookup e e2
/-- .. and put in again -/
theorem Rep.fill {d c : D} {v x : V} {A B : AS} {p : Stp} {k : Nat} (h : Rep K mg H (setKid d k .un) v A) (e : kidN d p = some k) (at_ : StpAt K mg H v p x) (r : Rep K mg H c x B) (dj : Dj B A) : Rep K mg H (setKid d k c) v (Un2 A B) := by
  have but : ∀ {a : Addr}, A a → Sub (Un2 (But A a) B) (But (Un2 A B) a) := fun {a} i b h => h.elim (fun h => ⟨.inl h.1, h.2⟩) fun g => ⟨.inr g, fun z => dj b g (by rw [z]; exact i)⟩
  cases d with
  | lst m ds =>
    cases p with
    | ix j =>
      simp only [kidN] at e
      split at e <;> cases e
      cases m with
      | true =>
        obtain ⟨a, xs, rfl, q, i, r1⟩ := h
        obtain ⟨a', ys, ea, q', e3⟩ := at_
        cases ea
        have e4 := q'.inj q
        subst e4
        have := Reps.fill (k := k) r1 e3 r fun b g h => dj b g h.1
        rw [List.set_set] at this
        exact ⟨a, ys, rfl, q, .inl i, this.mono (but i)⟩
      | false => exact Rep.mono h fun _ => .inl
    | fld => cases e
  | obj m n ns ds =>
    cases p with
    | ix => cases e
    | fld n' f =>
      simp only [kidN] at e
      split at e
      · rename_i en
        subst en
        cases m with
        | true =>
          obtain ⟨a, C, dx, fs, rfl, q, z, i, en, r1⟩ := h
          subst en
          obtain ⟨a', C', dx', fs', ea, q', z', e3⟩ := at_
          cases ea
          have e4 : fs' = fs := by
            rcases z' with z' | ⟨o, z'⟩
            · rw [z] at z'; cases z'; rfl
            · rw [z] at z'; cases z'
          subst e4
          have := Reps.fill (k := k) r1 (idx_lookup e e3) r fun b g h => dj b g h.1
          rw [List.set_set] at this
          exact ⟨a, C, dx, fs', rfl, q, z, .inl i, rfl, this.mono (but i)⟩
        | false => exact Rep.mono h fun _ => .inl
      · cases e
  | _ => cases p <;> cases e
/-! ### paths -/
abbrev Path := List Stp
def getP : D → Path → Option D
  | d, [] => some d
  | d, p :: ps => (kidN d p).bind fun k => ((kids d)[k]?).bind fun c => getP c ps
def putP : D → Path → D → D
  | _, [], x => x
  | d, p :: ps, x => match kidN d p with
    | some k => match (kids d)[k]? with
      | some c => setKid d k (putP c ps x)
      | none => d
    | none => d
/-- is all on the way one's own -/
def PathAt (K : PySem.W.Frag) (mg : Str → Option Value) (H : Hp) : V → Path → V → Prop
  | v, [], x => x = v
  | v, p :: ps, x => ∃ y, StpAt K mg H v p y ∧ PathAt K mg H y ps x
theorem kid_set {d : D} {k : Nat} {p : Stp} {c : D} (e : kidN d p = some k) : kidN (setKid d k c) p = some k := by
  cases d with
  | lst m ds =>
    cases p with
    | ix j =>
      simp only [kidN] at e
      cases m with
      | true => simp only [setKid, kidN, List.length_set]; exact e
      | false => exact e
    | fld => cases e
  | obj m n ns ds =>
    cases m <;> cases p <;> exact e
  | _ => exact e
/-- what stands at the path, apart; the rest with a hole -/
theorem Rep.path : ∀ {ps : Path} {d c : D} {v : V} {A : AS}, Rep K mg H d v A → getP d ps = some c →
    ∃ x A1 A2, PathAt K mg H v ps x ∧ Sub A1 A ∧ Sub A2 A ∧ Dj A1 A2 ∧ Rep K mg H c x A1 ∧ Rep K mg H (putP d ps .un) v A2 ∧ ∀ H', Kp A2 H H' → PathAt K mg H' v ps x := by
  intro ps
  induction ps with
  | nil =>
    intro d c v A h e
    cases e
    exact ⟨v, A, E0, rfl, Sub.rfl, Sub.e0, Dj.e0r, h, trivial, fun _ _ => rfl⟩
  | cons p ps ih =>
    intro d c v A h e
    simp only [getP, Option.bind_eq_some_iff] at e
    obtain ⟨k, e1, b, e2, e3⟩ := e
    obtain ⟨y, A1, A2, at1, s1, s2, dj, r1, r2, kp1⟩ := h.kid e1 e2
    obtain ⟨x, B1, B2, at2, t1, t2, dj2, r3, r4, kp2⟩ := ih r1 e3
    refine ⟨x, B1, Un2 A2 B2, ⟨y, at1, at2⟩, t1.trans s1, fun a h => h.elim (s2 a) fun h => s1 a (t2 a h), fun a h g => g.elim (fun g => dj a (t1 a h) g) (dj2 a h), r3, ?_, fun H' k => ⟨y, kp1 H' (k.sub fun _ => .inl), kp2 H' (k.sub fun _ => .inr)⟩⟩
    simp only [putP, e1, e2]
    exact Rep.fill r2 e1 at1 r4 fun a h g => dj a (t2 a h) g
theorem StpAt.inj {d : D} {v x y : V} {A : AS} {p : Stp} {k : Nat} (h : Rep K mg H d v A) (e : kidN d p = some k) (a : StpAt K mg H v p x) (b : StpAt K mg H v p y) : x = y := by
  cases p with
  | ix j =>
    obtain ⟨a1, xs, rfl, q1, e1⟩ := a
    obtain ⟨a2, ys, ea, q2, e2⟩ := b
    cases ea
    have : xs = ys := by
      rcases q1 with q1 | ⟨o, q1⟩
      · exact (q2.inj q1).symm
      · rcases q2 with q2 | ⟨o', q2⟩
        · rw [q1] at q2; cases q2
        · rw [q1] at q2; cases q2; rfl
    subst this
    rw [e1] at e2; exact Option.some.inj e2
  | fld c f =>
    obtain ⟨a1, C, dx, fs, rfl, m1, q1, e1⟩ := a
    obtain ⟨a2, C', dx', fs', ea, m2, q2, e2⟩ := b
    cases ea
    have : fs = fs' := by
      rcases q1 with q1 | ⟨o, q1⟩ <;> rcases q2 with q2 | ⟨o', q2⟩ <;> (rw [q1] at q2; cases q2)
      · rfl
      · rfl
    subst this
    rw [e1] at e2; exact Option.some.inj e2
theorem kids_set {d : D} {k : Nat} {p : Stp} {b c : D} (e : kidN d p = some k) (e2 : (kids d)[k]? = some b) (f : isFz d = false) : (kids (setKid d k c))[k]? = some c ∧ setKid (setKid d k c) k .un = setKid d k .un ∧ ∀ x, setKid (setKid d k c) k x = setKid d k x := by
  have lt := (List.getElem?_eq_some_iff.mp e2).1
  cases d with
  | lst m ds =>
    cases m with
    | true =>
      refine ⟨?_, ?_, fun x => ?_⟩
      · show (ds.set k c)[k]? = some c
        exact List.getElem?_set_self (show k < ds.length from lt)
      · simp only [setKid, List.set_set]
      · simp only [setKid, List.set_set]
    | false => cases f
  | obj m n ns ds =>
    cases m with
    | true =>
      refine ⟨?_, ?_, fun x => ?_⟩
      · show (ds.set k c)[k]? = some c
        exact List.getElem?_set_self (show k < ds.length from lt)
      · simp only [setKid, List.set_set]
      · simp only [setKid, List.set_set]
    | false => cases f
  | _ => cases p <;> cases e
theorem Rep.pathFill : ∀ {ps : Path} {d c0 c : D} {v x : V} {A B : AS}, Rep K mg H (putP d ps .un) v A → getP d ps = some c0 → PathAt K mg H v ps x → Rep K mg H c x B → Dj B A → Rep K mg H (putP d ps c) v (Un2 A B) := by
  intro ps
  induction ps with
  | nil =>
    intro d c0 c v x A B h e a r dj
    cases a
    exact Rep.mono r fun _ => .inr
  | cons p ps ih =>
    intro d c0 c v x A B h e a r dj
    simp only [getP, Option.bind_eq_some_iff] at e
    obtain ⟨k, e1, b, e2, e3⟩ := e
    obtain ⟨y, at1, at2⟩ := a
    simp only [putP, e1, e2] at h ⊢
    by_cases f : isFz d = true
    · have : ∀ z, setKid d k z = d := fun z => by
        cases d with
        | lst m ds => cases m with | true => cases f | false => rfl
        | obj m n ns ds => cases m with | true => cases f | false => rfl
        | _ => cases f
      rw [this] at h ⊢
      exact Rep.mono h fun _ => .inl
    · have f' : isFz d = false := by simpa using f
      obtain ⟨k1, k2, k3⟩ := kids_set (c := putP b ps .un) e1 e2 f'
      obtain ⟨y', A1, A2, at1', s1, s2, dj1, r1, r2, _⟩ := Rep.kid h (kid_set e1) k1
      have ey := StpAt.inj h (kid_set e1) at1 at1'
      subst ey
      rw [k2] at r2
      have r3 := ih r1 e3 at2 r fun a g i => dj a g (s1 a i)
      refine Rep.mono (Rep.fill r2 e1 at1 r3 fun a g i => g.elim (fun g => dj1 a g i) fun g => dj a g (s2 a i)) fun a g => ?_
      rcases g with g | g | g
      · exact .inl (s2 a g)
      · exact .inl (s1 a g)
      · exact .inr g
end
end VS
set_option Elab.async false
set_option linter.all false
set_option maxRecDepth 100000
set_option maxHeartbeats 4000000
/-! VS9: reading places; arguments that are places. -/
namespace VS
open PySem PySem.Spec PyProof.Rows L2
section
variable {K : PySem.W.Frag} {mg : Str → Option Value} {H H' : Hp} {σ : L2.St}
theorem PathAt.snoc {p : Stp} : ∀ {ps : Path} {v y x : V}, PathAt K mg H v ps y → StpAt K mg H y p x → PathAt K mg H v (ps ++ [p]) x
  | [], _, _, _, a, b => by cases a; exact ⟨_, b, rfl⟩
  | q :: ps, _, _, _, ⟨z, h1, h2⟩, b => ⟨z, h1, PathAt.snoc h2 b⟩
theorem PathAt.last {p : Stp} : ∀ {ps : Path} {v x : V}, PathAt K mg H v (ps ++ [p]) x → ∃ y, PathAt K mg H v ps y ∧ StpAt K mg H y p x
  | [], v, x, ⟨z, h1, h2⟩ => by cases h2; exact ⟨v, rfl, h1⟩
  | q :: ps, v, x, ⟨z, h1, h2⟩ => by
    obtain ⟨y, h3, h4⟩ := PathAt.last h2
    exact ⟨y, ⟨z, h1, h3⟩, h4⟩
/-- slot i holds v0, and at the path from it stands v -/
def PlcAt (K : PySem.W.Frag) (mg : Str → Option Value) (H : Hp) (σ : L2.St) (i : Nat) (ps : Path) (v : V) : Prop := ∃ v0, σ[i]? = some (some v0) ∧ PathAt K mg H v0 ps v
end
/-- e is the place i, ps -/
abbrev VP (X : Cx) (e : Expr) (i : Nat) (ps : Path) : Prop := PE X e (fun σ H Q => ∃ v, PlcAt X.K X.mg H σ i ps v ∧ Q v H)
section
variable {X : Cx} {eC : Addr} {W : WX} {S S1 S2 : List Nat} {pos : Pos}
theorem vp_var {e : Expr} {i : Nat} (h : PE X e (tVar i)) : VP X e i [] := PE.imp h fun σ H Q ⟨v, ⟨v0, e, a⟩, q⟩ => by
  cases a; exact ⟨_, e, q⟩
theorem vp_ix {e : Expr} {i : Nat} {ps : Path} {k : Nat} {j : Nat} {p2 : Pos} (h : VP X e i ps) (hs : PlainIx (.Constant (.int (k : Nat)) j p2) := by exact fun _ _ => rfl) : VP X (.Subscript e (.Constant (.int (k : Nat)) j p2) pos) i (ps ++ [.ix k]) :=
  PE.imp (pe_ix ix_list h pe_int hs) fun σ H Q ⟨x, ⟨v0, e0, a⟩, q⟩ => by
    obtain ⟨y, a1, b, xs, rfl, l, e2⟩ := a.last
    refine ⟨_, ⟨v0, e0, a1⟩, b, xs, ((k : Nat) : Int), x, rfl, rfl, l.elim .of fun h => h.sq, ?_, q⟩
    exact atI_nat e2
/-- reading a field of an object, its own or frozen -/
theorem ins_getF {P : Program} {w : World} {H : Hp} {h : Heap} {a C dx : Addr} {fs : List (Str × V)} (hok : HOk P w H h) (e : H a = some (.ins C dx fs) ∨ ∃ o, H a = some (.frz o (.ins C dx fs))) : ∃ mA, ObjM h a dx C mA ∧ (∀ f, RelO (fs.lookup f) (mA f)) := by
  rcases e with e | ⟨o, e⟩
  · obtain ⟨mA, O, r, _⟩ := ins_get hok e
    exact ⟨mA, O, r⟩
  · obtain ⟨_, d, z, ne, ob, mA, n, r, q⟩ := (show ObjOk P w H h a (.frz o (.ins C dx fs)) from hok a _ e)
    exact ⟨mA, ⟨ob, n, ne⟩, r⟩
theorem vp_fld {e : Expr} {i : Nat} {ps : Path} {c f : Str} (h : VP X e i ps) (hc : ∀ C, X.mg c = some (.ref C) → Cls X.K C ∧ NoAttr X.K C f) (hb : attributeBase e f X.env (eval e X.env) = eval e X.env := by rfl) : VP X (.Attribute e f pos) i (ps ++ [.fld c f]) := by
  refine ⟨fun pins s σ H Q I ⟨x, ⟨v0, e0, a⟩, q⟩ => ?_⟩
  obtain ⟨y, a1, b, C, dx, fs, rfl, m, z, l⟩ := a.last
  obtain ⟨cl, n⟩ := hc C m
  refine attr_of hb (thn (h.run pins s σ H (fun v H1 => v = .ref b ∧ H1 = H) I ⟨_, ⟨v0, e0, a1⟩, rfl, rfl⟩) fun u s1 ⟨y, H1, I1, rx, ey, eH⟩ => ?_)
  subst ey; subst eH
  obtain rfl : u = Value.ref b := rx
  obtain ⟨mA, O, r⟩ := ins_getF I1.hok z
  obtain ⟨u, hu, ru⟩ := RelO.some_of (v := x) (o := mA f) (by rw [← l]; exact r f)
  exact get_map I1.kIn O (cl.get f) cl.hd n hu (handed_of ru) ⟨x, H1, I1.tok _, ru, q⟩
/-- a place is read; what it holds can't be changed -/
def rdP (i : Nat) (ps : Path) : EM := fun ρ => match (ρ[i]?).bind (getP · ps) with
  | some d => if has? d && pure? d then .ok d ρ else .bad
  | none => .bad
theorem has_root {K : PySem.W.Frag} {mg : Str → Option Value} {H : Hp} {d c : D} {ps : Path} {o : Option V} {A : AS} (e : getP d ps = some c) (hc : has? c = true) (r : RepO K mg H d o A) : ∃ v, o = some v ∧ Rep K mg H d v A := by
  cases o with
  | some v => exact ⟨v, rfl, r⟩
  | none =>
    have e1 : d = .un := r
    subst e1
    cases ps with
    | nil => cases e; cases hc
    | cons p ps => cases p <;> cases e
theorem ve_rdP {e : Expr} {i : Nat} {ps : Path} (h : VP X e i ps) : VE X eC W [] e (rdP i ps) := PE.imp h fun σ H Q ⟨ρ, F, er, q⟩ => by
  unfold rdP at q
  cases e1 : ρ[i]? with
  | none => rw [e1] at q; exact q.elim
  | some d0 =>
    rw [e1] at q
    simp only [Option.bind_some] at q
    cases e2 : getP d0 ps with
    | none => rw [e2] at q; exact q.elim
    | some d =>
      rw [e2] at q
      dsimp only at q
      by_cases c : (has? d && pure? d) = true
      · rw [if_pos c] at q
        simp only [Bool.and_eq_true] at c
        obtain ⟨o, e3, r⟩ := er.get i d0 e1
        obtain ⟨v0, rfl, r⟩ := has_root e2 c.1 r
        obtain ⟨x, A1, A2, a, s1, s2, dj, r1, r2, _⟩ := r.path e2
        exact ⟨x, ⟨v0, e3, a⟩, q x H F E0 er (Rep.fixed d c.2 r1) .refl⟩
      · rw [if_neg c] at q; exact q.elim
end
/-! ### arguments: values, places -/
inductive AK where
  | tmp
  | plc (i : Nat) (ps : Path)
def roots : List AK → List Nat
  | [] => []
  | .tmp :: ks => roots ks
  | .plc i _ :: ks => i :: roots ks
def RepsK (K : PySem.W.Frag) (mg : Str → Option Value) (H : Hp) (σ : L2.St) : List AK → List D → List V → AS → Prop
  | [], ds, vs, _ => ds = [] ∧ vs = []
  | .tmp :: ks, ds, vs, A => ∃ d es x ys A1 A2, ds = d :: es ∧ vs = x :: ys ∧ Sub A1 A ∧ Sub A2 A ∧ Dj A1 A2 ∧ Rep K mg H d x A1 ∧ RepsK K mg H σ ks es ys A2
  | .plc i ps :: ks, ds, vs, A => ∃ x ys, vs = x :: ys ∧ PlcAt K mg H σ i ps x ∧ RepsK K mg H σ ks ds ys A
def TVr (K : PySem.W.Frag) (mg : Str → Option Value) (eC : Addr) (W : WX) (S : List Nat) (ks : List AK) (m : M (List D)) : TA := fun σ H Q => ∃ ρ F, ER K mg H ρ σ F ∧
  match m ρ with
  | .ok ds ρ' => ∀ vs H' F' T, ER K mg H' ρ' σ F' → RepsK K mg H' σ ks ds vs T → Got S H F H' F' T → Q vs H'
  | .ex z ρ' => ∀ dd H' F', ER K mg H' ρ' σ F' → H' dd = some (.xd [("reason", .str z)]) → Aft S H F H' F' → W (.ref eC) (some dd) σ H'
  | .bad => False
abbrev VR (X : Cx) (eC : Addr) (W : WX) (S : List Nat) (ks : List AK) (es : List Expr) (m : M (List D)) : Prop := PA X es (TVr X.K X.mg eC W S ks m)
section
variable {X : Cx} {eC : Addr} {W : WX} {S S1 S2 : List Nat} {pos : Pos}
theorem vr_nil : VR X eC W [] [] [] nilM := PA.imp pa_nil fun σ H Q ⟨ρ, F, er, q⟩ => q [] H F E0 er ⟨rfl, rfl⟩ .refl
theorem vr_cons {e : Expr} {es : List Expr} {ks : List AK} {m : EM} {ms : M (List D)} (h : VE X eC W S1 e m) (hs : VR X eC W S2 ks es ms)
    (hst : starEach (e :: es) X.env = (false, eval e X.env) :: starEach es X.env := by rfl) : VR X eC W (S1 ++ S2) (.tmp :: ks) (e :: es) (consM m ms) := PA.imp (pa_cons h hs hst) fun σ H Q ⟨ρ, F, er, q⟩ => by
  refine ⟨ρ, F, er, ?_⟩
  unfold consM at q
  cases e1 : m ρ with
  | bad => rw [e1] at q; exact q
  | ex z ρ1 => rw [e1] at q; exact fun dd H' F' er' x g => q dd H' F' er' x (g.more fun j hj => List.mem_append_left _ hj)
  | ok d1 ρ1 =>
    rw [e1] at q
    intro v1 H1 F1 T1 er1 r1 g1
    refine ⟨ρ1, F1, er1, ?_⟩
    simp only [Res.bind_ok] at q
    cases e2 : ms ρ1 with
    | bad => rw [e2] at q; exact q
    | ex z ρ2 => rw [e2] at q; exact fun dd H' F' er' x g => q dd H' F' er' x (g1.toAft.trans g)
    | ok ds ρ2 =>
      rw [e2] at q
      intro vs H2 F2 T2 er2 r2 g2
      simp only [Res.bind_ok] at q
      have kp := g2.toAft.kp er1 g1.dj
      have g12 := Got.trans g1.toAft g2
      refine q (v1 :: vs) H2 F2 (Un2 T1 T2) er2 ⟨d1, ds, v1, vs, T1, T2, rfl, rfl, fun _ => .inl, fun _ => .inr, g2.djT g1.live g1.dj, Rep.keep d1 r1 kp, r2⟩ ⟨g12.toAft, fun a x => ?_, fun j a x y => ?_, fun a x => ?_⟩
      · rcases x with x | x
        · exact (g1.new a x).imp (fun ⟨k, hk, y⟩ => ⟨k, List.mem_append_left _ hk, y⟩) id
        · exact g12.new a x
      · exact x.elim (fun x => g2.toAft.djP g1.live g1.dj j a x y) fun x => g2.dj j a x y
      · exact x.elim (g1.live.keep kp a) (g2.live a)
def isPlc (i : Nat) (ps : Path) (ρ : List D) : Bool := match (ρ[i]?).bind (getP · ps) with
  | some c => has? c
  | none => false
def plcM (i : Nat) (ps : Path) (ms : M (List D)) : M (List D) := fun ρ => if isPlc i ps ρ = true then ms ρ else .bad
theorem isPlc_some {i : Nat} {ps : Path} {ρ : List D} (h : isPlc i ps ρ = true) : ∃ d0 c, ρ[i]? = some d0 ∧ getP d0 ps = some c ∧ has? c = true := by
  unfold isPlc at h
  cases e1 : ρ[i]? with
  | none => rw [e1] at h; cases h
  | some d0 =>
    rw [e1] at h
    simp only [Option.bind_some] at h
    cases e2 : getP d0 ps with
    | none => rw [e2] at h; cases h
    | some c => rw [e2] at h; exact ⟨d0, c, rfl, e2, h⟩
/-- a slot that is not touched is kept -/
theorem Aft.kpSlot {K : PySem.W.Frag} {mg : Str → Option Value} {H H' : Hp} {ρ : List D} {σ : L2.St} {F F' : Nat → AS} (g : Aft S H F H' F') (er : ER K mg H ρ σ F) {i : Nat} (n : i ∉ S) : Kp (F i) H H' := fun a o e h =>
  g.keep a o e fun j hj x => h.elim (fun y => er.dj i j (by intro z; subst z; exact n hj) a y x) fun f => (er.live j).nfix e f x
theorem vr_plc {e : Expr} {es : List Expr} {i : Nat} {ps : Path} {ks : List AK} {ms : M (List D)} (h : VP X e i ps) (hs : VR X eC W S ks es ms) (n : i ∉ S := by decide)
    (hst : starEach (e :: es) X.env = (false, eval e X.env) :: starEach es X.env := by rfl) : VR X eC W S (.plc i ps :: ks) (e :: es) (plcM i ps ms) := PA.imp (pa_cons h hs hst) fun σ H Q ⟨ρ, F, er, q⟩ => by
  unfold plcM at q
  by_cases c : isPlc i ps ρ = true
  · rw [if_pos c] at q
    obtain ⟨d0, c0, e1, e2, hc⟩ := isPlc_some c
    obtain ⟨o, e3, r⟩ := er.get i d0 e1
    obtain ⟨v0, rfl, r⟩ := has_root e2 hc r
    obtain ⟨x, A1, A2, a, s1, s2, dj, r1, r2, kp⟩ := r.path e2
    refine ⟨x, ⟨v0, e3, a⟩, ρ, F, er, ?_⟩
    cases e4 : ms ρ with
    | bad => rw [e4] at q; exact q
    | ex z ρ1 => rw [e4] at q; exact q
    | ok ds ρ1 =>
      rw [e4] at q
      exact fun vs H1 F1 T er1 r3 g => q (x :: vs) H1 F1 T er1 ⟨x, vs, rfl, ⟨v0, e3, kp H1 ((g.toAft.kpSlot er n).sub s2)⟩, r3⟩ g
  · rw [if_neg c] at q; exact q.elim
end
/-- the arguments' data: what the places hold is taken out -/
def takeK : List AK → List D → List D → Option (List D × List D)
  | [], _, ρ => some ([], ρ)
  | .tmp :: ks, d :: ds, ρ => (takeK ks ds ρ).map fun p => (d :: p.1, p.2)
  | .tmp :: _, [], _ => none
  | .plc i ps :: ks, ds, ρ => (ρ[i]?).bind fun d0 => (getP d0 ps).bind fun c => if has? c then (takeK ks ds (ρ.set i (putP d0 ps .un))).map fun p => (c :: p.1, p.2) else none
/-- .. and put in again -/
def putK : List AK → List D → List D → Option (List D)
  | [], _, ρ => some ρ
  | .tmp :: ks, _ :: es, ρ => putK ks es ρ
  | .tmp :: _, [], _ => none
  | .plc _ _ :: _, [], _ => none
  | .plc i ps :: ks, e :: es, ρ => (putK ks es ρ).bind fun ρ' => (ρ'[i]?).bind fun d0 => if (getP d0 ps).isSome then some (ρ'.set i (putP d0 ps e)) else none
section
variable {K : PySem.W.Frag} {mg : Str → Option Value} {H H' : Hp} {σ : L2.St}
def PathsK (K : PySem.W.Frag) (mg : Str → Option Value) (H : Hp) (σ : L2.St) : List AK → List V → Prop
  | [], _ => True
  | .tmp :: ks, vs => PathsK K mg H σ ks vs.tail
  | .plc i ps :: ks, vs => (∃ x ys, vs = x :: ys ∧ PlcAt K mg H σ i ps x) ∧ PathsK K mg H σ ks vs.tail
theorem roots_get : ∀ {ks : List AK} {ds ρ : List D} {p : List D × List D} {j : Nat}, takeK ks ds ρ = some p → j ∉ roots ks → p.2[j]? = ρ[j]?
  | [], _, _, _, _, e, _ => by cases e; rfl
  | .tmp :: ks, [], _, _, _, e, _ => by cases e
  | .tmp :: ks, d :: ds, _, _, _, e, n => by
    simp only [takeK, Option.map_eq_some_iff] at e
    obtain ⟨q, e, rfl⟩ := e
    show q.2[_]? = _
    exact roots_get (ks := ks) (p := q) e n
  | .plc i ps :: ks, ds, ρ, _, j, e, n => by
    simp only [takeK, Option.bind_eq_some_iff] at e
    obtain ⟨d0, e1, c, e2, e⟩ := e
    split at e
    · simp only [Option.map_eq_some_iff] at e
      obtain ⟨q, e, rfl⟩ := e
      have h := roots_get (ks := ks) (p := q) e fun x => n (List.mem_cons_of_mem _ x)
      show q.2[j]? = _
      rw [h, List.getElem?_set_ne]
      intro z; subst z; exact n List.mem_cons_self
    · cases e
theorem PathAt.inj : ∀ {ps : Path} {d c : D} {v x y : V} {A : AS}, Rep K mg H d v A → getP d ps = some c → PathAt K mg H v ps x → PathAt K mg H v ps y → x = y
  | [], _, _, _, _, _, _, _, _, a, b => by cases a; cases b; rfl
  | p :: ps, _, _, _, _, _, _, h, e, ⟨z, a1, a2⟩, ⟨w, b1, b2⟩ => by
    simp only [getP, Option.bind_eq_some_iff] at e
    obtain ⟨k, e1, b, e2, e3⟩ := e
    have ez := StpAt.inj h e1 a1 b1
    subst ez
    obtain ⟨u, A1, A2, c1, s1, s2, dj, r1, r2, _⟩ := h.kid e1 e2
    have eu := StpAt.inj h e1 a1 c1
    subst eu
    exact PathAt.inj r1 e3 a2 b2
/-- taking -/
theorem take_ok : ∀ {ks : List AK} {ds ρ ds' ρ' : List D} {vs : List V} {F : Nat → AS} {T : AS}, (roots ks).Nodup → takeK ks ds ρ = some (ds', ρ') → RepsK K mg H σ ks ds vs T → ER K mg H ρ σ F → Live H T → (∀ j, Dj T (F j)) →
    ∃ F' T', ER K mg H ρ' σ F' ∧ Reps K mg H ds' vs T' ∧ Live H T' ∧ (∀ j, Dj T' (F' j)) ∧ (∀ a, T' a → T a ∨ ∃ i, i ∈ roots ks ∧ F i a) ∧ (∀ j, Sub (F' j) (F j)) ∧ (∀ j, j ∉ roots ks → F' j = F j) ∧
      ∀ H2, (∀ j, Kp (F' j) H H2) → PathsK K mg H2 σ ks vs := by
  intro ks
  induction ks with
  | nil =>
    intro ds ρ ds' ρ' vs F T nd e r er l dj
    cases e
    obtain ⟨rfl, rfl⟩ := r
    exact ⟨F, E0, er, rfl, Live.e0, fun _ => Dj.e0, fun _ h => h.elim, fun _ => Sub.rfl, fun _ _ => rfl, fun _ _ => trivial⟩
  | cons k ks ih =>
    intro ds ρ ds' ρ' vs F T nd e r er l dj
    cases k with
    | tmp =>
      obtain ⟨d, es, x, ys, A1, A2, rfl, rfl, s1, s2, d12, r1, r2⟩ := r
      simp only [takeK, Option.map_eq_some_iff] at e
      obtain ⟨⟨q1, q2⟩, e, e'⟩ := e
      cases e'
      obtain ⟨F', T', er', r', l', dj', t', f', g', p'⟩ := ih nd e r2 er (l.sub s2) fun j => (dj j).sub s2 Sub.rfl
      have dA : Dj A1 T' := fun a h g => by
        rcases t' a g with g | ⟨i, _, g⟩
        · exact d12 a h g
        · exact dj i a (s1 a h) g
      refine ⟨F', Un2 A1 T', er', ⟨x, ys, A1, T', rfl, fun _ => .inl, fun _ => .inr, dA, r1, r'⟩, (l.sub s1).un l', fun j a h g => h.elim (fun h => dj j a (s1 a h) (f' j a g)) fun h => dj' j a h g, fun a h => ?_, f', g', fun H2 k => p' H2 k⟩
      rcases h with h | h
      · exact .inl (s1 a h)
      · exact (t' a h).imp (s2 a) id
    | plc i ps =>
      obtain ⟨x, ys, rfl, at1, r2⟩ := r
      simp only [takeK, Option.bind_eq_some_iff] at e
      obtain ⟨d0, e1, c, e2, e⟩ := e
      split at e
      · rename_i hc
        simp only [Option.map_eq_some_iff] at e
        obtain ⟨⟨q1, q2⟩, e, e'⟩ := e
        cases e'
        obtain ⟨o, e3, r⟩ := er.get i d0 e1
        obtain ⟨v0, rfl, r⟩ := has_root e2 hc r
        obtain ⟨x', A1, A2, a, s1, s2, d12, r1, r3, kp⟩ := r.path e2
        have ex : x' = x := by
          obtain ⟨v1, e4, a'⟩ := at1
          rw [e3] at e4; cases e4
          exact PathAt.inj r e2 a a'
        subst ex
        have nd' := (List.nodup_cons.mp nd)
        have er1 : ER K mg H (ρ.set i (putP d0 ps .un)) σ (fun j => if j = i then A2 else F j) := er.again e3 r3 ((er.live i).sub s2) fun j n => (er.dj i j (Ne.symm n)).sub s2 Sub.rfl
        obtain ⟨F', T', er', r', l', dj', t', f', g', p'⟩ := ih nd'.2 e r2 er1 l fun j => by
          by_cases z : j = i
          · rw [if_pos z]; exact (dj i).sub Sub.rfl s2
          · rw [if_neg z]; exact dj j
        have sF : ∀ j, Sub (F' j) (F j) := fun j a h => by
          have := f' j a h
          by_cases z : j = i
          · rw [if_pos z] at this; subst z; exact s2 a this
          · rw [if_neg z] at this; exact this
        have dA : Dj A1 T' := fun a h g => by
          rcases t' a g with g | ⟨k, hk, g⟩
          · exact dj i a g (s1 a h)
          · have n : k ≠ i := fun z => nd'.1 (z ▸ hk)
            rw [if_neg n] at g
            exact er.dj i k (Ne.symm n) a (s1 a h) g
        refine ⟨F', Un2 A1 T', er', ⟨x', ys, A1, T', rfl, fun _ => .inl, fun _ => .inr, dA, r1, r'⟩, ((er.live i).sub s1).un l', fun j a h g => ?_, fun a h => ?_, sF, fun j n => ?_, fun H2 k => ⟨⟨x', ys, rfl, v0, e3, kp H2 ?_⟩, p' H2 k⟩⟩
        · rcases h with h | h
          · have g2 := f' j a g
            by_cases z : j = i
            · rw [if_pos z] at g2; exact d12 a h g2
            · rw [if_neg z] at g2; exact er.dj i j (Ne.symm z) a (s1 a h) g2
          · exact dj' j a h g
        · rcases h with h | h
          · exact .inr ⟨i, List.mem_cons_self, s1 a h⟩
          · rcases t' a h with g | ⟨k, hk, g⟩
            · exact .inl g
            · refine .inr ⟨k, List.mem_cons_of_mem _ hk, ?_⟩
              by_cases z : k = i
              · rw [if_pos z] at g; subst z; exact s2 a g
              · rw [if_neg z] at g; exact g
        · rw [g' j fun x => n (List.mem_cons_of_mem _ x), if_neg fun (z : j = i) => n (by rw [z]; exact List.mem_cons_self)]
        · have := k i
          rw [g' i nd'.1, if_pos rfl] at this
          exact this
      · cases e
/-- putting in again -/
theorem put_ok : ∀ {ks : List AK} {es ρ ρ' : List D} {vs : List V} {F : Nat → AS} {T : AS}, putK ks es ρ = some ρ' → Reps K mg H es vs T → PathsK K mg H σ ks vs → ER K mg H ρ σ F → Live H T → (∀ j, Dj T (F j)) →
    ∃ F', ER K mg H ρ' σ F' ∧ (∀ j a, F' j a → F j a ∨ T a) ∧ (∀ j, j ∉ roots ks → F' j = F j) := by
  intro ks
  induction ks with
  | nil =>
    intro es ρ ρ' vs F T e r p er l dj
    cases e
    exact ⟨F, er, fun _ _ => .inl, fun _ _ => rfl⟩
  | cons k ks ih =>
    intro es ρ ρ' vs F T e r p er l dj
    cases k with
    | tmp =>
      cases es with
      | nil => cases e
      | cons d es =>
        obtain ⟨x, ys, A1, A2, rfl, s1, s2, d12, r1, r2⟩ := r
        obtain ⟨F', er', f', g'⟩ := ih e r2 p er (l.sub s2) fun j => (dj j).sub s2 Sub.rfl
        exact ⟨F', er', fun j a h => (f' j a h).imp id (s2 a), g'⟩
    | plc i ps =>
      cases es with
      | nil => cases e
      | cons d es =>
        obtain ⟨x, ys, A1, A2, rfl, s1, s2, d12, r1, r2⟩ := r
        obtain ⟨⟨x', ys', ex, v0, e3, at1⟩, p⟩ := p
        cases ex
        simp only [putK, Option.bind_eq_some_iff] at e
        obtain ⟨ρ1, e1, d0, e2, e⟩ := e
        split at e
        · rename_i hg
          cases e
          obtain ⟨F', er', f', g'⟩ := ih e1 r2 p er (l.sub s2) fun j => (dj j).sub s2 Sub.rfl
          obtain ⟨c0, e4⟩ := Option.isSome_iff_exists.mp hg
          obtain ⟨o, e5, r5⟩ := er'.get i d0 e2
          rw [e3] at e5
          cases e5
          have r5' : Rep K mg H d0 v0 (F' i) := r5
          obtain ⟨y, B1, B2, at2, t1, t2, d12', r6, r7, _⟩ := r5'.path e4
          have dA : Dj A1 (F' i) := fun a h g => by
            rcases f' i a g with g | g
            · exact dj i a (s1 a h) g
            · exact d12 a h g
          have r8 := Rep.pathFill r7 e4 at1 r1 (dA.sub Sub.rfl t2)
          have lu : Live H (Un2 B2 A1) := ((er'.live i).sub t2).un (l.sub s1)
          refine ⟨_, er'.again e3 r8 lu fun j n a h g => ?_, fun j a h => ?_, fun j n => ?_⟩
          · rcases h with h | h
            · exact er'.dj i j (Ne.symm n) a (t2 a h) g
            · rcases f' j a g with g | g
              · exact dj j a (s1 a h) g
              · exact d12 a h g
          · by_cases z : j = i
            · rw [if_pos z] at h
              subst z
              rcases h with h | h
              · exact (f' j a (t2 a h)).imp id (s2 a)
              · exact .inr (s1 a h)
            · rw [if_neg z] at h
              exact (f' j a h).imp id (s2 a)
          · rw [if_neg fun (z : j = i) => n (by rw [z]; exact List.mem_cons_self)]
            exact g' j fun x => n (List.mem_cons_of_mem _ x)
        · cases e
end
end VS
set_option Elab.async false
set_option linter.all false
set_option maxRecDepth 100000
set_option maxHeartbeats 4000000
/-! VS10: defs: what they promise, how they are called, how they are shown. -/
namespace VS
open PySem PySem.Spec PyProof.Rows L2
/-- a def by value: from the arguments' data the answer and the parameters' data behind it -/
abbrev FM := List D → Res D
def spV (K : PySem.W.Frag) (mg : Str → Option Value) (eC : Addr) (n : Nat) (fm : FM) : Sp := fun vs H Q E => ∃ ds T, vs.length = n ∧ Reps K mg H ds vs T ∧ Live H T ∧
  match fm ds with
  | .ok d es => ∀ v H' T1 T2, Rep K mg H' d v T1 → Reps K mg H' es vs T2 → Dj T1 T2 → AftT T H H' (Un2 T1 T2) → Q v H'
  | .ex z es => ∀ dd H' T2, Reps K mg H' es vs T2 → AftT T H H' T2 → H' dd = some (.xd [("reason", .str z)]) → E (.ref eC) (some dd) H'
  | .bad => False
/-- behind the arguments: the places' data taken, the def, the places filled -/
def postM (n : Nat) (ks : List AK) (fm : FM) (ds ρ1 : List D) : Res D := match takeK ks ds ρ1 with
  | some (ds', ρ2) => if ds'.length = n then (match fm ds' with
    | .ok d es => (match putK ks es ρ2 with
      | some ρ3 => .ok d ρ3
      | none => .bad)
    | .ex z es => (match putK ks es ρ2 with
      | some ρ3 => .ex z ρ3
      | none => .bad)
    | .bad => .bad) else .bad
  | none => .bad
def callM (n : Nat) (ks : List AK) (fm : FM) (ms : M (List D)) : EM := fun ρ => (ms ρ).bind (postM n ks fm)
section
variable {K : PySem.W.Frag} {mg : Str → Option Value} {H H' H'' : Hp} {σ : L2.St} {eC : Addr} {W : WX} {S : List Nat}
/-- behind a call: the slots S and the places' roots are touched -/
theorem call_aft {ρ2 : List D} {F F1 F2 F3 : Nat → AS} {T1 T2 Ta Tb : AS} {ks : List AK} (g1 : Got S H F H' F1 T1) (er2 : ER K mg H' ρ2 σ F2) (l2 : Live H' T2) (dj2 : ∀ j, Dj T2 (F2 j))
    (t : ∀ a, T2 a → T1 a ∨ ∃ i, i ∈ roots ks ∧ F1 i a) (f : ∀ j, Sub (F2 j) (F1 j)) (af : AftT T2 H' H'' (Un2 Ta Tb)) (f3 : ∀ j a, F3 j a → F2 j a ∨ Tb a) (g3 : ∀ j, j ∉ roots ks → F3 j = F2 j) :
    Aft (S ++ roots ks) H F H'' F3 ∧ ∀ a, (Ta a ∨ Tb a) → (∃ k, k ∈ S ++ roots ks ∧ F k a) ∨ H a = none := by
  have back2 : ∀ a, T2 a → (∃ k, k ∈ S ++ roots ks ∧ F k a) ∨ H a = none := fun a h => by
    rcases t a h with h | ⟨i, hi, h⟩
    · exact (g1.new a h).imp (fun ⟨k, hk, x⟩ => ⟨k, List.mem_append_left _ hk, x⟩) id
    · rcases g1.toAft.back h with ⟨k, hk, x⟩ | x | x
      · exact .inl ⟨k, List.mem_append_left _ hk, x⟩
      · exact .inl ⟨i, List.mem_append_right _ hi, x⟩
      · exact .inr x
  have backT : ∀ a, (Ta a ∨ Tb a) → (∃ k, k ∈ S ++ roots ks ∧ F k a) ∨ H a = none := fun a h => by
    rcases af.sub a h with h | h
    · exact back2 a h
    · exact .inr (g1.toAft.dom a h)
  refine ⟨⟨fun a o e n => ?_, fun j hj a h => ?_, fun j hj a h => ?_, fun a e => g1.toAft.dom a (af.dom a e)⟩, backT⟩
  · refine af.keep a o (g1.toAft.keep a o e fun j hj => n j (List.mem_append_left _ hj)) fun h => ?_
    rcases back2 a h with ⟨k, hk, x⟩ | x
    · exact n k hk x
    · rw [e] at x; cases x
  · rw [g3 j fun x => hj (List.mem_append_right _ x)] at h
    exact g1.toAft.same j (fun x => hj (List.mem_append_left _ x)) a (f j a h)
  · rcases f3 j a h with h | h
    · rcases g1.toAft.back (f j a h) with ⟨k, hk, x⟩ | x | x
      · exact .inl ⟨k, List.mem_append_left _ hk, x⟩
      · exact .inl ⟨j, hj, x⟩
      · exact .inr x
    · exact backT a (.inr h)
theorem call_core {n : Nat} {ks : List AK} {fm : FM} {ds ρ1 : List D} {vs : List V} {F F1 : Nat → AS} {T1 : AS} {Q : VK} (nd : (roots ks).Nodup) (er1 : ER K mg H' ρ1 σ F1) (rk : RepsK K mg H' σ ks ds vs T1) (g1 : Got S H F H' F1 T1)
    (q : CV K mg eC W (S ++ roots ks) σ H F (postM n ks fm ds ρ1) Q) : spV K mg eC n fm vs H' Q (WE W σ) := by
  unfold postM at q
  cases e2 : takeK ks ds ρ1 with
  | none => rw [e2] at q; exact q.elim
  | some p =>
    obtain ⟨ds', ρ2⟩ := p
    rw [e2] at q
    dsimp only at q
    by_cases hn : ds'.length = n
    · rw [if_pos hn] at q
      obtain ⟨F2, T2, er2, r2, l2, dj2, t, f, _, p⟩ := take_ok nd e2 rk er1 g1.live g1.dj
      refine ⟨ds', T2, by rw [r2.length]; exact hn, r2, l2, ?_⟩
      have paths : ∀ {H2 : Hp} {T : AS}, AftT T2 H' H2 T → PathsK K mg H2 σ ks vs := fun {H2 T} af => p H2 fun j a o e h =>
        af.keep a o e fun x => h.elim (fun y => dj2 j a x y) fun fx => l2.nfix e fx x
      cases e3 : fm ds' with
      | bad => rw [e3] at q; exact q
      | ok d es =>
        rw [e3] at q
        dsimp only at q
        intro v H2 Ta Tb rv re dab af
        cases e4 : putK ks es ρ2 with
        | none => rw [e4] at q; exact q.elim
        | some ρ3 =>
          rw [e4] at q
          have er2' := er2.step l2 dj2 af
          have dT : ∀ j, Dj (Un2 Ta Tb) (F2 j) := fun j a x y => by
            rcases af.sub a x with z | z
            · exact dj2 j a z y
            · obtain ⟨u, e, _⟩ := er2.live j a y
              rw [e] at z; cases z
          obtain ⟨F3, er3, f3, g3⟩ := put_ok e4 re (paths af) er2' (af.live.sub fun _ => .inr) fun j => (dT j).sub (fun _ => .inr) Sub.rfl
          obtain ⟨g, new⟩ := call_aft (ρ2 := ρ2) g1 er2 l2 dj2 t f af f3 g3
          exact q v H2 F3 Ta er3 rv ⟨g, fun a x => new a (.inl x), fun j a x y => (f3 j a y).elim (fun y => dT j a (.inl x) y) fun y => dab a x y, af.live.sub fun _ => .inl⟩
      | ex z es =>
        rw [e3] at q
        dsimp only at q
        intro dd H2 Tb re af hx
        cases e4 : putK ks es ρ2 with
        | none => rw [e4] at q; exact q.elim
        | some ρ3 =>
          rw [e4] at q
          have er2' := er2.step l2 dj2 af
          have af' : AftT T2 H' H2 (Un2 E0 Tb) := ⟨af.keep, fun a h => af.sub a (h.resolve_left id), fun a h => af.live a (h.resolve_left id), af.dom⟩
          have dT : ∀ j, Dj Tb (F2 j) := fun j a x y => by
            rcases af.sub a x with z | z
            · exact dj2 j a z y
            · obtain ⟨u, e, _⟩ := er2.live j a y
              rw [e] at z; cases z
          obtain ⟨F3, er3, f3, g3⟩ := put_ok e4 re (paths af) er2' af.live dT
          obtain ⟨g, new⟩ := call_aft (ρ2 := ρ2) g1 er2 l2 dj2 t f af' f3 g3
          exact q dd H2 F3 er3 hx g
    · rw [if_neg hn] at q; exact q.elim
/-- a def called upon arguments and places -/
theorem tv_call {n : Nat} {ks : List AK} {fm : FM} {ms : M (List D)} {Q : VK} (nd : (roots ks).Nodup) (q : TV K mg eC W (S ++ roots ks) (callM n ks fm ms) σ H Q) : TVr K mg eC W S ks ms σ H (fun vs H1 => spV K mg eC n fm vs H1 Q (WE W σ)) := by
  obtain ⟨ρ, F, er, q⟩ := q
  refine ⟨ρ, F, er, ?_⟩
  unfold callM at q
  cases e1 : ms ρ with
  | bad => rw [e1] at q; exact q
  | ex z ρ1 => rw [e1] at q; exact fun dd H' F' er' x g => q dd H' F' er' x (g.more fun j hj => List.mem_append_left _ hj)
  | ok ds ρ1 =>
    rw [e1] at q
    exact fun vs H1 F1 T1 er1 rk g1 => call_core nd er1 rk g1 q
end

/-! ### calls that may raise, wished for at the caller's slots -/
section
variable {X : Cx} {CX : CXT} {k : Nat} {f C : Addr} {fd : FuncData} {ps : List Str} {sp : Sp} {E : L2.St → XK} {x m : Str} {p pos apos : Pos} {e o : Expr} {es : List Expr} {ta : TE} {t : TA}
theorem pe_callS0 (F : FnOk X.prog X.w X.K X.mg X.base CX k f fd ps sp) (hr : Room k X.A) (hg : Gl X x) (hm : X.mg x = some (.ref f)) (hk : PySem.W.keepIn X.K (.ref f) = true) (hb : Binds X.K fd ps []) (hx : ∀ σ, PassesAt CX X σ (E σ))
    (hdb : (x == ("__debug__" : Str)) = false := by decide) : PE X (.Call (.Name x p) [] [] pos) (tCallS sp E tNil) := by
  refine ⟨fun pins s σ H Q I h => ?_⟩
  refine wpAny_Call_Name_kw (ld_glob I hg hm ?_ hdb)
  exact PySem.W.callWith_K0 I.kIn hk (run_fnS (us := []) F hr hb (hx σ) I .nil h)
def tMethS (C : Addr) (m : Str) (sp : Sp) (E : L2.St → XK) (ta : TE) (t : TA) : TE := fun σ H Q => ta σ H fun x H1 => ∃ a dx fs, x = .ref a ∧ H1 a = some (.ins C dx fs) ∧ fs.lookup m = none ∧ t σ H1 fun vs H2 => sp (x :: vs) H2 Q (E σ)
theorem pe_methS1 {pl : Sem Bool} (he : PE X o ta) (c : Cls X.K C) (hm : Meth X.K C m f) (F : FnOk X.prog X.w X.K X.mg X.base CX k f fd ps sp) (hr : Room k X.A) (hb : Binds X.K fd ps []) (hx : ∀ σ, PassesAt CX X σ (E σ)) (ha : PA X (e :: es) t)
    (hst : starEach (e :: es) X.env = (false, eval e X.env) :: starEach es X.env := by rfl) (hpl : (backTo pos (starEach es X.env)).any (·.1) = false := by rfl)
    (ht : eval (.Call (.Attribute o m apos) (e :: es) [] pos) X.env = (do
      let ov ← eval o X.env
      standAt apos.atName
      let (f, first) ← holding [ov] (getMethod ov m pl)
      callWith pos f first (backTo pos (starEach (e :: es) X.env)) (backToKw pos (keywordEach [] X.env))) := by rfl) :
    PE X (.Call (.Attribute o m apos) (e :: es) [] pos) (tMethS C m sp E ta t) := by
  refine ⟨fun pins s σ H Q I h => ?_⟩
  refine PySem.W.methodCall_KW (pl := pl) (thn (he.run pins s σ H _ I h) fun u s1 ⟨x, H1, I1, rx, a, dx, fs, ex, ea, l, q⟩ => ?_) ht
  subst ex
  obtain rfl : u = Value.ref a := rx
  refine getmeth_ok I1 ea c hm l ?_
  refine PySem.W.callWith_K (first := [.ref a]) (h₀ := X.base) I.ok.mod.kin hm.kp (thn (ha.run pos pins s1 σ H1 _ I1 q) fun us s2 ⟨vs, H2, I2, r, q2⟩ => ⟨I2.kIn, ?_⟩) hst hpl
  exact run_fnS (us := .ref a :: us) (vs := .ref a :: vs) F hr hb (hx σ) I2 (.cons rfl r) q2
theorem pe_methS0 {pl : Sem Bool} (he : PE X o ta) (c : Cls X.K C) (hm : Meth X.K C m f) (F : FnOk X.prog X.w X.K X.mg X.base CX k f fd ps sp) (hr : Room k X.A) (hb : Binds X.K fd ps []) (hx : ∀ σ, PassesAt CX X σ (E σ))
    (ht : eval (.Call (.Attribute o m apos) [] [] pos) X.env = (do
      let ov ← eval o X.env
      standAt apos.atName
      let (f, first) ← holding [ov] (getMethod ov m pl)
      callWith pos f first (backTo pos (starEach [] X.env)) (backToKw pos (keywordEach [] X.env))) := by rfl) :
    PE X (.Call (.Attribute o m apos) [] [] pos) (tMethS C m sp E ta tNil) := by
  refine ⟨fun pins s σ H Q I h => ?_⟩
  refine PySem.W.methodCall_KW (pl := pl) (thn (he.run pins s σ H _ I h) fun u s1 ⟨x, H1, I1, rx, a, dx, fs, ex, ea, l, q⟩ => ?_) ht
  subst ex
  obtain rfl : u = Value.ref a := rx
  refine getmeth_ok I1 ea c hm l ?_
  exact PySem.W.callWith_K0 (first := [.ref a]) I1.kIn hm.kp (run_fnS (us := [.ref a]) (vs := [.ref a]) F hr hb (hx σ) I1 (.cons rfl .nil) q)
def tMakeS (C : Addr) (sp : Sp) (E : L2.St → XK) (t : TA) : TE := fun σ H Q => t σ H fun vs H1 => ∀ x dx, H1 x = none → H1 dx = none → dx ≠ x → sp (.ref x :: vs) (upd (upd H1 dx (.own x)) x (.ins C dx [])) (fun v H2 => v = .non ∧ Q (.ref x) H2) (E σ)
theorem run_makeS {pins : List (Addr × Obj)} {σ : L2.St} {H : Hp} {s : Shared} {Q : VK} {us : List Value} {vs : List V} (M : Mk X.K C f) (F : FnOk X.prog X.w X.K X.mg X.base CX k f fd ps sp) (hr : Room (k + 1) X.A) (hb : Binds X.K fd ps [])
    (hx : PassesAt CX X σ (E σ)) (I : Inv X pins σ H s) (r : Vals vs us)
    (h : ∀ x dx, H x = none → H dx = none → dx ≠ x → sp (.ref x :: vs) (upd (upd H dx (.own x)) x (.ins C dx [])) (fun v H2 => v = .non ∧ Q (.ref x) H2) (E σ)) :
    wpAny (model X.prog X.w) X.A (call (.ref C) us) (EP X pins σ Q) X.xe s := by
  have hq := h (s.heap.objs.size + 1) s.heap.objs.size (I.hok.fresh (Nat.le_succ _)) (I.hok.fresh (Nat.le_refl _)) (Nat.ne_of_lt (Nat.lt_succ_self _))
  have I2 := Inv.made (C := C) I
  have r2 : Vals (V.ref (s.heap.objs.size + 1) :: vs) (Value.ref (s.heap.objs.size + 1) :: us) := .cons rfl r
  have hl : (Value.ref (s.heap.objs.size + 1) :: us).length = ps.length := by
    have e := r2.length
    rw [F.len _ _ _ _ hq] at e
    exact e.symm
  have b := hb _ (Value.ref (s.heap.objs.size + 1) :: us) I2.kIn (by rw [List.append_nil]; exact hl)
  rw [List.append_nil] at b
  refine wpAny_call (make_map (f := f) I.kIn M.makes M.init (beq_iff_eq.mp M.fn) (codeAny_mono (F.run _ X.stack _ _ ⟨Value.ref (s.heap.objs.size + 1) :: us, []⟩ (Value.ref (s.heap.objs.size + 1) :: us) _ _ (E σ) (hr.make C us [])
    (I2.env0.make C us []) b r2 hq) fun r s' hq' => ?_))
  cases r with
  | error e => exact hx pins _ _ e s' I2 hq'
  | ok fl =>
    cases fl with
    | ret u =>
      obtain ⟨v, H', I3, rv, ev, q3⟩ := I2.after hq'
      subst ev
      exact ⟨rv, ⟨V.ref (s.heap.objs.size + 1), H', I3, rfl, q3⟩⟩
    | next => exact False.elim hq'
    | brk => exact False.elim hq'
    | cont => exact False.elim hq'
theorem pe_makeS (M : Mk X.K C f) (F : FnOk X.prog X.w X.K X.mg X.base CX k f fd ps sp) (hr : Room (k + 1) X.A) (hg : Gl X x) (hm : X.mg x = some (.ref C)) (hb : Binds X.K fd ps []) (hx : ∀ σ, PassesAt CX X σ (E σ))
    (ha : PA X (e :: es) t) (hdb : (x == ("__debug__" : Str)) = false := by decide) (he : starEach (e :: es) X.env = (false, eval e X.env) :: starEach es X.env := by rfl) (hpl : (backTo pos (starEach es X.env)).any (·.1) = false := by rfl) :
    PE X (.Call (.Name x p) (e :: es) [] pos) (tMakeS C sp E t) := by
  refine ⟨fun pins s σ H Q I h => ?_⟩
  refine wpAny_Call_Name_kw (ld_glob I hg hm ?_ hdb)
  refine PySem.W.callWith_K (h₀ := X.base) I.ok.mod.kin M.kp (thn (ha.run pos pins s σ H _ I h) fun us s1 ⟨vs, H1, I1, r, q⟩ => ⟨I1.kIn, ?_⟩) he hpl
  exact run_makeS M F hr hb (hx σ) I1 r q
theorem pe_makeS0 (M : Mk X.K C f) (F : FnOk X.prog X.w X.K X.mg X.base CX k f fd ps sp) (hr : Room (k + 1) X.A) (hg : Gl X x) (hm : X.mg x = some (.ref C)) (hb : Binds X.K fd ps []) (hx : ∀ σ, PassesAt CX X σ (E σ))
    (hdb : (x == ("__debug__" : Str)) = false := by decide) : PE X (.Call (.Name x p) [] [] pos) (tMakeS C sp E tNil) := by
  refine ⟨fun pins s σ H Q I h => ?_⟩
  refine wpAny_Call_Name_kw (ld_glob I hg hm ?_ hdb)
  exact PySem.W.callWith_K0 I.kIn M.kp (run_makeS (us := []) M F hr hb (hx σ) I .nil h)
end
/-- a def that is shown: it stands at f and keeps the promise fm -/
structure Df (P : Program) (w : World) (K : PySem.W.Frag) (mg : Str → Option Value) (base : Heap) (eC : Addr) (k : Nat) (f : Addr) (fd : FuncData) (ps : List Str) (fm : FM) : Prop where
  ok : FnOk P w K mg base (L2.CX P w) k f fd ps (spV K mg eC ps.length fm)
  kp : PySem.W.keepIn K (.ref f) = true
  bi : Binds K fd ps []
section
variable {X : Cx} {eC : Addr} {W : WX} {S : List Nat} {k : Nat} {f C : Addr} {fd : FuncData} {ps : List Str} {fm : FM} {x m : Str} {p pos apos : Pos} {e o : Expr} {es : List Expr} {ks : List AK} {ms : M (List D)}
theorem ve_call (F : Df X.prog X.w X.K X.mg X.base eC k f fd ps fm) (hr : Room k X.A) (tk : Takes X W) (hm : X.mg x = some (.ref f)) (hg : Gl X x) (ha : VR X eC W S ks (e :: es) ms) (nd : (roots ks).Nodup := by decide)
    (hdb : (x == ("__debug__" : Str)) = false := by decide) (he : starEach (e :: es) X.env = (false, eval e X.env) :: starEach es X.env := by rfl) (hpl : (backTo pos (starEach es X.env)).any (·.1) = false := by rfl) :
    VE X eC W (S ++ roots ks) (.Call (.Name x p) (e :: es) [] pos) (callM ps.length ks fm ms) := PE.imp (pe_callS F.ok hr hg hm F.kp F.bi (fun σ => passAt tk σ) ha hdb he hpl) fun σ H Q q => tv_call nd q
theorem tvr_nil {K : PySem.W.Frag} {mg : Str → Option Value} {σ : L2.St} {H : Hp} {Q : List V → Hp → Prop} (q : TVr K mg eC W [] [] nilM σ H Q) : tNil σ H Q := by
  obtain ⟨ρ, F, er, q⟩ := q
  exact q [] H F E0 er ⟨rfl, rfl⟩ .refl
theorem ve_call0 (F : Df X.prog X.w X.K X.mg X.base eC k f fd ps fm) (hr : Room k X.A) (tk : Takes X W) (hm : X.mg x = some (.ref f)) (hg : Gl X x) (hdb : (x == ("__debug__" : Str)) = false := by decide) :
    VE X eC W [] (.Call (.Name x p) [] [] pos) (callM ps.length [] fm nilM) := PE.imp (pe_callS0 F.ok hr hg hm F.kp F.bi (fun σ => passAt tk σ) hdb) fun σ H Q q => tvr_nil (tv_call (ks := []) (S := []) (by decide) q)
/-- what a method call asks of its receiver: an object of the class, of one's own, without such a field -/
def isObj? (c m : Str) : D → Bool
  | .obj true c' ns _ => decide (c' = c) && !ns.contains m
  | _ => false
def objAt (i : Nat) (ps : Path) (c m : Str) (ρ : List D) : Bool := match (ρ[i]?).bind (getP · ps) with
  | some d => isObj? c m d
  | none => false
/-- o.m(e, ..), o a place -/
def methM (n : Nat) (c m : Str) (i : Nat) (ps : Path) (ks : List AK) (fm : FM) (ms : M (List D)) : EM := fun ρ => if objAt i ps c m ρ = true then callM n (.plc i ps :: ks) fm (plcM i ps ms) ρ else .bad
theorem lookup_none {f : Str} : ∀ {fs : List (Str × V)}, (fs.map (·.1)).contains f = false → fs.lookup f = none
  | [], _ => rfl
  | (g, y) :: fs, h => by
    simp only [List.map_cons, List.contains_cons, Bool.or_eq_false_iff] at h
    rw [List.lookup_cons, h.1]
    exact lookup_none h.2
theorem tv_meth {K : PySem.W.Frag} {mg : Str → Option Value} {σ : L2.St} {H : Hp} {Q : VK} {n : Nat} {c : Str} {i : Nat} {ps : Path} {ks : List AK} {fm : FM} {ms : M (List D)} {to : TE} {C : Addr} (hC : mg c = some (.ref C))
    (ho : ∀ Q : VK, (∃ v, PlcAt K mg H σ i ps v ∧ Q v H) → to σ H Q) (nS : i ∉ S) (nd : (roots (.plc i ps :: ks)).Nodup)
    (q : TV K mg eC W (S ++ roots (.plc i ps :: ks)) (methM n c m i ps ks fm ms) σ H Q) : tMethS C m (spV K mg eC n fm) (WE W) to (TVr K mg eC W S ks ms) σ H Q := by
  obtain ⟨ρ, F, er, q⟩ := q
  unfold methM at q
  by_cases hc : objAt i ps c m ρ = true
  · rw [if_pos hc] at q
    have q2 := tv_call nd ⟨ρ, F, er, q⟩
    have hp : ∃ d0 ns ds, ρ[i]? = some d0 ∧ getP d0 ps = some (.obj true c ns ds) ∧ ns.contains m = false := by
      unfold objAt at hc
      cases e1 : ρ[i]? with
      | none => rw [e1] at hc; cases hc
      | some d0 =>
        rw [e1] at hc
        simp only [Option.bind_some] at hc
        cases e2 : getP d0 ps with
        | none => rw [e2] at hc; cases hc
        | some d =>
          rw [e2] at hc
          dsimp only at hc
          unfold isObj? at hc
          split at hc
          · simp only [Bool.and_eq_true, decide_eq_true_eq, Bool.not_eq_true'] at hc
            obtain ⟨rfl, hm⟩ := hc
            exact ⟨d0, _, _, rfl, e2, hm⟩
          · cases hc
    obtain ⟨d0, ns, ds, e1, e2, hm⟩ := hp
    obtain ⟨o, e3, rr⟩ := er.get i d0 e1
    obtain ⟨v0, rfl, rr⟩ := has_root e2 rfl rr
    obtain ⟨x, A1, A2, a, s1, s2, dj, r1, r2, kp⟩ := rr.path e2
    obtain ⟨b, C', dx, fs, rfl, mC, z, _, en, _⟩ := r1
    rw [hC] at mC; cases mC
    have hpl : isPlc i ps ρ = true := by unfold isPlc; rw [e1]; simp only [Option.bind_some, e2]; rfl
    refine ho _ ⟨.ref b, ⟨v0, e3, a⟩, b, dx, fs, rfl, z, lookup_none (by rw [en]; exact hm), ρ, F, er, ?_⟩
    unfold callM plcM at q
    rw [if_pos hpl] at q
    cases e4 : ms ρ with
    | bad => rw [e4] at q; exact q
    | ex z ρ1 => rw [e4] at q; exact fun dd H' F' er' x g => q dd H' F' er' x (g.more fun j hj => List.mem_append_left _ hj)
    | ok ds' ρ1 =>
      rw [e4] at q
      exact fun vs H1 F1 T er1 r3 g => call_core (ks := .plc i ps :: ks) nd er1 ⟨.ref b, vs, rfl, ⟨v0, e3, kp H1 ((g.toAft.kpSlot er nS).sub s2)⟩, r3⟩ g q
  · rw [if_neg hc] at q; exact q.elim
theorem ve_meth {pl : Sem Bool} {c : Str} {i : Nat} {ps' : Path} (ho : VP X o i ps') (F : Df X.prog X.w X.K X.mg X.base eC k f fd ps fm) (hr : Room k X.A) (tk : Takes X W) (hC : X.mg c = some (.ref C)) (cl : Cls X.K C) (hm : Meth X.K C m f) (ha : VR X eC W S ks (e :: es) ms)
    (nS : i ∉ S := by decide) (nd : (roots (.plc i ps' :: ks)).Nodup := by decide)
    (hst : starEach (e :: es) X.env = (false, eval e X.env) :: starEach es X.env := by rfl) (hpl : (backTo pos (starEach es X.env)).any (·.1) = false := by rfl)
    (ht : eval (.Call (.Attribute o m apos) (e :: es) [] pos) X.env = (do
      let ov ← eval o X.env
      standAt apos.atName
      let (f, first) ← holding [ov] (getMethod ov m pl)
      callWith pos f first (backTo pos (starEach (e :: es) X.env)) (backToKw pos (keywordEach [] X.env))) := by rfl) :
    VE X eC W (S ++ roots (.plc i ps' :: ks)) (.Call (.Attribute o m apos) (e :: es) [] pos) (methM ps.length c m i ps' ks fm ms) :=
  PE.imp (pe_methS1 ho cl hm F.ok hr F.bi (fun σ => passAt tk σ) ha hst hpl ht) fun σ H Q q => tv_meth hC (fun Q h => h) nS nd q
theorem ve_meth0 {pl : Sem Bool} {c : Str} {i : Nat} {ps' : Path} (ho : VP X o i ps') (F : Df X.prog X.w X.K X.mg X.base eC k f fd ps fm) (hr : Room k X.A) (tk : Takes X W) (hC : X.mg c = some (.ref C)) (cl : Cls X.K C) (hm : Meth X.K C m f)
    (ht : eval (.Call (.Attribute o m apos) [] [] pos) X.env = (do
      let ov ← eval o X.env
      standAt apos.atName
      let (f, first) ← holding [ov] (getMethod ov m pl)
      callWith pos f first (backTo pos (starEach [] X.env)) (backToKw pos (keywordEach [] X.env))) := by rfl) :
    VE X eC W ([] ++ roots [.plc i ps']) (.Call (.Attribute o m apos) [] [] pos) (methM ps.length c m i ps' [] fm nilM) :=
  PE.imp (pe_methS0 ho cl hm F.ok hr F.bi (fun σ => passAt tk σ) ht) fun σ H Q q => by
    obtain ⟨v, h1, a, dx, fs, e1, e2, e3, q⟩ := tv_meth (S := []) (ks := []) (to := fun σ H Q => ∃ v, PlcAt X.K X.mg H σ i ps' v ∧ Q v H) hC (fun Q h => h) (by simp) (by simp [roots]) q
    exact ⟨v, h1, a, dx, fs, e1, e2, e3, tvr_nil q⟩

/-! ### C(e, ..) -/
/-- __init__'s answer is None, its self is the new object -/
def newM (n : Nat) (c : Str) (ks : List AK) (fm : FM) (ms : M (List D)) : EM := fun ρ => (ms ρ).bind fun ds ρ1 => match takeK ks ds ρ1 with
  | some (ds', ρ2) => if ds'.length + 1 = n then (match fm (.obj true c [] [] :: ds') with
    | .ok .non (d :: es) => (match putK ks es ρ2 with
      | some ρ3 => .ok d ρ3
      | none => .bad)
    | .ex z (_ :: es) => (match putK ks es ρ2 with
      | some ρ3 => .ex z ρ3
      | none => .bad)
    | _ => .bad) else .bad
  | none => .bad
theorem tv_new {K : PySem.W.Frag} {mg : Str → Option Value} {σ : L2.St} {H : Hp} {Q : VK} {n : Nat} {c : Str} {ks : List AK} {fm : FM} {ms : M (List D)} (hC : mg c = some (.ref C)) (nd : (roots ks).Nodup)
    (q : TV K mg eC W (S ++ roots ks) (newM n c ks fm ms) σ H Q) : tMakeS C (spV K mg eC n fm) (WE W) (TVr K mg eC W S ks ms) σ H Q := by
  obtain ⟨ρ, F, er, q⟩ := q
  refine ⟨ρ, F, er, ?_⟩
  unfold newM at q
  cases e1 : ms ρ with
  | bad => rw [e1] at q; exact q
  | ex z ρ1 => rw [e1] at q; exact fun dd H' F' er' x g => q dd H' F' er' x (g.more fun j hj => List.mem_append_left _ hj)
  | ok ds ρ1 =>
    rw [e1] at q
    intro vs H1 F1 T1 er1 rk g1 x dx nx ndx nex
    simp only [Res.bind_ok] at q
    cases e2 : takeK ks ds ρ1 with
    | none => rw [e2] at q; exact q.elim
    | some p =>
      obtain ⟨ds', ρ2⟩ := p
      rw [e2] at q
      dsimp only at q
      by_cases hn : ds'.length + 1 = n
      · rw [if_pos hn] at q
        obtain ⟨F2, T2, er2, r2, l2, dj2, t, f, _, p⟩ := take_ok nd e2 rk er1 g1.live g1.dj
        -- the new object
        have nx' : (upd H1 dx (.own x)) x = none := by rw [upd_ne (Ne.symm nex)]; exact nx
        have af0 : AftT T2 H1 (upd H1 dx (.own x)) T2 := .newF ndx l2 Sub.rfl
        have af1 : AftT T2 H1 (upd (upd H1 dx (.own x)) x (.ins C dx [])) (fun a => T2 a ∨ a = x) := af0.trans (.new nx' trivial (l2.keep (kp_new ndx)) Sub.rfl)
        have kpn : ∀ {A : AS}, Kp A H1 (upd (upd H1 dx (.own x)) x (.ins C dx [])) := fun {A} a o e h => kp_new (A := A) nx' a o (kp_new (A := A) ndx a o e h) h
        have nT2 : ¬ T2 x := fun h => by
          obtain ⟨u, e, _⟩ := l2 x h
          rw [nx] at e; cases e
        have rn : Reps K mg (upd (upd H1 dx (.own x)) x (.ins C dx [])) (.obj true c [] [] :: ds') (.ref x :: vs) (fun a => T2 a ∨ a = x) :=
          ⟨.ref x, vs, (fun a => a = x), T2, rfl, fun _ => .inr, fun _ => .inl, fun a h g => nT2 (h ▸ g), ⟨x, C, dx, [], rfl, hC, upd_same, rfl, rfl, rfl⟩, Reps.keep ds' r2 kpn⟩
        refine ⟨_, _, by rw [List.length_cons, r2.length]; exact hn, rn, af1.live, ?_⟩
        have paths : ∀ {H2 : Hp} {T : AS}, AftT T2 H1 H2 T → PathsK K mg H2 σ ks vs := fun {H2 T} af => p H2 fun j a o e h =>
          af.keep a o e fun x => h.elim (fun y => dj2 j a x y) fun fx => l2.nfix e fx x
        cases e3 : fm (.obj true c [] [] :: ds') with
        | bad => rw [e3] at q; exact q
        | ok d es0 =>
          rw [e3] at q
          cases d with
          | non =>
            cases es0 with
            | nil => exact q.elim
            | cons d' es' =>
              intro v H2 Ta Tb rv re dab af2
              have ev : v = .non := rv
              refine ⟨ev, ?_⟩
              obtain ⟨y, ys, B1, B2, ey, s1, s2, d12, r5, r6⟩ := re
              cases ey
              have af3 := af1.trans af2
              have af4 : AftT T2 H1 H2 (Un2 B1 B2) := ⟨af3.keep, fun a h => af3.sub a (h.elim (fun h => .inr (s1 a h)) fun h => .inr (s2 a h)), fun a h => af3.live a (h.elim (fun h => .inr (s1 a h)) fun h => .inr (s2 a h)), af3.dom⟩
              dsimp only at q
              cases e4 : putK ks es' ρ2 with
              | none => rw [e4] at q; exact q.elim
              | some ρ3 =>
                rw [e4] at q
                have er2' := er2.step l2 dj2 af4
                have dT : ∀ j, Dj (Un2 B1 B2) (F2 j) := fun j a x y => by
                  rcases af4.sub a x with z | z
                  · exact dj2 j a z y
                  · obtain ⟨u, e, _⟩ := er2.live j a y
                    rw [e] at z; cases z
                obtain ⟨F3, er3, f3, g3⟩ := put_ok e4 r6 (paths af4) er2' (af4.live.sub fun _ => .inr) fun j => (dT j).sub (fun _ => .inr) Sub.rfl
                obtain ⟨g, new⟩ := call_aft (ρ2 := ρ2) g1 er2 l2 dj2 t f af4 f3 g3
                exact q _ H2 F3 B1 er3 r5 ⟨g, fun a x => new a (.inl x), fun j a x y => (f3 j a y).elim (fun y => dT j a (.inl x) y) fun y => d12 a x y, af4.live.sub fun _ => .inl⟩
          | _ => exact q.elim
        | ex z es0 =>
          rw [e3] at q
          cases es0 with
          | nil => exact q.elim
          | cons d' es' =>
            intro dd H2 Tb re af2 hx
            obtain ⟨y, ys, B1, B2, ey, s1, s2, d12, r5, r6⟩ := re
            cases ey
            have af3 := af1.trans af2
            have af4 : AftT T2 H1 H2 (Un2 E0 B2) := ⟨af3.keep, fun a h => af3.sub a (s2 a (h.resolve_left id)), fun a h => af3.live a (s2 a (h.resolve_left id)), af3.dom⟩
            dsimp only at q
            cases e4 : putK ks es' ρ2 with
            | none => rw [e4] at q; exact q.elim
            | some ρ3 =>
              rw [e4] at q
              have er2' := er2.step l2 dj2 af4
              have dT : ∀ j, Dj B2 (F2 j) := fun j a x y => by
                rcases af4.sub a (.inr x) with z | z
                · exact dj2 j a z y
                · obtain ⟨u, e, _⟩ := er2.live j a y
                  rw [e] at z; cases z
              obtain ⟨F3, er3, f3, g3⟩ := put_ok e4 r6 (paths af4) er2' (af4.live.sub fun _ => .inr) dT
              obtain ⟨g, new⟩ := call_aft (ρ2 := ρ2) g1 er2 l2 dj2 t f af4 f3 g3
              exact q dd H2 F3 er3 hx g
      · rw [if_neg hn] at q; exact q.elim
theorem ve_new {fI : Addr} {c : Str} (Mk' : Mk X.K C fI) (F : Df X.prog X.w X.K X.mg X.base eC k fI fd ps fm) (hr : Room (k + 1) X.A) (tk : Takes X W) (hC : X.mg c = some (.ref C)) (hg : Gl X c) (ha : VR X eC W S ks (e :: es) ms) (nd : (roots ks).Nodup := by decide)
    (hdb : (c == ("__debug__" : Str)) = false := by decide) (he : starEach (e :: es) X.env = (false, eval e X.env) :: starEach es X.env := by rfl) (hpl : (backTo pos (starEach es X.env)).any (·.1) = false := by rfl) :
    VE X eC W (S ++ roots ks) (.Call (.Name c p) (e :: es) [] pos) (newM ps.length c ks fm ms) := PE.imp (pe_makeS Mk' F.ok hr hg hC F.bi (fun σ => passAt tk σ) ha hdb he hpl) fun σ H Q q => tv_new hC nd q
theorem ve_new0 {fI : Addr} {c : Str} (Mk' : Mk X.K C fI) (F : Df X.prog X.w X.K X.mg X.base eC k fI fd ps fm) (hr : Room (k + 1) X.A) (tk : Takes X W) (hC : X.mg c = some (.ref C)) (hg : Gl X c) (hdb : (c == ("__debug__" : Str)) = false := by decide) :
    VE X eC W [] (.Call (.Name c p) [] [] pos) (newM ps.length c [] fm nilM) := PE.imp (pe_makeS0 Mk' F.ok hr hg hC F.bi (fun σ => passAt tk σ) hdb) fun σ H Q q => tvr_nil (tv_new (ks := []) (S := []) hC (by decide) q)
end
end VS
set_option Elab.async false
set_option linter.all false
set_option maxRecDepth 100000
set_option maxHeartbeats 4000000
/-! VS11: a def is what its body is. -/
namespace VS
open PySem PySem.Spec PyProof.Rows L2
/-- the parameters' data behind the body; a parameter that was given another value tells nothing -/
def fin (SA : List Nat) : Nat → List D → List D
  | _, [] => []
  | j, d :: ds => (if SA.contains j then .un else d) :: fin SA (j + 1) ds
def fnM (n N : Nat) (SA : List Nat) (body : SM) : FM := fun ds => if ds.length = n then (match body (ds ++ List.replicate (N - n) .un) with
  | .ok (.ret d) ρ => .ok d (fin SA 0 (ρ.take n))
  | .ok .nx ρ => .ok .non (fin SA 0 (ρ.take n))
  | .ex z ρ => .ex z (fin SA 0 (ρ.take n))
  | _ => .bad) else .bad
section
variable {K : PySem.W.Frag} {mg : Str → Option Value} {H H' : Hp}
/-- each item's own room -/
theorem Reps.split : ∀ {ds : List D} {vs : List V} {A : AS}, Reps K mg H ds vs A →
    ∃ F : Nat → AS, (∀ (j : Nat) d, ds[j]? = some d → ∃ v, vs[j]? = some v ∧ Rep K mg H d v (F j)) ∧ (∀ j, Sub (F j) A) ∧ (∀ j k, j ≠ k → Dj (F j) (F k))
  | [], _, _, h => ⟨fun _ => E0, fun j d e => by simp at e, fun _ => Sub.e0, fun _ _ _ => Dj.e0⟩
  | d :: ds, _, A, ⟨x, ys, A1, A2, e1, s1, s2, dj, h1, h2⟩ => by
    subst e1
    obtain ⟨F, f1, f2, f3⟩ := Reps.split h2
    refine ⟨fun j => match j with | 0 => A1 | j + 1 => F j, fun j => ?_, fun j => ?_, fun j k => ?_⟩
    · cases j with
      | zero => intro c e; simp at e; subst e; exact ⟨x, rfl, h1⟩
      | succ j => intro c e; simpa using f1 j c (by simpa using e)
    · cases j with
      | zero => exact s1
      | succ j => exact (f2 j).trans s2
    · cases j with
      | zero =>
        cases k with
        | zero => intro n; exact absurd rfl n
        | succ k => intro _; exact dj.sub Sub.rfl (f2 k)
      | succ j =>
        cases k with
        | zero => intro _; exact (dj.sub Sub.rfl (f2 j)).symm
        | succ k => intro n; exact f3 j k (by omega)
theorem Reps.join : ∀ {ds : List D} {vs : List V} {F : Nat → AS}, ds.length = vs.length → (∀ (j : Nat) d, ds[j]? = some d → ∃ v, vs[j]? = some v ∧ Rep K mg H d v (F j)) → (∀ j k, j ≠ k → Dj (F j) (F k)) → Reps K mg H ds vs (fun a => ∃ j, F j a)
  | [], vs, F, hl, _, _ => by
    cases vs with
    | nil => rfl
    | cons => simp at hl
  | d :: ds, vs, F, hl, h, dj => by
    cases vs with
    | nil => simp at hl
    | cons v vs =>
      obtain ⟨v', e, r⟩ := h 0 d rfl
      simp at e; subst e
      have r2 := Reps.join (F := fun j => F (j + 1)) (ds := ds) (vs := vs) (by simpa using hl) (fun j c e => by simpa using h (j + 1) c (by simpa using e)) fun j k n => dj (j + 1) (k + 1) (by omega)
      exact ⟨v, vs, F 0, _, rfl, fun a x => ⟨0, x⟩, fun a ⟨j, x⟩ => ⟨j + 1, x⟩, fun a x ⟨j, y⟩ => dj 0 (j + 1) (by omega) a x y, r, r2⟩
theorem fin_length (SA : List Nat) : ∀ (ds : List D) (j : Nat), (fin SA j ds).length = ds.length
  | [], _ => rfl
  | d :: ds, j => by simp only [fin, List.length_cons, fin_length SA ds (j + 1)]
theorem fin_get (SA : List Nat) : ∀ (ds : List D) (j k : Nat) (d : D), (fin SA j ds)[k]? = some d → ∃ c, ds[k]? = some c ∧ d = if SA.contains (j + k) then .un else c
  | [], _, _, _, e => by simp [fin] at e
  | c :: ds, j, 0, d, e => by
    simp [fin] at e; subst e
    exact ⟨c, rfl, by simp⟩
  | c :: ds, j, k + 1, d, e => by
    obtain ⟨c', e1, e2⟩ := fin_get SA ds (j + 1) k d (by simpa [fin] using e)
    exact ⟨c', by simpa using e1, by rw [e2, show j + 1 + k = j + (k + 1) by omega]⟩
theorem start_er {N : List Str} {ds : List D} {vs : List V} {T : AS} (r : Reps K mg H ds vs T) (l : Live H T) (hN : vs.length ≤ N.length) :
    ∃ F, ER K mg H (ds ++ List.replicate (N.length - ds.length) .un) (L2.start N vs) F ∧ ∀ j, Sub (F j) T := by
  obtain ⟨F, f1, f2, f3⟩ := r.split
  have hl := r.length
  refine ⟨F, ⟨?_, fun j d e => ?_, f3, fun j => l.sub (f2 j)⟩, f2⟩
  · unfold L2.start
    rw [List.length_append, List.length_append, List.length_replicate, List.length_replicate, List.length_map, hl]
  · unfold L2.start
    by_cases c : j < ds.length
    · rw [List.getElem?_append_left c] at e
      obtain ⟨v, e1, rv⟩ := f1 j d e
      refine ⟨some v, ?_, rv⟩
      rw [List.getElem?_append_left (by rw [List.length_map, hl]; exact c), List.getElem?_map, e1]; rfl
    · rw [List.getElem?_append_right (by omega)] at e
      have e2 := List.getElem?_replicate ▸ e
      rw [List.getElem?_append_right (by rw [List.length_map, hl]; omega), List.length_map, hl, List.getElem?_replicate]
      rw [List.getElem?_replicate] at e
      split at e
      · rename_i h
        rw [if_pos h]
        cases e
        exact ⟨none, rfl, rfl⟩
      · cases e
end
section
variable {P : Program} {w : World} {K : PySem.W.Frag} {mg : Str → Option Value} {base : Heap} {eC : Addr}
/-- what the body leaves tells of the parameters -/
theorem fin_reps {N : List Str} {ds ρ : List D} {vs : List V} {σ' : L2.St} {H H' : Hp} {F F' : Nat → AS} {SA : List Nat} (hv : vs.length ≤ N.length) (er : ER K mg H' ρ σ' F') (a : Agree SA (L2.start N vs) σ') : Reps K mg H' (fin SA 0 (ρ.take vs.length)) vs (fun a => ∃ j, F' j a) := by
  have hl : ρ.length = N.length := by
    rw [er.len, a.1]
    unfold L2.start
    rw [List.length_append, List.length_map, List.length_replicate]
    omega
  refine Reps.join (by rw [fin_length, List.length_take]; omega) (fun j d e => ?_) er.dj
  obtain ⟨c, e1, e2⟩ := fin_get SA _ 0 j d e
  have hj : j < vs.length := by
    have := (List.getElem?_eq_some_iff.mp e1).1
    rw [List.length_take] at this
    omega
  refine ⟨vs[j], by simp [hj], ?_⟩
  rw [Nat.zero_add] at e2
  by_cases c1 : SA.contains j = true
  · rw [if_pos c1] at e2
    subst e2
    trivial
  · rw [if_neg c1] at e2
    subst e2
    rw [List.getElem?_take_of_lt hj] at e1
    obtain ⟨o, e3, r⟩ := er.get j d e1
    rw [a.2 j (by intro h; exact c1 (by simpa using h))] at e3
    unfold L2.start at e3
    rw [List.getElem?_append_left (by rw [List.length_map]; exact hj), List.getElem?_map] at e3
    simp [hj] at e3
    subst e3
    exact r
/-- THE RULE for a def -/
theorem df_of {x qual : Str} {st : Stmt} {f : Addr} {fd : FuncData} {N ps : List Str} {k : Nat} {SA : List Nat} {m : SM} (F : Fun K x qual st f fd) (S : FnScope N ps (defScope st)) (hb : Binds K fd ps [])
    (body : ∀ (cdv : Value) (A : Around) (outer : List Env) (s : Shared) (H : Hp) (E : XK), Room k (A.deeper (envOfC qual (defScope st) s.heap.objs.size f cdv)) →
      VSs (cxOf (L2.CX P w) P w K mg base N qual (defScope st) f cdv A outer s H E) eC (fun cls d _ H => E cls d H) SA (defBody st) m) : Df P w K mg base eC (k + 1) f fd ps (fnM ps.length N.length SA m) := by
  refine ⟨F.okX S (fun vs H Q E h => ?_) (fun cdv A outer s H vs Q E hr h => ⟨_, body cdv A outer s H E hr, ?_⟩), F.kp, hb⟩
  · obtain ⟨ds, T, hn, _⟩ := h
    exact hn
  · obtain ⟨ds, T, hn, r, l, q⟩ := h
    have hpl : ps.length ≤ N.length := by have := congrArg List.length S.pre; rw [List.length_take] at this; omega
    obtain ⟨F0, er, sF⟩ := start_er (N := N) r l (by omega)
    have hd : ds.length = ps.length := by rw [← r.length, hn]
    rw [hd] at er
    refine ⟨_, F0, er, ?_⟩
    unfold fnM at q
    rw [if_pos hd] at q
    have aft : ∀ {H' : Hp} {F' : Nat → AS} {T1 : AS}, AftS H F0 H' F' → (∀ a, T1 a → (∃ k, F0 k a) ∨ H a = none) → Live H' T1 → (∀ j, Live H' (F' j)) → AftT T H H' (Un2 T1 fun a => ∃ j, F' j a) := fun {H' F' T1} g n l1 l2 =>
      ⟨fun a o e na => g.keep a o e fun j h => na (sF j a h), fun a h => by
        rcases h with h | ⟨j, h⟩
        · exact (n a h).imp (fun ⟨k, x⟩ => sF k a x) id
        · exact (g.sub j a h).imp (fun ⟨k, x⟩ => sF k a x) id, fun a h => by
        rcases h with h | ⟨j, h⟩
        · exact l1 a h
        · exact l2 j a h, g.dom⟩
    cases e1 : m (ds ++ List.replicate (N.length - ps.length) .un) with
    | bad => rw [e1] at q; exact q
    | ex z ρ =>
      rw [e1] at q
      intro dd σ' H' F' er' hx g a
      have rp := fin_reps (ds := ds) (H := H) (F := F0) (by omega) er' a
      rw [hn] at rp
      have t := aft (T1 := E0) g (fun _ h => h.elim) Live.e0 er'.live
      exact q dd H' _ rp ⟨t.keep, fun a h => t.sub a (.inr h), fun a h => t.live a (.inr h), t.dom⟩ hx
    | ok fl ρ =>
      rw [e1] at q
      cases fl with
      | bk => exact q.elim
      | ct => exact q.elim
      | nx =>
        intro σ' H' F' er' g a
        have rp := fin_reps (ds := ds) (H := H) (F := F0) (by omega) er' a
        rw [hn] at rp
        exact q .non H' E0 _ rfl rp Dj.e0 (aft g (fun _ h => h.elim) Live.e0 er'.live)
      | ret d =>
        intro v σ' H' F' T1 er' rv g a
        have rp := fin_reps (ds := ds) (H := H) (F := F0) (by omega) er' a
        rw [hn] at rp
        exact q v H' T1 _ rv rp (fun a h ⟨j, x⟩ => g.dj j a h x) (aft g.toAftS g.new g.live er'.live)
end
end VS
set_option Elab.async false
set_option linter.all false
set_option maxRecDepth 100000
set_option maxHeartbeats 4000000
/-! VS12: what is walked, targets, for. -/
namespace VS
open PySem PySem.Spec PyProof.Rows L2
/-- J walks the data ds while hold stands -/
structure Walk (K : PySem.W.Frag) (mg : Str → Option Value) (J : It) (hold : Hp → Prop) (ds : List D) : Prop where
  keep : ∀ H H', hold H → Kp E0 H H' → hold H'
  go : ∀ i H, hold H → i < ds.length → J.go i H
  yld : ∀ i H x H', hold H → i < ds.length → J.yld i H x H' → (∃ d, ds[i]? = some d ∧ Rep K mg H' d x E0) ∧ AftT E0 H H' E0
  stop : ∀ H, hold H → J.stop ds.length H
def TVI (K : PySem.W.Frag) (mg : Str → Option Value) (eC : Addr) (W : WX) (S : List Nat) (m : M (List D)) : TI := fun σ H R => ∃ ρ F, ER K mg H ρ σ F ∧
  match m ρ with
  | .ok ds ρ' => ∀ J H' F' hold, ER K mg H' ρ' σ F' → Aft S H F H' F' → Walk K mg J hold ds → hold H' → R J H'
  | .ex z ρ' => ∀ dd H' F', ER K mg H' ρ' σ F' → H' dd = some (.xd [("reason", .str z)]) → Aft S H F H' F' → W (.ref eC) (some dd) σ H'
  | .bad => False
abbrev VI (X : Cx) (eC : Addr) (W : WX) (S : List Nat) (tg iter : Expr) (m : M (List D)) : Prop := PI X tg iter (TVI X.K X.mg eC W S m)
theorem PI.imp {X : Cx} {tg iter : Expr} {t t' : TI} (h : PI X tg iter t) (i : ∀ σ H R, t' σ H R → t σ H R) : PI X tg iter t' := ⟨fun pins s σ H R I q => h.run pins s σ H R I (i σ H R q)⟩
theorem PI.or {X : Cx} {tg iter : Expr} {t t' : TI} (h : PI X tg iter t) (g : PI X tg iter t') : PI X tg iter (fun σ H R => t σ H R ∨ t' σ H R) := ⟨fun pins s σ H R I q => q.elim (h.run pins s σ H R I) (g.run pins s σ H R I)⟩
section
variable {K : PySem.W.Frag} {mg : Str → Option Value} {H : Hp}
theorem Rep.pureItem {ds : List D} {xs : List V} {i : Nat} {x : V} (r : Reps K mg H ds xs E0) (e : xs[i]? = some x) : ∃ d, ds[i]? = some d ∧ Rep K mg H d x E0 := by
  have lt := (List.getElem?_eq_some_iff.mp e).1
  rw [r.length] at lt
  obtain ⟨v, e2, rv⟩ := r.get (i := i) (d := ds[i]) (by simp [lt])
  rw [e] at e2; cases e2
  exact ⟨ds[i], by simp [lt], rv⟩
theorem walk_list {a : Addr} {ds : List D} {xs : List V} (q : RoL K H a xs) (r : Reps K mg H ds xs E0) : Walk K mg (Itl K a) (fun H => RoL K H a xs ∧ Reps K mg H ds xs E0) ds where
  keep := fun H H' h k => ⟨k.roL h.1, Reps.keep ds h.2 k⟩
  go := fun i H h lt => ⟨xs, xs[i]'(by rw [h.2.length]; exact lt), h.1.sq, by simp⟩
  yld := fun i H x H' h lt y => by
    obtain ⟨rfl, y⟩ := y
    exact ⟨Rep.pureItem h.2 (y xs h.1.sq), .refl⟩
  stop := fun H h => ⟨xs, h.1.sq, by rw [h.2.length]; exact Nat.le_refl _⟩
theorem walk_tup {a : Addr} {ds : List D} {xs : List V} (q : SqT K H a xs) (r : Reps K mg H ds xs E0) : Walk K mg (Itt K a) (fun H => SqT K H a xs ∧ Reps K mg H ds xs E0) ds where
  keep := fun H H' h k => ⟨k.tupT h.1, Reps.keep ds h.2 k⟩
  go := fun i H h lt => ⟨xs, xs[i]'(by rw [h.2.length]; exact lt), h.1, by simp⟩
  yld := fun i H x H' h lt y => by
    obtain ⟨rfl, y⟩ := y
    exact ⟨Rep.pureItem h.2 (y xs h.1), .refl⟩
  stop := fun H h => ⟨xs, h.1, by rw [h.2.length]; exact Nat.le_refl _⟩
def rangeD (lo : Int) (n : Nat) : List D := (List.range n).map fun i => D.int (lo + (i : Nat))
theorem walk_range {lo : Int} {n : Nat} : Walk K mg (Itr lo n) (fun _ => True) (rangeD lo n) where
  keep := fun _ _ _ _ => trivial
  go := fun i H h lt => by
    have h2 : i < n := by simpa [rangeD] using lt
    exact h2
  yld := fun i H x H' h lt y => by
    obtain ⟨rfl, rfl⟩ := y
    refine ⟨⟨.int (lo + i), ?_, rfl⟩, .refl⟩
    have : i < n := by simpa [rangeD] using lt
    simp [rangeD, this]
  stop := fun H h => by show n ≤ (rangeD lo n).length; simp [rangeD]
/-- a pair of items, a new tuple -/
theorem pair_tup {x y : V} {d e : D} {T : Addr} (h1 : Rep K mg H d x E0) (h2 : Rep K mg H e y E0) (nT : H T = none) : Rep K mg (upd H T (.tup [x, y])) (.tup [d, e]) (.ref T) E0 :=
  ⟨T, [x, y], rfl, .of upd_same, x, [y], E0, E0, rfl, Sub.rfl, Sub.rfl, Dj.e0, Rep.keep d h1 (kp_new nT), y, [], E0, E0, rfl, Sub.rfl, Sub.rfl, Dj.e0, Rep.keep e h2 (kp_new nT), rfl⟩
def pairsD (ds es : List D) : List D := (ds.zip es).map fun p => .tup [p.1, p.2]
def enumD (ds : List D) : List D := pairsD (rangeD 0 ds.length) ds
theorem pairsD_get {ds es : List D} {i : Nat} {d e : D} (h1 : ds[i]? = some d) (h2 : es[i]? = some e) : (pairsD ds es)[i]? = some (.tup [d, e]) := by
  simp [pairsD, List.getElem?_map, List.getElem?_zip_eq_some, h1, h2, List.zip, List.getElem?_zipWith]
theorem pairsD_length {ds es : List D} : (pairsD ds es).length = min ds.length es.length := by simp [pairsD]
theorem walk_enum {a : Addr} {ds : List D} {xs : List V} (q : RoL K H a xs) (r : Reps K mg H ds xs E0) : Walk K mg (Ite K a) (fun H => RoL K H a xs ∧ Reps K mg H ds xs E0) (enumD ds) where
  keep := fun H H' h k => ⟨k.roL h.1, Reps.keep ds h.2 k⟩
  go := fun i H h lt => by
    rw [enumD, pairsD_length] at lt
    have lt' : i < ds.length := by omega
    exact ⟨xs, xs[i]'(by rw [h.2.length]; exact lt'), h.1.sq, by simp⟩
  yld := fun i H x H' h lt y => by
    obtain ⟨T, x', rfl, nT, rfl, y⟩ := y
    obtain ⟨d, e1, rd⟩ := Rep.pureItem h.2 (y xs h.1.sq)
    have lt' : i < ds.length := (List.getElem?_eq_some_iff.mp e1).1
    refine ⟨⟨.tup [.int (i : Nat), d], pairsD_get ?_ e1, pair_tup rfl rd nT⟩, .newF nT Live.e0 Sub.rfl⟩
    simp [rangeD, lt']
  stop := fun H h => ⟨xs, h.1.sq, by rw [enumD, pairsD_length, h.2.length]; simp [rangeD]⟩
theorem walk_zipL {a b : Addr} {ds es : List D} {xs ys : List V} (q : RoL K H a xs) (r : Reps K mg H ds xs E0) (q' : RoL K H b ys) (r' : Reps K mg H es ys E0) :
    Walk K mg (Itz K a b) (fun H => (RoL K H a xs ∧ Reps K mg H ds xs E0) ∧ RoL K H b ys ∧ Reps K mg H es ys E0) (pairsD ds es) where
  keep := fun H H' h k => ⟨⟨k.roL h.1.1, Reps.keep ds h.1.2 k⟩, k.roL h.2.1, Reps.keep es h.2.2 k⟩
  go := fun i H h lt => by
    rw [pairsD_length] at lt
    exact ⟨xs, ys, xs[i]'(by rw [h.1.2.length]; omega), ys[i]'(by rw [h.2.2.length]; omega), h.1.1.sq, h.2.1.sq, by simp, by simp⟩
  yld := fun i H x H' h lt y => by
    obtain ⟨T, x', y', rfl, nT, rfl, z1, z2⟩ := y
    obtain ⟨d, e1, rd⟩ := Rep.pureItem h.1.2 (z1 xs h.1.1.sq)
    obtain ⟨e, e2, re⟩ := Rep.pureItem h.2.2 (z2 ys h.2.1.sq)
    exact ⟨⟨.tup [d, e], pairsD_get e1 e2, pair_tup rd re nT⟩, .newF nT Live.e0 Sub.rfl⟩
  stop := fun H h => ⟨xs, ys, h.1.1.sq, h.2.1.sq, by rw [pairsD_length, h.1.2.length, h.2.2.length]; omega⟩
theorem walk_zipT {a b : Addr} {ds es : List D} {xs ys : List V} (q : SqT K H a xs) (r : Reps K mg H ds xs E0) (q' : SqT K H b ys) (r' : Reps K mg H es ys E0) :
    Walk K mg (RZ.ItzT K a b) (fun H => (SqT K H a xs ∧ Reps K mg H ds xs E0) ∧ SqT K H b ys ∧ Reps K mg H es ys E0) (pairsD ds es) where
  keep := fun H H' h k => ⟨⟨k.tupT h.1.1, Reps.keep ds h.1.2 k⟩, k.tupT h.2.1, Reps.keep es h.2.2 k⟩
  go := fun i H h lt => by
    rw [pairsD_length] at lt
    exact ⟨xs, ys, xs[i]'(by rw [h.1.2.length]; omega), ys[i]'(by rw [h.2.2.length]; omega), h.1.1, h.2.1, by simp, by simp⟩
  yld := fun i H x H' h lt y => by
    obtain ⟨T, x', y', rfl, nT, rfl, z1, z2⟩ := y
    obtain ⟨d, e1, rd⟩ := Rep.pureItem h.1.2 (z1 xs h.1.1)
    obtain ⟨e, e2, re⟩ := Rep.pureItem h.2.2 (z2 ys h.2.1)
    exact ⟨⟨.tup [d, e], pairsD_get e1 e2, pair_tup rd re nT⟩, .newF nT Live.e0 Sub.rfl⟩
  stop := fun H h => ⟨xs, ys, h.1.1, h.2.1, by rw [pairsD_length, h.1.2.length, h.2.2.length]; omega⟩
end
/-! ### iterables -/
inductive Sq where
  | l (ds : List D) | t (ds : List D)
/-- frozen, as a list or a tuple -/
def sqOf : D → Option Sq
  | .lst false ds => some (.l ds)
  | .rol ds => some (.l ds)
  | .tup ds => if pures? ds then some (.t ds) else none
  | _ => none
section
variable {K : PySem.W.Frag} {mg : Str → Option Value} {H : Hp}
theorem Rep.sqL {d : D} {ds : List D} {v : V} {A : AS} (h : Rep K mg H d v A) (e : sqOf d = some (.l ds)) : ∃ a xs, v = .ref a ∧ RoL K H a xs ∧ Reps K mg H ds xs E0 := by
  cases d with
  | lst m ds' =>
    cases m with
    | true => cases e
    | false => cases e; obtain ⟨a, xs, rfl, q, r⟩ := h; exact ⟨a, xs, rfl, .inl q, r⟩
  | rol ds' => cases e; exact h
  | tup ds' => simp only [sqOf] at e; split at e <;> cases e
  | _ => cases e
theorem Rep.sqT {d : D} {ds : List D} {v : V} {A : AS} (h : Rep K mg H d v A) (e : sqOf d = some (.t ds)) : ∃ a xs, v = .ref a ∧ SqT K H a xs ∧ Reps K mg H ds xs E0 := by
  cases d with
  | lst m ds' => cases m <;> cases e
  | tup ds' =>
    simp only [sqOf] at e
    split at e
    · rename_i p
      cases e
      obtain ⟨a, xs, rfl, q, r⟩ := h
      exact ⟨a, xs, rfl, q, Reps.fixed _ p r⟩
    · cases e
  | _ => cases e
end
def Sq.ds : Sq → List D
  | .l ds => ds
  | .t ds => ds
section
variable {X : Cx} {eC : Addr} {W : WX} {S S1 S2 : List Nat} {tg : Expr} {pos : Pos}
/-- over a list or tuple; it is frozen first -/
def itM (m : EM) : M (List D) := fun ρ => (fzM m ρ).bind fun d ρ1 => Res.of ((sqOf d).map Sq.ds) ρ1
theorem vi_seq {e : Expr} {m : EM} (h : VE X eC W S e m) : VI X eC W S tg e (itM m) := PI.imp (PI.or (pi_list (ve_fzM h)) (pi_tup (ve_fzM h))) fun σ H R q => by
  obtain ⟨ρ, F, er, q⟩ := q
  unfold itM at q
  cases e1 : fzM m ρ with
  | bad => rw [e1] at q; exact q.elim
  | ex z ρ1 =>
    rw [e1] at q
    refine .inl ⟨ρ, F, er, ?_⟩
    rw [e1]
    exact q
  | ok d ρ1 =>
    rw [e1] at q
    simp only [Res.bind_ok] at q
    cases e2 : sqOf d with
    | none => rw [e2] at q; exact q.elim
    | some s =>
      rw [e2] at q
      cases s with
      | l ds =>
        refine .inl ⟨ρ, F, er, ?_⟩
        rw [e1]
        intro v H1 F1 T er1 r g
        obtain ⟨a, xs, rfl, ro, rs⟩ := r.sqL e2
        exact ⟨a, rfl, ⟨xs, ro.sq⟩, q _ H1 F1 _ er1 g.toAft (walk_list ro rs) ⟨ro, rs⟩⟩
      | t ds =>
        refine .inr ⟨ρ, F, er, ?_⟩
        rw [e1]
        intro v H1 F1 T er1 r g
        obtain ⟨a, xs, rfl, ro, rs⟩ := r.sqT e2
        exact ⟨a, rfl, ⟨xs, ro⟩, q _ H1 F1 _ er1 g.toAft (walk_tup ro rs) ⟨ro, rs⟩⟩
/-- range(n), range(a, b) -/
def small62 (i : Int) : Bool := decide (-(2 ^ 62) ≤ i) && decide (i < 2 ^ 62)
def rng1 : List D → Option (List D)
  | [.int j] => if small62 j then some (rangeD 0 j.toNat) else none
  | _ => none
def rng2 : List D → Option (List D)
  | [.int i, .int j] => if small62 i && small62 j then some (rangeD i (j - i).toNat) else none
  | _ => none
def rngM (f : List D → Option (List D)) (ms : M (List D)) : M (List D) := fun ρ => (ms ρ).bind fun ds ρ1 => Res.of (f ds) ρ1
theorem tvs_it {K : PySem.W.Frag} {mg : Str → Option Value} {σ : L2.St} {H : Hp} {R : It → Hp → Prop} {f : List D → Option (List D)} {ms : M (List D)} {Q : List V → Hp → Prop} (q : TVI K mg eC W S (rngM f ms) σ H R)
    (h : ∀ ds its vs H1 T, f ds = some its → Reps K mg H1 ds vs T → (∀ J hold, Walk K mg J hold its → hold H1 → R J H1) → Q vs H1) : TVs K mg eC W S ms σ H Q := by
  obtain ⟨ρ, F, er, q⟩ := q
  refine ⟨ρ, F, er, ?_⟩
  unfold rngM at q
  cases e1 : ms ρ with
  | bad => rw [e1] at q; exact q
  | ex z ρ1 => rw [e1] at q; exact q
  | ok ds ρ1 =>
    rw [e1] at q
    simp only [Res.bind_ok] at q
    cases e2 : f ds with
    | none => rw [e2] at q; exact q.elim
    | some its =>
      rw [e2] at q
      exact fun vs H1 F1 T er1 r g => h ds its vs H1 T e2 r fun J hold w hh => q J H1 F1 hold er1 g.toAft w hh
theorem vi_range1 {a : Expr} {p : Pos} {ms : M (List D)} (hg : Gl X "range") (hm : X.mg "range" = none) (ha : VA X eC W S [a] ms) (hs : starEach [a] X.env = [(false, eval a X.env)] := by rfl) : VI X eC W S tg (.Call (.Name "range" p) [a] [] pos) (rngM rng1 ms) :=
  PI.imp (pi_range1 hg hm ha hs) fun σ H R q => tvs_it q fun ds its vs H1 T e r k => by
    unfold rng1 at e
    split at e
    · rename_i j
      split at e
      · rename_i h
        cases e
        simp only [small62, Bool.and_eq_true, decide_eq_true_eq] at h
        obtain ⟨v, rfl, rv⟩ := r.one
        cases (show v = .int j from rv)
        exact ⟨j, rfl, h.1, h.2, k _ _ walk_range trivial⟩
      · cases e
    · cases e
theorem Reps.two {K : PySem.W.Frag} {mg : Str → Option Value} {H : Hp} {d e : D} {vs : List V} {A : AS} (h : Reps K mg H [d, e] vs A) : ∃ x y, vs = [x, y] ∧ Rep K mg H d x A ∧ Rep K mg H e y A := by
  obtain ⟨x, ys, A1, A2, rfl, s1, s2, j, h1, h2⟩ := h
  obtain ⟨y, ey, h3⟩ := h2.one
  subst ey
  exact ⟨x, y, rfl, h1.mono s1, h3.mono s2⟩
theorem vi_range2 {a b : Expr} {p : Pos} {ms : M (List D)} (hg : Gl X "range") (hm : X.mg "range" = none) (ha : VA X eC W S [a, b] ms) (hs : starEach [a, b] X.env = [(false, eval a X.env), (false, eval b X.env)] := by rfl) (hs2 : starEach [b] X.env = [(false, eval b X.env)] := by rfl) :
    VI X eC W S tg (.Call (.Name "range" p) [a, b] [] pos) (rngM rng2 ms) :=
  PI.imp (pi_range2 hg hm ha hs hs2) fun σ H R q => tvs_it q fun ds its vs H1 T e r k => by
    unfold rng2 at e
    split at e
    · rename_i i j
      split at e
      · rename_i h
        cases e
        simp only [small62, Bool.and_eq_true, decide_eq_true_eq] at h
        obtain ⟨x, y, rfl, rx, ry⟩ := r.two
        cases (show x = .int i from rx)
        cases (show y = .int j from ry)
        exact ⟨i, j, rfl, ⟨h.1.1, h.1.2, h.2.1, h.2.2⟩, k _ _ walk_range trivial⟩
      · cases e
    · cases e
end
/-! ### targets -/
/-- a target's reading is what g tells -/
def TgOk (K : PySem.W.Frag) (mg : Str → Option Value) (SA : List Nat) (t : TG) (g : D → List D → Option (List D)) : Prop :=
  ∀ d v T ρ ρ' F σ H Q, g d ρ = some ρ' → ER K mg H ρ σ F → Rep K mg H d v T → Live H T → (∀ j, Dj T (F j)) →
    (∀ σ' F', ER K mg H ρ' σ' F' → (∀ j a, F' j a → F j a ∨ T a) → Agree SA σ σ' → Q σ' H) → t v σ H Q
def TgsOk (K : PySem.W.Frag) (mg : Str → Option Value) (SA : List Nat) (t : TGs) (g : List D → List D → Option (List D)) : Prop :=
  ∀ ds vs T ρ ρ' F σ H Q, g ds ρ = some ρ' → ER K mg H ρ σ F → Reps K mg H ds vs T → Live H T → (∀ j, Dj T (F j)) →
    (∀ σ' F', ER K mg H ρ' σ' F' → (∀ j a, F' j a → F j a ∨ T a) → Agree SA σ σ' → Q σ' H) → t vs σ H Q
def VG (X : Cx) (SA : List Nat) (tg : Expr) (g : D → List D → Option (List D)) : Prop := ∃ t : TG, PG X tg t ∧ TgOk X.K X.mg SA t g
def VGs (X : Cx) (SA : List Nat) (ts : List Expr) (g : List D → List D → Option (List D)) : Prop := ∃ t : TGs, PGs X ts t ∧ TgsOk X.K X.mg SA t g
section
variable {K : PySem.W.Frag} {mg : Str → Option Value} {SA : List Nat}
def tgN (i : Nat) : D → List D → Option (List D) := fun d ρ => if i < ρ.length then some (ρ.set i d) else none
theorem tk_name {i : Nat} (hi : i ∈ SA) : TgOk K mg SA (gName i) (tgN i) := fun d v T ρ ρ' F σ H Q e er r l dj k => by
  unfold tgN at e
  split at e
  · rename_i lt
    cases e
    refine k _ _ (er.put lt r l dj) (fun j a h => ?_) (.set hi)
    by_cases z : j = i
    · rw [if_pos z] at h; exact .inr h
    · rw [if_neg z] at h; exact .inl h
  · cases e
def tgNil : List D → List D → Option (List D)
  | [], ρ => some ρ
  | _, _ => none
def tgCons (g : D → List D → Option (List D)) (gs : List D → List D → Option (List D)) : List D → List D → Option (List D)
  | d :: ds, ρ => (g d ρ).bind (gs ds)
  | [], _ => none
theorem tks_nil : TgsOk K mg SA gNil tgNil := fun ds vs T ρ ρ' F σ H Q e er r l dj k => by
  cases ds with
  | nil => cases e; exact ⟨r, k σ F er (fun _ _ => .inl) .refl⟩
  | cons => cases e
theorem tks_cons {t : TG} {ts : TGs} {g : D → List D → Option (List D)} {gs : List D → List D → Option (List D)} (k1 : TgOk K mg SA t g) (k2 : TgsOk K mg SA ts gs) : TgsOk K mg SA (gCons t ts) (tgCons g gs) := fun ds vs T ρ ρ' F σ H Q e er r l dj k => by
  cases ds with
  | nil => cases e
  | cons d ds =>
    simp only [tgCons, Option.bind_eq_some_iff] at e
    obtain ⟨ρ1, e1, e2⟩ := e
    obtain ⟨x, ys, A1, A2, rfl, s1, s2, d12, r1, r2⟩ := r
    refine ⟨x, ys, rfl, k1 d x A1 ρ ρ1 F σ H _ e1 er r1 (l.sub s1) (fun j => (dj j).sub s1 Sub.rfl) fun σ1 F1 er1 f1 a1 => ?_⟩
    refine k2 ds ys A2 ρ1 ρ' F1 σ1 H _ e2 er1 r2 (l.sub s2) (fun j a h g => ?_) fun σ2 F2 er2 f2 a2 => k σ2 F2 er2 (fun j a h => ?_) (a1.trans a2)
    · rcases f1 j a g with g | g
      · exact dj j a (s2 a h) g
      · exact d12 a g h
    · rcases f2 j a h with h | h
      · exact (f1 j a h).imp id (s1 a)
      · exact .inr (s2 a h)
def tgTup (n : Nat) (gs : List D → List D → Option (List D)) : D → List D → Option (List D)
  | .tup ds, ρ => if ds.length = n then gs ds ρ else none
  | _, _ => none
theorem tk_tup {ts : TGs} {gs : List D → List D → Option (List D)} {n : Nat} (kk : TgsOk K mg SA ts gs) : TgOk K mg SA (gTup K n ts) (tgTup n gs) := fun d v T ρ ρ' F σ H Q e er r l dj q => by
  unfold tgTup at e
  split at e
  · split at e
    · rename_i hl
      obtain ⟨a, xs, rfl, s, r⟩ := r
      exact ⟨a, xs, rfl, s, by rw [r.length]; exact hl, kk _ xs T ρ ρ' F σ H Q e er r l dj q⟩
    · cases e
  · cases e
end
section
variable {X : Cx} {SA : List Nat} {pos : Pos}
theorem vg_name {i : Nat} {x : Str} (hi : i ∈ SA) (hN : X.N.Nodup) (hx : X.N[i]? = some x) (hl : Loc X.env.scope x) (hf : X.fn x = true ∨ X.env.scope.names.lookup x = some .local := by first | exact .inl rfl | exact .inr rfl) : VG X SA (.Name x pos) (tgN i) :=
  ⟨_, pg_name hN hx hl hf, tk_name hi⟩
theorem vgs_nil : VGs X SA [] tgNil := ⟨_, pgs_nil, tks_nil⟩
theorem vgs_cons {e : Expr} {es : List Expr} {g : D → List D → Option (List D)} {gs : List D → List D → Option (List D)} (h1 : VG X SA e g) (h2 : VGs X SA es gs)
    (hs : (assignEach (e :: es) X.env).map (·.2) = assign e X.env :: (assignEach es X.env).map (·.2) := by rfl) : VGs X SA (e :: es) (tgCons g gs) := by
  obtain ⟨t1, p1, k1⟩ := h1
  obtain ⟨t2, p2, k2⟩ := h2
  exact ⟨_, pgs_cons p1 p2 hs, tks_cons k1 k2⟩
theorem vg_tup {es : List Expr} {k : Nat} {gs : List D → List D → Option (List D)} {n : Nat} (hc : X.calm = true) (h : VGs X SA es gs)
    (hn : (assignEach es X.env).length = n := by rfl) (hst : (assignEach es X.env).findIdx? (·.1) = none := by rfl) : VG X SA (.Tuple es k pos) (tgTup n gs) := by
  obtain ⟨t, p, kk⟩ := h
  exact ⟨_, pg_tup hc p hn hst, tk_tup kk⟩
end
end VS
set_option Elab.async false
set_option linter.all false
set_option maxRecDepth 100000
set_option maxHeartbeats 4000000
/-! VS13: for, while, zip, enumerate; stores. -/
namespace VS
open PySem PySem.Spec PyProof.Rows L2
theorem AftS.kp0 {K : PySem.W.Frag} {mg : Str → Option Value} {H H' : Hp} {ρ : List D} {σ : L2.St} {F F' : Nat → AS} (g : AftS H F H' F') (er : ER K mg H ρ σ F) : Kp E0 H H' := fun a o e h =>
  g.keep a o e fun j x => h.elim id fun f => (er.live j).nfix e f x
def forM (g : D → List D → Option (List D)) (b : SM) : List D → SM
  | [], ρ => .ok .nx ρ
  | d :: ds, ρ => (Res.of (g d ρ) ρ).bind fun ρ1 _ => (b ρ1).bind fun f ρ2 => match f with
    | .nx => forM g b ds ρ2
    | .ct => forM g b ds ρ2
    | .bk => .ok .nx ρ2
    | .ret d => .ok (.ret d) ρ2
def forS (it : M (List D)) (g : D → List D → Option (List D)) (b : SM) : SM := fun ρ => (it ρ).bind fun ds ρ1 => forM g b ds ρ1
section
variable {X : Cx} {eC : Addr} {W : WX} {S S1 S2 SA : List Nat} {pos : Pos}
theorem tvi_s {K : PySem.W.Frag} {mg : Str → Option Value} {σ : L2.St} {H : Hp} {E : Ends} {it : M (List D)} {f : List D → List D → Res Fl} {R : It → Hp → Prop} (q : TVS K mg eC W SA (fun ρ => (it ρ).bind f) E σ H)
    (h : ∀ ds ρ1 J H1 F1 hold, ER K mg H1 ρ1 σ F1 → Walk K mg J hold ds → hold H1 → CS K mg eC W SA E σ H1 F1 (f ds ρ1) → R J H1) : TVI K mg eC W S it σ H R := by
  obtain ⟨ρ, F, er, q⟩ := q
  refine ⟨ρ, F, er, ?_⟩
  dsimp only at q
  cases e1 : it ρ with
  | bad => rw [e1] at q; exact q
  | ex z ρ1 => rw [e1] at q; exact fun dd H' F' er' x g => q dd σ H' F' er' x g.s .refl
  | ok ds ρ1 =>
    rw [e1] at q
    exact fun J H1 F1 hold er1 g w hh => h ds ρ1 J H1 F1 hold er1 w hh (CS.after q g.s .refl)
theorem for_core {K : PySem.W.Frag} {mg : Str → Option Value} {E : Ends} {σ : L2.St} {H : Hp} {F : Nat → AS} {J : It} {hold : Hp → Prop} {ds ρ : List D} {g : D → List D → Option (List D)} {b : SM} {gt : TG}
    (kt : ∀ d v T ρ ρ' F σ H Q, g d ρ = some ρ' → ER K mg H ρ σ F → Rep K mg H d v T → Live H T → (∀ j, Dj T (F j)) → (∀ σ' F', ER K mg H ρ' σ' F' → (∀ j a, F' j a → F j a ∨ T a) → Agree SA σ σ' → Q σ' H) → gt v σ H Q)
    (w : Walk K mg J hold ds) (er : ER K mg H ρ σ F) (hh : hold H) (q : CS K mg eC W SA E σ H F (forM g b ds ρ)) :
    ∃ Wi : Nat → Nat → L2.St → Hp → Prop, (∃ m, Wi 0 m σ H) ∧ ∀ i m σ H, Wi i m σ H →
      (J.stop i H ∧ E.nx σ H) ∨ (J.go i H ∧ ∃ N : L2.St → Hp → Prop, (∀ σ' H', N σ' H' → ∃ m', m' < m ∧ Wi (i + 1) m' σ' H') ∧ ∀ x H', J.yld i H x H' → gt x σ H' fun σ2 H2 => TVS K mg eC W SA b { E with nx := N, ct := N, bk := E.nx } σ2 H2) := by
  refine ⟨fun i m σ1 H1 => m = ds.length - i ∧ i ≤ ds.length ∧ hold H1 ∧ ∃ ρ1 F1, ER K mg H1 ρ1 σ1 F1 ∧ CS K mg eC W SA E σ1 H1 F1 (forM g b (ds.drop i) ρ1), ⟨ds.length, rfl, Nat.zero_le _, hh, ρ, F, er, by simpa using q⟩, ?_⟩
  rintro i m σ1 H1 ⟨rfl, hi, h1, ρ1, F1, er1, q1⟩
  by_cases hlt : i < ds.length
  · refine .inr ⟨w.go i H1 h1 hlt, fun σ2 H2 => hold H2 ∧ ∃ ρ2 F2, ER K mg H2 ρ2 σ2 F2 ∧ CS K mg eC W SA E σ2 H2 F2 (forM g b (ds.drop (i + 1)) ρ2), fun σ2 H2 ⟨h2, ρ2, F2, er2, q2⟩ => ⟨ds.length - (i + 1), by omega, rfl, hlt, h2, ρ2, F2, er2, q2⟩, fun x H2 y => ?_⟩
    obtain ⟨⟨d, e, r⟩, t⟩ := w.yld i H1 x H2 h1 hlt y
    have ed : ds.drop i = d :: ds.drop (i + 1) := by
      rw [List.drop_eq_getElem_cons hlt]
      have : ds[i] = d := by
        have := List.getElem?_eq_getElem hlt
        rw [e] at this; exact (Option.some.inj this).symm
      rw [this]
    rw [ed] at q1
    have er2 := er1.step Live.e0 (fun _ => Dj.e0) t
    have g2 : AftS H1 F1 H2 F1 := ⟨fun a o e n => t.keep a o e id, fun j a h => .inl ⟨j, h⟩, t.dom⟩
    unfold forM at q1
    cases e1 : g d ρ1 with
    | none => rw [e1] at q1; exact q1.elim
    | some ρ2 =>
      rw [e1] at q1
      simp only [Res.of_some, Res.bind_ok] at q1
      refine kt d x E0 ρ1 ρ2 F1 σ1 H2 _ e1 er2 r Live.e0 (fun _ => Dj.e0) fun σ3 F3 er3 f3 a3 => ⟨ρ2, F3, er3, ?_⟩
      have g3 : AftS H1 F1 H2 F3 := g2.trans ⟨fun a o e _ => e, fun j a h => .inl ((f3 j a h).elim (fun h => ⟨j, h⟩) fun h => h.elim), fun _ e => e⟩
      have h2 : hold H2 := w.keep H1 H2 h1 (g3.kp0 er1)
      cases e2 : b ρ2 with
      | bad => rw [e2] at q1; exact q1
      | ex z ρ3 => rw [e2] at q1; exact fun dd σ' H' F' er' hx g' a' => q1 dd σ' H' F' er' hx (g3.trans g') (a3.trans a')
      | ok f ρ3 =>
        rw [e2] at q1
        simp only [Res.bind_ok] at q1
        cases f with
        | nx => exact fun σ' H' F' er' g' a' => ⟨w.keep H2 H' h2 (g'.kp0 er3), ρ3, F', er', CS.after q1 (g3.trans g') (a3.trans a')⟩
        | ct => exact fun σ' H' F' er' g' a' => ⟨w.keep H2 H' h2 (g'.kp0 er3), ρ3, F', er', CS.after q1 (g3.trans g') (a3.trans a')⟩
        | bk => exact fun σ' H' F' er' g' a' => q1 σ' H' F' er' (g3.trans g') (a3.trans a')
        | ret d' => exact fun v σ' H' F' T er' rv g' a' => q1 v σ' H' F' T er' rv (GotS.trans g3 g') (a3.trans a')
  · have e : i = ds.length := by omega
    subst e
    rw [List.drop_length] at q1
    exact .inl ⟨w.stop H1 h1, q1 σ1 H1 F1 er1 .refl .refl⟩
theorem vs_for {tg iter : Expr} {body : List Stmt} {it : M (List D)} {g : D → List D → Option (List D)} {b : SM} (hp : PassesOwn (model X.prog X.w) X.A X.env X.xe) (hc : X.calm = true) (hi : VI X eC W S tg iter it) (hg : VG X SA tg g) (hb : VSs X eC W SA body b)
    (hs : ∀ x, foldedSetIterable iter X.env x = pure x := by intro _; rfl) : VS X eC W SA (.For tg iter body [] pos) (forS it g b) := by
  obtain ⟨gt, pg, kt⟩ := hg
  exact PS.imp (ps_for hp hc hi pg hb hs) fun E σ H q => tvi_s q fun ds ρ1 J H1 F1 hold er1 w hh q => for_core kt w er1 hh q
/-- while: told with a number of turns that is enough -/
def whileM (t : M Bool) (b : SM) : Nat → SM
  | 0, _ => .bad
  | n + 1, ρ => (t ρ).bind fun c ρ1 => if c = true then ((b ρ1).bind fun f ρ2 => match f with
    | .nx => whileM t b n ρ2
    | .ct => whileM t b n ρ2
    | .bk => .ok .nx ρ2
    | .ret d => .ok (.ret d) ρ2) else .ok .nx ρ1
def whileS (fuel : List D → Nat) (t : M Bool) (b : SM) : SM := fun ρ => whileM t b (fuel ρ) ρ
theorem vs_while {c : Expr} {body : List Stmt} {t : M Bool} {b : SM} (fuel : List D → Nat) (hp : PassesOwn (model X.prog X.w) X.A X.env X.xe) (hc : VT X eC W S c t) (hb : VSs X eC W SA body b) : VS X eC W SA (.While c body [] pos) (whileS fuel t b) :=
  PS.imp (ps_while hp hc hb) fun E σ H ⟨ρ, F, er, q⟩ => by
    refine ⟨fun n σ1 H1 => ∃ ρ1 F1, ER X.K X.mg H1 ρ1 σ1 F1 ∧ CS X.K X.mg eC W SA E σ1 H1 F1 (whileM t b n ρ1), ⟨fuel ρ, ρ, F, er, q⟩, ?_⟩
    rintro n σ1 H1 ⟨ρ1, F1, er1, q1⟩
    cases n with
    | zero => exact q1.elim
    | succ n =>
      unfold whileM at q1
      refine ⟨ρ1, F1, er1, ?_⟩
      cases e1 : t ρ1 with
      | bad => rw [e1] at q1; exact q1
      | ex z ρ2 => rw [e1] at q1; exact fun dd H' F' er' x g => q1 dd σ1 H' F' er' x g.s .refl
      | ok c ρ2 =>
        rw [e1] at q1
        intro H2 F2 er2 g2
        simp only [Res.bind_ok] at q1
        cases c with
        | false =>
          rw [if_neg Bool.false_ne_true] at q1 ⊢
          exact q1 σ1 H2 F2 er2 g2.s .refl
        | true =>
          rw [if_pos rfl] at q1 ⊢
          refine ⟨fun σ2 H2 => ∃ ρ1 F1, ER X.K X.mg H2 ρ1 σ2 F1 ∧ CS X.K X.mg eC W SA E σ2 H2 F1 (whileM t b n ρ1), fun σ' H' h => ⟨n, Nat.lt_succ_self _, h⟩, ρ2, F2, er2, ?_⟩
          cases e2 : b ρ2 with
          | bad => rw [e2] at q1; exact q1
          | ex z ρ3 => rw [e2] at q1; exact fun dd σ' H' F' er' hx g' a' => q1 dd σ' H' F' er' hx (g2.s.trans g') a'
          | ok f ρ3 =>
            rw [e2] at q1
            simp only [Res.bind_ok] at q1
            cases f with
            | nx => exact fun σ' H' F' er' g' a' => ⟨ρ3, F', er', CS.after q1 (g2.s.trans g') a'⟩
            | ct => exact fun σ' H' F' er' g' a' => ⟨ρ3, F', er', CS.after q1 (g2.s.trans g') a'⟩
            | bk => exact fun σ' H' F' er' g' a' => q1 σ' H' F' er' (g2.s.trans g') a'
            | ret d' => exact fun v σ' H' F' T er' rv g' a' => q1 v σ' H' F' T er' rv (GotS.trans g2.s g') a'
/-- target = value, the target names -/
def asgM (g : D → List D → Option (List D)) (m : EM) : SM := fun ρ => (m ρ).bind fun d ρ1 => (Res.of (g d ρ1) ρ1).bind fun ρ2 _ => .ok .nx ρ2
theorem vs_asg {tg e : Expr} {g : D → List D → Option (List D)} {m : EM} (h : VE X eC W S e m) (hg : VG X SA tg g) (hs : swapsWithSole [tg] e pos.line X.env = pure false := by rfl) (hw : swappedStores [tg] e X.env = pure none := by rfl)
    (h1 : (assignEach [tg] X.env).map (·.2) = [assign tg X.env] := by rfl) : VS X eC W SA (.Assign [tg] e pos) (asgM g m) := by
  obtain ⟨gt, pg, kt⟩ := hg
  exact PS.imp (ps_asg h pg hs hw h1) fun E σ H q => tv_s q fun d ρ1 v H1 F1 T er1 r dj l _ ⟨F0, H0, q, ga, new⟩ => by
    cases e1 : g d ρ1 with
    | none => rw [e1] at q; exact q.elim
    | some ρ2 =>
      rw [e1] at q
      refine kt d v T ρ1 ρ2 F1 σ H1 _ e1 er1 r l dj fun σ2 F2 er2 f2 a2 => q σ2 H1 F2 er2 ⟨ga.keep, fun j a h => ?_, ga.dom⟩ a2
      rcases f2 j a h with h | h
      · exact ga.sub j a h
      · exact new a h
/-! ### zip, enumerate -/
/-- frozen lists -/
def roOf : D → Option (List D)
  | .lst false ds => some ds
  | .rol ds => some ds
  | _ => none
theorem Rep.ro {K : PySem.W.Frag} {mg : Str → Option Value} {H : Hp} {d : D} {ds : List D} {v : V} {A : AS} (h : Rep K mg H d v A) (e : roOf d = some ds) : ∃ a xs, v = .ref a ∧ RoL K H a xs ∧ Reps K mg H ds xs E0 := by
  cases d with
  | lst m ds' =>
    cases m with
    | true => cases e
    | false => cases e; obtain ⟨a, xs, rfl, q, r⟩ := h; exact ⟨a, xs, rfl, .inl q, r⟩
  | rol ds' => cases e; exact h
  | _ => cases e
def enumI : List D → Option (List D)
  | [d] => (roOf d).map enumD
  | _ => none
theorem vi_enum {a : Expr} {elts : List Expr} {kk : Nat} {tpos p : Pos} {ms : M (List D)} (hg : Gl X "enumerate") (hm : X.mg "enumerate" = none) (ha : VA X eC W S [a] ms) (hs : starEach [a] X.env = [(false, eval a X.env)] := by rfl) :
    VI X eC W S (.Tuple elts kk tpos) (.Call (.Name "enumerate" p) [a] [] pos) (rngM enumI ms) := PI.imp (pi_enum hg hm ha hs) fun σ H R q => tvs_it q fun ds its vs H1 T e r k => by
    unfold enumI at e
    split at e
    · simp only [Option.map_eq_some_iff] at e
      obtain ⟨es, e, rfl⟩ := e
      obtain ⟨v, rfl, rv⟩ := r.one
      obtain ⟨b, xs, rfl, ro, rs⟩ := rv.ro e
      exact ⟨b, xs, rfl, ro.sq, k _ _ (walk_enum ro rs) ⟨ro, rs⟩⟩
    · cases e
def zipI : List D → Option (List D)
  | [d, e] => match sqOf d, sqOf e with
    | some (.l ds), some (.l es) => some (pairsD ds es)
    | some (.t ds), some (.t es) => some (pairsD ds es)
    | _, _ => none
  | _ => none
theorem vi_zip {a b : Expr} {elts : List Expr} {kk : Nat} {tpos p : Pos} {ms : M (List D)} (hg : Gl X "zip") (hm : X.mg "zip" = none) (ha : VA X eC W S [a, b] ms)
    (hs : starEach [a, b] X.env = (false, eval a X.env) :: starEach [b] X.env := by rfl) (hpl : (backTo pos (starEach [b] X.env)).any (·.1) = false := by rfl) :
    VI X eC W S (.Tuple elts kk tpos) (.Call (.Name "zip" p) [a, b] [] pos) (rngM zipI ms) := PI.imp (RZ.pi_zipA hg hm ha hs hpl) fun σ H R q => tvs_it q fun ds its vs H1 T e r k => by
    unfold zipI at e
    split at e
    · split at e
      · rename_i e1 e2
        cases e
        obtain ⟨x, y, rfl, rx, ry⟩ := r.two
        obtain ⟨c, xs, rfl, ro, rs⟩ := rx.sqL e1
        obtain ⟨c', ys, rfl, ro', rs'⟩ := ry.sqL e2
        exact ⟨c, c', xs, ys, rfl, .inl ⟨ro.sq, ro'.sq, k _ _ (walk_zipL ro rs ro' rs') ⟨⟨ro, rs⟩, ro', rs'⟩⟩⟩
      · rename_i e1 e2
        cases e
        obtain ⟨x, y, rfl, rx, ry⟩ := r.two
        obtain ⟨c, xs, rfl, ro, rs⟩ := rx.sqT e1
        obtain ⟨c', ys, rfl, ro', rs'⟩ := ry.sqT e2
        exact ⟨c, c', xs, ys, rfl, .inr ⟨ro, ro', k _ _ (walk_zipT ro rs ro' rs') ⟨⟨ro, rs⟩, ro', rs'⟩⟩⟩
      · cases e
    · cases e
end
end VS
set_option Elab.async false
set_option linter.all false
set_option maxRecDepth 100000
set_option maxHeartbeats 4000000
/-! VS14: stores into places, methods of lists. -/
namespace VS
open PySem PySem.Spec PyProof.Rows L2
section
variable {K : PySem.W.Frag} {mg : Str → Option Value} {H H' : Hp} {ρ : List D} {σ : L2.St} {F : Nat → AS} {i : Nat} {ps : Path} {d0 c0 : D}
/-- a place, to be told anew -/
theorem plc_set (er : ER K mg H ρ σ F) (e1 : ρ[i]? = some d0) (e2 : getP d0 ps = some c0) (hc : has? c0 = true) :
    ∃ x A1, PlcAt K mg H σ i ps x ∧ Rep K mg H c0 x A1 ∧ Sub A1 (F i) ∧ ∀ (T : AS), (∀ j, Dj T (F j)) → Live H T → ∀ H' T' c', AftT (Un2 A1 T) H H' T' → Rep K mg H' c' x T' →
      ∃ F', ER K mg H' (ρ.set i (putP d0 ps c')) σ F' ∧ (∀ j a, F' j a → (F j a ∧ ¬ A1 a) ∨ T' a) ∧ ∀ j, j ≠ i → F' j = F j := by
  obtain ⟨o, e3, r⟩ := er.get i d0 e1
  obtain ⟨v0, rfl, r⟩ := has_root e2 hc r
  obtain ⟨x, A1, A2, a, s1, s2, d12, r1, r2, kp⟩ := r.path e2
  refine ⟨x, A1, ⟨v0, e3, a⟩, r1, s1, fun T dT lT H' T' c' t r3 => ?_⟩
  have l1 : Live H A1 := (er.live i).sub s1
  have lU := l1.un lT
  have kO : ∀ j, j ≠ i → Kp (F j) H H' := fun j n => t.kp lU fun b h g => g.elim (fun g => er.dj i j (Ne.symm n) b (s1 b g) h) fun g => dT j b g h
  have k2 : Kp A2 H H' := t.kp lU fun b h g => g.elim (fun g => d12 b g h) fun g => dT i b g (s2 b h)
  have d2 : Dj T' A2 := fun b h g => by
    rcases t.sub b h with (z | z) | z
    · exact d12 b z g
    · exact dT i b z (s2 b g)
    · obtain ⟨u, e, _⟩ := er.live i b (s2 b g)
      rw [e] at z; cases z
  have dO : ∀ j, j ≠ i → Dj T' (F j) := fun j n b h g => by
    rcases t.sub b h with (z | z) | z
    · exact er.dj i j (Ne.symm n) b (s1 b z) g
    · exact dT j b z g
    · obtain ⟨u, e, _⟩ := er.live j b g
      rw [e] at z; cases z
  have lt : i < ρ.length := (List.getElem?_eq_some_iff.mp e1).1
  have r4 := Rep.pathFill (Rep.keep _ r2 k2) e2 (kp H' k2) r3 d2
  refine ⟨fun j => if j = i then Un2 A2 T' else F j, ⟨by rw [List.length_set]; exact er.len, fun j c q => ?_, fun j k n => ?_, fun j => ?_⟩, fun j a h => ?_, fun j n => if_neg n⟩
  · by_cases z : j = i
    · subst z
      rw [List.getElem?_set_self lt] at q
      cases q
      exact ⟨some v0, e3, by rw [if_pos rfl]; exact r4⟩
    · rw [List.getElem?_set_ne (Ne.symm z)] at q
      obtain ⟨o, e4, r5⟩ := er.get j c q
      refine ⟨o, e4, ?_⟩
      rw [if_neg z]
      cases o with
      | none => exact r5
      | some v => exact Rep.keep c r5 (kO j z)
  · by_cases z : j = i
    · rw [if_pos z, if_neg (by omega)]
      exact fun b h g => h.elim (fun h => er.dj i k (by omega) b (s2 b h) g) fun h => dO k (by omega) b h g
    · rw [if_neg z]
      by_cases z' : k = i
      · rw [if_pos z']
        exact fun b h g => g.elim (fun g => er.dj j i z b h (s2 b g)) fun g => dO j z b g h
      · rw [if_neg z']; exact er.dj j k n
  · by_cases z : j = i
    · rw [if_pos z]; exact (((er.live i).sub s2).keep k2).un t.live
    · rw [if_neg z]; exact (er.live j).keep (kO j z)
  · dsimp only at h
    by_cases z : j = i
    · rw [if_pos z] at h
      subst z
      exact h.imp (fun h => ⟨s2 a h, fun x => d12 a x h⟩) id
    · rw [if_neg z] at h
      exact .inl ⟨h, fun x => er.dj j i z a h (s1 a x)⟩
/-- an object rewritten at its place -/
theorem AftT.upd {A T : AS} {a : Addr} {o : HO} (i : A a) (m : Mut (some o)) (l : Live H A) (s : Sub T A) : AftT A H (upd H a o) T where
  keep := fun b u e n => by rw [upd_ne (by rintro rfl; exact n i)]; exact e
  sub := fun b h => .inl (s b h)
  live := fun b h => by
    by_cases z : b = a
    · subst z; exact ⟨o, upd_same, m⟩
    · rw [upd_ne z]; exact l b (s b h)
  dom := fun b e => by
    by_cases z : b = a
    · subst z; rw [upd_same] at e; cases e
    · rw [upd_ne z] at e; exact e
theorem kp_upd {A : AS} {a : Addr} {o u : HO} (n : ¬ A a) (e : H a = some u) (m : Mut (some u)) : Kp A H (upd H a o) := fun b w e2 h => by
  have z : b ≠ a := by
    rintro rfl
    rcases h with h | h
    · exact n h
    · rw [e] at e2; cases e2
      cases u <;> first | exact m | exact h
  rw [upd_ne z]; exact e2
end
/-! ### o.f = e -/
def fldPut (f : Str) (v : D) : List Str → List D → List Str × List D
  | g :: ns, d :: ds => if g = f then (g :: ns, v :: ds) else (g :: (fldPut f v ns ds).1, d :: (fldPut f v ns ds).2)
  | _, _ => ([f], [v])
section
variable {K : PySem.W.Frag} {mg : Str → Option Value} {H H' : Hp}
theorem fldPut_ok {f : Str} {d : D} {y : V} {T : AS} (rd : Rep K mg H d y T) : ∀ {fs : List (Str × V)} {ds : List D} {A : AS}, Reps K mg H ds (fs.map (·.2)) A → Dj A T →
    (putF f y fs).map (·.1) = (fldPut f d (fs.map (·.1)) ds).1 ∧ Reps K mg H (fldPut f d (fs.map (·.1)) ds).2 ((putF f y fs).map (·.2)) (Un2 A T)
  | [], ds, A, r, dj => by
    cases ds with
    | nil => exact ⟨rfl, y, [], T, E0, rfl, fun _ => .inr, Sub.e0, Dj.e0r, rd, rfl⟩
    | cons => obtain ⟨x, ys, A1, A2, e, _⟩ := r; cases e
  | (g, z) :: fs, ds, A, r, dj => by
    cases ds with
    | nil => cases r
    | cons c ds =>
      obtain ⟨x, ys, A1, A2, e, s1, s2, d12, r1, r2⟩ := r
      cases e
      unfold putF
      simp only [List.map_cons, fldPut]
      by_cases h : g = f
      · rw [if_pos h, if_pos h]
        exact ⟨rfl, y, _, T, A2, rfl, fun _ => .inr, fun a h => .inl (s2 a h), fun a h g => dj a (s2 a g) h, rd, r2⟩
      · rw [if_neg h, if_neg h]
        obtain ⟨e1, r3⟩ := fldPut_ok rd r2 (dj.sub s2 Sub.rfl)
        refine ⟨by rw [List.map_cons, e1], z, _, A1, Un2 A2 T, rfl, fun a h => .inl (s1 a h), fun a h => h.imp (s2 a) id, fun a h g => g.elim (d12 a h) (dj a (s1 a h)), r1, r3⟩
end
def stFld (i : Nat) (ps : Path) (c f : Str) (m : EM) : SM := fun ρ => (m ρ).bind fun d ρ1 => match ρ1[i]? with
  | some d0 => (match getP d0 ps with
    | some (.obj true c' ns ds) => if c' = c ∧ ns.length < 1000 then .ok .nx (ρ1.set i (putP d0 ps (.obj true c (fldPut f d ns ds).1 (fldPut f d ns ds).2))) else .bad
    | _ => .bad)
  | none => .bad
section
variable {X : Cx} {eC : Addr} {W : WX} {S S1 S2 SA : List Nat} {pos : Pos}
theorem vs_fld {o e : Expr} {i : Nat} {ps : Path} {c f : Str} {m : EM} {pos' : Pos} (hO : VP X o i ps) (h : VE X eC W S e m) (hc : ∀ C, X.mg c = some (.ref C) → Cls X.K C ∧ NoAttr X.K C f)
    (hs : swapsWith e (some (.Attribute o f pos')) pos.line X.env = pure false := by rfl) : VS X eC W SA (.Assign [.Attribute o f pos'] e pos) (stFld i ps c f m) := PS.imp (ps_fld hO h hs) fun E σ H q =>
  tv_s q fun d ρ1 v H1 F1 T er1 r dj l _ ⟨F0, H0, q, g, new⟩ => by
    cases e1 : ρ1[i]? with
    | none => rw [e1] at q; exact q.elim
    | some d0 =>
      rw [e1] at q
      dsimp only at q
      split at q
      · rename_i c' ns ds e2
        split at q
        · rename_i hh
          obtain ⟨rfl, hl⟩ := hh
          obtain ⟨x, A1, at1, r1, s1, k⟩ := plc_set er1 e1 e2 rfl
          obtain ⟨b, C, dx, fs, rfl, mC, z, iA, en, rs⟩ := r1
          obtain ⟨cl, na⟩ := hc C mC
          refine ⟨.ref b, at1, b, C, dx, fs, rfl, z, cl, na, by rw [← en, List.length_map] at hl; exact hl, ?_⟩
          have nT : ¬ T b := fun x => dj i b x (s1 b iA)
          subst en
          have kpT : Kp T H1 (upd H1 b (.ins C dx (putF f v fs))) := kp_upd nT z trivial
          have kpA : Kp (But A1 b) H1 (upd H1 b (.ins C dx (putF f v fs))) := kp_upd (fun x => x.2 rfl) z trivial
          obtain ⟨en2, rs2⟩ := fldPut_ok (f := f) (Rep.keep d r kpT) (Reps.keep ds rs kpA) fun a x y => dj i a y (s1 a x.1)
          have lA1 : Live H1 A1 := (er1.live i).sub s1
          obtain ⟨F', er', f', _⟩ := k T dj l _ (Un2 A1 T) (.obj true c' _ _) (.upd (o := .ins C dx (putF f v fs)) (.inl iA) trivial (lA1.un l) Sub.rfl)
            ⟨b, C, dx, _, rfl, mC, upd_same, .inl iA, en2, rs2.mono fun a x => x.elim (fun x => ⟨.inl x.1, x.2⟩) fun x => ⟨.inr x, fun e => nT (e ▸ x)⟩⟩
          refine q σ _ F' er' ⟨fun a o e n => ?_, fun j a h => ?_, fun a e => g.dom a ?_⟩ .refl
          · have := g.keep a o e n
            rw [upd_ne]
            · exact this
            · rintro rfl
              rcases g.sub i a (s1 a iA) with ⟨k, x⟩ | x
              · exact n k x
              · rw [e] at x; cases x
          · rcases f' j a h with h | h | h
            · exact g.sub j a h.1
            · exact g.sub i a (s1 a h)
            · exact new a h
          · by_cases zz : a = b
            · subst zz; rw [upd_same] at e; cases e
            · rw [upd_ne zz] at e; exact e
        · exact q.elim
      · exact q.elim
end
/-! ### methods of lists -/
def lstP (i : Nat) (ps : Path) (ρ : List D) : Option (D × List D) := (ρ[i]?).bind fun d0 => (getP d0 ps).bind fun c => match c with
  | .lst true ds => some (d0, ds)
  | _ => none
theorem lstP_some {i : Nat} {ps : Path} {ρ : List D} {d0 : D} {ds : List D} (e : lstP i ps ρ = some (d0, ds)) : ρ[i]? = some d0 ∧ getP d0 ps = some (.lst true ds) := by
  simp only [lstP, Option.bind_eq_some_iff] at e
  obtain ⟨d, e1, c, e2, e3⟩ := e
  split at e3
  · cases e3; exact ⟨e1, e2⟩
  · cases e3
/-- a method that rewrites the list: its answer, the items behind -/
def VLm (K : PySem.W.Frag) (mg : Str → Option Value) (r : V → List V → Hp → VK → Prop) (f : List D → List D → Option (D × List D)) : Prop :=
  ∀ ds as d ds' a xs vs A T H Q, f ds as = some (d, ds') → H a = some (.lst xs) → Reps K mg H ds xs A → Reps K mg H as vs T → ¬ A a → ¬ T a → Dj A T → Live H A → Live H T →
    (∀ v xs' T1 A', Rep K mg (upd H a (.lst xs')) d v T1 → Reps K mg (upd H a (.lst xs')) ds' xs' A' → Dj T1 A' → Sub T1 (Un2 A T) → Sub A' (Un2 A T) → Q v (upd H a (.lst xs'))) → r (.ref a) vs H Q
def lmM (i : Nat) (ps : Path) (f : List D → List D → Option (D × List D)) (ms : M (List D)) : EM := fun ρ => if (lstP i ps ρ).isSome = true then (ms ρ).bind fun as ρ1 => match lstP i ps ρ1 with
  | some (d0, ds) => (match f ds as with
    | some (d, ds') => .ok d (ρ1.set i (putP d0 ps (.lst true ds')))
    | none => .bad)
  | none => .bad else .bad
section
variable {X : Cx} {eC : Addr} {W : WX} {S S1 S2 SA : List Nat} {pos : Pos}
theorem tv_lm {K : PySem.W.Frag} {mg : Str → Option Value} {σ : L2.St} {H : Hp} {Q : VK} {i : Nat} {ps : Path} {r : V → List V → Hp → VK → Prop} {f : List D → List D → Option (D × List D)} {ms : M (List D)} {to : TE} (hr : VLm K mg r f) (nS : i ∉ S)
    (ho : ∀ Q : VK, (∃ v, PlcAt K mg H σ i ps v ∧ Q v H) → to σ H Q) (q : TV K mg eC W (S ++ [i]) (lmM i ps f ms) σ H Q) : tBM K "list" r to (TVs K mg eC W S ms) σ H Q := by
  obtain ⟨ρ, F, er, q⟩ := q
  unfold lmM at q
  by_cases c : (lstP i ps ρ).isSome = true
  · rw [if_pos c] at q
    obtain ⟨⟨d0, ds⟩, e⟩ := Option.isSome_iff_exists.mp c
    obtain ⟨e1, e2⟩ := lstP_some e
    obtain ⟨o, e3, rr⟩ := er.get i d0 e1
    obtain ⟨v0, rfl, rr⟩ := has_root e2 rfl rr
    obtain ⟨x, A1, A2, at1, s1, s2, dj12, r1, r2, kp⟩ := rr.path e2
    obtain ⟨b, xs, rfl, z, iA, _⟩ := id r1
    refine ho _ ⟨.ref b, ⟨v0, e3, at1⟩, .inl ⟨rfl, xs, .of z⟩, ρ, F, er, ?_⟩
    cases e4 : ms ρ with
    | bad => rw [e4] at q; exact q
    | ex z ρ1 => rw [e4] at q; exact fun dd H' F' er' x g => q dd H' F' er' x (g.more fun j hj => List.mem_append_left _ hj)
    | ok as ρ1 =>
      rw [e4] at q
      intro vs H1 F1 T er1 rv g
      simp only [Res.bind_ok] at q
      cases e5 : lstP i ps ρ1 with
      | none => rw [e5] at q; exact q.elim
      | some p =>
        obtain ⟨d1, ds1⟩ := p
        rw [e5] at q
        dsimp only at q
        obtain ⟨e6, e7⟩ := lstP_some e5
        obtain ⟨y, B1, ⟨v1, e8, at2⟩, r3, t1, k⟩ := plc_set er1 e6 e7 rfl
        rw [e3] at e8; cases e8
        -- the same list
        have at3 := kp H1 ((g.toAft.kpSlot er nS).sub s2)
        obtain ⟨o', e9, rr'⟩ := er1.get i d1 e6
        rw [e3] at e9; cases e9
        have ey : y = .ref b := PathAt.inj (show Rep K mg H1 d1 v0 (F1 i) from rr') e7 at2 at3
        subst ey
        obtain ⟨b', xs1, eb, z1, iB, rs1⟩ := id r3
        cases eb
        cases e10 : f ds1 as with
        | none => rw [e10] at q; exact q.elim
        | some p =>
          obtain ⟨d, ds'⟩ := p
          rw [e10] at q
          have nT : ¬ T b := fun x => g.dj i b x (t1 b iB)
          have lB : Live H1 B1 := (er1.live i).sub t1
          refine hr ds1 as d ds' b xs1 vs (But B1 b) T H1 Q e10 z1 rs1 rv (fun x => x.2 rfl) nT (fun a x y => g.dj i a y (t1 a x.1)) (lB.sub fun _ h => h.1) g.live fun v xs' T1 A' rd rds d1A sT sA => ?_
          have nb : ∀ {a : Addr}, Un2 (But B1 b) T a → a ≠ b := fun {a} h e => h.elim (fun h => h.2 e) fun h => nT (e ▸ h)
          have rl : Rep K mg (upd H1 b (.lst xs')) (.lst true ds') (.ref b) (fun a => A' a ∨ a = b) := ⟨b, xs', rfl, upd_same, .inr rfl, rds.mono fun a x => ⟨.inl x, nb (sA a x)⟩⟩
          have sub2 : Sub (fun a => A' a ∨ a = b) (Un2 B1 T) := fun a h => h.elim (fun h => (sA a h).imp (fun h => h.1) id) fun h => by rw [h]; exact .inl iB
          obtain ⟨F', er', f', g'⟩ := k T g.dj g.live _ _ (.lst true ds') (.upd (o := .lst xs') (.inl iB) trivial (lB.un g.live) sub2) rl
          have backT : ∀ a, Un2 B1 T a → (∃ k, k ∈ S ++ [i] ∧ F k a) ∨ H a = none := fun a h => by
            rcases h with h | h
            · rcases g.toAft.back (t1 a h) with ⟨k, hk, x⟩ | x | x
              · exact .inl ⟨k, List.mem_append_left _ hk, x⟩
              · exact .inl ⟨i, List.mem_append_right _ (List.mem_singleton.mpr rfl), x⟩
              · exact .inr x
            · exact (g.new a h).imp (fun ⟨k, hk, x⟩ => ⟨k, List.mem_append_left _ hk, x⟩) id
          have sT' : Sub T1 (Un2 B1 T) := fun a h => (sT a h).imp (fun h => h.1) id
          refine q v _ F' T1 er' rd ⟨⟨fun a o e n => ?_, fun j hj a h => ?_, fun j hj a h => ?_, fun a e => ?_⟩, fun a h => backT a (sT' a h), fun j a h x => ?_, ?_⟩
          · have := g.toAft.keep a o e fun j hj => n j (List.mem_append_left _ hj)
            rw [upd_ne]
            · exact this
            · rintro rfl
              rcases backT a (.inl iB) with ⟨k, hk, x⟩ | x
              · exact n k hk x
              · rw [e] at x; cases x
          · have ji : j ≠ i := fun e => hj (List.mem_append_right _ (List.mem_singleton.mpr e))
            rw [g' j ji] at h
            exact g.toAft.same j (fun x => hj (List.mem_append_left _ x)) a h
          · rcases f' j a h with h | h
            · rcases g.toAft.back h.1 with ⟨k, hk, x⟩ | x | x
              · exact .inl ⟨k, List.mem_append_left _ hk, x⟩
              · exact .inl ⟨j, hj, x⟩
              · exact .inr x
            · exact backT a (sub2 a h)
          · by_cases zz : a = b
            · subst zz; rw [upd_same] at e; cases e
            · rw [upd_ne zz] at e; exact g.toAft.dom a e
          · have nab : a ≠ b := nb (sT a h)
            by_cases ji : j = i
            · subst ji
              rcases f' j a x with x | x
              · rcases sT' a h with y | y
                · exact x.2 y
                · exact g.dj j a y x.1
              · exact x.elim (d1A a h) nab
            · rw [g' j ji] at x
              rcases sT' a h with y | y
              · exact er1.dj i j (Ne.symm ji) a (t1 a y) x
              · exact g.dj j a y x
          · exact fun a h => by
              have nab : a ≠ b := nb (sT a h)
              rw [upd_ne nab]
              rcases sT' a h with y | y
              · exact lB a y
              · exact g.live a y
  · rw [if_neg c] at q; exact q.elim
end
end VS
set_option Elab.async false
set_option linter.all false
set_option maxRecDepth 100000
set_option maxHeartbeats 4000000
/-! VS15: list comprehensions. -/
namespace VS
open PySem PySem.Spec PyProof.Rows L2
/-- the comprehension's own slots emptied -/
def wipeD : List Nat → List D → List D
  | [], ρ => ρ
  | v :: vs, ρ => (wipeD vs ρ).set v .un
theorem wipeD_length : ∀ (vs : List Nat) (ρ : List D), (wipeD vs ρ).length = ρ.length
  | [], _ => rfl
  | v :: vs, ρ => by unfold wipeD; rw [List.length_set, wipeD_length vs ρ]
theorem wipeD_get {j : Nat} : ∀ {vs : List Nat} {ρ : List D} {d : D}, (wipeD vs ρ)[j]? = some d → (j ∈ vs ∧ d = .un) ∨ (j ∉ vs ∧ ρ[j]? = some d)
  | [], _, _, h => .inr ⟨by simp, h⟩
  | v :: vs, ρ, d, h => by
    unfold wipeD at h
    by_cases e : v = j
    · subst e
      have lt : v < (wipeD vs ρ).length := by
        have := (List.getElem?_eq_some_iff.mp h).1
        rwa [List.length_set] at this
      rw [List.getElem?_set_self lt] at h
      cases h
      exact .inl ⟨List.mem_cons_self, rfl⟩
    · rw [List.getElem?_set_ne e] at h
      rcases wipeD_get h with ⟨h1, h2⟩ | ⟨h1, h2⟩
      · exact .inl ⟨List.mem_cons_of_mem _ h1, h2⟩
      · exact .inr ⟨fun x => (List.mem_cons.mp x).elim (fun x => e x.symm) h1, h2⟩
theorem wipe_get {σ : L2.St} {j : Nat} : ∀ {vs : List Nat}, (wipe σ vs)[j]? = if j ∈ vs then (if j < σ.length then some none else none) else σ[j]?
  | [] => by simp [wipe]
  | v :: vs => by
    unfold wipe
    by_cases e : v = j
    · subst e
      rw [if_pos List.mem_cons_self, List.getElem?_set]
      simp [wipe_length]
    · rw [List.getElem?_set_ne e, wipe_get]
      by_cases c : j ∈ vs
      · rw [if_pos c, if_pos (List.mem_cons_of_mem _ c)]
      · rw [if_neg c, if_neg fun x => (List.mem_cons.mp x).elim (fun x => e x.symm) c]
theorem wipe_agree {σ σ2 : L2.St} {vs SA : List Nat} (a : Agree SA (wipe σ vs) σ2) (s : ∀ j, j ∈ SA → j ∈ vs) : wipe σ2 vs = wipe σ vs := by
  apply List.ext_getElem?
  intro j
  rw [wipe_get, wipe_get]
  have hl : σ2.length = σ.length := by rw [a.1, wipe_length]
  by_cases c : j ∈ vs
  · rw [if_pos c, if_pos c, hl]
  · rw [if_neg c, if_neg c, a.2 j fun x => c (s j x), wipe_get, if_neg c]
section
variable {K : PySem.W.Frag} {mg : Str → Option Value} {H : Hp} {ρ : List D} {σ : L2.St} {F : Nat → AS} {vs : List Nat}
theorem ER.wipe (er : ER K mg H ρ σ F) : ER K mg H (wipeD vs ρ) (L2.wipe σ vs) (fun j => if j ∈ vs then E0 else F j) := by
  refine ⟨by rw [wipeD_length, wipe_length]; exact er.len, fun j d e => ?_, fun j k n => ?_, fun j => ?_⟩
  · have lt : j < σ.length := by
      have := (List.getElem?_eq_some_iff.mp e).1
      rw [wipeD_length, er.len] at this; exact this
    rcases wipeD_get e with ⟨c, rfl⟩ | ⟨c, e2⟩
    · exact ⟨none, by rw [wipe_get, if_pos c, if_pos lt], rfl⟩
    · obtain ⟨o, e3, r⟩ := er.get j d e2
      exact ⟨o, by rw [wipe_get, if_neg c]; exact e3, by rw [if_neg c]; exact r⟩
  · by_cases c : j ∈ vs
    · rw [if_pos c]; exact Dj.e0
    · rw [if_neg c]
      by_cases c' : k ∈ vs
      · rw [if_pos c']; exact Dj.e0r
      · rw [if_neg c']; exact er.dj j k n
  · by_cases c : j ∈ vs
    · rw [if_pos c]; exact Live.e0
    · rw [if_neg c]; exact er.live j
/-- behind the comprehension: its own slots tell nothing -/
theorem ER.unwipe {ρ' : List D} (er : ER K mg H (wipeD vs ρ') (L2.wipe σ vs) F) : ER K mg H (wipeD vs ρ') σ F := by
  refine ⟨by rw [er.len, wipe_length], fun j d e => ?_, er.dj, er.live⟩
  have lt : j < σ.length := by
    have := (List.getElem?_eq_some_iff.mp e).1
    rw [er.len, wipe_length] at this; exact this
  rcases wipeD_get e with ⟨c, rfl⟩ | ⟨c, e2⟩
  · refine ⟨σ[j], by simp [lt], ?_⟩
    cases σ[j] with
    | none => rfl
    | some v => trivial
  · obtain ⟨o, e3, r⟩ := er.get j d e
    rw [wipe_get, if_neg c] at e3
    exact ⟨o, e3, r⟩
end
def lcLoop (vs : List Nat) (g : D → List D → Option (List D)) (t : M Bool) (m : EM) : List D → List D → M (List D)
  | [], acc, ρ => .ok acc ρ
  | d :: ds, acc, ρ => match g d ρ with
    | none => .bad
    | some ρ1 => match t ρ1 with
      | .ok true ρ2 => (match m ρ2 with
        | .ok y ρ3 => if acc.length < big then lcLoop vs g t m ds (acc ++ [y]) (wipeD vs ρ3) else .bad
        | _ => .bad)
      | .ok false ρ2 => lcLoop vs g t m ds acc (wipeD vs ρ2)
      | _ => .bad
def lcM (vs : List Nat) (it : M (List D)) (g : D → List D → Option (List D)) (t : M Bool) (m : EM) : EM := fun ρ => (it ρ).bind fun ds ρ1 => (lcLoop vs g t m ds [] (wipeD vs ρ1)).bind fun acc ρ2 => .ok (.lst true acc) ρ2
abbrev W0 : WX := fun _ _ _ _ => False
section
variable {X : Cx} {eC : Addr} {W : WX} {S S1 S2 S3 SA : List Nat} {pos : Pos}
theorem big_lt {n : Nat} (h : n < big) : n < sizeLine := by
  have h' : n < 1000000 := h
  rw [sizeLine_eq]; omega
theorem lc_core' {K : PySem.W.Frag} {mg : Str → Option Value} {σ : L2.St} {H0 H : Hp} {F0 F : Nat → AS} {J : It} {hold : Hp → Prop} {vs : List Nat} {ds : List D} {g : D → List D → Option (List D)} {t : M Bool} {m : EM} {gt : TG} {Dd : Addr} {Q : VK} {ρ1 : List D}
    (kt : TgOk K mg SA gt g) (sv : ∀ j, j ∈ SA → j ∈ vs) (w : Walk K mg J hold ds) (er : ER K mg H ρ1 σ F) (hh : hold H) (nD : H Dd = none) (g0 : Aft S1 H0 F0 H F)
    (q : CV K mg eC W (S1 ++ (S2 ++ S3)) σ H0 F0 ((lcLoop vs g t m ds [] (wipeD vs ρ1)).bind fun acc ρ2 => .ok (.lst true acc) ρ2) Q) :
    ∃ Wi : Nat → Nat → Hp → Prop, (∃ n, Wi 0 n (upd H Dd (.lst []))) ∧ ∀ i n H, Wi i n H →
      (J.stop i H ∧ Q (.ref Dd) H) ∨ (J.go i H ∧ ∃ Nx : Hp → Prop, (∀ H', Nx H' → ∃ n', n' < n ∧ Wi (i + 1) n' H') ∧ ∀ x H', J.yld i H x H' → gt x (wipe σ vs) H' fun σ2 H2 => wipe σ2 vs = wipe σ vs ∧ TVt K mg eC W0 S2 t σ2 H2 fun b H3 =>
        if b = true then TV K mg eC W0 S3 m σ2 H3 fun y H4 => ∃ acc, H4 Dd = some (.lst acc) ∧ acc.length < sizeLine ∧ Nx (upd H4 Dd (.lst (acc ++ [y]))) else Nx H3) := by
  let St (H1 : Hp) (ds' : List D) : Prop := hold H1 ∧ ∃ ρ2 F2 T acc xs, ER K mg H1 (wipeD vs ρ2) (wipe σ vs) F2 ∧ H1 Dd = some (.lst xs) ∧ Reps K mg H1 acc xs T ∧ Live H1 T ∧ (∀ j, Dj T (F2 j)) ∧ ¬ T Dd ∧ (∀ j, ¬ F2 j Dd) ∧
    Aft (S1 ++ (S2 ++ S3)) H0 F0 H1 F2 ∧ (∀ a, T a → (∃ k, k ∈ S1 ++ (S2 ++ S3) ∧ F0 k a) ∨ H0 a = none) ∧ H0 Dd = none ∧
    CV K mg eC W (S1 ++ (S2 ++ S3)) σ H0 F0 ((lcLoop vs g t m ds' acc (wipeD vs ρ2)).bind fun acc ρ2 => .ok (.lst true acc) ρ2) Q
  have subS : ∀ {S' : List Nat}, (∀ j, j ∈ S' → j ∈ S2 ++ S3) → ∀ j, j ∈ (S1 ++ (S2 ++ S3)) ++ S' → j ∈ S1 ++ (S2 ++ S3) := fun {S'} h j hj => (List.mem_append.mp hj).elim id fun x => List.mem_append_right _ (h j x)
  refine ⟨fun i n H1 => n = ds.length - i ∧ i ≤ ds.length ∧ St H1 (ds.drop i), ⟨ds.length, rfl, Nat.zero_le _, ?_⟩, ?_⟩
  · have t0 : AftT E0 H (upd H Dd (.lst [])) (fun a => E0 a ∨ a = Dd) := .new nD trivial Live.e0 Sub.rfl
    have er1 := er.step Live.e0 (fun _ => Dj.e0) t0
    have nF : ∀ j, ¬ F j Dd := fun j x => by
      obtain ⟨u, e, _⟩ := er.live j Dd x
      rw [nD] at e; cases e
    refine ⟨w.keep _ _ hh (kp_new nD), ρ1, _, E0, [], [], er1.wipe, upd_same, rfl, Live.e0, fun _ => Dj.e0, fun h => h, fun j h => ?_, ?_, fun _ h => h.elim, g0.dom Dd nD, by rw [List.drop_zero]; exact q⟩
    · by_cases c : j ∈ vs
      · rw [if_pos c] at h; exact h
      · rw [if_neg c] at h; exact nF j h
    · have s1 : Aft [] H F (upd H Dd (.lst [])) (fun j => if j ∈ vs then E0 else F j) := ⟨fun a o e _ => t0.keep a o e id, fun j _ a h => by
        by_cases c : j ∈ vs
        · rw [if_pos c] at h; exact h.elim
        · rw [if_neg c] at h; exact h, fun j h => absurd h (by simp), t0.dom⟩
      exact (g0.trans s1).more fun j hj => List.mem_append_left _ (by simpa using hj)
  · rintro i n H1 ⟨rfl, hi, h1, ρ2, F2, T, acc, xs, er2, hD, ra, lT, dT, nT, nF, ga, newT, hD0, q1⟩
    by_cases hlt : i < ds.length
    · refine .inr ⟨w.go i H1 h1 hlt, fun H2 => St H2 (ds.drop (i + 1)), fun H2 h2 => ⟨ds.length - (i + 1), by omega, rfl, hlt, h2⟩, fun x H2 y => ?_⟩
      obtain ⟨⟨d, e, r⟩, tA⟩ := w.yld i H1 x H2 h1 hlt y
      have ed : ds.drop i = d :: ds.drop (i + 1) := by
        rw [List.drop_eq_getElem_cons hlt]
        have : ds[i] = d := by
          have := List.getElem?_eq_getElem hlt
          rw [e] at this; exact (Option.some.inj this).symm
        rw [this]
      rw [ed] at q1
      unfold lcLoop at q1
      cases e1 : g d (wipeD vs ρ2) with
      | none => rw [e1] at q1; exact q1.elim
      | some ρ3 =>
        rw [e1] at q1
        dsimp only at q1
        have er2' := er2.step Live.e0 (fun _ => Dj.e0) tA
        refine kt d x E0 (wipeD vs ρ2) ρ3 F2 (L2.wipe σ vs) H2 _ e1 er2' r Live.e0 (fun _ => Dj.e0) fun σ3 F3 er3 f3 a3 => ⟨wipe_agree a3 sv, ρ3, F3, er3, ?_⟩
        have f3' : ∀ j, Sub (F3 j) (F2 j) := fun j a h => (f3 j a h).resolve_right id
        have s2 : Aft [] H1 F2 H2 F3 := ⟨fun a o e _ => tA.keep a o e id, fun j _ => f3' j, fun j h => absurd h (by simp), tA.dom⟩
        have ga2 : Aft (S1 ++ (S2 ++ S3)) H0 F0 H2 F3 := (ga.trans s2).more (subS fun j h => absurd h (by simp))
        have hD2 : H2 Dd = some (.lst xs) := tA.keep Dd _ hD id
        have kT2 : Kp T H1 H2 := tA.kp Live.e0 Dj.e0r
        have hh2 : hold H2 := w.keep _ _ h1 (s2.s.kp0 er2)
        cases e2 : t ρ3 with
        | bad => rw [e2] at q1; exact q1
        | ex z ρ4 => rw [e2] at q1; exact q1.elim
        | ok b ρ4 =>
          rw [e2] at q1
          intro H3 F4 er4 g4
          have ga3 : Aft (S1 ++ (S2 ++ S3)) H0 F0 H3 F4 := (ga2.trans g4).more (subS fun j h => List.mem_append_left _ h)
          have hD3 : H3 Dd = some (.lst xs) := g4.keep Dd _ hD2 fun j _ h => nF j (f3' j Dd h)
          have dT3 : ∀ j, Dj T (F3 j) := fun j => (dT j).sub Sub.rfl (f3' j)
          have lT2 : Live H2 T := lT.keep kT2
          have kT3 : Kp T H2 H3 := g4.kp er3 dT3
          have dT4 : ∀ j, Dj T (F4 j) := fun j => g4.djP lT2 dT3 j
          have nF4 : ∀ j, ¬ F4 j Dd := fun j h => by
            rcases g4.back h with ⟨k, _, x⟩ | x | x
            · exact nF k (f3' k Dd x)
            · exact nF j (f3' j Dd x)
            · rw [hD2] at x; cases x
          have hh3 : hold H3 := w.keep _ _ hh2 (g4.s.kp0 er3)
          have ra3 : Reps K mg H3 acc xs T := Reps.keep acc (Reps.keep acc ra kT2) kT3
          have ew : L2.wipe σ3 vs = L2.wipe σ vs := wipe_agree a3 sv
          have wsub : ∀ {F : Nat → AS} (j : Nat), Sub ((fun j => if j ∈ vs then E0 else F j) j) (F j) := fun {F} j a h => by
            dsimp only at h
            by_cases c : j ∈ vs
            · rw [if_pos c] at h; exact h.elim
            · rw [if_neg c] at h; exact h
          cases b with
          | false =>
            rw [if_neg Bool.false_ne_true]
            dsimp only at q1
            have erw := er4.wipe (vs := vs)
            rw [ew] at erw
            have s4 : Aft [] H3 F4 H3 (fun j => if j ∈ vs then E0 else F4 j) := ⟨fun _ _ e _ => e, fun j _ => wsub j, fun j h => absurd h (by simp), fun _ e => e⟩
            exact ⟨hh3, ρ4, _, T, acc, xs, erw, hD3, ra3, lT2.keep kT3, fun j => (dT4 j).sub Sub.rfl (wsub j), nT, fun j h => nF4 j (wsub j Dd h), (ga3.trans s4).more (subS fun j h => absurd h (by simp)), newT, hD0, q1⟩
          | true =>
            rw [if_pos rfl]
            dsimp only at q1
            refine ⟨ρ4, F4, er4, ?_⟩
            cases e3 : m ρ4 with
            | bad => rw [e3] at q1; exact q1
            | ex z ρ5 => rw [e3] at q1; exact q1.elim
            | ok y ρ5 =>
              rw [e3] at q1
              intro v H4 F5 Ty er5 ry g5
              dsimp only at q1
              by_cases hb : acc.length < big
              · rw [if_pos hb] at q1
                have ga4 : Aft (S1 ++ (S2 ++ S3)) H0 F0 H4 F5 := (ga3.trans g5.toAft).more (subS fun j h => List.mem_append_right _ h)
                have hD4 : H4 Dd = some (.lst xs) := g5.toAft.keep Dd _ hD3 fun j _ h => nF4 j h
                have lT3 := lT2.keep kT3
                have kT4 : Kp T H3 H4 := g5.toAft.kp er4 dT4
                have dT5 : ∀ j, Dj T (F5 j) := fun j => g5.toAft.djP lT3 dT4 j
                have nF5 : ∀ j, ¬ F5 j Dd := fun j h => by
                  rcases g5.toAft.back h with ⟨k, _, x⟩ | x | x
                  · exact nF4 k x
                  · exact nF4 j x
                  · rw [hD3] at x; cases x
                have nTy : ¬ Ty Dd := fun h => by
                  rcases g5.new Dd h with ⟨k, _, x⟩ | x
                  · exact nF4 k x
                  · rw [hD3] at x; cases x
                have dTy : Dj T Ty := g5.djT lT3 dT4
                have kD : ∀ {A : AS}, ¬ A Dd → Kp A H4 (upd H4 Dd (.lst (xs ++ [v]))) := fun {A} n => kp_upd n hD4 trivial
                refine ⟨xs, hD4, big_lt (by rw [ra3.length]; exact hb), w.keep _ _ (w.keep _ _ hh3 (g5.toAft.s.kp0 er4)) (kD id), ρ5, (fun j => if j ∈ vs then E0 else F5 j), Un2 T Ty, acc ++ [y], xs ++ [v], ?_, upd_same, ?_, ?_, fun j => ?_, fun h => h.elim nT nTy, fun j h => nF5 j (wsub j Dd h), ?_, fun a h => ?_, hD0, q1⟩
                · have erw := er5.wipe (vs := vs)
                  rw [ew] at erw
                  refine ⟨erw.len, fun j d' e' => ?_, erw.dj, fun j => (erw.live j).keep (kD fun h => nF5 j (wsub j Dd h))⟩
                  obtain ⟨o, e4, r4⟩ := erw.get j d' e'
                  refine ⟨o, e4, ?_⟩
                  cases o with
                  | none => exact r4
                  | some v' => exact Rep.keep d' r4 (kD fun h => nF5 j (wsub j Dd h))
                · have r1 := Reps.keep acc (Reps.keep acc ra3 kT4) (kD nT)
                  have r2 : Reps K mg (upd H4 Dd (.lst (xs ++ [v]))) [y] [v] Ty := ⟨v, [], Ty, E0, rfl, Sub.rfl, Sub.e0, Dj.e0r, Rep.keep y ry (kD nTy), rfl⟩
                  exact Reps.append r1 r2 dTy (fun _ => .inl) fun _ => .inr
                · exact ((lT3.keep kT4).un g5.live).keep (kD fun h => h.elim nT nTy)
                · exact fun a h x => h.elim (fun h => dT5 j a h (wsub j a x)) fun h => g5.dj j a h (wsub j a x)
                · refine ⟨fun a o e n => ?_, fun j hj a h => ga4.same j hj a (wsub j a h), fun j hj a h => ga4.sub j hj a (wsub j a h), fun a e => ?_⟩
                  · rw [upd_ne]
                    · exact ga4.keep a o e n
                    · rintro rfl; rw [hD0] at e; cases e
                  · by_cases zz : a = Dd
                    · subst zz; exact hD0
                    · rw [upd_ne zz] at e; exact ga4.dom a e
                · rcases h with h | h
                  · exact newT a h
                  · rcases g5.new a h with ⟨k, hk, x⟩ | x
                    · rcases ga3.back x with ⟨k', hk', x⟩ | x | x
                      · exact .inl ⟨k', hk', x⟩
                      · exact .inl ⟨k, List.mem_append_right _ (List.mem_append_right _ hk), x⟩
                      · exact .inr x
                    · exact .inr (ga3.dom a x)
              · rw [if_neg hb] at q1; exact q1.elim
    · have e : i = ds.length := by omega
      subst e
      rw [List.drop_length] at q1
      refine .inl ⟨w.stop H1 h1, ?_⟩
      refine q1 (.ref Dd) H1 F2 (fun a => T a ∨ a = Dd) ?_ ⟨Dd, xs, rfl, hD, .inr rfl, ra.mono fun a h => ⟨.inl h, fun e => nT (e ▸ h)⟩⟩ ⟨ga, fun a h => h.elim (newT a) fun e => .inr (by rw [e]; exact hD0), fun j a h x => h.elim (fun h => dT j a h x) fun e => nF j (e ▸ x), fun a h => h.elim (lT a) fun e => ⟨.lst xs, by rw [e]; exact hD, trivial⟩⟩
      exact er2.unwipe
/-- [e for t in it if c] -/
theorem ve_lc {elt tg iter : Expr} {ifs : List Expr} {scope : Scope} {own : List (Str × Nat)} {it : M (List D)} {g : D → List D → Option (List D)} {gt : TG} {t : M Bool} {m : EM} (hc : X.calm = true) (hN : X.N.Nodup) (ok : BlkOk X.N X.env.scope scope own)
    (hi : VI X eC W S1 tg iter it) (hg : ∀ (s : Shared) (H : Hp) (C : Addr) (cl : List (Str × Addr)) (fp : List Addr), PG (X.blk s H scope (compEnvC scope cl C X.env) fp) tg gt) (kt : TgOk X.K X.mg SA gt g) (sv : ∀ j, j ∈ SA → j ∈ own.map (·.2))
    (ht : ∀ (s : Shared) (H : Hp) (C : Addr) (cl : List (Str × Addr)) (fp : List Addr), PTs (X.blk s H scope (compEnvC scope cl C X.env) fp) ifs (TVt X.K X.mg eC W0 S2 t))
    (he : ∀ (s : Shared) (H : Hp) (C : Addr) (cl : List (Str × Addr)) (fp : List Addr), VE (X.blk s H scope (compEnvC scope cl C X.env) fp) eC W0 S3 elt m) (hs : ∀ x, foldedSetIterable iter X.env x = pure x := by intro _; rfl) :
    VE X eC W (S1 ++ (S2 ++ S3)) (.ListComp elt [⟨tg, iter, ifs, 0⟩] scope pos) (lcM (own.map (·.2)) it g t m) := PE.imp (pe_lc hc hN hi ok hg ht he hs) fun σ H Q q => by
  obtain ⟨ρ, F, er, q⟩ := q
  refine ⟨ρ, F, er, ?_⟩
  unfold lcM at q
  cases e1 : it ρ with
  | bad => rw [e1] at q; exact q
  | ex z ρ1 => rw [e1] at q; exact fun dd H' F' er' x g => q dd H' F' er' x (g.more fun j hj => List.mem_append_left _ hj)
  | ok ds ρ1 =>
    rw [e1] at q
    exact fun J H1 F1 hold er1 ga w hh Dd nD => lc_core' (S1 := S1) kt sv w er1 hh nD ga q
theorem pts_yes {K : PySem.W.Frag} {mg : Str → Option Value} : PTs X [] (TVt K mg eC W0 [] (fun ρ => .ok true ρ)) := ⟨fun pins s σ H Q I ⟨ρ, F, er, q⟩ => pts_nil.run pins s σ H Q I (q H F er .refl)⟩
/-- y = [..] where the comprehension stores by itself -/
theorem vs_setLc {i : Nat} {y : Str} {py : Pos} {elt tg iter : Expr} {ifs : List Expr} {scope : Scope} {own : List (Str × Nat)} {spos : Pos} {it : M (List D)} {g : D → List D → Option (List D)} {gt : TG} {t : M Bool} {m : EM} {SB : List Nat} (hiy : i ∈ SB) (hc : X.calm = true) (hN : X.N.Nodup) (hy : X.N[i]? = some y) (hyl : X.env.scope.names.lookup y = some .local)
    (hsw : swapsWith (.ListComp elt [⟨tg, iter, ifs, 0⟩] scope pos) (some (.Name y py)) spos.line X.env = pure true) (ok : BlkOk X.N X.env.scope scope own)
    (hi : VI X eC W S1 tg iter it) (hg : ∀ (s : Shared) (H : Hp) (C : Addr) (cl : List (Str × Addr)) (fp : List Addr), PG (X.blk s H scope (compEnvC scope cl C X.env) fp) tg gt) (kt : TgOk X.K X.mg SA gt g) (sv : ∀ j, j ∈ SA → j ∈ own.map (·.2))
    (ht : ∀ (s : Shared) (H : Hp) (C : Addr) (cl : List (Str × Addr)) (fp : List Addr), PTs (X.blk s H scope (compEnvC scope cl C X.env) fp) ifs (TVt X.K X.mg eC W0 S2 t))
    (he : ∀ (s : Shared) (H : Hp) (C : Addr) (cl : List (Str × Addr)) (fp : List Addr), VE (X.blk s H scope (compEnvC scope cl C X.env) fp) eC W0 S3 elt m) (hs : ∀ x, foldedSetIterable iter X.env x = pure x := by intro _; rfl) :
    VS X eC W SB (.Assign [.Name y py] (.ListComp elt [⟨tg, iter, ifs, 0⟩] scope pos) spos) (setM i (lcM (own.map (·.2)) it g t m)) := PS.imp (ps_setLc hc hN hy hyl hsw hi ok hg ht he hs) fun E σ H q => by
  have q2 := tv_s (S := S1 ++ (S2 ++ S3)) (Q := fun v H1 => gName i v σ H1 E.nx) q fun d ρ1 v H1 F1 T er1 r dj l _ ⟨F0, H0, q, g, new⟩ => by
    split at q
    · rename_i lt
      obtain ⟨er2, q2⟩ := CS.store (i := i) q g er1 r dj l new hiy lt
      exact q2 _ H1 _ er2 .refl .refl
    · exact q.elim
  obtain ⟨ρ, F, er, q⟩ := q2
  refine ⟨ρ, F, er, ?_⟩
  unfold lcM at q
  cases e1 : it ρ with
  | bad => rw [e1] at q; exact q
  | ex z ρ1 => rw [e1] at q; exact fun dd H' F' er' x g => q dd H' F' er' x (g.more fun j hj => List.mem_append_left _ hj)
  | ok ds ρ1 =>
    rw [e1] at q
    exact fun J H1 F1 hold er1 ga w hh Dd nD => lc_core' (S1 := S1) (Q := fun v H1 => gName i v σ H1 E.nx) kt sv w er1 hh nD ga q
end
end VS
set_option Elab.async false
set_option linter.all false
set_option maxRecDepth 100000
set_option maxHeartbeats 4000000
/-! VS16: append, extend, pop; stores into lists' items. -/
namespace VS
open PySem PySem.Spec PyProof.Rows L2
def rExtF : V → List V → Hp → VK → Prop := fun x vs H Q => ∃ l b xs zs, x = .ref l ∧ vs = [.ref b] ∧ H l = some (.lst xs) ∧ LstAt H b zs ∧ xs.length + zs.length ≤ sizeLine ∧ Q .non (upd H l (.lst (xs ++ zs)))
theorem mt_extF {X : Cx} : MtM X "list.extend" rExtF := by
  intro pins s σ H x vs v us Q I rx rv h
  obtain ⟨l, b, xs, zs, rfl, rfl, hH, hB, hz, q⟩ := h
  cases rx
  obtain ⟨u, rfl, ru⟩ := rv.one
  cases ru
  obtain ⟨z, its, n, r, hl, e⟩ := I.lstM hH
  obtain ⟨z2, its2, n2, r2, hl2, e2⟩ := hB.obj I
  have hsz : its.toArray.size + its2.toArray.size ≤ sizeLine := by rw [List.size_toArray, List.size_toArray]; omega
  have hlong : ¬ (!its.toArray.isEmpty && Builtin.List.listTooLong (its.toArray.size + its2.toArray.size)) = true := by
    rw [notLongL hsz, Bool.and_false]
    exact Bool.false_ne_true
  refine call_meets PySem.F.slot_list_extend ⟨_, e, rfl⟩ PySem.F.entry_list_extend (PySem.F.args_list_extend_2 _ _)
    (PySem.AutoSeq1.list_extend_list_list_0 l its.toArray n b its2.toArray n2 hlong (by rw [List.size_toArray]; omega) (by omega)) ⟨e, e2, ?_⟩
  refine ⟨.non, _, I.lset (its' := its ++ its2) hH e (by simp) (r.append r2) ?_, rfl, q⟩
  rw [List.length_append]
  omega
def appF : List D → List D → Option (D × List D)
  | ds, [d] => if ds.length < big then some (.non, ds ++ [d]) else none
  | _, _ => none
def extF : List D → List D → Option (D × List D)
  | ds, [.lst _ es] => if ds.length + es.length ≤ big then some (.non, ds ++ es) else none
  | _, _ => none
def popF : List D → List D → Option (D × List D)
  | ds, [] => match ds[ds.length - 1]? with
    | some d => some (d, ds.dropLast)
    | none => none
  | _, _ => none
section
variable {K : PySem.W.Frag} {mg : Str → Option Value} {H H' : Hp}
theorem Reps.one' {d : D} {vs : List V} {A : AS} (r : Reps K mg H [d] vs A) : ∃ v, vs = [v] ∧ Rep K mg H d v A := by
  obtain ⟨x, ys, A1, A2, e, s1, s2, dj, r1, r2⟩ := r
  cases r2
  exact ⟨x, e, r1.mono s1⟩
theorem Reps.sing {d : D} {v : V} {A : AS} (r : Rep K mg H d v A) : Reps K mg H [d] [v] A := ⟨v, [], A, E0, rfl, Sub.rfl, Sub.e0, Dj.e0r, r, rfl⟩
theorem kpU {A : AS} {a : Addr} {o : HO} {xs : List V} (n : ¬ A a) (e : H a = some (.lst xs)) : Kp A H (upd H a o) := kp_upd n e trivial
theorem vlm_app : VLm K mg rAppend appF := by
  intro ds as d ds' a xs vs A T H Q h e rs rv nA nT dAT lA lT q
  unfold appF at h
  split at h
  · rename_i c
    split at h
    · cases h
      obtain ⟨v, rfl, rc⟩ := rv.one'
      refine ⟨a, xs, v, rfl, rfl, e, by rw [rs.length]; exact big_lt (by assumption), ?_⟩
      refine q .non (xs ++ [v]) E0 (Un2 A T) rfl ?_ Dj.e0 Sub.e0 Sub.rfl
      exact Reps.append (Reps.keep _ rs (kpU nA e)) (Reps.sing (Rep.keep _ rc (kpU nT e))) dAT (fun _ => .inl) fun _ => .inr
    · cases h
  · cases h
theorem vlm_ext : VLm K mg rExtF extF := by
  intro ds as d ds' a xs vs A T H Q h e rs rv nA nT dAT lA lT q
  unfold extF at h
  split at h
  · rename_i m es
    split at h
    · rename_i hz
      cases h
      obtain ⟨v, rfl, rc⟩ := rv.one'
      obtain ⟨b, zs, rfl, hb, rz⟩ := rc.lstAt
      refine ⟨a, b, xs, zs, rfl, rfl, e, hb, by rw [rs.length, rz.length]; exact big_line hz, ?_⟩
      refine q .non (xs ++ zs) E0 (Un2 A T) rfl ?_ Dj.e0 Sub.e0 Sub.rfl
      exact Reps.append (Reps.keep _ rs (kpU nA e)) (Reps.keep _ rz (kpU nT e)) dAT (fun _ => .inl) fun _ => .inr
    · cases h
  · cases h
end
section
variable {X : Cx} {eC : Addr} {W : WX} {S S1 S2 SA : List Nat} {pos apos cpos : Pos} {o e : Expr} {i : Nat} {ps : Path} {ms : M (List D)}
theorem ve_append (hO : VP X o i ps) (h : VA X eC W S [e] ms) (hi : i ∉ S)
    (hbase : attributeBase o "append" X.env (eval o X.env) = eval o X.env := by rfl)
    (hfew : ((backTo cpos (starEach [e] X.env)).all (fun x => !x.1) && (backToKw cpos (keywordEach [] X.env)).all (fun x => x.1.isSome)
      && decide ([e].length + ([] : List Keyword).length + (if ([] : List Keyword).isEmpty then 0 else 1) < 30)) = true := by rfl)
    (hline : (apos.endLine == cpos.line) = true := by rfl) (hs : starEach [e] X.env = (false, eval e X.env) :: starEach [] X.env := by rfl) (hplain : (backTo cpos (starEach [] X.env)).any (·.1) = false := by rfl) :
    VE X eC W (S ++ [i]) (.Call (.Attribute o "append" apos) [e] [] cpos) (lmM i ps appF ms) :=
  PE.imp (pe_bm PySem.F.plainAttrs_list PySem.F.slot_list_append PySem.F.type_list_append mt_append hO h hbase hfew hline hs hplain) fun σ H Q q => tv_lm (K := X.K) (mg := X.mg) vlm_app hi (fun Q h => h) q
theorem ve_extend (hO : VP X o i ps) (h : VA X eC W S [e] ms) (hi : i ∉ S)
    (hbase : attributeBase o "extend" X.env (eval o X.env) = eval o X.env := by rfl)
    (hfew : ((backTo cpos (starEach [e] X.env)).all (fun x => !x.1) && (backToKw cpos (keywordEach [] X.env)).all (fun x => x.1.isSome)
      && decide ([e].length + ([] : List Keyword).length + (if ([] : List Keyword).isEmpty then 0 else 1) < 30)) = true := by rfl)
    (hline : (apos.endLine == cpos.line) = true := by rfl) (hs : starEach [e] X.env = (false, eval e X.env) :: starEach [] X.env := by rfl) (hplain : (backTo cpos (starEach [] X.env)).any (·.1) = false := by rfl) :
    VE X eC W (S ++ [i]) (.Call (.Attribute o "extend" apos) [e] [] cpos) (lmM i ps extF ms) :=
  PE.imp (pe_bm PySem.F.plainAttrs_list PySem.F.slot_list_extend PySem.F.type_list_extend mt_extF hO h hbase hfew hline hs hplain) fun σ H Q q => tv_lm (K := X.K) (mg := X.mg) vlm_ext hi (fun Q h => h) q
end
/-! ### place[e2] = e1 -/
def ixSt (i : Nat) (ps : Path) (m1 m2 : EM) : SM := fun ρ => (m1 ρ).bind fun d ρ1 => match lstP i ps ρ1 with
  | some _ => (m2 ρ1).bind fun k ρ2 => (match k, lstP i ps ρ2 with
    | .int k, some (d0, ds) => (match ixN ds.length k with
      | some j => .ok .nx (ρ2.set i (putP d0 ps (.lst true (ds.set j d))))
      | none => .bad)
    | _, _ => .bad)
  | none => .bad
section
variable {K : PySem.W.Frag} {mg : Str → Option Value} {H H' : Hp}
theorem Reps.setN {y : V} {d : D} {T : AS} (rd : Rep K mg H d y T) : ∀ {ds : List D} {xs : List V} {A : AS} (j : Nat), Reps K mg H ds xs A → Dj A T → Reps K mg H (ds.set j d) (xs.set j y) (Un2 A T)
  | [], _, _, j, r, dj => by cases r; exact rfl
  | c :: ds, _, A, j, ⟨x, ys, A1, A2, e, s1, s2, d12, r1, r2⟩, dj => by
    cases e
    cases j with
    | zero => exact ⟨y, ys, T, A2, rfl, fun _ => .inr, fun a h => .inl (s2 a h), fun a h g => dj a (s2 a g) h, rd, r2⟩
    | succ j => exact ⟨x, _, A1, Un2 A2 T, rfl, fun a h => .inl (s1 a h), fun a h => h.imp (s2 a) id, fun a h g => g.elim (d12 a h) (dj a (s1 a h)), r1, Reps.setN rd j r2 (dj.sub s2 Sub.rfl)⟩
end
section
variable {X : Cx} {eC : Addr} {W : WX} {S S1 S2 SA : List Nat} {pos : Pos}
theorem vs_ix {o e ix : Expr} {i : Nat} {ps : Path} {m m2 : EM} {pos' : Pos} (hO : VP X o i ps) (h : VE X eC W S1 e m) (h2 : VE X eC W S2 ix m2) (hi : i ∉ S2)
    (hs : swapsWithSole [.Subscript o ix pos'] e pos.line X.env = pure false := by rfl) (hw : swappedStores [.Subscript o ix pos'] e X.env = pure none := by rfl)
    (h1 : (assignEach [.Subscript o ix pos'] X.env).map (·.2) = [assign (.Subscript o ix pos') X.env] := by rfl)
    (ha : ∀ v, assign (.Subscript o ix pos') X.env v = (do
      let ov ← holding [v] (eval o X.env)
      let iv ← holding [v, ov] (eval ix X.env)
      standAt pos'
      holding [v, ov, iv] (setItem ov iv v)
      release [v, ov, iv] []) := by intro _; rfl) : VS X eC W SA (.Assign [.Subscript o ix pos'] e pos) (ixSt i ps m m2) := PS.imp (ps_asg h (pg_sub hO h2 set_list ha) hs hw h1) fun E σ H q => by
  refine tv_s q fun d ρ1 v H1 F1 T er1 r dj l _ ⟨F0, H0, q, g, new⟩ => ?_
  cases e0 : lstP i ps ρ1 with
  | none => rw [e0] at q; exact q.elim
  | some p =>
    obtain ⟨d0, ds⟩ := p
    rw [e0] at q
    dsimp only at q
    obtain ⟨e1, e2⟩ := lstP_some e0
    obtain ⟨o, e3, rr⟩ := er1.get i d0 e1
    obtain ⟨v0, rfl, rr⟩ := has_root e2 rfl rr
    obtain ⟨x, A1, A2, at1, s1, s2, dj12, r1, r2, kp⟩ := rr.path e2
    obtain ⟨b, xs, rfl, z, iA, _⟩ := id r1
    refine ⟨.ref b, ⟨v0, e3, at1⟩, ρ1, F1, er1, ?_⟩
    cases e4 : m2 ρ1 with
    | bad => rw [e4] at q; exact q
    | ex z ρ2 => rw [e4] at q; exact fun dd H' F' er' x g2 => q dd σ H' F' er' x (g.trans g2.s) .refl
    | ok k ρ2 =>
      rw [e4] at q
      intro u H2 F2 T2 er2 ru g2
      simp only [Res.bind_ok] at q
      split at q
      · rename_i k d1 ds1 e5
        obtain ⟨e6, e7⟩ := lstP_some e5
        cases e8 : ixN ds1.length k with
        | none => rw [e8] at q; exact q.elim
        | some j =>
          rw [e8] at q
          dsimp only at q
          have dT2 : ∀ j, Dj T (F2 j) := fun j => g2.toAft.djP l dj j
          have kT : Kp T H1 H2 := g2.toAft.kp er1 dj
          have lT2 : Live H2 T := l.keep kT
          obtain ⟨y, B1, ⟨v1, e9, at2⟩, r3, t1, kk⟩ := plc_set er2 e6 e7 rfl
          rw [e3] at e9; cases e9
          have at3 := kp H2 ((g2.toAft.kpSlot er1 hi).sub s2)
          obtain ⟨o', e10, rr'⟩ := er2.get i d1 e6
          rw [e3] at e10; cases e10
          have ey : y = .ref b := PathAt.inj (show Rep X.K X.mg H2 d1 v0 (F2 i) from rr') e7 at2 at3
          subst ey
          obtain ⟨b', xs1, eb, z1, iB, rs1⟩ := id r3
          cases eb
          have eu : u = .int k := ru
          subst eu
          refine ⟨b, xs1, k, j, rfl, rfl, z1, by rw [rs1.length]; exact e8, ?_⟩
          have nT : ¬ T b := fun x => dT2 i b x (t1 b iB)
          have lB : Live H2 B1 := (er2.live i).sub t1
          have rl : Rep X.K X.mg (upd H2 b (.lst (xs1.set j v))) (.lst true (ds1.set j d)) (.ref b) (Un2 B1 T) := by
            refine ⟨b, _, rfl, upd_same, .inl iB, ?_⟩
            have := Reps.setN (Rep.keep d (Rep.keep d r kT) (kpU nT z1)) j (Reps.keep ds1 rs1 (kpU (o := .lst (xs1.set j v)) (fun x => x.2 rfl) z1)) fun a x y => dT2 i a y (t1 a x.1)
            exact this.mono fun a x => x.elim (fun x => ⟨.inl x.1, x.2⟩) fun x => ⟨.inr x, fun e => nT (e ▸ x)⟩
          obtain ⟨F', er', f', _⟩ := kk T dT2 lT2 _ (Un2 B1 T) (.lst true (ds1.set j d)) (.upd (o := .lst (xs1.set j v)) (.inl iB) trivial (lB.un lT2) Sub.rfl) rl
          have g3 := g.trans g2.s.toAftS
          refine q σ _ F' er' ⟨fun a o e n => ?_, fun j a h => ?_, fun a e => g3.dom a ?_⟩ .refl
          · have := g3.keep a o e n
            rw [upd_ne]
            · exact this
            · rintro rfl
              rcases g3.sub i a (t1 a iB) with ⟨k, x⟩ | x
              · exact n k x
              · rw [e] at x; cases x
          · rcases f' j a h with h | h | h
            · exact g3.sub j a h.1
            · exact g3.sub i a (t1 a h)
            · exact new a h
          · by_cases zz : a = b
            · subst zz; rw [upd_same] at e; cases e
            · rw [upd_ne zz] at e; exact e
      · exact q.elim
end
end VS
set_option Elab.async false
set_option linter.all false
set_option maxRecDepth 100000
set_option maxHeartbeats 4000000
/-! VS17: DragError, made and raised: its __init__ says super().__init__(reason), then self.reason = reason. -/
namespace VS
open PySem PySem.W PySem.Calls PySem.Spec PyProof.Rows PySem.HandSPX L2
def dgA (p1 p2 : Pos) : Arguments := { posonlyargs := [], args := [{ arg := "self", annotation := none, pos := p1 }, { arg := "reason", annotation := none, pos := p2 }], vararg := none, kwonlyargs := [], kw_defaults := [], kwarg := none, defaults := [] }
def dgCall (l : Nat) : Expr := .Call (.Attribute (.Call (.Name "super" ⟨l, 8, l, 13⟩) [] [] ⟨l, 8, l, 15⟩) "__init__" ⟨l, 8, l, 24⟩) [.Name "reason" ⟨l, 25, l, 31⟩] [] ⟨l, 8, l, 32⟩
def dgB (l : Nat) (q7 q8 q9 q10 : Pos) : List Stmt := [.Expr (dgCall l) ⟨l, 8, l, 32⟩, .Assign [.Attribute (.Name "self" q7) "reason" q8] (.Name "reason" q9) q10]
theorem dg_he {l : Nat} (hl : l = 5 ∨ l = 8) (env : Env) : ∃ pl, eval (dgCall l) env = (do
    let ov ← attributeBase (.Call (.Name "super" ⟨l, 8, l, 13⟩) [] [] ⟨l, 8, l, 15⟩) "__init__" env (eval (.Call (.Name "super" ⟨l, 8, l, 13⟩) [] [] ⟨l, 8, l, 15⟩) env)
    standAt (⟨l, 8, l, 24⟩ : Pos).atName
    let (f, first) ← holding [ov] (getMethod ov "__init__" pl)
    callWith ⟨l, 8, l, 32⟩ f first (backTo ⟨l, 8, l, 32⟩ (starEach [.Name "reason" ⟨l, 25, l, 31⟩] env)) []) := by
  rcases hl with rfl | rfl <;> exact ⟨_, rfl⟩
def dgS : Scope := { kind := .function, names := [(PySem.Str.ofString "self", .local), (PySem.Str.ofString "reason", .local), (PySem.Str.ofString "__class__", .free), (PySem.Str.ofString "super", .globalImplicit)], isGenerator := false, isCoroutine := false, more := [] }
/-- what the written part says of DragError, at C, and of its __init__, at fI -/
structure DgTxt (P : Program) (K : Frag) (mg : Str → Option Value) (C fI : Addr) : Prop where
  gC : mg "DragError" = some (.ref C)
  gS : mg "super" = none
  top : (P.main.scope.names.lookup ("super" : Str)).isSome = false
  opq : nsIn K cStatics "thirdparty.any" = some none
  cls : ∃ nm q N bs bm sn sub ab col dd k0 k1 k2 k3 k5, K.lookup C = some (excClassObj nm q C N bs bm true sn sub ab col dd k0 k1 k2 k3 k5 "ValueError.__new__") ∧ refsVE bm = true
  sup : ks_superIn K C C "__init__" = some (some (.builtin "ValueError.__init__"))
  veC : subIn K (.ref C) (.type "ValueError") = some true
  mC : mroIn K C (.ref C) = some true
  sa : findIn K (.ref C) "__setattr__" = some (some (.builtin "object.__setattr__"))
  ga : findIn K (.ref C) "__getattribute__" = some (some (.builtin "BaseException.__getattribute__"))
  gg : findIn K (.ref C) "__getattr__" = some none
  noN : findIn K (.ref C) "reason" = some none
  iC : findIn K (.ref C) "__init__" = some (some (.ref fI))
  tC : typeIn K (.ref fI) = some (.type "function")
  kC : keepIn K (.ref C) = true
  exC : subIn K (.ref C) (.type "BaseException") = some true
  tyC : typeIn K (.ref C) = some (.type "type")
  hdC : hasDictIn K C = true
  te : exmOne K (.ref C) (.ref C) = some true
  fn : ∃ (oc : Value) (od : Option Addr) (doc pm : Value) (an : Option Addr) (cda cc : Addr) (ct : Value) (osl : Array (Option Value)) (l : Nat) (p1 p2 q7 q8 q9 q10 : Pos) (ccl cl : Value) (cdd cld : Option Addr) (ccs csl : Array (Option Value)) (vs : Array Value) (file : Str) (tf : Tok),
    K.lookup fI = some ⟨oc, od, .func (ksFn "__init__" "DragError.__init__" (dgA p1 p2) (dgB l q7 q8 q9 q10) dgS .none .none doc pm an (.ref cda) ct cc), osl⟩ ∧ codeIn K (.ref cda) "DragError.__init__" = true ∧
    K.lookup cda = some ⟨ccl, cdd, .fields vs, ccs⟩ ∧ vs[2]? = some (.str file tf) ∧ ((P.main.file : Str) == file) = true ∧ K.lookup cc = some ⟨cl, cld, .cell (some (.ref C)), csl⟩ ∧ (l = 5 ∨ l = 8)
section
variable {prog : Program} {w : World} {A : Around} {E : Value → Shared → Prop} {R : Result → Shared → Prop} {s : Shared} {K : Frag} {mg mb : Str → Option Value} {C fI : Addr}
theorem dg_super {u x t0 : Addr} {rest : List Value} {nm q : Str} {N : Addr} {bs bm : List Value} {hdct : Bool} {sn : List Str} {sub : List Value} {ab : Bool} {col : Option Bool} {dd : Option Addr} {k0 k1 k2 k3 k5 : Option Value} {Q : Value → Shared → Prop}
    (hC : s.heap.get? C = some (excClassObj nm q C N bs bm hdct sn sub ab col dd k0 k1 k2 k3 k5 "ValueError.__new__")) (hx : s.heap.get? x = some (excO C t0)) (hu : s.heap.get? u = some (kxs_mw "ValueError.__init__" x)) (hz : rest.length ≤ sizeLine)
    (hq : ∀ h' t1, (∀ b o, b ≠ x → s.heap.get? b = some o → h'.get? b = some o) → h'.get? x = some (excO C t1) → Q .none { s with heap := h' }) : wpAny (model prog w) A (call (.ref u) rest) Q E s := by
  obtain ⟨hh, g, d, tk, os⟩ := s
  refine wpAny_call (codeAny_of_tree ?_)
  show wpAny _ A.in1 (callAny (.ref u) ⟨rest, []⟩) _ _ _
  simp only [callAny]
  refine wpAny_bind (wpAny_load hu ?_)
  simp only [kxs_mw, show (Value.type "method-wrapper" == Value.type "method" || Value.type "method-wrapper" == Value.type "builtin_function_or_method" || Value.type "method-wrapper" == Value.type "method-wrapper") = true by decide, if_true]
  refine KFB.if_so (by decide) ?_
  refine wpAny_bind (check_bound_init PySem.F.excBase_ValueError.toExcCallFacts hC hx rfl ?_)
  refine wpAny_bind (wpAny_pure (wpAny_pure ?_))
  refine ⟨plainId_quiet PySem.F.excBase_ValueError.init.plain _, codeAny_builtin PySem.F.excBase_ValueError.initEntry ?_⟩
  exact exc_init_tree (cls := .ref C) (t0 := t0) (dv := none) (c2 := .none) (c3 := .none) (b4 := .bool false) hx hz fun h' k e _ => hq h' _ k e
/-- what __init__ leaves of a fresh exception at x -/
structure DgEnd (h h' : Heap) (x C dx t1 : Addr) (v : Value) : Prop where
  keep : ∀ b o, b ≠ x → h.get? b = some o → h'.get? b = some o
  obj : h'.get? x = some { cls := .ref C, dict := some dx, data := .fields #[.ref t1, .none, .none, .none, .bool false, .none] }
  dbig : h.objs.size ≤ dx
  dne : dx ≠ x
  ns : h'.Ns1 dx (fun y => if y = "reason" then some v else none)
theorem dg_init (T : DgTxt prog K mg C fI) {x t0 : Addr} {v : Value} (X : K.In s.heap) (hlim : s.heap.NoLimit) (hg : s.heap.Ns mainGlobals mg) (hb : s.heap.Ns builtinsNs mb) (hmb : mb "super" = some (.type "super")) (hx : s.heap.get? x = some (excO C t0)) (hnx : K.lookup x = none) (hroom : A.depth < recursionLimit)
    (hq : ∀ h' tk dx t1, DgEnd s.heap h' x C dx t1 v → R (.ok (.ret .none)) { s with heap := h', toks := tk }) :
    codeAny (model prog w) A (.call (.ref fI) ⟨[.ref x, v], []⟩) R s := by
  obtain ⟨oc, od, doc, pm, an, cda, cc, ct, osl, l, p1, p2, q7, q8, q9, q10, ccl, cl, cdd, cld, ccs, csl, vs, file, tf, ho, hcd, hcda, hvs, hfile, hcc, hl⟩ := T.fn
  obtain ⟨nm, q, N, bs, bm, sn, sub, ab, col, dd, k0, k1, k2, k3, k5, hC, hbm⟩ := T.cls
  have hcl : clsIn K C = some { name := nm, bases := bs, mro := .ref C :: bm, ns := N, qualname := q, hasDict := true, slotNames := sn, subclasses := sub, abstract := ab, collection := col, hasDel := false } := by unfold clsIn; rw [hC] <;> rfl
  refine ks_codeAny_call_defAt (fd := ksFn "__init__" "DragError.__init__" (dgA p1 p2) (dgB l q7 q8 q9 q10) dgS .none .none doc pm an (.ref cda) ct cc) (body := dgB l q7 q8 q9 q10) (binds := [("self", .ref x), ("reason", v)]) hroom (X _ _ ho) rfl hlim (codeRec_of X hcd) rfl
    (BindsTo.of_eq (by first | rfl | with_unfolding_all rfl)) (show ∀ y ∈ dgS.names, y.2 ≠ .cell by decide) (fun y hy => by
      rcases List.mem_cons.mp hy with rfl | hy
      · rfl
      · rcases List.mem_cons.mp hy with rfl | hy
        · rfl
        · cases hy) (fun h₁ hns k => ?_) rfl rfl rfl
  have X₁ : K.In h₁ := X.keeps k
  have hx₁ := k _ _ hx
  have hg₁ := hg.keeps k
  have hb₁ := hb.keeps k
  have hloc : ∀ {h' : Heap}, (∀ b o, h₁.get? b = some o → h'.get? b = some o) → h'.Ns s.heap.objs.size (fun y => ([("self", .ref x), ("reason", v)] : List (Str × Value)).reverse.lookup y) := fun k => hns.keeps k
  have hnC : x ≠ C := fun z => by rw [z, hC] at hnx; cases hnx
  obtain ⟨oD, hD1, hD2⟩ : ∃ oD, h₁.get? C = some oD ∧ oD.data = .cls { name := nm, bases := bs, mro := .ref C :: bm, ns := N, qualname := q, hasDict := true, slotNames := sn, subclasses := sub, abstract := ab, collection := col, hasDel := false } := ⟨_, X₁ _ _ hC, rfl⟩
  have hf₁ := X₁ _ _ ho
  have hcda₁ := X₁ _ _ hcda
  have hcc₁ := X₁ _ _ hcc
  -- super().__init__(reason)
  show _root_.PySem.wpAt _ (A.deeper (ksEnv "DragError.__init__" dgS s.heap.objs.size fI (.ref cda) cc)) (.func (dgB l q7 q8 q9 q10) (ksEnv "DragError.__init__" dgS s.heap.objs.size fI (.ref cda) cc))
    (execs (.Expr (dgCall l) ⟨l, 8, l, 32⟩ :: [.Assign [.Attribute (.Name "self" q7) "reason" q8] (.Name "reason" q9) q10]) (ksEnv "DragError.__init__" dgS s.heap.objs.size fI (.ref cda) cc)) _ _ _
  refine ks_wpAt_execs_cons ?_
  refine ks_wpAt_Expr_any ?_ (by rfl) (by rfl)
  obtain ⟨pl, hpl⟩ := dg_he hl (ksEnv "DragError.__init__" dgS s.heap.objs.size fI (.ref cda) cc)
  refine ks_wpAt_MethodCall ?_ hpl
  refine ks_wpAt_super_base (s := { s with heap := h₁, toks := s.toks + 2 }) (attr := "__init__") (f := fI) (cc := cda) (oc := { cls := ccl, dict := cdd, data := .fields vs, slots := ccs }) (of := { cls := oc, dict := od, data := .func (ksFn "__init__" "DragError.__init__" (dgA p1 p2) (dgB l q7 q8 q9 q10) dgS .none .none doc pm an (.ref cda) ct cc), slots := osl }) (ar := { arg := "self", annotation := none, pos := p1 }) (env := ksEnv "DragError.__init__" dgS s.heap.objs.size fI (.ref cda) cc) (by first | rfl | kernel_rfl) (by first | rfl | kernel_rfl) (by decide) rfl hf₁ rfl rfl rfl hcda₁ rfl hvs hfile T.top ?_
  refine ks_loadName_global rfl (by first | rfl | kernel_rfl) (loadGlobal_builtin (env := ksEnv "DragError.__init__" dgS s.heap.objs.size fI (.ref cda) cc) hg₁ T.gS hb₁ hmb ⟨rfl, ?_⟩)
  refine wpAny_loadName_free rfl (by first | rfl | kernel_rfl) rfl ⟨_, hcc₁, rfl⟩ ?_
  refine wpAny_loadName_local rfl (by first | rfl | kernel_rfl) hns (by first | rfl | with_unfolding_all rfl | kernel_rfl) ?_
  refine ks_wpAny_isType_cls hD1 hD2 ⟨rfl, ?_⟩
  refine ks_wpAny_call_super hD1 hD2 hx₁ rfl (fun c e => by cases e) (looks_mroIn X₁ T.mC) (fun h₂ e₂ k₂ => ?_)
  have X₂ : K.In h₂ := X₁.keeps k₂
  have hx₂ := k₂ _ _ hx₁
  have I₂ : InstAt h₂ x (excO C t0) C none := ⟨hx₂, rfl, rfl, trivial⟩
  refine kxs_getMethod kxs_ValueError e₂ (looks_opaque X₂ T.opq) (l₀ := .ref C :: bm) ((looks_clsIn X₂ hcl).andThen .now) rfl X₂ (by have := T.sup; unfold ks_superIn at this; rw [hcl] at this; exact this) (I₂.type.andThen (looks_subIn X₂ T.veC)) hnC (by decide) ?_
  have k₃ : ∀ b o, h₂.get? b = some o → (h₂.push (kxs_mw "ValueError.__init__" x)).get? b = some o := fun b o e => Heap.get?_push_of_some _ e
  have hu₃ : (h₂.push (kxs_mw "ValueError.__init__" x)).get? h₂.objs.size = some (kxs_mw "ValueError.__init__" x) := Heap.get?_push_at rfl rfl
  have hs₃ := hloc fun b o e => k₃ b o (k₂ b o e)
  generalize h₂.push (kxs_mw "ValueError.__init__" x) = h₃ at *
  refine kxs_callWith (i := "ValueError.__init__") (x := x) rfl (evalArgs_plain (Calls.spliced_cons (wpAny_Name (wpAny_loadName_local rfl (by first | rfl | kernel_rfl) hs₃ (by first | rfl | with_unfolding_all rfl | kernel_rfl) ?_) (by decide))))
  refine Calls.spliced_nil ⟨hu₃, ?_⟩
  have X₃ : K.In h₃ := X₂.keeps k₃
  refine dg_super (X₃ _ _ hC) (k₃ _ _ hx₂) hu₃ (by show [v].length ≤ _; rw [sizeLine_eq]; exact (by decide : 1 ≤ 16777216)) fun h₄ t1 k₄ hx₄ => ?_
  -- self.reason = reason
  have K₄ : ∀ b o, b ≠ x → s.heap.get? b = some o → h₄.get? b = some o := fun b o n e => k₄ b o n (k₃ b o (k₂ b o (k b o e)))
  have X₄ : K.In h₄ := fun a o e => k₄ a o (fun z => by rw [z, hnx] at e; cases e) (X₃ a o e)
  have hLx : s.heap.objs.size ≠ x := Nat.ne_of_gt (Heap.lt_size hx)
  have hs₄ : h₄.Ns s.heap.objs.size (fun y => ([("self", .ref x), ("reason", v)] : List (Str × Value)).reverse.lookup y) := by
    obtain ⟨oL, es, ep, hL, r⟩ := hs₃
    exact ⟨oL, es, ep, k₄ _ _ hLx hL, r⟩
  have z₄ : s.heap.objs.size < h₄.objs.size := hs₄.lt
  refine PySem.wpAt_of_wpAny ?_
  refine wpAny_execs_cons (plainObj_wpAny_Assign_Attribute (wpAny_Name (wpAny_loadName_local rfl (by first | rfl | kernel_rfl) hs₄ (by first | rfl | with_unfolding_all rfl | kernel_rfl) (wpAny_Name (wpAny_loadName_local rfl (by first | rfl | kernel_rfl) hs₄ (by first | rfl | with_unfolding_all rfl | kernel_rfl) ?_) (by decide))) (by decide)))
  refine set_plain X₄ (ox := excO C t1) (od := none) ⟨hx₄, rfl, rfl, trivial⟩ T.sa ?_
  refine exc_osa X₄ hx₄ hcl (show refsVE (.ref C :: bm) = true from hbm) rfl T.noN (fun h₅ tk₅ dx k₅ dn dne hx₅ hn₅ => ?_)
  exact wpAny_execs_nil (hq h₅ tk₅ dx t1 ⟨fun b o hb e => k₅ b o hb (K₄ b o hb e), hx₅, Nat.le_of_lt (Nat.lt_of_lt_of_le z₄ dn), dne, hn₅⟩)
/-- a made DragError -/
structure DgMade (h h' : Heap) (e C d : Addr) (v : Value) : Prop where
  keep : ∀ b o, h.get? b = some o → h'.get? b = some o
  new : h.objs.size ≤ e
  obj : ∃ oe vs, h'.get? e = some oe ∧ oe.cls = .ref C ∧ oe.dict = some d ∧ oe.data = .fields vs ∧ vs[1]? = some .none
  dbig : h.objs.size ≤ d
  dne : d ≠ e
  ns : h'.Ns1 d (fun y => if y = "reason" then some v else none)
theorem dg_made (T : DgTxt prog K mg C fI) {v : Value} (X : K.In s.heap) (hlim : s.heap.NoLimit) (hg : s.heap.Ns mainGlobals mg) (hb : s.heap.Ns builtinsNs mb) (hmb : mb "super" = some (.type "super")) (hroom : A.depth + 1 < recursionLimit)
    (hq : ∀ h' tk e d, DgMade s.heap h' e C d v → R (.ok (.ret (.ref e))) { s with heap := h', toks := tk }) :
    codeAny (model prog w) A (.call (.ref C) ⟨[v], []⟩) R s := by
  obtain ⟨nm, q, N, bs, bm, sn, sub, ab, col, dd, k0, k1, k2, k3, k5, hC, hbm⟩ := T.cls
  obtain ⟨hp, g, dr, tk, os⟩ := s
  have k : ∀ b o, hp.get? b = some o → ((hp.push (kdv_tup [v])).push (excO C hp.objs.size)).get? b = some o := fun b o e => Heap.get?_push_of_some _ (Heap.get?_push_of_some _ e)
  have hget : ((hp.push (kdv_tup [v])).push (excO C hp.objs.size)).get? (hp.objs.size + 1) = some (excO C hp.objs.size) := by heap_get
  have hnx : K.lookup (hp.objs.size + 1) = none := by
    cases e : K.lookup (hp.objs.size + 1) with
    | none => rfl
    | some o =>
      have z : hp.get? (hp.objs.size + 1) = some o := X _ _ e
      exact absurd (Nat.lt_of_succ_lt (Heap.lt_size z)) (Nat.lt_irrefl _)
  have one : [v].length ≤ sizeLine := by rw [sizeLine_eq]; exact (by decide : 1 ≤ 16777216)
  refine call_own PySem.F.excBase_ValueError (fun X => refsVE_contains X bm hbm) (X _ _ hC) (looks_findIn X T.iC) (fun self => bind_fn X self T.tC) one ?_
  refine dg_init (s := ⟨(hp.push (kdv_tup [v])).push (excO C hp.objs.size), g, dr, tk, os⟩) T (X.keeps k) (hlim.keeps k) (hg.keeps k) (hb.keeps k) hmb hget hnx ?_ fun h' tk' dx t1 ⟨k', hx, dn, dne, hns⟩ => ?_
  · show A.depth + 1 < recursionLimit
    exact hroom
  · have old : ∀ b o, hp.get? b = some o → h'.get? b = some o := fun b o e => k' b o (Nat.ne_of_lt (Nat.lt_succ_of_lt (Heap.lt_size e))) (k b o e)
    have z : hp.objs.size + 1 + 1 ≤ dx := by
      first
        | (simpa only [Heap.size_push] using dn)
        | exact dn
        | (have q := dn; rw [Heap.size_push, Heap.size_push] at q; exact q)
    exact ⟨rfl, hq h' tk' (hp.objs.size + 1) dx ⟨old, Nat.le_succ _, ⟨_, _, hx, rfl, rfl, rfl, rfl⟩, Nat.le_trans (Nat.le_trans (Nat.le_succ _) (Nat.le_succ _)) z, dne, hns⟩⟩
end
theorem relO_dg {v : V} {v' : Value} (r : RelV v v') (f : Str) : RelO (List.lookup f [(("reason" : Str), v)]) (if f = "reason" then some v' else none) := by
  by_cases hw : f = "reason"
  · subst hw
    rw [if_pos rfl]
    have q : List.lookup ("reason" : Str) [(("reason" : Str), v)] = some v := by simp [List.lookup]
    rw [q]
    exact r
  · rw [if_neg hw]
    have qw : (f == ("reason" : Str)) = false := by simpa using hw
    have q2 : List.lookup f [(("reason" : Str), v)] = none := by simp [List.lookup, qw]
    rw [q2]
    trivial
section
variable {X : Cx} {C fI : Addr}
/-- DragError(e) -/
def tMkDg (C : Addr) (ta : TA) : L2.St → Hp → XK → Prop := fun σ H Q => ta σ H fun vs H1 => ∃ v, vs = [v] ∧ ∀ d, H1 d = none → Q (.ref C) (some d) (upd H1 d (.xd [(("reason" : Str), v)]))
theorem pmk_dg {a : Expr} {ta : TA} {p pos : Pos} {k : Nat} (T : DgTxt X.prog X.K X.mg C fI) (hr : Room k X.A) (ha : PA X [a] ta) (hg : Gl X "DragError" := by rfl)
    (he : starEach (a :: []) X.env = (false, eval a X.env) :: starEach [] X.env := by rfl) (hpl : (backTo pos (starEach [] X.env)).any (·.1) = false := by rfl) :
    PMk X (.Call (.Name "DragError" p) [a] [] pos) (tMkDg C ta) := by
  intro pins s σ H Q I h
  refine wpAny_Call_Name_kw (ld_glob I hg T.gC ?_)
  refine PySem.W.callWith_K (h₀ := X.base) I.ok.mod.kin T.kC (thn (ha.run pos pins s σ H _ I h) fun us s1 hh => ?_) he hpl
  obtain ⟨vs, H1, I1, r1, v, ev, q1⟩ := hh
  subst ev
  refine ⟨I1.kIn, ?_⟩
  cases r1 with
  | cons rv rn =>
    rename_i v' us'
    cases rn
    show wpAny _ _ (call (.ref C) [v']) _ _ _
    have hlim := I1.nolimit
    obtain ⟨mb, b1, b2⟩ := I1.mod.blt
    have hgl := I1.mod.glob.keeps I1.bk
    have hbl := b1.keeps I1.bk
    have hmb : mb "super" = some (.type "super") := (b2 "super" (by decide)).trans Boot.«super»
    obtain ⟨hp, g, dr, tk, os⟩ := s1
    refine wpAny_call (dg_made T I1.kIn hlim hgl hbl hmb (by have := hr.dp; omega) fun h' tk' e d M => ?_)
    show MkP X pins σ Q (.ref e) ⟨h', g, dr, tk', os⟩
    obtain ⟨oe, fv, hoe, hc, hd, hdat, h1⟩ := M.obj
    have hns := M.ns
    obtain ⟨G', g1, g2⟩ := restrict h' fun b => decide (b ≠ e)
    have gk : ∀ b, b ≠ e → G'.get? b = h'.get? b := fun b hb => g1 b (decide_eq_true hb)
    have ge : G'.get? e = none := g2 e (by simp)
    have old : ∀ b o, hp.get? b = some o → G'.get? b = some o := fun b o q => (gk b (Nat.ne_of_lt (Nat.lt_of_lt_of_le (Heap.lt_size q) M.new))).trans (M.keep b o q)
    have ob : ObjOk X.prog X.w (upd H1 d (.xd [(("reason" : Str), v)])) G' d (.xd [(("reason" : Str), v)]) :=
      ⟨_, hns.at (fun o q => (gk d M.dne).trans q), fun f => relO_dg rv f⟩
    have J : Inv X pins σ (upd H1 d (.xd [(("reason" : Str), v)])) ⟨G', g, dr, tk', os⟩ := I1.laid (t' := tk') old M.dbig ob
    refine ⟨e, oe, fv, ⟨G', g, dr, tk', os⟩, _, .ref C, some d, rfl, J, fun b o q => ?_, ge, hoe, ⟨hc, hd⟩, hdat, h1, ?_, rfl, I1.bare, raises_own T.exC T.tyC, q1 d (I1.hok.fresh M.dbig)⟩
    · by_cases hb : b = e
      · have q' : G'.get? b = some o := q
        rw [hb, ge] at q'; cases q'
      · exact (gk b hb).symm.trans q
    · rw [upd_ne (Ne.symm M.dne)]
      exact I1.hok.fresh M.new
end
/-! ### raise DragError(e) -/
def raiseM (m : EM) : SM := fun ρ => (m ρ).bind fun d ρ1 => match d with
  | .str z => .ex z ρ1
  | _ => .bad
section
variable {X : Cx} {W : WX} {S S1 S2 SA : List Nat} {C fI : Addr}
theorem vs_raise {a : Expr} {m : EM} {p pos pos2 : Pos} {k : Nat} (hc : X.calm = true) (T : DgTxt X.prog X.K X.mg C fI) (hr : Room k X.A) (tk : Takes X W) (h : VE X C W S a m) (hg : Gl X "DragError" := by rfl)
    (hs : starEach (a :: []) X.env = (false, eval a X.env) :: starEach [] X.env := by rfl) (hpl : (backTo pos (starEach [] X.env)).any (·.1) = false := by rfl) :
    VS X C W SA (.Raise (some (.Call (.Name "DragError" p) [a] [] pos)) none pos2) (raiseM m) := PS.imp (ps_raise hc tk (pmk_dg T hr (pa_cons h pa_nil hs) hg hs hpl)) fun E σ H q =>
  tv_s q fun d ρ1 v H1 F1 T er1 r dj l _ ⟨F0, H0, q, g, new⟩ => ⟨v, rfl, fun dd nD => by
    cases d with
    | str z =>
      have ev : v = .str z := r
      subst ev
      have t0 : AftT E0 H1 (upd H1 dd (.xd [(("reason" : Str), .str z)])) E0 := ⟨fun a o e _ => by rw [upd_ne (by rintro rfl; rw [nD] at e; cases e)]; exact e, fun _ h => h.elim, fun _ h => h.elim, fun a e => by
        by_cases z : a = dd
        · subst z; exact nD
        · rw [upd_ne z] at e; exact e⟩
      have er2 := er1.step Live.e0 (fun _ => Dj.e0) t0
      exact q dd σ _ F1 er2 upd_same ⟨fun a o e n => t0.keep a o (g.keep a o e n) id, g.sub, fun a e => g.dom a (t0.dom a e)⟩ .refl
    | _ => exact q.elim⟩
end
end VS
set_option Elab.async false
set_option linter.all false
set_option maxRecDepth 100000
set_option maxHeartbeats 4000000
/-! VS18: try: .. except DragError as e: return e.reason. -/
namespace VS
open PySem PySem.W PySem.Calls PySem.Spec PyProof.Rows PySem.HandSPX L2
section
variable {X : Cx} {C fI : Addr}
/-- e.reason, e the exception that the suite holds (at a; its class cls, its dict d) -/
def tReason (C : Addr) (a : Addr) (cls : Value) (d : Option Addr) (te : TE) : TE := fun σ H Q => te σ H fun x H1 => x = .ref a ∧ cls = .ref C ∧ ∃ (dd : Addr) (v : V), d = some dd ∧ H1 dd = some (.xd [(("reason" : Str), v)]) ∧ Q v H1
theorem pe_reason {a : Addr} {oe : Obj} {cls : Value} {d : Option Addr} {pn : List (Addr × Obj)} {e : Expr} {te : TE} {pos : Pos} (T : DgTxt X.prog X.K X.mg C fI) (hz : Zc cls d oe) (hf : ∃ vs, oe.data = .fields vs) (he : PE (X.suite a ((a, oe) :: pn)) e te)
    (hb : attributeBase e "reason" X.env (eval e X.env) = eval e X.env := by rfl) :
    PE (X.suite a ((a, oe) :: pn)) (.Attribute e "reason" pos) (tReason C a cls d te) := by
  refine ⟨fun pins s σ H Q I h => ?_⟩
  refine attr_of hb (thn (he.run pins s σ H _ I h) fun u s1 hh => ?_)
  obtain ⟨x, H1, I1, rx, ex, ec, dd, v, ed, ea, q⟩ := hh
  subst ex
  obtain rfl : u = Value.ref a := rx
  subst ec
  subst ed
  obtain ⟨ha, _⟩ := I1.pin (a, oe) (List.mem_append_left _ List.mem_cons_self)
  obtain ⟨vs, hd⟩ := hf
  have hx : ObjOk X.prog X.w H1 s1.heap dd (.xd [(("reason" : Str), v)]) := I1.hok dd _ ea
  obtain ⟨mA, hns, hr⟩ := hx
  obtain ⟨od, ho, hl⟩ := lookIn_ns hns
  have l : List.lookup ("reason" : Str) [(("reason" : Str), v)] = some v := by simp [List.lookup]
  obtain ⟨u, hu, ru⟩ := RelO.some_of (v := v) (o := mA "reason") (by rw [← l]; exact hr "reason")
  have J : PySem.W.InstAt s1.heap a oe C (some od) := ⟨ha, hz.1, by unfold PySem.W.notCls; rw [hd] <;> rfl, by rw [hz.2]; exact ho⟩
  exact HandSPX.exc_get I1.kIn J T.ga T.gg T.exC (PySem.W.findObj_own T.hdC T.noN rfl (by rw [hl, hu])) (handed_of ru) ⟨v, H1, I1.tok _, ru, q⟩
end
def tryM (i : Nat) (m : SM) : SM := fun ρ => match m ρ with
  | .ex z ρ1 => if i < ρ1.length then .ok (.ret (.str z)) ρ1 else .bad
  | r => r
section
variable {X : Cx} {Wo : WX} {S S1 S2 SA : List Nat} {C fI : Addr} {n : Str} {i : Nat} {np p1 p2 p3 pos pos' : Pos} {body : List Stmt} {m : SM}
theorem vs_try (T : DgTxt X.prog X.K X.mg C fI) (hs : X.stack = X.env :: X.outer) (hf : X.env.frame = some X.env.locals) (hN : X.N.Nodup) (hi : X.N[i]? = some n) (hln : X.env.kindOf n = some .local) (hc : Names X "DragError" (.ref C)) (tk : Takes X Wo)
    (hv : ∀ a pn, PE (X.suite a pn) (.Name n p1) (tVar i))
    (hb : ∀ (W : WX) (pn : List (Addr × Obj)) (xe : Value → Shared → Prop), Takes (X.tr pn xe) W → PassesOwn (model X.prog X.w) X.A X.env xe → VSs (X.tr pn xe) C W SA body m)
    (hat : attributeBase (.Name n p1) "reason" X.env (eval (.Name n p1) X.env) = eval (.Name n p1) X.env := by rfl) :
    VS X C Wo SA (.Try body [.ExceptHandler (some (.Name "DragError" np)) (some n) [.Return (some (.Attribute (.Name n p1) "reason" p2)) p3] pos'] [] [] pos) (tryM i m) := by
  refine PS.imp (ps_try_as (i := i) (tb := fun W => TVS X.K X.mg C W SA m) (ts := fun a cls d => tRet (tReason C a cls d (tVar i))) (Wout := Wo) hs hf hN hi hln hc tk hb fun a oe cls d pn hz hf => pss_one (ps_ret (pe_reason T hz hf (hv _ _) hat))) fun E σ H ⟨ρ, F, er, q⟩ => ⟨ρ, F, er, ?_⟩
  unfold tryM at q
  cases e1 : m ρ with
  | bad => rw [e1] at q; exact q
  | ok f ρ1 =>
    rw [e1] at q
    cases f <;> exact q
  | ex z ρ1 =>
    rw [e1] at q
    intro dd σ' H' F' er' x g ag
    refine ⟨true, T.te, fun _ a hna => ?_, fun h => Bool.noConfusion h⟩
    dsimp only at q
    by_cases lt : i < ρ1.length
    · rw [if_pos lt] at q
      refine ⟨.ref a, List.getElem?_set_self (by rw [← er'.len]; exact lt), rfl, rfl, dd, .str z, rfl, x, ?_⟩
      exact q (.str z) σ' H' F' E0 er' rfl ⟨g, fun _ h => h.elim, fun _ => Dj.e0, Live.e0⟩ ag
    · rw [if_neg lt] at q; exact q.elim
end
end VS
set_option Elab.async false
set_option linter.all false
set_option maxRecDepth 100000
set_option maxHeartbeats 4000000
/-! VS19: slices, list * int, a op b op c, isinstance(x, (T, U)), global constants. -/
namespace VS
open PySem PySem.Spec PyProof.Rows L2
section
variable {K : PySem.W.Frag} {mg : Str → Option Value} {eC : Addr} {W : WX} {S S1 S2 S3 : List Nat} {σ : L2.St} {H : Hp}
theorem tvt_seq {α β : Type} {pl : M α} {ph : M β} {Q : α × β → Hp → Prop} (q : TVt K mg eC W (S1 ++ S2) (fun ρ => (pl ρ).bind fun l ρ1 => (ph ρ1).bind fun u ρ2 => .ok (l, u) ρ2) σ H Q) :
    TVt K mg eC W S1 pl σ H fun l H1 => TVt K mg eC W S2 ph σ H1 fun u H2 => Q (l, u) H2 := by
  obtain ⟨ρ, F, er, q⟩ := q
  refine ⟨ρ, F, er, ?_⟩
  dsimp only at q
  cases e1 : pl ρ with
  | bad => rw [e1] at q; exact q
  | ex z ρ1 => rw [e1] at q; exact fun dd H' F' er' x g => q dd H' F' er' x (g.more fun j hj => List.mem_append_left _ hj)
  | ok l ρ1 =>
    rw [e1] at q
    intro H1 F1 er1 g1
    refine ⟨ρ1, F1, er1, ?_⟩
    simp only [Res.bind_ok] at q
    cases e2 : ph ρ1 with
    | bad => rw [e2] at q; exact q
    | ex z ρ2 => rw [e2] at q; exact fun dd H' F' er' x g => q dd H' F' er' x (g1.trans g)
    | ok u ρ2 =>
      rw [e2] at q
      exact fun H2 F2 er2 g2 => q H2 F2 er2 (g1.trans g2)
theorem tv_then {β : Type} {m : EM} {p : M β} {f : D → β → Option D} {r : V → β → Hp → VK → Prop} {Q : VK} (h : ∀ b, VUn K mg (fun v H Q => r v b H Q) (fun d => f d b))
    (q : TV K mg eC W (S1 ++ S2) (fun ρ => (m ρ).bind fun d ρ1 => (p ρ1).bind fun b ρ2 => Res.of (f d b) ρ2) σ H Q) : TV K mg eC W S1 m σ H fun v H1 => TVt K mg eC W S2 p σ H1 fun b H2 => r v b H2 Q := by
  obtain ⟨ρ, F, er, q⟩ := q
  refine ⟨ρ, F, er, ?_⟩
  dsimp only at q
  cases e1 : m ρ with
  | bad => rw [e1] at q; exact q
  | ex z ρ1 => rw [e1] at q; exact fun dd H' F' er' x g => q dd H' F' er' x (g.more fun j hj => List.mem_append_left _ hj)
  | ok d1 ρ1 =>
    rw [e1] at q
    intro v1 H1 F1 T1 er1 r1 g1
    refine ⟨ρ1, F1, er1, ?_⟩
    simp only [Res.bind_ok] at q
    cases e2 : p ρ1 with
    | bad => rw [e2] at q; exact q
    | ex z ρ2 => rw [e2] at q; exact fun dd H' F' er' x g => q dd H' F' er' x (g1.toAft.trans g)
    | ok b ρ2 =>
      rw [e2] at q
      intro H2 F2 er2 g2
      simp only [Res.bind_ok] at q
      cases e3 : f d1 b with
      | none => rw [e3] at q; exact q.elim
      | some d =>
        rw [e3] at q
        have kp := g2.kp er1 g1.dj
        refine h b d1 d v1 T1 H2 Q e3 (Rep.keep d1 r1 kp) (g1.live.keep kp) fun v H' T rv t => ?_
        have dT : ∀ j, Dj T1 (F2 j) := fun j => g2.djP g1.live g1.dj j
        have lT : Live H2 T1 := g1.live.keep kp
        have g12 := g1.toAft.trans g2
        exact q v H' F2 T (er2.step lT dT t) rv (Got.step g12 er2 dT (fun a x => (g1.new a x).imp (fun ⟨k, hk, y⟩ => ⟨k, List.mem_append_left _ hk, y⟩) id) t)
end
/-! ### slices -/
def partM : EM → M (Option Int) := fun m ρ => (m ρ).bind fun d ρ1 => match d with
  | .int i => .ok (some i) ρ1
  | _ => .bad
abbrev VPt (X : Cx) (eC : Addr) (W : WX) (S : List Nat) (e : Option Expr) (m : M (Option Int)) : Prop := PO X e (TVt X.K X.mg eC W S m)
theorem PO.imp {X : Cx} {e : Option Expr} {t t' : TO} (h : PO X e t) (i : ∀ σ H Q, t' σ H Q → t σ H Q) : PO X e t' := ⟨fun pins s σ H Q I q => h.run pins s σ H Q I (i σ H Q q)⟩
def cutD (ds : List D) (lo hi : Option Int) : List D := (ds.drop (HT.sIx ds.length 0 lo)).take (HT.sIx ds.length ds.length hi - HT.sIx ds.length 0 lo)
def slD (d : D) (p : Option Int × Option Int) : Option D := match d with
  | .lst _ ds => some (.lst true (cutD ds p.1 p.2))
  | .rol ds => some (.lst true (cutD ds p.1 p.2))
  | .tup ds => some (.tup (cutD ds p.1 p.2))
  | _ => none
def slM (m : EM) (pl ph : M (Option Int)) : EM := fun ρ => (m ρ).bind fun d ρ1 => ((pl ρ1).bind fun l ρ2 => (ph ρ2).bind fun u ρ3 => .ok (l, u) ρ3).bind fun b ρ2 => Res.of (slD d b) ρ2
section
variable {K : PySem.W.Frag} {mg : Str → Option Value} {H : Hp}
theorem Reps.cut {ds : List D} {xs : List V} {A : AS} (lo hi : Option Int) (r : Reps K mg H ds xs A) : Reps K mg H (cutD ds lo hi) (cutV xs lo hi) A := by
  unfold cutD cutV
  rw [r.length]
  exact (r.drop _).take _
theorem vun_sl (b : Option Int × Option Int) : VUn K mg (fun v H Q => rSlL K v b.1 b.2 H Q ∨ rSlA K v b.1 b.2 H Q) (fun d => slD d b) := by
  intro d1 d v T1 H Q e r l q
  have newL : ∀ {ds : List D} {xs : List V}, Reps K mg H ds xs T1 → ∀ p, H p = none → (∀ v H' T, Rep K mg H' (.lst true (cutD ds b.1 b.2)) v T → AftT T1 H H' T → Q v H') → Q (.ref p) (upd H p (.lst (cutV xs b.1 b.2))) := fun {ds xs} r p np q =>
    q _ _ (fun a => T1 a ∨ a = p) ⟨p, _, rfl, upd_same, .inr rfl, (Reps.keep _ (r.cut b.1 b.2) (kp_new np)).mono fun a x => ⟨.inl x, not_new np l x⟩⟩ (.new np trivial l Sub.rfl)
  unfold slD at e; dsimp only at e
  split at e
  · cases e
    obtain ⟨a, xs, rfl, s, r⟩ := r.lstAt
    exact .inl ⟨a, xs, rfl, s.elim .of fun h => h.sq, fun p np => newL r p np q⟩
  · cases e
    obtain ⟨a, xs, rfl, s, r⟩ := r
    exact .inl ⟨a, xs, rfl, s.sq, fun p np => newL (r.mono Sub.e0) p np q⟩
  · cases e
    obtain ⟨a, xs, rfl, s, r⟩ := r
    refine .inr ⟨a, xs, rfl, s, fun hw => ?_, fun hw p np => ?_⟩
    · have e0 : ∀ {α : Type} (l : List α), l.length = xs.length → (l.drop (HT.sIx l.length 0 b.1)).take (HT.sIx l.length l.length b.2 - HT.sIx l.length 0 b.1) = l := fun l hl => by
        rw [hl, hw.1, hw.2, List.drop_zero, Nat.sub_zero, List.take_of_length_le (by omega)]
      refine q _ H T1 ⟨a, xs, rfl, s, ?_⟩ (.same l Sub.rfl)
      show Reps K mg H (cutD _ _ _) xs T1
      have : cutD _ b.1 b.2 = _ := e0 _ r.length.symm
      rw [this]; exact r
    · exact q _ _ T1 ⟨p, _, rfl, .of upd_same, Reps.keep _ (r.cut b.1 b.2) (kp_new np)⟩ (.newF np l Sub.rfl)
  · cases e
end
section
variable {X : Cx} {eC : Addr} {W : WX} {S S1 S2 S3 : List Nat} {pos p2 p3 p1 : Pos}
theorem vpt_none : VPt X eC W [] none (fun ρ => .ok none ρ) := PO.imp po_none fun σ H Q ⟨ρ, F, er, q⟩ => q H F er .refl
theorem vpt_some {e : Expr} {m : EM} (h : VE X eC W S e m) : VPt X eC W S (some e) (partM m) := PO.imp (po_some h) fun σ H Q ⟨ρ, F, er, q⟩ => by
  refine ⟨ρ, F, er, ?_⟩
  unfold partM at q
  cases e1 : m ρ with
  | bad => rw [e1] at q; exact q
  | ex z ρ1 => rw [e1] at q; exact q
  | ok d ρ1 =>
    rw [e1] at q
    intro v H1 F1 T er1 r g
    simp only [Res.bind_ok] at q
    cases d with
    | int i => exact ⟨i, r, q H1 F1 er1 g.toAft⟩
    | _ => exact q.elim
theorem ve_sl {e : Expr} {lo hi : Option Expr} {m : EM} {pl ph : M (Option Int)} (he : VE X eC W S1 e m) (hl : VPt X eC W S2 lo pl) (hh : VPt X eC W S3 hi ph) : VE X eC W (S1 ++ (S2 ++ S3)) (.Subscript e (.Slice lo hi none p2) pos) (slM m pl ph) :=
  PE.imp (pe_slice (sl_list.or sl_tupA) he hl hh) fun σ H Q q => by
    obtain ⟨ρ, F, er, q⟩ := tv_then (S1 := S1) (S2 := S2 ++ S3) (r := fun v (b : Option Int × Option Int) H Q => rSlL X.K v b.1 b.2 H Q ∨ rSlA X.K v b.1 b.2 H Q) (f := slD) vun_sl q
    refine ⟨ρ, F, er, ?_⟩
    cases e1 : m ρ with
    | bad => rw [e1] at q; exact q
    | ex z ρ1 => rw [e1] at q; exact q
    | ok d ρ1 =>
      rw [e1] at q
      exact fun v H1 F1 T er1 r g => tvt_seq (q v H1 F1 T er1 r g)
/-- e[::-1] of a list -/
def revD : D → Option D
  | .lst _ ds => some (.lst true ds.reverse)
  | .rol ds => some (.lst true ds.reverse)
  | _ => none
theorem Reps.reverse {K : PySem.W.Frag} {mg : Str → Option Value} {H : Hp} : ∀ {ds : List D} {xs : List V} {A : AS}, Reps K mg H ds xs A → Reps K mg H ds.reverse xs.reverse A
  | [], _, _, h => by cases h; exact rfl
  | d :: ds, _, A, ⟨x, ys, A1, A2, e, s1, s2, dj, r1, r2⟩ => by
    cases e
    rw [List.reverse_cons, List.reverse_cons]
    exact Reps.append (Reps.reverse r2) (Reps.sing r1) (fun a h g => dj a g h) s2 s1
theorem ve_rev {e : Expr} {m : EM} {k : Nat} (he : VE X eC W S e m) : VE X eC W S (.Subscript e (.Slice none none (some (.UnaryOp .USub (.Constant (.int 1) k p1) p2)) p3) pos) (unM revD m) := PE.imp (pe_revL he) fun σ H Q q => by
  refine tv_un (r := fun v H Q => ∃ a xs, v = .ref a ∧ SqL X.K H a xs ∧ ∀ p, H p = none → Q (.ref p) (upd H p (.lst xs.reverse))) (f := revD) (fun d1 d v T1 H Q e r l q => ?_) q
  have newL : ∀ {ds : List D} {xs : List V}, Reps X.K X.mg H ds xs T1 → ∀ p, H p = none → (∀ v H' T, Rep X.K X.mg H' (.lst true ds.reverse) v T → AftT T1 H H' T → Q v H') → Q (.ref p) (upd H p (.lst xs.reverse)) := fun {ds xs} r p np q =>
    q _ _ (fun a => T1 a ∨ a = p) ⟨p, _, rfl, upd_same, .inr rfl, (Reps.keep _ r.reverse (kp_new np)).mono fun a x => ⟨.inl x, not_new np l x⟩⟩ (.new np trivial l Sub.rfl)
  unfold revD at e
  split at e
  · cases e
    obtain ⟨a, xs, rfl, s, r⟩ := r.lstAt
    exact ⟨a, xs, rfl, s.elim .of fun h => h.sq, fun p np => newL r p np q⟩
  · cases e
    obtain ⟨a, xs, rfl, s, r⟩ := r
    exact ⟨a, xs, rfl, s.sq, fun p np => newL (r.mono Sub.e0) p np q⟩
  · cases e
end
end VS
set_option Elab.async false
set_option linter.all false
set_option maxRecDepth 100000
set_option maxHeartbeats 4000000
/-! VS20: list * int, a op b op c, isinstance(x, (T, U)), global constants. -/
namespace VS
open PySem PySem.Spec PyProof.Rows L2
def rRepF : R2 := fun x y H Q => ∃ l k xs, x = .ref l ∧ y = .int k ∧ LstAt H l xs ∧ -(2 ^ 63) ≤ k ∧ k < 2 ^ 63 ∧ xs.length * k.toNat ≤ sizeLine ∧
  ∀ p, H p = none → Q (.ref p) (upd H p (.lst (List.replicate k.toNat xs).flatten))
theorem op_repF {X : Cx} : OpR X (binaryOp .Mult) rRepF := by
  intro pins s σ H x y v u Q I rx ry h
  obtain ⟨l, k, xs, rfl, rfl, hH, h1, h2, hz, q⟩ := h
  cases rx
  obtain ⟨t, rfl⟩ := ry
  obtain ⟨z, its, n, r, hl, e⟩ := hH.obj I
  have hlen : its.toArray.size * k.toNat ≤ sizeLine := by rw [List.size_toArray, ← hl]; exact hz
  have hcap : ¬ its.toArray.size * k.toNat > (2 ^ 63 - 1) / 8 := by
    have : (sizeLine : Nat) ≤ (2 ^ 63 - 1) / 8 := by decide
    omega
  have hfit : ¬ (!Builtin.List.listFitsIndex k) = true := by
    rw [fitsIndex_both h1 h2]
    exact Bool.false_ne_true
  have hlong : ¬ Builtin.List.listTooLong (its.toArray.size * k.toNat) = true := by
    rw [notLongL hlen]
    exact Bool.false_ne_true
  have hnew : List.foldl (fun x1 x2 => x1 ++ x2) #[] (List.replicate (if its.toArray.isEmpty = true then 0 else k.toNat) its.toArray) = (List.replicate k.toNat its).flatten.toArray := by
    have f0 : ∀ m : Nat, List.foldl (fun x1 x2 => x1 ++ x2) #[] (List.replicate m its.toArray) = (List.replicate m its).flatten.toArray := fun m => by
      have := foldl_rep its m []
      rw [List.nil_append] at this
      exact this
    rw [f0]
    cases its with
    | nil => simp
    | cons a r' => rw [if_neg (by simp)]
  refine wpAny_binaryOp_repeat_ref (T := "list") (U := "int") (by decide) ⟨_, e, rfl⟩ (fun s' => typeIs_int s' k t) noFill_list_mul PySem.F.fills_int_mul PySem.F.slot_int_rmul repeat_list PySem.F.slot_int_index.lookup
    (call_meets PySem.F.slot_int_rmul (typeIs_int s k t) PySem.F.entry_int_rmul (PySem.F.args_int_rmul_2 _ _) (int___rmul___int_list k t l its.toArray n)
      ⟨e, rfl, ⟨_, e, rfl⟩, call_meets PySem.F.slot_list_mul ⟨_, e, rfl⟩ PySem.F.entry_list_mul (PySem.F.args_list_mul_2 _ _) (AutoListH.list___mul___list_int_3 l its.toArray n k t hfit hcap hlong) ⟨e, ?_⟩⟩)
  rw [hnew]
  exact ⟨.ref _, _, I.lnew (t' := s.toks) (r.rep k.toNat) (by rw [PyProof.Rows.lm_len_rep_flat, Nat.mul_comm]; exact hz), rfl, q _ I.fresh⟩
def repD : D → D → Option D
  | .lst _ ds, .int k => if pures? ds = true ∧ -(10 ^ 6) < k ∧ k < 10 ^ 6 ∧ ds.length * k.toNat ≤ big then some (.lst true (List.replicate k.toNat ds).flatten) else none
  | _, _ => none
section
variable {K : PySem.W.Frag} {mg : Str → Option Value}
theorem Reps.fixedS {H : Hp} : ∀ {ds : List D} {xs : List V} {A : AS}, pures? ds = true → Reps K mg H ds xs A → Reps K mg H ds xs E0
  | [], _, _, _, h => h
  | d :: ds, _, A, p, ⟨x, ys, A1, A2, e, s1, s2, dj, r1, r2⟩ => by
    unfold pures? at p
    rw [Bool.and_eq_true] at p
    exact ⟨x, ys, E0, E0, e, Sub.rfl, Sub.rfl, Dj.e0, r1.fixed d p.1, Reps.fixedS p.2 r2⟩
theorem Reps.rep {H : Hp} {ds : List D} {xs : List V} (r : Reps K mg H ds xs E0) : ∀ n, Reps K mg H (List.replicate n ds).flatten (List.replicate n xs).flatten E0
  | 0 => rfl
  | n + 1 => by
    rw [List.replicate_succ, List.replicate_succ, List.flatten_cons, List.flatten_cons]
    exact Reps.append r (Reps.rep r n) Dj.e0 Sub.rfl Sub.rfl
theorem vop_rep : VOp K mg rRepF repD := by
  intro d1 d2 d v1 v2 T1 T2 H Q e r1 r2 dj l1 l2 q
  unfold repD at e
  split at e
  · split at e
    · rename_i m ds k h
      obtain ⟨hp, h1, h2, h3⟩ := h
      cases e
      cases (show v2 = .int k from r2)
      obtain ⟨a, xs, rfl, s, r⟩ := r1.lstAt
      refine ⟨a, k, xs, rfl, rfl, s, by omega, by omega, by rw [r.length]; exact big_line h3, fun p np => ?_⟩
      have r' := Reps.rep (Reps.keep _ (Reps.fixedS hp r) (kp_new (o := .lst (List.replicate k.toNat xs).flatten) np)) k.toNat
      exact q _ _ (fun a => E0 a ∨ a = p) ⟨p, _, rfl, upd_same, .inr rfl, r'.mono Sub.e0⟩ (.new np trivial Live.e0 Sub.e0)
    · cases e
  · cases e
end
/-! ### a op b op c -/
def chnM (f g : Int → Int → Bool) (ma mb mc : EM) : EM := fun ρ => (ma ρ).bind fun d1 ρ1 => (mb ρ1).bind fun d2 ρ2 => match d1, d2 with
  | .int i, .int j => if f i j = true then (mc ρ2).bind fun d3 ρ3 => match d3 with
      | .int k => .ok (.bl (g j k)) ρ3
      | _ => .bad
    else .ok (.bl false) ρ2
  | _, _ => .bad
section
variable {X : Cx} {eC : Addr} {W : WX} {S S1 S2 S3 : List Nat} {pos p2 p3 p1 : Pos}
theorem ve_chn {op op' : CmpOp} {f g : Int → Int → Bool} {a b c : Expr} {ma mb mc : EM} (ho : OpR X (compareOp op) (rI0 fun i j => .bl (f i j))) (ho' : OpR X (compareOp op') (rI0 fun i j => .bl (g i j))) (ha : VE X eC W S1 a ma) (hb : VE X eC W S2 b mb) (hc : VE X eC W S3 c mc)
    (hm : lastMarks [op, op'] [b, c] = false := by with_unfolding_all rfl) : VE X eC W (S1 ++ (S2 ++ S3)) (.Compare a [op, op'] [b, c] pos) (chnM f g ma mb mc) := PE.imp (pe_chain ho ho' ha hb hc hm) fun σ H Q ⟨ρ, F, er, q⟩ => by
  refine ⟨ρ, F, er, ?_⟩
  unfold chnM at q
  cases e1 : ma ρ with
  | bad => rw [e1] at q; exact q
  | ex z ρ1 => rw [e1] at q; exact fun dd H' F' er' x g => q dd H' F' er' x (g.more fun j hj => List.mem_append_left _ hj)
  | ok d1 ρ1 =>
    rw [e1] at q
    intro v1 H1 F1 T1 er1 r1 g1
    refine ⟨ρ1, F1, er1, ?_⟩
    simp only [Res.bind_ok] at q
    cases e2 : mb ρ1 with
    | bad => rw [e2] at q; exact q
    | ex z ρ2 => rw [e2] at q; exact fun dd H' F' er' x g => q dd H' F' er' x ((g1.toAft.trans g).more fun j hj => (List.mem_append.mp hj).elim (List.mem_append_left _) fun h => List.mem_append_right _ (List.mem_append_left _ h))
    | ok d2 ρ2 =>
      rw [e2] at q
      intro v2 H2 F2 T2 er2 r2 g2
      simp only [Res.bind_ok] at q
      cases d1 with
      | int i => cases d2 with
        | int j =>
          dsimp only at q
          cases (show v1 = .int i from r1)
          cases (show v2 = .int j from r2)
          refine ⟨i, j, rfl, rfl, f i j, rfl, ?_⟩
          have g12 := g1.toAft.trans g2.toAft
          by_cases c : f i j = true
          · rw [if_pos c] at q
            rw [if_pos c]
            refine ⟨ρ2, F2, er2, ?_⟩
            cases e3 : mc ρ2 with
            | bad => rw [e3] at q; exact q
            | ex z ρ3 => rw [e3] at q; exact fun dd H' F' er' x g => q dd H' F' er' x (by rw [← List.append_assoc]; exact g12.trans g)
            | ok d3 ρ3 =>
              rw [e3] at q
              intro v3 H3 F3 T3 er3 r3 g3
              simp only [Res.bind_ok] at q
              cases d3 with
              | int k =>
                refine ⟨j, k, rfl, r3, ?_⟩
                exact q _ H3 F3 E0 er3 rfl ⟨by rw [← List.append_assoc]; exact g12.trans g3.toAft, fun _ h => h.elim, fun _ => Dj.e0, Live.e0⟩
              | _ => exact q.elim
          · rw [if_neg c] at q
            rw [if_neg c]
            exact q _ H2 F2 E0 er2 rfl ⟨g12.more fun j hj => (List.mem_append.mp hj).elim (List.mem_append_left _) fun h => List.mem_append_right _ (List.mem_append_left _ h), fun _ h => h.elim, fun _ => Dj.e0, Live.e0⟩
        | _ => exact q.elim
      | _ => exact q.elim
/-! ### isinstance(e, (T, U)) -/
theorem ve_isi2 {e : Expr} {m : EM} {x y : Str} {Tx Ty : String} {k : Nat} {p p2 p3 p4 pos : Pos} (hTx : Tx ∈ ["bool", "int", "str", "tuple", "list"]) (hTy : Ty ∈ ["bool", "int", "str", "tuple", "list"]) (hx : X.mg x = none) (hgx : Gl X x) (hvx : bootBuiltins x = some (.type Tx)) (hy : X.mg y = none) (hgy : Gl X y) (hvy : bootBuiltins y = some (.type Ty))
    (hg2 : Gl X "isinstance") (hm2 : X.mg "isinstance" = none) (hv2 : bootBuiltins "isinstance" = some (.builtin "isinstance")) (he : VE X eC W S e m) (hnx : x ≠ "__name__") (hny : y ≠ "__name__") (hdx : (x == ("__debug__" : Str)) = false) (hdy : (y == ("__debug__" : Str)) = false)
    (hb : PE X (.Call (.Name "isinstance" p) [e, .Tuple [.Name x p2, .Name y p3] k p4] [] pos) (tCB (rIsiT X.K) (tCons (TV X.K X.mg eC W S m) (tCons (tTup (tCons (tC (.ty Tx)) (tCons (tC (.ty Ty)) tNil))) tNil))) := by
      exact pe_callB call_isiT hg2 hm2 hv2 (pa_cons he (pa_cons (pe_tup (pa_cons (pe_bltn hgx hx hvx rfl hnx hdx) (pa_cons (pe_bltn hgy hy hvy rfl hny hdy) pa_nil))) pa_nil))) :
    VE X eC W S (.Call (.Name "isinstance" p) [e, .Tuple [.Name x p2, .Name y p3] k p4] [] pos) (unM (isiD [Tx, Ty]) m) := PE.imp hb fun σ H Q q => by
  refine tv_un (r := fun v H Q => [V.ty Tx, V.ty Ty].length ≤ sizeLine ∧ ∀ p, H p = none → rIsiT X.K [v, .ref p] (upd H p (.tup [.ty Tx, .ty Ty])) Q) (f := isiD [Tx, Ty]) (fun d1 d v T1 H Q e r l q => ?_) q
  simp only [isiD, Option.map_eq_some_iff] at e
  obtain ⟨n, e, rfl⟩ := e
  refine ⟨by rw [sizeLine_eq]; exact (by decide : 2 ≤ 16777216), fun p np => ⟨v, p, _, .type n, [.type Tx, .type Ty], _, rfl, upd_same, .cons (.ty Tx) (.cons (.ty Ty) .nil), (Rep.keep d1 r (kp_new np)).tyx e, kitAny_of (tyD_mem e) [Tx, Ty] (fun T h => ?_), ?_⟩⟩
  · rcases List.mem_cons.mp h with rfl | h
    · exact hTx
    · rcases List.mem_cons.mp h with rfl | h
      · exact hTy
      · cases h
  · exact q _ _ E0 rfl (.newF np Live.e0 Sub.e0)
/-! ### global constants -/
def cM (d : D) : EM := fun ρ => .ok d ρ
/-- what a value of the written part stands for -/
inductive KRep (K : PySem.W.Frag) : D → V → Value → Prop where
  | non : KRep K .non .non .none
  | bl (b : Bool) : KRep K (.bl b) (.bl b) (.bool b)
  | int (i : Int) (t : Tok) : KRep K (.int i) (.int i) (.int i t)
  | str (z : Str) (t : Tok) : KRep K (.str z) (.str z) (.str z t)
  | tup {a : Addr} {ds : List D} {xs : List V} : (∀ H : Hp, SqT K H a xs) → (∀ H : Hp, ∀ mg, Reps K mg H ds xs E0) → KRep K (.tup ds) (.ref a) (.ref a)
theorem KRep.rep {K : PySem.W.Frag} {mg : Str → Option Value} {H : Hp} {d : D} {v : V} {u : Value} (h : KRep K d v u) : Rep K mg H d v E0 := by
  cases h with
  | non => rfl
  | bl b => rfl
  | int i t => rfl
  | str z t => rfl
  | tup h1 h2 => exact ⟨_, _, rfl, h1 H, h2 H mg⟩
theorem KRep.rel {K : PySem.W.Frag} {d : D} {v : V} {u : Value} (h : KRep K d v u) : RelV v u := by
  cases h with
  | non => rfl
  | bl b => rfl
  | int i t => exact ⟨t, rfl⟩
  | str z t => exact ⟨t, rfl⟩
  | tup h1 h2 => rfl
theorem ve_glob {x : Str} {d : D} {v : V} {u : Value} (hg : Gl X x) (hm : X.mg x = some u) (r : KRep X.K d v u) (hd : (x == ("__debug__" : Str)) = false := by decide) : VE X eC W [] (.Name x pos) (cM d) :=
  PE.imp (pe_glob hg hm r.rel hd) fun σ H Q ⟨ρ, F, er, q⟩ => q v H F E0 er r.rep .refl
end
end VS
set_option Elab.async false
set_option linter.all false
set_option maxRecDepth 100000
set_option maxHeartbeats 4000000
/-! VS21: is None; rules with their usual parts, for gen.py. -/
namespace VS
open PySem PySem.Spec PyProof.Rows L2
def nonM : EM := fun ρ => .ok .non ρ
def intM (i : Int) : EM := fun ρ => .ok (.int i) ρ
def blM (b : Bool) : EM := fun ρ => .ok (.bl b) ρ
def strM (z : Str) : EM := fun ρ => .ok (.str z) ρ
section
variable {X : Cx} {eC : Addr} {W : WX} {S S1 S2 SA : List Nat} {pos p2 : Pos}
theorem ve_isN {a : Expr} {k : Nat} {m : EM} (ha : VE X eC W S a m) : VE X eC W S (.Compare a [.Is] [.Constant .none k p2] pos) (unM (isN false) m) :=
  PE.imp (pe_cmpR op_isN ha pe_non (by rfl)) fun σ H Q q => tv_un (r := fun v H Q => V.non = V.non ∧ Q (.bl (decide (v = .non))) H) (f := isN false) (fun d1 d v1 T1 H Q e r l q => ⟨rfl, vun_isN d1 d v1 T1 H Q e r l q⟩) q
theorem ve_isNotN {a : Expr} {k : Nat} {m : EM} (ha : VE X eC W S a m) : VE X eC W S (.Compare a [.IsNot] [.Constant .none k p2] pos) (unM (isN true) m) :=
  PE.imp (pe_cmpR op_notN ha pe_non (by rfl)) fun σ H Q q => tv_un (r := fun v H Q => V.non = V.non ∧ Q (.bl (!decide (v = .non))) H) (f := isN true) (fun d1 d v1 T1 H Q e r l q => ⟨rfl, vun_notN d1 d v1 T1 H Q e r l q⟩) q
theorem vt_isN {a : Expr} {k : Nat} {m : EM} (ha : VE X eC W S a m) : VT X eC W S (.Compare a [.Is] [.Constant .none k p2] pos) (testM (unM (isN false) m)) :=
  PT.imp (pt_cmpR op_isN ha pe_non (by rfl)) fun σ H Q q => tv_un (Q := fun x H1 => ∃ c, x = .bl c ∧ Q c H1) (r := fun v H Q => V.non = V.non ∧ Q (.bl (decide (v = .non))) H) (f := isN false) (fun d1 d v1 T1 H Q e r l q => ⟨rfl, vun_isN d1 d v1 T1 H Q e r l q⟩) (tv_test q)
theorem vt_isNotN {a : Expr} {k : Nat} {m : EM} (ha : VE X eC W S a m) : VT X eC W S (.Compare a [.IsNot] [.Constant .none k p2] pos) (testM (unM (isN true) m)) :=
  PT.imp (pt_cmpR op_notN ha pe_non (by rfl)) fun σ H Q q => tv_un (Q := fun x H1 => ∃ c, x = .bl c ∧ Q c H1) (r := fun v H Q => V.non = V.non ∧ Q (.bl (!decide (v = .non))) H) (f := isN true) (fun d1 d v1 T1 H Q e r l q => ⟨rfl, vun_notN d1 d v1 T1 H Q e r l q⟩) (tv_test q)
theorem hu65 {A : Around} {k : Nat} (hr : Room k A) : A.units + 65 < cLine := by have := hr.un; omega
theorem hu64 {A : Around} {k : Nat} (hr : Room k A) : A.units + 64 < cLine := by have := hr.un; omega
/-- == , != , in, not in -/
theorem ve_eq {a b : Expr} {ma mb : EM} {k : Nat} (hr : Room k X.A) (ha : VE X eC W S1 a ma) (hb : VE X eC W S2 b mb) (hm : behindInMarks .Eq b = false := by rfl) : VE X eC W (S1 ++ S2) (.Compare a [.Eq] [b] pos) (opM (eqP false) ma mb) := ve_cmp (op_eqD (hu64 hr)) vop_eq ha hb hm
theorem ve_ne {a b : Expr} {ma mb : EM} {k : Nat} (hr : Room k X.A) (ha : VE X eC W S1 a ma) (hb : VE X eC W S2 b mb) (hm : behindInMarks .NotEq b = false := by rfl) : VE X eC W (S1 ++ S2) (.Compare a [.NotEq] [b] pos) (opM (eqP true) ma mb) := ve_cmp (op_neD (hu64 hr)) vop_ne ha hb hm
theorem ve_in {a b : Expr} {ma mb : EM} {k : Nat} (hr : Room k X.A) (ha : VE X eC W S1 a ma) (hb : VE X eC W S2 b mb) (hm : behindInMarks .In b = false := by with_unfolding_all rfl) : VE X eC W (S1 ++ S2) (.Compare a [.In] [b] pos) (opM (inP false) ma mb) := ve_cmp (op_inP (hu65 hr)) vop_in ha hb hm
theorem ve_notin {a b : Expr} {ma mb : EM} {k : Nat} (hr : Room k X.A) (ha : VE X eC W S1 a ma) (hb : VE X eC W S2 b mb) (hm : behindInMarks .NotIn b = false := by with_unfolding_all rfl) : VE X eC W (S1 ++ S2) (.Compare a [.NotIn] [b] pos) (opM (inP true) ma mb) := ve_cmp (op_notInP (hu65 hr)) vop_in ha hb hm
theorem vt_eq {a b : Expr} {ma mb : EM} {k : Nat} (hr : Room k X.A) (ha : VE X eC W S1 a ma) (hb : VE X eC W S2 b mb) (hm : behindInMarks .Eq b = false := by rfl) : VT X eC W (S1 ++ S2) (.Compare a [.Eq] [b] pos) (testM (opM (eqP false) ma mb)) := vt_cmp (op_eqD (hu64 hr)) vop_eq ha hb hm
theorem vt_ne {a b : Expr} {ma mb : EM} {k : Nat} (hr : Room k X.A) (ha : VE X eC W S1 a ma) (hb : VE X eC W S2 b mb) (hm : behindInMarks .NotEq b = false := by rfl) : VT X eC W (S1 ++ S2) (.Compare a [.NotEq] [b] pos) (testM (opM (eqP true) ma mb)) := vt_cmp (op_neD (hu64 hr)) vop_ne ha hb hm
theorem vt_in {a b : Expr} {ma mb : EM} {k : Nat} (hr : Room k X.A) (ha : VE X eC W S1 a ma) (hb : VE X eC W S2 b mb) (hm : behindInMarks .In b = false := by with_unfolding_all rfl) : VT X eC W (S1 ++ S2) (.Compare a [.In] [b] pos) (testM (opM (inP false) ma mb)) := vt_cmp (op_inP (hu65 hr)) vop_in ha hb hm
theorem vt_notin {a b : Expr} {ma mb : EM} {k : Nat} (hr : Room k X.A) (ha : VE X eC W S1 a ma) (hb : VE X eC W S2 b mb) (hm : behindInMarks .NotIn b = false := by with_unfolding_all rfl) : VT X eC W (S1 ++ S2) (.Compare a [.NotIn] [b] pos) (testM (opM (inP true) ma mb)) := vt_cmp (op_notInP (hu65 hr)) vop_in ha hb hm
/-- constants under their names -/
theorem vc_int {i : Int} {j : Nat} : VE X eC W [] (.Constant (.int i) j pos) (intM i) := ve_int
theorem vc_bl {b : Bool} {j : Nat} : VE X eC W [] (.Constant (.bool b) j pos) (blM b) := ve_bl
theorem vc_non {j : Nat} : VE X eC W [] (.Constant .none j pos) nonM := ve_non
theorem vc_str {z : Str} {j : Nat} : VE X eC W [] (.Constant (.str z) j pos) (strM z) := ve_str
/-- the test that a comprehension has none of -/
def yesM : M Bool := fun ρ => .ok true ρ
theorem pts_yes' : PTs X [] (TVt X.K X.mg eC W0 [] yesM) := pts_yes
theorem pts_one' {c : Expr} {t : M Bool} (h : VT X eC W0 S c t) : PTs X [c] (TVt X.K X.mg eC W0 S t) := pts_one h
end
/-- len of the list that stands at a place -/
def lenP (i : Nat) (ps : Path) : EM := fun ρ => match (ρ[i]?).bind (getP · ps) with
  | some d => if has? d = true then Res.of (lenD d) ρ else .bad
  | none => .bad
theorem Rep.lenV {K : PySem.W.Frag} {mg : Str → Option Value} {H : Hp} {d1 d : D} {v : V} {A : AS} (r : Rep K mg H d1 v A) (e : lenD d1 = some d) : ∃ n : Nat, d = .int n ∧ LenV K v H n := by
  cases d1 with
  | str x =>
    cases (show v = .str x from r)
    simp only [lenD] at e
    split at e
    · rename_i h
      cases e
      exact ⟨_, rfl, big_line h, rfl⟩
    · cases e
  | tup ds => cases e; obtain ⟨a, xs, rfl, s, r⟩ := r; exact ⟨_, rfl, by rw [← r.length]; exact .inr ⟨xs, s, rfl⟩⟩
  | rol ds => cases e; obtain ⟨a, xs, rfl, s, r⟩ := r; exact ⟨_, rfl, by rw [← r.length]; exact .inl ⟨xs, s.sq, rfl⟩⟩
  | lst m ds =>
    cases e
    obtain ⟨a, xs, rfl, s, r⟩ := r.lstAt
    exact ⟨_, rfl, by rw [← r.length]; exact .inl ⟨xs, s.elim .of fun h => h.sq, rfl⟩⟩
  | _ => cases e
section
variable {X : Cx} {eC : Addr} {W : WX} {S : List Nat} {p pos : Pos}
theorem ve_lenP {e : Expr} {i : Nat} {ps : Path} (hO : VP X e i ps) (hg : Gl X "len") (hm : X.mg "len" = none) (hst : starEach [e] X.env = (false, eval e X.env) :: starEach [] X.env := by rfl)
    (hb : PE X (.Call (.Name "len" p) [e] [] pos) (tCB (fun xs H Q => ∃ x n, xs = [x] ∧ LenV X.K x H n ∧ Q (.int n) H) (tCons (fun σ H Q => ∃ v, PlcAt X.K X.mg H σ i ps v ∧ Q v H) tNil)) := by exact pe_callB call_len hg hm PyProof.Rows.Boot.«len» (pa_cons hO pa_nil hst)) :
    VE X eC W [] (.Call (.Name "len" p) [e] [] pos) (lenP i ps) := PE.imp hb fun σ H Q ⟨ρ, F, er, q⟩ => by
  unfold lenP at q
  cases e1 : ρ[i]? with
  | none => rw [e1] at q; exact q.elim
  | some d0 =>
    rw [e1] at q
    simp only [Option.bind_some] at q
    cases e2 : getP d0 ps with
    | none => rw [e2] at q; exact q.elim
    | some d =>
      rw [e2] at q
      dsimp only at q
      by_cases c : has? d = true
      · rw [if_pos c] at q
        obtain ⟨o, e3, r⟩ := er.get i d0 e1
        obtain ⟨v0, rfl, r⟩ := has_root e2 c r
        obtain ⟨x, A1, A2, a, s1, s2, dj, r1, r2, _⟩ := r.path e2
        cases e4 : lenD d with
        | none => rw [e4] at q; exact q.elim
        | some d' =>
          rw [e4] at q
          obtain ⟨n, rfl, l⟩ := r1.lenV e4
          exact ⟨x, ⟨v0, e3, a⟩, x, n, rfl, l, q (.int n) H F E0 er rfl .refl⟩
      · rw [if_neg c] at q; exact q.elim
end
section
variable {X : Cx} {eC : Addr} {W : WX} {S : List Nat} {p p2 p3 p4 pos : Pos}
/-- calls of built-ins, with their side conditions told apart -/
theorem vc_B {e : Expr} {es : List Expr} {x : Str} {id : String} {r : List V → Hp → VK → Prop} {f : List D → Option D} {ms : M (List D)} (hc : CallR X (.builtin id) r) (h : VCl X.K X.mg r f)
    (hg : Gl X x) (hm : X.mg x = none) (hv : bootBuiltins x = some (.builtin id)) (ha : VA X eC W S (e :: es) ms) (hn : x ≠ "__name__" := by decide) (hdb : (x == ("__debug__" : Str)) = false := by decide)
    (he : starEach (e :: es) X.env = (false, eval e X.env) :: starEach es X.env := by rfl) (hpl : (backTo pos (starEach es X.env)).any (·.1) = false := by rfl) : VE X eC W S (.Call (.Name x p) (e :: es) [] pos) (clM f ms) :=
  ve_callB hc h hg hm hv ha (pe_callB hc hg hm hv ha hn hdb he hpl)
theorem vc_Ty {e : Expr} {es : List Expr} {x : Str} {T : String} {r : List V → Hp → VK → Prop} {f : List D → Option D} {ms : M (List D)} (hc : CallR X (.type T) r) (h : VCl X.K X.mg r f)
    (hg : Gl X x) (hm : X.mg x = none) (hv : bootBuiltins x = some (.type T)) (ha : VA X eC W S (e :: es) ms) (hn : x ≠ "__name__" := by decide) (hdb : (x == ("__debug__" : Str)) = false := by decide)
    (he : starEach (e :: es) X.env = (false, eval e X.env) :: starEach es X.env := by rfl) (hpl : (backTo pos (starEach es X.env)).any (·.1) = false := by rfl) : VE X eC W S (.Call (.Name x p) (e :: es) [] pos) (clM f ms) :=
  ve_callTy hc h hg hm hv ha (pe_callTy hc hg hm hv ha hn hdb he hpl)
theorem vc_isi {e : Expr} {m : EM} {x : Str} {Ts : String} (hT : Ts ∈ ["bool", "int", "str", "tuple", "list"]) (hx : X.mg x = none) (hg : Gl X x) (hv : bootBuiltins x = some (.type Ts))
    (hg2 : Gl X "isinstance") (hm2 : X.mg "isinstance" = none) (he : VE X eC W S e m) (hn : x ≠ "__name__" := by decide) (hd : (x == ("__debug__" : Str)) = false := by decide)
    (hs : starEach [e, .Name x p2] X.env = (false, eval e X.env) :: starEach [.Name x p2] X.env := by rfl) (hs2 : starEach [.Name x p2] X.env = (false, eval (.Name x p2) X.env) :: starEach [] X.env := by rfl)
    (hpl : (backTo pos (starEach [.Name x p2] X.env)).any (·.1) = false := by rfl) : VE X eC W S (.Call (.Name "isinstance" p) [e, .Name x p2] [] pos) (unM (isiD [Ts]) m) :=
  ve_isi (T := "") hT hx hg hv hg2 hm2 PyProof.Rows.Boot.«isinstance» he hn hd hs hs2 (pe_callB call_isi hg2 hm2 PyProof.Rows.Boot.«isinstance» (pa_cons he (pa_cons (pe_bltn hg hx hv rfl hn hd) pa_nil hs2) hs) (by decide) (by decide) hs hpl)
theorem vc_isi2 {e : Expr} {m : EM} {x y : Str} {Tx Ty : String} {k : Nat} (hTx : Tx ∈ ["bool", "int", "str", "tuple", "list"]) (hTy : Ty ∈ ["bool", "int", "str", "tuple", "list"]) (hx : X.mg x = none) (hgx : Gl X x) (hvx : bootBuiltins x = some (.type Tx)) (hy : X.mg y = none) (hgy : Gl X y) (hvy : bootBuiltins y = some (.type Ty))
    (hg2 : Gl X "isinstance") (hm2 : X.mg "isinstance" = none) (he : VE X eC W S e m) (hnx : x ≠ "__name__" := by decide) (hny : y ≠ "__name__" := by decide) (hdx : (x == ("__debug__" : Str)) = false := by decide) (hdy : (y == ("__debug__" : Str)) = false := by decide)
    (hs : starEach [e, .Tuple [.Name x p2, .Name y p3] k p4] X.env = (false, eval e X.env) :: starEach [.Tuple [.Name x p2, .Name y p3] k p4] X.env := by rfl) (hs2 : starEach [.Tuple [.Name x p2, .Name y p3] k p4] X.env = (false, eval (.Tuple [.Name x p2, .Name y p3] k p4) X.env) :: starEach [] X.env := by rfl)
    (hs3 : starEach [.Name x p2, .Name y p3] X.env = (false, eval (.Name x p2) X.env) :: starEach [.Name y p3] X.env := by rfl) (hs4 : starEach [.Name y p3] X.env = (false, eval (.Name y p3) X.env) :: starEach [] X.env := by rfl)
    (hpl : (backTo pos (starEach [.Tuple [.Name x p2, .Name y p3] k p4] X.env)).any (·.1) = false := by rfl) :
    VE X eC W S (.Call (.Name "isinstance" p) [e, .Tuple [.Name x p2, .Name y p3] k p4] [] pos) (unM (isiD [Tx, Ty]) m) :=
  ve_isi2 hTx hTy hx hgx hvx hy hgy hvy hg2 hm2 PyProof.Rows.Boot.«isinstance» he hnx hny hdx hdy (pe_callB call_isiT hg2 hm2 PyProof.Rows.Boot.«isinstance» (pa_cons he (pa_cons (pe_tup (pa_cons (pe_bltn hgx hx hvx rfl hnx hdx) (pa_cons (pe_bltn hgy hy hvy rfl hny hdy) pa_nil hs4) hs3)) pa_nil hs2) hs) (by decide) (by decide) hs hpl)
theorem vc_lenP {e : Expr} {i : Nat} {ps : Path} (hO : VP X e i ps) (hg : Gl X "len") (hm : X.mg "len" = none) (hst : starEach [e] X.env = (false, eval e X.env) :: starEach [] X.env := by rfl) (hpl : (backTo pos (starEach [] X.env)).any (·.1) = false := by rfl) :
    VE X eC W [] (.Call (.Name "len" p) [e] [] pos) (lenP i ps) := ve_lenP hO hg hm hst (pe_callB call_len hg hm PyProof.Rows.Boot.«len» (pa_cons hO pa_nil hst) (by decide) (by decide) hst hpl)
end
section
variable {X : Cx} {eC : Addr} {W : WX} {S : List Nat} {k n : Nat} {f C fI : Addr} {fd : FuncData} {ps : List Str} {fm : FM} {x c : Str} {p pos : Pos} {e : Expr} {es : List Expr} {ks : List AK} {ms : M (List D)}
theorem vc_call (F : Df X.prog X.w X.K X.mg X.base eC k f fd ps fm) (hr : Room k X.A) (tk : Takes X W) (hm : X.mg x = some (.ref f)) (hg : Gl X x) (ha : VR X eC W S ks (e :: es) ms) (hn : ps.length = n := by rfl) (nd : (roots ks).Nodup := by decide)
    (hdb : (x == ("__debug__" : Str)) = false := by decide) (he : starEach (e :: es) X.env = (false, eval e X.env) :: starEach es X.env := by rfl) (hpl : (backTo pos (starEach es X.env)).any (·.1) = false := by rfl) :
    VE X eC W (S ++ roots ks) (.Call (.Name x p) (e :: es) [] pos) (callM n ks fm ms) := by subst hn; exact ve_call F hr tk hm hg ha nd hdb he hpl
theorem vc_call0 (F : Df X.prog X.w X.K X.mg X.base eC k f fd ps fm) (hr : Room k X.A) (tk : Takes X W) (hm : X.mg x = some (.ref f)) (hg : Gl X x) (hn : ps.length = n := by rfl) (hdb : (x == ("__debug__" : Str)) = false := by decide) :
    VE X eC W [] (.Call (.Name x p) [] [] pos) (callM n [] fm nilM) := by subst hn; exact ve_call0 F hr tk hm hg hdb
theorem vc_new (Mk' : Mk X.K C fI) (F : Df X.prog X.w X.K X.mg X.base eC k fI fd ps fm) (hr : Room (k + 1) X.A) (tk : Takes X W) (hC : X.mg c = some (.ref C)) (hg : Gl X c) (ha : VR X eC W S ks (e :: es) ms) (hn : ps.length = n := by rfl) (nd : (roots ks).Nodup := by decide)
    (hdb : (c == ("__debug__" : Str)) = false := by decide) (he : starEach (e :: es) X.env = (false, eval e X.env) :: starEach es X.env := by rfl) (hpl : (backTo pos (starEach es X.env)).any (·.1) = false := by rfl) :
    VE X eC W (S ++ roots ks) (.Call (.Name c p) (e :: es) [] pos) (newM n c ks fm ms) := by subst hn; exact ve_new Mk' F hr tk hC hg ha nd hdb he hpl
end
end VS
set_option Elab.async false
set_option linter.all false
set_option maxRecDepth 100000
set_option maxHeartbeats 4000000
/-! VS22: dicts whose keys are ints and texts, whose values can't be changed: {k: v for ..}, len. -/
namespace VS
open PySem PySem.Spec PyProof.Rows L2
def keyD : Key → D
  | .inl i => .int i
  | .inr x => .str x
def keyOf : D → Option Key
  | .int i => some (.inl i)
  | .str x => some (.inr x)
  | _ => none
def putKD (acc : List (Key × D)) (k : Key) (z : D) : List (Key × D) := if (acc.any fun kv => decide (kv.1 = k)) = true then acc.map (fun kv => if kv.1 = k then (kv.1, z) else kv) else acc ++ [(k, z)]
section
variable {K : PySem.W.Frag} {mg : Str → Option Value} {H H' : Hp}
theorem keyOf_rep {d : D} {k : Key} {v : V} {A : AS} (e : keyOf d = some k) (r : Rep K mg H d v A) : v = kV k ∧ d = keyD k := by
  cases d with
  | int i => cases e; exact ⟨r, rfl⟩
  | str i => cases e; exact ⟨r, rfl⟩
  | _ => cases e
/-- the pairs of a dict: its values can't be changed -/
def KRs (K : PySem.W.Frag) (mg : Str → Option Value) (H : Hp) : List (Key × D) → List (Key × V) → Prop
  | [], kvs => kvs = []
  | p :: acc, kvs => ∃ v r, kvs = (p.1, v) :: r ∧ Rep K mg H p.2 v E0 ∧ KRs K mg H acc r
theorem KRs.keep (k : Kp E0 H H') : ∀ {acc : List (Key × D)} {kvs : List (Key × V)}, KRs K mg H acc kvs → KRs K mg H' acc kvs
  | [], _, h => h
  | p :: acc, _, ⟨v, r, e, h1, h2⟩ => ⟨v, r, e, Rep.keep _ h1 k, KRs.keep k h2⟩
theorem KRs.length : ∀ {acc : List (Key × D)} {kvs : List (Key × V)}, KRs K mg H acc kvs → kvs.length = acc.length
  | [], _, h => by cases h; rfl
  | p :: acc, _, ⟨v, r, e, h1, h2⟩ => by rw [e, List.length_cons, List.length_cons, KRs.length h2]
theorem KRs.any {k : Key} : ∀ {acc : List (Key × D)} {kvs : List (Key × V)}, KRs K mg H acc kvs → (kvs.any fun kv => decide (kv.1 = k)) = acc.any fun kv => decide (kv.1 = k)
  | [], _, h => by cases h; rfl
  | p :: acc, _, ⟨v, r, e, h1, h2⟩ => by rw [e, List.any_cons, List.any_cons, KRs.any h2]
theorem KRs.app {acc2 : List (Key × D)} {kvs2 : List (Key × V)} (h' : KRs K mg H acc2 kvs2) : ∀ {acc : List (Key × D)} {kvs : List (Key × V)}, KRs K mg H acc kvs → KRs K mg H (acc ++ acc2) (kvs ++ kvs2)
  | [], _, h => by cases h; exact h'
  | p :: acc, _, ⟨v, r, e, h1, h2⟩ => by subst e; exact ⟨v, _, rfl, h1, KRs.app h' h2⟩
theorem KRs.map {k : Key} {z : D} {x : V} (rz : Rep K mg H z x E0) : ∀ {acc : List (Key × D)} {kvs : List (Key × V)}, KRs K mg H acc kvs → KRs K mg H (acc.map fun kv => if kv.1 = k then (kv.1, z) else kv) (kvs.map fun kv => if kv.1 = k then (kv.1, x) else kv)
  | [], _, h => by cases h; exact rfl
  | p :: acc, _, ⟨v, r, e, h1, h2⟩ => by
    subst e
    rw [List.map_cons, List.map_cons]
    by_cases c : p.1 = k
    · rw [if_pos c, if_pos c]
      exact ⟨x, _, rfl, rz, KRs.map rz h2⟩
    · rw [if_neg c, if_neg c]
      exact ⟨v, _, rfl, h1, KRs.map rz h2⟩
theorem KRs.put {k : Key} {z : D} {x : V} (rz : Rep K mg H z x E0) {acc : List (Key × D)} {kvs : List (Key × V)} (h : KRs K mg H acc kvs) : KRs K mg H (putKD acc k z) (L2.putK kvs k x) := by
  unfold putKD L2.putK
  rw [h.any]
  split
  · exact h.map rz
  · exact KRs.app (acc2 := [(k, z)]) (kvs2 := [(k, x)]) (show KRs K mg H [(k, z)] [(k, x)] from ⟨x, [], rfl, rz, rfl⟩) h
theorem KRs.reps : ∀ {acc : List (Key × D)} {kvs : List (Key × V)}, KRs K mg H acc kvs → Reps K mg H (acc.map fun p => keyD p.1) (kvs.map fun p => kV p.1) E0 ∧ Reps K mg H (acc.map (·.2)) (kvs.map (·.2)) E0
  | [], _, h => by cases h; exact ⟨rfl, rfl⟩
  | p :: acc, _, ⟨v, r, e, h1, h2⟩ => by
    subst e
    obtain ⟨a, b⟩ := KRs.reps h2
    refine ⟨⟨_, _, E0, E0, rfl, Sub.rfl, Sub.rfl, Dj.e0, ?_, a⟩, _, _, E0, E0, rfl, Sub.rfl, Sub.rfl, Dj.e0, h1, b⟩
    obtain ⟨k, d⟩ := p
    cases k <;> exact rfl
def dicOf (m : Bool) (acc : List (Key × D)) : D := .dic m (acc.map fun p => keyD p.1) (acc.map (·.2))
theorem KRs.dic {acc : List (Key × D)} {kvs : List (Key × V)} (h : KRs K mg H acc kvs) {a : Addr} {A : AS} (e : H a = some (.dK kvs)) (i : A a) : Rep K mg H (dicOf true acc) (.ref a) A :=
  ⟨a, _, _, _, rfl, e, ⟨kvs, rfl, rfl, rfl⟩, i, h.reps.1, h.reps.2.mono Sub.e0⟩
end
def dcLoop (vs : List Nat) (g : D → List D → Option (List D)) (t : M Bool) (mk mz : EM) : List D → List (Key × D) → M (List (Key × D))
  | [], acc, ρ => .ok acc ρ
  | d :: ds, acc, ρ => match g d ρ with
    | none => .bad
    | some ρ1 => match t ρ1 with
      | .ok true ρ2 => (match mk ρ2 with
        | .ok y ρ3 => (match mz ρ3 with
          | .ok z ρ4 => (match keyOf y with
            | some k => if acc.length < big ∧ pure? z = true then dcLoop vs g t mk mz ds (putKD acc k z) (wipeD vs ρ4) else .bad
            | none => .bad)
          | _ => .bad)
        | _ => .bad)
      | .ok false ρ2 => dcLoop vs g t mk mz ds acc (wipeD vs ρ2)
      | _ => .bad
def dcM (vs : List Nat) (it : M (List D)) (g : D → List D → Option (List D)) (t : M Bool) (mk mz : EM) : EM := fun ρ => (it ρ).bind fun ds ρ1 => (dcLoop vs g t mk mz ds [] (wipeD vs ρ1)).bind fun acc ρ2 => .ok (dicOf true acc) ρ2
section
variable {X : Cx} {eC : Addr} {W : WX} {S S1 S2 S3 S4 SA : List Nat} {pos : Pos}
theorem dc_core' {K : PySem.W.Frag} {mg : Str → Option Value} {σ : L2.St} {H0 H : Hp} {F0 F : Nat → AS} {J : It} {hold : Hp → Prop} {vs : List Nat} {ds : List D} {g : D → List D → Option (List D)} {t : M Bool} {mk mz : EM} {gt : TG} {Dd : Addr} {Q : VK} {ρ1 : List D}
    (kt : TgOk K mg SA gt g) (sv : ∀ j, j ∈ SA → j ∈ vs) (w : Walk K mg J hold ds) (er : ER K mg H ρ1 σ F) (hh : hold H) (nD : H Dd = none) (g0 : Aft S1 H0 F0 H F)
    (q : CV K mg eC W (S1 ++ (S2 ++ (S3 ++ S4))) σ H0 F0 ((dcLoop vs g t mk mz ds [] (wipeD vs ρ1)).bind fun acc ρ2 => .ok (dicOf true acc) ρ2) Q) :
    ∃ Wi : Nat → Nat → Hp → Prop, (∃ n, Wi 0 n (upd H Dd (.dK []))) ∧ ∀ i n H, Wi i n H →
      (J.stop i H ∧ Q (.ref Dd) H) ∨ (J.go i H ∧ ∃ Nx : Hp → Prop, (∀ H', Nx H' → ∃ n', n' < n ∧ Wi (i + 1) n' H') ∧ ∀ x H', J.yld i H x H' → gt x (wipe σ vs) H' fun σ2 H2 => wipe σ2 vs = wipe σ vs ∧ TVt K mg eC W0 S2 t σ2 H2 fun b H3 =>
        if b = true then TV K mg eC W0 S3 mk σ2 H3 fun y H4 => TV K mg eC W0 S4 mz σ2 H4 fun z H5 => ∃ kvs k, y = kV k ∧ H5 Dd = some (.dK kvs) ∧ kvs.length < sizeLine ∧ Nx (upd H5 Dd (.dK (L2.putK kvs k z))) else Nx H3) := by
  let St (H1 : Hp) (ds' : List D) : Prop := hold H1 ∧ ∃ ρ2 F2 acc kvs, ER K mg H1 (wipeD vs ρ2) (wipe σ vs) F2 ∧ H1 Dd = some (.dK kvs) ∧ KRs K mg H1 acc kvs ∧ (∀ j, ¬ F2 j Dd) ∧
    Aft (S1 ++ (S2 ++ (S3 ++ S4))) H0 F0 H1 F2 ∧ H0 Dd = none ∧
    CV K mg eC W (S1 ++ (S2 ++ (S3 ++ S4))) σ H0 F0 ((dcLoop vs g t mk mz ds' acc (wipeD vs ρ2)).bind fun acc ρ2 => .ok (dicOf true acc) ρ2) Q
  have subS : ∀ {S' : List Nat}, (∀ j, j ∈ S' → j ∈ S2 ++ (S3 ++ S4)) → ∀ j, j ∈ (S1 ++ (S2 ++ (S3 ++ S4))) ++ S' → j ∈ S1 ++ (S2 ++ (S3 ++ S4)) := fun {S'} h j hj => (List.mem_append.mp hj).elim id fun x => List.mem_append_right _ (h j x)
  have wsub : ∀ {F : Nat → AS} (j : Nat), Sub ((fun j => if j ∈ vs then E0 else F j) j) (F j) := fun {F} j a h => by
    dsimp only at h
    by_cases c : j ∈ vs
    · rw [if_pos c] at h; exact h.elim
    · rw [if_neg c] at h; exact h
  refine ⟨fun i n H1 => n = ds.length - i ∧ i ≤ ds.length ∧ St H1 (ds.drop i), ⟨ds.length, rfl, Nat.zero_le _, ?_⟩, ?_⟩
  · have t0 : AftT E0 H (upd H Dd (.dK [])) (fun a => E0 a ∨ a = Dd) := .new nD trivial Live.e0 Sub.rfl
    have er1 := er.step Live.e0 (fun _ => Dj.e0) t0
    have nF : ∀ j, ¬ F j Dd := fun j x => by
      obtain ⟨u, e, _⟩ := er.live j Dd x
      rw [nD] at e; cases e
    refine ⟨w.keep _ _ hh (kp_new nD), ρ1, _, [], [], er1.wipe, upd_same, rfl, fun j h => nF j (wsub j Dd h), ?_, g0.dom Dd nD, by rw [List.drop_zero]; exact q⟩
    have s1 : Aft [] H F (upd H Dd (.dK [])) (fun j => if j ∈ vs then E0 else F j) := ⟨fun a o e _ => t0.keep a o e id, fun j _ => wsub j, fun j h => absurd h (by simp), t0.dom⟩
    exact (g0.trans s1).more fun j hj => List.mem_append_left _ (by simpa using hj)
  · rintro i n H1 ⟨rfl, hi, h1, ρ2, F2, acc, kvs, er2, hD, ra, nF, ga, hD0, q1⟩
    by_cases hlt : i < ds.length
    · refine .inr ⟨w.go i H1 h1 hlt, fun H2 => St H2 (ds.drop (i + 1)), fun H2 h2 => ⟨ds.length - (i + 1), by omega, rfl, hlt, h2⟩, fun x H2 y => ?_⟩
      obtain ⟨⟨d, e, r⟩, tA⟩ := w.yld i H1 x H2 h1 hlt y
      have ed : ds.drop i = d :: ds.drop (i + 1) := by
        rw [List.drop_eq_getElem_cons hlt]
        have : ds[i] = d := by
          have := List.getElem?_eq_getElem hlt
          rw [e] at this; exact (Option.some.inj this).symm
        rw [this]
      rw [ed] at q1
      unfold dcLoop at q1
      cases e1 : g d (wipeD vs ρ2) with
      | none => rw [e1] at q1; exact q1.elim
      | some ρ3 =>
        rw [e1] at q1
        dsimp only at q1
        have er2' := er2.step Live.e0 (fun _ => Dj.e0) tA
        refine kt d x E0 (wipeD vs ρ2) ρ3 F2 (L2.wipe σ vs) H2 _ e1 er2' r Live.e0 (fun _ => Dj.e0) fun σ3 F3 er3 f3 a3 => ⟨wipe_agree a3 sv, ρ3, F3, er3, ?_⟩
        have f3' : ∀ j, Sub (F3 j) (F2 j) := fun j a h => (f3 j a h).resolve_right id
        have s2 : Aft [] H1 F2 H2 F3 := ⟨fun a o e _ => tA.keep a o e id, fun j _ => f3' j, fun j h => absurd h (by simp), tA.dom⟩
        have ga2 : Aft (S1 ++ (S2 ++ (S3 ++ S4))) H0 F0 H2 F3 := (ga.trans s2).more (subS fun j h => absurd h (by simp))
        have hD2 : H2 Dd = some (.dK kvs) := tA.keep Dd _ hD id
        have hh2 : hold H2 := w.keep _ _ h1 (s2.s.kp0 er2)
        have ra2 := KRs.keep (s2.s.kp0 er2) ra
        cases e2 : t ρ3 with
        | bad => rw [e2] at q1; exact q1
        | ex z ρ4 => rw [e2] at q1; exact q1.elim
        | ok b ρ4 =>
          rw [e2] at q1
          intro H3 F4 er4 g4
          have ga3 : Aft (S1 ++ (S2 ++ (S3 ++ S4))) H0 F0 H3 F4 := (ga2.trans g4).more (subS fun j h => List.mem_append_left _ h)
          have hD3 : H3 Dd = some (.dK kvs) := g4.keep Dd _ hD2 fun j _ h => nF j (f3' j Dd h)
          have nF4 : ∀ j, ¬ F4 j Dd := fun j h => by
            rcases g4.back h with ⟨k, _, x⟩ | x | x
            · exact nF k (f3' k Dd x)
            · exact nF j (f3' j Dd x)
            · rw [hD2] at x; cases x
          have hh3 : hold H3 := w.keep _ _ hh2 (g4.s.kp0 er3)
          have ra3 := KRs.keep (g4.s.kp0 er3) ra2
          have ew : L2.wipe σ3 vs = L2.wipe σ vs := wipe_agree a3 sv
          cases b with
          | false =>
            rw [if_neg Bool.false_ne_true]
            dsimp only at q1
            have erw := er4.wipe (vs := vs)
            rw [ew] at erw
            have s4 : Aft [] H3 F4 H3 (fun j => if j ∈ vs then E0 else F4 j) := ⟨fun _ _ e _ => e, fun j _ => wsub j, fun j h => absurd h (by simp), fun _ e => e⟩
            exact ⟨hh3, ρ4, _, acc, kvs, erw, hD3, ra3, fun j h => nF4 j (wsub j Dd h), (ga3.trans s4).more (subS fun j h => absurd h (by simp)), hD0, q1⟩
          | true =>
            rw [if_pos rfl]
            dsimp only at q1
            refine ⟨ρ4, F4, er4, ?_⟩
            cases e3 : mk ρ4 with
            | bad => rw [e3] at q1; exact q1
            | ex z ρ5 => rw [e3] at q1; exact q1.elim
            | ok y ρ5 =>
              rw [e3] at q1
              intro v H4 F5 Ty er5 ry g5
              dsimp only at q1
              refine ⟨ρ5, F5, er5, ?_⟩
              cases e4 : mz ρ5 with
              | bad => rw [e4] at q1; exact q1
              | ex z ρ6 => rw [e4] at q1; exact q1.elim
              | ok z ρ6 =>
                rw [e4] at q1
                intro u H5 F6 Tz er6 rz g6
                dsimp only at q1
                cases e5 : keyOf y with
                | none => rw [e5] at q1; exact q1.elim
                | some k =>
                  rw [e5] at q1
                  dsimp only at q1
                  by_cases hb : acc.length < big ∧ pure? z = true
                  · rw [if_pos hb] at q1
                    have ga4 : Aft (S1 ++ (S2 ++ (S3 ++ S4))) H0 F0 H4 F5 := (ga3.trans g5.toAft).more (subS fun j h => List.mem_append_right _ (List.mem_append_left _ h))
                    have ga5 : Aft (S1 ++ (S2 ++ (S3 ++ S4))) H0 F0 H5 F6 := (ga4.trans g6.toAft).more (subS fun j h => List.mem_append_right _ (List.mem_append_right _ h))
                    have hD4 : H4 Dd = some (.dK kvs) := g5.toAft.keep Dd _ hD3 fun j _ h => nF4 j h
                    have nF5 : ∀ j, ¬ F5 j Dd := fun j h => by
                      rcases g5.toAft.back h with ⟨k, _, x⟩ | x | x
                      · exact nF4 k x
                      · exact nF4 j x
                      · rw [hD3] at x; cases x
                    have hD5 : H5 Dd = some (.dK kvs) := g6.toAft.keep Dd _ hD4 fun j _ h => nF5 j h
                    have nF6 : ∀ j, ¬ F6 j Dd := fun j h => by
                      rcases g6.toAft.back h with ⟨k, _, x⟩ | x | x
                      · exact nF5 k x
                      · exact nF5 j x
                      · rw [hD4] at x; cases x
                    have kD : ∀ {A : AS} {o : HO}, ¬ A Dd → Kp A H5 (upd H5 Dd o) := fun {A o} n => kp_upd n hD5 trivial
                    have hh5 : hold H5 := w.keep _ _ (w.keep _ _ hh3 (g5.toAft.s.kp0 er4)) (g6.toAft.s.kp0 er5)
                    have ra5 := KRs.keep (g6.toAft.s.kp0 er5) (KRs.keep (g5.toAft.s.kp0 er4) ra3)
                    refine ⟨kvs, k, (keyOf_rep e5 ry).1, hD5, big_lt (by rw [ra3.length]; exact hb.1), w.keep _ _ hh5 (kD id), ρ6, (fun j => if j ∈ vs then E0 else F6 j), putKD acc k z, L2.putK kvs k u, ?_, upd_same, KRs.keep (kD id) (KRs.put (Rep.fixed z hb.2 rz) ra5), fun j h => nF6 j (wsub j Dd h), ?_, hD0, q1⟩
                    · have erw := er6.wipe (vs := vs)
                      rw [ew] at erw
                      refine ⟨erw.len, fun j d' e' => ?_, erw.dj, fun j => (erw.live j).keep (kD fun h => nF6 j (wsub j Dd h))⟩
                      obtain ⟨o, e4, r4⟩ := erw.get j d' e'
                      refine ⟨o, e4, ?_⟩
                      cases o with
                      | none => exact r4
                      | some v' => exact Rep.keep d' r4 (kD fun h => nF6 j (wsub j Dd h))
                    · refine ⟨fun a o e n => ?_, fun j hj a h => ga5.same j hj a (wsub j a h), fun j hj a h => ga5.sub j hj a (wsub j a h), fun a e => ?_⟩
                      · rw [upd_ne]
                        · exact ga5.keep a o e n
                        · rintro rfl; rw [hD0] at e; cases e
                      · by_cases zz : a = Dd
                        · subst zz; exact hD0
                        · rw [upd_ne zz] at e; exact ga5.dom a e
                  · rw [if_neg hb] at q1; exact q1.elim
    · have e : i = ds.length := by omega
      subst e
      rw [List.drop_length] at q1
      refine .inl ⟨w.stop H1 h1, ?_⟩
      refine q1 (.ref Dd) H1 F2 (fun a => a = Dd) ?_ (ra.dic hD rfl) ⟨ga, fun a h => .inr (by rw [show a = Dd from h]; exact hD0), fun j a h x => nF j ((show a = Dd from h) ▸ x), fun a h => ⟨.dK kvs, by rw [show a = Dd from h]; exact hD, trivial⟩⟩
      exact er2.unwipe
theorem ve_dc {kx vx tg iter : Expr} {ifs : List Expr} {scope : Scope} {own : List (Str × Nat)} {it : M (List D)} {g : D → List D → Option (List D)} {gt : TG} {t : M Bool} {mk mz : EM} (hc : X.calm = true) (hN : X.N.Nodup) (ok : BlkOk X.N X.env.scope scope own)
    (hi : VI X eC W S1 tg iter it) (hg : ∀ (s : Shared) (H : Hp) (C : Addr) (cl : List (Str × Addr)) (fp : List Addr), PG (X.blk s H scope (compEnvC scope cl C X.env) fp) tg gt) (kt : TgOk X.K X.mg SA gt g) (sv : ∀ j, j ∈ SA → j ∈ own.map (·.2))
    (ht : ∀ (s : Shared) (H : Hp) (C : Addr) (cl : List (Str × Addr)) (fp : List Addr), PTs (X.blk s H scope (compEnvC scope cl C X.env) fp) ifs (TVt X.K X.mg eC W0 S2 t))
    (hk : ∀ (s : Shared) (H : Hp) (C : Addr) (cl : List (Str × Addr)) (fp : List Addr), VE (X.blk s H scope (compEnvC scope cl C X.env) fp) eC W0 S3 kx mk)
    (he : ∀ (s : Shared) (H : Hp) (C : Addr) (cl : List (Str × Addr)) (fp : List Addr), VE (X.blk s H scope (compEnvC scope cl C X.env) fp) eC W0 S4 vx mz) (hs : ∀ x, foldedSetIterable iter X.env x = pure x := by intro _; rfl) :
    VE X eC W (S1 ++ (S2 ++ (S3 ++ S4))) (.DictComp kx vx [⟨tg, iter, ifs, 0⟩] scope pos) (dcM (own.map (·.2)) it g t mk mz) := PE.imp (pe_dc (tk := TV X.K X.mg eC W0 S3 mk) (tv := TV X.K X.mg eC W0 S4 mz) hc hN hi ok hg ht hk he hs) fun σ H Q q => by
  obtain ⟨ρ, F, er, q⟩ := q
  refine ⟨ρ, F, er, ?_⟩
  unfold dcM at q
  cases e1 : it ρ with
  | bad => rw [e1] at q; exact q
  | ex z ρ1 => rw [e1] at q; exact fun dd H' F' er' x g => q dd H' F' er' x (g.more fun j hj => List.mem_append_left _ hj)
  | ok ds ρ1 =>
    rw [e1] at q
    exact fun J H1 F1 hold er1 ga w hh Dd nD => dc_core' (S1 := S1) kt sv w er1 hh nD ga q
/-- len of a dict of one's own -/
def lenDic : D → Option D
  | .dic true ks _ => some (.int ks.length)
  | _ => none
theorem vcl_lenDic {K : PySem.W.Frag} {mg : Str → Option Value} : VCl K mg (fun xs H Q => ∃ a kvs, xs = [V.ref a] ∧ H a = some (.dK kvs) ∧ Q (.int kvs.length) H) (one lenDic) := vcl_one fun d1 d v T H Q e r l q => by
  unfold lenDic at e
  split at e
  · rename_i ks ds
    cases e
    obtain ⟨a, o, kx, xs, rfl, h, ⟨kvs, rfl, rfl, rfl⟩, i, r1, r2⟩ := r
    refine ⟨a, kvs, rfl, h, q _ H E0 ?_ .refl⟩
    have := r1.length
    rw [List.length_map] at this
    rw [this]; exact rfl
  · cases e
end
end VS
set_option Elab.async false
set_option linter.all false
set_option maxRecDepth 100000
set_option maxHeartbeats 4000000
/-! VS23: d[k], {k: v, ..}. -/
namespace VS
open PySem PySem.Spec PyProof.Rows L2
def dicPairs : List D → List D → Option (List (Key × D))
  | [], [] => some []
  | y :: ks, d :: ds => (keyOf y).bind fun k => (dicPairs ks ds).map fun r => (k, d) :: r
  | _, _ => none
def valD (acc : List (Key × D)) (k : Key) : Option D := (acc.find? fun kv => decide (kv.1 = k)).map (·.2)
def dgetD : D → D → Option D
  | .dic _ ks ds, y => (dicPairs ks ds).bind fun acc => (keyOf y).bind fun k => valD acc k
  | _, _ => none
section
variable {K : PySem.W.Frag} {mg : Str → Option Value} {H H' : Hp}
theorem kV_inj {a b : Key} (h : kV a = kV b) : a = b := by
  cases a <;> cases b <;> simp [kV] at h <;> first | (rw [h]) | skip
theorem valD_ok {k : Key} {d : D} : ∀ {ks ds : List D} {acc : List (Key × D)} {kvs : List (Key × V)} {B A : AS}, dicPairs ks ds = some acc → Reps K mg H ks (kvs.map fun p => kV p.1) B → Reps K mg H ds (kvs.map (·.2)) A → valD acc k = some d →
    ∃ v, valV kvs k = some v ∧ Rep K mg H d v A
  | [], [], _, _, _, _, e, _, _, h => by cases e; simp [valD] at h
  | [], _ :: _, _, _, _, _, e, _, _, h => by cases e
  | _ :: _, [], _, _, _, _, e, _, _, h => by cases e
  | y :: ks, c :: ds, acc, kvs, B, A, e, ⟨x, ys, B1, B2, e1, _, _, _, r1, r2⟩, ⟨u, us, A1, A2, e2, s1, s2, _, r3, r4⟩, h => by
    cases kvs with
    | nil => cases e1
    | cons p kvs =>
      rw [List.map_cons] at e1 e2
      injection e1 with e11 e12
      injection e2 with e21 e22
      subst e11 e12 e21 e22
      unfold dicPairs at e
      simp only [Option.bind_eq_some_iff, Option.map_eq_some_iff] at e
      obtain ⟨k', ek, r, er, rfl⟩ := e
      have hk := kV_inj (keyOf_rep ek r1).1
      subst hk
      by_cases c1 : p.1 = k
      · have : d = c := by
          unfold valD at h
          rw [List.find?_cons_of_pos (by simpa using c1)] at h
          exact (Option.some.inj h).symm
        subst this
        exact ⟨p.2, valV_pos c1, r3.mono s1⟩
      · unfold valD at h
        rw [List.find?_cons_of_neg (by simpa using c1)] at h
        obtain ⟨v, h1, h2⟩ := valD_ok er r2 r4 h
        exact ⟨v, by rw [valV_neg c1]; exact h1, h2.mono s2⟩
theorem vop_dget : VOp K mg (fun x y H Q => ∃ a v, x = .ref a ∧ DGet H a y (some v) ∧ Q v H) dgetD := by
  intro d1 d2 d v1 v2 T1 T2 H Q e r1 r2 dj l1 l2 q
  unfold dgetD at e
  split at e
  · rename_i m ks ds
    simp only [Option.bind_eq_some_iff] at e
    obtain ⟨acc, e1, k, e2, e3⟩ := e
    have hv2 := (keyOf_rep e2 r2).1
    have key : ∀ {a : Addr} {kvs : List (Key × V)} {A : AS}, Rd H a (.dK kvs) → Reps K mg H ks (kvs.map fun p => kV p.1) E0 → Reps K mg H ds (kvs.map (·.2)) A → Sub A T1 → ∃ a' v, V.ref a = .ref a' ∧ DGet H a' v2 (some v) ∧ Q v H := fun {a kvs A} hr ra rb s => by
      obtain ⟨v, h1, h2⟩ := valD_ok e1 ra rb e3
      exact ⟨a, v, rfl, .inl ⟨kvs, k, hr, hv2, h1.symm⟩, q v H A h2 (.same (l1.sub s) fun x h => .inl (s x h))⟩
    cases m with
    | true =>
      obtain ⟨a, o, kx, xs, rfl, h, ⟨kvs, rfl, rfl, rfl⟩, i, ra, rb⟩ := r1
      exact key (.inl h) ra rb fun _ h => h.1
    | false =>
      obtain ⟨a, ob, o, kx, xs, rfl, h, ⟨kvs, rfl, rfl, rfl⟩, ra, rb⟩ := r1
      exact key (.inr ⟨ob, h⟩) ra rb Sub.e0
  · cases e
end
section
variable {X : Cx} {eC : Addr} {W : WX} {S S1 S2 S3 : List Nat} {pos : Pos}
theorem ve_dget {a b : Expr} {ma mb : EM} {k : Nat} (hr : Room k X.A) (ha : VE X eC W S1 a ma) (hb : VE X eC W S2 b mb) (hs : NoSl b := by exact fun _ _ => rfl) : VE X eC W (S1 ++ S2) (.Subscript a b pos) (opM dgetD ma mb) :=
  PE.imp (pe_dget (by have := hr.un; omega) ha hb hs) fun σ H Q q => tv_op vop_dget q
/-- the pairs of a display -/
def pairsM : List (EM × EM) → M (List (Key × D))
  | [], ρ => .ok [] ρ
  | (mk, mz) :: r, ρ => (mk ρ).bind fun y ρ1 => (mz ρ1).bind fun z ρ2 => match keyOf y with
    | some k => if pure? z = true then (pairsM r ρ2).bind fun ps ρ3 => .ok ((k, z) :: ps) ρ3 else .bad
    | none => .bad
def dspM (ms : List (EM × EM)) : EM := fun ρ => (pairsM ms ρ).bind fun ps ρ1 => if ps.length ≤ 15 then .ok (dicOf true (ps.foldl (fun acc kv => putKD acc kv.1 kv.2) [])) ρ1 else .bad
/-- keys and values of a display, with their readings -/
def VPs (X : Cx) (eC : Addr) (W : WX) (S : List Nat) (pos : Pos) (keys : List (Option Expr)) (values : List Expr) (ms : List (EM × EM)) : Prop :=
  ∃ trs, PPs X pos keys values trs ∧ ∀ σ H (Q : List (V × V) → Hp → Prop), (∃ ρ F, ER X.K X.mg H ρ σ F ∧ match pairsM ms ρ with
    | .ok ps ρ' => ∀ kvs H' F', ER X.K X.mg H' ρ' σ F' → KRs X.K X.mg H' ps kvs → Aft S H F H' F' → Q (kvs.map fun kv => (kV kv.1, kv.2)) H'
    | .ex z ρ' => ∀ dd H' F', ER X.K X.mg H' ρ' σ F' → H' dd = some (.xd [("reason", .str z)]) → Aft S H F H' F' → W (.ref eC) (some dd) σ H'
    | .bad => False) → tPairs trs σ H Q
theorem vps_nil : VPs X eC W [] pos [] [] [] := ⟨[], pps_nil, fun σ H Q ⟨ρ, F, er, q⟩ => q [] H F er rfl .refl⟩
theorem vps_cons {k v : Expr} {ks : List (Option Expr)} {vs : List Expr} {mk mz : EM} {ms : List (EM × EM)} (hk : VE X eC W S1 k mk) (hv : VE X eC W S2 v mz) (hr : VPs X eC W S3 pos ks vs ms) : VPs X eC W (S1 ++ (S2 ++ S3)) pos (some k :: ks) (v :: vs) ((mk, mz) :: ms) := by
  obtain ⟨trs, pp, h⟩ := hr
  refine ⟨_, pps_cons hk hv pp, fun σ H Q ⟨ρ, F, er, q⟩ => ?_⟩
  refine ⟨ρ, F, er, ?_⟩
  unfold pairsM at q
  have sub2 : ∀ j, j ∈ S1 ++ S2 → j ∈ S1 ++ (S2 ++ S3) := fun j hj => (List.mem_append.mp hj).elim (List.mem_append_left _) fun h => List.mem_append_right _ (List.mem_append_left _ h)
  cases e1 : mk ρ with
  | bad => rw [e1] at q; exact q
  | ex z ρ1 => rw [e1] at q; exact fun dd H' F' er' x g => q dd H' F' er' x (g.more fun j hj => List.mem_append_left _ hj)
  | ok y ρ1 =>
    rw [e1] at q
    intro v1 H1 F1 T1 er1 r1 g1
    refine ⟨ρ1, F1, er1, ?_⟩
    simp only [Res.bind_ok] at q
    cases e2 : mz ρ1 with
    | bad => rw [e2] at q; exact q
    | ex z ρ2 => rw [e2] at q; exact fun dd H' F' er' x g => q dd H' F' er' x ((g1.toAft.trans g).more sub2)
    | ok z ρ2 =>
      rw [e2] at q
      intro v2 H2 F2 T2 er2 r2 g2
      simp only [Res.bind_ok] at q
      cases e3 : keyOf y with
      | none => rw [e3] at q; exact q.elim
      | some k =>
        rw [e3] at q
        dsimp only at q
        by_cases c : pure? z = true
        · rw [if_pos c] at q
          have g12 := g1.toAft.trans g2.toAft
          refine h σ H2 _ ⟨ρ2, F2, er2, ?_⟩
          cases e4 : pairsM ms ρ2 with
          | bad => rw [e4] at q; exact q
          | ex z ρ3 => rw [e4] at q; exact fun dd H' F' er' x g => q dd H' F' er' x (by rw [← List.append_assoc]; exact g12.trans g)
          | ok ps ρ3 =>
            rw [e4] at q
            intro kvs H3 F3 er3 rk g3
            have hv1 := (keyOf_rep e3 r1).1
            subst hv1
            have rz : Rep X.K X.mg H3 z v2 E0 := Rep.keep z (Rep.fixed z c r2) (g3.s.kp0 er2)
            exact q ((k, v2) :: kvs) H3 F3 er3 ⟨v2, kvs, rfl, rz, rk⟩ (by rw [← List.append_assoc]; exact g12.trans g3)
        · rw [if_neg c] at q; exact q.elim
theorem KRs.merge {K : PySem.W.Frag} {mg : Str → Option Value} {H : Hp} : ∀ (ps : List (Key × D)) (kvs : List (Key × V)) (acc : List (Key × D)) (kva : List (Key × V)), KRs K mg H ps kvs → KRs K mg H acc kva → KRs K mg H (ps.foldl (fun acc kv => putKD acc kv.1 kv.2) acc) (mergeK kva kvs)
  | [], _, _, _, h, h' => by cases h; exact h'
  | p :: ps, _, acc, kva, ⟨v, r, e, h1, h2⟩, h' => by
    subst e
    exact KRs.merge ps r _ _ h2 (KRs.put h1 h')
theorem ve_dsp {keys : List (Option Expr)} {values : List Expr} {ms : List (EM × EM)} (h : VPs X eC W S pos keys values ms) (hall : keys.all (·.isSome) = true := by rfl) (hl : keys.length = values.length := by rfl) (h0 : keys ≠ [] := by simp)
    (h15 : keys.length ≤ 15 := by decide) : VE X eC W S (.Dict keys values pos) (dspM ms) := by
  obtain ⟨trs, pp, h⟩ := h
  refine PE.imp (pe_disp pp hall hl h0 h15) fun σ H Q ⟨ρ, F, er, q⟩ => fun p np => h σ _ _ ?_
  have t0 : AftT E0 H (upd H p (.dK [])) E0 := ⟨fun a o e _ => by rw [upd_ne (by rintro rfl; rw [np] at e; cases e)]; exact e, fun _ h => h.elim, fun _ h => h.elim, fun a e => by
    by_cases z : a = p
    · subst z; exact np
    · rw [upd_ne z] at e; exact e⟩
  have nF : ∀ j, ¬ F j p := fun j x => by
    obtain ⟨u, e, _⟩ := er.live j p x
    rw [np] at e; cases e
  have er1 := er.step Live.e0 (fun _ => Dj.e0) t0
  refine ⟨ρ, F, er1, ?_⟩
  have g0 : Aft [] H F (upd H p (.dK [])) F := ⟨fun a o e _ => t0.keep a o e id, fun j _ => Sub.rfl, fun j h => absurd h (by simp), t0.dom⟩
  unfold dspM at q
  cases e1 : pairsM ms ρ with
  | bad => rw [e1] at q; exact q
  | ex z ρ1 => rw [e1] at q; exact fun dd H' F' er' x g => q dd H' F' er' x (by simpa using g0.trans g)
  | ok ps ρ1 =>
    rw [e1] at q
    intro kvs H1 F1 e2 rk g
    simp only [Res.bind_ok] at q
    by_cases c : ps.length ≤ 15
    · rw [if_pos c] at q
      have hp : H1 p = some (.dK []) := g.keep p _ upd_same fun j _ => nF j
      refine ⟨hp, kvs, rfl, by rw [rk.length]; exact c, ?_⟩
      have nF1 : ∀ j, ¬ F1 j p := fun j h => by
        rcases g.back h with ⟨k, _, x⟩ | x | x
        · exact nF k x
        · exact nF j x
        · rw [upd_same] at x; cases x
      have kD : ∀ {A : AS} {o : HO}, ¬ A p → Kp A H1 (upd H1 p o) := fun {A o} n => kp_upd n hp trivial
      have g1 : Aft S H F H1 F1 := by simpa using g0.trans g
      refine q (.ref p) _ F1 (fun a => a = p) ⟨e2.len, fun j d' e' => ?_, e2.dj, fun j => (e2.live j).keep (kD (nF1 j))⟩ (KRs.dic (KRs.merge ps kvs [] [] (KRs.keep (kD id) rk) rfl) upd_same rfl) ⟨⟨fun a o e n => ?_, g1.same, g1.sub, fun a e => ?_⟩, fun a h => .inr (by rw [show a = p from h]; exact np), fun j a h x => nF1 j ((show a = p from h) ▸ x), fun a h => ⟨.dK (mergeK [] kvs), by rw [show a = p from h]; exact upd_same, trivial⟩⟩
      · obtain ⟨o, e4, r4⟩ := e2.get j d' e'
        refine ⟨o, e4, ?_⟩
        cases o with
        | none => exact r4
        | some v' => exact Rep.keep d' r4 (kD (nF1 j))
      · rw [upd_ne (by rintro rfl; rw [np] at e; cases e)]; exact g1.keep a o e n
      · by_cases zz : a = p
        · subst zz; exact np
        · rw [upd_ne zz] at e; exact g1.dom a e
    · rw [if_neg c] at q; exact q.elim
end
end VS
set_option Elab.async false
set_option linter.all false
set_option maxRecDepth 100000
set_option maxHeartbeats 4000000
/-! VS24: list(range(..)), a module's dict of constants. -/
namespace VS
open PySem PySem.Spec PyProof.Rows L2
def rgLD : D → D → Option D
  | .int i, .int j => if -1000000 ≤ i ∧ i ≤ 1000000 ∧ -1000000 ≤ j ∧ j ≤ 1000000 then some (.lst true (rangeD i (j - i).toNat)) else none
  | _, _ => none
section
variable {K : PySem.W.Frag} {mg : Str → Option Value} {H : Hp}
theorem reps_rg (i j : Int) : Reps K mg H (rangeD i (j - i).toNat) (rgV i j) E0 := by
  have := reps_ints (K := K) (mg := mg) (H := H) ((List.range (j - i).toNat).map fun k => i + (k : Nat))
  rw [List.map_map, List.map_map] at this
  exact this
theorem rg_ok {i j : Int} {d : D} {Q : VK} {A : AS} (l : Live H A) (e : rgLD (.int i) (.int j) = some d) (q : ∀ v H' T, Rep K mg H' d v T → AftT A H H' T → Q v H') : RgOk i j ∧ ∀ p, H p = none → Q (.ref p) (upd H p (.lst (rgV i j))) := by
  have e' : (if -1000000 ≤ i ∧ i ≤ 1000000 ∧ -1000000 ≤ j ∧ j ≤ 1000000 then some (D.lst true (rangeD i (j - i).toNat)) else none) = some d := e
  split at e'
  · rename_i h
    cases e'
    refine ⟨⟨by omega, by omega, by omega, by omega, by omega⟩, fun p np => ?_⟩
    exact q _ _ (fun a => E0 a ∨ a = p) ⟨p, _, rfl, upd_same, .inr rfl, (reps_rg i j).mono Sub.e0⟩ (.new np trivial Live.e0 Sub.e0)
  · cases e'
theorem vop_rgL : VOp K mg (fun x y H Q => ∃ i j, x = .int i ∧ y = .int j ∧ (RgOk i j ∧ ∀ p, H p = none → Q (.ref p) (upd H p (.lst (rgV i j))))) rgLD := by
  intro d1 d2 d v1 v2 T1 T2 H Q e r1 r2 dj l1 l2 q
  cases d1 with
  | int i => cases d2 with
    | int j => exact ⟨i, j, r1, r2, rg_ok (l1.un l2) e q⟩
    | _ => cases e
  | _ => cases e
theorem vun_rgL : VUn K mg (fun x H Q => ∃ n, x = .int n ∧ (RgOk 0 n ∧ ∀ p, H p = none → Q (.ref p) (upd H p (.lst (rgV 0 n))))) (rgLD (.int 0)) := by
  intro d1 d v1 T1 H Q e r l q
  cases d1 with
  | int j => exact ⟨j, r, rg_ok l e q⟩
  | _ => cases e
end
section
variable {X : Cx} {eC : Addr} {W : WX} {S S1 S2 : List Nat} {p p1 pos pos1 : Pos}
theorem ve_lrng1 {a : Expr} {m : EM} (hc : X.calm = true) (hg : Gl X "list") (hm : X.mg "list" = none) (hg1 : Gl X "range") (hm1 : X.mg "range" = none) (ha : VE X eC W S a m)
    (na : starEach [a] X.env = (false, eval a X.env) :: starEach [] X.env := by rfl)
    (nb : starEach [.Call (.Name "range" p1) [a] [] pos1] X.env = (false, eval (.Call (.Name "range" p1) [a] [] pos1) X.env) :: starEach [] X.env := by rfl) :
    VE X eC W S (.Call (.Name "list" p) [.Call (.Name "range" p1) [a] [] pos1] [] pos) (unM (rgLD (.int 0)) m) := PE.imp (pe_listRg hc hg hm (prg_1 hg1 hm1 ha na) nb) fun σ H Q q => tv_un vun_rgL q
theorem ve_lrng2 {a b : Expr} {ma mb : EM} (hc : X.calm = true) (hg : Gl X "list") (hm : X.mg "list" = none) (hg1 : Gl X "range") (hm1 : X.mg "range" = none) (ha : VE X eC W S1 a ma) (hb : VE X eC W S2 b mb)
    (na : starEach [a, b] X.env = (false, eval a X.env) :: starEach [b] X.env := by rfl) (na2 : starEach [b] X.env = (false, eval b X.env) :: starEach [] X.env := by rfl) (hp : (backTo pos1 (starEach [b] X.env)).any (·.1) = false := by rfl)
    (nb : starEach [.Call (.Name "range" p1) [a, b] [] pos1] X.env = (false, eval (.Call (.Name "range" p1) [a, b] [] pos1) X.env) :: starEach [] X.env := by rfl) :
    VE X eC W (S1 ++ S2) (.Call (.Name "list" p) [.Call (.Name "range" p1) [a, b] [] pos1] [] pos) (opM rgLD ma mb) := PE.imp (pe_listRg hc hg hm (prg_2 hg1 hm1 ha hb na na2 hp) nb) fun σ H Q q => tv_op vop_rgL q
/-! ### a dict of constants that the module holds -/
def KDs (K : PySem.W.Frag) (w : World) (mg : Str → Option Value) (x : Str) (tbl : List (Str × D)) : Prop := ∃ a, mg x = some (.ref a) ∧ ∀ z d, tbl.lookup z = some d → ∃ v, KDct K w a z v ∧ ∀ H, Rep K mg H d v E0
def kdM (tbl : List (Str × D)) (m : EM) : EM := fun ρ => (m ρ).bind fun d ρ1 => match d with
  | .str z => Res.of (tbl.lookup z) ρ1
  | _ => .bad
def kdD (tbl : List (Str × D)) : D → Option D
  | .str z => tbl.lookup z
  | _ => none
theorem ve_kd {x : Str} {b : Expr} {mb : EM} {tbl : List (Str × D)} (hg : Gl X x) (h : KDs X.K X.w X.mg x tbl) (hb : VE X eC W S b mb) (hs : PlainIx b := by exact fun _ _ => rfl) (hd : (x == ("__debug__" : Str)) = false := by decide) :
    VE X eC W S (.Subscript (.Name x p) b pos) (unM (kdD tbl) mb) := by
  obtain ⟨a, hm, h⟩ := h
  refine PE.imp (pe_ix ix_kdict (pe_glob (v := .ref a) hg hm rfl hd) hb hs) fun σ H Q q => ?_
  refine tv_un (r := fun v H Q => rIxD X.K X.w (.ref a) v H Q) (f := kdD tbl) (fun d1 d v T1 H Q e r l q => ?_) q
  cases d1 with
  | str z =>
    obtain ⟨v', k, rv⟩ := h z d e
    exact ⟨a, z, v', rfl, r, k, q v' H E0 (rv H) .refl⟩
  | _ => cases e
end
end VS
set_option Elab.async false
set_option linter.all false
set_option maxRecDepth 100000
set_option maxHeartbeats 4000000
/-! VS25: the end: a law whose mirror answers True at every script. -/
namespace VS
open PySem PySem.Spec PyProof.Rows L2
/-- the law's promise, at a script of ints -/
def spL (n : Nat) (K : PySem.W.Frag) : Sp := fun vs H Q E => ∃ (a : Addr) (ns : List Int), vs = [.ref a] ∧ SqL K H a (ns.map V.int) ∧ Only H ∧ ns.length ≤ n ∧ ∀ H', Q (.bl true) H'
theorem rol_of {K : PySem.W.Frag} {mg : Str → Option Value} {H : Hp} {a : Addr} {ns : List Int} (hO : Only H) (h : SqL K H a (ns.map V.int)) : Rep K mg H (.rol (ns.map D.int)) (.ref a) E0 := by
  refine ⟨a, ns.map V.int, rfl, ?_, reps_ints ns⟩
  rcases h with (h | h) | h
  · rcases hO a with e | ⟨o, xs, e⟩
    · rw [e] at h; cases h
    · rw [e] at h; cases h
  · exact .inl h
  · exact .inr h
theorem fnOk_law {P : Program} {w : World} {K : PySem.W.Frag} {mg : Str → Option Value} {base : Heap} {eC f : Addr} {fd : FuncData} {x : Str} {k n : Nat} {fm : FM} (F : Df P w K mg base eC k f fd [x] fm)
    (hl : ∀ ns : List Int, ns.length ≤ n → ∃ es, fm [.rol (ns.map D.int)] = .ok (.bl true) es) : FnOk P w K mg base (L2.CX P w) k f fd [x] (spL n K) :=
  F.ok.imp fun vs H Q E ⟨a, ns, e, hs, hO, hn, q⟩ => by
    subst e
    obtain ⟨es, e⟩ := hl ns hn
    refine ⟨[.rol (ns.map D.int)], E0, rfl, Reps.sing (rol_of hO hs), Live.e0, ?_⟩
    rw [e]
    intro v H' T1 T2 rv _ _ _
    have ev : v = .bl true := rv
    subst ev
    exact q H'
theorem walkV {l : PySem.W.OpenLaw} {n k : Nat} {q : Program} {loose : List Str} {XP : (Str → Option Value) → Heap → Prop} {YP : World → Heap → Prop} {d : DefRec} {K : Params → PySem.W.Frag} {x : Str} (hn : l.most = some n) (hn2 : n ≤ sizeLine) (hdf : d.params.defaults = []) (hr : Room k callerA)
    (hY : ∀ (w : World) (h : Heap), YP w h → (K w.params).In h)
    (F : ∀ (w : World) (mg : Str → Option Value) (fa : Addr) (h : Heap), (K w.params).In h → h.Ns mainGlobals mg → mg d.name = some (.ref fa) →
      ∃ fd : FuncData, (∀ (s : Shared) (u : Value), BindsTo s fd ⟨[u], []⟩ [(x, u)]) ∧ ∀ base : Heap, (K w.params).In base → base.Ns mainGlobals mg → FnOk l.prog w (K w.params) mg base (L2.CX l.prog w) k fa fd [x] (spL n (K w.params))) :
    PySem.W.WalkO q loose XP YP l.row.toRowW d [] (fun f vs => PySem.call f vs) :=
  L2.walk_of (n := n) (k := k) (x := x) (CX := fun w => L2.CX l.prog w) (sp := fun w => spL n (K w.params)) hn hn2 hdf hr hY F (fun _ _ a ns hl hO hS => ⟨a, ns, rfl, hS, hO, hl, fun _ => rfl⟩) fun w H s e s' z => by
    obtain ⟨_, _, _, _, _, _, _, _, _, _, _, _, z⟩ := z
    exact z
end VS
set_option Elab.async false
set_option linter.all false
set_option maxRecDepth 100000
set_option maxHeartbeats 4000000
/-! VS26: facts of the module's constants. -/
namespace VS
open PySem PySem.Spec PyProof.Rows L2
section
variable {K : PySem.W.Frag} {a : Addr}
/-- the items of a tuple of the written part -/
inductive KReps (K : PySem.W.Frag) : List D → List V → List Value → Prop where
  | nil : KReps K [] [] []
  | cons {d : D} {v : V} {u : Value} {ds : List D} {vs : List V} {us : List Value} : KRep K d v u → KReps K ds vs us → KReps K (d :: ds) (v :: vs) (u :: us)
theorem KReps.vals : ∀ {ds : List D} {vs : List V} {us : List Value}, KReps K ds vs us → Vals vs us
  | _, _, _, .nil => .nil
  | _, _, _, .cons h t => .cons h.rel t.vals
theorem KReps.reps {mg : Str → Option Value} {H : Hp} : ∀ {ds : List D} {vs : List V} {us : List Value}, KReps K ds vs us → Reps K mg H ds vs E0
  | _, _, _, .nil => rfl
  | _, _, _, .cons h t => ⟨_, _, E0, E0, rfl, Sub.rfl, Sub.rfl, Dj.e0, h.rep, t.reps⟩
theorem krep_tup {ds : List D} {vs : List V} {us : List Value} {o : Obj} {its : Array Value} {n : Nat} (l : K.lookup a = some o) (hc : o.cls = .type "tuple") (hdat : o.data = .seq its n) (hi : its.toList = us) (hz : its.size ≤ sizeLine) (h : KReps K ds vs us) : KRep K (.tup ds) (.ref a) (.ref a) :=
  .tup (xs := vs) (fun H => by
    subst hi
    exact .inr ⟨o, its, n, l, hc, hdat, hz, h.vals⟩) fun H mg => h.reps
end
end VS
set_option Elab.async false
set_option linter.all false
set_option maxRecDepth 100000
set_option maxHeartbeats 4000000
/-! VS27: DragError's facts from the written part, each closed by k_is. -/
namespace VS
open PySem PySem.W PySem.Calls PySem.Spec PyProof.Rows PySem.HandSPX L2
theorem exm_self {K : Frag} {S : Addr} (h1 : subIn K (.ref S) (.type "BaseException") = some true) (h2 : isClsIn K S = true) (h3 : typeIn K (.ref S) = some (.type "type")) (h4 : subIn K (.ref S) (.ref S) = some true) : exmOne K (.ref S) (.ref S) = some true := by
  have e1 : (subIn K (.ref S) (.type "BaseException") == some true) = true := by rw [h1] <;> rfl
  have e2 : ((clsIn K S).isSome && typeIn K (.ref S) == some (.type "type")) = true := by
    have h2' : (clsIn K S).isSome = true := h2
    rw [h2', h3] <;> rfl
  show (if (subIn K (.ref S) (.type "BaseException") == some true) = true then (if ((clsIn K S).isSome && typeIn K (.ref S) == some (.type "type")) = true then subIn K (.ref S) (.ref S) else none) else none) = some true
  rw [if_pos e1, if_pos e2]
  exact h4
theorem along_ve (K : Frag) : alongIn K "__init__" [.type "ValueError", .type "Exception", .type "BaseException", .type "object"] = some (some (.builtin "ValueError.__init__")) := by kernel_rfl
theorem dg_mk {P : Program} {K : Frag} {h : Heap} {mg : Str → Option Value} {C fI : Addr} (X : K.In h) (G : h.Ns mainGlobals mg) (top : (P.main.scope.names.lookup ("super" : Str)).isSome = false)
    (aC : nsIn K mainGlobals "DragError" = some (some (.ref C))) (aS : nsIn K mainGlobals "super" = some none) (opq : nsIn K cStatics "thirdparty.any" = some none)
    {nm q : Str} {N : Addr} {bs : List Value} {sn : List Str} {sub : List Value} {ab : Bool} {col : Option Bool} {dd : Option Addr} {m0 m1 m2 m3 m5 : Option Value}
    (xL : K.lookup C = some (excClassObj nm q C N bs [.type "ValueError", .type "Exception", .type "BaseException", .type "object"] true sn sub ab col dd m0 m1 m2 m3 m5 "ValueError.__new__"))
    (al : alongIn K "__init__" [.type "ValueError", .type "Exception", .type "BaseException", .type "object"] = some (some (.builtin "ValueError.__init__")))
    (veC : subIn K (.ref C) (.type "ValueError") = some true)
    (sa : findIn K (.ref C) "__setattr__" = some (some (.builtin "object.__setattr__"))) (ga : findIn K (.ref C) "__getattribute__" = some (some (.builtin "BaseException.__getattribute__"))) (gg : findIn K (.ref C) "__getattr__" = some none) (noN : findIn K (.ref C) "reason" = some none)
    (iC : findIn K (.ref C) "__init__" = some (some (.ref fI))) (tC : typeIn K (.ref fI) = some (.type "function")) (kC : keepIn K (.ref C) = true) (exC : subIn K (.ref C) (.type "BaseException") = some true) (tyC : typeIn K (.ref C) = some (.type "type")) (hdC : hasDictIn K C = true) (icC : isClsIn K C = true) (scC : subIn K (.ref C) (.ref C) = some true)
    {oc : Value} {od : Option Addr} {doc pm : Value} {an : Option Addr} {cda cc : Addr} {ct : Value} {osl : Array (Option Value)} {p1 p2 q7 q8 q9 q10 : Pos} {ccl cl : Value} {cdd cld : Option Addr} {ccs csl : Array (Option Value)} {vs : Array Value} {file : Str} {tf : Tok} {l : Nat}
    (hlf : K.lookup fI = some ⟨oc, od, .func (ksFn "__init__" "DragError.__init__" (dgA p1 p2) (dgB l q7 q8 q9 q10) dgS .none .none doc pm an (.ref cda) ct cc), osl⟩) (hcd : codeIn K (.ref cda) "DragError.__init__" = true)
    (hcda : K.lookup cda = some ⟨ccl, cdd, .fields vs, ccs⟩) (hvs : vs[2]? = some (.str file tf)) (hfile : ((P.main.file : Str) == file) = true) (hcc : K.lookup cc = some ⟨cl, cld, .cell (some (.ref C)), csl⟩) (h58 : l = 5 ∨ l = 8) : DgTxt P K mg C fI where
  gC := mg_of X G aC
  gS := mg_none_of X G aS
  top := top
  opq := opq
  cls := ⟨nm, q, N, bs, _, sn, sub, ab, col, dd, m0, m1, m2, m3, m5, xL, by decide +kernel⟩
  sup := by
    have hcl : clsIn K C = some { name := nm, bases := bs, mro := .ref C :: [.type "ValueError", .type "Exception", .type "BaseException", .type "object"], ns := N, qualname := q, hasDict := true, slotNames := sn, subclasses := sub, abstract := ab, collection := col, hasDel := false } := by unfold clsIn; rw [xL] <;> rfl
    unfold ks_superIn
    rw [hcl]
    have e : ((Value.ref C :: [.type "ValueError", .type "Exception", .type "BaseException", .type "object"]).dropWhile (· != .ref C)).drop 1 = [.type "ValueError", .type "Exception", .type "BaseException", .type "object"] := by simp [List.dropWhile_cons]
    show alongIn K "__init__" (((Value.ref C :: [.type "ValueError", .type "Exception", .type "BaseException", .type "object"]).dropWhile (· != .ref C)).drop 1) = _
    rw [e]
    exact al
  veC := veC
  mC := by
    have hcl : clsIn K C = some { name := nm, bases := bs, mro := .ref C :: [.type "ValueError", .type "Exception", .type "BaseException", .type "object"], ns := N, qualname := q, hasDict := true, slotNames := sn, subclasses := sub, abstract := ab, collection := col, hasDel := false } := by unfold clsIn; rw [xL] <;> rfl
    unfold mroIn
    rw [hcl]
    simp
  sa := sa
  ga := ga
  gg := gg
  noN := noN
  iC := iC
  tC := tC
  kC := kC
  exC := exC
  tyC := tyC
  hdC := hdC
  te := exm_self exC icC tyC scC
  fn := ⟨oc, od, doc, pm, an, cda, cc, ct, osl, l, p1, p2, q7, q8, q9, q10, ccl, cl, cdd, cld, ccs, csl, vs, file, tf, hlf, hcd, hcda, hvs, hfile, hcc, h58⟩
end VS
set_option Elab.async false
set_option linter.all false
set_option maxRecDepth 100000
set_option maxHeartbeats 4000000
/-! VS28: a module's dict of constants, from the written part. -/
namespace VS
open PySem PySem.Spec PyProof.Rows L2
inductive KTbl (K : PySem.W.Frag) (a : Addr) : List (Str × D) → Prop where
  | nil : KTbl K a []
  | cons {z : Str} {u : Value} {d : D} {v : V} {tbl : List (Str × D)} : PySem.W.nsIn K a z = some (some u) → KRep K d v u → KTbl K a tbl → KTbl K a ((z, d) :: tbl)
theorem kds_of {K : PySem.W.Frag} {w : World} {mg : Str → Option Value} {a : Addr} {es : Array DictEntry} {n : Nat} (hl : K.lookup a = some ⟨.type "dict", none, .dict es n, #[]⟩) (hk : PySem.W.KeysLit w.params es.toList) : ∀ {tbl : List (Str × D)}, KTbl K a tbl →
    ∀ z d, tbl.lookup z = some d → ∃ v, KDct K w a z v ∧ ∀ H, Rep K mg H d v E0
  | _, .nil, z, d, h => by simp at h
  | _, .cons (z := z0) (u := u) (d := d0) (v := v) e r t, z, d, h => by
    by_cases c : z = z0
    · subst c
      simp [List.lookup] at h
      subst h
      exact ⟨v, ⟨es, n, u, hl, hk, e, r.rel⟩, fun H => r.rep⟩
    · have c' : (z == z0) = false := by simpa using c
      simp [List.lookup, c'] at h
      exact kds_of hl hk t z d h
end VS
set_option Elab.async false
set_option linter.all false
set_option maxRecDepth 100000
set_option maxHeartbeats 4000000
/-! VS29: sorted of data of any kind, any length. -/
namespace VS
open PySem PySem.Spec PyProof.Rows L2
def tP (d : D) : PyData := (toP d).getD .none
def ltS (a b : D) : Bool := PySem.W.dataLt (tP a) (tP b)
def sortDs (ds : List D) : List D := ds.mergeSort (fun a b => !ltS b a)
def tupNE : D → Bool
  | .tup (_ :: _) => true
  | _ => false
def notNT : D → Bool
  | .tup _ => false
  | .non => false
  | _ => true
def sortOk (ds : List D) : Bool := pures? ds && (toPs ds).isSome && ds.all (fun a => decide ((tP a).depth ≤ 60) && ds.all fun b => PySem.W.alike (tP a) (tP b)) && (ds.all tupNE || ds.all notNT)
def sortedG : D → Option D := fun d => (isLst d).bind fun ds => if sortOk ds then some (.lst true (sortDs ds)) else none
section
variable {K : PySem.W.Frag} {mg : Str → Option Value} {H H' : Hp}
theorem toPs_each : ∀ {ds : List D} {ps : List PyData}, toPs ds = some ps → ∀ d ∈ ds, toP d = some (tP d)
  | [], _, _, d, h => by cases h
  | c :: ds, ps, e, d, h => by
    unfold toPs at e
    rw [Option.bind_eq_some_iff] at e
    obtain ⟨p, e1, e⟩ := e
    rw [Option.map_eq_some_iff] at e
    obtain ⟨qs, e2, _⟩ := e
    rcases List.mem_cons.mp h with rfl | h
    · unfold tP; rw [e1]; rfl
    · exact toPs_each e2 d h
theorem tP_tup {d : D} (h : toP d = some (tP d)) (t : tupNE d = true) : ∃ x r, tP d = .tuple (x :: r) := by
  unfold tupNE at t
  split at t
  · rename_i a ds
    unfold toP at h
    rw [Option.map_eq_some_iff] at h
    obtain ⟨ps, e, h⟩ := h
    unfold toPs at e
    rw [Option.bind_eq_some_iff] at e
    obtain ⟨p, e1, e⟩ := e
    rw [Option.map_eq_some_iff] at e
    obtain ⟨qs, e2, rfl⟩ := e
    exact ⟨p, qs, h.symm⟩
  · cases t
theorem tP_not {d : D} (h : toP d = some (tP d)) (t : notNT d = true) : tP d ≠ .none ∧ ∀ xs, tP d ≠ .tuple xs := by
  cases d with
  | tup => cases t
  | non => cases t
  | un => simp [toP] at h
  | bl b => simp [tP, toP]
  | int i => simp [tP, toP]
  | str x => simp [tP, toP]
  | dic => simp [toP] at h
  | obj => simp [toP] at h
  | lst m ds =>
    simp only [toP, Option.map_eq_some_iff] at h
    obtain ⟨ps, _, h⟩ := h
    rw [← h]; simp
  | rol ds =>
    simp only [toP, Option.map_eq_some_iff] at h
    obtain ⟨ps, _, h⟩ := h
    rw [← h]; simp
def rSortG (K : PySem.W.Frag) (mg : Str → Option Value) : List V → Hp → VK → Prop := fun vs H Q => ∃ (a : Addr) (xs : List V) (ds : List D), vs = [V.ref a] ∧ SqL K H a xs ∧ Reps K mg H ds xs E0 ∧ sortOk ds = true ∧
  ∀ (ys : List V) (p : Addr), Reps K mg H (sortDs ds) ys E0 → H p = none → Q (.ref p) (upd H p (.lst ys))
theorem vals_each {X : Cx} {pins : List (Addr × Obj)} {σ : L2.St} {s : Shared} (I : Inv X pins σ H s) : ∀ {ds : List D} {xs : List V} {us : List Value}, Reps X.K X.mg H ds xs E0 → Vals xs us → (∀ d ∈ ds, toP d = some (tP d)) →
    PySem.W.EachIs (fun (u : Value) (b : V × D) => RelV b.1 u ∧ Rep X.K X.mg H b.2 b.1 E0) us (xs.zip ds) ∧ PySem.W.EachIs (fun (u : Value) (b : V × D) => ∃ as, Reads s.heap u (tP b.2) as) us (xs.zip ds) ∧ xs.length = ds.length
  | [], _, _, r, v, _ => by
    cases r
    cases v
    exact ⟨.nil, .nil, rfl⟩
  | d :: ds, _, us, r, v, h => by
    obtain ⟨x, ys, A1, A2, rfl, s1, s2, _, r1, r2⟩ := r
    cases v with
    | cons rv vs =>
      obtain ⟨h1, h2, h3⟩ := vals_each I (r2.mono s2) vs fun d hd => h d (List.mem_cons_of_mem _ hd)
      have hd := h d (List.mem_cons_self)
      exact ⟨.cons ⟨rv, r1.mono s1⟩ h1, .cons (Dp.reads I _ _ _ (Rep.dp d r1 hd) rv) h2, by simp [h3]⟩
theorem each_out : ∀ {bs : List (V × D)} {out : List Value}, PySem.W.EachIs (fun (u : Value) (b : V × D) => RelV b.1 u ∧ Rep K mg H b.2 b.1 E0) out bs → Vals (bs.map (·.1)) out ∧ Reps K mg H (bs.map (·.2)) (bs.map (·.1)) E0
  | _, _, .nil => ⟨.nil, rfl⟩
  | _, _, .cons h t => by
    obtain ⟨h1, h2⟩ := each_out t
    exact ⟨.cons h.1 h1, _, _, E0, E0, rfl, Sub.rfl, Sub.rfl, Dj.e0, h.2, h2⟩
theorem cr_sortG {X : Cx} (hu : X.A.units + 65 < cLine) : CallR X (.builtin "sorted") (rSortG X.K X.mg) := by
  intro pins s σ H vs us Q I r h
  obtain ⟨a, xs, ds, rfl, hs, hr, ok, q⟩ := h
  obtain ⟨its, rv, hl, hz⟩ := I.list hs
  obtain ⟨u, rfl, ru⟩ := vals1 r
  obtain rfl : u = Value.ref a := ru
  unfold sortOk at ok
  simp only [Bool.and_eq_true, List.all_eq_true, Bool.or_eq_true, decide_eq_true_eq] at ok
  obtain ⟨⟨⟨_, h1⟩, h2⟩, h3⟩ := ok
  obtain ⟨ps, h1⟩ := Option.isSome_iff_exists.mp h1
  have ht := toPs_each h1
  obtain ⟨e1, e2, el⟩ := vals_each I hr rv ht
  have hzip : (xs.zip ds).map (·.2) = ds := by rw [List.map_snd_zip]; omega
  have mem2 : ∀ b ∈ xs.zip ds, b.2 ∈ ds := fun b hb => (List.of_mem_zip (a := b.1) (b := b.2) hb).2
  refine PySem.W.sorted_data (enc := fun b : V × D => tP b.2) hl.isList e1 e2 ?_ ?_ ?_ ?_ fun out ol eo => ?_
  · intro p hp p' hp'
    obtain ⟨b, hb, rfl⟩ := List.mem_map.mp hp
    obtain ⟨b', hb', rfl⟩ := List.mem_map.mp hp'
    exact (h2 _ (mem2 b hb)).2 _ (mem2 b' hb')
  · rcases h3 with h3 | h3
    · exact .inl fun p hp => by
        obtain ⟨b, hb, rfl⟩ := List.mem_map.mp hp
        exact tP_tup (ht _ (mem2 b hb)) (h3 _ (mem2 b hb))
    · exact .inr fun p hp => by
        obtain ⟨b, hb, rfl⟩ := List.mem_map.mp hp
        exact tP_not (ht _ (mem2 b hb)) (h3 _ (mem2 b hb))
  · rw [List.length_zip]
    have := hz
    omega
  · intro b hb
    have := (h2 _ (mem2 b hb)).1
    omega
  · obtain ⟨v1, r1⟩ := each_out eo
    have em : ((xs.zip ds).mergeSort (PySem.W.dataLe false fun b : V × D => tP b.2)).map (·.2) = sortDs ds := by
      unfold sortDs
      rw [List.map_mergeSort (r := PySem.W.dataLe false fun b : V × D => tP b.2) (s := fun a b => !ltS b a) (f := fun b : V × D => b.2) (fun _ _ _ _ => rfl), hzip]
    rw [em] at r1
    obtain ⟨ep, he'⟩ := PyProof.Rows.sortedAll_at s.heap its out.toArray
    have hlen : (((xs.zip ds).mergeSort (PySem.W.dataLe false fun b : V × D => tP b.2)).map (·.1)).length ≤ sizeLine := by
      rw [List.length_map, List.length_mergeSort, List.length_zip]
      omega
    exact ⟨.ref _, upd H (s.heap.objs.size + 1) (.lst (((xs.zip ds).mergeSort (PySem.W.dataLe false fun b : V × D => tP b.2)).map (·.1))), I.laid (t' := s.toks) (fun _ _ => PyProof.Rows.sortedAll_old) (Nat.le_succ _) ⟨hlen, out, ep, v1, he'⟩, rfl, q _ _ r1 (I.hok.fresh (Nat.le_succ _))⟩
theorem vcl_sortG : VCl K mg (rSortG K mg) (one sortedG) := vcl_one fun d1 d v T H Q e r l q => by
  simp only [sortedG, Option.bind_eq_some_iff] at e
  obtain ⟨ds, e1, e⟩ := e
  split at e
  · rename_i h
    cases e
    obtain ⟨a, xs, rfl, s, r⟩ := r.lsts e1
    have hp : pures? ds = true := by
      have h' := h
      unfold sortOk at h'
      simp only [Bool.and_eq_true] at h'
      exact h'.1.1.1
    refine ⟨a, xs, ds, rfl, s, Reps.fixed ds hp r, h, fun ys p ry np => ?_⟩
    exact q _ _ (fun a => E0 a ∨ a = p) ⟨p, _, rfl, upd_same, .inr rfl, (Reps.keep _ ry (kp_new np)).mono Sub.e0⟩ (.new np trivial Live.e0 Sub.e0)
  · cases e
end
end VS
set_option Elab.async false
set_option linter.all false
set_option maxRecDepth 100000
set_option maxHeartbeats 4000000
/-! VS30: list.insert, o.f += e, targets that are fields, is True, name += e. -/
namespace VS
open PySem PySem.Spec PyProof.Rows L2
/-! ### insert -/
def rIns : V → List V → Hp → VK → Prop := fun x vs H Q => ∃ (l : Addr) (xs : List V) (i : Int) (y : V), x = .ref l ∧ vs = [.int i, y] ∧ H l = some (.lst xs) ∧ xs.length < sizeLine ∧ 0 ≤ i ∧ i < 2 ^ 63 ∧
    Q .non (upd H l (.lst (xs.take i.toNat ++ [y] ++ xs.drop i.toNat)))
def insF : List D → List D → Option (D × List D)
  | ds, [.int i, d] => if 0 ≤ i ∧ i < 1000000 ∧ ds.length < big then some (.non, ds.take i.toNat ++ [d] ++ ds.drop i.toNat) else none
  | _, _ => none
section
variable {K : PySem.W.Frag} {mg : Str → Option Value} {H H' : Hp}
theorem Reps.split2 : ∀ {ds : List D} {xs : List V} {A : AS} (n : Nat), Reps K mg H ds xs A → ∃ A1 A2, Sub A1 A ∧ Sub A2 A ∧ Dj A1 A2 ∧ Reps K mg H (ds.take n) (xs.take n) A1 ∧ Reps K mg H (ds.drop n) (xs.drop n) A2
  | ds, xs, A, 0, r => ⟨E0, A, Sub.e0, Sub.rfl, Dj.e0, by rw [List.take_zero, List.take_zero]; rfl, r⟩
  | [], _, A, n + 1, r => by cases r; exact ⟨E0, E0, Sub.e0, Sub.e0, Dj.e0, rfl, rfl⟩
  | d :: ds, _, A, n + 1, ⟨x, ys, A1, A2, e, s1, s2, dj, r1, r2⟩ => by
    cases e
    obtain ⟨B1, B2, t1, t2, dj', q1, q2⟩ := Reps.split2 n r2
    exact ⟨Un2 A1 B1, B2, fun a h => h.elim (s1 a) fun h => s2 a (t1 a h), fun a h => s2 a (t2 a h), fun a h g => h.elim (fun h => dj a h (t2 a g)) fun h => dj' a h g,
      ⟨x, _, A1, B1, rfl, fun _ => .inl, fun _ => .inr, fun a h g => dj a h (t1 a g), r1, q1⟩, q2⟩
theorem vlm_ins : VLm K mg rIns insF := by
  intro ds as d ds' a xs vs A T H Q h e rs rv nA nT dAT lA lT q
  unfold insF at h
  split at h
  · rename_i i c
    split at h
    · rename_i hh
      obtain ⟨h0, h1, h2⟩ := hh
      cases h
      obtain ⟨x, y, rfl, rx, ry⟩ := Reps.two rv
      cases rx
      refine ⟨a, xs, i, y, rfl, rfl, e, by rw [rs.length]; exact big_lt h2, h0, by omega, ?_⟩
      obtain ⟨A1, A2, s1, s2, dj, r1, r2⟩ := Reps.split2 i.toNat rs
      refine q .non _ E0 (Un2 A T) rfl ?_ Dj.e0 Sub.e0 Sub.rfl
      have k1 : ∀ {o : HO}, Kp A1 H (upd H a o) := fun {o} => kp_upd (fun h => nA (s1 a h)) e trivial
      have k2 : ∀ {o : HO}, Kp A2 H (upd H a o) := fun {o} => kp_upd (fun h => nA (s2 a h)) e trivial
      have k3 : ∀ {o : HO}, Kp T H (upd H a o) := fun {o} => kp_upd nT e trivial
      refine Reps.append (B := A2) (A := Un2 A1 T) (Reps.append (Reps.keep _ r1 k1) (Reps.sing (Rep.keep _ ry k3)) (fun b h g => dAT b (s1 b h) g) (fun _ => .inl) fun _ => .inr) (Reps.keep _ r2 k2) ?_ ?_ ?_
      · exact fun b h g => h.elim (fun h => dj b h g) fun h => dAT b (s2 b g) h
      · exact fun b h => h.imp (s1 b) id
      · exact fun b h => .inl (s2 b h)
    · cases h
  · cases h
end
section
variable {X : Cx} {eC : Addr} {W : WX} {S S1 S2 SA : List Nat} {pos apos cpos : Pos} {o e e2 : Expr} {i : Nat} {ps : Path} {ms : M (List D)}
theorem ve_insert (hO : VP X o i ps) (h : VA X eC W S [e, e2] ms) (hi : i ∉ S)
    (hbase : attributeBase o "insert" X.env (eval o X.env) = eval o X.env := by rfl)
    (hfew : ((backTo cpos (starEach [e, e2] X.env)).all (fun x => !x.1) && (backToKw cpos (keywordEach [] X.env)).all (fun x => x.1.isSome)
      && decide ([e, e2].length + ([] : List Keyword).length + (if ([] : List Keyword).isEmpty then 0 else 1) < 30)) = true := by rfl)
    (hline : (apos.endLine == cpos.line) = true := by rfl) (hs : starEach [e, e2] X.env = (false, eval e X.env) :: starEach [e2] X.env := by rfl) (hplain : (backTo cpos (starEach [e2] X.env)).any (·.1) = false := by rfl) :
    VE X eC W (S ++ [i]) (.Call (.Attribute o "insert" apos) [e, e2] [] cpos) (lmM i ps insF ms) :=
  PE.imp (pe_bm PySem.F.plainAttrs_list PySem.F.slot_list_insert PySem.F.type_list_insert mt_insert hO h hbase hfew hline hs hplain) fun σ H Q q => tv_lm (K := X.K) (mg := X.mg) (r := rIns) vlm_ins hi (fun Q h => h) q
end
/-! ### is True -/
def isBD (neg : Bool) : D → D → Option D
  | .bl a, .bl b => some (.bl (if neg then !decide (a = b) else decide (a = b)))
  | _, _ => none
section
variable {K : PySem.W.Frag} {mg : Str → Option Value} {H H' : Hp}
theorem vop_isB : VOp K mg rIsB (isBD false) := by
  intro d1 d2 d v1 v2 T1 T2 H Q e r1 r2 dj l1 l2 q
  cases d1 <;> cases d2 <;> simp [isBD] at e
  subst e
  exact ⟨_, _, r1, r2, q _ H E0 rfl .refl⟩
theorem vop_notB : VOp K mg rNotB (isBD true) := by
  intro d1 d2 d v1 v2 T1 T2 H Q e r1 r2 dj l1 l2 q
  cases d1 <;> cases d2 <;> simp [isBD] at e
  subst e
  exact ⟨_, _, r1, r2, q _ H E0 rfl .refl⟩
end
/-! ### targets that may change memory; what is stored is pure -/
section
variable (K : PySem.W.Frag) (mg : Str → Option Value) (SA : List Nat)
def TgX (t : TG) (g : D → List D → Option (List D)) : Prop :=
  ∀ d v ρ ρ' F σ H Q, g d ρ = some ρ' → ER K mg H ρ σ F → Rep K mg H d v E0 →
    (∀ σ' H' F', ER K mg H' ρ' σ' F' → AftS H F H' F' → Agree SA σ σ' → Q σ' H') → t v σ H Q
def TgsX (t : TGs) (g : List D → List D → Option (List D)) : Prop :=
  ∀ ds vs ρ ρ' F σ H Q, g ds ρ = some ρ' → ER K mg H ρ σ F → Reps K mg H ds vs E0 →
    (∀ σ' H' F', ER K mg H' ρ' σ' F' → AftS H F H' F' → Agree SA σ σ' → Q σ' H') → t vs σ H Q
end
section
variable {K : PySem.W.Frag} {mg : Str → Option Value} {SA : List Nat}
theorem TgOk.x {t : TG} {g : D → List D → Option (List D)} (k : TgOk K mg SA t g) : TgX K mg SA t g := fun d v ρ ρ' F σ H Q e er r q =>
  k d v E0 ρ ρ' F σ H Q e er r Live.e0 (fun _ => Dj.e0) fun σ' F' er' f a => q σ' H F' er' ⟨fun _ _ e _ => e, fun j a h => (f j a h).elim (fun h => .inl ⟨j, h⟩) False.elim, fun _ e => e⟩ a
theorem tgsX_nil : TgsX K mg SA gNil tgNil := fun ds vs ρ ρ' F σ H Q e er r q => by
  cases ds with
  | nil => cases e; cases r; exact ⟨rfl, q σ H F er .refl .refl⟩
  | cons => cases e
theorem tgsX_cons {t : TG} {ts : TGs} {g : D → List D → Option (List D)} {gs : List D → List D → Option (List D)} (k1 : TgX K mg SA t g) (k2 : TgsX K mg SA ts gs) : TgsX K mg SA (gCons t ts) (tgCons g gs) := fun ds vs ρ ρ' F σ H Q e er r k => by
  cases ds with
  | nil => cases e
  | cons d ds =>
    simp only [tgCons, Option.bind_eq_some_iff] at e
    obtain ⟨ρ1, e1, e2⟩ := e
    obtain ⟨x, ys, A1, A2, rfl, s1, s2, d12, r1, r2⟩ := r
    refine ⟨x, ys, rfl, k1 d x ρ ρ1 F σ H _ e1 er (r1.mono s1) fun σ1 H1 F1 er1 f1 a1 => ?_⟩
    exact k2 ds ys ρ1 ρ' F1 σ1 H1 _ e2 er1 (Reps.keep _ (r2.mono s2) (f1.kp0 er)) fun σ2 H2 F2 er2 f2 a2 => k σ2 H2 F2 er2 (f1.trans f2) (a1.trans a2)
end
/-- (a, b, ..) = a tuple of pure items -/
def tgTupX (n : Nat) (gs : List D → List D → Option (List D)) : D → List D → Option (List D)
  | .tup ds, ρ => if ds.length = n then gs ds ρ else none
  | _, _ => none
theorem tgX_tup {K : PySem.W.Frag} {mg : Str → Option Value} {SA : List Nat} {ts : TGs} {gs : List D → List D → Option (List D)} {n : Nat} (kk : TgsX K mg SA ts gs) : TgX K mg SA (gTup K n ts) (tgTupX n gs) := fun d v ρ ρ' F σ H Q e er r q => by
  unfold tgTupX at e
  split at e
  · split at e
    · rename_i hl
      obtain ⟨a, xs, rfl, s, r⟩ := r
      exact ⟨a, xs, rfl, s, by rw [r.length]; exact hl, kk _ xs ρ ρ' F σ H Q e er r q⟩
    · cases e
  · cases e
/-- o.f as a target -/
def gFld (K : PySem.W.Frag) (to : TE) (f : Str) : TG := fun y σ H Q => to σ H fun x H2 => ∃ a C dx fs, x = .ref a ∧ H2 a = some (.ins C dx fs) ∧ Cls K C ∧ NoAttr K C f ∧ fs.length < 1000 ∧ Q σ (upd H2 a (.ins C dx (putF f y fs)))
theorem pg_fld {X : Cx} {o : Expr} {f : Str} {pos : Pos} {to : TE} (ho : PE X o to) : PG X (.Attribute o f pos) (gFld X.K to f) := by
  refine ⟨fun pins s σ H v u Q I r h => ?_⟩
  refine PySem.W.kas_attr (thn (ho.run pins s σ H _ I h) fun ov s2 ⟨x, H2, I2, rx, a, C, dx, fs, ex, ea, c, n, l, q2⟩ => ?_)
  subst ex
  obtain rfl : ov = Value.ref a := rx
  exact setattr_ok I2 ea c n l r fun s3 I3 => ⟨σ, _, I3, q2⟩
def tgF (i : Nat) (ps : Path) (c f : Str) : D → List D → Option (List D) := fun d ρ => match ρ[i]? with
  | some d0 => (match getP d0 ps with
    | some (.obj true c' ns ds) => if c' = c ∧ ns.length < 1000 then some (ρ.set i (putP d0 ps (.obj true c (fldPut f d ns ds).1 (fldPut f d ns ds).2))) else none
    | _ => none)
  | none => none
section
variable {X : Cx} {eC : Addr} {W : WX} {S S1 S2 SA : List Nat} {pos : Pos}
theorem tgX_fld {i : Nat} {ps : Path} {c f : Str} {to : TE} (ho : ∀ σ H (Q : VK), (∃ v, PlcAt X.K X.mg H σ i ps v ∧ Q v H) → to σ H Q) (hc : ∀ C, X.mg c = some (.ref C) → Cls X.K C ∧ NoAttr X.K C f) : TgX X.K X.mg SA (gFld X.K to f) (tgF i ps c f) := fun d v ρ1 ρ' F1 σ H1 Q q er1 r k0 => by
  unfold tgF at q
  cases e1 : ρ1[i]? with
  | none => rw [e1] at q; cases q
  | some d0 =>
    rw [e1] at q
    dsimp only at q
    split at q
    · rename_i c' ns ds e2
      split at q
      · rename_i hh
        obtain ⟨rfl, hl⟩ := hh
        cases q
        obtain ⟨x, A1, at1, r1, s1, k⟩ := plc_set er1 e1 e2 rfl
        obtain ⟨b, C, dx, fs, rfl, mC, z, iA, en, rs⟩ := r1
        obtain ⟨cl, na⟩ := hc C mC
        refine ho σ H1 _ ⟨.ref b, at1, b, C, dx, fs, rfl, z, cl, na, by rw [← en, List.length_map] at hl; exact hl, ?_⟩
        subst en
        have kpT : Kp E0 H1 (upd H1 b (.ins C dx (putF f v fs))) := kp_upd (fun h => h) z trivial
        have kpA : Kp (But A1 b) H1 (upd H1 b (.ins C dx (putF f v fs))) := kp_upd (fun x => x.2 rfl) z trivial
        obtain ⟨en2, rs2⟩ := fldPut_ok (f := f) (Rep.keep d r kpT) (Reps.keep ds rs kpA) Dj.e0r
        have lA1 : Live H1 A1 := (er1.live i).sub s1
        obtain ⟨F', er', f', _⟩ := k E0 (fun _ => Dj.e0) Live.e0 _ (Un2 A1 E0) (.obj true c' _ _) (.upd (o := .ins C dx (putF f v fs)) (.inl iA) trivial (lA1.un Live.e0) Sub.rfl)
          ⟨b, C, dx, _, rfl, mC, upd_same, .inl iA, en2, rs2.mono fun a x => x.elim (fun x => ⟨.inl x.1, x.2⟩) False.elim⟩
        refine k0 σ _ F' er' ⟨fun a o e n => ?_, fun j a h => ?_, fun a e => ?_⟩ .refl
        · rw [upd_ne]
          · exact e
          · rintro rfl
            exact n i (s1 a iA)
        · rcases f' j a h with h | h | h
          · exact .inl ⟨j, h.1⟩
          · exact .inl ⟨i, s1 a h⟩
          · exact h.elim
        · by_cases zz : a = b
          · subst zz; rw [upd_same] at e; cases e
          · rw [upd_ne zz] at e; exact e
      · cases q
    · cases q
def VGX (X : Cx) (SA : List Nat) (tg : Expr) (g : D → List D → Option (List D)) : Prop := ∃ t : TG, PG X tg t ∧ TgX X.K X.mg SA t g
def VGsX (X : Cx) (SA : List Nat) (ts : List Expr) (g : List D → List D → Option (List D)) : Prop := ∃ t : TGs, PGs X ts t ∧ TgsX X.K X.mg SA t g
theorem vgx_of {tg : Expr} {g : D → List D → Option (List D)} (h : VG X SA tg g) : VGX X SA tg g := let ⟨t, p, k⟩ := h; ⟨t, p, k.x⟩
theorem vgx_fld {o : Expr} {i : Nat} {ps : Path} {c f : Str} (hO : VP X o i ps) (hc : ∀ C, X.mg c = some (.ref C) → Cls X.K C ∧ NoAttr X.K C f) : VGX X SA (.Attribute o f pos) (tgF i ps c f) := ⟨_, pg_fld hO, tgX_fld (fun _ _ _ h => h) hc⟩
theorem vgsx_nil : VGsX X SA [] tgNil := ⟨_, pgs_nil, tgsX_nil⟩
theorem vgsx_cons {e : Expr} {es : List Expr} {g : D → List D → Option (List D)} {gs : List D → List D → Option (List D)} (h1 : VGX X SA e g) (h2 : VGsX X SA es gs)
    (hs : (assignEach (e :: es) X.env).map (·.2) = assign e X.env :: (assignEach es X.env).map (·.2) := by rfl) : VGsX X SA (e :: es) (tgCons g gs) := by
  obtain ⟨t1, p1, k1⟩ := h1
  obtain ⟨t2, p2, k2⟩ := h2
  exact ⟨_, pgs_cons p1 p2 hs, tgsX_cons k1 k2⟩
theorem vgx_tup {es : List Expr} {k : Nat} {gs : List D → List D → Option (List D)} {n : Nat} (hc : X.calm = true) (h : VGsX X SA es gs)
    (hn : (assignEach es X.env).length = n := by rfl) (hst : (assignEach es X.env).findIdx? (·.1) = none := by rfl) : VGX X SA (.Tuple es k pos) (tgTupX n gs) := by
  obtain ⟨t, p, kk⟩ := h
  exact ⟨_, pg_tup hc p hn hst, tgX_tup kk⟩
/-- targets = pure data -/
def asgX (g : D → List D → Option (List D)) (m : EM) : SM := fun ρ => (m ρ).bind fun d ρ1 => if pure? d = true then (Res.of (g d ρ1) ρ1).bind fun ρ2 _ => .ok .nx ρ2 else .bad
theorem vs_asgX {tg e : Expr} {g : D → List D → Option (List D)} {m : EM} (h : VE X eC W S e m) (hg : VGX X SA tg g) (hs : swapsWithSole [tg] e pos.line X.env = pure false := by rfl) (hw : swappedStores [tg] e X.env = pure none := by rfl)
    (h1 : (assignEach [tg] X.env).map (·.2) = [assign tg X.env] := by rfl) : VS X eC W SA (.Assign [tg] e pos) (asgX g m) := by
  obtain ⟨gt, pg, kt⟩ := hg
  exact PS.imp (ps_asg h pg hs hw h1) fun E σ H q => tv_s q fun d ρ1 v H1 F1 T er1 r dj l _ ⟨F0, H0, q, ga, new⟩ => by
    by_cases hp : pure? d = true
    · rw [if_pos hp] at q
      cases e1 : g d ρ1 with
      | none => rw [e1] at q; exact q.elim
      | some ρ2 =>
        rw [e1] at q
        exact kt d v ρ1 ρ2 F1 σ H1 _ e1 er1 (Rep.fixed d hp r) fun σ2 H2 F2 er2 g2 a2 => q σ2 H2 F2 er2 (ga.trans g2) a2
    · rw [if_neg hp] at q; exact q.elim
end
end VS
set_option Elab.async false
set_option linter.all false
set_option maxRecDepth 100000
set_option maxHeartbeats 4000000
/-! VS31: name += e, o.f += a written int. -/
namespace VS
open PySem PySem.Spec PyProof.Rows L2
section
variable {X : Cx} {eC : Addr} {W : WX} {S S1 S2 SA : List Nat} {pos : Pos}
def addI : D → D → Option D := int2 fun i j => some (.int (i + j))
theorem addI_some {a b d : D} (e : addI a b = some d) : ∃ i j, a = .int i ∧ b = .int j ∧ d = .int (i + j) := by
  unfold addI int2 at e
  split at e
  · cases e; exact ⟨_, _, rfl, rfl, rfl⟩
  · cases e
theorem vs_aug {i : Nat} {x : Str} {e : Expr} {m : EM} {pos' : Pos} (hi : i ∈ SA) (h : VE X eC W S e m) (hN : X.N.Nodup) (hx : X.N[i]? = some x) (hl : Loc X.env.scope x)
    (hf : X.fn x = true ∨ X.env.scope.names.lookup x = some .local := by first | exact .inl rfl | exact .inr rfl) : VS X eC W SA (.AugAssign (.Name x pos') .Add e pos) (setM i (opM addI (rd i) m)) := PS.imp (ps_aug hN hx hl h ip_add hf) fun E σ H q => by
  obtain ⟨ρ, F, er, q⟩ := q
  unfold setM opM rd at q
  cases e1 : ρ[i]? with
  | none => rw [e1] at q; exact q.elim
  | some d0 =>
    rw [e1] at q
    dsimp only at q
    by_cases c : (has? d0 && pure? d0) = true
    · rw [if_pos c] at q
      simp only [Res.bind_ok] at q
      obtain ⟨o, e2, r⟩ := er.get i d0 e1
      simp only [Bool.and_eq_true] at c
      obtain ⟨v, rfl, r⟩ := has_of c.1 r
      refine ⟨v, e2, ?_⟩
      have q2 : TVS X.K X.mg eC W SA (fun ρ => (m ρ).bind fun d2 ρ2 => (Res.of (addI d0 d2) ρ2).bind fun d ρ1 => if i < ρ1.length then .ok .nx (ρ1.set i d) else .bad) E σ H := by
        refine ⟨ρ, F, er, ?_⟩
        cases em : m ρ with
        | bad => rw [em] at q; exact q.elim
        | ex z ρ1 => rw [em] at q; dsimp only; rw [em]; exact q
        | ok d2 ρ1 => rw [em] at q; dsimp only; rw [em]; exact q
      refine tv_s q2 fun d2 ρ1 y H1 F1 T er1 r1 dj l _ ⟨F0, H0, q, g, new⟩ => ?_
      cases ea : addI d0 d2 with
      | none => rw [ea] at q; exact q.elim
      | some d =>
        rw [ea] at q
        obtain ⟨a, b, rfl, rfl, rfl⟩ := addI_some ea
        cases r
        cases r1
        simp only [Res.of_some, Res.bind_ok] at q
        split at q
        · rename_i lt
          refine ⟨a, b, rfl, rfl, ?_⟩
          obtain ⟨er2, q2⟩ := CS.store (i := i) (d := .int (a + b)) (v := .int (a + b)) (T := E0) q g er1 rfl (fun _ => Dj.e0) Live.e0 (fun _ h => h.elim) hi lt
          exact q2 _ H1 _ er2 .refl .refl
        · exact q.elim
    · rw [if_neg c] at q; exact q.elim
theorem getP_snoc : ∀ {ps : Path} {d : D} {p : Stp}, getP d (ps ++ [p]) = (getP d ps).bind fun c => getP c [p]
  | [], d, p => rfl
  | q :: ps, d, p => by
    rw [List.cons_append, getP, getP]
    cases kidN d q with
    | none => rfl
    | some k =>
      dsimp only [Option.bind]
      cases (kids d)[k]? with
      | none => rfl
      | some c => exact getP_snoc
theorem vs_finc {o : Expr} {i : Nat} {ps : Path} {c f : Str} {k : Int} {j : Nat} {tpos kpos : Pos} (hO : VP X o i ps) (hc : ∀ C, X.mg c = some (.ref C) → Cls X.K C ∧ NoAttr X.K C f) :
    VS X eC W SA (.AugAssign (.Attribute o f tpos) .Add (.Constant (.int k) j kpos) pos) (stFld i ps c f (opM addI (rdP i (ps ++ [.fld c f])) (intM k))) := PS.imp (ps_fldaug hO pe_int in_add) fun E σ H q => by
  obtain ⟨ρ1, F1, er1, q⟩ := q
  unfold stFld opM rdP intM at q
  cases e1 : ρ1[i]? with
  | none => rw [e1] at q; exact q.elim
  | some d0 =>
    rw [e1] at q
    dsimp only [Option.bind] at q
    rw [getP_snoc] at q
    cases e2 : getP d0 ps with
    | none => rw [e2] at q; exact q.elim
    | some co =>
      rw [e2] at q
      dsimp only [Option.bind] at q
      cases e3 : getP co [.fld c f] with
      | none => rw [e3] at q; exact q.elim
      | some dv =>
        rw [e3] at q
        dsimp only at q
        by_cases cc : (has? dv && pure? dv) = true
        · rw [if_pos cc] at q
          simp only [Res.bind_ok] at q
          cases ea : addI dv (.int k) with
          | none => rw [ea] at q; exact q.elim
          | some d =>
            rw [ea] at q
            obtain ⟨a, b, rfl, eb, rfl⟩ := addI_some ea
            cases eb
            simp only [Res.of_some, Res.bind_ok] at q
            rw [e1] at q
            try dsimp only at q
            rw [e2] at q
            try dsimp only at q
            split at q
            · rename_i c' ns ds eo
              cases eo
              split at q
              · rename_i hh
                obtain ⟨rfl, hl⟩ := hh
                obtain ⟨x, A1, at1, r1, s1, kk⟩ := plc_set er1 e1 e2 rfl
                obtain ⟨b, C, dx, fs, rfl, mC, z, iA, en, rs⟩ := r1
                obtain ⟨cl, na⟩ := hc C mC
                have el : fs.lookup f = some (.int a) := by
                  unfold getP at e3
                  rw [Option.bind_eq_some_iff] at e3
                  obtain ⟨n, e4, e3⟩ := e3
                  rw [Option.bind_eq_some_iff] at e3
                  obtain ⟨d5, e5, e3⟩ := e3
                  have e6 : getP d5 [] = some d5 := rfl
                  rw [e6] at e3
                  cases e3
                  replace e4 : ns.idxOf? f = some n := by
                    have e8 : (if c' = c' then ns.idxOf? f else none) = some n := e4
                    rw [if_pos rfl] at e8
                    exact e8
                  subst en
                  obtain ⟨v, e7, r7⟩ := Reps.get rs (show ds[n]? = some (.int a) from e5)
                  cases r7
                  exact lookup_idx e4 e7
                refine ⟨.ref b, at1, b, C, dx, fs, .int a, rfl, z, cl, na, el, a, k, rfl, rfl, dx, fs, z, by rw [← en, List.length_map] at hl; exact hl, ?_⟩
                subst en
                have kpT : Kp E0 H (upd H b (.ins C dx (putF f (.int (a + k)) fs))) := kp_upd (fun h => h) z trivial
                have kpA : Kp (But A1 b) H (upd H b (.ins C dx (putF f (.int (a + k)) fs))) := kp_upd (fun x => x.2 rfl) z trivial
                obtain ⟨en2, rs2⟩ := fldPut_ok (mg := X.mg) (K := X.K) (f := f) (d := .int (a + k)) (y := .int (a + k)) (T := E0) (H := upd H b (.ins C dx (putF f (.int (a + k)) fs))) rfl (Reps.keep ds rs kpA) Dj.e0r
                have lA1 : Live H A1 := (er1.live i).sub s1
                obtain ⟨F', er', f', _⟩ := kk E0 (fun _ => Dj.e0) Live.e0 _ (Un2 A1 E0) (.obj true c' _ _) (.upd (o := .ins C dx (putF f (.int (a + k)) fs)) (.inl iA) trivial (lA1.un Live.e0) Sub.rfl)
                  ⟨b, C, dx, _, rfl, mC, upd_same, .inl iA, en2, rs2.mono fun a x => x.elim (fun x => ⟨.inl x.1, x.2⟩) False.elim⟩
                refine q σ _ F' er' ⟨fun a o e n => ?_, fun j a h => ?_, fun a e => ?_⟩ .refl
                · rw [upd_ne]
                  · exact e
                  · rintro rfl
                    exact n i (s1 a iA)
                · rcases f' j a h with h | h | h
                  · exact .inl ⟨j, h.1⟩
                  · exact .inl ⟨i, s1 a h⟩
                  · exact h.elim
                · by_cases zz : a = b
                  · subst zz; rw [upd_same] at e; cases e
                  · rw [upd_ne zz] at e; exact e
              · exact q.elim
            · exact q.elim
        · rw [if_neg cc] at q; exact q.elim
end
end VS
set_option Elab.async false
set_option linter.all false
set_option maxRecDepth 100000
set_option maxHeartbeats 4000000
/-! VS32: method calls, sorted, pop, is True: with their side conditions told apart (for gen.py). -/
namespace VS
open PySem PySem.Spec PyProof.Rows L2
section
variable {X : Cx} {eC : Addr} {W : WX} {S S1 S2 SA : List Nat} {pos apos p2 p cpos : Pos} {f C : Addr} {fd : FuncData} {ps : List Str} {fm : FM} {k n : Nat} {o e : Expr} {es : List Expr} {c m : Str} {i : Nat} {ps' : Path} {ks : List AK} {ms : M (List D)}
theorem vc_meth {pl : Sem Bool} (ho : VP X o i ps') (F : Df X.prog X.w X.K X.mg X.base eC k f fd ps fm) (hr : Room k X.A) (tk : Takes X W) (hC : X.mg c = some (.ref C)) (cl : Cls X.K C) (hm : Meth X.K C m f) (ha : VR X eC W S ks (e :: es) ms) (hn : ps.length = n := by rfl)
    (nS : i ∉ S := by decide) (nd : (roots (.plc i ps' :: ks)).Nodup := by decide)
    (hst : starEach (e :: es) X.env = (false, eval e X.env) :: starEach es X.env := by rfl) (hpl : (backTo pos (starEach es X.env)).any (·.1) = false := by rfl)
    (ht : eval (.Call (.Attribute o m apos) (e :: es) [] pos) X.env = (do
      let ov ← eval o X.env
      standAt apos.atName
      let (f, first) ← holding [ov] (getMethod ov m pl)
      callWith pos f first (backTo pos (starEach (e :: es) X.env)) (backToKw pos (keywordEach [] X.env))) := by rfl) :
    VE X eC W (S ++ roots (.plc i ps' :: ks)) (.Call (.Attribute o m apos) (e :: es) [] pos) (methM n c m i ps' ks fm ms) := by subst hn; exact ve_meth ho F hr tk hC cl hm ha nS nd hst hpl ht
theorem vc_meth0 {pl : Sem Bool} (ho : VP X o i ps') (F : Df X.prog X.w X.K X.mg X.base eC k f fd ps fm) (hr : Room k X.A) (tk : Takes X W) (hC : X.mg c = some (.ref C)) (cl : Cls X.K C) (hm : Meth X.K C m f) (hn : ps.length = n := by rfl)
    (ht : eval (.Call (.Attribute o m apos) [] [] pos) X.env = (do
      let ov ← eval o X.env
      standAt apos.atName
      let (f, first) ← holding [ov] (getMethod ov m pl)
      callWith pos f first (backTo pos (starEach [] X.env)) (backToKw pos (keywordEach [] X.env))) := by rfl) :
    VE X eC W ([] ++ roots [.plc i ps']) (.Call (.Attribute o m apos) [] [] pos) (methM n c m i ps' [] fm nilM) := by subst hn; exact ve_meth0 ho F hr tk hC cl hm ht
theorem vc_sorted {x : Str} (hr : Room k X.A) (hg : Gl X x) (hm : X.mg x = none) (hv : bootBuiltins x = some (.builtin "sorted")) (ha : VA X eC W S (e :: es) ms) (hn : x ≠ "__name__" := by decide) (hdb : (x == ("__debug__" : Str)) = false := by decide)
    (he : starEach (e :: es) X.env = (false, eval e X.env) :: starEach es X.env := by rfl) (hpl : (backTo pos (starEach es X.env)).any (·.1) = false := by rfl) : VE X eC W S (.Call (.Name x p) (e :: es) [] pos) (clM (one sortedG) ms) :=
  vc_B (cr_sortG (hu65 hr)) vcl_sortG hg hm hv ha hn hdb he hpl
end
end VS
set_option Elab.async false
set_option linter.all false
set_option maxRecDepth 100000
set_option maxHeartbeats 4000000
/-! VS33: what stands at a place is looked at, and not kept: list(place), tuple(place), place[e], e in place. -/
namespace VS
open PySem PySem.Spec PyProof.Rows L2
def pkD (i : Nat) (ps : Path) (ρ : List D) : Option D := match (ρ[i]?).bind (getP · ps) with
  | some d => if has? d = true then some d else none
  | none => none
section
variable {K : PySem.W.Frag} {mg : Str → Option Value} {H H' : Hp} {ρ : List D} {σ : L2.St} {F : Nat → AS} {i : Nat} {ps : Path} {d : D}
theorem peek (er : ER K mg H ρ σ F) (e : pkD i ps ρ = some d) : ∃ x A1, PlcAt K mg H σ i ps x ∧ Rep K mg H d x A1 ∧ Sub A1 (F i) := by
  unfold pkD at e
  cases e1 : ρ[i]? with
  | none => rw [e1] at e; cases e
  | some d0 =>
    rw [e1] at e
    simp only [Option.bind_some] at e
    cases e2 : getP d0 ps with
    | none => rw [e2] at e; cases e
    | some c =>
      rw [e2] at e
      dsimp only at e
      split at e
      · rename_i hc
        cases e
        obtain ⟨o, e3, r⟩ := er.get i d0 e1
        obtain ⟨v0, rfl, r⟩ := has_root e2 hc r
        obtain ⟨x, A1, A2, a, s1, s2, dj, r1, r2, _⟩ := r.path e2
        exact ⟨x, A1, ⟨v0, e3, a⟩, r1, s1⟩
      · cases e
end
def VPk (K : PySem.W.Frag) (mg : Str → Option Value) (r : List V → Hp → VK → Prop) (f : D → Option D) : Prop :=
  ∀ d d' x A H Q, f d = some d' → Rep K mg H d x A → (∀ v H' T, Rep K mg H' d' v T → AftT E0 H H' T → Q v H') → r [x] H Q
def pkM (f : D → Option D) (i : Nat) (ps : Path) : EM := fun ρ => Res.of ((pkD i ps ρ).bind f) ρ
def pkL : D → Option D := fun d => (items d).bind fun ds => if pures? ds = true then some (.lst true ds) else none
def pkT : D → Option D := fun d => (items d).bind fun ds => if pures? ds = true then some (.tup ds) else none
section
variable {K : PySem.W.Frag} {mg : Str → Option Value}
theorem vpk_list : VPk K mg (fun xs H Q => ∃ p ys, xs = [V.ref p] ∧ (SqL K H p ys ∨ SqT K H p ys) ∧ ∀ l, H l = none → Q (.ref l) (upd H l (.lst ys))) pkL := fun d d' x A H Q e r q => by
  simp only [pkL, Option.bind_eq_some_iff] at e
  obtain ⟨ds, e, h⟩ := e
  split at h
  · rename_i hp
    cases h
    obtain ⟨a, xs, rfl, s, r⟩ := r.seq e
    have r := Reps.fixed ds hp r
    exact ⟨a, xs, rfl, s, fun p np => q _ _ (fun a => E0 a ∨ a = p) ⟨p, xs, rfl, upd_same, .inr rfl, (Reps.keep ds r (kp_new np)).mono Sub.e0⟩ (.new np trivial Live.e0 Sub.rfl)⟩
  · cases h
theorem vpk_tuple : VPk K mg (fun xs H Q => ∃ p ys, xs = [V.ref p] ∧ ((SqL K H p ys ∧ ∀ l, H l = none → Q (.ref l) (upd H l (.tup ys))) ∨ (SqT K H p ys ∧ Q (.ref p) H))) pkT := fun d d' x A H Q e r q => by
  simp only [pkT, Option.bind_eq_some_iff] at e
  obtain ⟨ds, e, h⟩ := e
  split at h
  · rename_i hp
    cases h
    obtain ⟨a, xs, rfl, s, r⟩ := r.seq e
    have r := Reps.fixed ds hp r
    refine ⟨a, xs, rfl, s.imp (fun s => ⟨s, fun p np => ?_⟩) fun s => ⟨s, ?_⟩⟩
    · exact q _ _ E0 ⟨p, xs, rfl, .of upd_same, Reps.keep ds r (kp_new np)⟩ (.newF np Live.e0 Sub.rfl)
    · exact q _ H E0 ⟨a, xs, rfl, s, r⟩ (.same Live.e0 Sub.rfl)
  · cases h
end
section
variable {X : Cx} {eC : Addr} {W : WX} {S S1 S2 SA : List Nat} {pos p : Pos} {e a b : Expr} {i : Nat} {ps : Path} {m : EM}
/-- nothing but new objects -/
theorem got_new {H H' : Hp} {ρ : List D} {σ : L2.St} {F : Nat → AS} {T : AS} (er : ER X.K X.mg H ρ σ F) (t : AftT E0 H H' T) : ER X.K X.mg H' ρ σ F ∧ Got [] H F H' F T := by
  have kp : ∀ j, Kp (F j) H H' := fun j a o e h => t.keep a o e fun h => h
  refine ⟨⟨er.len, fun j d e => ?_, er.dj, fun j => (er.live j).keep (kp j)⟩, ⟨⟨fun a o e n => t.keep a o e fun h => h, fun j _ => Sub.rfl, fun j hj => (by cases hj), t.dom⟩, fun a h => ?_, fun j a h x => ?_, t.live⟩⟩
  · obtain ⟨o, e1, r⟩ := er.get j d e
    refine ⟨o, e1, ?_⟩
    cases o with
    | none => exact r
    | some v => exact Rep.keep d r (kp j)
  · exact (t.sub a h).elim False.elim .inr
  · rcases t.sub a h with h | h
    · exact h
    · obtain ⟨u, e, _⟩ := er.live j a x
      rw [h] at e; cases e
theorem vc_pkTy {x : Str} {T : String} {r : List V → Hp → VK → Prop} {f : D → Option D} (hc : CallR X (.type T) r) (h : VPk X.K X.mg r f) (hO : VP X e i ps)
    (hg : Gl X x) (hm : X.mg x = none) (hv : bootBuiltins x = some (.type T)) (hn : x ≠ "__name__" := by decide) (hdb : (x == ("__debug__" : Str)) = false := by decide)
    (he : starEach [e] X.env = (false, eval e X.env) :: starEach [] X.env := by rfl) (hpl : (backTo pos (starEach [] X.env)).any (·.1) = false := by rfl) : VE X eC W [] (.Call (.Name x p) [e] [] pos) (pkM f i ps) :=
  PE.imp (pe_callTy hc hg hm hv (pa_cons hO pa_nil he) hn hdb he hpl) fun σ H Q ⟨ρ, F, er, q⟩ => by
    unfold pkM at q
    cases e1 : pkD i ps ρ with
    | none => rw [e1] at q; exact q.elim
    | some d =>
      rw [e1] at q
      dsimp only [Option.bind] at q
      cases e2 : f d with
      | none => rw [e2] at q; exact q.elim
      | some d' =>
        rw [e2] at q
        obtain ⟨v, A1, at1, r1, s1⟩ := peek er e1
        exact ⟨v, at1, h d d' v A1 H Q e2 r1 fun v' H' T r t => let ⟨er', g⟩ := got_new er t; q v' H' F T er' r g⟩
def ixPM (i : Nat) (ps : Path) (m : EM) : EM := fun ρ => match pkD i ps ρ with
  | some d => (m ρ).bind fun k ρ1 => Res.of ((ixD d k).bind fun z => if pure? z = true then some z else none) ρ1
  | none => .bad
theorem ve_ixP (hO : VP X a i ps) (hb : VE X eC W [] b m) (hs : PlainIx b := by exact fun _ _ => rfl) : VE X eC W [] (.Subscript a b pos) (ixPM i ps m) :=
  PE.imp (pe_ix ix_lt hO hb hs) fun σ H Q ⟨ρ, F, er, q⟩ => by
    unfold ixPM at q
    cases e1 : pkD i ps ρ with
    | none => rw [e1] at q; exact q.elim
    | some d =>
      rw [e1] at q
      dsimp only at q
      obtain ⟨x, A1, at1, r1, s1⟩ := peek er e1
      refine ⟨x, at1, ρ, F, er, ?_⟩
      cases e2 : m ρ with
      | bad => rw [e2] at q; exact q
      | ex z ρ1 => rw [e2] at q; exact q
      | ok k ρ1 =>
        rw [e2] at q
        simp only [Res.bind_ok] at q
        intro v H' F' T er' r g
        cases e3 : ixD d k with
        | none => rw [e3] at q; exact q.elim
        | some z =>
          rw [e3] at q
          by_cases hz : pure? z = true
          · simp only [Option.bind_some, if_pos hz, Res.of_some] at q
            have kp : Kp A1 H H' := fun a o e _ => g.keep a o e fun j hj => (by cases hj)
            have r2 := Rep.keep d r1 kp
            unfold ixD at e3
            split at e3
            · rename_i kk
              simp only [Option.bind_eq_some_iff] at e3
              obtain ⟨ds, e4, e5⟩ := e3
              cases (show v = .int kk from r)
              obtain ⟨a, xs, rfl, s, r3⟩ := r2.seq e4
              obtain ⟨w, e6, rv⟩ := r3.atI e5
              have fin := q w H' F' E0 er' (Rep.fixed z hz rv) ⟨g.toAft, fun a h => h.elim, fun j => Dj.e0, Live.e0⟩
              exact s.imp (fun s => ⟨a, xs, kk, w, rfl, rfl, s, e6, fin⟩) fun s => ⟨a, xs, kk, w, rfl, rfl, s, e6, fin⟩
            · cases e3
          · simp only [Option.bind_some, if_neg hz, Res.of_none] at q
def inPM (neg : Bool) (m : EM) (i : Nat) (ps : Path) : EM := fun ρ => (m ρ).bind fun d1 ρ1 => Res.of ((pkD i ps ρ1).bind fun d => inP neg d1 d) ρ1
theorem tv_inP {neg : Bool} {σ : L2.St} {H : Hp} {Q : VK} {tb : TE} (hO : ∀ σ H (Q : VK), (∃ v, PlcAt X.K X.mg H σ i ps v ∧ Q v H) → tb σ H Q) (q : TV X.K X.mg eC W S (inPM neg m i ps) σ H Q) :
    TV X.K X.mg eC W S m σ H (fun x H1 => tb σ H1 fun y H2 => rInP X.K neg x y H2 Q) := by
  obtain ⟨ρ, F, er, q⟩ := q
  refine ⟨ρ, F, er, ?_⟩
  unfold inPM at q
  cases e1 : m ρ with
  | bad => rw [e1] at q; exact q
  | ex z ρ1 => rw [e1] at q; exact q
  | ok d1 ρ1 =>
    rw [e1] at q
    simp only [Res.bind_ok] at q
    intro v1 H1 F1 T1 er1 r1 g1
    cases e2 : pkD i ps ρ1 with
    | none => rw [e2] at q; exact q.elim
    | some d =>
      rw [e2] at q
      dsimp only [Option.bind] at q
      cases e3 : inP neg d1 d with
      | none => rw [e3] at q; exact q.elim
      | some dr =>
        rw [e3] at q
        obtain ⟨x, A1, at1, r2, s1⟩ := peek er1 e2
        refine hO σ H1 _ ⟨x, at1, ?_⟩
        have fin : ∀ b, dr = .bl b → Q (.bl b) H1 := fun b eb => by
          subst eb
          exact q (.bl b) H1 F1 E0 er1 rfl ⟨g1.toAft, fun a h => h.elim, fun j => Dj.e0, Live.e0⟩
        unfold inP at e3
        simp only [Option.bind_eq_some_iff] at e3
        obtain ⟨p, e4, ds, e5, ps', e6, e7⟩ := e3
        split at e7
        · rename_i h
          simp only [Bool.and_eq_true] at h
          cases e7
          exact ⟨p, ps', Rep.dp d1 r1 e4, (toP_items e5 e6).imp (Rep.dp d r2) (Rep.dp d r2), h.1, h.2, fin _ rfl⟩
        · cases e7
theorem ve_inP {k : Nat} (hr : Room k X.A) (ha : VE X eC W S a m) (hO : VP X b i ps) (hm : behindInMarks .In b = false := by with_unfolding_all rfl) : VE X eC W S (.Compare a [.In] [b] pos) (inPM false m i ps) :=
  PE.imp (pe_cmpR (op_inP (hu65 hr)) ha hO hm) fun σ H Q q => tv_inP (tb := fun σ H Q => ∃ v, PlcAt X.K X.mg H σ i ps v ∧ Q v H) (fun _ _ _ h => h) q
theorem ve_notinP {k : Nat} (hr : Room k X.A) (ha : VE X eC W S a m) (hO : VP X b i ps) (hm : behindInMarks .NotIn b = false := by with_unfolding_all rfl) : VE X eC W S (.Compare a [.NotIn] [b] pos) (inPM true m i ps) :=
  PE.imp (pe_cmpR (op_notInP (hu65 hr)) ha hO hm) fun σ H Q q => tv_inP (tb := fun σ H Q => ∃ v, PlcAt X.K X.mg H σ i ps v ∧ Q v H) (fun _ _ _ h => h) q
theorem vt_inP {k : Nat} (hr : Room k X.A) (ha : VE X eC W S a m) (hO : VP X b i ps) (hm : behindInMarks .In b = false := by with_unfolding_all rfl) : VT X eC W S (.Compare a [.In] [b] pos) (testM (inPM false m i ps)) :=
  PT.imp (pt_cmpR (op_inP (hu65 hr)) ha hO hm) fun σ H Q q => tv_inP (Q := fun x H1 => ∃ c, x = .bl c ∧ Q c H1) (tb := fun σ H Q => ∃ v, PlcAt X.K X.mg H σ i ps v ∧ Q v H) (fun _ _ _ h => h) (tv_test q)
theorem vt_notinP {k : Nat} (hr : Room k X.A) (ha : VE X eC W S a m) (hO : VP X b i ps) (hm : behindInMarks .NotIn b = false := by with_unfolding_all rfl) : VT X eC W S (.Compare a [.NotIn] [b] pos) (testM (inPM true m i ps)) :=
  PT.imp (pt_cmpR (op_notInP (hu65 hr)) ha hO hm) fun σ H Q q => tv_inP (Q := fun x H1 => ∃ c, x = .bl c ∧ Q c H1) (tb := fun σ H Q => ∃ v, PlcAt X.K X.mg H σ i ps v ∧ Q v H) (fun _ _ _ h => h) (tv_test q)
end
end VS
set_option Elab.async false
set_option linter.all false
set_option maxRecDepth 100000
set_option maxHeartbeats 8000000
/-! printed by gen.py -/
namespace VS
open PySem PySem.Spec PyProof.Rows L2
namespace G
def top (i : Nat) : Stmt := PySem.Challenge.pw_dragtold_k07_turns.main.body.getD i (.Pass ⟨0, 0, 0, 0⟩)
def inCls (s : Stmt) (j : Nat) : Stmt := match s with
  | .ClassDef _ _ _ b _ _ _ _ _ _ _ => b.getD j (.Pass ⟨0, 0, 0, 0⟩)
  | _ => .Pass ⟨0, 0, 0, 0⟩

structure NoB (mg : Str → Option Value) : Prop where
  isinstance_ : mg "isinstance" = none
  len_ : mg "len" = none
  abs_ : mg "abs" = none
  int_ : mg "int" = none
  tuple_ : mg "tuple" = none
  list_ : mg "list" = none
  all_ : mg "all" = none
  any_ : mg "any" = none
  sorted_ : mg "sorted" = none
  sum_ : mg "sum" = none
  bool_ : mg "bool" = none
  str_ : mg "str" = none
  range_ : mg "range" = none
  zip_ : mg "zip" = none
  enumerate_ : mg "enumerate" = none
def GK (K : PySem.W.Frag) (mg : Str → Option Value) (x : Str) (d : D) : Prop := ∃ v u, mg x = some u ∧ KRep K d v u
theorem ve_gk {X : Cx} {eC : Addr} {W : WX} {x : Str} {d : D} {pos : Pos} (hg : Gl X x) (h : GK X.K X.mg x d) (hd : (x == ("__debug__" : Str)) = false := by decide) : VE X eC W [] (.Name x pos) (cM d) :=
  let ⟨_, _, hm, r⟩ := h
  ve_glob hg hm r hd
abbrev c_KINDS : D := .tup [.str "enter", .str "leave", .str "over", .str "drop", .str "end"]
abbrev c_SIGHTS : D := .tup [.str "own", .str "same", .str "related"]
abbrev c_PLACES : D := .tup [.str "zone", .str "root", .str "capture"]
abbrev c_SIDES : D := .tup [.str "outside", .str "inside", .str "zone"]
abbrev c_RELATED : D := .tup [.str "none", .str "outside", .str "inside"]
abbrev c_END : D := .tup [.str "end", .str "outside", .bl false, .str "none"]
abbrev c_START : D := .tup [.int 0, .int 0]
abbrev c_SIDE_OF : D := .tup [.str "none", .str "outside", .str "inside", .str "zone"]
abbrev c_POINT : D := .int 0
abbrev c_SLIP : D := .int 1
abbrev c_OUT : D := .int 2
abbrev c_DROP : D := .int 3
abbrev c_SILENT_DROP : D := .int 4
abbrev c_CANCEL : D := .int 5
abbrev c_SILENT_CANCEL : D := .int 6
abbrev c_CURRENT : D := .int 4
abbrev c_MOST_STATES : D := .int 60
abbrev c_MOST_RULES : D := .int 1200
section
variable {P : Program} {w : World} {K : PySem.W.Frag} {mg : Str → Option Value} {base : Heap} {eC fI : Addr}
/-! ### reaches -/
namespace N_reaches
abbrev st : Stmt := (top 9)
abbrev N : List Str := ["place", "side", "is_root", "stopped"]
theorem sc : FnScope N ["place", "side", "is_root", "stopped"] (defScope st) := ⟨rfl, rfl, rfl, by decide +kernel, rfl, by decide +kernel, by decide +kernel⟩
def m : SM := (seqM (iteM (testM (opM (eqP false) (rd 0) (strM "capture"))) (retM (blM true)) skipM)
  (seqM (iteM (testM (opM (eqP false) (rd 0) (strM "root"))) (retM (orV (rd 2) (notV (rd 3)))) skipM)
  (retM (orV (opM (eqP false) (rd 1) (strM "zone")) (andV (opM (eqP false) (rd 1) (strM "inside")) (notV (rd 3)))))))
end N_reaches
def f_reaches : FM := fnM 4 4 [] N_reaches.m
open N_reaches in
theorem d_reaches {f : Addr} {fd : FuncData} (F : Fun K "reaches" "reaches" N_reaches.st f fd) (hb : Binds K fd ["place", "side", "is_root", "stopped"] [])  :
    Df P w K mg base eC 1 f fd ["place", "side", "is_root", "stopped"] f_reaches := df_of F sc hb fun cdv A outer s H E hr => by
  have hr : Room 0 (A.deeper (envOfC "reaches" (defScope N_reaches.st) s.heap.objs.size f cdv)) := hr
  exact (vss_cons (vs_if (vt_eq hr (ve_rd (pv 0)) vc_str) (vss_one (vs_ret vc_bl)) vss_nil)
      (vss_cons (vs_if (vt_eq hr (ve_rd (pv 0)) vc_str) (vss_one (vs_ret (ve_or (ve_rd (pv 2)) (ve_one (ve_not (ve_rd (pv 3))))))) vss_nil)
      (vss_one (vs_ret (ve_or (ve_eq hr (ve_rd (pv 1)) vc_str) (ve_one (ve_and (ve_eq hr (ve_rd (pv 1)) vc_str) (ve_one (ve_not (ve_rd (pv 3)))))))))))
/-! ### _plain -/
namespace N__plain
abbrev st : Stmt := (top 10)
abbrev N : List Str := ["side"]
theorem sc : FnScope N ["side"] (defScope st) := ⟨rfl, rfl, rfl, by decide +kernel, rfl, by decide +kernel, by decide +kernel⟩
def m : SM := (retM (ifM (testM (opM (eqP false) (rd 0) (strM "zone"))) (strM "inside") (rd 0)))
end N__plain
def f__plain : FM := fnM 1 1 [] N__plain.m
open N__plain in
theorem d__plain {f : Addr} {fd : FuncData} (F : Fun K "_plain" "_plain" N__plain.st f fd) (hb : Binds K fd ["side"] [])  :
    Df P w K mg base eC 1 f fd ["side"] f__plain := df_of F sc hb fun cdv A outer s H E hr => by
  have hr : Room 0 (A.deeper (envOfC "_plain" (defScope N__plain.st) s.heap.objs.size f cdv)) := hr
  exact (vss_one (vs_ret (ve_if (vt_eq hr (ve_rd (pv 0)) vc_str) vc_str (ve_rd (pv 0)))))
/-! ### signal_of -/
namespace N_signal_of
abbrev st : Stmt := (top 11)
abbrev N : List Str := ["setup", "kind", "side", "same", "related", "told", "other"]
theorem sc : FnScope N ["setup", "kind", "side", "same", "related"] (defScope st) := ⟨rfl, rfl, rfl, by decide +kernel, rfl, by decide +kernel, by decide +kernel⟩
def m : SM := (seqM (setM 5 (fzM (ifM (testM (opM (inP false) (strM "own") (rdP 0 [Stp.fld "Setup" "sights"]))) (rd 2) (callM 1 [.tmp] f__plain (consM (rd 2) nilM)))))
  (seqM (setM 6 (fzM (ifM (testM (opM (inP false) (strM "related") (rdP 0 [Stp.fld "Setup" "sights"]))) (callM 1 [.tmp] f__plain (consM (rd 4) nilM)) (strM "none"))))
  (retM (clM tupD (consM (rd 1) (consM (rd 5) (consM (andV (opM (inP false) (strM "same") (rdP 0 [Stp.fld "Setup" "sights"])) (rd 3)) (consM (rd 6) nilM))))))))
end N_signal_of
def f_signal_of : FM := fnM 5 7 [5, 6] N_signal_of.m
open N_signal_of in
theorem d_signal_of {f : Addr} {fd : FuncData} (F : Fun K "signal_of" "signal_of" N_signal_of.st f fd) (hb : Binds K fd ["setup", "kind", "side", "same", "related"] []) (fc_Setup_sights : ∀ C, mg "Setup" = some (.ref C) → Cls K C ∧ NoAttr K C "sights")
    {a__plain : Addr} {fd__plain : FuncData} (g__plain : mg "_plain" = some (.ref a__plain)) (D__plain : Df P w K mg base eC 1 a__plain fd__plain ["side"] f__plain) :
    Df P w K mg base eC 2 f fd ["setup", "kind", "side", "same", "related"] f_signal_of := df_of F sc hb fun cdv A outer s H E hr => by
  have hr : Room 1 (A.deeper (envOfC "signal_of" (defScope N_signal_of.st) s.heap.objs.size f cdv)) := hr
  exact (vss_cons (vs_set (i := 5) (by decide) (ve_fzM (ve_if (vt_in hr vc_str (ve_rdP (vp_fld (c := "Setup") (vp_var (pv 0)) (fc_Setup_sights)))) (ve_rd (pv 2)) (vc_call D__plain (hr.mono (by decide)) (takes_of rfl rfl rfl rfl) g__plain (by rfl) (vr_cons (ve_rd (pv 2)) vr_nil)))) sc.nd rfl (by first | exact Or.inl rfl | exact Or.inr rfl))
      (vss_cons (vs_set (i := 6) (by decide) (ve_fzM (ve_if (vt_in hr vc_str (ve_rdP (vp_fld (c := "Setup") (vp_var (pv 0)) (fc_Setup_sights)))) (vc_call D__plain (hr.mono (by decide)) (takes_of rfl rfl rfl rfl) g__plain (by rfl) (vr_cons (ve_rd (pv 4)) vr_nil)) vc_str)) sc.nd rfl (by first | exact Or.inl rfl | exact Or.inr rfl))
      (vss_one (vs_ret (ve_tup (va_cons (ve_rd (pv 1)) (va_cons (ve_rd (pv 5)) (va_cons (ve_and (ve_in hr vc_str (ve_rdP (vp_fld (c := "Setup") (vp_var (pv 0)) (fc_Setup_sights)))) (ve_one (ve_rd (pv 3)))) (va_cons (ve_rd (pv 6)) va_nil)))))))))
/-! ### hears_end -/
namespace N_hears_end
abbrev st : Stmt := (top 12)
abbrev N : List Str := ["setup"]
theorem sc : FnScope N ["setup"] (defScope st) := ⟨rfl, rfl, rfl, by decide +kernel, rfl, by decide +kernel, by decide +kernel⟩
def m : SM := (retM (andV (opM (eqP true) (rdP 0 [Stp.fld "Setup" "place"]) (strM "zone")) (opM (inP false) (strM "end") (rdP 0 [Stp.fld "Setup" "kinds"]))))
end N_hears_end
def f_hears_end : FM := fnM 1 1 [] N_hears_end.m
open N_hears_end in
theorem d_hears_end {f : Addr} {fd : FuncData} (F : Fun K "hears_end" "hears_end" N_hears_end.st f fd) (hb : Binds K fd ["setup"] []) (fc_Setup_kinds : ∀ C, mg "Setup" = some (.ref C) → Cls K C ∧ NoAttr K C "kinds")
    (fc_Setup_place : ∀ C, mg "Setup" = some (.ref C) → Cls K C ∧ NoAttr K C "place") :
    Df P w K mg base eC 1 f fd ["setup"] f_hears_end := df_of F sc hb fun cdv A outer s H E hr => by
  have hr : Room 0 (A.deeper (envOfC "hears_end" (defScope N_hears_end.st) s.heap.objs.size f cdv)) := hr
  exact (vss_one (vs_ret (ve_and (ve_ne hr (ve_rdP (vp_fld (c := "Setup") (vp_var (pv 0)) (fc_Setup_place))) vc_str) (ve_one (ve_in hr vc_str (ve_rdP (vp_fld (c := "Setup") (vp_var (pv 0)) (fc_Setup_kinds))))))))
/-! ### Ear.__init__ -/
namespace N_Ear___init__
abbrev st : Stmt := (inCls (top 13) 0)
abbrev N : List Str := ["self", "setup", "entered", "stops"]
theorem sc : FnScope N ["self", "setup", "entered", "stops"] (defScope st) := ⟨rfl, rfl, rfl, by decide +kernel, rfl, by decide +kernel, by decide +kernel⟩
def m : SM := (seqM (stFld 0 [] "Ear" "setup" (rd 1))
  (seqM (stFld 0 [] "Ear" "entered" (rd 2))
  (seqM (stFld 0 [] "Ear" "stops" (rd 3))
  (seqM (stFld 0 [] "Ear" "count" (intM 0))
  (stFld 0 [] "Ear" "signals" (clM lstD nilM))))))
end N_Ear___init__
def f_Ear___init__ : FM := fnM 4 4 [] N_Ear___init__.m
open N_Ear___init__ in
theorem d_Ear___init__ {f : Addr} {fd : FuncData} (F : Fun K "__init__" "Ear.__init__" N_Ear___init__.st f fd) (hb : Binds K fd ["self", "setup", "entered", "stops"] []) (fc_Ear_count : ∀ C, mg "Ear" = some (.ref C) → Cls K C ∧ NoAttr K C "count")
    (fc_Ear_entered : ∀ C, mg "Ear" = some (.ref C) → Cls K C ∧ NoAttr K C "entered")
    (fc_Ear_setup : ∀ C, mg "Ear" = some (.ref C) → Cls K C ∧ NoAttr K C "setup")
    (fc_Ear_signals : ∀ C, mg "Ear" = some (.ref C) → Cls K C ∧ NoAttr K C "signals")
    (fc_Ear_stops : ∀ C, mg "Ear" = some (.ref C) → Cls K C ∧ NoAttr K C "stops") :
    Df P w K mg base eC 1 f fd ["self", "setup", "entered", "stops"] f_Ear___init__ := df_of F sc hb fun cdv A outer s H E hr => by
  have hr : Room 0 (A.deeper (envOfC "Ear.__init__" (defScope N_Ear___init__.st) s.heap.objs.size f cdv)) := hr
  exact (vss_cons (vs_fld (c := "Ear") (vp_var (pv 0)) (by exact (ve_rd (pv 1))) fc_Ear_setup)
      (vss_cons (vs_fld (c := "Ear") (vp_var (pv 0)) (by exact (ve_rd (pv 2))) fc_Ear_entered)
      (vss_cons (vs_fld (c := "Ear") (vp_var (pv 0)) (by exact (ve_rd (pv 3))) fc_Ear_stops)
      (vss_cons (vs_fld (c := "Ear") (vp_var (pv 0)) (by exact vc_int) fc_Ear_count)
      (vss_one (vs_fld (c := "Ear") (vp_var (pv 0)) (by exact (ve_lst va_nil)) fc_Ear_signals))))))
/-! ### Ear.event -/
namespace N_Ear_event
abbrev st : Stmt := (inCls (top 13) 1)
abbrev N : List Str := ["self", "kind", "target", "side", "related", "is_root", "stopped"]
theorem sc : FnScope N ["self", "kind", "target", "side", "related", "is_root"] (defScope st) := ⟨rfl, rfl, rfl, by decide +kernel, rfl, by decide +kernel, by decide +kernel⟩
def m : SM := (seqM (setM 6 (opM (eqP false) (opM andD (opM shrD (rdP 0 [Stp.fld "Ear" "stops"]) (rdP 0 [Stp.fld "Ear" "count"])) (intM 1)) (intM 1)))
  (seqM (stFld 0 [] "Ear" "count" (opM addI (rdP 0 [Stp.fld "Ear" "count"]) (intM 1)))
  (seqM (iteM (orM (testM (opM (inP true) (rd 1) (rdP 0 [Stp.fld "Ear" "setup", Stp.fld "Setup" "kinds"]))) (notM (testM (callM 4 [.tmp, .tmp, .tmp, .tmp] f_reaches (consM (rdP 0 [Stp.fld "Ear" "setup", Stp.fld "Setup" "place"]) (consM (rd 3) (consM (rd 5) (consM (rd 6) nilM)))))))) retN skipM)
  (seqM (dropM (lmM 0 [Stp.fld "Ear" "signals"] appF (consM (fzM (callM 5 [.tmp, .tmp, .tmp, .tmp, .tmp] f_signal_of (consM (rdP 0 [Stp.fld "Ear" "setup"]) (consM (rd 1) (consM (rd 3) (consM (opM (eqP false) (rd 2) (rdP 0 [Stp.fld "Ear" "entered"])) (consM (rd 4) nilM))))))) nilM)))
  (iteM (testM (opM (eqP false) (rd 1) (strM "enter"))) (stFld 0 [] "Ear" "entered" (rd 2)) skipM)))))
end N_Ear_event
def f_Ear_event : FM := fnM 6 7 [6] N_Ear_event.m
open N_Ear_event in
theorem d_Ear_event {f : Addr} {fd : FuncData} (F : Fun K "event" "Ear.event" N_Ear_event.st f fd) (hb : Binds K fd ["self", "kind", "target", "side", "related", "is_root"] []) (fc_Ear_count : ∀ C, mg "Ear" = some (.ref C) → Cls K C ∧ NoAttr K C "count")
    (fc_Ear_entered : ∀ C, mg "Ear" = some (.ref C) → Cls K C ∧ NoAttr K C "entered")
    (fc_Ear_setup : ∀ C, mg "Ear" = some (.ref C) → Cls K C ∧ NoAttr K C "setup")
    (fc_Ear_signals : ∀ C, mg "Ear" = some (.ref C) → Cls K C ∧ NoAttr K C "signals")
    (fc_Ear_stops : ∀ C, mg "Ear" = some (.ref C) → Cls K C ∧ NoAttr K C "stops")
    (fc_Setup_kinds : ∀ C, mg "Setup" = some (.ref C) → Cls K C ∧ NoAttr K C "kinds")
    (fc_Setup_place : ∀ C, mg "Setup" = some (.ref C) → Cls K C ∧ NoAttr K C "place")
    {a_reaches : Addr} {fd_reaches : FuncData} (g_reaches : mg "reaches" = some (.ref a_reaches)) (D_reaches : Df P w K mg base eC 1 a_reaches fd_reaches ["place", "side", "is_root", "stopped"] f_reaches)
    {a_signal_of : Addr} {fd_signal_of : FuncData} (g_signal_of : mg "signal_of" = some (.ref a_signal_of)) (D_signal_of : Df P w K mg base eC 2 a_signal_of fd_signal_of ["setup", "kind", "side", "same", "related"] f_signal_of) :
    Df P w K mg base eC 3 f fd ["self", "kind", "target", "side", "related", "is_root"] f_Ear_event := df_of F sc hb fun cdv A outer s H E hr => by
  have hr : Room 2 (A.deeper (envOfC "Ear.event" (defScope N_Ear_event.st) s.heap.objs.size f cdv)) := hr
  exact (vss_cons (vs_set (i := 6) (by decide) (ve_eq hr (ve_op op_and vop_i0 (ve_op op_shr vop_i (ve_rdP (vp_fld (c := "Ear") (vp_var (pv 0)) (fc_Ear_stops))) (ve_rdP (vp_fld (c := "Ear") (vp_var (pv 0)) (fc_Ear_count)))) vc_int) vc_int) sc.nd rfl (by first | exact Or.inl rfl | exact Or.inr rfl))
      (vss_cons (vs_finc (c := "Ear") (vp_var (pv 0)) fc_Ear_count)
      (vss_cons (vs_if (vt_w (vw_or (vt_notin hr (ve_rd (pv 1)) (ve_rdP (vp_fld (c := "Setup") (vp_fld (c := "Ear") (vp_var (pv 0)) (fc_Ear_setup)) (fc_Setup_kinds)))) (vw_or1 (vt_not (vt_val (vc_call D_reaches (hr.mono (by decide)) (takes_of rfl rfl rfl rfl) g_reaches (by rfl) (vr_cons (ve_rdP (vp_fld (c := "Setup") (vp_fld (c := "Ear") (vp_var (pv 0)) (fc_Ear_setup)) (fc_Setup_place))) (vr_cons (ve_rd (pv 3)) (vr_cons (ve_rd (pv 5)) (vr_cons (ve_rd (pv 6)) vr_nil)))))))))) (vss_one vs_retN) vss_nil)
      (vss_cons (vs_expr (ve_append (vp_fld (c := "Ear") (vp_var (pv 0)) (fc_Ear_signals)) (va_cons (ve_fzM (vc_call D_signal_of (hr.mono (by decide)) (takes_of rfl rfl rfl rfl) g_signal_of (by rfl) (vr_cons (ve_rdP (vp_fld (c := "Ear") (vp_var (pv 0)) (fc_Ear_setup))) (vr_cons (ve_rd (pv 1)) (vr_cons (ve_rd (pv 3)) (vr_cons (ve_eq hr (ve_rd (pv 2)) (ve_rdP (vp_fld (c := "Ear") (vp_var (pv 0)) (fc_Ear_entered)))) (vr_cons (ve_rd (pv 4)) vr_nil))))))) va_nil) (by decide)))
      (vss_one (vs_if (vt_eq hr (ve_rd (pv 1)) vc_str) (vss_one (vs_fld (c := "Ear") (vp_var (pv 0)) (by exact (ve_rd (pv 2))) fc_Ear_entered)) vss_nil))))))
/-! ### Ear.end -/
namespace N_Ear_end
abbrev st : Stmt := (inCls (top 13) 2)
abbrev N : List Str := ["self"]
theorem sc : FnScope N ["self"] (defScope st) := ⟨rfl, rfl, rfl, by decide +kernel, rfl, by decide +kernel, by decide +kernel⟩
def m : SM := (iteM (testM (callM 1 [.tmp] f_hears_end (consM (rdP 0 [Stp.fld "Ear" "setup"]) nilM))) (dropM (lmM 0 [Stp.fld "Ear" "signals"] appF (consM (cM c_END) nilM))) skipM)
end N_Ear_end
def f_Ear_end : FM := fnM 1 1 [] N_Ear_end.m
open N_Ear_end in
theorem d_Ear_end {f : Addr} {fd : FuncData} (F : Fun K "end" "Ear.end" N_Ear_end.st f fd) (hb : Binds K fd ["self"] []) (g_END : GK K mg "END" c_END)
    (fc_Ear_setup : ∀ C, mg "Ear" = some (.ref C) → Cls K C ∧ NoAttr K C "setup")
    (fc_Ear_signals : ∀ C, mg "Ear" = some (.ref C) → Cls K C ∧ NoAttr K C "signals")
    {a_hears_end : Addr} {fd_hears_end : FuncData} (g_hears_end : mg "hears_end" = some (.ref a_hears_end)) (D_hears_end : Df P w K mg base eC 1 a_hears_end fd_hears_end ["setup"] f_hears_end) :
    Df P w K mg base eC 2 f fd ["self"] f_Ear_end := df_of F sc hb fun cdv A outer s H E hr => by
  have hr : Room 1 (A.deeper (envOfC "Ear.end" (defScope N_Ear_end.st) s.heap.objs.size f cdv)) := hr
  exact (vss_one (vs_if (vt_val (vc_call D_hears_end (hr.mono (by decide)) (takes_of rfl rfl rfl rfl) g_hears_end (by rfl) (vr_cons (ve_rdP (vp_fld (c := "Ear") (vp_var (pv 0)) (fc_Ear_setup))) vr_nil))) (vss_one (vs_expr (ve_append (vp_fld (c := "Ear") (vp_var (pv 0)) (fc_Ear_signals)) (va_cons (ve_gk (by rfl) g_END) va_nil) (by decide)))) vss_nil))
/-! ### _led -/
namespace N__led
abbrev st : Stmt := (top 25)
abbrev N : List Str := ["number", "troubles", "found"]
theorem sc : FnScope N ["number", "troubles"] (defScope st) := ⟨rfl, rfl, rfl, by decide +kernel, rfl, by decide +kernel, by decide +kernel⟩
def m : SM := (seqM (setM 2 (clM lstD (consM (rd 0) nilM)))
  (seqM (iteM (andM (testM (opM (inP false) (rd 0) (clM tupD (consM (intM 1) (consM (intM 2) nilM))))) (testM (opM (inP false) (strM "removals") (rd 1)))) (dropM (lmM 2 [] appF (consM (intM 0) nilM))) skipM)
  (seqM (iteM (andM (testM (opM (inP false) (rd 0) (clM tupD (consM (intM 1) (consM (intM 2) nilM))))) (testM (opM (inP false) (strM "moves") (rd 1)))) (dropM (lmM 2 [] appF (consM (opM subD (intM 3) (rd 0)) nilM))) skipM)
  (retM (mv 2)))))
end N__led
def f__led : FM := fnM 2 3 [2] N__led.m
open N__led in
theorem d__led {f : Addr} {fd : FuncData} (F : Fun K "_led" "_led" N__led.st f fd) (hb : Binds K fd ["number", "troubles"] [])  :
    Df P w K mg base eC 1 f fd ["number", "troubles"] f__led := df_of F sc hb fun cdv A outer s H E hr => by
  have hr : Room 0 (A.deeper (envOfC "_led" (defScope N__led.st) s.heap.objs.size f cdv)) := hr
  exact (vss_cons (vs_set (i := 2) (by decide) (ve_lst (va_cons (ve_rd (pv 0)) va_nil)) sc.nd rfl (by first | exact Or.inl rfl | exact Or.inr rfl))
      (vss_cons (vs_if (vt_w (vw_and (vt_in hr (ve_rd (pv 0)) (ve_tup (va_cons vc_int (va_cons vc_int va_nil)))) (vw_and1 (vt_in hr vc_str (ve_rd (pv 1)))))) (vss_one (vs_expr (ve_append (vp_var (pv 2)) (va_cons vc_int va_nil) (by decide)))) vss_nil)
      (vss_cons (vs_if (vt_w (vw_and (vt_in hr (ve_rd (pv 0)) (ve_tup (va_cons vc_int (va_cons vc_int va_nil)))) (vw_and1 (vt_in hr vc_str (ve_rd (pv 1)))))) (vss_one (vs_expr (ve_append (vp_var (pv 2)) (va_cons (ve_op op_sub vop_i0 vc_int (ve_rd (pv 0))) va_nil) (by decide)))) vss_nil)
      (vss_one (vs_ret (ve_mv (pv 2)))))))
/-! ### changed -/
namespace N_changed
abbrev st : Stmt := (top 26)
abbrev N : List Str := ["situation", "troubles", "found", "now", "over", "last", "told"]
theorem sc : FnScope N ["situation", "troubles"] (defScope st) := ⟨rfl, rfl, rfl, by decide +kernel, rfl, by decide +kernel, by decide +kernel⟩
def m : SM := (seqM (asgM (tgTup 2 (tgCons (tgN 4) (tgCons (tgN 5) tgNil))) (rd 0))
  (seqM (setM 2 (clM lstD nilM))
  (seqM (forS (itM (callM 2 [.tmp, .tmp] f__led (consM (rd 4) (consM (rd 1) nilM)))) (tgN 3) (iteM (testM (opM (eqP false) (rd 5) (cM c_CURRENT))) (dropM (lmM 2 [] appF (consM (fzM (clM tupD (consM (rd 3) (consM (ifM (testM (opM (eqP true) (rd 3) (intM 0))) (cM c_CURRENT) (intM 0)) nilM)))) nilM))) (dropM (lmM 2 [] extF (consM (fzM (lcM [6] (itM (callM 2 [.tmp, .tmp] f__led (consM (rd 5) (consM (rd 1) nilM)))) (tgN 6) yesM (clM tupD (consM (rd 3) (consM (rd 6) nilM))))) nilM)))))
  (retM (mv 2)))))
end N_changed
def f_changed : FM := fnM 2 7 [2, 3, 4, 5] N_changed.m
open N_changed in
theorem d_changed {f : Addr} {fd : FuncData} (F : Fun K "changed" "changed" N_changed.st f fd) (hb : Binds K fd ["situation", "troubles"] []) (g_CURRENT : GK K mg "CURRENT" c_CURRENT)
    {a__led : Addr} {fd__led : FuncData} (g__led : mg "_led" = some (.ref a__led)) (D__led : Df P w K mg base eC 1 a__led fd__led ["number", "troubles"] f__led) :
    Df P w K mg base eC 2 f fd ["situation", "troubles"] f_changed := df_of F sc hb fun cdv A outer s H E hr => by
  have hr : Room 1 (A.deeper (envOfC "changed" (defScope N_changed.st) s.heap.objs.size f cdv)) := hr
  exact (vss_cons (vs_asg (ve_rd (pv 0)) (vg_tup rfl (vgs_cons (vg_name (i := 4) (by decide) sc.nd rfl (by first | exact Or.inl rfl | exact Or.inr rfl)) (vgs_cons (vg_name (i := 5) (by decide) sc.nd rfl (by first | exact Or.inl rfl | exact Or.inr rfl)) vgs_nil))))
      (vss_cons (vs_set (i := 2) (by decide) (ve_lst va_nil) sc.nd rfl (by first | exact Or.inl rfl | exact Or.inr rfl))
      (vss_cons (vs_for (passes_of rfl) rfl (vi_seq (vc_call D__led (hr.mono (by decide)) (takes_of rfl rfl rfl rfl) g__led (by rfl) (vr_cons (ve_rd (pv 4)) (vr_cons (ve_rd (pv 1)) vr_nil)))) (vg_name (i := 3) (by decide) sc.nd rfl (by first | exact Or.inl rfl | exact Or.inr rfl)) (vss_one (vs_if (vt_eq hr (ve_rd (pv 5)) (ve_gk (by rfl) g_CURRENT)) (vss_one (vs_expr (ve_append (vp_var (pv 2)) (va_cons (ve_fzM (ve_tup (va_cons (ve_rd (pv 3)) (va_cons (ve_if (vt_ne hr (ve_rd (pv 3)) vc_int) (ve_gk (by rfl) g_CURRENT) vc_int) va_nil)))) va_nil) (by decide)))) (vss_one (vs_expr (ve_extend (vp_var (pv 2)) (va_cons (ve_fzM (ve_lc (own := [("told", 6)]) (SA := [6]) (g := tgN 6) rfl sc.nd (blkOk_by (own := [("told", 6)]) (N := N) (sc := defScope st) (by decide +kernel)) (vi_seq (vc_call D__led (hr.mono (by decide)) (takes_of rfl rfl rfl rfl) g__led (by rfl) (vr_cons (ve_rd (pv 5)) (vr_cons (ve_rd (pv 1)) vr_nil)))) (fun _ _ _ _ _ => pg_name (i := 6) sc.nd rfl (Or.inl rfl)) (tk_name (by decide)) (by decide) (fun _ _ _ _ _ => pts_yes') (fun _ _ _ _ _ => (ve_tup (va_cons (ve_rd (pv 3)) (va_cons (ve_rd (pv 6)) va_nil)))))) va_nil) (by decide)))))))
      (vss_one (vs_ret (ve_mv (pv 2)))))))
/-! ### _targets -/
namespace N__targets
abbrev st : Stmt := (top 27)
abbrev N : List Str := ["over", "last", "found"]
theorem sc : FnScope N ["over", "last"] (defScope st) := ⟨rfl, rfl, rfl, by decide +kernel, rfl, by decide +kernel, by decide +kernel⟩
def m : SM := (seqM (setM 2 (clM lstD (consM (intM 2) (consM (intM 3) nilM))))
  (seqM (iteM (testM (opM (inP false) (rd 1) (clM tupD (consM (intM 1) (consM (intM 2) (consM (intM 3) nilM)))))) (dropM (lmM 2 [] appF (consM (intM 1) nilM))) skipM)
  (seqM (iteM (andM (testM (opM (eqP true) (rd 0) (intM 3))) (testM (opM (eqP true) (rd 1) (intM 3)))) (dropM (lmM 2 [] appF (consM (intM 4) nilM))) skipM)
  (retM (mv 2)))))
end N__targets
def f__targets : FM := fnM 2 3 [2] N__targets.m
open N__targets in
theorem d__targets {f : Addr} {fd : FuncData} (F : Fun K "_targets" "_targets" N__targets.st f fd) (hb : Binds K fd ["over", "last"] [])  :
    Df P w K mg base eC 1 f fd ["over", "last"] f__targets := df_of F sc hb fun cdv A outer s H E hr => by
  have hr : Room 0 (A.deeper (envOfC "_targets" (defScope N__targets.st) s.heap.objs.size f cdv)) := hr
  exact (vss_cons (vs_set (i := 2) (by decide) (ve_lst (va_cons vc_int (va_cons vc_int va_nil))) sc.nd rfl (by first | exact Or.inl rfl | exact Or.inr rfl))
      (vss_cons (vs_if (vt_in hr (ve_rd (pv 1)) (ve_tup (va_cons vc_int (va_cons vc_int (va_cons vc_int va_nil))))) (vss_one (vs_expr (ve_append (vp_var (pv 2)) (va_cons vc_int va_nil) (by decide)))) vss_nil)
      (vss_cons (vs_if (vt_w (vw_and (vt_ne hr (ve_rd (pv 0)) vc_int) (vw_and1 (vt_ne hr (ve_rd (pv 1)) vc_int)))) (vss_one (vs_expr (ve_append (vp_var (pv 2)) (va_cons vc_int va_nil) (by decide)))) vss_nil)
      (vss_one (vs_ret (ve_mv (pv 2)))))))
/-! ### ticks -/
namespace N_ticks
abbrev st : Stmt := (top 28)
abbrev N : List Str := ["situation", "troubles", "targets", "found", "over", "last", "target"]
theorem sc : FnScope N ["situation", "troubles"] (defScope st) := ⟨rfl, rfl, rfl, by decide +kernel, rfl, by decide +kernel, by decide +kernel⟩
def m : SM := (seqM (asgM (tgTup 2 (tgCons (tgN 4) (tgCons (tgN 5) tgNil))) (rd 0))
  (seqM (setM 2 (fzM (callM 2 [.tmp, .tmp] f__targets (consM (rd 4) (consM (rd 5) nilM)))))
  (seqM (setM 3 (lcM [6] (itM (rd 2)) (tgN 6) yesM (clM tupD (consM (cM c_POINT) (consM (rd 6) nilM)))))
  (seqM (iteM (testM (opM (eqP true) (rd 4) (intM 0))) (dropM (lmM 3 [] appF (consM (fzM (clM tupD (consM (cM c_POINT) (consM (intM 0) nilM)))) nilM))) skipM)
  (seqM (iteM (andM (testM (opM (inP false) (rd 4) (clM tupD (consM (intM 1) (consM (intM 2) nilM))))) (testM (opM (inP false) (strM "slips") (rd 1)))) (dropM (lmM 3 [] extF (consM (fzM (lcM [6] (itM (rd 2)) (tgN 6) yesM (clM tupD (consM (cM c_SLIP) (consM (rd 6) nilM))))) nilM))) skipM)
  (seqM (iteM (testM (opM (inP false) (strM "outs") (rd 1))) (dropM (lmM 3 [] appF (consM (fzM (clM tupD (consM (cM c_OUT) (consM (intM 0) nilM)))) nilM))) skipM)
  (seqM (dropM (lmM 3 [] extF (consM (fzM (clM lstD (consM (clM tupD (consM (cM c_DROP) (consM (intM 0) nilM))) (consM (clM tupD (consM (cM c_CANCEL) (consM (intM 0) nilM))) nilM)))) nilM)))
  (seqM (iteM (testM (opM (inP false) (strM "silent") (rd 1))) (dropM (lmM 3 [] extF (consM (fzM (clM lstD (consM (clM tupD (consM (cM c_SILENT_DROP) (consM (intM 0) nilM))) (consM (clM tupD (consM (cM c_SILENT_CANCEL) (consM (intM 0) nilM))) nilM)))) nilM))) skipM)
  (retM (mv 3))))))))))
end N_ticks
def f_ticks : FM := fnM 2 7 [2, 3, 4, 5] N_ticks.m
open N_ticks in
theorem d_ticks {f : Addr} {fd : FuncData} (F : Fun K "ticks" "ticks" N_ticks.st f fd) (hb : Binds K fd ["situation", "troubles"] []) (g_POINT : GK K mg "POINT" c_POINT)
    (g_SLIP : GK K mg "SLIP" c_SLIP)
    (g_OUT : GK K mg "OUT" c_OUT)
    (g_DROP : GK K mg "DROP" c_DROP)
    (g_CANCEL : GK K mg "CANCEL" c_CANCEL)
    (g_SILENT_DROP : GK K mg "SILENT_DROP" c_SILENT_DROP)
    (g_SILENT_CANCEL : GK K mg "SILENT_CANCEL" c_SILENT_CANCEL)
    {a__targets : Addr} {fd__targets : FuncData} (g__targets : mg "_targets" = some (.ref a__targets)) (D__targets : Df P w K mg base eC 1 a__targets fd__targets ["over", "last"] f__targets) :
    Df P w K mg base eC 2 f fd ["situation", "troubles"] f_ticks := df_of F sc hb fun cdv A outer s H E hr => by
  have hr : Room 1 (A.deeper (envOfC "ticks" (defScope N_ticks.st) s.heap.objs.size f cdv)) := hr
  exact (vss_cons (vs_asg (ve_rd (pv 0)) (vg_tup rfl (vgs_cons (vg_name (i := 4) (by decide) sc.nd rfl (by first | exact Or.inl rfl | exact Or.inr rfl)) (vgs_cons (vg_name (i := 5) (by decide) sc.nd rfl (by first | exact Or.inl rfl | exact Or.inr rfl)) vgs_nil))))
      (vss_cons (vs_set (i := 2) (by decide) (ve_fzM (vc_call D__targets (hr.mono (by decide)) (takes_of rfl rfl rfl rfl) g__targets (by rfl) (vr_cons (ve_rd (pv 4)) (vr_cons (ve_rd (pv 5)) vr_nil)))) sc.nd rfl (by first | exact Or.inl rfl | exact Or.inr rfl))
      (vss_cons (vs_setLc (i := 3) (by decide) (own := [("target", 6)]) (SA := [6]) (g := tgN 6) rfl sc.nd rfl rfl (sw_true rfl rfl rfl (by decide +kernel)) (blkOk_by (own := [("target", 6)]) (N := N) (sc := defScope st) (by decide +kernel)) (vi_seq (ve_rd (pv 2))) (fun _ _ _ _ _ => pg_name (i := 6) sc.nd rfl (Or.inl rfl)) (tk_name (by decide)) (by decide) (fun _ _ _ _ _ => pts_yes') (fun _ _ _ _ _ => (ve_tup (va_cons (ve_gk (by rfl) g_POINT) (va_cons (ve_rd (pv 6)) va_nil)))))
      (vss_cons (vs_if (vt_ne hr (ve_rd (pv 4)) vc_int) (vss_one (vs_expr (ve_append (vp_var (pv 3)) (va_cons (ve_fzM (ve_tup (va_cons (ve_gk (by rfl) g_POINT) (va_cons vc_int va_nil)))) va_nil) (by decide)))) vss_nil)
      (vss_cons (vs_if (vt_w (vw_and (vt_in hr (ve_rd (pv 4)) (ve_tup (va_cons vc_int (va_cons vc_int va_nil)))) (vw_and1 (vt_in hr vc_str (ve_rd (pv 1)))))) (vss_one (vs_expr (ve_extend (vp_var (pv 3)) (va_cons (ve_fzM (ve_lc (own := [("target", 6)]) (SA := [6]) (g := tgN 6) rfl sc.nd (blkOk_by (own := [("target", 6)]) (N := N) (sc := defScope st) (by decide +kernel)) (vi_seq (ve_rd (pv 2))) (fun _ _ _ _ _ => pg_name (i := 6) sc.nd rfl (Or.inl rfl)) (tk_name (by decide)) (by decide) (fun _ _ _ _ _ => pts_yes') (fun _ _ _ _ _ => (ve_tup (va_cons (ve_gk (by rfl) g_SLIP) (va_cons (ve_rd (pv 6)) va_nil)))))) va_nil) (by decide)))) vss_nil)
      (vss_cons (vs_if (vt_in hr vc_str (ve_rd (pv 1))) (vss_one (vs_expr (ve_append (vp_var (pv 3)) (va_cons (ve_fzM (ve_tup (va_cons (ve_gk (by rfl) g_OUT) (va_cons vc_int va_nil)))) va_nil) (by decide)))) vss_nil)
      (vss_cons (vs_expr (ve_extend (vp_var (pv 3)) (va_cons (ve_fzM (ve_lst (va_cons (ve_tup (va_cons (ve_gk (by rfl) g_DROP) (va_cons vc_int va_nil))) (va_cons (ve_tup (va_cons (ve_gk (by rfl) g_CANCEL) (va_cons vc_int va_nil))) va_nil)))) va_nil) (by decide)))
      (vss_cons (vs_if (vt_in hr vc_str (ve_rd (pv 1))) (vss_one (vs_expr (ve_extend (vp_var (pv 3)) (va_cons (ve_fzM (ve_lst (va_cons (ve_tup (va_cons (ve_gk (by rfl) g_SILENT_DROP) (va_cons vc_int va_nil))) (va_cons (ve_tup (va_cons (ve_gk (by rfl) g_SILENT_CANCEL) (va_cons vc_int va_nil))) va_nil)))) va_nil) (by decide)))) vss_nil)
      (vss_one (vs_ret (ve_mv (pv 3))))))))))))
/-! ### turns -/
namespace N_turns
abbrev st : Stmt := (top 29)
abbrev N : List Str := ["situation", "troubles", "many", "found", "now", "tick", "stops"]
theorem sc : FnScope N ["situation", "troubles"] (defScope st) := ⟨rfl, rfl, rfl, by decide +kernel, rfl, by decide +kernel, by decide +kernel⟩
def m : SM := (seqM (setM 2 (fzM (ifM (testM (opM (inP false) (strM "stops") (rd 1))) (intM 8) (intM 1))))
  (seqM (setM 3 (clM lstD nilM))
  (seqM (forS (itM (callM 2 [.tmp, .tmp] f_changed (consM (rd 0) (consM (rd 1) nilM)))) (tgN 4) (forS (itM (callM 2 [.tmp, .tmp] f_ticks (consM (rd 4) (consM (rd 1) nilM)))) (tgN 5) (dropM (lmM 3 [] extF (consM (fzM (lcM [6] (rngM rng1 (consM (rd 2) nilM)) (tgN 6) yesM (opM addD (opM addD (rd 4) (rd 5)) (clM tupD (consM (rd 6) nilM))))) nilM)))))
  (retM (clM (one sortedG) (consM (fzv 3) nilM))))))
end N_turns
def f_turns : FM := fnM 2 7 [2, 3, 4, 5] N_turns.m
open N_turns in
theorem d_turns {f : Addr} {fd : FuncData} (F : Fun K "turns" "turns" N_turns.st f fd) (hb : Binds K fd ["situation", "troubles"] []) (nb : NoB mg)
    {a_changed : Addr} {fd_changed : FuncData} (g_changed : mg "changed" = some (.ref a_changed)) (D_changed : Df P w K mg base eC 2 a_changed fd_changed ["situation", "troubles"] f_changed)
    {a_ticks : Addr} {fd_ticks : FuncData} (g_ticks : mg "ticks" = some (.ref a_ticks)) (D_ticks : Df P w K mg base eC 2 a_ticks fd_ticks ["situation", "troubles"] f_ticks) :
    Df P w K mg base eC 3 f fd ["situation", "troubles"] f_turns := df_of F sc hb fun cdv A outer s H E hr => by
  have hr : Room 2 (A.deeper (envOfC "turns" (defScope N_turns.st) s.heap.objs.size f cdv)) := hr
  exact (vss_cons (vs_set (i := 2) (by decide) (ve_fzM (ve_if (vt_in hr vc_str (ve_rd (pv 1))) vc_int vc_int)) sc.nd rfl (by first | exact Or.inl rfl | exact Or.inr rfl))
      (vss_cons (vs_set (i := 3) (by decide) (ve_lst va_nil) sc.nd rfl (by first | exact Or.inl rfl | exact Or.inr rfl))
      (vss_cons (vs_for (passes_of rfl) rfl (vi_seq (vc_call D_changed (hr.mono (by decide)) (takes_of rfl rfl rfl rfl) g_changed (by rfl) (vr_cons (ve_rd (pv 0)) (vr_cons (ve_rd (pv 1)) vr_nil)))) (vg_name (i := 4) (by decide) sc.nd rfl (by first | exact Or.inl rfl | exact Or.inr rfl)) (vss_one (vs_for (passes_of rfl) rfl (vi_seq (vc_call D_ticks (hr.mono (by decide)) (takes_of rfl rfl rfl rfl) g_ticks (by rfl) (vr_cons (ve_rd (pv 4)) (vr_cons (ve_rd (pv 1)) vr_nil)))) (vg_name (i := 5) (by decide) sc.nd rfl (by first | exact Or.inl rfl | exact Or.inr rfl)) (vss_one (vs_expr (ve_extend (vp_var (pv 3)) (va_cons (ve_fzM (ve_lc (own := [("stops", 6)]) (SA := [6]) (g := tgN 6) rfl sc.nd (blkOk_by (own := [("stops", 6)]) (N := N) (sc := defScope st) (by decide +kernel)) (vi_range1 rfl nb.range_ (va_cons (ve_rd (pv 2)) va_nil)) (fun _ _ _ _ _ => pg_name (i := 6) sc.nd rfl (Or.inl rfl)) (tk_name (by decide)) (by decide) (fun _ _ _ _ _ => pts_yes') (fun _ _ _ _ _ => (ve_op op_addR vop_add (ve_op op_addR vop_add (ve_rd (pv 4)) (ve_rd (pv 5))) (ve_tup (va_cons (ve_rd (pv 6)) va_nil)))))) va_nil) (by decide)))))))
      (vss_one (vs_ret (vc_sorted hr rfl nb.sorted_ Boot.sorted (va_cons (ve_fz (pv 3)) va_nil)))))))
/-! ### Meeting._entered -/
namespace N_Meeting__entered
abbrev st : Stmt := (inCls (top 30) 1)
abbrev N : List Str := ["self"]
theorem sc : FnScope N ["self"] (defScope st) := ⟨rfl, rfl, rfl, by decide +kernel, rfl, by decide +kernel, by decide +kernel⟩
def m : SM := (seqM (iteM (testM (opM (eqP false) (rdP 0 [Stp.fld "Meeting" "last"]) (cM c_CURRENT))) (retM (strM "current")) skipM)
  (retM (ifM (testM (opM (eqP true) (rdP 0 [Stp.fld "Meeting" "last"]) (intM 0))) (strM "last") nonM)))
end N_Meeting__entered
def f_Meeting__entered : FM := fnM 1 1 [] N_Meeting__entered.m
open N_Meeting__entered in
theorem d_Meeting__entered {f : Addr} {fd : FuncData} (F : Fun K "_entered" "Meeting._entered" N_Meeting__entered.st f fd) (hb : Binds K fd ["self"] []) (g_CURRENT : GK K mg "CURRENT" c_CURRENT)
    (fc_Meeting_last : ∀ C, mg "Meeting" = some (.ref C) → Cls K C ∧ NoAttr K C "last") :
    Df P w K mg base eC 1 f fd ["self"] f_Meeting__entered := df_of F sc hb fun cdv A outer s H E hr => by
  have hr : Room 0 (A.deeper (envOfC "Meeting._entered" (defScope N_Meeting__entered.st) s.heap.objs.size f cdv)) := hr
  exact (vss_cons (vs_if (vt_eq hr (ve_rdP (vp_fld (c := "Meeting") (vp_var (pv 0)) (fc_Meeting_last))) (ve_gk (by rfl) g_CURRENT)) (vss_one (vs_ret vc_str)) vss_nil)
      (vss_one (vs_ret (ve_if (vt_ne hr (ve_rdP (vp_fld (c := "Meeting") (vp_var (pv 0)) (fc_Meeting_last))) vc_int) vc_str vc_non))))
/-! ### Meeting.__init__ -/
namespace N_Meeting___init__
abbrev st : Stmt := (inCls (top 30) 0)
abbrev N : List Str := ["self", "setup", "turn", "stops"]
theorem sc : FnScope N ["self", "setup", "turn"] (defScope st) := ⟨rfl, rfl, rfl, by decide +kernel, rfl, by decide +kernel, by decide +kernel⟩
def m : SM := (seqM (asgX (tgTupX 5 (tgCons (tgF 0 [] "Meeting" "over") (tgCons (tgF 0 [] "Meeting" "last") (tgCons (tgF 0 [] "Meeting" "tick") (tgCons (tgF 0 [] "Meeting" "target") (tgCons (tgN 3) tgNil)))))) (rd 2))
  (stFld 0 [] "Meeting" "ear" (newM 4 "Ear" [.tmp, .tmp, .tmp] f_Ear___init__ (consM (rd 1) (consM (fzM (methM 1 "Meeting" "_entered" 0 [] [] f_Meeting__entered nilM)) (consM (rd 3) nilM))))))
end N_Meeting___init__
def f_Meeting___init__ : FM := fnM 3 4 [3] N_Meeting___init__.m
open N_Meeting___init__ in
theorem d_Meeting___init__ {f : Addr} {fd : FuncData} (F : Fun K "__init__" "Meeting.__init__" N_Meeting___init__.st f fd) (hb : Binds K fd ["self", "setup", "turn"] []) (fc_Meeting_ear : ∀ C, mg "Meeting" = some (.ref C) → Cls K C ∧ NoAttr K C "ear")
    (fc_Meeting_last : ∀ C, mg "Meeting" = some (.ref C) → Cls K C ∧ NoAttr K C "last")
    (fc_Meeting_over : ∀ C, mg "Meeting" = some (.ref C) → Cls K C ∧ NoAttr K C "over")
    (fc_Meeting_target : ∀ C, mg "Meeting" = some (.ref C) → Cls K C ∧ NoAttr K C "target")
    (fc_Meeting_tick : ∀ C, mg "Meeting" = some (.ref C) → Cls K C ∧ NoAttr K C "tick")
    {a_Ear : Addr} (g_Ear : mg "Ear" = some (.ref a_Ear))
    {a_Meeting : Addr} (g_Meeting : mg "Meeting" = some (.ref a_Meeting)) (cl_Meeting : Cls K a_Meeting)
    {a_Ear___init__ : Addr} {fd_Ear___init__ : FuncData} (mk_Ear : Mk K a_Ear a_Ear___init__) (D_Ear___init__ : Df P w K mg base eC 1 a_Ear___init__ fd_Ear___init__ ["self", "setup", "entered", "stops"] f_Ear___init__)
    {a_Meeting__entered : Addr} {fd_Meeting__entered : FuncData} (me_Meeting__entered : Meth K a_Meeting "_entered" a_Meeting__entered) (D_Meeting__entered : Df P w K mg base eC 1 a_Meeting__entered fd_Meeting__entered ["self"] f_Meeting__entered) :
    Df P w K mg base eC 3 f fd ["self", "setup", "turn"] f_Meeting___init__ := df_of F sc hb fun cdv A outer s H E hr => by
  have hr : Room 2 (A.deeper (envOfC "Meeting.__init__" (defScope N_Meeting___init__.st) s.heap.objs.size f cdv)) := hr
  exact (vss_cons (vs_asgX (ve_rd (pv 2)) (vgx_tup rfl (vgsx_cons (vgx_fld (c := "Meeting") (vp_var (pv 0)) fc_Meeting_over) (vgsx_cons (vgx_fld (c := "Meeting") (vp_var (pv 0)) fc_Meeting_last) (vgsx_cons (vgx_fld (c := "Meeting") (vp_var (pv 0)) fc_Meeting_tick) (vgsx_cons (vgx_fld (c := "Meeting") (vp_var (pv 0)) fc_Meeting_target) (vgsx_cons (vgx_of (vg_name (i := 3) (by decide) sc.nd rfl (by first | exact Or.inl rfl | exact Or.inr rfl))) vgsx_nil)))))))
      (vss_one (vs_fld (c := "Meeting") (vp_var (pv 0)) (by exact (vc_new mk_Ear D_Ear___init__ (hr.mono (by decide)) (takes_of rfl rfl rfl rfl) g_Ear (by rfl) (vr_cons (ve_rd (pv 1)) (vr_cons (ve_fzM (vc_meth0 (c := "Meeting") (vp_var (pv 0)) D_Meeting__entered (hr.mono (by decide)) (takes_of rfl rfl rfl rfl) g_Meeting cl_Meeting me_Meeting__entered)) (vr_cons (ve_rd (pv 3)) vr_nil))))) fc_Meeting_ear)))
/-! ### Meeting.event -/
namespace N_Meeting_event
abbrev st : Stmt := (inCls (top 30) 2)
abbrev N : List Str := ["self", "kind", "who", "number", "related"]
theorem sc : FnScope N ["self", "kind", "who", "number", "related"] (defScope st) := ⟨rfl, rfl, rfl, by decide +kernel, rfl, by decide +kernel, by decide +kernel⟩
def m : SM := (dropM (methM 6 "Ear" "event" 0 [Stp.fld "Meeting" "ear"] [.tmp, .tmp, .tmp, .tmp, .tmp] f_Ear_event (consM (rd 1) (consM (rd 2) (consM (opM ixD (cM c_SIDE_OF) (rd 3)) (consM (opM ixD (cM c_SIDE_OF) (rd 4)) (consM (blM false) nilM)))))))
end N_Meeting_event
def f_Meeting_event : FM := fnM 5 5 [] N_Meeting_event.m
open N_Meeting_event in
theorem d_Meeting_event {f : Addr} {fd : FuncData} (F : Fun K "event" "Meeting.event" N_Meeting_event.st f fd) (hb : Binds K fd ["self", "kind", "who", "number", "related"] []) (g_SIDE_OF : GK K mg "SIDE_OF" c_SIDE_OF)
    (fc_Meeting_ear : ∀ C, mg "Meeting" = some (.ref C) → Cls K C ∧ NoAttr K C "ear")
    {a_Ear : Addr} (g_Ear : mg "Ear" = some (.ref a_Ear)) (cl_Ear : Cls K a_Ear)
    {a_Ear_event : Addr} {fd_Ear_event : FuncData} (me_Ear_event : Meth K a_Ear "event" a_Ear_event) (D_Ear_event : Df P w K mg base eC 3 a_Ear_event fd_Ear_event ["self", "kind", "target", "side", "related", "is_root"] f_Ear_event) :
    Df P w K mg base eC 4 f fd ["self", "kind", "who", "number", "related"] f_Meeting_event := df_of F sc hb fun cdv A outer s H E hr => by
  have hr : Room 3 (A.deeper (envOfC "Meeting.event" (defScope N_Meeting_event.st) s.heap.objs.size f cdv)) := hr
  exact (vss_one (vs_expr (vc_meth (c := "Ear") (vp_fld (c := "Meeting") (vp_var (pv 0)) (fc_Meeting_ear)) D_Ear_event (hr.mono (by decide)) (takes_of rfl rfl rfl rfl) g_Ear cl_Ear me_Ear_event (vr_cons (ve_rd (pv 1)) (vr_cons (ve_rd (pv 2)) (vr_cons (ve_ix ix_lt vop_ix (ve_gk (by rfl) g_SIDE_OF) (ve_rd (pv 3))) (vr_cons (ve_ix ix_lt vop_ix (ve_gk (by rfl) g_SIDE_OF) (ve_rd (pv 4))) (vr_cons vc_bl vr_nil))))))))
/-! ### Meeting.pointed -/
namespace N_Meeting_pointed
abbrev st : Stmt := (inCls (top 30) 3)
abbrev N : List Str := ["self"]
theorem sc : FnScope N ["self"] (defScope st) := ⟨rfl, rfl, rfl, by decide +kernel, rfl, by decide +kernel, by decide +kernel⟩
def m : SM := (seqM (iteM (testM (opM (eqP false) (rdP 0 [Stp.fld "Meeting" "target"]) (intM 0))) (retM (clM tupD (consM (strM "current") (consM (rdP 0 [Stp.fld "Meeting" "over"]) nilM)))) skipM)
  (seqM (iteM (testM (opM (eqP false) (rdP 0 [Stp.fld "Meeting" "target"]) (intM 1))) (retM (clM tupD (consM (strM "last") (consM (rdP 0 [Stp.fld "Meeting" "last"]) nilM)))) skipM)
  (retM (clM tupD (consM (strM "new") (consM (opM subD (rdP 0 [Stp.fld "Meeting" "target"]) (intM 1)) nilM))))))
end N_Meeting_pointed
def f_Meeting_pointed : FM := fnM 1 1 [] N_Meeting_pointed.m
open N_Meeting_pointed in
theorem d_Meeting_pointed {f : Addr} {fd : FuncData} (F : Fun K "pointed" "Meeting.pointed" N_Meeting_pointed.st f fd) (hb : Binds K fd ["self"] []) (fc_Meeting_last : ∀ C, mg "Meeting" = some (.ref C) → Cls K C ∧ NoAttr K C "last")
    (fc_Meeting_over : ∀ C, mg "Meeting" = some (.ref C) → Cls K C ∧ NoAttr K C "over")
    (fc_Meeting_target : ∀ C, mg "Meeting" = some (.ref C) → Cls K C ∧ NoAttr K C "target") :
    Df P w K mg base eC 1 f fd ["self"] f_Meeting_pointed := df_of F sc hb fun cdv A outer s H E hr => by
  have hr : Room 0 (A.deeper (envOfC "Meeting.pointed" (defScope N_Meeting_pointed.st) s.heap.objs.size f cdv)) := hr
  exact (vss_cons (vs_if (vt_eq hr (ve_rdP (vp_fld (c := "Meeting") (vp_var (pv 0)) (fc_Meeting_target))) vc_int) (vss_one (vs_ret (ve_tup (va_cons vc_str (va_cons (ve_rdP (vp_fld (c := "Meeting") (vp_var (pv 0)) (fc_Meeting_over))) va_nil))))) vss_nil)
      (vss_cons (vs_if (vt_eq hr (ve_rdP (vp_fld (c := "Meeting") (vp_var (pv 0)) (fc_Meeting_target))) vc_int) (vss_one (vs_ret (ve_tup (va_cons vc_str (va_cons (ve_rdP (vp_fld (c := "Meeting") (vp_var (pv 0)) (fc_Meeting_last))) va_nil))))) vss_nil)
      (vss_one (vs_ret (ve_tup (va_cons vc_str (va_cons (ve_op op_sub vop_i0 (ve_rdP (vp_fld (c := "Meeting") (vp_var (pv 0)) (fc_Meeting_target))) vc_int) va_nil)))))))
/-! ### Meeting.point -/
namespace N_Meeting_point
abbrev st : Stmt := (inCls (top 30) 4)
abbrev N : List Str := ["self", "who", "number"]
theorem sc : FnScope N ["self"] (defScope st) := ⟨rfl, rfl, rfl, by decide +kernel, rfl, by decide +kernel, by decide +kernel⟩
def m : SM := (seqM (asgM (tgTup 2 (tgCons (tgN 1) (tgCons (tgN 2) tgNil))) (fzM (methM 1 "Meeting" "pointed" 0 [] [] f_Meeting_pointed nilM)))
  (seqM (iteM (testM (opM (eqP true) (rd 1) (strM "current"))) (seqM (dropM (methM 5 "Meeting" "event" 0 [] [.tmp, .tmp, .tmp, .tmp] f_Meeting_event (consM (strM "enter") (consM (rd 1) (consM (rd 2) (consM (rdP 0 [Stp.fld "Meeting" "over"]) nilM))))))
  (iteM (andM (testM (opM (eqP true) (rdP 0 [Stp.fld "Meeting" "over"]) (intM 0))) (testM (opM (eqP false) (rdP 0 [Stp.fld "Meeting" "tick"]) (cM c_POINT)))) (dropM (methM 5 "Meeting" "event" 0 [] [.tmp, .tmp, .tmp, .tmp] f_Meeting_event (consM (strM "leave") (consM (strM "current") (consM (rdP 0 [Stp.fld "Meeting" "over"]) (consM (rd 2) nilM)))))) skipM)) skipM)
  (seqM (dropM (methM 5 "Meeting" "event" 0 [] [.tmp, .tmp, .tmp, .tmp] f_Meeting_event (consM (strM "over") (consM (rd 1) (consM (rd 2) (consM (intM 0) nilM))))))
  (retM (clM tupD (consM (rd 1) (consM (rd 2) nilM)))))))
end N_Meeting_point
def f_Meeting_point : FM := fnM 1 3 [1, 2] N_Meeting_point.m
open N_Meeting_point in
theorem d_Meeting_point {f : Addr} {fd : FuncData} (F : Fun K "point" "Meeting.point" N_Meeting_point.st f fd) (hb : Binds K fd ["self"] []) (g_POINT : GK K mg "POINT" c_POINT)
    (fc_Meeting_over : ∀ C, mg "Meeting" = some (.ref C) → Cls K C ∧ NoAttr K C "over")
    (fc_Meeting_tick : ∀ C, mg "Meeting" = some (.ref C) → Cls K C ∧ NoAttr K C "tick")
    {a_Meeting : Addr} (g_Meeting : mg "Meeting" = some (.ref a_Meeting)) (cl_Meeting : Cls K a_Meeting)
    {a_Meeting_pointed : Addr} {fd_Meeting_pointed : FuncData} (me_Meeting_pointed : Meth K a_Meeting "pointed" a_Meeting_pointed) (D_Meeting_pointed : Df P w K mg base eC 1 a_Meeting_pointed fd_Meeting_pointed ["self"] f_Meeting_pointed)
    {a_Meeting_event : Addr} {fd_Meeting_event : FuncData} (me_Meeting_event : Meth K a_Meeting "event" a_Meeting_event) (D_Meeting_event : Df P w K mg base eC 4 a_Meeting_event fd_Meeting_event ["self", "kind", "who", "number", "related"] f_Meeting_event) :
    Df P w K mg base eC 5 f fd ["self"] f_Meeting_point := df_of F sc hb fun cdv A outer s H E hr => by
  have hr : Room 4 (A.deeper (envOfC "Meeting.point" (defScope N_Meeting_point.st) s.heap.objs.size f cdv)) := hr
  exact (vss_cons (vs_asg (ve_fzM (vc_meth0 (c := "Meeting") (vp_var (pv 0)) D_Meeting_pointed (hr.mono (by decide)) (takes_of rfl rfl rfl rfl) g_Meeting cl_Meeting me_Meeting_pointed)) (vg_tup rfl (vgs_cons (vg_name (i := 1) (by decide) sc.nd rfl (by first | exact Or.inl rfl | exact Or.inr rfl)) (vgs_cons (vg_name (i := 2) (by decide) sc.nd rfl (by first | exact Or.inl rfl | exact Or.inr rfl)) vgs_nil))))
      (vss_cons (vs_if (vt_ne hr (ve_rd (pv 1)) vc_str) (vss_cons (vs_expr (vc_meth (c := "Meeting") (vp_var (pv 0)) D_Meeting_event (hr.mono (by decide)) (takes_of rfl rfl rfl rfl) g_Meeting cl_Meeting me_Meeting_event (vr_cons vc_str (vr_cons (ve_rd (pv 1)) (vr_cons (ve_rd (pv 2)) (vr_cons (ve_rdP (vp_fld (c := "Meeting") (vp_var (pv 0)) (fc_Meeting_over))) vr_nil))))))
      (vss_one (vs_if (vt_w (vw_and (vt_ne hr (ve_rdP (vp_fld (c := "Meeting") (vp_var (pv 0)) (fc_Meeting_over))) vc_int) (vw_and1 (vt_eq hr (ve_rdP (vp_fld (c := "Meeting") (vp_var (pv 0)) (fc_Meeting_tick))) (ve_gk (by rfl) g_POINT))))) (vss_one (vs_expr (vc_meth (c := "Meeting") (vp_var (pv 0)) D_Meeting_event (hr.mono (by decide)) (takes_of rfl rfl rfl rfl) g_Meeting cl_Meeting me_Meeting_event (vr_cons vc_str (vr_cons vc_str (vr_cons (ve_rdP (vp_fld (c := "Meeting") (vp_var (pv 0)) (fc_Meeting_over))) (vr_cons (ve_rd (pv 2)) vr_nil))))))) vss_nil))) vss_nil)
      (vss_cons (vs_expr (vc_meth (c := "Meeting") (vp_var (pv 0)) D_Meeting_event (hr.mono (by decide)) (takes_of rfl rfl rfl rfl) g_Meeting cl_Meeting me_Meeting_event (vr_cons vc_str (vr_cons (ve_rd (pv 1)) (vr_cons (ve_rd (pv 2)) (vr_cons vc_int vr_nil))))))
      (vss_one (vs_ret (ve_tup (va_cons (ve_rd (pv 1)) (va_cons (ve_rd (pv 2)) va_nil))))))))
/-! ### Meeting.stop -/
namespace N_Meeting_stop
abbrev st : Stmt := (inCls (top 30) 5)
abbrev N : List Str := ["self", "kind"]
theorem sc : FnScope N ["self"] (defScope st) := ⟨rfl, rfl, rfl, by decide +kernel, rfl, by decide +kernel, by decide +kernel⟩
def m : SM := (seqM (iteM (testM (opM (eqP true) (rdP 0 [Stp.fld "Meeting" "over"]) (intM 0))) (seqM (setM 1 (fzM (ifM (testM (opM (inP false) (rdP 0 [Stp.fld "Meeting" "tick"]) (clM tupD (consM (cM c_DROP) (consM (cM c_SILENT_DROP) nilM))))) (strM "drop") (strM "leave"))))
  (dropM (methM 5 "Meeting" "event" 0 [] [.tmp, .tmp, .tmp, .tmp] f_Meeting_event (consM (rd 1) (consM (strM "current") (consM (rdP 0 [Stp.fld "Meeting" "over"]) (consM (intM 0) nilM))))))) skipM)
  (seqM (iteM (testM (opM (inP false) (rdP 0 [Stp.fld "Meeting" "tick"]) (clM tupD (consM (cM c_DROP) (consM (cM c_CANCEL) nilM))))) (dropM (methM 1 "Ear" "end" 0 [Stp.fld "Meeting" "ear"] [] f_Ear_end nilM)) skipM)
  (retM (clM tupD (consM nonM (consM (intM 0) nilM))))))
end N_Meeting_stop
def f_Meeting_stop : FM := fnM 1 2 [1] N_Meeting_stop.m
open N_Meeting_stop in
theorem d_Meeting_stop {f : Addr} {fd : FuncData} (F : Fun K "stop" "Meeting.stop" N_Meeting_stop.st f fd) (hb : Binds K fd ["self"] []) (g_DROP : GK K mg "DROP" c_DROP)
    (g_SILENT_DROP : GK K mg "SILENT_DROP" c_SILENT_DROP)
    (g_CANCEL : GK K mg "CANCEL" c_CANCEL)
    (fc_Meeting_ear : ∀ C, mg "Meeting" = some (.ref C) → Cls K C ∧ NoAttr K C "ear")
    (fc_Meeting_over : ∀ C, mg "Meeting" = some (.ref C) → Cls K C ∧ NoAttr K C "over")
    (fc_Meeting_tick : ∀ C, mg "Meeting" = some (.ref C) → Cls K C ∧ NoAttr K C "tick")
    {a_Ear : Addr} (g_Ear : mg "Ear" = some (.ref a_Ear)) (cl_Ear : Cls K a_Ear)
    {a_Meeting : Addr} (g_Meeting : mg "Meeting" = some (.ref a_Meeting)) (cl_Meeting : Cls K a_Meeting)
    {a_Meeting_event : Addr} {fd_Meeting_event : FuncData} (me_Meeting_event : Meth K a_Meeting "event" a_Meeting_event) (D_Meeting_event : Df P w K mg base eC 4 a_Meeting_event fd_Meeting_event ["self", "kind", "who", "number", "related"] f_Meeting_event)
    {a_Ear_end : Addr} {fd_Ear_end : FuncData} (me_Ear_end : Meth K a_Ear "end" a_Ear_end) (D_Ear_end : Df P w K mg base eC 2 a_Ear_end fd_Ear_end ["self"] f_Ear_end) :
    Df P w K mg base eC 5 f fd ["self"] f_Meeting_stop := df_of F sc hb fun cdv A outer s H E hr => by
  have hr : Room 4 (A.deeper (envOfC "Meeting.stop" (defScope N_Meeting_stop.st) s.heap.objs.size f cdv)) := hr
  exact (vss_cons (vs_if (vt_ne hr (ve_rdP (vp_fld (c := "Meeting") (vp_var (pv 0)) (fc_Meeting_over))) vc_int) (vss_cons (vs_set (i := 1) (by decide) (ve_fzM (ve_if (vt_in hr (ve_rdP (vp_fld (c := "Meeting") (vp_var (pv 0)) (fc_Meeting_tick))) (ve_tup (va_cons (ve_gk (by rfl) g_DROP) (va_cons (ve_gk (by rfl) g_SILENT_DROP) va_nil)))) vc_str vc_str)) sc.nd rfl (by first | exact Or.inl rfl | exact Or.inr rfl))
      (vss_one (vs_expr (vc_meth (c := "Meeting") (vp_var (pv 0)) D_Meeting_event (hr.mono (by decide)) (takes_of rfl rfl rfl rfl) g_Meeting cl_Meeting me_Meeting_event (vr_cons (ve_rd (pv 1)) (vr_cons vc_str (vr_cons (ve_rdP (vp_fld (c := "Meeting") (vp_var (pv 0)) (fc_Meeting_over))) (vr_cons vc_int vr_nil)))))))) vss_nil)
      (vss_cons (vs_if (vt_in hr (ve_rdP (vp_fld (c := "Meeting") (vp_var (pv 0)) (fc_Meeting_tick))) (ve_tup (va_cons (ve_gk (by rfl) g_DROP) (va_cons (ve_gk (by rfl) g_CANCEL) va_nil)))) (vss_one (vs_expr (vc_meth0 (c := "Ear") (vp_fld (c := "Meeting") (vp_var (pv 0)) (fc_Meeting_ear)) D_Ear_end (hr.mono (by decide)) (takes_of rfl rfl rfl rfl) g_Ear cl_Ear me_Ear_end))) vss_nil)
      (vss_one (vs_ret (ve_tup (va_cons vc_non (va_cons vc_int va_nil)))))))
/-! ### Meeting.last_then -/
namespace N_Meeting_last_then
abbrev st : Stmt := (inCls (top 30) 6)
abbrev N : List Str := ["self", "who", "entered"]
theorem sc : FnScope N ["self", "who"] (defScope st) := ⟨rfl, rfl, rfl, by decide +kernel, rfl, by decide +kernel, by decide +kernel⟩
def m : SM := (seqM (setM 2 (rdP 0 [Stp.fld "Meeting" "ear", Stp.fld "Ear" "entered"]))
  (seqM (iteM (testM (unM (isN false) (rd 2))) (retM (intM 0)) skipM)
  (seqM (iteM (testM (opM (eqP false) (rd 2) (rd 1))) (retM (cM c_CURRENT)) skipM)
  (seqM (iteM (testM (opM (eqP false) (rd 2) (strM "current"))) (retM (ifM (testM (opM (eqP false) (rdP 0 [Stp.fld "Meeting" "tick"]) (cM c_SLIP))) (intM 0) (rdP 0 [Stp.fld "Meeting" "over"]))) skipM)
  (retM (rdP 0 [Stp.fld "Meeting" "last"]))))))
end N_Meeting_last_then
def f_Meeting_last_then : FM := fnM 2 3 [2] N_Meeting_last_then.m
open N_Meeting_last_then in
theorem d_Meeting_last_then {f : Addr} {fd : FuncData} (F : Fun K "last_then" "Meeting.last_then" N_Meeting_last_then.st f fd) (hb : Binds K fd ["self", "who"] []) (g_CURRENT : GK K mg "CURRENT" c_CURRENT)
    (g_SLIP : GK K mg "SLIP" c_SLIP)
    (fc_Ear_entered : ∀ C, mg "Ear" = some (.ref C) → Cls K C ∧ NoAttr K C "entered")
    (fc_Meeting_ear : ∀ C, mg "Meeting" = some (.ref C) → Cls K C ∧ NoAttr K C "ear")
    (fc_Meeting_last : ∀ C, mg "Meeting" = some (.ref C) → Cls K C ∧ NoAttr K C "last")
    (fc_Meeting_over : ∀ C, mg "Meeting" = some (.ref C) → Cls K C ∧ NoAttr K C "over")
    (fc_Meeting_tick : ∀ C, mg "Meeting" = some (.ref C) → Cls K C ∧ NoAttr K C "tick") :
    Df P w K mg base eC 1 f fd ["self", "who"] f_Meeting_last_then := df_of F sc hb fun cdv A outer s H E hr => by
  have hr : Room 0 (A.deeper (envOfC "Meeting.last_then" (defScope N_Meeting_last_then.st) s.heap.objs.size f cdv)) := hr
  exact (vss_cons (vs_set (i := 2) (by decide) (ve_rdP (vp_fld (c := "Ear") (vp_fld (c := "Meeting") (vp_var (pv 0)) (fc_Meeting_ear)) (fc_Ear_entered))) sc.nd rfl (by first | exact Or.inl rfl | exact Or.inr rfl))
      (vss_cons (vs_if (vt_isN (ve_rd (pv 2))) (vss_one (vs_ret vc_int)) vss_nil)
      (vss_cons (vs_if (vt_eq hr (ve_rd (pv 2)) (ve_rd (pv 1))) (vss_one (vs_ret (ve_gk (by rfl) g_CURRENT))) vss_nil)
      (vss_cons (vs_if (vt_eq hr (ve_rd (pv 2)) vc_str) (vss_one (vs_ret (ve_if (vt_eq hr (ve_rdP (vp_fld (c := "Meeting") (vp_var (pv 0)) (fc_Meeting_tick))) (ve_gk (by rfl) g_SLIP)) vc_int (ve_rdP (vp_fld (c := "Meeting") (vp_var (pv 0)) (fc_Meeting_over)))))) vss_nil)
      (vss_one (vs_ret (ve_rdP (vp_fld (c := "Meeting") (vp_var (pv 0)) (fc_Meeting_last)))))))))
/-! ### _met -/
namespace N__met
abbrev st : Stmt := (top 31)
abbrev N : List Str := ["setup", "turn", "meeting", "who", "number"]
theorem sc : FnScope N ["setup", "turn"] (defScope st) := ⟨rfl, rfl, rfl, by decide +kernel, rfl, by decide +kernel, by decide +kernel⟩
def m : SM := (seqM (setM 2 (newM 3 "Meeting" [.tmp, .tmp] f_Meeting___init__ (consM (rd 0) (consM (rd 1) nilM))))
  (seqM (asgM (tgTup 2 (tgCons (tgN 3) (tgCons (tgN 4) tgNil))) (fzM (ifM (testM (opM (inP false) (rdP 2 [Stp.fld "Meeting" "tick"]) (clM tupD (consM (cM c_POINT) (consM (cM c_SLIP) nilM))))) (methM 1 "Meeting" "point" 2 [] [] f_Meeting_point nilM) (methM 1 "Meeting" "stop" 2 [] [] f_Meeting_stop nilM))))
  (retM (clM tupD (consM (rdP 2 [Stp.fld "Meeting" "ear", Stp.fld "Ear" "entered"]) (consM (clM tupD (consM (rd 4) (consM (methM 2 "Meeting" "last_then" 2 [] [.tmp] f_Meeting_last_then (consM (rd 3) nilM)) nilM))) (consM (pkM pkT 2 [Stp.fld "Meeting" "ear", Stp.fld "Ear" "signals"]) nilM)))))))
end N__met
def f__met : FM := fnM 2 5 [2, 3, 4] N__met.m
open N__met in
theorem d__met {f : Addr} {fd : FuncData} (F : Fun K "_met" "_met" N__met.st f fd) (hb : Binds K fd ["setup", "turn"] []) (nb : NoB mg)
    (g_POINT : GK K mg "POINT" c_POINT)
    (g_SLIP : GK K mg "SLIP" c_SLIP)
    (fc_Ear_entered : ∀ C, mg "Ear" = some (.ref C) → Cls K C ∧ NoAttr K C "entered")
    (fc_Ear_signals : ∀ C, mg "Ear" = some (.ref C) → Cls K C ∧ NoAttr K C "signals")
    (fc_Meeting_ear : ∀ C, mg "Meeting" = some (.ref C) → Cls K C ∧ NoAttr K C "ear")
    (fc_Meeting_tick : ∀ C, mg "Meeting" = some (.ref C) → Cls K C ∧ NoAttr K C "tick")
    {a_Meeting : Addr} (g_Meeting : mg "Meeting" = some (.ref a_Meeting)) (cl_Meeting : Cls K a_Meeting)
    {a_Meeting___init__ : Addr} {fd_Meeting___init__ : FuncData} (mk_Meeting : Mk K a_Meeting a_Meeting___init__) (D_Meeting___init__ : Df P w K mg base eC 3 a_Meeting___init__ fd_Meeting___init__ ["self", "setup", "turn"] f_Meeting___init__)
    {a_Meeting_point : Addr} {fd_Meeting_point : FuncData} (me_Meeting_point : Meth K a_Meeting "point" a_Meeting_point) (D_Meeting_point : Df P w K mg base eC 5 a_Meeting_point fd_Meeting_point ["self"] f_Meeting_point)
    {a_Meeting_stop : Addr} {fd_Meeting_stop : FuncData} (me_Meeting_stop : Meth K a_Meeting "stop" a_Meeting_stop) (D_Meeting_stop : Df P w K mg base eC 5 a_Meeting_stop fd_Meeting_stop ["self"] f_Meeting_stop)
    {a_Meeting_last_then : Addr} {fd_Meeting_last_then : FuncData} (me_Meeting_last_then : Meth K a_Meeting "last_then" a_Meeting_last_then) (D_Meeting_last_then : Df P w K mg base eC 1 a_Meeting_last_then fd_Meeting_last_then ["self", "who"] f_Meeting_last_then) :
    Df P w K mg base eC 6 f fd ["setup", "turn"] f__met := df_of F sc hb fun cdv A outer s H E hr => by
  have hr : Room 5 (A.deeper (envOfC "_met" (defScope N__met.st) s.heap.objs.size f cdv)) := hr
  exact (vss_cons (vs_set (i := 2) (by decide) (vc_new mk_Meeting D_Meeting___init__ (hr.mono (by decide)) (takes_of rfl rfl rfl rfl) g_Meeting (by rfl) (vr_cons (ve_rd (pv 0)) (vr_cons (ve_rd (pv 1)) vr_nil))) sc.nd rfl (by first | exact Or.inl rfl | exact Or.inr rfl))
      (vss_cons (vs_asg (ve_fzM (ve_if (vt_in hr (ve_rdP (vp_fld (c := "Meeting") (vp_var (pv 2)) (fc_Meeting_tick))) (ve_tup (va_cons (ve_gk (by rfl) g_POINT) (va_cons (ve_gk (by rfl) g_SLIP) va_nil)))) (vc_meth0 (c := "Meeting") (vp_var (pv 2)) D_Meeting_point (hr.mono (by decide)) (takes_of rfl rfl rfl rfl) g_Meeting cl_Meeting me_Meeting_point) (vc_meth0 (c := "Meeting") (vp_var (pv 2)) D_Meeting_stop (hr.mono (by decide)) (takes_of rfl rfl rfl rfl) g_Meeting cl_Meeting me_Meeting_stop))) (vg_tup rfl (vgs_cons (vg_name (i := 3) (by decide) sc.nd rfl (by first | exact Or.inl rfl | exact Or.inr rfl)) (vgs_cons (vg_name (i := 4) (by decide) sc.nd rfl (by first | exact Or.inl rfl | exact Or.inr rfl)) vgs_nil))))
      (vss_one (vs_ret (ve_tup (va_cons (ve_rdP (vp_fld (c := "Ear") (vp_fld (c := "Meeting") (vp_var (pv 2)) (fc_Meeting_ear)) (fc_Ear_entered))) (va_cons (ve_tup (va_cons (ve_rd (pv 4)) (va_cons (vc_meth (c := "Meeting") (vp_var (pv 2)) D_Meeting_last_then (hr.mono (by decide)) (takes_of rfl rfl rfl rfl) g_Meeting cl_Meeting me_Meeting_last_then (vr_cons (ve_rd (pv 3)) vr_nil)) va_nil))) (va_cons (vc_pkTy call_tuple_of vpk_tuple (vp_fld (c := "Ear") (vp_fld (c := "Meeting") (vp_var (pv 2)) (fc_Meeting_ear)) (fc_Ear_signals)) rfl nb.tuple_ Boot.«tuple») va_nil))))))))
/-! ### outcome -/
namespace N_outcome
abbrev st : Stmt := (top 32)
abbrev N : List Str := ["setup", "turn", "entered", "after", "signals"]
theorem sc : FnScope N ["setup", "turn"] (defScope st) := ⟨rfl, rfl, rfl, by decide +kernel, rfl, by decide +kernel, by decide +kernel⟩
def m : SM := (seqM (asgM (tgTup 3 (tgCons (tgN 2) (tgCons (tgN 3) (tgCons (tgN 4) tgNil)))) (fzM (callM 2 [.tmp, .tmp] f__met (consM (rd 0) (consM (rd 1) nilM)))))
  (retM (clM tupD (consM (rd 3) (consM (rd 4) nilM)))))
end N_outcome
def f_outcome : FM := fnM 2 5 [2, 3, 4] N_outcome.m
open N_outcome in
theorem d_outcome {f : Addr} {fd : FuncData} (F : Fun K "outcome" "outcome" N_outcome.st f fd) (hb : Binds K fd ["setup", "turn"] []) {a__met : Addr} {fd__met : FuncData} (g__met : mg "_met" = some (.ref a__met)) (D__met : Df P w K mg base eC 6 a__met fd__met ["setup", "turn"] f__met) :
    Df P w K mg base eC 7 f fd ["setup", "turn"] f_outcome := df_of F sc hb fun cdv A outer s H E hr => by
  have hr : Room 6 (A.deeper (envOfC "outcome" (defScope N_outcome.st) s.heap.objs.size f cdv)) := hr
  exact (vss_cons (vs_asg (ve_fzM (vc_call D__met (hr.mono (by decide)) (takes_of rfl rfl rfl rfl) g__met (by rfl) (vr_cons (ve_rd (pv 0)) (vr_cons (ve_rd (pv 1)) vr_nil)))) (vg_tup rfl (vgs_cons (vg_name (i := 2) (by decide) sc.nd rfl (by first | exact Or.inl rfl | exact Or.inr rfl)) (vgs_cons (vg_name (i := 3) (by decide) sc.nd rfl (by first | exact Or.inl rfl | exact Or.inr rfl)) (vgs_cons (vg_name (i := 4) (by decide) sc.nd rfl (by first | exact Or.inl rfl | exact Or.inr rfl)) vgs_nil)))))
      (vss_one (vs_ret (ve_tup (va_cons (ve_rd (pv 3)) (va_cons (ve_rd (pv 4)) va_nil))))))
/-! ### behind -/
namespace N_behind
abbrev st : Stmt := (top 33)
abbrev N : List Str := ["setup", "situation", "turn"]
theorem sc : FnScope N ["setup", "situation", "turn"] (defScope st) := ⟨rfl, rfl, rfl, by decide +kernel, rfl, by decide +kernel, by decide +kernel⟩
def m : SM := (retM (callM 2 [.tmp, .tmp] f_outcome (consM (rd 0) (consM (rd 2) nilM))))
end N_behind
def f_behind : FM := fnM 3 3 [] N_behind.m
open N_behind in
theorem d_behind {f : Addr} {fd : FuncData} (F : Fun K "behind" "behind" N_behind.st f fd) (hb : Binds K fd ["setup", "situation", "turn"] []) {a_outcome : Addr} {fd_outcome : FuncData} (g_outcome : mg "outcome" = some (.ref a_outcome)) (D_outcome : Df P w K mg base eC 7 a_outcome fd_outcome ["setup", "turn"] f_outcome) :
    Df P w K mg base eC 8 f fd ["setup", "situation", "turn"] f_behind := df_of F sc hb fun cdv A outer s H E hr => by
  have hr : Room 7 (A.deeper (envOfC "behind" (defScope N_behind.st) s.heap.objs.size f cdv)) := hr
  exact (vss_one (vs_ret (vc_call D_outcome (hr.mono (by decide)) (takes_of rfl rfl rfl rfl) g_outcome (by rfl) (vr_cons (ve_rd (pv 0)) (vr_cons (ve_rd (pv 2)) vr_nil)))))
/-! ### _is_possible -/
namespace N__is_possible
abbrev st : Stmt := (top 34)
abbrev N : List Str := ["situation", "turn", "troubles"]
theorem sc : FnScope N ["situation", "turn", "troubles"] (defScope st) := ⟨rfl, rfl, rfl, by decide +kernel, rfl, by decide +kernel, by decide +kernel⟩
def m : SM := (retM (opM (inP false) (rd 1) (callM 2 [.tmp, .tmp] f_turns (consM (rd 0) (consM (rd 2) nilM)))))
end N__is_possible
def f__is_possible : FM := fnM 3 3 [] N__is_possible.m
open N__is_possible in
theorem d__is_possible {f : Addr} {fd : FuncData} (F : Fun K "_is_possible" "_is_possible" N__is_possible.st f fd) (hb : Binds K fd ["situation", "turn", "troubles"] []) {a_turns : Addr} {fd_turns : FuncData} (g_turns : mg "turns" = some (.ref a_turns)) (D_turns : Df P w K mg base eC 3 a_turns fd_turns ["situation", "troubles"] f_turns) :
    Df P w K mg base eC 4 f fd ["situation", "turn", "troubles"] f__is_possible := df_of F sc hb fun cdv A outer s H E hr => by
  have hr : Room 3 (A.deeper (envOfC "_is_possible" (defScope N__is_possible.st) s.heap.objs.size f cdv)) := hr
  exact (vss_one (vs_ret (ve_in hr (ve_rd (pv 1)) (vc_call D_turns (hr.mono (by decide)) (takes_of rfl rfl rfl rfl) g_turns (by rfl) (vr_cons (ve_rd (pv 0)) (vr_cons (ve_rd (pv 2)) vr_nil))))))
/-! ### is_scenario -/
namespace N_is_scenario
abbrev st : Stmt := (top 35)
abbrev N : List Str := ["setup", "scenario", "troubles", "situation", "turn", "signals"]
theorem sc : FnScope N ["setup", "scenario", "troubles"] (defScope st) := ⟨rfl, rfl, rfl, by decide +kernel, rfl, by decide +kernel, by decide +kernel⟩
def m : SM := (seqM (setM 3 (cM c_START))
  (seqM (forS (itM (rd 1)) (tgN 4) (seqM (iteM (notM (testM (callM 3 [.tmp, .tmp, .tmp] f__is_possible (consM (rd 3) (consM (rd 4) (consM (rd 2) nilM)))))) (retM (blM false)) skipM)
  (asgM (tgTup 2 (tgCons (tgN 3) (tgCons (tgN 5) tgNil))) (fzM (callM 2 [.tmp, .tmp] f_outcome (consM (rd 0) (consM (rd 4) nilM)))))))
  (retM (blM true))))
end N_is_scenario
def f_is_scenario : FM := fnM 3 6 [3, 4, 5] N_is_scenario.m
open N_is_scenario in
theorem d_is_scenario {f : Addr} {fd : FuncData} (F : Fun K "is_scenario" "is_scenario" N_is_scenario.st f fd) (hb : Binds K fd ["setup", "scenario", "troubles"] []) (g_START : GK K mg "START" c_START)
    {a__is_possible : Addr} {fd__is_possible : FuncData} (g__is_possible : mg "_is_possible" = some (.ref a__is_possible)) (D__is_possible : Df P w K mg base eC 4 a__is_possible fd__is_possible ["situation", "turn", "troubles"] f__is_possible)
    {a_outcome : Addr} {fd_outcome : FuncData} (g_outcome : mg "outcome" = some (.ref a_outcome)) (D_outcome : Df P w K mg base eC 7 a_outcome fd_outcome ["setup", "turn"] f_outcome) :
    Df P w K mg base eC 8 f fd ["setup", "scenario", "troubles"] f_is_scenario := df_of F sc hb fun cdv A outer s H E hr => by
  have hr : Room 7 (A.deeper (envOfC "is_scenario" (defScope N_is_scenario.st) s.heap.objs.size f cdv)) := hr
  exact (vss_cons (vs_set (i := 3) (by decide) (ve_gk (by rfl) g_START) sc.nd rfl (by first | exact Or.inl rfl | exact Or.inr rfl))
      (vss_cons (vs_for (passes_of rfl) rfl (vi_seq (ve_rd (pv 1))) (vg_name (i := 4) (by decide) sc.nd rfl (by first | exact Or.inl rfl | exact Or.inr rfl)) (vss_cons (vs_if (vt_not (vt_val (vc_call D__is_possible (hr.mono (by decide)) (takes_of rfl rfl rfl rfl) g__is_possible (by rfl) (vr_cons (ve_rd (pv 3)) (vr_cons (ve_rd (pv 4)) (vr_cons (ve_rd (pv 2)) vr_nil)))))) (vss_one (vs_ret vc_bl)) vss_nil)
      (vss_one (vs_asg (ve_fzM (vc_call D_outcome (hr.mono (by decide)) (takes_of rfl rfl rfl rfl) g_outcome (by rfl) (vr_cons (ve_rd (pv 0)) (vr_cons (ve_rd (pv 4)) vr_nil)))) (vg_tup rfl (vgs_cons (vg_name (i := 3) (by decide) sc.nd rfl (by first | exact Or.inl rfl | exact Or.inr rfl)) (vgs_cons (vg_name (i := 5) (by decide) sc.nd rfl (by first | exact Or.inl rfl | exact Or.inr rfl)) vgs_nil)))))))
      (vss_one (vs_ret vc_bl))))
/-! ### _in_order -/
namespace N__in_order
abbrev st : Stmt := (top 40)
abbrev N : List Str := ["things", "words", "found", "word", "thing"]
theorem sc : FnScope N ["things", "words"] (defScope st) := ⟨rfl, rfl, rfl, by decide +kernel, rfl, by decide +kernel, by decide +kernel⟩
def m : SM := (seqM (iteM (notM (testM (unM (isiD ["tuple", "list"]) (rd 0)))) (retM nonM) skipM)
  (seqM (iteM (notM (testM (clM (one allD) (consM (lcM [4] (itM (rd 0)) (tgN 4) yesM (andV (unM (isiD ["str"]) (rd 4)) (opM (inP false) (rd 4) (rd 1)))) nilM)))) (retM nonM) skipM)
  (seqM (setM 2 (fzM (clM (one toTupD) (consM (lcM [3] (itM (rd 1)) (tgN 3) (testM (opM (inP false) (rd 3) (rd 0))) (rd 3)) nilM))))
  (retM (ifM (testM (opM (eqP false) (clM (one lenD) (consM (rd 2) nilM)) (clM (one lenD) (consM (rd 0) nilM)))) (rd 2) nonM)))))
end N__in_order
def f__in_order : FM := fnM 2 5 [2] N__in_order.m
open N__in_order in
theorem d__in_order {f : Addr} {fd : FuncData} (F : Fun K "_in_order" "_in_order" N__in_order.st f fd) (hb : Binds K fd ["things", "words"] []) (nb : NoB mg) :
    Df P w K mg base eC 1 f fd ["things", "words"] f__in_order := df_of F sc hb fun cdv A outer s H E hr => by
  have hr : Room 0 (A.deeper (envOfC "_in_order" (defScope N__in_order.st) s.heap.objs.size f cdv)) := hr
  exact (vss_cons (vs_if (vt_not (vt_val (vc_isi2 (Tx := "tuple") (Ty := "list") (by decide) (by decide) nb.tuple_ rfl Boot.«tuple» nb.list_ rfl Boot.«list» rfl nb.isinstance_ (ve_rd (pv 0))))) (vss_one (vs_ret vc_non)) vss_nil)
      (vss_cons (vs_if (vt_not (vt_val (vc_B (cr_all rfl) vcl_all rfl nb.all_ Boot.«all» (va_cons (ve_lc (own := [("thing", 4)]) (SA := [4]) (g := tgN 4) rfl sc.nd (blkOk_by (own := [("thing", 4)]) (N := N) (sc := defScope st) (by decide +kernel)) (vi_seq (ve_rd (pv 0))) (fun _ _ _ _ _ => pg_name (i := 4) sc.nd rfl (Or.inl rfl)) (tk_name (by decide)) (by decide) (fun _ _ _ _ _ => pts_yes') (fun _ _ _ _ _ => (ve_and (vc_isi (Ts := "str") (by decide) nb.str_ rfl Boot.«str» rfl nb.isinstance_ (ve_rd (pv 4))) (ve_one (ve_in hr (ve_rd (pv 4)) (ve_rd (pv 1))))))) va_nil)))) (vss_one (vs_ret vc_non)) vss_nil)
      (vss_cons (vs_set (i := 2) (by decide) (ve_fzM (vc_Ty call_tuple_of vcl_tuple rfl nb.tuple_ Boot.«tuple» (va_cons (ve_lc (own := [("word", 3)]) (SA := [3]) (g := tgN 3) rfl sc.nd (blkOk_by (own := [("word", 3)]) (N := N) (sc := defScope st) (by decide +kernel)) (vi_seq (ve_rd (pv 1))) (fun _ _ _ _ _ => pg_name (i := 3) sc.nd rfl (Or.inl rfl)) (tk_name (by decide)) (by decide) (fun _ _ _ _ _ => pts_one' (vt_in hr (ve_rd (pv 3)) (ve_rd (pv 0)))) (fun _ _ _ _ _ => (ve_rd (pv 3)))) va_nil))) sc.nd rfl (by first | exact Or.inl rfl | exact Or.inr rfl))
      (vss_one (vs_ret (ve_if (vt_eq hr (vc_B call_len vcl_len rfl nb.len_ Boot.«len» (va_cons (ve_rd (pv 2)) va_nil)) (vc_B call_len vcl_len rfl nb.len_ Boot.«len» (va_cons (ve_rd (pv 0)) va_nil))) (ve_rd (pv 2)) vc_non))))))
/-! ### Setup.__init__ -/
namespace N_Setup___init__
abbrev st : Stmt := (inCls (top 41) 0)
abbrev N : List Str := ["self", "place", "kinds", "sights"]
theorem sc : FnScope N ["self", "place", "kinds", "sights"] (defScope st) := ⟨rfl, rfl, rfl, by decide +kernel, rfl, by decide +kernel, by decide +kernel⟩
def m : SM := (seqM (stFld 0 [] "Setup" "place" (rd 1))
  (seqM (stFld 0 [] "Setup" "kinds" (fzM (callM 2 [.tmp, .tmp] f__in_order (consM (rd 2) (consM (cM c_KINDS) nilM)))))
  (seqM (stFld 0 [] "Setup" "sights" (fzM (callM 2 [.tmp, .tmp] f__in_order (consM (rd 3) (consM (cM c_SIGHTS) nilM)))))
  (iteM (orM (notM (testM (unM (isiD ["str"]) (rd 1)))) (orM (testM (opM (inP true) (rd 1) (cM c_PLACES))) (orM (testM (unM (isN false) (rdP 0 [Stp.fld "Setup" "kinds"]))) (testM (unM (isN false) (rdP 0 [Stp.fld "Setup" "sights"])))))) (raiseM (strM "no setup")) skipM))))
end N_Setup___init__
def f_Setup___init__ : FM := fnM 4 4 [] N_Setup___init__.m
open N_Setup___init__ in
theorem d_Setup___init__ {f : Addr} {fd : FuncData} (F : Fun K "__init__" "Setup.__init__" N_Setup___init__.st f fd) (hb : Binds K fd ["self", "place", "kinds", "sights"] []) (nb : NoB mg)
    (dg : DgTxt P K mg eC fI)
    (g_KINDS : GK K mg "KINDS" c_KINDS)
    (g_SIGHTS : GK K mg "SIGHTS" c_SIGHTS)
    (g_PLACES : GK K mg "PLACES" c_PLACES)
    (fc_Setup_kinds : ∀ C, mg "Setup" = some (.ref C) → Cls K C ∧ NoAttr K C "kinds")
    (fc_Setup_place : ∀ C, mg "Setup" = some (.ref C) → Cls K C ∧ NoAttr K C "place")
    (fc_Setup_sights : ∀ C, mg "Setup" = some (.ref C) → Cls K C ∧ NoAttr K C "sights")
    {a__in_order : Addr} {fd__in_order : FuncData} (g__in_order : mg "_in_order" = some (.ref a__in_order)) (D__in_order : Df P w K mg base eC 1 a__in_order fd__in_order ["things", "words"] f__in_order) :
    Df P w K mg base eC 3 f fd ["self", "place", "kinds", "sights"] f_Setup___init__ := df_of F sc hb fun cdv A outer s H E hr => by
  have hr : Room 2 (A.deeper (envOfC "Setup.__init__" (defScope N_Setup___init__.st) s.heap.objs.size f cdv)) := hr
  exact (vss_cons (vs_fld (c := "Setup") (vp_var (pv 0)) (by exact (ve_rd (pv 1))) fc_Setup_place)
      (vss_cons (vs_fld (c := "Setup") (vp_var (pv 0)) (by exact (ve_fzM (vc_call D__in_order (hr.mono (by decide)) (takes_of rfl rfl rfl rfl) g__in_order (by rfl) (vr_cons (ve_rd (pv 2)) (vr_cons (ve_gk (by rfl) g_KINDS) vr_nil))))) fc_Setup_kinds)
      (vss_cons (vs_fld (c := "Setup") (vp_var (pv 0)) (by exact (ve_fzM (vc_call D__in_order (hr.mono (by decide)) (takes_of rfl rfl rfl rfl) g__in_order (by rfl) (vr_cons (ve_rd (pv 3)) (vr_cons (ve_gk (by rfl) g_SIGHTS) vr_nil))))) fc_Setup_sights)
      (vss_one (vs_if (vt_w (vw_or (vt_not (vt_val (vc_isi (Ts := "str") (by decide) nb.str_ rfl Boot.«str» rfl nb.isinstance_ (ve_rd (pv 1))))) (vw_or (vt_notin hr (ve_rd (pv 1)) (ve_gk (by rfl) g_PLACES)) (vw_or (vt_isN (ve_rdP (vp_fld (c := "Setup") (vp_var (pv 0)) (fc_Setup_kinds)))) (vw_or1 (vt_isN (ve_rdP (vp_fld (c := "Setup") (vp_var (pv 0)) (fc_Setup_sights))))))))) (vss_one (vs_raise rfl dg (hr.mono (Nat.zero_le _)) (takes_of rfl rfl rfl rfl) vc_str)) vss_nil)))))
/-! ### _law_cell -/
namespace N__law_cell
abbrev st : Stmt := (top 48)
abbrev N : List Str := ["_law_script", "_law_k"]
theorem sc : FnScope N ["_law_script", "_law_k"] (defScope st) := ⟨rfl, rfl, rfl, by decide +kernel, rfl, by decide +kernel, by decide +kernel⟩
def m : SM := (seqM (iteM (testM (opM ltD (rd 1) (clM (one lenD) (consM (rd 0) nilM)))) (retM (opM ixD (rd 0) (rd 1))) skipM)
  (retM (intM 0)))
end N__law_cell
def f__law_cell : FM := fnM 2 2 [] N__law_cell.m
open N__law_cell in
theorem d__law_cell {f : Addr} {fd : FuncData} (F : Fun K "_law_cell" "_law_cell" N__law_cell.st f fd) (hb : Binds K fd ["_law_script", "_law_k"] []) (nb : NoB mg) :
    Df P w K mg base eC 1 f fd ["_law_script", "_law_k"] f__law_cell := df_of F sc hb fun cdv A outer s H E hr => by
  have hr : Room 0 (A.deeper (envOfC "_law_cell" (defScope N__law_cell.st) s.heap.objs.size f cdv)) := hr
  exact (vss_cons (vs_if (vt_cmp op_lt vop_b0 (ve_rd (pv 1)) (vc_B call_len vcl_len rfl nb.len_ Boot.«len» (va_cons (ve_rd (pv 0)) va_nil))) (vss_one (vs_ret (ve_ix ix_lt vop_ix (ve_rd (pv 0)) (ve_rd (pv 1))))) vss_nil)
      (vss_one (vs_ret vc_int)))
/-! ### _law_row -/
namespace N__law_row
abbrev st : Stmt := (top 49)
abbrev N : List Str := ["_law_script", "_law_first", "_law_last", "_law_row_here", "_law_k", "_law_cell_here", "_law_turn"]
theorem sc : FnScope N ["_law_script", "_law_first", "_law_last"] (defScope st) := ⟨rfl, rfl, rfl, by decide +kernel, rfl, by decide +kernel, by decide +kernel⟩
def m : SM := (seqM (setM 3 (clM lstD nilM))
  (seqM (forS (rngM rng2 (consM (rd 1) (consM (rd 2) nilM))) (tgN 4) (seqM (setM 5 (fzM (callM 2 [.tmp, .tmp] f__law_cell (consM (rd 0) (consM (rd 4) nilM)))))
  (seqM (setM 5 (fzM (opM addD (clM (one absD) (consM (opM mulD (intM 2) (rd 5)) nilM)) (clM (one intD) (consM (opM ltD (rd 5) (intM 0)) nilM)))))
  (iteM (testM (opM gtD (rd 5) (opM powD (intM 10) (intM 18)))) (forS (rngM rng1 (consM (intM 60) nilM)) (tgN 6) (iteM (testM (opM gtD (rd 5) (intM 0))) (seqM (dropM (lmM 3 [] appF (consM (opM modD (clM (one intD) (consM (rd 5) nilM)) (intM 840)) nilM)))
  (setM 5 (opM divD (rd 5) (intM 840)))) skipM)) (forS (rngM rng1 (consM (intM 10) nilM)) (tgN 6) (seqM (setM 5 (opM modD (clM (one intD) (consM (opM addD (opM addD (opM mulD (rd 5) (intM 69069)) (opM mulD (intM 104729) (opM addD (rd 4) (rd 6)))) (intM 1)) nilM)) (intM 4294967291)))
  (dropM (lmM 3 [] appF (consM (opM modD (clM (one intD) (consM (opM divD (rd 5) (intM 5003)) nilM)) (intM 840)) nilM)))))))))
  (retM (mv 3))))
end N__law_row
def f__law_row : FM := fnM 3 7 [3, 4, 5, 6] N__law_row.m
open N__law_row in
theorem d__law_row {f : Addr} {fd : FuncData} (F : Fun K "_law_row" "_law_row" N__law_row.st f fd) (hb : Binds K fd ["_law_script", "_law_first", "_law_last"] []) (nb : NoB mg)
    {a__law_cell : Addr} {fd__law_cell : FuncData} (g__law_cell : mg "_law_cell" = some (.ref a__law_cell)) (D__law_cell : Df P w K mg base eC 1 a__law_cell fd__law_cell ["_law_script", "_law_k"] f__law_cell) :
    Df P w K mg base eC 2 f fd ["_law_script", "_law_first", "_law_last"] f__law_row := df_of F sc hb fun cdv A outer s H E hr => by
  have hr : Room 1 (A.deeper (envOfC "_law_row" (defScope N__law_row.st) s.heap.objs.size f cdv)) := hr
  exact (vss_cons (vs_set (i := 3) (by decide) (ve_lst va_nil) sc.nd rfl (by first | exact Or.inl rfl | exact Or.inr rfl))
      (vss_cons (vs_for (passes_of rfl) rfl (vi_range2 rfl nb.range_ (va_cons (ve_rd (pv 1)) (va_cons (ve_rd (pv 2)) va_nil))) (vg_name (i := 4) (by decide) sc.nd rfl (by first | exact Or.inl rfl | exact Or.inr rfl)) (vss_cons (vs_set (i := 5) (by decide) (ve_fzM (vc_call D__law_cell (hr.mono (by decide)) (takes_of rfl rfl rfl rfl) g__law_cell (by rfl) (vr_cons (ve_rd (pv 0)) (vr_cons (ve_rd (pv 4)) vr_nil)))) sc.nd rfl (by first | exact Or.inl rfl | exact Or.inr rfl))
      (vss_cons (vs_set (i := 5) (by decide) (ve_fzM (ve_op op_addR vop_add (vc_B call_abs vcl_abs rfl nb.abs_ Boot.«abs» (va_cons (ve_op op_mul vop_i vc_int (ve_rd (pv 5))) va_nil)) (vc_Ty call_int1 vcl_int rfl nb.int_ Boot.«int» (va_cons (ve_cmp op_lt vop_b0 (ve_rd (pv 5)) vc_int) va_nil)))) sc.nd rfl (by first | exact Or.inl rfl | exact Or.inr rfl))
      (vss_one (vs_if (vt_cmp op_gt vop_b0 (ve_rd (pv 5)) (ve_op op_pow vop_i vc_int vc_int)) (vss_one (vs_for (passes_of rfl) rfl (vi_range1 rfl nb.range_ (va_cons vc_int va_nil)) (vg_name (i := 6) (by decide) sc.nd rfl (by first | exact Or.inl rfl | exact Or.inr rfl)) (vss_one (vs_if (vt_cmp op_gt vop_b0 (ve_rd (pv 5)) vc_int) (vss_cons (vs_expr (ve_append (vp_var (pv 3)) (va_cons (ve_op op_mod vop_i (vc_Ty call_int1 vcl_int rfl nb.int_ Boot.«int» (va_cons (ve_rd (pv 5)) va_nil)) vc_int) va_nil) (by decide)))
      (vss_one (vs_set (i := 5) (by decide) (ve_op op_fdiv vop_i (ve_rd (pv 5)) vc_int) sc.nd rfl (by first | exact Or.inl rfl | exact Or.inr rfl)))) vss_nil)))) (vss_one (vs_for (passes_of rfl) rfl (vi_range1 rfl nb.range_ (va_cons vc_int va_nil)) (vg_name (i := 6) (by decide) sc.nd rfl (by first | exact Or.inl rfl | exact Or.inr rfl)) (vss_cons (vs_set (i := 5) (by decide) (ve_op op_mod vop_i (vc_Ty call_int1 vcl_int rfl nb.int_ Boot.«int» (va_cons (ve_op op_addR vop_add (ve_op op_addR vop_add (ve_op op_mul vop_i (ve_rd (pv 5)) vc_int) (ve_op op_mul vop_i vc_int (ve_op op_addR vop_add (ve_rd (pv 4)) (ve_rd (pv 6))))) vc_int) va_nil)) vc_int) sc.nd rfl (by first | exact Or.inl rfl | exact Or.inr rfl))
      (vss_one (vs_expr (ve_append (vp_var (pv 3)) (va_cons (ve_op op_mod vop_i (vc_Ty call_int1 vcl_int rfl nb.int_ Boot.«int» (va_cons (ve_op op_fdiv vop_i (ve_rd (pv 5)) vc_int) va_nil)) vc_int) va_nil) (by decide))))))))))))
      (vss_one (vs_ret (ve_mv (pv 3))))))
/-! ### _law_draw -/
namespace N__law_draw
abbrev st : Stmt := (top 50)
abbrev N : List Str := ["_law_box", "_law_many", "_law_at"]
theorem sc : FnScope N ["_law_box", "_law_many"] (defScope st) := ⟨rfl, rfl, rfl, by decide +kernel, rfl, by decide +kernel, by decide +kernel⟩
def m : SM := (seqM (setM 2 (rdP 0 [Stp.ix 1]))
  (seqM (ixSt 0 [] (fzM (opM addD (rd 2) (intM 1))) (intM 1))
  (seqM (iteM (testM (opM ltD (rd 2) (lenP 0 [Stp.ix 0]))) (retM (opM modD (clM (one intD) (consM (opM ixD (rdP 0 [Stp.ix 0]) (rd 2)) nilM)) (rd 1))) skipM)
  (retM (opM modD (clM (one intD) (consM (opM addD (opM mulD (rd 2) (intM 5)) (intM 1)) nilM)) (rd 1))))))
end N__law_draw
def f__law_draw : FM := fnM 2 3 [2] N__law_draw.m
open N__law_draw in
theorem d__law_draw {f : Addr} {fd : FuncData} (F : Fun K "_law_draw" "_law_draw" N__law_draw.st f fd) (hb : Binds K fd ["_law_box", "_law_many"] []) (nb : NoB mg) :
    Df P w K mg base eC 1 f fd ["_law_box", "_law_many"] f__law_draw := df_of F sc hb fun cdv A outer s H E hr => by
  have hr : Room 0 (A.deeper (envOfC "_law_draw" (defScope N__law_draw.st) s.heap.objs.size f cdv)) := hr
  exact (vss_cons (vs_set (i := 2) (by decide) (ve_rdP (vp_ix (k := 1) (vp_var (pv 0)))) sc.nd rfl (by first | exact Or.inl rfl | exact Or.inr rfl))
      (vss_cons (vs_ix (vp_var (pv 0)) (ve_fzM (ve_op op_addR vop_add (ve_rd (pv 2)) vc_int)) vc_int (by decide))
      (vss_cons (vs_if (vt_cmp op_lt vop_b0 (ve_rd (pv 2)) (vc_lenP (vp_ix (k := 0) (vp_var (pv 0))) rfl nb.len_)) (vss_one (vs_ret (ve_op op_mod vop_i (vc_Ty call_int1 vcl_int rfl nb.int_ Boot.«int» (va_cons (ve_ix ix_lt vop_ix (ve_rdP (vp_ix (k := 0) (vp_var (pv 0)))) (ve_rd (pv 2))) va_nil)) (ve_rd (pv 1))))) vss_nil)
      (vss_one (vs_ret (ve_op op_mod vop_i (vc_Ty call_int1 vcl_int rfl nb.int_ Boot.«int» (va_cons (ve_op op_addR vop_add (ve_op op_mul vop_i (ve_rd (pv 2)) vc_int) vc_int) va_nil)) (ve_rd (pv 1))))))))
/-! ### _law_some -/
namespace N__law_some
abbrev st : Stmt := (top 51)
abbrev N : List Str := ["_law_box", "_law_names", "_law_name"]
theorem sc : FnScope N ["_law_box", "_law_names"] (defScope st) := ⟨rfl, rfl, rfl, by decide +kernel, rfl, by decide +kernel, by decide +kernel⟩
def m : SM := (retM (lcM [2] (itM (rd 1)) (tgN 2) (testM (opM gtD (callM 2 [.plc 0 [], .tmp] f__law_draw (plcM 0 [] (consM (intM 3) nilM))) (intM 0))) (rd 2)))
end N__law_some
def f__law_some : FM := fnM 2 3 [] N__law_some.m
open N__law_some in
theorem d__law_some {f : Addr} {fd : FuncData} (F : Fun K "_law_some" "_law_some" N__law_some.st f fd) (hb : Binds K fd ["_law_box", "_law_names"] []) {a__law_draw : Addr} {fd__law_draw : FuncData} (g__law_draw : mg "_law_draw" = some (.ref a__law_draw)) (D__law_draw : Df P w K mg base eC 1 a__law_draw fd__law_draw ["_law_box", "_law_many"] f__law_draw) :
    Df P w K mg base eC 2 f fd ["_law_box", "_law_names"] f__law_some := df_of F sc hb fun cdv A outer s H E hr => by
  have hr : Room 1 (A.deeper (envOfC "_law_some" (defScope N__law_some.st) s.heap.objs.size f cdv)) := hr
  exact (vss_one (vs_ret (ve_lc (own := [("_law_name", 2)]) (SA := [2]) (g := tgN 2) rfl sc.nd (blkOk_by (own := [("_law_name", 2)]) (N := N) (sc := defScope st) (by decide +kernel)) (vi_seq (ve_rd (pv 1))) (fun _ _ _ _ _ => pg_name (i := 2) sc.nd rfl (Or.inl rfl)) (tk_name (by decide)) (by decide) (fun _ _ _ _ _ => pts_one' (vt_cmp op_gt vop_b0 (vc_call D__law_draw (hr.mono (by decide)) takes0 g__law_draw (by rfl) (vr_plc (vp_var (pv 0)) (vr_cons vc_int vr_nil))) vc_int)) (fun _ _ _ _ _ => (ve_rd (pv 2))))))
/-! ### _law_kinds -/
namespace N__law_kinds
abbrev st : Stmt := (top 52)
abbrev N : List Str := []
theorem sc : FnScope N [] (defScope st) := ⟨rfl, rfl, rfl, by decide +kernel, rfl, by decide +kernel, by decide +kernel⟩
def m : SM := (retM (clM lstD (consM (strM "enter") (consM (strM "leave") (consM (strM "over") (consM (strM "drop") (consM (strM "end") nilM)))))))
end N__law_kinds
def f__law_kinds : FM := fnM 0 0 [] N__law_kinds.m
open N__law_kinds in
theorem d__law_kinds {f : Addr} {fd : FuncData} (F : Fun K "_law_kinds" "_law_kinds" N__law_kinds.st f fd) (hb : Binds K fd [] [])  :
    Df P w K mg base eC 1 f fd [] f__law_kinds := df_of F sc hb fun cdv A outer s H E hr => by
  have hr : Room 0 (A.deeper (envOfC "_law_kinds" (defScope N__law_kinds.st) s.heap.objs.size f cdv)) := hr
  exact (vss_one (vs_ret (ve_lst (va_cons vc_str (va_cons vc_str (va_cons vc_str (va_cons vc_str (va_cons vc_str va_nil))))))))
/-! ### _law_setup -/
namespace N__law_setup
abbrev st : Stmt := (top 53)
abbrev N : List Str := ["_law_box", "_law_place", "_law_kinds_here", "_law_name"]
theorem sc : FnScope N ["_law_box"] (defScope st) := ⟨rfl, rfl, rfl, by decide +kernel, rfl, by decide +kernel, by decide +kernel⟩
def m : SM := (seqM (setM 1 (fzM (opM ixD (clM lstD (consM (strM "zone") (consM (strM "zone") (consM (strM "root") (consM (strM "capture") nilM))))) (callM 2 [.plc 0 [], .tmp] f__law_draw (plcM 0 [] (consM (intM 4) nilM))))))
  (seqM (setM 2 (fzM (callM 2 [.plc 0 [], .tmp] f__law_some (plcM 0 [] (consM (fzM (callM 0 [] f__law_kinds nilM)) nilM)))))
  (seqM (iteM (testM (opM (eqP false) (callM 2 [.plc 0 [], .tmp] f__law_draw (plcM 0 [] (consM (intM 2) nilM))) (intM 0))) (setM 2 (fzM (opM ixD (clM lstD (consM (clM lstD (consM (strM "enter") (consM (strM "leave") (consM (strM "drop") nilM)))) (consM (clM lstD (consM (strM "over") (consM (strM "drop") (consM (strM "end") nilM)))) (consM (clM lstD (consM (strM "enter") (consM (strM "leave") (consM (strM "over") (consM (strM "drop") (consM (strM "end") nilM)))))) (consM (clM lstD (consM (strM "enter") (consM (strM "leave") nilM))) nilM))))) (callM 2 [.plc 0 [], .tmp] f__law_draw (plcM 0 [] (consM (intM 4) nilM)))))) skipM)
  (retM (clM lstD (consM (rd 1) (consM (rd 2) (consM (lcM [3] (itM (clM lstD (consM (strM "own") (consM (strM "same") (consM (strM "related") nilM))))) (tgN 3) (testM (opM (eqP false) (callM 2 [.plc 0 [], .tmp] f__law_draw (plcM 0 [] (consM (intM 3) nilM))) (intM 0))) (rd 3)) nilM))))))))
end N__law_setup
def f__law_setup : FM := fnM 1 4 [1, 2] N__law_setup.m
open N__law_setup in
theorem d__law_setup {f : Addr} {fd : FuncData} (F : Fun K "_law_setup" "_law_setup" N__law_setup.st f fd) (hb : Binds K fd ["_law_box"] []) {a__law_draw : Addr} {fd__law_draw : FuncData} (g__law_draw : mg "_law_draw" = some (.ref a__law_draw)) (D__law_draw : Df P w K mg base eC 1 a__law_draw fd__law_draw ["_law_box", "_law_many"] f__law_draw)
    {a__law_some : Addr} {fd__law_some : FuncData} (g__law_some : mg "_law_some" = some (.ref a__law_some)) (D__law_some : Df P w K mg base eC 2 a__law_some fd__law_some ["_law_box", "_law_names"] f__law_some)
    {a__law_kinds : Addr} {fd__law_kinds : FuncData} (g__law_kinds : mg "_law_kinds" = some (.ref a__law_kinds)) (D__law_kinds : Df P w K mg base eC 1 a__law_kinds fd__law_kinds [] f__law_kinds) :
    Df P w K mg base eC 3 f fd ["_law_box"] f__law_setup := df_of F sc hb fun cdv A outer s H E hr => by
  have hr : Room 2 (A.deeper (envOfC "_law_setup" (defScope N__law_setup.st) s.heap.objs.size f cdv)) := hr
  exact (vss_cons (vs_set (i := 1) (by decide) (ve_fzM (ve_ix ix_lt vop_ix (ve_lst (va_cons vc_str (va_cons vc_str (va_cons vc_str (va_cons vc_str va_nil))))) (vc_call D__law_draw (hr.mono (by decide)) (takes_of rfl rfl rfl rfl) g__law_draw (by rfl) (vr_plc (vp_var (pv 0)) (vr_cons vc_int vr_nil))))) sc.nd rfl (by first | exact Or.inl rfl | exact Or.inr rfl))
      (vss_cons (vs_set (i := 2) (by decide) (ve_fzM (vc_call D__law_some (hr.mono (by decide)) (takes_of rfl rfl rfl rfl) g__law_some (by rfl) (vr_plc (vp_var (pv 0)) (vr_cons (ve_fzM (vc_call0 D__law_kinds (hr.mono (by decide)) (takes_of rfl rfl rfl rfl) g__law_kinds (by rfl))) vr_nil)))) sc.nd rfl (by first | exact Or.inl rfl | exact Or.inr rfl))
      (vss_cons (vs_if (vt_eq hr (vc_call D__law_draw (hr.mono (by decide)) (takes_of rfl rfl rfl rfl) g__law_draw (by rfl) (vr_plc (vp_var (pv 0)) (vr_cons vc_int vr_nil))) vc_int) (vss_one (vs_set (i := 2) (by decide) (ve_fzM (ve_ix ix_lt vop_ix (ve_lst (va_cons (ve_lst (va_cons vc_str (va_cons vc_str (va_cons vc_str va_nil)))) (va_cons (ve_lst (va_cons vc_str (va_cons vc_str (va_cons vc_str va_nil)))) (va_cons (ve_lst (va_cons vc_str (va_cons vc_str (va_cons vc_str (va_cons vc_str (va_cons vc_str va_nil)))))) (va_cons (ve_lst (va_cons vc_str (va_cons vc_str va_nil))) va_nil))))) (vc_call D__law_draw (hr.mono (by decide)) (takes_of rfl rfl rfl rfl) g__law_draw (by rfl) (vr_plc (vp_var (pv 0)) (vr_cons vc_int vr_nil))))) sc.nd rfl (by first | exact Or.inl rfl | exact Or.inr rfl))) vss_nil)
      (vss_one (vs_ret (ve_lst (va_cons (ve_rd (pv 1)) (va_cons (ve_rd (pv 2)) (va_cons (ve_lc (own := [("_law_name", 3)]) (SA := [3]) (g := tgN 3) rfl sc.nd (blkOk_by (own := [("_law_name", 3)]) (N := N) (sc := defScope st) (by decide +kernel)) (vi_seq (ve_lst (va_cons vc_str (va_cons vc_str (va_cons vc_str va_nil))))) (fun _ _ _ _ _ => pg_name (i := 3) sc.nd rfl (Or.inl rfl)) (tk_name (by decide)) (by decide) (fun _ _ _ _ _ => pts_one' (vt_eq hr (vc_call D__law_draw (hr.mono (by decide)) takes0 g__law_draw (by rfl) (vr_plc (vp_var (pv 0)) (vr_cons vc_int vr_nil))) vc_int)) (fun _ _ _ _ _ => (ve_rd (pv 3)))) va_nil)))))))))
/-! ### _law_troubles -/
namespace N__law_troubles
abbrev st : Stmt := (top 54)
abbrev N : List Str := ["_law_box", "_law_name"]
theorem sc : FnScope N ["_law_box"] (defScope st) := ⟨rfl, rfl, rfl, by decide +kernel, rfl, by decide +kernel, by decide +kernel⟩
def m : SM := (retM (lcM [1] (itM (clM lstD (consM (strM "removals") (consM (strM "moves") (consM (strM "slips") (consM (strM "stops") (consM (strM "silent") (consM (strM "outs") nilM)))))))) (tgN 1) (testM (opM (eqP false) (callM 2 [.plc 0 [], .tmp] f__law_draw (plcM 0 [] (consM (intM 4) nilM))) (intM 0))) (rd 1)))
end N__law_troubles
def f__law_troubles : FM := fnM 1 2 [] N__law_troubles.m
open N__law_troubles in
theorem d__law_troubles {f : Addr} {fd : FuncData} (F : Fun K "_law_troubles" "_law_troubles" N__law_troubles.st f fd) (hb : Binds K fd ["_law_box"] []) {a__law_draw : Addr} {fd__law_draw : FuncData} (g__law_draw : mg "_law_draw" = some (.ref a__law_draw)) (D__law_draw : Df P w K mg base eC 1 a__law_draw fd__law_draw ["_law_box", "_law_many"] f__law_draw) :
    Df P w K mg base eC 2 f fd ["_law_box"] f__law_troubles := df_of F sc hb fun cdv A outer s H E hr => by
  have hr : Room 1 (A.deeper (envOfC "_law_troubles" (defScope N__law_troubles.st) s.heap.objs.size f cdv)) := hr
  exact (vss_one (vs_ret (ve_lc (own := [("_law_name", 1)]) (SA := [1]) (g := tgN 1) rfl sc.nd (blkOk_by (own := [("_law_name", 1)]) (N := N) (sc := defScope st) (by decide +kernel)) (vi_seq (ve_lst (va_cons vc_str (va_cons vc_str (va_cons vc_str (va_cons vc_str (va_cons vc_str (va_cons vc_str va_nil)))))))) (fun _ _ _ _ _ => pg_name (i := 1) sc.nd rfl (Or.inl rfl)) (tk_name (by decide)) (by decide) (fun _ _ _ _ _ => pts_one' (vt_eq hr (vc_call D__law_draw (hr.mono (by decide)) takes0 g__law_draw (by rfl) (vr_plc (vp_var (pv 0)) (vr_cons vc_int vr_nil))) vc_int)) (fun _ _ _ _ _ => (ve_rd (pv 1))))))
/-! ### _law_made -/
namespace N__law_made
abbrev st : Stmt := (top 60)
abbrev N : List Str := ["_law_told"]
theorem sc : FnScope N ["_law_told"] (defScope st) := ⟨rfl, rfl, rfl, by decide +kernel, rfl, by decide +kernel, by decide +kernel⟩
def m : SM := (retM (newM 4 "Setup" [.tmp, .tmp, .tmp] f_Setup___init__ (consM (opM ixD (rd 0) (intM 0)) (consM (fzM (clM (one toTupD) (consM (opM ixD (rd 0) (intM 1)) nilM))) (consM (fzM (clM (one toTupD) (consM (opM ixD (rd 0) (intM 2)) nilM))) nilM)))))
end N__law_made
def f__law_made : FM := fnM 1 1 [] N__law_made.m
open N__law_made in
theorem d__law_made {f : Addr} {fd : FuncData} (F : Fun K "_law_made" "_law_made" N__law_made.st f fd) (hb : Binds K fd ["_law_told"] []) (nb : NoB mg)
    {a_Setup : Addr} (g_Setup : mg "Setup" = some (.ref a_Setup))
    {a_Setup___init__ : Addr} {fd_Setup___init__ : FuncData} (mk_Setup : Mk K a_Setup a_Setup___init__) (D_Setup___init__ : Df P w K mg base eC 3 a_Setup___init__ fd_Setup___init__ ["self", "place", "kinds", "sights"] f_Setup___init__) :
    Df P w K mg base eC 5 f fd ["_law_told"] f__law_made := df_of F sc hb fun cdv A outer s H E hr => by
  have hr : Room 4 (A.deeper (envOfC "_law_made" (defScope N__law_made.st) s.heap.objs.size f cdv)) := hr
  exact (vss_one (vs_ret (vc_new mk_Setup D_Setup___init__ (hr.mono (by decide)) (takes_of rfl rfl rfl rfl) g_Setup (by rfl) (vr_cons (ve_ix ix_lt vop_ix (ve_rd (pv 0)) vc_int) (vr_cons (ve_fzM (vc_Ty call_tuple_of vcl_tuple rfl nb.tuple_ Boot.«tuple» (va_cons (ve_ix ix_lt vop_ix (ve_rd (pv 0)) vc_int) va_nil))) (vr_cons (ve_fzM (vc_Ty call_tuple_of vcl_tuple rfl nb.tuple_ Boot.«tuple» (va_cons (ve_ix ix_lt vop_ix (ve_rd (pv 0)) vc_int) va_nil))) vr_nil))))))
/-! ### _law_reaches -/
namespace N__law_reaches
abbrev st : Stmt := (top 62)
abbrev N : List Str := ["_law_setup_here", "_law_kind", "_law_number", "_law_is_root", "_law_stopped"]
theorem sc : FnScope N ["_law_setup_here", "_law_kind", "_law_number", "_law_is_root", "_law_stopped"] (defScope st) := ⟨rfl, rfl, rfl, by decide +kernel, rfl, by decide +kernel, by decide +kernel⟩
def m : SM := (seqM (iteM (testM (opM (inP true) (rd 1) (opM ixD (rd 0) (intM 1)))) (retM (blM false)) skipM)
  (seqM (iteM (testM (opM (eqP false) (rd 1) (strM "end"))) (retM (opM (eqP true) (opM ixD (rd 0) (intM 0)) (strM "zone"))) skipM)
  (seqM (iteM (testM (opM (eqP false) (opM ixD (rd 0) (intM 0)) (strM "zone"))) (retM (orV (opM (eqP false) (rd 2) (intM 3)) (andV (opM (eqP false) (rd 2) (intM 2)) (notV (rd 4))))) skipM)
  (retM (orV (opM (eqP false) (opM ixD (rd 0) (intM 0)) (strM "capture")) (orV (rd 3) (notV (rd 4))))))))
end N__law_reaches
def f__law_reaches : FM := fnM 5 5 [] N__law_reaches.m
open N__law_reaches in
theorem d__law_reaches {f : Addr} {fd : FuncData} (F : Fun K "_law_reaches" "_law_reaches" N__law_reaches.st f fd) (hb : Binds K fd ["_law_setup_here", "_law_kind", "_law_number", "_law_is_root", "_law_stopped"] [])  :
    Df P w K mg base eC 1 f fd ["_law_setup_here", "_law_kind", "_law_number", "_law_is_root", "_law_stopped"] f__law_reaches := df_of F sc hb fun cdv A outer s H E hr => by
  have hr : Room 0 (A.deeper (envOfC "_law_reaches" (defScope N__law_reaches.st) s.heap.objs.size f cdv)) := hr
  exact (vss_cons (vs_if (vt_notin hr (ve_rd (pv 1)) (ve_ix ix_lt vop_ix (ve_rd (pv 0)) vc_int)) (vss_one (vs_ret vc_bl)) vss_nil)
      (vss_cons (vs_if (vt_eq hr (ve_rd (pv 1)) vc_str) (vss_one (vs_ret (ve_ne hr (ve_ix ix_lt vop_ix (ve_rd (pv 0)) vc_int) vc_str))) vss_nil)
      (vss_cons (vs_if (vt_eq hr (ve_ix ix_lt vop_ix (ve_rd (pv 0)) vc_int) vc_str) (vss_one (vs_ret (ve_or (ve_eq hr (ve_rd (pv 2)) vc_int) (ve_one (ve_and (ve_eq hr (ve_rd (pv 2)) vc_int) (ve_one (ve_not (ve_rd (pv 4))))))))) vss_nil)
      (vss_one (vs_ret (ve_or (ve_eq hr (ve_ix ix_lt vop_ix (ve_rd (pv 0)) vc_int) vc_str) (ve_or (ve_rd (pv 3)) (ve_one (ve_not (ve_rd (pv 4)))))))))))
/-! ### _law_signal -/
namespace N__law_signal
abbrev st : Stmt := (top 63)
abbrev N : List Str := ["_law_setup_here", "_law_kind", "_law_number", "_law_same", "_law_related", "_law_side", "_law_told"]
theorem sc : FnScope N ["_law_setup_here", "_law_kind", "_law_number", "_law_same", "_law_related"] (defScope st) := ⟨rfl, rfl, rfl, by decide +kernel, rfl, by decide +kernel, by decide +kernel⟩
def m : SM := (seqM (iteM (testM (opM (eqP false) (rd 1) (strM "end"))) (retM (clM tupD (consM (strM "end") (consM (strM "outside") (consM (blM false) (consM (strM "none") nilM)))))) skipM)
  (seqM (setM 5 (fzM (opM ixD (clM lstD (consM (strM "") (consM (strM "outside") (consM (strM "inside") (consM (strM "inside") nilM))))) (rd 2))))
  (seqM (iteM (andM (testM (opM (eqP false) (rd 2) (intM 3))) (testM (opM (inP false) (strM "own") (opM ixD (rd 0) (intM 2))))) (setM 5 (strM "zone")) skipM)
  (seqM (setM 6 (strM "none"))
  (seqM (iteM (testM (opM (inP false) (strM "related") (opM ixD (rd 0) (intM 2)))) (setM 6 (fzM (opM ixD (clM lstD (consM (strM "none") (consM (strM "outside") (consM (strM "inside") (consM (strM "inside") nilM))))) (rd 4)))) skipM)
  (retM (clM tupD (consM (rd 1) (consM (rd 5) (consM (andV (rd 3) (opM (inP false) (strM "same") (opM ixD (rd 0) (intM 2)))) (consM (rd 6) nilM)))))))))))
end N__law_signal
def f__law_signal : FM := fnM 5 7 [5, 6] N__law_signal.m
open N__law_signal in
theorem d__law_signal {f : Addr} {fd : FuncData} (F : Fun K "_law_signal" "_law_signal" N__law_signal.st f fd) (hb : Binds K fd ["_law_setup_here", "_law_kind", "_law_number", "_law_same", "_law_related"] [])  :
    Df P w K mg base eC 1 f fd ["_law_setup_here", "_law_kind", "_law_number", "_law_same", "_law_related"] f__law_signal := df_of F sc hb fun cdv A outer s H E hr => by
  have hr : Room 0 (A.deeper (envOfC "_law_signal" (defScope N__law_signal.st) s.heap.objs.size f cdv)) := hr
  exact (vss_cons (vs_if (vt_eq hr (ve_rd (pv 1)) vc_str) (vss_one (vs_ret (ve_tup (va_cons vc_str (va_cons vc_str (va_cons vc_bl (va_cons vc_str va_nil))))))) vss_nil)
      (vss_cons (vs_set (i := 5) (by decide) (ve_fzM (ve_ix ix_lt vop_ix (ve_lst (va_cons vc_str (va_cons vc_str (va_cons vc_str (va_cons vc_str va_nil))))) (ve_rd (pv 2)))) sc.nd rfl (by first | exact Or.inl rfl | exact Or.inr rfl))
      (vss_cons (vs_if (vt_w (vw_and (vt_eq hr (ve_rd (pv 2)) vc_int) (vw_and1 (vt_in hr vc_str (ve_ix ix_lt vop_ix (ve_rd (pv 0)) vc_int))))) (vss_one (vs_set (i := 5) (by decide) vc_str sc.nd rfl (by first | exact Or.inl rfl | exact Or.inr rfl))) vss_nil)
      (vss_cons (vs_set (i := 6) (by decide) vc_str sc.nd rfl (by first | exact Or.inl rfl | exact Or.inr rfl))
      (vss_cons (vs_if (vt_in hr vc_str (ve_ix ix_lt vop_ix (ve_rd (pv 0)) vc_int)) (vss_one (vs_set (i := 6) (by decide) (ve_fzM (ve_ix ix_lt vop_ix (ve_lst (va_cons vc_str (va_cons vc_str (va_cons vc_str (va_cons vc_str va_nil))))) (ve_rd (pv 4)))) sc.nd rfl (by first | exact Or.inl rfl | exact Or.inr rfl))) vss_nil)
      (vss_one (vs_ret (ve_tup (va_cons (ve_rd (pv 1)) (va_cons (ve_rd (pv 5)) (va_cons (ve_and (ve_rd (pv 3)) (ve_one (ve_in hr vc_str (ve_ix ix_lt vop_ix (ve_rd (pv 0)) vc_int)))) (va_cons (ve_rd (pv 6)) va_nil))))))))))))
/-! ### _law_ways -/
namespace N__law_ways
abbrev st : Stmt := (top 64)
abbrev N : List Str := ["_law_number", "_law_troubles_here", "_law_out"]
theorem sc : FnScope N ["_law_number", "_law_troubles_here"] (defScope st) := ⟨rfl, rfl, rfl, by decide +kernel, rfl, by decide +kernel, by decide +kernel⟩
def m : SM := (seqM (setM 2 (clM lstD (consM (rd 0) nilM)))
  (seqM (iteM (andM (testM (opM (inP false) (rd 0) (clM tupD (consM (intM 1) (consM (intM 2) nilM))))) (testM (opM (inP false) (strM "removals") (rd 1)))) (dropM (lmM 2 [] appF (consM (intM 0) nilM))) skipM)
  (seqM (iteM (andM (testM (opM (inP false) (rd 0) (clM tupD (consM (intM 1) (consM (intM 2) nilM))))) (testM (opM (inP false) (strM "moves") (rd 1)))) (dropM (lmM 2 [] appF (consM (opM subD (intM 3) (rd 0)) nilM))) skipM)
  (retM (mv 2)))))
end N__law_ways
def f__law_ways : FM := fnM 2 3 [2] N__law_ways.m
open N__law_ways in
theorem d__law_ways {f : Addr} {fd : FuncData} (F : Fun K "_law_ways" "_law_ways" N__law_ways.st f fd) (hb : Binds K fd ["_law_number", "_law_troubles_here"] [])  :
    Df P w K mg base eC 1 f fd ["_law_number", "_law_troubles_here"] f__law_ways := df_of F sc hb fun cdv A outer s H E hr => by
  have hr : Room 0 (A.deeper (envOfC "_law_ways" (defScope N__law_ways.st) s.heap.objs.size f cdv)) := hr
  exact (vss_cons (vs_set (i := 2) (by decide) (ve_lst (va_cons (ve_rd (pv 0)) va_nil)) sc.nd rfl (by first | exact Or.inl rfl | exact Or.inr rfl))
      (vss_cons (vs_if (vt_w (vw_and (vt_in hr (ve_rd (pv 0)) (ve_tup (va_cons vc_int (va_cons vc_int va_nil)))) (vw_and1 (vt_in hr vc_str (ve_rd (pv 1)))))) (vss_one (vs_expr (ve_append (vp_var (pv 2)) (va_cons vc_int va_nil) (by decide)))) vss_nil)
      (vss_cons (vs_if (vt_w (vw_and (vt_in hr (ve_rd (pv 0)) (ve_tup (va_cons vc_int (va_cons vc_int va_nil)))) (vw_and1 (vt_in hr vc_str (ve_rd (pv 1)))))) (vss_one (vs_expr (ve_append (vp_var (pv 2)) (va_cons (ve_op op_sub vop_i0 vc_int (ve_rd (pv 0))) va_nil) (by decide)))) vss_nil)
      (vss_one (vs_ret (ve_mv (pv 2)))))))
/-! ### _law_targets -/
namespace N__law_targets
abbrev st : Stmt := (top 65)
abbrev N : List Str := ["_law_over", "_law_last", "_law_out"]
theorem sc : FnScope N ["_law_over", "_law_last"] (defScope st) := ⟨rfl, rfl, rfl, by decide +kernel, rfl, by decide +kernel, by decide +kernel⟩
def m : SM := (seqM (setM 2 (clM lstD (consM (intM 2) (consM (intM 3) nilM))))
  (seqM (iteM (testM (opM (inP false) (rd 1) (clM tupD (consM (intM 1) (consM (intM 2) (consM (intM 3) nilM)))))) (dropM (lmM 2 [] appF (consM (intM 1) nilM))) skipM)
  (seqM (iteM (andM (testM (opM (eqP true) (rd 0) (intM 3))) (testM (opM (eqP true) (rd 1) (intM 3)))) (dropM (lmM 2 [] appF (consM (intM 4) nilM))) skipM)
  (retM (mv 2)))))
end N__law_targets
def f__law_targets : FM := fnM 2 3 [2] N__law_targets.m
open N__law_targets in
theorem d__law_targets {f : Addr} {fd : FuncData} (F : Fun K "_law_targets" "_law_targets" N__law_targets.st f fd) (hb : Binds K fd ["_law_over", "_law_last"] [])  :
    Df P w K mg base eC 1 f fd ["_law_over", "_law_last"] f__law_targets := df_of F sc hb fun cdv A outer s H E hr => by
  have hr : Room 0 (A.deeper (envOfC "_law_targets" (defScope N__law_targets.st) s.heap.objs.size f cdv)) := hr
  exact (vss_cons (vs_set (i := 2) (by decide) (ve_lst (va_cons vc_int (va_cons vc_int va_nil))) sc.nd rfl (by first | exact Or.inl rfl | exact Or.inr rfl))
      (vss_cons (vs_if (vt_in hr (ve_rd (pv 1)) (ve_tup (va_cons vc_int (va_cons vc_int (va_cons vc_int va_nil))))) (vss_one (vs_expr (ve_append (vp_var (pv 2)) (va_cons vc_int va_nil) (by decide)))) vss_nil)
      (vss_cons (vs_if (vt_w (vw_and (vt_ne hr (ve_rd (pv 0)) vc_int) (vw_and1 (vt_ne hr (ve_rd (pv 1)) vc_int)))) (vss_one (vs_expr (ve_append (vp_var (pv 2)) (va_cons vc_int va_nil) (by decide)))) vss_nil)
      (vss_one (vs_ret (ve_mv (pv 2)))))))
/-! ### _law_turns_at -/
namespace N__law_turns_at
abbrev st : Stmt := (top 66)
abbrev N : List Str := ["_law_over", "_law_last", "_law_troubles_here", "_law_ticks", "_law_many", "_law_out", "_law_tick", "_law_target", "_law_stops"]
theorem sc : FnScope N ["_law_over", "_law_last", "_law_troubles_here"] (defScope st) := ⟨rfl, rfl, rfl, by decide +kernel, rfl, by decide +kernel, by decide +kernel⟩
def m : SM := (seqM (setM 3 (opM addD (lcM [7] (itM (callM 2 [.tmp, .tmp] f__law_targets (consM (rd 0) (consM (rd 1) nilM)))) (tgN 7) yesM (clM tupD (consM (intM 0) (consM (rd 7) nilM)))) (clM lstD (consM (clM tupD (consM (intM 3) (consM (intM 0) nilM))) (consM (clM tupD (consM (intM 5) (consM (intM 0) nilM))) nilM)))))
  (seqM (iteM (testM (opM (eqP true) (rd 0) (intM 0))) (dropM (lmM 3 [] appF (consM (fzM (clM tupD (consM (intM 0) (consM (intM 0) nilM)))) nilM))) skipM)
  (seqM (iteM (andM (testM (opM (inP false) (strM "slips") (rd 2))) (testM (opM (inP false) (rd 0) (clM tupD (consM (intM 1) (consM (intM 2) nilM)))))) (dropM (lmM 3 [] extF (consM (fzM (lcM [7] (itM (callM 2 [.tmp, .tmp] f__law_targets (consM (rd 0) (consM (rd 1) nilM)))) (tgN 7) yesM (clM tupD (consM (intM 1) (consM (rd 7) nilM))))) nilM))) skipM)
  (seqM (iteM (testM (opM (inP false) (strM "outs") (rd 2))) (dropM (lmM 3 [] appF (consM (fzM (clM tupD (consM (intM 2) (consM (intM 0) nilM)))) nilM))) skipM)
  (seqM (iteM (testM (opM (inP false) (strM "silent") (rd 2))) (dropM (lmM 3 [] extF (consM (fzM (clM lstD (consM (clM tupD (consM (intM 4) (consM (intM 0) nilM))) (consM (clM tupD (consM (intM 6) (consM (intM 0) nilM))) nilM)))) nilM))) skipM)
  (seqM (setM 4 (intM 1))
  (seqM (iteM (testM (opM (inP false) (strM "stops") (rd 2))) (setM 4 (intM 8)) skipM)
  (seqM (setM 5 (clM lstD nilM))
  (seqM (forS (itM (fzv 3)) (tgN 6) (dropM (lmM 5 [] extF (consM (fzM (lcM [8] (rngM rng1 (consM (rd 4) nilM)) (tgN 8) yesM (clM tupD (consM (rd 0) (consM (rd 1) (consM (opM ixD (rd 6) (intM 0)) (consM (opM ixD (rd 6) (intM 1)) (consM (rd 8) nilM)))))))) nilM))))
  (retM (mv 5)))))))))))
end N__law_turns_at
def f__law_turns_at : FM := fnM 3 9 [3, 4, 5, 6] N__law_turns_at.m
open N__law_turns_at in
theorem d__law_turns_at {f : Addr} {fd : FuncData} (F : Fun K "_law_turns_at" "_law_turns_at" N__law_turns_at.st f fd) (hb : Binds K fd ["_law_over", "_law_last", "_law_troubles_here"] []) (nb : NoB mg)
    {a__law_targets : Addr} {fd__law_targets : FuncData} (g__law_targets : mg "_law_targets" = some (.ref a__law_targets)) (D__law_targets : Df P w K mg base eC 1 a__law_targets fd__law_targets ["_law_over", "_law_last"] f__law_targets) :
    Df P w K mg base eC 2 f fd ["_law_over", "_law_last", "_law_troubles_here"] f__law_turns_at := df_of F sc hb fun cdv A outer s H E hr => by
  have hr : Room 1 (A.deeper (envOfC "_law_turns_at" (defScope N__law_turns_at.st) s.heap.objs.size f cdv)) := hr
  exact (vss_cons (vs_set (i := 3) (by decide) (ve_op op_addR vop_add (ve_lc (own := [("_law_target", 7)]) (SA := [7]) (g := tgN 7) rfl sc.nd (blkOk_by (own := [("_law_target", 7)]) (N := N) (sc := defScope st) (by decide +kernel)) (vi_seq (vc_call D__law_targets (hr.mono (by decide)) (takes_of rfl rfl rfl rfl) g__law_targets (by rfl) (vr_cons (ve_rd (pv 0)) (vr_cons (ve_rd (pv 1)) vr_nil)))) (fun _ _ _ _ _ => pg_name (i := 7) sc.nd rfl (Or.inl rfl)) (tk_name (by decide)) (by decide) (fun _ _ _ _ _ => pts_yes') (fun _ _ _ _ _ => (ve_tup (va_cons vc_int (va_cons (ve_rd (pv 7)) va_nil))))) (ve_lst (va_cons (ve_tup (va_cons vc_int (va_cons vc_int va_nil))) (va_cons (ve_tup (va_cons vc_int (va_cons vc_int va_nil))) va_nil)))) sc.nd rfl (by first | exact Or.inl rfl | exact Or.inr rfl))
      (vss_cons (vs_if (vt_ne hr (ve_rd (pv 0)) vc_int) (vss_one (vs_expr (ve_append (vp_var (pv 3)) (va_cons (ve_fzM (ve_tup (va_cons vc_int (va_cons vc_int va_nil)))) va_nil) (by decide)))) vss_nil)
      (vss_cons (vs_if (vt_w (vw_and (vt_in hr vc_str (ve_rd (pv 2))) (vw_and1 (vt_in hr (ve_rd (pv 0)) (ve_tup (va_cons vc_int (va_cons vc_int va_nil))))))) (vss_one (vs_expr (ve_extend (vp_var (pv 3)) (va_cons (ve_fzM (ve_lc (own := [("_law_target", 7)]) (SA := [7]) (g := tgN 7) rfl sc.nd (blkOk_by (own := [("_law_target", 7)]) (N := N) (sc := defScope st) (by decide +kernel)) (vi_seq (vc_call D__law_targets (hr.mono (by decide)) (takes_of rfl rfl rfl rfl) g__law_targets (by rfl) (vr_cons (ve_rd (pv 0)) (vr_cons (ve_rd (pv 1)) vr_nil)))) (fun _ _ _ _ _ => pg_name (i := 7) sc.nd rfl (Or.inl rfl)) (tk_name (by decide)) (by decide) (fun _ _ _ _ _ => pts_yes') (fun _ _ _ _ _ => (ve_tup (va_cons vc_int (va_cons (ve_rd (pv 7)) va_nil)))))) va_nil) (by decide)))) vss_nil)
      (vss_cons (vs_if (vt_in hr vc_str (ve_rd (pv 2))) (vss_one (vs_expr (ve_append (vp_var (pv 3)) (va_cons (ve_fzM (ve_tup (va_cons vc_int (va_cons vc_int va_nil)))) va_nil) (by decide)))) vss_nil)
      (vss_cons (vs_if (vt_in hr vc_str (ve_rd (pv 2))) (vss_one (vs_expr (ve_extend (vp_var (pv 3)) (va_cons (ve_fzM (ve_lst (va_cons (ve_tup (va_cons vc_int (va_cons vc_int va_nil))) (va_cons (ve_tup (va_cons vc_int (va_cons vc_int va_nil))) va_nil)))) va_nil) (by decide)))) vss_nil)
      (vss_cons (vs_set (i := 4) (by decide) vc_int sc.nd rfl (by first | exact Or.inl rfl | exact Or.inr rfl))
      (vss_cons (vs_if (vt_in hr vc_str (ve_rd (pv 2))) (vss_one (vs_set (i := 4) (by decide) vc_int sc.nd rfl (by first | exact Or.inl rfl | exact Or.inr rfl))) vss_nil)
      (vss_cons (vs_set (i := 5) (by decide) (ve_lst va_nil) sc.nd rfl (by first | exact Or.inl rfl | exact Or.inr rfl))
      (vss_cons (vs_for (passes_of rfl) rfl (vi_seq (ve_fz (pv 3))) (vg_name (i := 6) (by decide) sc.nd rfl (by first | exact Or.inl rfl | exact Or.inr rfl)) (vss_one (vs_expr (ve_extend (vp_var (pv 5)) (va_cons (ve_fzM (ve_lc (own := [("_law_stops", 8)]) (SA := [8]) (g := tgN 8) rfl sc.nd (blkOk_by (own := [("_law_stops", 8)]) (N := N) (sc := defScope st) (by decide +kernel)) (vi_range1 rfl nb.range_ (va_cons (ve_rd (pv 4)) va_nil)) (fun _ _ _ _ _ => pg_name (i := 8) sc.nd rfl (Or.inl rfl)) (tk_name (by decide)) (by decide) (fun _ _ _ _ _ => pts_yes') (fun _ _ _ _ _ => (ve_tup (va_cons (ve_rd (pv 0)) (va_cons (ve_rd (pv 1)) (va_cons (ve_ix ix_lt vop_ix (ve_rd (pv 6)) vc_int) (va_cons (ve_ix ix_lt vop_ix (ve_rd (pv 6)) vc_int) (va_cons (ve_rd (pv 8)) va_nil))))))))) va_nil) (by decide)))))
      (vss_one (vs_ret (ve_mv (pv 5)))))))))))))
/-! ### _law_turns -/
namespace N__law_turns
abbrev st : Stmt := (top 67)
abbrev N : List Str := ["_law_situation_here", "_law_troubles_here", "_law_out", "_law_over", "_law_lasts", "_law_last"]
theorem sc : FnScope N ["_law_situation_here", "_law_troubles_here"] (defScope st) := ⟨rfl, rfl, rfl, by decide +kernel, rfl, by decide +kernel, by decide +kernel⟩
def m : SM := (seqM (setM 2 (clM lstD nilM))
  (seqM (forS (itM (callM 2 [.tmp, .tmp] f__law_ways (consM (opM ixD (rd 0) (intM 0)) (consM (rd 1) nilM)))) (tgN 3) (seqM (setM 4 (fzM (callM 2 [.tmp, .tmp] f__law_ways (consM (opM ixD (rd 0) (intM 1)) (consM (rd 1) nilM)))))
  (seqM (iteM (testM (opM (eqP false) (opM ixD (rd 0) (intM 1)) (intM 4))) (setM 4 (fzM (clM lstD (consM (opM mulD (intM 4) (clM (one intD) (consM (opM gtD (rd 3) (intM 0)) nilM))) nilM)))) skipM)
  (forS (itM (rd 4)) (tgN 5) (dropM (lmM 2 [] extF (consM (fzM (callM 3 [.tmp, .tmp, .tmp] f__law_turns_at (consM (rd 3) (consM (rd 5) (consM (rd 1) nilM))))) nilM)))))))
  (retM (clM (one sortedG) (consM (fzv 2) nilM)))))
end N__law_turns
def f__law_turns : FM := fnM 2 6 [2, 3, 4, 5] N__law_turns.m
open N__law_turns in
theorem d__law_turns {f : Addr} {fd : FuncData} (F : Fun K "_law_turns" "_law_turns" N__law_turns.st f fd) (hb : Binds K fd ["_law_situation_here", "_law_troubles_here"] []) (nb : NoB mg)
    {a__law_ways : Addr} {fd__law_ways : FuncData} (g__law_ways : mg "_law_ways" = some (.ref a__law_ways)) (D__law_ways : Df P w K mg base eC 1 a__law_ways fd__law_ways ["_law_number", "_law_troubles_here"] f__law_ways)
    {a__law_turns_at : Addr} {fd__law_turns_at : FuncData} (g__law_turns_at : mg "_law_turns_at" = some (.ref a__law_turns_at)) (D__law_turns_at : Df P w K mg base eC 2 a__law_turns_at fd__law_turns_at ["_law_over", "_law_last", "_law_troubles_here"] f__law_turns_at) :
    Df P w K mg base eC 3 f fd ["_law_situation_here", "_law_troubles_here"] f__law_turns := df_of F sc hb fun cdv A outer s H E hr => by
  have hr : Room 2 (A.deeper (envOfC "_law_turns" (defScope N__law_turns.st) s.heap.objs.size f cdv)) := hr
  exact (vss_cons (vs_set (i := 2) (by decide) (ve_lst va_nil) sc.nd rfl (by first | exact Or.inl rfl | exact Or.inr rfl))
      (vss_cons (vs_for (passes_of rfl) rfl (vi_seq (vc_call D__law_ways (hr.mono (by decide)) (takes_of rfl rfl rfl rfl) g__law_ways (by rfl) (vr_cons (ve_ix ix_lt vop_ix (ve_rd (pv 0)) vc_int) (vr_cons (ve_rd (pv 1)) vr_nil)))) (vg_name (i := 3) (by decide) sc.nd rfl (by first | exact Or.inl rfl | exact Or.inr rfl)) (vss_cons (vs_set (i := 4) (by decide) (ve_fzM (vc_call D__law_ways (hr.mono (by decide)) (takes_of rfl rfl rfl rfl) g__law_ways (by rfl) (vr_cons (ve_ix ix_lt vop_ix (ve_rd (pv 0)) vc_int) (vr_cons (ve_rd (pv 1)) vr_nil)))) sc.nd rfl (by first | exact Or.inl rfl | exact Or.inr rfl))
      (vss_cons (vs_if (vt_eq hr (ve_ix ix_lt vop_ix (ve_rd (pv 0)) vc_int) vc_int) (vss_one (vs_set (i := 4) (by decide) (ve_fzM (ve_lst (va_cons (ve_op op_mul vop_i vc_int (vc_Ty call_int1 vcl_int rfl nb.int_ Boot.«int» (va_cons (ve_cmp op_gt vop_b0 (ve_rd (pv 3)) vc_int) va_nil))) va_nil))) sc.nd rfl (by first | exact Or.inl rfl | exact Or.inr rfl))) vss_nil)
      (vss_one (vs_for (passes_of rfl) rfl (vi_seq (ve_rd (pv 4))) (vg_name (i := 5) (by decide) sc.nd rfl (by first | exact Or.inl rfl | exact Or.inr rfl)) (vss_one (vs_expr (ve_extend (vp_var (pv 2)) (va_cons (ve_fzM (vc_call D__law_turns_at (hr.mono (by decide)) (takes_of rfl rfl rfl rfl) g__law_turns_at (by rfl) (vr_cons (ve_rd (pv 3)) (vr_cons (ve_rd (pv 5)) (vr_cons (ve_rd (pv 1)) vr_nil))))) va_nil) (by decide)))))))))
      (vss_one (vs_ret (vc_sorted hr rfl nb.sorted_ Boot.sorted (va_cons (ve_fz (pv 2)) va_nil))))))
/-! ### _law_situation -/
namespace N__law_situation
abbrev st : Stmt := (top 69)
abbrev N : List Str := ["_law_turn", "_law_x", "_law_entered", "_law_old", "_law_over", "_law_last", "_law_tick", "_law_target", "_law_stops"]
theorem sc : FnScope N ["_law_turn", "_law_x", "_law_entered"] (defScope st) := ⟨rfl, rfl, rfl, by decide +kernel, rfl, by decide +kernel, by decide +kernel⟩
def m : SM := (seqM (asgM (tgTup 5 (tgCons (tgN 4) (tgCons (tgN 5) (tgCons (tgN 6) (tgCons (tgN 7) (tgCons (tgN 8) tgNil)))))) (rd 0))
  (seqM (iteM (andM (testM (opM ltD (rd 6) (intM 2))) (testM (opM (eqP false) (rd 7) (intM 0)))) (retM (clM tupD (consM (rd 4) (consM (rd 5) nilM)))) skipM)
  (seqM (iteM (andM (testM (opM ltD (rd 6) (intM 2))) (orM (truM (rd 2)) (testM (opM (eqP false) (rd 7) (intM 1))))) (retM (clM tupD (consM (rd 1) (consM (intM 4) nilM)))) skipM)
  (seqM (setM 3 (rd 5))
  (seqM (iteM (testM (opM (eqP false) (rd 5) (intM 4))) (setM 3 (opM mulD (rd 4) (clM (one intD) (consM (opM (eqP true) (rd 6) (intM 1)) nilM)))) skipM)
  (seqM (iteM (testM (opM ltD (rd 6) (intM 2))) (retM (clM tupD (consM (rd 1) (consM (rd 3) nilM)))) skipM)
  (retM (clM tupD (consM (intM 0) (consM (rd 3) nilM))))))))))
end N__law_situation
def f__law_situation : FM := fnM 3 9 [3, 4, 5, 6, 7, 8] N__law_situation.m
open N__law_situation in
theorem d__law_situation {f : Addr} {fd : FuncData} (F : Fun K "_law_situation" "_law_situation" N__law_situation.st f fd) (hb : Binds K fd ["_law_turn", "_law_x", "_law_entered"] []) (nb : NoB mg) :
    Df P w K mg base eC 1 f fd ["_law_turn", "_law_x", "_law_entered"] f__law_situation := df_of F sc hb fun cdv A outer s H E hr => by
  have hr : Room 0 (A.deeper (envOfC "_law_situation" (defScope N__law_situation.st) s.heap.objs.size f cdv)) := hr
  exact (vss_cons (vs_asg (ve_rd (pv 0)) (vg_tup rfl (vgs_cons (vg_name (i := 4) (by decide) sc.nd rfl (by first | exact Or.inl rfl | exact Or.inr rfl)) (vgs_cons (vg_name (i := 5) (by decide) sc.nd rfl (by first | exact Or.inl rfl | exact Or.inr rfl)) (vgs_cons (vg_name (i := 6) (by decide) sc.nd rfl (by first | exact Or.inl rfl | exact Or.inr rfl)) (vgs_cons (vg_name (i := 7) (by decide) sc.nd rfl (by first | exact Or.inl rfl | exact Or.inr rfl)) (vgs_cons (vg_name (i := 8) (by decide) sc.nd rfl (by first | exact Or.inl rfl | exact Or.inr rfl)) vgs_nil)))))))
      (vss_cons (vs_if (vt_w (vw_and (vt_cmp op_lt vop_b0 (ve_rd (pv 6)) vc_int) (vw_and1 (vt_eq hr (ve_rd (pv 7)) vc_int)))) (vss_one (vs_ret (ve_tup (va_cons (ve_rd (pv 4)) (va_cons (ve_rd (pv 5)) va_nil))))) vss_nil)
      (vss_cons (vs_if (vt_w (vw_and (vt_cmp op_lt vop_b0 (ve_rd (pv 6)) vc_int) (vw_and1 (vt_w (vw_or (vt_truth (ve_rd (pv 2))) (vw_or1 (vt_eq hr (ve_rd (pv 7)) vc_int))))))) (vss_one (vs_ret (ve_tup (va_cons (ve_rd (pv 1)) (va_cons vc_int va_nil))))) vss_nil)
      (vss_cons (vs_set (i := 3) (by decide) (ve_rd (pv 5)) sc.nd rfl (by first | exact Or.inl rfl | exact Or.inr rfl))
      (vss_cons (vs_if (vt_eq hr (ve_rd (pv 5)) vc_int) (vss_one (vs_set (i := 3) (by decide) (ve_op op_mul vop_i (ve_rd (pv 4)) (vc_Ty call_int1 vcl_int rfl nb.int_ Boot.«int» (va_cons (ve_ne hr (ve_rd (pv 6)) vc_int) va_nil))) sc.nd rfl (by first | exact Or.inl rfl | exact Or.inr rfl))) vss_nil)
      (vss_cons (vs_if (vt_cmp op_lt vop_b0 (ve_rd (pv 6)) vc_int) (vss_one (vs_ret (ve_tup (va_cons (ve_rd (pv 1)) (va_cons (ve_rd (pv 3)) va_nil))))) vss_nil)
      (vss_one (vs_ret (ve_tup (va_cons vc_int (va_cons (ve_rd (pv 3)) va_nil)))))))))))
/-! ### _law_behind -/
namespace N__law_behind
abbrev st : Stmt := (top 68)
abbrev N : List Str := ["_law_setup_here", "_law_turn", "_law_x", "_law_events", "_law_signals_here", "_law_entered", "_law_k", "_law_over", "_law_last", "_law_tick", "_law_target", "_law_stops", "_law_kind", "_law_number", "_law_same", "_law_related"]
theorem sc : FnScope N ["_law_setup_here", "_law_turn"] (defScope st) := ⟨rfl, rfl, rfl, by decide +kernel, rfl, by decide +kernel, by decide +kernel⟩
def m : SM := (seqM (asgM (tgTup 5 (tgCons (tgN 7) (tgCons (tgN 8) (tgCons (tgN 9) (tgCons (tgN 10) (tgCons (tgN 11) tgNil)))))) (rd 1))
  (seqM (setM 2 (fzM (opM ixD (clM lstD (consM (rd 7) (consM (rd 8) (consM (intM 1) (consM (intM 2) (consM (intM 3) nilM)))))) (rd 10))))
  (seqM (setM 3 (clM lstD nilM))
  (seqM (iteM (andM (testM (opM ltD (rd 9) (intM 2))) (testM (opM (eqP false) (rd 10) (intM 0)))) (setM 3 (clM lstD (consM (fzM (clM tupD (consM (strM "over") (consM (rd 7) (consM (opM (eqP false) (rd 8) (intM 4)) (consM (intM 0) nilM)))))) nilM))) (iteM (testM (opM ltD (rd 9) (intM 2))) (seqM (setM 3 (clM lstD (consM (fzM (clM tupD (consM (strM "enter") (consM (rd 2) (consM (opM (eqP false) (rd 10) (intM 1)) (consM (rd 7) nilM)))))) (consM (fzM (clM tupD (consM (strM "over") (consM (rd 2) (consM (opM (eqP false) (rd 10) (intM 1)) (consM (intM 0) nilM)))))) nilM))))
  (iteM (andM (testM (opM (eqP false) (rd 9) (intM 0))) (testM (opM gtD (rd 7) (intM 0)))) (dropM (lmM 3 [] insF (consM (intM 1) (consM (fzM (clM tupD (consM (strM "leave") (consM (rd 7) (consM (opM (eqP false) (rd 8) (intM 4)) (consM (rd 2) nilM)))))) nilM)))) skipM)) (iteM (testM (opM gtD (rd 7) (intM 0))) (setM 3 (clM lstD (consM (fzM (clM tupD (consM (opM ixD (clM lstD (consM (strM "leave") (consM (strM "drop") (consM (strM "drop") (consM (strM "leave") (consM (strM "leave") nilM)))))) (opM subD (rd 9) (intM 2))) (consM (rd 7) (consM (opM (eqP false) (rd 8) (intM 4)) (consM (intM 0) nilM)))))) nilM))) skipM)))
  (seqM (setM 4 (clM lstD nilM))
  (seqM (setM 5 (blM false))
  (seqM (forS (rngM rng1 (consM (lenP 3 []) nilM)) (tgN 6) (seqM (asgM (tgTup 4 (tgCons (tgN 12) (tgCons (tgN 13) (tgCons (tgN 14) (tgCons (tgN 15) tgNil))))) (ixPM 3 [] (rd 6)))
  (iteM (testM (callM 5 [.tmp, .tmp, .tmp, .tmp, .tmp] f__law_reaches (consM (rd 0) (consM (rd 12) (consM (rd 13) (consM (blM false) (consM (opM (eqP false) (opM modD (clM (one intD) (consM (opM divD (rd 11) (opM ixD (clM lstD (consM (intM 1) (consM (intM 2) (consM (intM 4) nilM)))) (rd 6))) nilM)) (intM 2)) (intM 1)) nilM))))))) (seqM (iteM (truM (rd 5)) (setM 14 (opM (eqP false) (rd 12) (strM "over"))) skipM)
  (seqM (dropM (lmM 4 [] appF (consM (fzM (callM 5 [.tmp, .tmp, .tmp, .tmp, .tmp] f__law_signal (consM (rd 0) (consM (rd 12) (consM (rd 13) (consM (rd 14) (consM (rd 15) nilM))))))) nilM)))
  (setM 5 (orV (rd 5) (opM (eqP false) (rd 12) (strM "enter")))))) skipM)))
  (seqM (iteM (andM (testM (opM (inP false) (rd 9) (clM tupD (consM (intM 3) (consM (intM 5) nilM))))) (testM (callM 5 [.tmp, .tmp, .tmp, .tmp, .tmp] f__law_reaches (consM (rd 0) (consM (strM "end") (consM (intM 1) (consM (blM true) (consM (blM false) nilM)))))))) (dropM (lmM 4 [] appF (consM (fzM (callM 5 [.tmp, .tmp, .tmp, .tmp, .tmp] f__law_signal (consM (rd 0) (consM (strM "end") (consM (intM 1) (consM (blM false) (consM (intM 0) nilM))))))) nilM))) skipM)
  (retM (clM lstD (consM (callM 3 [.tmp, .tmp, .tmp] f__law_situation (consM (rd 1) (consM (rd 2) (consM (rd 5) nilM)))) (consM (fzv 4) nilM))))))))))))
end N__law_behind
def f__law_behind : FM := fnM 2 16 [2, 3, 4, 5, 6, 7, 8, 9, 10, 11, 12, 13, 14, 15] N__law_behind.m
open N__law_behind in
theorem d__law_behind {f : Addr} {fd : FuncData} (F : Fun K "_law_behind" "_law_behind" N__law_behind.st f fd) (hb : Binds K fd ["_law_setup_here", "_law_turn"] []) (nb : NoB mg)
    {a__law_reaches : Addr} {fd__law_reaches : FuncData} (g__law_reaches : mg "_law_reaches" = some (.ref a__law_reaches)) (D__law_reaches : Df P w K mg base eC 1 a__law_reaches fd__law_reaches ["_law_setup_here", "_law_kind", "_law_number", "_law_is_root", "_law_stopped"] f__law_reaches)
    {a__law_signal : Addr} {fd__law_signal : FuncData} (g__law_signal : mg "_law_signal" = some (.ref a__law_signal)) (D__law_signal : Df P w K mg base eC 1 a__law_signal fd__law_signal ["_law_setup_here", "_law_kind", "_law_number", "_law_same", "_law_related"] f__law_signal)
    {a__law_situation : Addr} {fd__law_situation : FuncData} (g__law_situation : mg "_law_situation" = some (.ref a__law_situation)) (D__law_situation : Df P w K mg base eC 1 a__law_situation fd__law_situation ["_law_turn", "_law_x", "_law_entered"] f__law_situation) :
    Df P w K mg base eC 2 f fd ["_law_setup_here", "_law_turn"] f__law_behind := df_of F sc hb fun cdv A outer s H E hr => by
  have hr : Room 1 (A.deeper (envOfC "_law_behind" (defScope N__law_behind.st) s.heap.objs.size f cdv)) := hr
  exact (vss_cons (vs_asg (ve_rd (pv 1)) (vg_tup rfl (vgs_cons (vg_name (i := 7) (by decide) sc.nd rfl (by first | exact Or.inl rfl | exact Or.inr rfl)) (vgs_cons (vg_name (i := 8) (by decide) sc.nd rfl (by first | exact Or.inl rfl | exact Or.inr rfl)) (vgs_cons (vg_name (i := 9) (by decide) sc.nd rfl (by first | exact Or.inl rfl | exact Or.inr rfl)) (vgs_cons (vg_name (i := 10) (by decide) sc.nd rfl (by first | exact Or.inl rfl | exact Or.inr rfl)) (vgs_cons (vg_name (i := 11) (by decide) sc.nd rfl (by first | exact Or.inl rfl | exact Or.inr rfl)) vgs_nil)))))))
      (vss_cons (vs_set (i := 2) (by decide) (ve_fzM (ve_ix ix_lt vop_ix (ve_lst (va_cons (ve_rd (pv 7)) (va_cons (ve_rd (pv 8)) (va_cons vc_int (va_cons vc_int (va_cons vc_int va_nil)))))) (ve_rd (pv 10)))) sc.nd rfl (by first | exact Or.inl rfl | exact Or.inr rfl))
      (vss_cons (vs_set (i := 3) (by decide) (ve_lst va_nil) sc.nd rfl (by first | exact Or.inl rfl | exact Or.inr rfl))
      (vss_cons (vs_if (vt_w (vw_and (vt_cmp op_lt vop_b0 (ve_rd (pv 9)) vc_int) (vw_and1 (vt_eq hr (ve_rd (pv 10)) vc_int)))) (vss_one (vs_set (i := 3) (by decide) (ve_lst (va_cons (ve_fzM (ve_tup (va_cons vc_str (va_cons (ve_rd (pv 7)) (va_cons (ve_eq hr (ve_rd (pv 8)) vc_int) (va_cons vc_int va_nil)))))) va_nil)) sc.nd rfl (by first | exact Or.inl rfl | exact Or.inr rfl))) (vss_one (vs_if (vt_cmp op_lt vop_b0 (ve_rd (pv 9)) vc_int) (vss_cons (vs_set (i := 3) (by decide) (ve_lst (va_cons (ve_fzM (ve_tup (va_cons vc_str (va_cons (ve_rd (pv 2)) (va_cons (ve_eq hr (ve_rd (pv 10)) vc_int) (va_cons (ve_rd (pv 7)) va_nil)))))) (va_cons (ve_fzM (ve_tup (va_cons vc_str (va_cons (ve_rd (pv 2)) (va_cons (ve_eq hr (ve_rd (pv 10)) vc_int) (va_cons vc_int va_nil)))))) va_nil))) sc.nd rfl (by first | exact Or.inl rfl | exact Or.inr rfl))
      (vss_one (vs_if (vt_w (vw_and (vt_eq hr (ve_rd (pv 9)) vc_int) (vw_and1 (vt_cmp op_gt vop_b0 (ve_rd (pv 7)) vc_int)))) (vss_one (vs_expr (ve_insert (vp_var (pv 3)) (va_cons vc_int (va_cons (ve_fzM (ve_tup (va_cons vc_str (va_cons (ve_rd (pv 7)) (va_cons (ve_eq hr (ve_rd (pv 8)) vc_int) (va_cons (ve_rd (pv 2)) va_nil)))))) va_nil)) (by decide)))) vss_nil))) (vss_one (vs_if (vt_cmp op_gt vop_b0 (ve_rd (pv 7)) vc_int) (vss_one (vs_set (i := 3) (by decide) (ve_lst (va_cons (ve_fzM (ve_tup (va_cons (ve_ix ix_lt vop_ix (ve_lst (va_cons vc_str (va_cons vc_str (va_cons vc_str (va_cons vc_str (va_cons vc_str va_nil)))))) (ve_op op_sub vop_i0 (ve_rd (pv 9)) vc_int)) (va_cons (ve_rd (pv 7)) (va_cons (ve_eq hr (ve_rd (pv 8)) vc_int) (va_cons vc_int va_nil)))))) va_nil)) sc.nd rfl (by first | exact Or.inl rfl | exact Or.inr rfl))) vss_nil)))))
      (vss_cons (vs_set (i := 4) (by decide) (ve_lst va_nil) sc.nd rfl (by first | exact Or.inl rfl | exact Or.inr rfl))
      (vss_cons (vs_set (i := 5) (by decide) vc_bl sc.nd rfl (by first | exact Or.inl rfl | exact Or.inr rfl))
      (vss_cons (vs_for (passes_of rfl) rfl (vi_range1 rfl nb.range_ (va_cons (vc_lenP (vp_var (pv 3)) rfl nb.len_) va_nil)) (vg_name (i := 6) (by decide) sc.nd rfl (by first | exact Or.inl rfl | exact Or.inr rfl)) (vss_cons (vs_asg (ve_ixP (vp_var (pv 3)) (ve_rd (pv 6))) (vg_tup rfl (vgs_cons (vg_name (i := 12) (by decide) sc.nd rfl (by first | exact Or.inl rfl | exact Or.inr rfl)) (vgs_cons (vg_name (i := 13) (by decide) sc.nd rfl (by first | exact Or.inl rfl | exact Or.inr rfl)) (vgs_cons (vg_name (i := 14) (by decide) sc.nd rfl (by first | exact Or.inl rfl | exact Or.inr rfl)) (vgs_cons (vg_name (i := 15) (by decide) sc.nd rfl (by first | exact Or.inl rfl | exact Or.inr rfl)) vgs_nil))))))
      (vss_one (vs_if (vt_val (vc_call D__law_reaches (hr.mono (by decide)) (takes_of rfl rfl rfl rfl) g__law_reaches (by rfl) (vr_cons (ve_rd (pv 0)) (vr_cons (ve_rd (pv 12)) (vr_cons (ve_rd (pv 13)) (vr_cons vc_bl (vr_cons (ve_eq hr (ve_op op_mod vop_i (vc_Ty call_int1 vcl_int rfl nb.int_ Boot.«int» (va_cons (ve_op op_fdiv vop_i (ve_rd (pv 11)) (ve_ix ix_lt vop_ix (ve_lst (va_cons vc_int (va_cons vc_int (va_cons vc_int va_nil)))) (ve_rd (pv 6)))) va_nil)) vc_int) vc_int) vr_nil))))))) (vss_cons (vs_if (vt_truth (ve_rd (pv 5))) (vss_one (vs_set (i := 14) (by decide) (ve_eq hr (ve_rd (pv 12)) vc_str) sc.nd rfl (by first | exact Or.inl rfl | exact Or.inr rfl))) vss_nil)
      (vss_cons (vs_expr (ve_append (vp_var (pv 4)) (va_cons (ve_fzM (vc_call D__law_signal (hr.mono (by decide)) (takes_of rfl rfl rfl rfl) g__law_signal (by rfl) (vr_cons (ve_rd (pv 0)) (vr_cons (ve_rd (pv 12)) (vr_cons (ve_rd (pv 13)) (vr_cons (ve_rd (pv 14)) (vr_cons (ve_rd (pv 15)) vr_nil))))))) va_nil) (by decide)))
      (vss_one (vs_set (i := 5) (by decide) (ve_or (ve_rd (pv 5)) (ve_one (ve_eq hr (ve_rd (pv 12)) vc_str))) sc.nd rfl (by first | exact Or.inl rfl | exact Or.inr rfl))))) vss_nil))))
      (vss_cons (vs_if (vt_w (vw_and (vt_in hr (ve_rd (pv 9)) (ve_tup (va_cons vc_int (va_cons vc_int va_nil)))) (vw_and1 (vt_val (vc_call D__law_reaches (hr.mono (by decide)) (takes_of rfl rfl rfl rfl) g__law_reaches (by rfl) (vr_cons (ve_rd (pv 0)) (vr_cons vc_str (vr_cons vc_int (vr_cons vc_bl (vr_cons vc_bl vr_nil)))))))))) (vss_one (vs_expr (ve_append (vp_var (pv 4)) (va_cons (ve_fzM (vc_call D__law_signal (hr.mono (by decide)) (takes_of rfl rfl rfl rfl) g__law_signal (by rfl) (vr_cons (ve_rd (pv 0)) (vr_cons vc_str (vr_cons vc_int (vr_cons vc_bl (vr_cons vc_int vr_nil))))))) va_nil) (by decide)))) vss_nil)
      (vss_one (vs_ret (ve_lst (va_cons (vc_call D__law_situation (hr.mono (by decide)) (takes_of rfl rfl rfl rfl) g__law_situation (by rfl) (vr_cons (ve_rd (pv 1)) (vr_cons (ve_rd (pv 2)) (vr_cons (ve_rd (pv 5)) vr_nil)))) (va_cons (ve_fz (pv 4)) va_nil)))))))))))))
/-! ### _law_scenario -/
namespace N__law_scenario
abbrev st : Stmt := (top 70)
abbrev N : List Str := ["_law_box", "_law_setup_here", "_law_troubles_here", "_law_most", "_law_out", "_law_situation_here", "_law_k", "_law_ways_here", "_law_turn"]
theorem sc : FnScope N ["_law_box", "_law_setup_here", "_law_troubles_here", "_law_most"] (defScope st) := ⟨rfl, rfl, rfl, by decide +kernel, rfl, by decide +kernel, by decide +kernel⟩
def m : SM := (seqM (setM 4 (clM lstD nilM))
  (seqM (setM 5 (fzM (clM tupD (consM (intM 0) (consM (intM 0) nilM)))))
  (seqM (forS (rngM rng1 (consM (callM 2 [.plc 0 [], .tmp] f__law_draw (plcM 0 [] (consM (fzM (opM addD (rd 3) (intM 1))) nilM))) nilM)) (tgN 6) (seqM (setM 7 (callM 2 [.tmp, .tmp] f__law_turns (consM (rd 5) (consM (rd 2) nilM))))
  (seqM (iteM (testM (opM (eqP false) (callM 2 [.plc 0 [], .tmp] f__law_draw (plcM 0 [] (consM (intM 2) nilM))) (intM 0))) (setM 7 (lcM [8] (itM (fzv 7)) (tgN 8) (testM (opM ltD (opM ixD (rd 8) (intM 2)) (intM 2))) (rd 8))) skipM)
  (seqM (setM 8 (opM ixD (fzv 7) (opM modD (clM (one intD) (consM (callM 2 [.plc 0 [], .tmp] f__law_draw (plcM 0 [] (consM (intM 840) nilM))) nilM)) (lenP 7 []))))
  (seqM (dropM (lmM 4 [] appF (consM (rd 8) nilM)))
  (setM 5 (fzM (opM ixD (callM 2 [.tmp, .tmp] f__law_behind (consM (rd 1) (consM (rd 8) nilM))) (intM 0)))))))))
  (retM (mv 4)))))
end N__law_scenario
def f__law_scenario : FM := fnM 4 9 [4, 5, 6, 7, 8] N__law_scenario.m
open N__law_scenario in
theorem d__law_scenario {f : Addr} {fd : FuncData} (F : Fun K "_law_scenario" "_law_scenario" N__law_scenario.st f fd) (hb : Binds K fd ["_law_box", "_law_setup_here", "_law_troubles_here", "_law_most"] []) (nb : NoB mg)
    {a__law_draw : Addr} {fd__law_draw : FuncData} (g__law_draw : mg "_law_draw" = some (.ref a__law_draw)) (D__law_draw : Df P w K mg base eC 1 a__law_draw fd__law_draw ["_law_box", "_law_many"] f__law_draw)
    {a__law_turns : Addr} {fd__law_turns : FuncData} (g__law_turns : mg "_law_turns" = some (.ref a__law_turns)) (D__law_turns : Df P w K mg base eC 3 a__law_turns fd__law_turns ["_law_situation_here", "_law_troubles_here"] f__law_turns)
    {a__law_behind : Addr} {fd__law_behind : FuncData} (g__law_behind : mg "_law_behind" = some (.ref a__law_behind)) (D__law_behind : Df P w K mg base eC 2 a__law_behind fd__law_behind ["_law_setup_here", "_law_turn"] f__law_behind) :
    Df P w K mg base eC 4 f fd ["_law_box", "_law_setup_here", "_law_troubles_here", "_law_most"] f__law_scenario := df_of F sc hb fun cdv A outer s H E hr => by
  have hr : Room 3 (A.deeper (envOfC "_law_scenario" (defScope N__law_scenario.st) s.heap.objs.size f cdv)) := hr
  exact (vss_cons (vs_set (i := 4) (by decide) (ve_lst va_nil) sc.nd rfl (by first | exact Or.inl rfl | exact Or.inr rfl))
      (vss_cons (vs_set (i := 5) (by decide) (ve_fzM (ve_tup (va_cons vc_int (va_cons vc_int va_nil)))) sc.nd rfl (by first | exact Or.inl rfl | exact Or.inr rfl))
      (vss_cons (vs_for (passes_of rfl) rfl (vi_range1 rfl nb.range_ (va_cons (vc_call D__law_draw (hr.mono (by decide)) (takes_of rfl rfl rfl rfl) g__law_draw (by rfl) (vr_plc (vp_var (pv 0)) (vr_cons (ve_fzM (ve_op op_addR vop_add (ve_rd (pv 3)) vc_int)) vr_nil))) va_nil)) (vg_name (i := 6) (by decide) sc.nd rfl (by first | exact Or.inl rfl | exact Or.inr rfl)) (vss_cons (vs_set (i := 7) (by decide) (vc_call D__law_turns (hr.mono (by decide)) (takes_of rfl rfl rfl rfl) g__law_turns (by rfl) (vr_cons (ve_rd (pv 5)) (vr_cons (ve_rd (pv 2)) vr_nil))) sc.nd rfl (by first | exact Or.inl rfl | exact Or.inr rfl))
      (vss_cons (vs_if (vt_eq hr (vc_call D__law_draw (hr.mono (by decide)) (takes_of rfl rfl rfl rfl) g__law_draw (by rfl) (vr_plc (vp_var (pv 0)) (vr_cons vc_int vr_nil))) vc_int) (vss_one (vs_setLc (i := 7) (by decide) (own := [("_law_turn", 8)]) (SA := [8]) (g := tgN 8) rfl sc.nd rfl rfl (sw_true rfl rfl rfl (by decide +kernel)) (blkOk_by (own := [("_law_turn", 8)]) (N := N) (sc := defScope st) (by decide +kernel)) (vi_seq (ve_fz (pv 7))) (fun _ _ _ _ _ => pg_name (i := 8) sc.nd rfl (Or.inl rfl)) (tk_name (by decide)) (by decide) (fun _ _ _ _ _ => pts_one' (vt_cmp op_lt vop_b0 (ve_ix ix_lt vop_ix (ve_rd (pv 8)) vc_int) vc_int)) (fun _ _ _ _ _ => (ve_rd (pv 8))))) vss_nil)
      (vss_cons (vs_set (i := 8) (by decide) (ve_ix ix_lt vop_ix (ve_fz (pv 7)) (ve_op op_mod vop_i (vc_Ty call_int1 vcl_int rfl nb.int_ Boot.«int» (va_cons (vc_call D__law_draw (hr.mono (by decide)) (takes_of rfl rfl rfl rfl) g__law_draw (by rfl) (vr_plc (vp_var (pv 0)) (vr_cons vc_int vr_nil))) va_nil)) (vc_lenP (vp_var (pv 7)) rfl nb.len_))) sc.nd rfl (by first | exact Or.inl rfl | exact Or.inr rfl))
      (vss_cons (vs_expr (ve_append (vp_var (pv 4)) (va_cons (ve_rd (pv 8)) va_nil) (by decide)))
      (vss_one (vs_set (i := 5) (by decide) (ve_fzM (ve_ix ix_lt vop_ix (vc_call D__law_behind (hr.mono (by decide)) (takes_of rfl rfl rfl rfl) g__law_behind (by rfl) (vr_cons (ve_rd (pv 1)) (vr_cons (ve_rd (pv 8)) vr_nil))) vc_int)) sc.nd rfl (by first | exact Or.inl rfl | exact Or.inr rfl))))))))
      (vss_one (vs_ret (ve_mv (pv 4)))))))
/-! ### _law_is_scenario -/
namespace N__law_is_scenario
abbrev st : Stmt := (top 71)
abbrev N : List Str := ["_law_setup_here", "_law_scenario_here", "_law_troubles_here", "_law_situation_here", "_law_turn"]
theorem sc : FnScope N ["_law_setup_here", "_law_scenario_here", "_law_troubles_here"] (defScope st) := ⟨rfl, rfl, rfl, by decide +kernel, rfl, by decide +kernel, by decide +kernel⟩
def m : SM := (seqM (setM 3 (fzM (clM tupD (consM (intM 0) (consM (intM 0) nilM)))))
  (seqM (forS (itM (rd 1)) (tgN 4) (seqM (iteM (testM (opM (inP true) (rd 4) (callM 2 [.tmp, .tmp] f__law_turns (consM (rd 3) (consM (rd 2) nilM))))) (retM (blM false)) skipM)
  (setM 3 (fzM (opM ixD (callM 2 [.tmp, .tmp] f__law_behind (consM (rd 0) (consM (rd 4) nilM))) (intM 0))))))
  (retM (blM true))))
end N__law_is_scenario
def f__law_is_scenario : FM := fnM 3 5 [3, 4] N__law_is_scenario.m
open N__law_is_scenario in
theorem d__law_is_scenario {f : Addr} {fd : FuncData} (F : Fun K "_law_is_scenario" "_law_is_scenario" N__law_is_scenario.st f fd) (hb : Binds K fd ["_law_setup_here", "_law_scenario_here", "_law_troubles_here"] []) {a__law_turns : Addr} {fd__law_turns : FuncData} (g__law_turns : mg "_law_turns" = some (.ref a__law_turns)) (D__law_turns : Df P w K mg base eC 3 a__law_turns fd__law_turns ["_law_situation_here", "_law_troubles_here"] f__law_turns)
    {a__law_behind : Addr} {fd__law_behind : FuncData} (g__law_behind : mg "_law_behind" = some (.ref a__law_behind)) (D__law_behind : Df P w K mg base eC 2 a__law_behind fd__law_behind ["_law_setup_here", "_law_turn"] f__law_behind) :
    Df P w K mg base eC 4 f fd ["_law_setup_here", "_law_scenario_here", "_law_troubles_here"] f__law_is_scenario := df_of F sc hb fun cdv A outer s H E hr => by
  have hr : Room 3 (A.deeper (envOfC "_law_is_scenario" (defScope N__law_is_scenario.st) s.heap.objs.size f cdv)) := hr
  exact (vss_cons (vs_set (i := 3) (by decide) (ve_fzM (ve_tup (va_cons vc_int (va_cons vc_int va_nil)))) sc.nd rfl (by first | exact Or.inl rfl | exact Or.inr rfl))
      (vss_cons (vs_for (passes_of rfl) rfl (vi_seq (ve_rd (pv 1))) (vg_name (i := 4) (by decide) sc.nd rfl (by first | exact Or.inl rfl | exact Or.inr rfl)) (vss_cons (vs_if (vt_notin hr (ve_rd (pv 4)) (vc_call D__law_turns (hr.mono (by decide)) (takes_of rfl rfl rfl rfl) g__law_turns (by rfl) (vr_cons (ve_rd (pv 3)) (vr_cons (ve_rd (pv 2)) vr_nil)))) (vss_one (vs_ret vc_bl)) vss_nil)
      (vss_one (vs_set (i := 3) (by decide) (ve_fzM (ve_ix ix_lt vop_ix (vc_call D__law_behind (hr.mono (by decide)) (takes_of rfl rfl rfl rfl) g__law_behind (by rfl) (vr_cons (ve_rd (pv 0)) (vr_cons (ve_rd (pv 4)) vr_nil))) vc_int)) sc.nd rfl (by first | exact Or.inl rfl | exact Or.inr rfl)))))
      (vss_one (vs_ret vc_bl))))
/-! ### _law_all -/
namespace N__law_all
abbrev st : Stmt := (top 74)
abbrev N : List Str := []
theorem sc : FnScope N [] (defScope st) := ⟨rfl, rfl, rfl, by decide +kernel, rfl, by decide +kernel, by decide +kernel⟩
def m : SM := (retM (clM lstD (consM (strM "removals") (consM (strM "moves") (consM (strM "slips") (consM (strM "stops") (consM (strM "silent") (consM (strM "outs") nilM))))))))
end N__law_all
def f__law_all : FM := fnM 0 0 [] N__law_all.m
open N__law_all in
theorem d__law_all {f : Addr} {fd : FuncData} (F : Fun K "_law_all" "_law_all" N__law_all.st f fd) (hb : Binds K fd [] [])  :
    Df P w K mg base eC 1 f fd [] f__law_all := df_of F sc hb fun cdv A outer s H E hr => by
  have hr : Room 0 (A.deeper (envOfC "_law_all" (defScope N__law_all.st) s.heap.objs.size f cdv)) := hr
  exact (vss_one (vs_ret (ve_lst (va_cons vc_str (va_cons vc_str (va_cons vc_str (va_cons vc_str (va_cons vc_str (va_cons vc_str va_nil)))))))))
/-! ### _law_spoiled -/
namespace N__law_spoiled
abbrev st : Stmt := (top 75)
abbrev N : List Str := ["_law_box", "_law_scenario_here", "_law_out", "_law_at", "_law_turn", "_law_part"]
theorem sc : FnScope N ["_law_box", "_law_scenario_here"] (defScope st) := ⟨rfl, rfl, rfl, by decide +kernel, rfl, by decide +kernel, by decide +kernel⟩
def m : SM := (seqM (setM 2 (clM (one toLstD) (consM (rd 1) nilM)))
  (seqM (iteM (testM (opM (eqP false) (lenP 2 []) (intM 0))) (retM (mv 2)) skipM)
  (seqM (setM 3 (fzM (callM 2 [.plc 0 [], .tmp] f__law_draw (plcM 0 [] (consM (lenP 2 []) nilM)))))
  (seqM (setM 4 (clM (one toLstD) (consM (ixPM 2 [] (rd 3)) nilM)))
  (seqM (setM 5 (fzM (callM 2 [.plc 0 [], .tmp] f__law_draw (plcM 0 [] (consM (intM 5) nilM)))))
  (seqM (ixSt 4 [] (fzM (opM ixD (clM lstD (consM (callM 2 [.plc 0 [], .tmp] f__law_draw (plcM 0 [] (consM (intM 4) nilM))) (consM (callM 2 [.plc 0 [], .tmp] f__law_draw (plcM 0 [] (consM (intM 5) nilM))) (consM (callM 2 [.plc 0 [], .tmp] f__law_draw (plcM 0 [] (consM (intM 7) nilM))) (consM (callM 2 [.plc 0 [], .tmp] f__law_draw (plcM 0 [] (consM (intM 5) nilM))) (consM (callM 2 [.plc 0 [], .tmp] f__law_draw (plcM 0 [] (consM (intM 8) nilM))) nilM)))))) (rd 5))) (rd 5))
  (seqM (ixSt 2 [] (fzM (pkM pkT 4 [])) (rd 3))
  (retM (mv 2)))))))))
end N__law_spoiled
def f__law_spoiled : FM := fnM 2 6 [2, 3, 4, 5] N__law_spoiled.m
open N__law_spoiled in
theorem d__law_spoiled {f : Addr} {fd : FuncData} (F : Fun K "_law_spoiled" "_law_spoiled" N__law_spoiled.st f fd) (hb : Binds K fd ["_law_box", "_law_scenario_here"] []) (nb : NoB mg)
    {a__law_draw : Addr} {fd__law_draw : FuncData} (g__law_draw : mg "_law_draw" = some (.ref a__law_draw)) (D__law_draw : Df P w K mg base eC 1 a__law_draw fd__law_draw ["_law_box", "_law_many"] f__law_draw) :
    Df P w K mg base eC 2 f fd ["_law_box", "_law_scenario_here"] f__law_spoiled := df_of F sc hb fun cdv A outer s H E hr => by
  have hr : Room 1 (A.deeper (envOfC "_law_spoiled" (defScope N__law_spoiled.st) s.heap.objs.size f cdv)) := hr
  exact (vss_cons (vs_set (i := 2) (by decide) (vc_Ty call_list_of vcl_list rfl nb.list_ Boot.«list» (va_cons (ve_rd (pv 1)) va_nil)) sc.nd rfl (by first | exact Or.inl rfl | exact Or.inr rfl))
      (vss_cons (vs_if (vt_eq hr (vc_lenP (vp_var (pv 2)) rfl nb.len_) vc_int) (vss_one (vs_ret (ve_mv (pv 2)))) vss_nil)
      (vss_cons (vs_set (i := 3) (by decide) (ve_fzM (vc_call D__law_draw (hr.mono (by decide)) (takes_of rfl rfl rfl rfl) g__law_draw (by rfl) (vr_plc (vp_var (pv 0)) (vr_cons (vc_lenP (vp_var (pv 2)) rfl nb.len_) vr_nil)))) sc.nd rfl (by first | exact Or.inl rfl | exact Or.inr rfl))
      (vss_cons (vs_set (i := 4) (by decide) (vc_Ty call_list_of vcl_list rfl nb.list_ Boot.«list» (va_cons (ve_ixP (vp_var (pv 2)) (ve_rd (pv 3))) va_nil)) sc.nd rfl (by first | exact Or.inl rfl | exact Or.inr rfl))
      (vss_cons (vs_set (i := 5) (by decide) (ve_fzM (vc_call D__law_draw (hr.mono (by decide)) (takes_of rfl rfl rfl rfl) g__law_draw (by rfl) (vr_plc (vp_var (pv 0)) (vr_cons vc_int vr_nil)))) sc.nd rfl (by first | exact Or.inl rfl | exact Or.inr rfl))
      (vss_cons (vs_ix (vp_var (pv 4)) (ve_fzM (ve_ix ix_lt vop_ix (ve_lst (va_cons (vc_call D__law_draw (hr.mono (by decide)) (takes_of rfl rfl rfl rfl) g__law_draw (by rfl) (vr_plc (vp_var (pv 0)) (vr_cons vc_int vr_nil))) (va_cons (vc_call D__law_draw (hr.mono (by decide)) (takes_of rfl rfl rfl rfl) g__law_draw (by rfl) (vr_plc (vp_var (pv 0)) (vr_cons vc_int vr_nil))) (va_cons (vc_call D__law_draw (hr.mono (by decide)) (takes_of rfl rfl rfl rfl) g__law_draw (by rfl) (vr_plc (vp_var (pv 0)) (vr_cons vc_int vr_nil))) (va_cons (vc_call D__law_draw (hr.mono (by decide)) (takes_of rfl rfl rfl rfl) g__law_draw (by rfl) (vr_plc (vp_var (pv 0)) (vr_cons vc_int vr_nil))) (va_cons (vc_call D__law_draw (hr.mono (by decide)) (takes_of rfl rfl rfl rfl) g__law_draw (by rfl) (vr_plc (vp_var (pv 0)) (vr_cons vc_int vr_nil))) va_nil)))))) (ve_rd (pv 5)))) (ve_rd (pv 5)) (by decide))
      (vss_cons (vs_ix (vp_var (pv 2)) (ve_fzM (vc_pkTy call_tuple_of vpk_tuple (vp_var (pv 4)) rfl nb.tuple_ Boot.«tuple»)) (ve_rd (pv 3)) (by decide))
      (vss_one (vs_ret (ve_mv (pv 2)))))))))))
/-! ### law -/
namespace N_law
abbrev st : Stmt := (top 76)
abbrev N : List Str := ["_law_script", "_law_box", "_law_turn", "_law_setup_here", "_law_troubles_here", "_law_over", "_law_situation_here", "_law_ways_here", "_law_every", "_law_again", "_law_scenario_here", "_law_other", "_law_answer", "_law_one", "_law_told"]
theorem sc : FnScope N ["_law_script"] (defScope st) := ⟨rfl, rfl, rfl, by decide +kernel, rfl, by decide +kernel, by decide +kernel⟩
def m : SM := (seqM (setM 1 (clM lstD (consM (fzM (callM 3 [.tmp, .tmp, .tmp] f__law_row (consM (rd 0) (consM (intM 0) (consM (intM 50) nilM))))) (consM (intM 0) nilM))))
  (seqM (forS (rngM rng1 (consM (intM 3) nilM)) (tgN 2) (seqM (setM 3 (fzM (callM 1 [.plc 1 []] f__law_setup (plcM 1 [] nilM))))
  (seqM (setM 4 (fzM (callM 1 [.plc 1 []] f__law_troubles (plcM 1 [] nilM))))
  (seqM (setM 5 (fzM (callM 2 [.plc 1 [], .tmp] f__law_draw (plcM 1 [] (consM (intM 4) nilM)))))
  (seqM (setM 6 (fzM (clM tupD (consM (rd 5) (consM (opM ixD (clM lstD (consM (intM 0) (consM (intM 1) (consM (intM 2) (consM (intM 3) (consM (intM 4) nilM)))))) (callM 2 [.plc 1 [], .tmp] f__law_draw (plcM 1 [] (consM (fzM (opM addD (intM 4) (clM (one intD) (consM (opM gtD (rd 5) (intM 0)) nilM)))) nilM)))) nilM)))))
  (seqM (iteM (testM (opM (eqP false) (rd 6) (clM tupD (consM (intM 3) (consM (intM 3) nilM))))) (setM 6 (fzM (clM tupD (consM (intM 3) (consM (intM 4) nilM))))) skipM)
  (seqM (setM 7 (fzM (callM 2 [.tmp, .tmp] f__law_turns (consM (rd 6) (consM (rd 4) nilM)))))
  (seqM (iteM (testM (opM (eqP true) (callM 2 [.tmp, .tmp] f_turns (consM (rd 6) (consM (fzM (clM (one toLstD) (consM (rd 4) nilM))) nilM))) (rd 7))) (retM (blM false)) skipM)
  (seqM (setM 8 (fzM (callM 2 [.tmp, .tmp] f__law_turns (consM (rd 6) (consM (fzM (callM 0 [] f__law_all nilM)) nilM)))))
  (seqM (forS (rngM rng1 (consM (intM 8) nilM)) (tgN 9) (seqM (setM 13 (opM ixD (rd 8) (opM modD (clM (one intD) (consM (opM addD (opM mulD (callM 2 [.plc 1 [], .tmp] f__law_draw (plcM 1 [] (consM (intM 840) nilM))) (intM 3)) (callM 2 [.plc 1 [], .tmp] f__law_draw (plcM 1 [] (consM (intM 3) nilM)))) nilM)) (clM (one lenD) (consM (rd 8) nilM)))))
  (seqM (setM 14 (fzM (callM 2 [.tmp, .tmp] f__law_behind (consM (rd 3) (consM (rd 13) nilM)))))
  (iteM (testM (opM (eqP true) (callM 3 [.tmp, .tmp, .tmp] f_behind (consM (fzM (callM 1 [.tmp] f__law_made (consM (rd 3) nilM))) (consM (rd 6) (consM (rd 13) nilM)))) (clM tupD (consM (opM ixD (rd 14) (intM 0)) (consM (clM (one toTupD) (consM (opM ixD (rd 14) (intM 1)) nilM)) nilM))))) (retM (blM false)) skipM))))
  (seqM (setM 10 (fzM (callM 4 [.plc 1 [], .tmp, .tmp, .tmp] f__law_scenario (plcM 1 [] (consM (rd 3) (consM (rd 4) (consM (intM 6) nilM)))))))
  (seqM (iteM (testM (opM (isBD true) (callM 3 [.tmp, .tmp, .tmp] f_is_scenario (consM (fzM (callM 1 [.tmp] f__law_made (consM (rd 3) nilM))) (consM (fzM (clM (one toLstD) (consM (rd 10) nilM))) (consM (fzM (clM (one toLstD) (consM (rd 4) nilM))) nilM)))) (blM true))) (retM (blM false)) skipM)
  (seqM (setM 11 (fzM (callM 2 [.plc 1 [], .tmp] f__law_spoiled (plcM 1 [] (consM (rd 10) nilM)))))
  (seqM (setM 12 (fzM (callM 3 [.tmp, .tmp, .tmp] f_is_scenario (consM (fzM (callM 1 [.tmp] f__law_made (consM (rd 3) nilM))) (consM (fzM (clM (one toLstD) (consM (rd 11) nilM))) (consM (fzM (clM (one toLstD) (consM (rd 4) nilM))) nilM))))))
  (iteM (orM (notM (testM (unM (isiD ["bool"]) (rd 12)))) (testM (opM (eqP true) (rd 12) (callM 3 [.tmp, .tmp, .tmp] f__law_is_scenario (consM (rd 3) (consM (rd 11) (consM (rd 4) nilM))))))) (retM (blM false)) skipM)))))))))))))))
  (retM (blM true))))
end N_law
def f_law : FM := fnM 1 15 [1, 2, 3, 4, 5, 6, 7, 8, 9, 10, 11, 12, 13, 14] N_law.m
open N_law in
theorem d_law {f : Addr} {fd : FuncData} (F : Fun K "law" "law" N_law.st f fd) (hb : Binds K fd ["_law_script"] []) (nb : NoB mg)
    {a__law_row : Addr} {fd__law_row : FuncData} (g__law_row : mg "_law_row" = some (.ref a__law_row)) (D__law_row : Df P w K mg base eC 2 a__law_row fd__law_row ["_law_script", "_law_first", "_law_last"] f__law_row)
    {a__law_setup : Addr} {fd__law_setup : FuncData} (g__law_setup : mg "_law_setup" = some (.ref a__law_setup)) (D__law_setup : Df P w K mg base eC 3 a__law_setup fd__law_setup ["_law_box"] f__law_setup)
    {a__law_troubles : Addr} {fd__law_troubles : FuncData} (g__law_troubles : mg "_law_troubles" = some (.ref a__law_troubles)) (D__law_troubles : Df P w K mg base eC 2 a__law_troubles fd__law_troubles ["_law_box"] f__law_troubles)
    {a__law_draw : Addr} {fd__law_draw : FuncData} (g__law_draw : mg "_law_draw" = some (.ref a__law_draw)) (D__law_draw : Df P w K mg base eC 1 a__law_draw fd__law_draw ["_law_box", "_law_many"] f__law_draw)
    {a__law_turns : Addr} {fd__law_turns : FuncData} (g__law_turns : mg "_law_turns" = some (.ref a__law_turns)) (D__law_turns : Df P w K mg base eC 3 a__law_turns fd__law_turns ["_law_situation_here", "_law_troubles_here"] f__law_turns)
    {a_turns : Addr} {fd_turns : FuncData} (g_turns : mg "turns" = some (.ref a_turns)) (D_turns : Df P w K mg base eC 3 a_turns fd_turns ["situation", "troubles"] f_turns)
    {a__law_all : Addr} {fd__law_all : FuncData} (g__law_all : mg "_law_all" = some (.ref a__law_all)) (D__law_all : Df P w K mg base eC 1 a__law_all fd__law_all [] f__law_all)
    {a__law_behind : Addr} {fd__law_behind : FuncData} (g__law_behind : mg "_law_behind" = some (.ref a__law_behind)) (D__law_behind : Df P w K mg base eC 2 a__law_behind fd__law_behind ["_law_setup_here", "_law_turn"] f__law_behind)
    {a_behind : Addr} {fd_behind : FuncData} (g_behind : mg "behind" = some (.ref a_behind)) (D_behind : Df P w K mg base eC 8 a_behind fd_behind ["setup", "situation", "turn"] f_behind)
    {a__law_made : Addr} {fd__law_made : FuncData} (g__law_made : mg "_law_made" = some (.ref a__law_made)) (D__law_made : Df P w K mg base eC 5 a__law_made fd__law_made ["_law_told"] f__law_made)
    {a__law_scenario : Addr} {fd__law_scenario : FuncData} (g__law_scenario : mg "_law_scenario" = some (.ref a__law_scenario)) (D__law_scenario : Df P w K mg base eC 4 a__law_scenario fd__law_scenario ["_law_box", "_law_setup_here", "_law_troubles_here", "_law_most"] f__law_scenario)
    {a_is_scenario : Addr} {fd_is_scenario : FuncData} (g_is_scenario : mg "is_scenario" = some (.ref a_is_scenario)) (D_is_scenario : Df P w K mg base eC 8 a_is_scenario fd_is_scenario ["setup", "scenario", "troubles"] f_is_scenario)
    {a__law_spoiled : Addr} {fd__law_spoiled : FuncData} (g__law_spoiled : mg "_law_spoiled" = some (.ref a__law_spoiled)) (D__law_spoiled : Df P w K mg base eC 2 a__law_spoiled fd__law_spoiled ["_law_box", "_law_scenario_here"] f__law_spoiled)
    {a__law_is_scenario : Addr} {fd__law_is_scenario : FuncData} (g__law_is_scenario : mg "_law_is_scenario" = some (.ref a__law_is_scenario)) (D__law_is_scenario : Df P w K mg base eC 4 a__law_is_scenario fd__law_is_scenario ["_law_setup_here", "_law_scenario_here", "_law_troubles_here"] f__law_is_scenario) :
    Df P w K mg base eC 9 f fd ["_law_script"] f_law := df_of F sc hb fun cdv A outer s H E hr => by
  have hr : Room 8 (A.deeper (envOfC "law" (defScope N_law.st) s.heap.objs.size f cdv)) := hr
  exact (vss_cons (vs_set (i := 1) (by decide) (ve_lst (va_cons (ve_fzM (vc_call D__law_row (hr.mono (by decide)) (takes_of rfl rfl rfl rfl) g__law_row (by rfl) (vr_cons (ve_rd (pv 0)) (vr_cons vc_int (vr_cons vc_int vr_nil))))) (va_cons vc_int va_nil))) sc.nd rfl (by first | exact Or.inl rfl | exact Or.inr rfl))
      (vss_cons (vs_for (passes_of rfl) rfl (vi_range1 rfl nb.range_ (va_cons vc_int va_nil)) (vg_name (i := 2) (by decide) sc.nd rfl (by first | exact Or.inl rfl | exact Or.inr rfl)) (vss_cons (vs_set (i := 3) (by decide) (ve_fzM (vc_call D__law_setup (hr.mono (by decide)) (takes_of rfl rfl rfl rfl) g__law_setup (by rfl) (vr_plc (vp_var (pv 1)) vr_nil))) sc.nd rfl (by first | exact Or.inl rfl | exact Or.inr rfl))
      (vss_cons (vs_set (i := 4) (by decide) (ve_fzM (vc_call D__law_troubles (hr.mono (by decide)) (takes_of rfl rfl rfl rfl) g__law_troubles (by rfl) (vr_plc (vp_var (pv 1)) vr_nil))) sc.nd rfl (by first | exact Or.inl rfl | exact Or.inr rfl))
      (vss_cons (vs_set (i := 5) (by decide) (ve_fzM (vc_call D__law_draw (hr.mono (by decide)) (takes_of rfl rfl rfl rfl) g__law_draw (by rfl) (vr_plc (vp_var (pv 1)) (vr_cons vc_int vr_nil)))) sc.nd rfl (by first | exact Or.inl rfl | exact Or.inr rfl))
      (vss_cons (vs_set (i := 6) (by decide) (ve_fzM (ve_tup (va_cons (ve_rd (pv 5)) (va_cons (ve_ix ix_lt vop_ix (ve_lst (va_cons vc_int (va_cons vc_int (va_cons vc_int (va_cons vc_int (va_cons vc_int va_nil)))))) (vc_call D__law_draw (hr.mono (by decide)) (takes_of rfl rfl rfl rfl) g__law_draw (by rfl) (vr_plc (vp_var (pv 1)) (vr_cons (ve_fzM (ve_op op_addR vop_add vc_int (vc_Ty call_int1 vcl_int rfl nb.int_ Boot.«int» (va_cons (ve_cmp op_gt vop_b0 (ve_rd (pv 5)) vc_int) va_nil)))) vr_nil)))) va_nil)))) sc.nd rfl (by first | exact Or.inl rfl | exact Or.inr rfl))
      (vss_cons (vs_if (vt_eq hr (ve_rd (pv 6)) (ve_tup (va_cons vc_int (va_cons vc_int va_nil)))) (vss_one (vs_set (i := 6) (by decide) (ve_fzM (ve_tup (va_cons vc_int (va_cons vc_int va_nil)))) sc.nd rfl (by first | exact Or.inl rfl | exact Or.inr rfl))) vss_nil)
      (vss_cons (vs_set (i := 7) (by decide) (ve_fzM (vc_call D__law_turns (hr.mono (by decide)) (takes_of rfl rfl rfl rfl) g__law_turns (by rfl) (vr_cons (ve_rd (pv 6)) (vr_cons (ve_rd (pv 4)) vr_nil)))) sc.nd rfl (by first | exact Or.inl rfl | exact Or.inr rfl))
      (vss_cons (vs_if (vt_ne hr (vc_call D_turns (hr.mono (by decide)) (takes_of rfl rfl rfl rfl) g_turns (by rfl) (vr_cons (ve_rd (pv 6)) (vr_cons (ve_fzM (vc_Ty call_list_of vcl_list rfl nb.list_ Boot.«list» (va_cons (ve_rd (pv 4)) va_nil))) vr_nil))) (ve_rd (pv 7))) (vss_one (vs_ret vc_bl)) vss_nil)
      (vss_cons (vs_set (i := 8) (by decide) (ve_fzM (vc_call D__law_turns (hr.mono (by decide)) (takes_of rfl rfl rfl rfl) g__law_turns (by rfl) (vr_cons (ve_rd (pv 6)) (vr_cons (ve_fzM (vc_call0 D__law_all (hr.mono (by decide)) (takes_of rfl rfl rfl rfl) g__law_all (by rfl))) vr_nil)))) sc.nd rfl (by first | exact Or.inl rfl | exact Or.inr rfl))
      (vss_cons (vs_for (passes_of rfl) rfl (vi_range1 rfl nb.range_ (va_cons vc_int va_nil)) (vg_name (i := 9) (by decide) sc.nd rfl (by first | exact Or.inl rfl | exact Or.inr rfl)) (vss_cons (vs_set (i := 13) (by decide) (ve_ix ix_lt vop_ix (ve_rd (pv 8)) (ve_op op_mod vop_i (vc_Ty call_int1 vcl_int rfl nb.int_ Boot.«int» (va_cons (ve_op op_addR vop_add (ve_op op_mul vop_i (vc_call D__law_draw (hr.mono (by decide)) (takes_of rfl rfl rfl rfl) g__law_draw (by rfl) (vr_plc (vp_var (pv 1)) (vr_cons vc_int vr_nil))) vc_int) (vc_call D__law_draw (hr.mono (by decide)) (takes_of rfl rfl rfl rfl) g__law_draw (by rfl) (vr_plc (vp_var (pv 1)) (vr_cons vc_int vr_nil)))) va_nil)) (vc_B call_len vcl_len rfl nb.len_ Boot.«len» (va_cons (ve_rd (pv 8)) va_nil)))) sc.nd rfl (by first | exact Or.inl rfl | exact Or.inr rfl))
      (vss_cons (vs_set (i := 14) (by decide) (ve_fzM (vc_call D__law_behind (hr.mono (by decide)) (takes_of rfl rfl rfl rfl) g__law_behind (by rfl) (vr_cons (ve_rd (pv 3)) (vr_cons (ve_rd (pv 13)) vr_nil)))) sc.nd rfl (by first | exact Or.inl rfl | exact Or.inr rfl))
      (vss_one (vs_if (vt_ne hr (vc_call D_behind (hr.mono (by decide)) (takes_of rfl rfl rfl rfl) g_behind (by rfl) (vr_cons (ve_fzM (vc_call D__law_made (hr.mono (by decide)) (takes_of rfl rfl rfl rfl) g__law_made (by rfl) (vr_cons (ve_rd (pv 3)) vr_nil))) (vr_cons (ve_rd (pv 6)) (vr_cons (ve_rd (pv 13)) vr_nil)))) (ve_tup (va_cons (ve_ix ix_lt vop_ix (ve_rd (pv 14)) vc_int) (va_cons (vc_Ty call_tuple_of vcl_tuple rfl nb.tuple_ Boot.«tuple» (va_cons (ve_ix ix_lt vop_ix (ve_rd (pv 14)) vc_int) va_nil)) va_nil)))) (vss_one (vs_ret vc_bl)) vss_nil)))))
      (vss_cons (vs_set (i := 10) (by decide) (ve_fzM (vc_call D__law_scenario (hr.mono (by decide)) (takes_of rfl rfl rfl rfl) g__law_scenario (by rfl) (vr_plc (vp_var (pv 1)) (vr_cons (ve_rd (pv 3)) (vr_cons (ve_rd (pv 4)) (vr_cons vc_int vr_nil)))))) sc.nd rfl (by first | exact Or.inl rfl | exact Or.inr rfl))
      (vss_cons (vs_if (vt_cmp op_notBl vop_notB (vc_call D_is_scenario (hr.mono (by decide)) (takes_of rfl rfl rfl rfl) g_is_scenario (by rfl) (vr_cons (ve_fzM (vc_call D__law_made (hr.mono (by decide)) (takes_of rfl rfl rfl rfl) g__law_made (by rfl) (vr_cons (ve_rd (pv 3)) vr_nil))) (vr_cons (ve_fzM (vc_Ty call_list_of vcl_list rfl nb.list_ Boot.«list» (va_cons (ve_rd (pv 10)) va_nil))) (vr_cons (ve_fzM (vc_Ty call_list_of vcl_list rfl nb.list_ Boot.«list» (va_cons (ve_rd (pv 4)) va_nil))) vr_nil)))) vc_bl) (vss_one (vs_ret vc_bl)) vss_nil)
      (vss_cons (vs_set (i := 11) (by decide) (ve_fzM (vc_call D__law_spoiled (hr.mono (by decide)) (takes_of rfl rfl rfl rfl) g__law_spoiled (by rfl) (vr_plc (vp_var (pv 1)) (vr_cons (ve_rd (pv 10)) vr_nil)))) sc.nd rfl (by first | exact Or.inl rfl | exact Or.inr rfl))
      (vss_cons (vs_set (i := 12) (by decide) (ve_fzM (vc_call D_is_scenario (hr.mono (by decide)) (takes_of rfl rfl rfl rfl) g_is_scenario (by rfl) (vr_cons (ve_fzM (vc_call D__law_made (hr.mono (by decide)) (takes_of rfl rfl rfl rfl) g__law_made (by rfl) (vr_cons (ve_rd (pv 3)) vr_nil))) (vr_cons (ve_fzM (vc_Ty call_list_of vcl_list rfl nb.list_ Boot.«list» (va_cons (ve_rd (pv 11)) va_nil))) (vr_cons (ve_fzM (vc_Ty call_list_of vcl_list rfl nb.list_ Boot.«list» (va_cons (ve_rd (pv 4)) va_nil))) vr_nil))))) sc.nd rfl (by first | exact Or.inl rfl | exact Or.inr rfl))
      (vss_one (vs_if (vt_w (vw_or (vt_not (vt_val (vc_isi (Ts := "bool") (by decide) nb.bool_ rfl Boot.«bool» rfl nb.isinstance_ (ve_rd (pv 12))))) (vw_or1 (vt_ne hr (ve_rd (pv 12)) (vc_call D__law_is_scenario (hr.mono (by decide)) (takes_of rfl rfl rfl rfl) g__law_is_scenario (by rfl) (vr_cons (ve_rd (pv 3)) (vr_cons (ve_rd (pv 11)) (vr_cons (ve_rd (pv 4)) vr_nil)))))))) (vss_one (vs_ret vc_bl)) vss_nil))))))))))))))))
      (vss_one (vs_ret vc_bl))))
end
end G
end VS
set_option Elab.async false
set_option linter.all false
set_option maxRecDepth 100000
set_option maxHeartbeats 4000000
/-! PL0: how a mirror is reckoned by simp, from the left, slot by slot; the rest of the work stands as a named function. -/
namespace VS
open PySem PySem.Spec PyProof.Rows L2
/-! texts -/
theorem toNat_inj {a b : Char} (h : a.toNat = b.toNat) : a = b := Char.ext (UInt32.toNat_inj.mp h)
theorem map_toNat_inj : ∀ {xs ys : List Char}, xs.map Char.toNat = ys.map Char.toNat → xs = ys
  | [], [], _ => rfl
  | [], _ :: _, h => by simp at h
  | _ :: _, [], h => by simp at h
  | x :: xs, y :: ys, h => by
    simp at h
    rw [toNat_inj h.1, map_toNat_inj h.2]
@[simp] theorem ofString_inj {a b : String} : (Str.ofString a = Str.ofString b) ↔ a = b := by
  constructor
  · intro h
    rw [Str.ofString_eq_toList, Str.ofString_eq_toList] at h
    simp at h
    exact String.ext (map_toNat_inj h)
  · rintro rfl; rfl
@[simp] theorem ofString_beq {a b : String} : (Str.ofString a == Str.ofString b) = (a == b) := by
  by_cases h : a = b
  · simp [h]
  · rw [beq_eq_false_iff_ne.mpr h, beq_eq_false_iff_ne]
    simpa using h
@[simp] theorem strOk_of {a : String} : PyData.strOk (Str.ofString a) = true := by
  rw [Str.ofString_eq_toList]
  simp [PyData.strOk]
  intro c _
  have h := c.valid
  have e : c.toNat = c.val.toNat := rfl
  simp only [UInt32.isValidChar, Nat.isValidChar] at h
  omega
@[simp] theorem length_of {a : String} : (Str.ofString a).length = a.toList.length := by
  rw [Str.ofString_eq_toList]
  simp [Str.length]
@[simp] theorem idx_n {a : Str} : ([] : List Str).idxOf? a = none := by simp
@[simp] theorem idx_c {x a : Str} {xs : List Str} : (x :: xs).idxOf? a = if x = a then some 0 else (xs.idxOf? a).map (· + 1) := by
  rw [List.idxOf?_cons]
  by_cases h : x = a <;> simp [h]
/-! data -/
section
variable {b m : Bool} {i j : Int} {x y : Str} {ds es ks : List D} {d : D} {c : Str} {ns : List Str}
@[simp] theorem has_non : has? .non = true := by simp [has?]
@[simp] theorem has_bl : has? (.bl b) = true := by simp [has?]
@[simp] theorem has_int : has? (.int i) = true := by simp [has?]
@[simp] theorem has_str : has? (.str x) = true := by simp [has?]
@[simp] theorem has_tup : has? (.tup ds) = true := by simp [has?]
@[simp] theorem has_rol : has? (.rol ds) = true := by simp [has?]
@[simp] theorem has_lst : has? (.lst m ds) = true := by simp [has?]
@[simp] theorem has_dic : has? (.dic m ks ds) = true := by simp [has?]
@[simp] theorem has_obj : has? (.obj m c ns ds) = true := by simp [has?]
@[simp] theorem pure_non : pure? .non = true := by simp [pure?]
@[simp] theorem pure_bl : pure? (.bl b) = true := by simp [pure?]
@[simp] theorem pure_int : pure? (.int i) = true := by simp [pure?]
@[simp] theorem pure_str : pure? (.str x) = true := by simp [pure?]
@[simp] theorem pure_tup : pure? (.tup ds) = pures? ds := by simp [pure?]
@[simp] theorem pure_rol : pure? (.rol ds) = true := by simp [pure?]
@[simp] theorem pure_lst : pure? (.lst m ds) = !m := by simp [pure?]
@[simp] theorem pure_dic : pure? (.dic m ks ds) = !m := by simp [pure?]
@[simp] theorem pure_obj : pure? (.obj m c ns ds) = !m := by simp [pure?]
@[simp] theorem pures_n : pures? [] = true := by simp [pures?]
@[simp] theorem pures_c : pures? (d :: ds) = (pure? d && pures? ds) := by simp [pures?]
@[simp] theorem fz_un : fz .un = .un := by simp [fz]
@[simp] theorem fz_non : fz .non = .non := by simp [fz]
@[simp] theorem fz_bl : fz (.bl b) = .bl b := by simp [fz]
@[simp] theorem fz_int : fz (.int i) = .int i := by simp [fz]
@[simp] theorem fz_str : fz (.str x) = .str x := by simp [fz]
@[simp] theorem fz_tup : fz (.tup ds) = .tup (fzs ds) := by simp [fz]
@[simp] theorem fz_rol : fz (.rol ds) = .rol ds := by simp [fz]
@[simp] theorem fz_lst : fz (.lst m ds) = .lst false (fzs ds) := by simp [fz]
@[simp] theorem fz_dic : fz (.dic m ks ds) = .dic false ks (fzs ds) := by simp [fz]
@[simp] theorem fz_obj : fz (.obj m c ns ds) = .obj false c ns (fzs ds) := by simp [fz]
@[simp] theorem fzs_n : fzs [] = [] := by simp [fzs]
@[simp] theorem fzs_c : fzs (d :: ds) = fz d :: fzs ds := by simp [fzs]
@[simp] theorem fzs_app : fzs (ds ++ es) = fzs ds ++ fzs es := by
  induction ds with
  | nil => simp
  | cons d ds ih => simp [ih]
@[simp] theorem fzs_rev : fzs ds.reverse = (fzs ds).reverse := by
  induction ds with
  | nil => simp
  | cons d ds ih => simp [ih]
theorem fzs_map {τ : Type} {f : τ → D} (h : ∀ t, fz (f t) = f t) (ts : List τ) : fzs (ts.map f) = ts.map f := by
  induction ts with
  | nil => simp
  | cons t ts ih => simp [ih, h]
@[simp] theorem fzs_ints (ns : List Int) : fzs (ns.map D.int) = ns.map D.int := fzs_map (fun _ => fz_int) ns
@[simp] theorem fzs_strs (ns : List Str) : fzs (ns.map D.str) = ns.map D.str := fzs_map (fun _ => fz_str) ns
@[simp] theorem fzs_rep {n : Nat} : fzs (List.replicate n d) = List.replicate n (fz d) := by
  induction n with
  | zero => simp
  | succ n ih => simp [List.replicate_succ, ih]
@[simp] theorem pures_rep {n : Nat} (h : pure? d = true) : pures? (List.replicate n d) = true := by
  induction n with
  | zero => simp
  | succ n ih => simp [List.replicate_succ, ih, h]
theorem pures_map {τ : Type} {f : τ → D} (h : ∀ t, pure? (f t) = true) (ts : List τ) : pures? (ts.map f) = true := by
  induction ts with
  | nil => simp
  | cons t ts ih => simp [ih, h]
@[simp] theorem pures_ints (ns : List Int) : pures? (ns.map D.int) = true := pures_map (fun _ => pure_int) ns
@[simp] theorem pures_strs (ns : List Str) : pures? (ns.map D.str) = true := pures_map (fun _ => pure_str) ns
@[simp] theorem getP_n : getP d [] = some d := (Eq.refl _).trans rfl
@[simp] theorem putP_n {z : D} : putP d [] z = z := (Eq.refl _).trans rfl
@[simp] theorem getP_ix {k : Nat} {ps : Path} (h : k < ds.length) : getP (.lst m ds) (.ix k :: ps) = (ds[k]?).bind (getP · ps) := by simp [getP, kidN, kids, h]
@[simp] theorem putP_ix {k : Nat} {ps : Path} {z : D} (h : k < ds.length) : putP (.lst true ds) (.ix k :: ps) z = .lst true (ds.set k (putP ds[k] ps z)) := by simp [putP, kidN, kids, h, setKid]
@[simp] theorem fldPut_n {f : Str} {v : D} : fldPut f v [] ds = ([f], [v]) := (Eq.refl _).trans rfl
@[simp] theorem fldPut_c {f g : Str} {v : D} : fldPut f v (g :: ns) (d :: ds) = if g = f then (g :: ns, v :: ds) else (g :: (fldPut f v ns ds).1, d :: (fldPut f v ns ds).2) := (Eq.refl _).trans rfl
@[simp] theorem getP_fld {f : Str} {k : Nat} {ps : Path} (h : ns.idxOf? f = some k) : getP (.obj m c ns ds) (.fld c f :: ps) = (ds[k]?).bind (getP · ps) := by simp [getP, kidN, kids, h]
@[simp] theorem lstD_e (h : ds.length ≤ 1000) : lstD ds = some (.lst true ds) := if_pos h
@[simp] theorem tupD_e (h : ds.length ≤ 1000) : tupD ds = some (.tup ds) := if_pos h
@[simp] theorem items_t : items (.tup ds) = some ds := (Eq.refl _).trans rfl
@[simp] theorem items_l : items (.lst m ds) = some ds := (Eq.refl _).trans rfl
@[simp] theorem items_r : items (.rol ds) = some ds := (Eq.refl _).trans rfl
@[simp] theorem isLst_l : isLst (.lst m ds) = some ds := (Eq.refl _).trans rfl
@[simp] theorem isLst_r : isLst (.rol ds) = some ds := (Eq.refl _).trans rfl
@[simp] theorem one_e {f : D → Option D} : one f [d] = f d := (Eq.refl _).trans rfl
@[simp] theorem lenD_t : lenD (.tup ds) = some (.int ds.length) := (Eq.refl _).trans rfl
@[simp] theorem lenD_l : lenD (.lst m ds) = some (.int ds.length) := (Eq.refl _).trans rfl
@[simp] theorem lenD_r : lenD (.rol ds) = some (.int ds.length) := (Eq.refl _).trans rfl
@[simp] theorem subD_e : subD (.int i) (.int j) = some (.int (i - j)) := (Eq.refl _).trans rfl
@[simp] theorem addD_e : addD (.int i) (.int j) = some (.int (i + j)) := (Eq.refl _).trans rfl
@[simp] theorem addD_s (h : x.length + y.length ≤ big) : addD (.str x) (.str y) = some (.str (x ++ y)) := by simp [addD, h]
@[simp] theorem addD_l {m' : Bool} (h : ds.length + es.length ≤ big) : addD (.lst m ds) (.lst m' es) = some (.lst true (ds ++ es)) := by simp [addD, h]
@[simp] theorem addD_t (h : ds.length + es.length ≤ big) : addD (.tup ds) (.tup es) = some (.tup (ds ++ es)) := by simp [addD, h]
@[simp] theorem mulD_e (h : CMul i j) : mulD (.int i) (.int j) = some (.int (i * j)) := by simp [mulD, int2, h]
@[simp] theorem modD_e (h : 0 < j) : modD (.int i) (.int j) = some (.int (i % j)) := by simp [modD, int2, h]
@[simp] theorem divD_e (h : CDiv i j) : divD (.int i) (.int j) = some (.int (i / j)) := by simp [divD, int2, h]
@[simp] theorem powD_e (h : CPow i j) : powD (.int i) (.int j) = some (.int (i ^ j.toNat)) := by simp [powD, int2, h]
@[simp] theorem ltD_e : ltD (.int i) (.int j) = some (.bl (decide (i < j))) := (Eq.refl _).trans rfl
@[simp] theorem leD_e : leD (.int i) (.int j) = some (.bl (decide (i ≤ j))) := (Eq.refl _).trans rfl
@[simp] theorem gtD_e : gtD (.int i) (.int j) = some (.bl (decide (j < i))) := (Eq.refl _).trans rfl
@[simp] theorem geD_e : geD (.int i) (.int j) = some (.bl (decide (j ≤ i))) := (Eq.refl _).trans rfl
@[simp] theorem negD_e : negD (.int i) = some (.int (-i)) := (Eq.refl _).trans rfl
@[simp] theorem intD_i : intD (.int i) = some (.int i) := (Eq.refl _).trans rfl
@[simp] theorem intD_b : intD (.bl b) = some (.int (if b then 1 else 0)) := (Eq.refl _).trans rfl
@[simp] theorem absD_e : absD (.int i) = some (.int (if i < 0 then -i else i)) := (Eq.refl _).trans rfl
@[simp] theorem toLstD_e : toLstD d = (items d).map (.lst true) := (Eq.refl _).trans rfl
@[simp] theorem toTupD_e : toTupD d = (items d).map .tup := (Eq.refl _).trans rfl
@[simp] theorem ixD_e : ixD d (.int i) = (items d).bind fun ds => atI ds i := (Eq.refl _).trans rfl
@[simp] theorem isN_e {neg : Bool} (h : has? d = true) : isN neg d = some (.bl (if neg then !isNone? d else isNone? d)) := by simp [isN, h]
@[simp] theorem isNone_non : isNone? .non = true := (Eq.refl _).trans rfl
@[simp] theorem isNone_bl : isNone? (.bl b) = false := (Eq.refl _).trans rfl
@[simp] theorem isNone_int : isNone? (.int i) = false := (Eq.refl _).trans rfl
@[simp] theorem isNone_str : isNone? (.str x) = false := (Eq.refl _).trans rfl
@[simp] theorem isNone_tup : isNone? (.tup ds) = false := (Eq.refl _).trans rfl
@[simp] theorem isNone_lst : isNone? (.lst m ds) = false := (Eq.refl _).trans rfl
@[simp] theorem isNone_obj : isNone? (.obj m c ns ds) = false := (Eq.refl _).trans rfl
@[simp] theorem revD_l : revD (.lst m ds) = some (.lst true ds.reverse) := (Eq.refl _).trans rfl
@[simp] theorem tyD_non : tyD .non = some "NoneType" := (Eq.refl _).trans rfl
@[simp] theorem tyD_bl : tyD (.bl b) = some "bool" := (Eq.refl _).trans rfl
@[simp] theorem tyD_int : tyD (.int i) = some "int" := (Eq.refl _).trans rfl
@[simp] theorem tyD_str : tyD (.str x) = some "str" := (Eq.refl _).trans rfl
@[simp] theorem tyD_tup : tyD (.tup ds) = some "tuple" := (Eq.refl _).trans rfl
@[simp] theorem tyD_lst : tyD (.lst m ds) = some "list" := (Eq.refl _).trans rfl
@[simp] theorem isiD_e {Ts : List String} : isiD Ts d = (tyD d).map fun a => .bl (Ts.any fun T => subT a T) := (Eq.refl _).trans rfl
@[simp] theorem subT_e {a T : String} : subT a T = (a == T || (a == "bool" && T == "int")) := (Eq.refl _).trans rfl
@[simp] theorem sqOf_l : sqOf (.lst false ds) = some (.l ds) := (Eq.refl _).trans rfl
@[simp] theorem sqOf_r : sqOf (.rol ds) = some (.l ds) := (Eq.refl _).trans rfl
@[simp] theorem sqOf_t (h : pures? ds = true) : sqOf (.tup ds) = some (.t ds) := by simp [sqOf, h]
@[simp] theorem Sq_l : Sq.ds (.l ds) = ds := (Eq.refl _).trans rfl
@[simp] theorem Sq_t : Sq.ds (.t ds) = ds := (Eq.refl _).trans rfl
@[simp] theorem appF_e (h : ds.length < big) : appF ds [d] = some (.non, ds ++ [d]) := by simp [appF, h]
@[simp] theorem extF_e (h : ds.length + es.length ≤ big) : extF ds [.lst m es] = some (.non, ds ++ es) := by simp [extF, h]
@[simp] theorem truD_non : truD .non = some false := (Eq.refl _).trans rfl
@[simp] theorem truD_bl : truD (.bl b) = some b := (Eq.refl _).trans rfl
@[simp] theorem truD_int : truD (.int i) = some (i != 0) := (Eq.refl _).trans rfl
@[simp] theorem truD_tup : truD (.tup ds) = some (!ds.isEmpty) := (Eq.refl _).trans rfl
@[simp] theorem truD_lst : truD (.lst m ds) = some (!ds.isEmpty) := (Eq.refl _).trans rfl
@[simp] theorem toP_non : toP .non = some .none := by simp [toP]
@[simp] theorem toP_bl : toP (.bl b) = some (.bool b) := by simp [toP]
@[simp] theorem toP_int : toP (.int i) = some (.int i) := by simp [toP]
@[simp] theorem toP_str : toP (.str x) = some (.str x) := by simp [toP]
@[simp] theorem toP_tup : toP (.tup ds) = (toPs ds).map .tuple := by simp [toP]
@[simp] theorem toP_lst : toP (.lst m ds) = (toPs ds).map .list := by simp [toP]
@[simp] theorem toPs_n : toPs [] = some [] := by simp [toPs]
@[simp] theorem toPs_c : toPs (d :: ds) = (toP d).bind fun p => (toPs ds).map fun ps => p :: ps := by simp [toPs]
theorem toPs_map {τ : Type} {f : τ → D} {g : τ → PyData} (h : ∀ t, toP (f t) = some (g t)) (ts : List τ) : toPs (ts.map f) = some (ts.map g) := by
  induction ts with
  | nil => simp
  | cons t ts ih => simp [ih, h]
end
/-! ### equality, membership -/
mutual
def eqD : D → D → Bool
  | .non, .non => true
  | .bl a, .bl b => a == b
  | .bl a, .int j => (if a then 1 else 0) == j
  | .int i, .bl b => i == (if b then 1 else 0)
  | .int i, .int j => i == j
  | .str x, .str y => x == y
  | .tup xs, .tup ys => eqDs xs ys
  | .lst _ xs, .lst _ ys => eqDs xs ys
  | .lst _ xs, .rol ys => eqDs xs ys
  | .rol xs, .lst _ ys => eqDs xs ys
  | .rol xs, .rol ys => eqDs xs ys
  | _, _ => false
def eqDs : List D → List D → Bool
  | [], [] => true
  | x :: xs, y :: ys => eqD x y && eqDs xs ys
  | _, _ => false
end
mutual
/-- of a shape that == takes; at most so deep -/
def sh : Nat → D → Bool
  | _, .non => true
  | _, .bl _ => true
  | _, .int _ => true
  | _, .str x => PyData.strOk x
  | n + 1, .tup ds => shs n ds
  | n + 1, .lst _ ds => shs n ds
  | n + 1, .rol ds => shs n ds
  | _, _ => false
def shs : Nat → List D → Bool
  | _, [] => true
  | n, d :: ds => sh n d && shs n ds
end
mutual
theorem sh_toP : ∀ (d : D) (n : Nat), sh n d = true → ∃ p, toP d = some p ∧ p.canLay0 = true ∧ p.depth ≤ n
  | .un, n, h => by cases n <;> simp [sh] at h
  | .non, n, h => ⟨.none, by simp [toP], by simp [PyData.canLay0], by simp [PyData.depth]⟩
  | .bl b, n, h => ⟨.bool b, by simp [toP], by simp [PyData.canLay0], by simp [PyData.depth]⟩
  | .int i, n, h => ⟨.int i, by simp [toP], by simp [PyData.canLay0], by simp [PyData.depth]⟩
  | .str x, n, h => ⟨.str x, by simp [toP], by simp [PyData.canLay0]; cases n <;> simpa [sh] using h, by simp [PyData.depth]⟩
  | .tup ds, 0, h => by simp [sh] at h
  | .tup ds, n + 1, h => by
    obtain ⟨ps, e, h1, h2⟩ := shs_toP ds n (by simpa [sh] using h)
    exact ⟨.tuple ps, by simp [toP, e], by simpa [PyData.canLay0] using h1, by simp [PyData.depth]; omega⟩
  | .lst m ds, 0, h => by simp [sh] at h
  | .lst m ds, n + 1, h => by
    obtain ⟨ps, e, h1, h2⟩ := shs_toP ds n (by simpa [sh] using h)
    exact ⟨.list ps, by simp [toP, e], by simpa [PyData.canLay0] using h1, by simp [PyData.depth]; omega⟩
  | .rol ds, 0, h => by simp [sh] at h
  | .rol ds, n + 1, h => by
    obtain ⟨ps, e, h1, h2⟩ := shs_toP ds n (by simpa [sh] using h)
    exact ⟨.list ps, by simp [toP, e], by simpa [PyData.canLay0] using h1, by simp [PyData.depth]; omega⟩
  | .dic m ks ds, n, h => by cases n <;> simp [sh] at h
  | .obj m c ns ds, n, h => by cases n <;> simp [sh] at h
theorem shs_toP : ∀ (ds : List D) (n : Nat), shs n ds = true → ∃ ps, toPs ds = some ps ∧ PyData.canLayAll0 ps = true ∧ PyData.depthAll ps ≤ n
  | [], n, h => ⟨[], by simp [toPs], by simp [PyData.canLayAll0], by simp [PyData.depthAll]⟩
  | d :: ds, n, h => by
    simp [shs] at h
    obtain ⟨p, e, h1, h2⟩ := sh_toP d n h.1
    obtain ⟨ps, e', h1', h2'⟩ := shs_toP ds n h.2
    exact ⟨p :: ps, by simp [toPs, e, e'], by simp [PyData.canLayAll0, h1, h1'], by simp [PyData.depthAll]; omega⟩
end
theorem toPs_cons {d : D} {ds : List D} {ps : List PyData} (h : toPs (d :: ds) = some ps) : ∃ a, toP d = some a ∧ ∃ b, toPs ds = some b ∧ ps = a :: b := by
  rw [toPs_c, Option.bind_eq_some_iff] at h
  obtain ⟨a, e1, h⟩ := h
  rw [Option.map_eq_some_iff] at h
  obtain ⟨b, e2, rfl⟩ := h
  exact ⟨a, e1, b, e2, rfl⟩
mutual
theorem eqD_toP : ∀ (d e : D) {p q : PyData}, toP d = some p → toP e = some q → PyData.eqv p q = eqD d e := by
  intro d e p q hp hq
  cases d <;> cases e <;> simp [toP] at hp hq <;> subst_vars <;> first
    | (simp [PyData.eqv, eqD]; done)
    | (obtain ⟨ps, e1, rfl⟩ := hp; simp [PyData.eqv, eqD]; done)
    | (obtain ⟨ps, e1, rfl⟩ := hq; simp [PyData.eqv, eqD]; done)
    | (obtain ⟨ps, e1, rfl⟩ := hp; obtain ⟨qs, e2, rfl⟩ := hq; simp [PyData.eqv, eqD]; done)
    | (obtain ⟨ps, e1, rfl⟩ := hp; obtain ⟨qs, e2, rfl⟩ := hq; simp [PyData.eqv, eqD]; exact eqDs_toPs _ _ e1 e2)
theorem eqDs_toPs : ∀ (ds es : List D) {ps qs : List PyData}, toPs ds = some ps → toPs es = some qs → PyData.eqvAll ps qs = eqDs ds es := by
  intro ds es ps qs hp hq
  cases ds with
  | nil =>
    simp [toPs] at hp
    subst hp
    cases es with
    | nil => simp [toPs] at hq; subst hq; simp [PyData.eqvAll, eqDs]
    | cons e es =>
      obtain ⟨a, _, b, _, rfl⟩ := toPs_cons hq
      simp [PyData.eqvAll, eqDs]
  | cons d ds =>
    obtain ⟨a, e1, b, e2, rfl⟩ := toPs_cons hp
    cases es with
    | nil => simp [toPs] at hq; subst hq; simp [PyData.eqvAll, eqDs]
    | cons e es =>
      obtain ⟨c, e3, f, e4, rfl⟩ := toPs_cons hq
      simp [PyData.eqvAll, eqDs, eqD_toP d e e1 e3, eqDs_toPs ds es e2 e4]
end
section
variable {neg b m m' : Bool} {i j : Int} {x y : Str} {ds es : List D} {d e c : D} {n : Nat}
@[simp] theorem sh_non : sh n .non = true := by cases n <;> simp [sh]
@[simp] theorem sh_bl : sh n (.bl b) = true := by cases n <;> simp [sh]
@[simp] theorem sh_int : sh n (.int i) = true := by cases n <;> simp [sh]
@[simp] theorem sh_str : sh n (.str x) = PyData.strOk x := by cases n <;> simp [sh]
@[simp] theorem sh_tup : sh (n + 1) (.tup ds) = shs n ds := by simp [sh]
@[simp] theorem sh_lst : sh (n + 1) (.lst m ds) = shs n ds := by simp [sh]
@[simp] theorem sh_rol : sh (n + 1) (.rol ds) = shs n ds := by simp [sh]
@[simp] theorem shs_n : shs n [] = true := by simp [shs]
@[simp] theorem shs_c : shs n (d :: ds) = (sh n d && shs n ds) := by simp [shs]
@[simp] theorem shs_app : shs n (ds ++ es) = (shs n ds && shs n es) := by
  induction ds with
  | nil => simp
  | cons d ds ih => simp [ih, Bool.and_assoc]
theorem shs_map {τ : Type} {f : τ → D} (h : ∀ t, sh n (f t) = true) (ts : List τ) : shs n (ts.map f) = true := by
  induction ts with
  | nil => simp
  | cons t ts ih => simp [ih, h]
theorem shs_all : (∀ d ∈ ds, sh n d = true) → shs n ds = true := by
  induction ds with
  | nil => simp
  | cons t ts ih => intro h; simp at h; simp [h.1]; exact ih h.2
@[simp] theorem shs_rep {k : Nat} (h : sh n d = true) : shs n (List.replicate k d) = true := by
  induction k with
  | zero => simp
  | succ k ih => simp [List.replicate_succ, ih, h]
@[simp] theorem shs_ints (ns : List Int) : shs n (ns.map D.int) = true := shs_map (fun _ => sh_int) ns
theorem eqP_e (h1 : sh 64 d = true) (h2 : sh 64 e = true) : eqP neg d e = some (.bl (if neg then !eqD d e else eqD d e)) := by
  obtain ⟨p, e1, l1, q1⟩ := sh_toP d 64 h1
  obtain ⟨q, e2, l2, q2⟩ := sh_toP e 64 h2
  simp [eqP, e1, e2, SeqAt.shaped, l1, l2, q1, q2, eqD_toP d e e1 e2]
@[simp] theorem eqP_t (h1 : sh 64 d = true) (h2 : sh 64 e = true) : eqP true d e = some (.bl (!eqD d e)) := by simp [eqP_e h1 h2]
@[simp] theorem eqP_f (h1 : sh 64 d = true) (h2 : sh 64 e = true) : eqP false d e = some (.bl (eqD d e)) := by simp [eqP_e h1 h2]
theorem any_toPs : ∀ {ds : List D} {ps : List PyData} {p : PyData}, toPs ds = some ps → toP d = some p → ps.any (fun z => PyData.eqv z p) = ds.any (fun z => eqD z d)
  | [], ps, p, h, _ => by simp [toPs] at h; subst h; simp
  | e :: ds, ps, p, h, hp => by
    obtain ⟨a, e1, b, e2, rfl⟩ := toPs_cons h
    simp [any_toPs e2 hp, eqD_toP e d e1 hp]
theorem inP_e (hc : items c = some ds) (h1 : sh 64 d = true) (h2 : shs 63 ds = true) : inP neg d c = some (.bl (if neg then !ds.any (fun z => eqD z d) else ds.any (fun z => eqD z d))) := by
  obtain ⟨p, e1, l1, q1⟩ := sh_toP d 64 h1
  obtain ⟨ps, e2, l2, q2⟩ := shs_toP ds 63 h2
  simp [inP, hc, e1, e2, SeqAt.shaped, l1, l2, q1, PyData.canLay0, PyData.depth, any_toPs e2 e1]
  omega
@[simp] theorem inP_l (h1 : sh 64 d = true) (h2 : shs 63 ds = true) : inP neg d (.lst m ds) = some (.bl (if neg then !ds.any (fun z => eqD z d) else ds.any (fun z => eqD z d))) := inP_e rfl h1 h2
@[simp] theorem inP_t (h1 : sh 64 d = true) (h2 : shs 63 ds = true) : inP neg d (.tup ds) = some (.bl (if neg then !ds.any (fun z => eqD z d) else ds.any (fun z => eqD z d))) := inP_e rfl h1 h2
@[simp] theorem eqD_nn : eqD .non .non = true := by simp [eqD]
@[simp] theorem eqD_nb : eqD .non (.bl b) = false := by simp [eqD]
@[simp] theorem eqD_ni : eqD .non (.int i) = false := by simp [eqD]
@[simp] theorem eqD_ns : eqD .non (.str x) = false := by simp [eqD]
@[simp] theorem eqD_nt : eqD .non (.tup ds) = false := by simp [eqD]
@[simp] theorem eqD_nl : eqD .non (.lst m ds) = false := by simp [eqD]
@[simp] theorem eqD_bn : eqD (.bl b) .non = false := by simp [eqD]
@[simp] theorem eqD_in : eqD (.int i) .non = false := by simp [eqD]
@[simp] theorem eqD_sn : eqD (.str x) .non = false := by simp [eqD]
@[simp] theorem eqD_tn : eqD (.tup ds) .non = false := by simp [eqD]
@[simp] theorem eqD_ln : eqD (.lst m ds) .non = false := by simp [eqD]
@[simp] theorem eqD_bb {a : Bool} : eqD (.bl a) (.bl b) = (a == b) := by simp [eqD]
@[simp] theorem eqD_bi : eqD (.bl b) (.int j) = ((if b then 1 else 0) == j) := by simp [eqD]
@[simp] theorem eqD_ib : eqD (.int i) (.bl b) = (i == (if b then 1 else 0)) := by simp [eqD]
@[simp] theorem eqD_bs : eqD (.bl b) (.str x) = false := by simp [eqD]
@[simp] theorem eqD_sb : eqD (.str x) (.bl b) = false := by simp [eqD]
@[simp] theorem eqD_ii : eqD (.int i) (.int j) = decide (i = j) := by simp [eqD]; rfl
@[simp] theorem eqD_is : eqD (.int i) (.str x) = false := by simp [eqD]
@[simp] theorem eqD_si : eqD (.str x) (.int i) = false := by simp [eqD]
@[simp] theorem eqD_ss : eqD (.str x) (.str y) = decide (x = y) := by simp [eqD]; rfl
@[simp] theorem eqD_tt : eqD (.tup ds) (.tup es) = eqDs ds es := by simp [eqD]
@[simp] theorem eqD_ll : eqD (.lst m ds) (.lst m' es) = eqDs ds es := by simp [eqD]
@[simp] theorem eqD_st : eqD (.str x) (.tup ds) = false := by simp [eqD]
@[simp] theorem eqD_ts : eqD (.tup ds) (.str x) = false := by simp [eqD]
@[simp] theorem eqD_sl : eqD (.str x) (.lst m ds) = false := by simp [eqD]
@[simp] theorem eqD_ls : eqD (.lst m ds) (.str x) = false := by simp [eqD]
@[simp] theorem eqD_it : eqD (.int i) (.tup ds) = false := by simp [eqD]
@[simp] theorem eqD_ti : eqD (.tup ds) (.int i) = false := by simp [eqD]
@[simp] theorem eqD_tl : eqD (.tup ds) (.lst m es) = false := by simp [eqD]
@[simp] theorem eqD_lt : eqD (.lst m ds) (.tup es) = false := by simp [eqD]
@[simp] theorem eqDs_nn : eqDs [] [] = true := by simp [eqDs]
@[simp] theorem eqDs_nc : eqDs [] (d :: ds) = false := by simp [eqDs]
@[simp] theorem eqDs_cn : eqDs (d :: ds) [] = false := by simp [eqDs]
@[simp] theorem eqDs_cc : eqDs (d :: ds) (e :: es) = (eqD d e && eqDs ds es) := by simp [eqDs]
end
mutual
theorem eqD_self : ∀ (d : D) {n : Nat}, sh n d = true → eqD d d = true
  | .un, n, h => by cases n <;> simp [sh] at h
  | .non, n, h => by simp
  | .bl b, n, h => by simp
  | .int i, n, h => by simp
  | .str x, n, h => by simp
  | .tup ds, 0, h => by simp [sh] at h
  | .tup ds, n + 1, h => by simp [sh] at h; simp; exact eqDs_self ds h
  | .lst m ds, 0, h => by simp [sh] at h
  | .lst m ds, n + 1, h => by simp [sh] at h; simp; exact eqDs_self ds h
  | .rol ds, 0, h => by simp [sh] at h
  | .rol ds, n + 1, h => by simp [sh] at h; simp [eqD]; exact eqDs_self ds h
  | .dic m ks ds, n, h => by cases n <;> simp [sh] at h
  | .obj m c ns ds, n, h => by cases n <;> simp [sh] at h
theorem eqDs_self : ∀ (ds : List D) {n : Nat}, shs n ds = true → eqDs ds ds = true
  | [], n, h => by simp
  | d :: ds, n, h => by simp at h; simp [eqD_self d h.1, eqDs_self ds h.2]
end
section
variable {α β : Type} {ρ ρ' : List D} {d : D} {i n N : Nat}
@[simp] theorem skipM_e : skipM ρ = .ok .nx ρ := (Eq.refl _).trans rfl
@[simp] theorem retN_e : retN ρ = .ok (.ret .non) ρ := (Eq.refl _).trans rfl
@[simp] theorem nilM_e : nilM ρ = .ok [] ρ := (Eq.refl _).trans rfl
@[simp] theorem nonM_e : nonM ρ = .ok .non ρ := (Eq.refl _).trans rfl
@[simp] theorem intM_e {i : Int} : intM i ρ = .ok (.int i) ρ := (Eq.refl _).trans rfl
@[simp] theorem blM_e {b : Bool} : blM b ρ = .ok (.bl b) ρ := (Eq.refl _).trans rfl
@[simp] theorem strM_e {z : Str} : strM z ρ = .ok (.str z) ρ := (Eq.refl _).trans rfl
@[simp] theorem cM_e : cM d ρ = .ok d ρ := (Eq.refl _).trans rfl
@[simp] theorem yesM_e : yesM ρ = .ok true ρ := (Eq.refl _).trans rfl
/-! slots -/
def rdO (ρ : List D) : Option D → Res D
  | some d => if has? d && pure? d then .ok d ρ else .bad
  | none => .bad
@[simp] theorem rd_e : rd i ρ = rdO ρ ρ[i]? := (Eq.refl _).trans rfl
@[simp] theorem rdO_s (h1 : has? d = true) (h2 : pure? d = true) : rdO ρ (some d) = .ok d ρ := by simp [rdO, h1, h2]
@[simp] theorem rdP_e {ps : Path} : rdP i ps ρ = rdO ρ ((ρ[i]?).bind (getP · ps)) := (Eq.refl _).trans rfl
def mvO (i : Nat) (ρ : List D) : Option D → Res D
  | some d => if has? d then .ok d (ρ.set i .un) else .bad
  | none => .bad
@[simp] theorem mv_e : mv i ρ = mvO i ρ ρ[i]? := (Eq.refl _).trans rfl
@[simp] theorem mvO_s (h1 : has? d = true) : mvO i ρ (some d) = .ok d (ρ.set i .un) := by simp [mvO, h1]
def fzO (i : Nat) (ρ : List D) : Option D → Res D
  | some d => if has? d then .ok (fz d) (ρ.set i (fz d)) else .bad
  | none => .bad
@[simp] theorem fzv_e : fzv i ρ = fzO i ρ ρ[i]? := (Eq.refl _).trans rfl
@[simp] theorem fzO_s (h1 : has? d = true) : fzO i ρ (some d) = .ok (fz d) (ρ.set i (fz d)) := by simp [fzO, h1]
def lenO (ρ : List D) : Option D → Res D
  | some d => if has? d = true then Res.of (lenD d) ρ else .bad
  | none => .bad
@[simp] theorem lenP_e {ps : Path} : lenP i ps ρ = lenO ρ ((ρ[i]?).bind (getP · ps)) := (Eq.refl _).trans rfl
@[simp] theorem lenO_s (h1 : has? d = true) : lenO ρ (some d) = Res.of (lenD d) ρ := by simp [lenO, h1]
def plcO (ms : M (List D)) (ρ : List D) : Bool → Res (List D)
  | true => ms ρ
  | false => .bad
@[simp] theorem plcM_e {ps : Path} {ms : M (List D)} : plcM i ps ms ρ = plcO ms ρ (isPlc i ps ρ) := by unfold plcM plcO; cases isPlc i ps ρ <;> rfl
@[simp] theorem plcO_t {ms : M (List D)} : plcO ms ρ true = ms ρ := (Eq.refl _).trans rfl
def isO : Option D → Bool
  | some c => has? c
  | none => false
@[simp] theorem isPlc_e {ps : Path} : isPlc i ps ρ = isO ((ρ[i]?).bind (getP · ps)) := (Eq.refl _).trans rfl
@[simp] theorem isO_s : isO (some d) = has? d := (Eq.refl _).trans rfl

def seqK (b : SM) : Fl → List D → Res Fl := fun f ρ1 => match f with
  | .nx => b ρ1
  | f => .ok f ρ1
@[simp] theorem seqK_nx {b : SM} : seqK b .nx ρ = b ρ := (Eq.refl _).trans rfl
@[simp] theorem seqK_ret {b : SM} : seqK b (.ret d) ρ = .ok (.ret d) ρ := (Eq.refl _).trans rfl
@[simp] theorem seqK_bk {b : SM} : seqK b .bk ρ = .ok .bk ρ := (Eq.refl _).trans rfl
@[simp] theorem seqK_ct {b : SM} : seqK b .ct ρ = .ok .ct ρ := (Eq.refl _).trans rfl
@[simp] theorem seqM_e {a b : SM} : seqM a b ρ = (a ρ).bind (seqK b) := (Eq.refl _).trans rfl
def dropK : D → List D → Res Fl := fun _ ρ1 => .ok .nx ρ1
@[simp] theorem dropK_e : dropK d ρ = .ok .nx ρ := (Eq.refl _).trans rfl
@[simp] theorem dropM_e {m : EM} : dropM m ρ = (m ρ).bind dropK := (Eq.refl _).trans rfl
def retK : D → List D → Res Fl := fun d ρ1 => .ok (.ret d) ρ1
@[simp] theorem retK_e : retK d ρ = .ok (.ret d) ρ := (Eq.refl _).trans rfl
@[simp] theorem retM_e {m : EM} : retM m ρ = (m ρ).bind retK := (Eq.refl _).trans rfl
def iteK (a b : M α) : Bool → List D → Res α := fun c ρ1 => if c = true then a ρ1 else b ρ1
@[simp] theorem iteK_t {a b : M α} : iteK a b true ρ = a ρ := (Eq.refl _).trans rfl
@[simp] theorem iteK_f {a b : M α} : iteK a b false ρ = b ρ := (Eq.refl _).trans rfl
@[simp] theorem iteM_e {t : M Bool} {a b : SM} : iteM t a b ρ = (t ρ).bind (iteK a b) := (Eq.refl _).trans rfl
@[simp] theorem ifM_e {t : M Bool} {a b : M α} : ifM t a b ρ = (t ρ).bind (iteK a b) := (Eq.refl _).trans rfl
def setK (i : Nat) : D → List D → Res Fl := fun d ρ1 => if i < ρ1.length then .ok .nx (ρ1.set i d) else .bad
@[simp] theorem setK_e (h : i < ρ.length) : setK i d ρ = .ok .nx (ρ.set i d) := if_pos h
@[simp] theorem setM_e {m : EM} : setM i m ρ = (m ρ).bind (setK i) := (Eq.refl _).trans rfl
def asgO (ρ : List D) : Option (List D) → Res Fl
  | some ρ2 => .ok .nx ρ2
  | none => .bad
def asgK (g : D → List D → Option (List D)) : D → List D → Res Fl := fun d ρ1 => (Res.of (g d ρ1) ρ1).bind fun ρ2 _ => .ok .nx ρ2
@[simp] theorem asgK_e {g : D → List D → Option (List D)} : asgK g d ρ = asgO ρ (g d ρ) := by unfold asgK asgO; cases g d ρ <;> rfl
@[simp] theorem asgO_s : asgO ρ (some ρ') = .ok .nx ρ' := (Eq.refl _).trans rfl
@[simp] theorem asgM_e {g : D → List D → Option (List D)} {m : EM} : asgM g m ρ = (m ρ).bind (asgK g) := (Eq.refl _).trans rfl
@[simp] theorem forS_e {it : M (List D)} {g : D → List D → Option (List D)} {b : SM} : forS it g b ρ = (it ρ).bind (forM g b) := (Eq.refl _).trans rfl
def raiseK : D → List D → Res Fl := fun d ρ1 => match d with
  | .str z => .ex z ρ1
  | _ => .bad
@[simp] theorem raiseK_e {z : Str} : raiseK (.str z) ρ = .ex z ρ := (Eq.refl _).trans rfl
@[simp] theorem raiseM_e {m : EM} : raiseM m ρ = (m ρ).bind raiseK := (Eq.refl _).trans rfl
def opK2 (f : D → D → Option D) (d1 : D) : D → List D → Res D := fun d2 ρ2 => Res.of (f d1 d2) ρ2
def opK (f : D → D → Option D) (mb : EM) : D → List D → Res D := fun d1 ρ1 => (mb ρ1).bind (opK2 f d1)
@[simp] theorem opK2_e {f : D → D → Option D} {d1 d2 : D} : opK2 f d1 d2 ρ = Res.of (f d1 d2) ρ := (Eq.refl _).trans rfl
@[simp] theorem opK_e {f : D → D → Option D} {mb : EM} {d1 : D} : opK f mb d1 ρ = (mb ρ).bind (opK2 f d1) := (Eq.refl _).trans rfl
@[simp] theorem opM_e {f : D → D → Option D} {ma mb : EM} : opM f ma mb ρ = (ma ρ).bind (opK f mb) := (Eq.refl _).trans rfl
def unK (f : D → Option D) : D → List D → Res D := fun d1 ρ1 => Res.of (f d1) ρ1
@[simp] theorem unK_e {f : D → Option D} : unK f d ρ = Res.of (f d) ρ := (Eq.refl _).trans rfl
@[simp] theorem unM_e {f : D → Option D} {ma : EM} : unM f ma ρ = (ma ρ).bind (unK f) := (Eq.refl _).trans rfl
def clK (f : List D → Option D) : List D → List D → Res D := fun ds ρ1 => Res.of (f ds) ρ1
@[simp] theorem clK_e {f : List D → Option D} {ds : List D} : clK f ds ρ = Res.of (f ds) ρ := (Eq.refl _).trans rfl
@[simp] theorem clM_e {f : List D → Option D} {ms : M (List D)} : clM f ms ρ = (ms ρ).bind (clK f) := (Eq.refl _).trans rfl
def consK2 (d : D) : List D → List D → Res (List D) := fun ds ρ2 => .ok (d :: ds) ρ2
def consK (ms : M (List D)) : D → List D → Res (List D) := fun d ρ1 => (ms ρ1).bind (consK2 d)
@[simp] theorem consK2_e {ds : List D} : consK2 d ds ρ = .ok (d :: ds) ρ := (Eq.refl _).trans rfl
@[simp] theorem consK_e {ms : M (List D)} : consK ms d ρ = (ms ρ).bind (consK2 d) := (Eq.refl _).trans rfl
@[simp] theorem consM_e {m : EM} {ms : M (List D)} : consM m ms ρ = (m ρ).bind (consK ms) := (Eq.refl _).trans rfl
def andK (u : M Bool) : Bool → List D → Res Bool := fun b ρ1 => if b = true then u ρ1 else .ok false ρ1
@[simp] theorem andK_t {u : M Bool} : andK u true ρ = u ρ := (Eq.refl _).trans rfl
@[simp] theorem andK_f {u : M Bool} : andK u false ρ = .ok false ρ := (Eq.refl _).trans rfl
@[simp] theorem andM_e {t u : M Bool} : andM t u ρ = (t ρ).bind (andK u) := (Eq.refl _).trans rfl
def orK (u : M Bool) : Bool → List D → Res Bool := fun b ρ1 => if b = true then .ok true ρ1 else u ρ1
@[simp] theorem orK_t {u : M Bool} : orK u true ρ = .ok true ρ := (Eq.refl _).trans rfl
@[simp] theorem orK_f {u : M Bool} : orK u false ρ = u ρ := (Eq.refl _).trans rfl
@[simp] theorem orM_e {t u : M Bool} : orM t u ρ = (t ρ).bind (orK u) := (Eq.refl _).trans rfl
def notK : Bool → List D → Res Bool := fun b ρ1 => .ok (!b) ρ1
@[simp] theorem notK_e {b : Bool} : notK b ρ = .ok (!b) ρ := (Eq.refl _).trans rfl
@[simp] theorem notM_e {t : M Bool} : notM t ρ = (t ρ).bind notK := (Eq.refl _).trans rfl
def blO (ρ : List D) : D → Res Bool := fun d => Res.of (blOf d) ρ
@[simp] theorem blOf_e {b : Bool} : blOf (.bl b) = some b := (Eq.refl _).trans rfl
def andVK (mb : EM) : D → List D → Res D := fun d ρ1 => (Res.of (blOf d) ρ1).bind fun b ρ2 => if b = true then mb ρ2 else .ok (.bl false) ρ2
@[simp] theorem andVK_t {u : EM} : andVK u (.bl true) ρ = u ρ := (Eq.refl _).trans rfl
@[simp] theorem andVK_f {u : EM} : andVK u (.bl false) ρ = .ok (.bl false) ρ := (Eq.refl _).trans rfl
@[simp] theorem andV_e {ma mb : EM} : andV ma mb ρ = (ma ρ).bind (andVK mb) := (Eq.refl _).trans rfl
def orVK (mb : EM) : D → List D → Res D := fun d ρ1 => (Res.of (blOf d) ρ1).bind fun b ρ2 => if b = true then .ok (.bl true) ρ2 else mb ρ2
@[simp] theorem orVK_t {u : EM} : orVK u (.bl true) ρ = .ok (.bl true) ρ := (Eq.refl _).trans rfl
@[simp] theorem orVK_f {u : EM} : orVK u (.bl false) ρ = u ρ := (Eq.refl _).trans rfl
@[simp] theorem orV_e {ma mb : EM} : orV ma mb ρ = (ma ρ).bind (orVK mb) := (Eq.refl _).trans rfl
def notVK : D → List D → Res D := fun d ρ1 => (Res.of (blOf d) ρ1).bind fun b ρ2 => .ok (.bl (!b)) ρ2
@[simp] theorem notVK_e {b : Bool} : notVK (.bl b) ρ = .ok (.bl (!b)) ρ := (Eq.refl _).trans rfl
@[simp] theorem notV_e {m : EM} : notV m ρ = (m ρ).bind notVK := (Eq.refl _).trans rfl
def fzK : D → List D → Res D := fun d ρ1 => .ok (fz d) ρ1
@[simp] theorem fzK_e : fzK d ρ = .ok (fz d) ρ := (Eq.refl _).trans rfl
@[simp] theorem fzM_e {m : EM} : fzM m ρ = (m ρ).bind fzK := (Eq.refl _).trans rfl
def testK : D → List D → Res Bool := fun d ρ1 => Res.of (blOf d) ρ1
@[simp] theorem testK_e {b : Bool} : testK (.bl b) ρ = .ok b ρ := (Eq.refl _).trans rfl
@[simp] theorem testM_e {m : EM} : testM m ρ = (m ρ).bind testK := (Eq.refl _).trans rfl
def truK : D → List D → Res Bool := fun d ρ1 => Res.of (truD d) ρ1
@[simp] theorem truK_e : truK d ρ = Res.of (truD d) ρ := (Eq.refl _).trans rfl
@[simp] theorem truM_e {m : EM} : truM m ρ = (m ρ).bind truK := (Eq.refl _).trans rfl
def rngK (f : List D → Option (List D)) : List D → List D → Res (List D) := fun ds ρ1 => Res.of (f ds) ρ1
@[simp] theorem rngK_e {f : List D → Option (List D)} {ds : List D} : rngK f ds ρ = Res.of (f ds) ρ := (Eq.refl _).trans rfl
@[simp] theorem rngM_e {f : List D → Option (List D)} {ms : M (List D)} : rngM f ms ρ = (ms ρ).bind (rngK f) := (Eq.refl _).trans rfl
def itK : D → List D → Res (List D) := fun d ρ1 => Res.of ((sqOf d).map Sq.ds) ρ1
@[simp] theorem itK_e : itK d ρ = Res.of ((sqOf d).map Sq.ds) ρ := (Eq.refl _).trans rfl
@[simp] theorem itM_e {m : EM} : itM m ρ = (fzM m ρ).bind itK := (Eq.refl _).trans rfl
def lcE : List D → List D → Res D := fun acc ρ2 => .ok (.lst true acc) ρ2
def lcK (vs : List Nat) (g : D → List D → Option (List D)) (t : M Bool) (m : EM) : List D → List D → Res D := fun ds ρ1 => (lcLoop vs g t m ds [] (wipeD vs ρ1)).bind lcE
@[simp] theorem lcE_e {acc : List D} : lcE acc ρ = .ok (.lst true acc) ρ := (Eq.refl _).trans rfl
@[simp] theorem lcK_e {vs : List Nat} {g : D → List D → Option (List D)} {t : M Bool} {m : EM} {ds : List D} : lcK vs g t m ds ρ = (lcLoop vs g t m ds [] (wipeD vs ρ)).bind lcE := (Eq.refl _).trans rfl
@[simp] theorem wipeD_n : wipeD [] ρ = ρ := (Eq.refl _).trans rfl
@[simp] theorem wipeD_c {v : Nat} {vs : List Nat} : wipeD (v :: vs) ρ = (wipeD vs ρ).set v .un := (Eq.refl _).trans rfl
@[simp] theorem lcM_e {vs : List Nat} {it : M (List D)} {g : D → List D → Option (List D)} {t : M Bool} {m : EM} : lcM vs it g t m ρ = (it ρ).bind (lcK vs g t m) := (Eq.refl _).trans rfl
def dcE : List (Key × D) → List D → Res D := fun acc ρ2 => .ok (dicOf true acc) ρ2
def dcK (vs : List Nat) (g : D → List D → Option (List D)) (t : M Bool) (mk mz : EM) : List D → List D → Res D := fun ds ρ1 => (dcLoop vs g t mk mz ds [] (wipeD vs ρ1)).bind dcE
@[simp] theorem dcE_e {acc : List (Key × D)} : dcE acc ρ = .ok (dicOf true acc) ρ := (Eq.refl _).trans rfl
@[simp] theorem dcK_e {vs : List Nat} {g : D → List D → Option (List D)} {t : M Bool} {mk mz : EM} {ds : List D} : dcK vs g t mk mz ds ρ = (dcLoop vs g t mk mz ds [] (wipeD vs ρ)).bind dcE := (Eq.refl _).trans rfl
@[simp] theorem dcM_e {vs : List Nat} {it : M (List D)} {g : D → List D → Option (List D)} {t : M Bool} {mk mz : EM} : dcM vs it g t mk mz ρ = (it ρ).bind (dcK vs g t mk mz) := (Eq.refl _).trans rfl
def lstO (d0 : D) : D → Option (D × List D)
  | .lst true ds => some (d0, ds)
  | _ => none
@[simp] theorem lstP_e {ps : Path} : lstP i ps ρ = (ρ[i]?).bind fun d0 => (getP d0 ps).bind (lstO d0) := (Eq.refl _).trans rfl
@[simp] theorem lstO_e {d0 : D} {ds : List D} : lstO d0 (.lst true ds) = some (d0, ds) := (Eq.refl _).trans rfl
def lmO2 (i : Nat) (ps : Path) (ρ1 : List D) (d0 : D) : Option (D × List D) → Res D
  | some (d, ds') => .ok d (ρ1.set i (putP d0 ps (.lst true ds')))
  | none => .bad
def lmO (i : Nat) (ps : Path) (f : List D → List D → Option (D × List D)) (as ρ1 : List D) : Option (D × List D) → Res D
  | some (d0, ds) => lmO2 i ps ρ1 d0 (f ds as)
  | none => .bad
def lmK (i : Nat) (ps : Path) (f : List D → List D → Option (D × List D)) : List D → List D → Res D := fun as ρ1 => lmO i ps f as ρ1 (lstP i ps ρ1)
def lmB (i : Nat) (ps : Path) (f : List D → List D → Option (D × List D)) (ms : M (List D)) (ρ : List D) : Bool → Res D
  | true => (ms ρ).bind (lmK i ps f)
  | false => .bad
@[simp] theorem lmM_e {ps : Path} {f : List D → List D → Option (D × List D)} {ms : M (List D)} : lmM i ps f ms ρ = lmB i ps f ms ρ (lstP i ps ρ).isSome := by
  unfold lmM lmB
  cases (lstP i ps ρ).isSome with
  | false => rfl
  | true =>
    dsimp only
    rw [if_pos rfl]
    rfl
@[simp] theorem lmB_t {ps : Path} {f : List D → List D → Option (D × List D)} {ms : M (List D)} : lmB i ps f ms ρ true = (ms ρ).bind (lmK i ps f) := (Eq.refl _).trans rfl
@[simp] theorem lmK_e {ps : Path} {f : List D → List D → Option (D × List D)} {as : List D} : lmK i ps f as ρ = lmO i ps f as ρ (lstP i ps ρ) := (Eq.refl _).trans rfl
@[simp] theorem lmO_s {ps : Path} {f : List D → List D → Option (D × List D)} {as ds : List D} {d0 : D} : lmO i ps f as ρ (some (d0, ds)) = lmO2 i ps ρ d0 (f ds as) := (Eq.refl _).trans rfl
@[simp] theorem lmO2_s {ps : Path} {ds : List D} {d0 : D} : lmO2 i ps ρ d0 (some (d, ds)) = .ok d (ρ.set i (putP d0 ps (.lst true ds))) := (Eq.refl _).trans rfl
def ixO3 (i : Nat) (ps : Path) (ρ2 : List D) (d d0 : D) (ds : List D) : Option Nat → Res Fl
  | some j => .ok .nx (ρ2.set i (putP d0 ps (.lst true (ds.set j d))))
  | none => .bad
def ixO2 (i : Nat) (ps : Path) (d : D) (k : D) (ρ2 : List D) : Option (D × List D) → Res Fl
  | some (d0, ds) => (match k with
    | .int k => ixO3 i ps ρ2 d d0 ds (ixN ds.length k)
    | _ => .bad)
  | none => .bad
def ixK2 (i : Nat) (ps : Path) (d : D) : D → List D → Res Fl := fun k ρ2 => ixO2 i ps d k ρ2 (lstP i ps ρ2)
def ixO (i : Nat) (ps : Path) (m2 : EM) (d : D) (ρ1 : List D) : Option (D × List D) → Res Fl
  | some _ => (m2 ρ1).bind (ixK2 i ps d)
  | none => .bad
def ixK (i : Nat) (ps : Path) (m2 : EM) : D → List D → Res Fl := fun d ρ1 => ixO i ps m2 d ρ1 (lstP i ps ρ1)
@[simp] theorem ixSt_e {ps : Path} {m1 m2 : EM} : ixSt i ps m1 m2 ρ = (m1 ρ).bind (ixK i ps m2) := by
  unfold ixSt
  congr 1
  funext d ρ1
  unfold ixK ixO
  cases lstP i ps ρ1 with
  | none => rfl
  | some p =>
    dsimp only
    congr 1
    funext k ρ2
    unfold ixK2 ixO2
    cases lstP i ps ρ2 with
    | none => cases k <;> rfl
    | some p => cases k <;> first | rfl | (dsimp only; unfold ixO3; rfl)
@[simp] theorem ixK_e {ps : Path} {m2 : EM} : ixK i ps m2 d ρ = ixO i ps m2 d ρ (lstP i ps ρ) := (Eq.refl _).trans rfl
@[simp] theorem ixO_s {ps : Path} {m2 : EM} {p : D × List D} : ixO i ps m2 d ρ (some p) = (m2 ρ).bind (ixK2 i ps d) := (Eq.refl _).trans rfl
@[simp] theorem ixK2_e {ps : Path} {k : D} : ixK2 i ps d k ρ = ixO2 i ps d k ρ (lstP i ps ρ) := (Eq.refl _).trans rfl
@[simp] theorem ixO2_s {ps : Path} {k : Int} {d0 : D} {ds : List D} : ixO2 i ps d (.int k) ρ (some (d0, ds)) = ixO3 i ps ρ d d0 ds (ixN ds.length k) := (Eq.refl _).trans rfl
@[simp] theorem ixO3_s {ps : Path} {j : Nat} {d0 : D} {ds : List D} : ixO3 i ps ρ d d0 ds (some j) = .ok .nx (ρ.set i (putP d0 ps (.lst true (ds.set j d)))) := (Eq.refl _).trans rfl
def fldO2 (i : Nat) (ps : Path) (c f : Str) (d d0 : D) (ρ1 : List D) : Option D → Res Fl
  | some (.obj true c' ns ds) => if c' = c ∧ ns.length < 1000 then .ok .nx (ρ1.set i (putP d0 ps (.obj true c (fldPut f d ns ds).1 (fldPut f d ns ds).2))) else .bad
  | _ => .bad
def fldO (i : Nat) (ps : Path) (c f : Str) (d : D) (ρ1 : List D) : Option D → Res Fl
  | some d0 => fldO2 i ps c f d d0 ρ1 (getP d0 ps)
  | none => .bad
def fldK (i : Nat) (ps : Path) (c f : Str) : D → List D → Res Fl := fun d ρ1 => fldO i ps c f d ρ1 ρ1[i]?
@[simp] theorem stFld_e {ps : Path} {c f : Str} {m : EM} : stFld i ps c f m ρ = (m ρ).bind (fldK i ps c f) := by
  unfold stFld
  congr 1
@[simp] theorem fldK_e {ps : Path} {c f : Str} : fldK i ps c f d ρ = fldO i ps c f d ρ ρ[i]? := (Eq.refl _).trans rfl
@[simp] theorem fldO_s {ps : Path} {c f : Str} {d0 : D} : fldO i ps c f d ρ (some d0) = fldO2 i ps c f d d0 ρ (getP d0 ps) := (Eq.refl _).trans rfl
@[simp] theorem fldO2_s {ps : Path} {c f : Str} {d0 : D} {ns : List Str} {ds : List D} (h : ns.length < 1000) : fldO2 i ps c f d d0 ρ (some (.obj true c ns ds)) = .ok .nx (ρ.set i (putP d0 ps (.obj true c (fldPut f d ns ds).1 (fldPut f d ns ds).2))) := if_pos ⟨rfl, h⟩
def chnK3 (g : Int → Int → Bool) (j : Int) : D → List D → Res D := fun d3 ρ3 => match d3 with
  | .int k => .ok (.bl (g j k)) ρ3
  | _ => .bad
def chnB (g : Int → Int → Bool) (mc : EM) (j : Int) (ρ : List D) : Bool → Res D
  | true => (mc ρ).bind (chnK3 g j)
  | false => .ok (.bl false) ρ
def chnK2 (f g : Int → Int → Bool) (mc : EM) (d1 : D) : D → List D → Res D := fun d2 ρ2 => match d1, d2 with
  | .int i, .int j => chnB g mc j ρ2 (f i j)
  | _, _ => .bad
def chnK (f g : Int → Int → Bool) (mb mc : EM) : D → List D → Res D := fun d1 ρ1 => (mb ρ1).bind (chnK2 f g mc d1)
@[simp] theorem chnM_e {f g : Int → Int → Bool} {ma mb mc : EM} : chnM f g ma mb mc ρ = (ma ρ).bind (chnK f g mb mc) := by
  unfold chnM
  congr 1
  funext d1 ρ1
  unfold chnK
  congr 1
  funext d2 ρ2
  unfold chnK2
  cases d1 <;> first | rfl | (cases d2 <;> first | rfl | (dsimp only; unfold chnB; split <;> rename_i h <;> simp [h] <;> rfl))
@[simp] theorem chnK_e {f g : Int → Int → Bool} {mb mc : EM} : chnK f g mb mc d ρ = (mb ρ).bind (chnK2 f g mc d) := (Eq.refl _).trans rfl
@[simp] theorem chnK2_e {f g : Int → Int → Bool} {mc : EM} {i j : Int} : chnK2 f g mc (.int i) (.int j) ρ = chnB g mc j ρ (f i j) := (Eq.refl _).trans rfl
@[simp] theorem chnB_t {g : Int → Int → Bool} {mc : EM} {j : Int} : chnB g mc j ρ true = (mc ρ).bind (chnK3 g j) := (Eq.refl _).trans rfl
@[simp] theorem chnB_f {g : Int → Int → Bool} {mc : EM} {j : Int} : chnB g mc j ρ false = .ok (.bl false) ρ := (Eq.refl _).trans rfl
@[simp] theorem chnK3_e {g : Int → Int → Bool} {j k : Int} : chnK3 g j (.int k) ρ = .ok (.bl (g j k)) ρ := (Eq.refl _).trans rfl

def partK : D → List D → Res (Option Int) := fun d ρ1 => match d with
  | .int i => .ok (some i) ρ1
  | _ => .bad
@[simp] theorem partK_e {i : Int} : partK (.int i) ρ = .ok (some i) ρ := (Eq.refl _).trans rfl
@[simp] theorem partM_e {m : EM} : partM m ρ = (m ρ).bind partK := (Eq.refl _).trans rfl
def slK3 (l : Option Int) : Option Int → List D → Res (Option Int × Option Int) := fun u ρ3 => .ok (l, u) ρ3
def slK2 (ph : M (Option Int)) : Option Int → List D → Res (Option Int × Option Int) := fun l ρ2 => (ph ρ2).bind (slK3 l)
def slE (d : D) : Option Int × Option Int → List D → Res D := fun b ρ2 => Res.of (slD d b) ρ2
def slK (pl ph : M (Option Int)) : D → List D → Res D := fun d ρ1 => ((pl ρ1).bind (slK2 ph)).bind (slE d)
@[simp] theorem slM_e {m : EM} {pl ph : M (Option Int)} : slM m pl ph ρ = (m ρ).bind (slK pl ph) := (Eq.refl _).trans rfl
@[simp] theorem slK_e {pl ph : M (Option Int)} : slK pl ph d ρ = ((pl ρ).bind (slK2 ph)).bind (slE d) := (Eq.refl _).trans rfl
@[simp] theorem slK2_e {ph : M (Option Int)} {l : Option Int} : slK2 ph l ρ = (ph ρ).bind (slK3 l) := (Eq.refl _).trans rfl
@[simp] theorem slK3_e {l u : Option Int} : slK3 l u ρ = .ok (l, u) ρ := (Eq.refl _).trans rfl
@[simp] theorem slE_e {p : Option Int × Option Int} : slE d p ρ = Res.of (slD d p) ρ := (Eq.refl _).trans rfl
@[simp] theorem tgN_e : tgN i d ρ = if i < ρ.length then some (ρ.set i d) else none := (Eq.refl _).trans rfl
@[simp] theorem tgNil_e : tgNil [] ρ = some ρ := (Eq.refl _).trans rfl
@[simp] theorem tgCons_e {g : D → List D → Option (List D)} {gs : List D → List D → Option (List D)} {ds : List D} : tgCons g gs (d :: ds) ρ = (g d ρ).bind (gs ds) := (Eq.refl _).trans rfl
@[simp] theorem tgTup_e {gs : List D → List D → Option (List D)} {ds : List D} : tgTup n gs (.tup ds) ρ = if ds.length = n then gs ds ρ else none := (Eq.refl _).trans rfl
/-! a call -/
def post4 (ρo : Option (List D)) (f : List D → Res D) : Res D := match ρo with
  | some ρ3 => f ρ3
  | none => .bad
def post3 (ks : List AK) (ρ2 : List D) : Res D → Res D
  | .ok d es => post4 (putK ks es ρ2) (.ok d)
  | .ex z es => post4 (putK ks es ρ2) (.ex z)
  | .bad => .bad
def post2 (n : Nat) (ks : List AK) (fm : FM) : Option (List D × List D) → Res D
  | some (ds', ρ2) => if ds'.length = n then post3 ks ρ2 (fm ds') else .bad
  | none => .bad
def callK (n : Nat) (ks : List AK) (fm : FM) : List D → List D → Res D := fun ds ρ1 => post2 n ks fm (takeK ks ds ρ1)
theorem postM_e {ks : List AK} {fm : FM} {ds : List D} : postM n ks fm ds ρ = post2 n ks fm (takeK ks ds ρ) := by
  unfold postM post2 post3 post4
  cases takeK ks ds ρ with
  | none => rfl
  | some p => first
    | rfl
    | (dsimp only
       split
       · cases fm p.1 <;> rfl
       · rfl)
@[simp] theorem callM_e {ks : List AK} {fm : FM} {ms : M (List D)} : callM n ks fm ms ρ = (ms ρ).bind (callK n ks fm) := by
  rfl
@[simp] theorem callK_e {ks : List AK} {fm : FM} {ds : List D} : callK n ks fm ds ρ = post2 n ks fm (takeK ks ds ρ) := (Eq.refl _).trans rfl
@[simp] theorem post2_e {ks : List AK} {fm : FM} {ds : List D} (h : ds.length = n) : post2 n ks fm (some (ds, ρ)) = post3 ks ρ (fm ds) := if_pos h
@[simp] theorem post3_ok {ks : List AK} {es : List D} : post3 ks ρ (.ok d es) = post4 (putK ks es ρ) (.ok d) := (Eq.refl _).trans rfl
@[simp] theorem post3_ex {ks : List AK} {es : List D} {z : Str} : post3 ks ρ (.ex z es) = post4 (putK ks es ρ) (.ex z) := (Eq.refl _).trans rfl
@[simp] theorem post4_s {f : List D → Res D} : post4 (some ρ) f = f ρ := (Eq.refl _).trans rfl
@[simp] theorem takeK_n {ds : List D} : takeK [] ds ρ = some ([], ρ) := by cases ds <;> rfl
@[simp] theorem takeK_t {ks : List AK} {ds : List D} : takeK (.tmp :: ks) (d :: ds) ρ = (takeK ks ds ρ).map fun p => (d :: p.1, p.2) := (Eq.refl _).trans rfl
@[simp] theorem takeK_p {ks : List AK} {ps : Path} {ds : List D} : takeK (.plc i ps :: ks) ds ρ = (ρ[i]?).bind fun d0 => (getP d0 ps).bind fun c => if has? c then (takeK ks ds (ρ.set i (putP d0 ps .un))).map fun p => (c :: p.1, p.2) else none := by cases ds <;> rfl
@[simp] theorem putK_n {es : List D} : putK [] es ρ = some ρ := by cases es <;> rfl
@[simp] theorem putK_t {ks : List AK} {es : List D} : putK (.tmp :: ks) (d :: es) ρ = putK ks es ρ := (Eq.refl _).trans rfl
@[simp] theorem putK_p {ks : List AK} {ps : Path} {es : List D} : putK (.plc i ps :: ks) (d :: es) ρ = (putK ks es ρ).bind fun ρ' => (ρ'[i]?).bind fun d0 => if (getP d0 ps).isSome then some (ρ'.set i (putP d0 ps d)) else none := (Eq.refl _).trans rfl
/-! a new object -/
def new3 (ks : List AK) (ρ2 : List D) : Res D → Res D
  | .ok .non (d :: es) => post4 (putK ks es ρ2) (.ok d)
  | .ex z (_ :: es) => post4 (putK ks es ρ2) (.ex z)
  | _ => .bad
def new2 (n : Nat) (c : Str) (ks : List AK) (fm : FM) : Option (List D × List D) → Res D
  | some (ds', ρ2) => if ds'.length + 1 = n then new3 ks ρ2 (fm (.obj true c [] [] :: ds')) else .bad
  | none => .bad
def newK (n : Nat) (c : Str) (ks : List AK) (fm : FM) : List D → List D → Res D := fun ds ρ1 => new2 n c ks fm (takeK ks ds ρ1)
@[simp] theorem newM_e {c : Str} {ks : List AK} {fm : FM} {ms : M (List D)} : newM n c ks fm ms ρ = (ms ρ).bind (newK n c ks fm) := by
  unfold newM
  rfl
@[simp] theorem newK_e {c : Str} {ks : List AK} {fm : FM} {ds : List D} : newK n c ks fm ds ρ = new2 n c ks fm (takeK ks ds ρ) := (Eq.refl _).trans rfl
@[simp] theorem new2_e {c : Str} {ks : List AK} {fm : FM} {ds : List D} (h : ds.length + 1 = n) : new2 n c ks fm (some (ds, ρ)) = new3 ks ρ (fm (.obj true c [] [] :: ds)) := if_pos h
@[simp] theorem new3_ok {ks : List AK} {es : List D} : new3 ks ρ (.ok .non (d :: es)) = post4 (putK ks es ρ) (.ok d) := (Eq.refl _).trans rfl
@[simp] theorem new3_ex {ks : List AK} {es : List D} {z : Str} : new3 ks ρ (.ex z (d :: es)) = post4 (putK ks es ρ) (.ex z) := (Eq.refl _).trans rfl
/-! a def -/
def fnEnd (n : Nat) (SA : List Nat) : Res Fl → Res D
  | .ok (.ret d) ρ => .ok d (fin SA 0 (ρ.take n))
  | .ok .nx ρ => .ok .non (fin SA 0 (ρ.take n))
  | .ex z ρ => .ex z (fin SA 0 (ρ.take n))
  | _ => .bad
theorem fnM_e {SA : List Nat} {b : SM} {ds : List D} (h : ds.length = n) : fnM n N SA b ds = fnEnd n SA (b (ds ++ List.replicate (N - n) .un)) := by
  unfold fnM fnEnd
  rw [if_pos h] <;> rfl
@[simp] theorem fnEnd_ret {SA : List Nat} : fnEnd n SA (.ok (.ret d) ρ) = .ok d (fin SA 0 (ρ.take n)) := (Eq.refl _).trans rfl
@[simp] theorem fnEnd_nx {SA : List Nat} : fnEnd n SA (.ok .nx ρ) = .ok .non (fin SA 0 (ρ.take n)) := (Eq.refl _).trans rfl
@[simp] theorem fnEnd_ex {SA : List Nat} {z : Str} : fnEnd n SA (.ex z ρ) = .ex z (fin SA 0 (ρ.take n)) := (Eq.refl _).trans rfl
@[simp] theorem fin_n {SA : List Nat} {j : Nat} : fin SA j [] = [] := (Eq.refl _).trans rfl
@[simp] theorem fin_c {SA : List Nat} {j : Nat} {ds : List D} : fin SA j (d :: ds) = (if SA.contains j then .un else d) :: fin SA (j + 1) ds := (Eq.refl _).trans rfl
/-! try -/
def tryE (i : Nat) : Res Fl → Res Fl
  | .ex z ρ1 => if i < ρ1.length then .ok (.ret (.str z)) ρ1 else .bad
  | r => r
@[simp] theorem tryM_e {m : SM} : tryM i m ρ = tryE i (m ρ) := by unfold tryM tryE; rfl
@[simp] theorem tryE_ok {f : Fl} : tryE i (.ok f ρ) = .ok f ρ := (Eq.refl _).trans rfl
@[simp] theorem tryE_ex {z : Str} (h : i < ρ.length) : tryE i (.ex z ρ) = .ok (.ret (.str z)) ρ := if_pos h
/-! loops -/
@[simp] theorem forM_n {g : D → List D → Option (List D)} {b : SM} : forM g b [] ρ = .ok .nx ρ := (Eq.refl _).trans rfl
/-- behind a turn -/
def turnK (k : List D → Res Fl) : Fl → List D → Res Fl := fun f ρ2 => match f with
    | .nx => k ρ2
    | .ct => k ρ2
    | .bk => .ok .nx ρ2
    | .ret d => .ok (.ret d) ρ2
def forO (g : D → List D → Option (List D)) (b : SM) (ds : List D) : Option (List D) → Res Fl
  | some ρ1 => (b ρ1).bind (turnK (forM g b ds))
  | none => .bad
theorem forM_c {g : D → List D → Option (List D)} {b : SM} {ds : List D} : forM g b (d :: ds) ρ = forO g b ds (g d ρ) := by
  rw [forM]
  unfold forO
  cases g d ρ <;> rfl
@[simp] theorem forO_s {g : D → List D → Option (List D)} {b : SM} {ds : List D} : forO g b ds (some ρ) = (b ρ).bind (turnK (forM g b ds)) := (Eq.refl _).trans rfl
@[simp] theorem turnK_nx {k : List D → Res Fl} : turnK k .nx ρ = k ρ := (Eq.refl _).trans rfl
@[simp] theorem turnK_ct {k : List D → Res Fl} : turnK k .ct ρ = k ρ := (Eq.refl _).trans rfl
@[simp] theorem turnK_bk {k : List D → Res Fl} : turnK k .bk ρ = .ok .nx ρ := (Eq.refl _).trans rfl
@[simp] theorem turnK_ret {k : List D → Res Fl} : turnK k (.ret d) ρ = .ok (.ret d) ρ := (Eq.refl _).trans rfl
@[simp] theorem lcLoop_n {vs : List Nat} {g : D → List D → Option (List D)} {t : M Bool} {m : EM} {acc : List D} : lcLoop vs g t m [] acc ρ = .ok acc ρ := (Eq.refl _).trans rfl
/-- a comprehension's turn: none (left out), or the item; and the slots behind it -/
def lcY (vs : List Nat) : D → List D → Res (Option D) := fun y ρ3 => .ok (some y) (wipeD vs ρ3)
def lcT (vs : List Nat) (m : EM) : Bool → List D → Res (Option D) := fun c ρ2 => if c = true then (m ρ2).bind (lcY vs) else .ok none (wipeD vs ρ2)
def lcO (vs : List Nat) (t : M Bool) (m : EM) : Option (List D) → Res (Option D)
  | some ρ1 => (t ρ1).bind (lcT vs m)
  | none => .bad
@[simp] theorem lcY_e {vs : List Nat} : lcY vs d ρ = .ok (some d) (wipeD vs ρ) := (Eq.refl _).trans rfl
@[simp] theorem lcT_t {vs : List Nat} {m : EM} : lcT vs m true ρ = (m ρ).bind (lcY vs) := (Eq.refl _).trans rfl
@[simp] theorem lcT_f {vs : List Nat} {m : EM} : lcT vs m false ρ = .ok none (wipeD vs ρ) := (Eq.refl _).trans rfl
@[simp] theorem lcO_s {vs : List Nat} {t : M Bool} {m : EM} : lcO vs t m (some ρ) = (t ρ).bind (lcT vs m) := (Eq.refl _).trans rfl
theorem lcLoop_c {vs : List Nat} {g : D → List D → Option (List D)} {t : M Bool} {m : EM} {ds acc : List D} {o : Option D} (h : lcO vs t m (g d ρ) = .ok o ρ') (ha : acc.length < big) :
    lcLoop vs g t m (d :: ds) acc ρ = lcLoop vs g t m ds (acc ++ o.toList) ρ' := by
  rw [lcLoop]
  cases e1 : g d ρ with
  | none => rw [e1] at h; cases h
  | some ρ1 =>
    rw [e1, lcO_s] at h
    dsimp only
    cases e2 : t ρ1 with
    | bad => rw [e2] at h; cases h
    | ex z r => rw [e2] at h; cases h
    | ok c ρ2 =>
      rw [e2] at h
      simp only [Res.bind_ok] at h
      cases c with
      | false =>
        rw [lcT_f] at h
        cases h
        simp
      | true =>
        rw [lcT_t] at h
        dsimp only
        cases e3 : m ρ2 with
        | bad => rw [e3] at h; cases h
        | ex z r => rw [e3] at h; cases h
        | ok y ρ3 =>
          rw [e3] at h
          simp only [Res.bind_ok, lcY_e] at h
          cases h
          simp [ha]
end
/-! ### what is wanted of an end -/
section
variable {α β : Type} {ρ : List D} {P : α → List D → Prop}
/-- it ends well, and so -/
def Vl (r : Res α) (P : α → List D → Prop) : Prop := ∃ a ρ, r = .ok a ρ ∧ P a ρ
def GO (o : Option α) (P : α → Prop) : Prop := ∃ a, o = some a ∧ P a
@[simp] theorem Vl_ok {a : α} : Vl (.ok a ρ) P ↔ P a ρ := ⟨fun ⟨_, _, e, h⟩ => by cases e; exact h, fun h => ⟨_, _, rfl, h⟩⟩
@[simp] theorem Vl_bad : Vl (.bad : Res α) P ↔ False := ⟨fun h => (by obtain ⟨_, _, e, _⟩ := h; cases e), False.elim⟩
@[simp] theorem Vl_ex {z : Str} : Vl (.ex z ρ : Res α) P ↔ False := ⟨fun h => (by obtain ⟨_, _, e, _⟩ := h; cases e), False.elim⟩
@[simp] theorem GO_s {a : α} {P : α → Prop} : GO (some a) P ↔ P a := ⟨fun ⟨_, e, h⟩ => by cases e; exact h, fun h => ⟨_, rfl, h⟩⟩
@[simp] theorem Vl_bind {r : Res β} {f : β → List D → Res α} : Vl (r.bind f) P ↔ Vl r (fun b ρ => Vl (f b ρ) P) := by
  cases r with
  | ok b ρ' => simp
  | ex z ρ' => simp [Vl]
  | bad => simp [Vl]
theorem Vl.imp {r : Res α} {P Q : α → List D → Prop} (h : Vl r P) (i : ∀ a ρ, P a ρ → Q a ρ) : Vl r Q := by
  obtain ⟨a, ρ, e, h⟩ := h
  exact ⟨a, ρ, e, i _ _ h⟩
/-- behind a body -/
def FE (n : Nat) (SA : List Nat) (P : D → List D → Prop) : Fl → List D → Prop
  | .ret d, ρ => P d (fin SA 0 (ρ.take n))
  | .nx, ρ => P .non (fin SA 0 (ρ.take n))
  | _, _ => False
@[simp] theorem FE_ret {n : Nat} {SA : List Nat} {P : D → List D → Prop} {d : D} : FE n SA P (.ret d) ρ ↔ P d (fin SA 0 (ρ.take n)) := Iff.trans .rfl .rfl
@[simp] theorem FE_nx {n : Nat} {SA : List Nat} {P : D → List D → Prop} : FE n SA P .nx ρ ↔ P .non (fin SA 0 (ρ.take n)) := Iff.trans .rfl .rfl
@[simp] theorem Vl_fnEnd {n : Nat} {SA : List Nat} {P : D → List D → Prop} {r : Res Fl} : Vl (fnEnd n SA r) P ↔ Vl r (FE n SA P) := by
  cases r with
  | ok f ρ' => cases f <;> simp [fnEnd, FE]
  | ex z ρ' => simp
  | bad => simp [fnEnd]
theorem Vl_iteK {a b : M α} {c : Bool} (h1 : c = true → Vl (a ρ) P) (h2 : c = false → Vl (b ρ) P) : Vl (iteK a b c ρ) P := by
  cases c with
  | true => simp; exact h1 rfl
  | false => simp; exact h2 rfl
/-- a call, by what is known of the def -/
theorem Vl_call {ks : List AK} {r : Res D} {Q P : D → List D → Prop} (h : Vl r Q) (k : ∀ d es, Q d es → Vl (post4 (putK ks es ρ) (.ok d)) P) : Vl (post3 ks ρ r) P := by
  obtain ⟨d, es, rfl, h⟩ := h
  rw [post3_ok]
  exact k d es h
theorem Vl_new {ks : List AK} {r : Res D} {Q P : D → List D → Prop} (h : Vl r Q) (k : ∀ d es, Q d es → d = .non ∧ ∃ x xs, es = x :: xs ∧ Vl (post4 (putK ks xs ρ) (.ok x)) P) : Vl (new3 ks ρ r) P := by
  obtain ⟨d, es, rfl, h⟩ := h
  obtain ⟨rfl, x, xs, rfl, q⟩ := k d es h
  rw [new3_ok]
  exact q
def StP (I : List D → Prop) (P : Fl → List D → Prop) : Fl → List D → Prop
  | .nx, ρ => I ρ
  | .ct, ρ => I ρ
  | .bk, ρ => P .nx ρ
  | .ret d, ρ => P (.ret d) ρ
@[simp] theorem StP_nx {I : List D → Prop} {P : Fl → List D → Prop} : StP I P .nx ρ ↔ I ρ := .rfl
@[simp] theorem StP_ct {I : List D → Prop} {P : Fl → List D → Prop} : StP I P .ct ρ ↔ I ρ := .rfl
@[simp] theorem StP_bk {I : List D → Prop} {P : Fl → List D → Prop} : StP I P .bk ρ ↔ P .nx ρ := .rfl
@[simp] theorem StP_ret {d : D} {I : List D → Prop} {P : Fl → List D → Prop} : StP I P (.ret d) ρ ↔ P (.ret d) ρ := .rfl
theorem Vl_for {g : D → List D → Option (List D)} {b : SM} {P : Fl → List D → Prop} : ∀ {ds : List D} (I : Nat → List D → Prop) {ρ : List D}, I 0 ρ →
    (∀ i d ρ, ds[i]? = some d → I i ρ → GO (g d ρ) fun ρ1 => Vl (b ρ1) (StP (I (i + 1)) P)) → (∀ ρ, I ds.length ρ → P .nx ρ) → Vl (forM g b ds ρ) P
  | [], I, ρ, h0, _, he => ⟨_, _, rfl, he _ h0⟩
  | d :: ds, I, ρ, h0, hs, he => by
    obtain ⟨ρ1, e1, f, ρ2, e2, h⟩ := hs 0 d ρ rfl h0
    rw [forM_c, e1, forO_s, e2, Res.bind_ok]
    have hI : I 1 ρ2 → Vl (forM g b ds ρ2) P := fun h => Vl_for (fun i => I (i + 1)) h (fun i d ρ e hi => hs (i + 1) d ρ e hi) he
    cases f with
    | nx => rw [turnK_nx]; exact hI h
    | ct => rw [turnK_ct]; exact hI h
    | bk => rw [turnK_bk]; exact Vl_ok.mpr h
    | ret d => rw [turnK_ret]; exact Vl_ok.mpr h
theorem Vl_lc {vs : List Nat} {g : D → List D → Option (List D)} {t : M Bool} {m : EM} {P : List D → List D → Prop} : ∀ {ds acc : List D} (I : Nat → List D → List D → Prop) {ρ : List D}, I 0 acc ρ →
    (∀ i d acc ρ, ds[i]? = some d → I i acc ρ → acc.length < big ∧ GO (g d ρ) fun ρ1 => Vl (t ρ1) fun c ρ2 => (c = true → Vl (m ρ2) fun y ρ3 => I (i + 1) (acc ++ [y]) (wipeD vs ρ3)) ∧ (c = false → I (i + 1) acc (wipeD vs ρ2))) →
    (∀ acc ρ, I ds.length acc ρ → P acc ρ) → Vl (lcLoop vs g t m ds acc ρ) P
  | [], acc, I, ρ, h0, _, he => ⟨_, _, rfl, he _ _ h0⟩
  | d :: ds, acc, I, ρ, h0, hs, he => by
    obtain ⟨hb, ρ1, e1, c, ρ2, e2, h1, h2⟩ := hs 0 d acc ρ rfl h0
    cases c with
    | false =>
      rw [lcLoop_c (o := none) (ρ' := wipeD vs ρ2) (by rw [e1, lcO_s, e2, Res.bind_ok, lcT_f]) hb]
      simp only [Option.toList, List.append_nil]
      exact Vl_lc (fun i => I (i + 1)) (h2 rfl) (fun i d acc ρ e hi => hs (i + 1) d acc ρ e hi) he
    | true =>
      obtain ⟨y, ρ3, e3, h3⟩ := h1 rfl
      rw [lcLoop_c (o := some y) (ρ' := wipeD vs ρ3) (by rw [e1, lcO_s, e2, Res.bind_ok, lcT_t, e3, Res.bind_ok, lcY_e]) hb]
      exact Vl_lc (fun i => I (i + 1)) h3 (fun i d acc ρ e hi => hs (i + 1) d acc ρ e hi) he
/-- a comprehension that leaves the slots as they are: the items' list -/
theorem lc_map {τ : Type} {vs : List Nat} {g : D → List D → Option (List D)} {t : M Bool} {m : EM} {enc : τ → D} {p : τ → Bool} {f : τ → D} {ρ : List D}
    (h : ∀ x, lcO vs t m (g (enc x) ρ) = .ok (if p x = true then some (f x) else none) ρ) : ∀ (xs : List τ) (acc : List D), acc.length + xs.length ≤ big →
    lcLoop vs g t m (xs.map enc) acc ρ = .ok (acc ++ (xs.filter p).map f) ρ
  | [], acc, _ => by simp
  | x :: xs, acc, hb => by
    simp only [List.length_cons] at hb
    rw [List.map_cons, lcLoop_c (h x) (by omega)]
    by_cases c : p x = true
    · rw [if_pos c, lc_map h xs _ (by simp; omega)]
      simp [c]
    · rw [if_neg c, lc_map h xs _ (by simp; omega)]
      simp [c]
theorem lc_all {vs : List Nat} {g : D → List D → Option (List D)} {t : M Bool} {m : EM} {f : D → D} {ρ : List D} : ∀ {ds acc : List D}, (∀ d ∈ ds, lcO vs t m (g d ρ) = .ok (some (f d)) ρ) → acc.length + ds.length ≤ big →
    lcLoop vs g t m ds acc ρ = .ok (acc ++ ds.map f) ρ
  | [], acc, _, _ => by simp
  | d :: ds, acc, h, hb => by
    simp only [List.length_cons] at hb
    rw [lcLoop_c (h d (by simp)) (by omega), lc_all (fun d hd => h d (by simp [hd])) (by simp; omega)]
    simp
theorem hide {α : Sort _} (x : α) : ∃ y, y = x := ⟨x, rfl⟩
theorem rangeD_get {lo : Int} {n i : Nat} {d : D} (h : (rangeD lo n)[i]? = some d) : d = .int (lo + i) ∧ i < n := by
  unfold rangeD at h
  rw [List.getElem?_map] at h
  cases e : (List.range n)[i]? with
  | none => rw [e] at h; cases h
  | some k =>
    rw [e] at h
    cases h
    rw [List.getElem?_eq_some_iff] at e
    obtain ⟨h1, h2⟩ := e
    simp at h1 h2
    exact ⟨by rw [← h2], h1⟩
@[simp] theorem rangeD_len {lo : Int} {n : Nat} : (rangeD lo n).length = n := by simp [rangeD]
end
/-- a loop that carries a state -/
theorem forM_fold {σ τ : Type} {g : D → List D → Option (List D)} {b : SM} (enc : τ → D) (S : σ → List D) (step : σ → τ → σ)
    (h : ∀ s x, ∃ ρ1, g (enc x) (S s) = some ρ1 ∧ b ρ1 = .ok .nx (S (step s x))) : ∀ (xs : List τ) (s : σ), forM g b (xs.map enc) (S s) = .ok .nx (S (xs.foldl step s))
  | [], s => rfl
  | x :: xs, s => by
    obtain ⟨ρ1, e1, e2⟩ := h s x
    rw [List.map_cons, forM_c, e1, forO_s, e2]
    exact forM_fold enc S step h xs _
end VS
set_option Elab.async false
set_option linter.all false
set_option maxRecDepth 100000
set_option maxHeartbeats 4000000
/-! PL1: how methods, places looked at, field targets are reckoned. -/
namespace VS
open PySem PySem.Spec PyProof.Rows L2
section
variable {ρ : List D} {d a b : D} {i n : Nat} {ps : Path} {c m : Str} {ks : List AK} {fm : FM} {ms : M (List D)} {ns : List Str} {ds : List D} {e : EM} {mm : Bool} {x y : Int} {p q neg : Bool}
def objO (c m : Str) : Option D → Bool
  | some (.obj true c' ns _) => decide (c' = c) && !ns.contains m
  | _ => false
def methO (n : Nat) (i : Nat) (ps : Path) (ks : List AK) (fm : FM) (ms : M (List D)) (ρ : List D) : Bool → Res D
  | true => callM n (.plc i ps :: ks) fm (plcM i ps ms) ρ
  | false => .bad
theorem objAt_e : objAt i ps c m ρ = objO c m ((ρ[i]?).bind (getP · ps)) := by
  unfold objAt objO
  cases (ρ[i]?).bind (getP · ps) with
  | none => rfl
  | some d => cases d <;> first | rfl | (rename_i f _ _ _; cases f <;> rfl)
@[simp] theorem methM_e : methM n c m i ps ks fm ms ρ = methO n i ps ks fm ms ρ (objO c m ((ρ[i]?).bind (getP · ps))) := by
  rw [← objAt_e]
  unfold methM methO
  cases objAt i ps c m ρ <;> rfl
@[simp] theorem methO_t : methO n i ps ks fm ms ρ true = callM n (.plc i ps :: ks) fm (plcM i ps ms) ρ := (Eq.refl _).trans rfl
@[simp] theorem objO_s : objO c m (some (.obj true c ns ds)) = !ns.contains m := by simp [objO]
def pkO : Option D → Option D
  | some d => if has? d = true then some d else none
  | none => none
@[simp] theorem pkD_e : pkD i ps ρ = pkO ((ρ[i]?).bind (getP · ps)) := (Eq.refl _).trans rfl
@[simp] theorem pkO_s (h : has? d = true) : pkO (some d) = some d := if_pos h
@[simp] theorem pkM_e {f : D → Option D} : pkM f i ps ρ = Res.of ((pkD i ps ρ).bind f) ρ := (Eq.refl _).trans rfl
@[simp] theorem pkL_l (h : pures? ds = true) : pkL (.lst mm ds) = some (.lst true ds) := by simp [pkL, h]
@[simp] theorem pkL_t (h : pures? ds = true) : pkL (.tup ds) = some (.lst true ds) := by simp [pkL, h]
@[simp] theorem pkT_l (h : pures? ds = true) : pkT (.lst mm ds) = some (.tup ds) := by simp [pkT, h]
def ixpK (d : D) : D → List D → Res D := fun k ρ1 => Res.of ((ixD d k).bind fun z => if pure? z = true then some z else none) ρ1
def ixpO (m : EM) (ρ : List D) : Option D → Res D
  | some d => (m ρ).bind (ixpK d)
  | none => .bad
@[simp] theorem ixPM_e : ixPM i ps e ρ = ixpO e ρ (pkD i ps ρ) := by unfold ixPM ixpO; cases pkD i ps ρ <;> rfl
@[simp] theorem ixpO_s : ixpO e ρ (some d) = (e ρ).bind (ixpK d) := (Eq.refl _).trans rfl
@[simp] theorem ixpK_e : ixpK d a ρ = Res.of ((ixD d a).bind fun z => if pure? z = true then some z else none) ρ := (Eq.refl _).trans rfl
def inpK (neg : Bool) (i : Nat) (ps : Path) : D → List D → Res D := fun d1 ρ1 => Res.of ((pkD i ps ρ1).bind fun d => inP neg d1 d) ρ1
@[simp] theorem inPM_e : inPM neg e i ps ρ = (e ρ).bind (inpK neg i ps) := (Eq.refl _).trans rfl
@[simp] theorem inpK_e : inpK neg i ps d ρ = Res.of ((pkD i ps ρ).bind fun c => inP neg d c) ρ := (Eq.refl _).trans rfl
def asgXK (g : D → List D → Option (List D)) : D → List D → Res Fl := fun d ρ1 => if pure? d = true then (Res.of (g d ρ1) ρ1).bind fun ρ2 _ => .ok .nx ρ2 else .bad
@[simp] theorem asgX_e {g : D → List D → Option (List D)} : asgX g e ρ = (e ρ).bind (asgXK g) := (Eq.refl _).trans rfl
@[simp] theorem asgXK_e {g : D → List D → Option (List D)} (h : pure? d = true) : asgXK g d ρ = asgO ρ (g d ρ) := by unfold asgXK asgO; rw [if_pos h]; cases g d ρ <;> rfl
@[simp] theorem tgTupX_e {gs : List D → List D → Option (List D)} : tgTupX n gs (.tup ds) ρ = if ds.length = n then gs ds ρ else none := (Eq.refl _).trans rfl
def tgFO2 (i : Nat) (ps : Path) (c f : Str) (d d0 : D) (ρ : List D) : Option D → Option (List D)
  | some (.obj true c' ns ds) => if c' = c ∧ ns.length < 1000 then some (ρ.set i (putP d0 ps (.obj true c (fldPut f d ns ds).1 (fldPut f d ns ds).2))) else none
  | _ => none
def tgFO (i : Nat) (ps : Path) (c f : Str) (d : D) (ρ : List D) : Option D → Option (List D)
  | some d0 => tgFO2 i ps c f d d0 ρ (getP d0 ps)
  | none => none
@[simp] theorem tgF_e {f : Str} : tgF i ps c f d ρ = tgFO i ps c f d ρ ρ[i]? := by
  unfold tgF tgFO tgFO2
  cases ρ[i]? with
  | none => rfl
  | some d0 => rfl
@[simp] theorem tgFO_s {f : Str} {d0 : D} : tgFO i ps c f d ρ (some d0) = tgFO2 i ps c f d d0 ρ (getP d0 ps) := (Eq.refl _).trans rfl
@[simp] theorem tgFO2_s {f : Str} {d0 : D} (h : ns.length < 1000) : tgFO2 i ps c f d d0 ρ (some (.obj true c ns ds)) = some (ρ.set i (putP d0 ps (.obj true c (fldPut f d ns ds).1 (fldPut f d ns ds).2))) := if_pos ⟨rfl, h⟩
@[simp] theorem addI_e : addI (.int x) (.int y) = some (.int (x + y)) := (Eq.refl _).trans rfl
@[simp] theorem insF_e (h0 : 0 ≤ x) (h1 : x < 1000000) (h2 : ds.length < big) : insF ds [.int x, d] = some (.non, ds.take x.toNat ++ [d] ++ ds.drop x.toNat) := if_pos ⟨h0, h1, h2⟩
@[simp] theorem isBD_f : isBD false (.bl p) (.bl q) = some (.bl (decide (p = q))) := (Eq.refl _).trans rfl
@[simp] theorem isBD_t : isBD true (.bl p) (.bl q) = some (.bl (!decide (p = q))) := (Eq.refl _).trans rfl
@[simp] theorem shrD_e (h : 0 ≤ y) : shrD (.int x) (.int y) = some (.int (x / 2 ^ y.toNat)) := by simp [shrD, int2, h]
@[simp] theorem andD_e : andD (.int x) (.int y) = some (.int (Builtin.bitAnd x y)) := (Eq.refl _).trans rfl
@[simp] theorem sortedG_e (h : sortOk ds = true) : sortedG (.lst mm ds) = some (.lst true (sortDs ds)) := by simp [sortedG, h]
@[simp] theorem putP_fld {f : Str} {k : Nat} {z : D} (h : ns.idxOf? f = some k) (hk : k < ds.length) : putP (.obj true c ns ds) (.fld c f :: ps) z = .obj true c ns (ds.set k (putP ds[k] ps z)) := by simp [putP, kidN, kids, h, hk, setKid]
end
theorem Vl.eq {α : Type} {r : Res α} {a : α} {ρ : List D} (h : Vl r fun d es => d = a ∧ es = ρ) : r = .ok a ρ := by
  obtain ⟨d, es, rfl, rfl, rfl⟩ := h
  rfl
theorem find_first {α : Type} {p : α → Bool} : ∀ {xs : List α} {i : Nat} {x : α}, xs[i]? = some x → p x = true → (∀ y ∈ xs.take i, p y = false) → xs.find? p = some x
  | [], i, x, h, _, _ => by simp at h
  | y :: ys, 0, x, h, hp, _ => by simp at h; subst h; simp [hp]
  | y :: ys, i + 1, x, h, hp, hn => by
    simp at h
    have h1 := hn y (by simp)
    simp [h1]
    exact find_first h hp (fun z hz => hn z (by simp [hz]))
theorem find_none {α : Type} {p : α → Bool} {xs : List α} (h : ∀ y ∈ xs, p y = false) : xs.find? p = none := by
  rw [List.find?_eq_none]
  intro x hx
  simp [h x hx]
theorem pairsD_at {ds es : List D} {i : Nat} {d : D} (h : (pairsD ds es)[i]? = some d) : ∃ a b, d = .tup [a, b] ∧ (ds.zip es)[i]? = some (a, b) := by
  unfold pairsD at h
  rw [List.getElem?_map] at h
  cases e : (ds.zip es)[i]? with
  | none => rw [e] at h; cases h
  | some p => rw [e] at h; cases h; exact ⟨p.1, p.2, rfl, rfl⟩
theorem lc_mapM {τ : Type} {vs : List Nat} {g : D → List D → Option (List D)} {t : M Bool} {m : EM} {enc : τ → D} {p : τ → Bool} {f : τ → D} {ρ : List D} : ∀ (xs : List τ) (acc : List D), 
    (∀ x ∈ xs, lcO vs t m (g (enc x) ρ) = .ok (if p x = true then some (f x) else none) ρ) → acc.length + xs.length ≤ big →
    lcLoop vs g t m (xs.map enc) acc ρ = .ok (acc ++ (xs.filter p).map f) ρ
  | [], acc, _, _ => by simp
  | x :: xs, acc, h, hb => by
    simp only [List.length_cons] at hb
    rw [List.map_cons, lcLoop_c (h x (by simp)) (by omega)]
    by_cases c : p x = true
    · rw [if_pos c, lc_mapM xs _ (fun y hy => h y (by simp [hy])) (by simp; omega)]
      simp [c]
    · rw [if_neg c, lc_mapM xs _ (fun y hy => h y (by simp [hy])) (by simp; omega)]
      simp [c]
end VS
set_option Elab.async false
set_option linter.all false
set_option maxRecDepth 100000
set_option maxHeartbeats 4000000
namespace VS
open PySem PySem.Spec PyProof.Rows L2
namespace G
/-- the law's box: the row, and the next place -/
def bx (row : List Int) (at' : Nat) : D := .lst true [.lst false (row.map D.int), .int (at' : Nat)]
@[simp] theorem has_bx {row : List Int} {n : Nat} : has? (bx row n) = true := by simp [has?, bx]
@[simp] theorem kid_bx1 {row : List Int} {n : Nat} : getP (bx row n) [Stp.ix 1] = some (.int n) := (Eq.refl _).trans rfl
@[simp] theorem kid_bx0 {row : List Int} {n : Nat} : getP (bx row n) [Stp.ix 0] = some (.lst false (row.map D.int)) := (Eq.refl _).trans rfl
def drawV (row : List Int) (n : Nat) (many : Int) : Int := (row[n]?.getD (n * 5 + 1)) % many
theorem cm5 (i : Int) : CMul i 5 := .inr ⟨by omega, by omega⟩
theorem draw_e {row : List Int} {n : Nat} {many : Int} (h : 0 < many) : f__law_draw [bx row n, .int many] = .ok (.int (drawV row n many)) [bx row (n + 1), .int many] := by
  have hn : (0 : Int) ≤ n := Int.natCast_nonneg _
  by_cases hl : n < row.length
  · simp [f__law_draw, fnM_e, N__law_draw.m, bx, h, ixN, atI, hl, hn, drawV]
  · simp [f__law_draw, fnM_e, N__law_draw.m, bx, h, ixN, atI, hl, hn, drawV, cm5]
theorem drawV_lo {row : List Int} {n : Nat} {many : Int} (h : 0 < many) : 0 ≤ drawV row n many := Int.emod_nonneg _ (by omega)
theorem drawV_hi {row : List Int} {n : Nat} {many : Int} (h : 0 < many) : drawV row n many < many := Int.emod_lt_of_pos _ h
theorem cell_e {ns : List Int} {k : Nat} : f__law_cell [.rol (ns.map D.int), .int k] = .ok (.int (ns[k]?.getD 0)) [.rol (ns.map D.int), .int k] := by
  by_cases hl : k < ns.length
  · simp [f__law_cell, fnM_e, N__law_cell.m, ixN, atI, hl]
  · simp [f__law_cell, fnM_e, N__law_cell.m, ixN, atI, hl]
theorem cm2 (i : Int) : CMul 2 i := .inl ⟨by omega, by omega⟩
theorem cm_r (i j : Int) (h1 : -(2 ^ 64) < j) (h2 : j < 2 ^ 64) : CMul i j := .inr ⟨h1, h2⟩
theorem cm_l (i j : Int) (h1 : -(2 ^ 64) < i) (h2 : i < 2 ^ 64) : CMul i j := .inl ⟨h1, h2⟩
theorem cp18 : CPow 10 18 := ⟨by omega, by omega, by decide⟩
theorem cd840 (i : Int) : CDiv i 840 := ⟨by omega, by omega⟩
theorem cd5003 (i : Int) : CDiv i 5003 := ⟨by omega, by omega⟩
theorem row_ok {ns : List Int} {last : Nat} (hl : last ≤ 63) : Vl (f__law_row [.rol (ns.map D.int), .int 0, .int last]) fun d es => ∃ row : List Int, d = .lst true (row.map D.int) ∧ es = [.rol (ns.map D.int), .int 0, .int last] := by
  have s0 : small62 0 = true := by decide
  have sl : small62 last = true := by unfold small62; simp; omega
  have s60 : small62 60 = true := by decide
  have s10 : small62 10 = true := by decide
  obtain ⟨Q, hQ⟩ := hide (fun (d : D) (es : List D) => ∃ row : List Int, d = .lst true (row.map D.int) ∧ es = [.rol (ns.map D.int), .int 0, .int last])
  obtain ⟨I, hI⟩ := hide (fun (i : Nat) (ρ : List D) => ∃ (row : List Int) (a b c : D), ρ = [.rol (ns.map D.int), .int 0, .int last, .lst true (row.map D.int), a, b, c] ∧ row.length ≤ 60 * i)
  rw [← hQ]
  simp [f__law_row, fnM_e, N__law_row.m, rng2, s0, sl]
  refine Vl_for I (by rw [hI]; exact ⟨[], _, _, _, rfl, by simp⟩) ?_ ?_
  · intro i d ρ hd h
    rw [hI] at h
    obtain ⟨row, a, b, c, rfl, hr⟩ := h
    obtain ⟨rfl, hi⟩ := rangeD_get hd
    simp [cell_e, cm2, cp18]
    generalize (if 2 * ns[i]?.getD 0 < 0 then -(2 * ns[i]?.getD 0) else 2 * ns[i]?.getD 0) + (if ns[i]?.getD 0 < 0 then 1 else 0) = z
    obtain ⟨J, hJ⟩ := hide (fun (j : Nat) (ρ : List D) => ∃ (row : List Int) (z : Int) (c : D), ρ = [.rol (ns.map D.int), .int 0, .int last, .lst true (row.map D.int), .int i, .int z, c] ∧ row.length ≤ 60 * i + j)
    refine Vl_iteK (fun _ => ?_) (fun _ => ?_)
    · simp [rng1, s60]
      refine Vl_for J (by rw [hJ]; exact ⟨row, z, c, rfl, by omega⟩) ?_ ?_
      · intro j d ρ hd h
        rw [hJ] at h
        obtain ⟨row, z, c, rfl, hr⟩ := h
        obtain ⟨rfl, hj⟩ := rangeD_get hd
        have hb : row.length < big := by unfold big; omega
        simp
        refine Vl_iteK (fun _ => ?_) (fun _ => ?_)
        · simp [hb, cd840]
          rw [hJ]
          exact ⟨row ++ [z % 840], _, _, by simp; exact ⟨rfl, rfl⟩, by simp; omega⟩
        · simp
          rw [hJ]
          exact ⟨row, _, _, rfl, by omega⟩
      · intro ρ h
        rw [hJ] at h
        obtain ⟨row, z, c, rfl, hr⟩ := h
        simp at hr
        simp
        rw [hI]
        exact ⟨row, _, _, _, rfl, by omega⟩
    · simp [rng1, s10]
      refine Vl_for J (by rw [hJ]; exact ⟨row, z, c, rfl, by omega⟩) ?_ ?_
      · intro j d ρ hd h
        rw [hJ] at h
        obtain ⟨row, z, c, rfl, hr⟩ := h
        obtain ⟨rfl, hj⟩ := rangeD_get hd
        have hb : row.length < big := by unfold big; omega
        simp [hb, cd5003, cm_r z 69069 (by omega) (by omega), cm_l 104729 (i + j) (by omega) (by omega)]
        rw [hJ]
        exact ⟨row ++ [_], _, _, by simp; exact ⟨rfl, rfl, rfl⟩, by simp; omega⟩
      · intro ρ h
        rw [hJ] at h
        obtain ⟨row, z, c, rfl, hr⟩ := h
        simp at hr
        simp
        rw [hI]
        exact ⟨row, _, _, _, rfl, by omega⟩
  · intro ρ h
    rw [hI] at h
    obtain ⟨row, a, b, c, rfl, hr⟩ := h
    simp
    rw [hQ]
    exact ⟨row, rfl, rfl⟩
end G
end VS
set_option Elab.async false
set_option linter.all false
set_option maxRecDepth 100000
set_option maxHeartbeats 4000000
namespace VS
open PySem PySem.Spec PyProof.Rows L2
namespace G
/-- all rows of some of a row's items, in order -/
def subs {α : Type} : List α → List (List α)
  | [] => [[]]
  | x :: xs => subs xs ++ (subs xs).map (x :: ·)
theorem sub_snoc {α : Type} {x : α} : ∀ {xs ys : List α}, ys ∈ subs xs → ys ∈ subs (xs ++ [x]) ∧ ys ++ [x] ∈ subs (xs ++ [x])
  | [], ys, h => by
    simp [subs] at h
    subst h
    simp [subs]
  | z :: xs, ys, h => by
    simp only [subs, List.mem_append, List.mem_map, List.cons_append] at h ⊢
    rcases h with h | ⟨zs, h, rfl⟩
    · obtain ⟨h1, h2⟩ := sub_snoc (x := x) h
      exact ⟨.inl h1, .inl h2⟩
    · obtain ⟨h1, h2⟩ := sub_snoc (x := x) h
      exact ⟨.inr ⟨_, h1, rfl⟩, .inr ⟨_, h2, rfl⟩⟩
theorem take_snoc {α : Type} {xs : List α} {i : Nat} {x : α} (h : xs[i]? = some x) : xs.take (i + 1) = xs.take i ++ [x] := by
  rw [List.take_add_one, h]
  rfl
theorem atI_mem {ds : List D} {i : Int} (h0 : 0 ≤ i) (h1 : i < ds.length) : ∃ d, atI ds i = some d ∧ d ∈ ds := by
  have : i.toNat < ds.length := by omega
  exact ⟨ds[i.toNat], by simp [atI, ixN, h0, h1, this], List.getElem_mem _⟩
theorem strs_get {xs : List Str} {i : Nat} {d : D} (h : (xs.map D.str)[i]? = some d) : ∃ x, xs[i]? = some x ∧ d = .str x := by
  rw [List.getElem?_map] at h
  cases e : xs[i]? with
  | none => rw [e] at h; cases h
  | some x => rw [e] at h; cases h; exact ⟨x, rfl, rfl⟩
theorem some_ok {row : List Int} {n : Nat} {names : List Str} (hb : names.length < 100) : Vl (f__law_some [bx row n, .lst false (names.map D.str)]) fun d es => ∃ n' ys, d = .lst true (ys.map D.str) ∧ es = [bx row n', .lst false (names.map D.str)] ∧ ys ∈ subs names := by
  obtain ⟨Q, hQ⟩ := hide (fun (d : D) (es : List D) => ∃ n' ys, d = .lst true (ys.map D.str) ∧ es = [bx row n', .lst false (names.map D.str)] ∧ ys ∈ subs names)
  obtain ⟨I, hI⟩ := hide (fun (i : Nat) (acc ρ : List D) => ∃ n' ys, acc = ys.map D.str ∧ ys.length ≤ i ∧ ρ = [bx row n', .lst false (names.map D.str), .un] ∧ ys ∈ subs (names.take i))
  rw [← hQ]
  simp [f__law_some, fnM_e, N__law_some.m]
  refine Vl_lc I (by rw [hI]; exact ⟨n, [], rfl, by simp, rfl, by simp [subs]⟩) ?_ ?_
  · intro i d acc ρ hd h
    rw [hI] at h
    obtain ⟨n', ys, rfl, hl, rfl, hy⟩ := h
    obtain ⟨x, hx, rfl⟩ := strs_get hd
    have hi : i < names.length := (List.getElem?_eq_some_iff.mp hx).1
    have := take_snoc hx
    refine ⟨by unfold big; simp; omega, ?_⟩
    simp [draw_e]
    refine ⟨fun _ => ?_, fun _ => ?_⟩
    · rw [hI]; exact ⟨_, ys ++ [x], by simp, by simp; omega, rfl, this ▸ (sub_snoc hy).2⟩
    · rw [hI]; exact ⟨_, ys, rfl, by omega, rfl, this ▸ (sub_snoc hy).1⟩
  · intro acc ρ h
    rw [hI] at h
    obtain ⟨n', ys, rfl, hl, rfl, hy⟩ := h
    simp at hy
    simp
    rw [hQ]
    exact ⟨_, ys, rfl, rfl, hy⟩
abbrev KINDS : List Str := ["enter", "leave", "over", "drop", "end"]
abbrev SIGHTS : List Str := ["own", "same", "related"]
abbrev PLACES : List Str := ["zone", "root", "capture"]
theorem kinds_e : f__law_kinds [] = .ok (.lst true (KINDS.map D.str)) [] := by simp [f__law_kinds, fnM_e, N__law_kinds.m]
def SetupD (d : D) : Prop := ∃ p ks ss, d = .lst false [.str p, .lst false (ks.map D.str), .lst false (ss.map D.str)] ∧ p ∈ PLACES ∧ ks ∈ subs KINDS ∧ ss ∈ subs SIGHTS
/-- what is behind a turn of a drawn row of words -/
theorem setup_ok {row : List Int} {n : Nat} : Vl (f__law_setup [bx row n]) fun d es => SetupD (fz d) ∧ ∃ n', es = [bx row n'] := by
  obtain ⟨Q, hQ⟩ := hide (fun (d : D) (es : List D) => SetupD (fz d) ∧ ∃ n', es = [bx row n'])
  rw [← hQ]
  obtain ⟨p, ep, hp⟩ := atI_mem (ds := [.str "zone", .str "zone", .str "root", .str "capture"]) (drawV_lo (row := row) (n := n) (many := 4) (by decide)) (drawV_hi (by decide))
  simp at hp
  have hp1 : has? p = true ∧ pure? p = true ∧ fz p = p := by rcases hp with rfl | rfl | rfl <;> simp
  have hp2 : ∃ z, p = .str z ∧ z ∈ PLACES := by rcases hp with rfl | rfl | rfl <;> exact ⟨_, rfl, by simp⟩
  simp [f__law_setup, fnM_e, N__law_setup.m, draw_e, ep, kinds_e, hp1]
  refine Vl_call (some_ok (names := KINDS) (by decide)) ?_
  rintro _ _ ⟨n', ys, rfl, rfl, hy⟩
  simp [draw_e]
  obtain ⟨R, hR⟩ := hide (fun (f : Fl) (ρ : List D) => f = .nx ∧ ∃ ks n, ks ∈ subs KINDS ∧ ρ = [bx row n, p, .lst false (ks.map D.str), .un])
  refine Vl.imp (P := R) ?_ ?_
  · refine Vl_iteK (fun _ => ?_) (fun _ => ?_)
    · obtain ⟨q, eq, hq⟩ := atI_mem (ds := [.lst true (([("enter" : Str), "leave", "drop"] : List Str).map D.str), .lst true (([("over" : Str), "drop", "end"] : List Str).map D.str), .lst true (KINDS.map D.str), .lst true (([("enter" : Str), "leave"] : List Str).map D.str)]) (drawV_lo (row := row) (n := n' + 1) (many := 4) (by decide)) (drawV_hi (by decide))
      simp at eq
      simp [draw_e, eq]
      simp only [List.mem_cons, List.not_mem_nil, or_false] at hq
      rw [hR]
      rcases hq with rfl | rfl | rfl | rfl
      · exact ⟨rfl, (["enter", "leave", "drop"] : List Str), _, by decide +kernel, by simp; rfl⟩
      · exact ⟨rfl, (["over", "drop", "end"] : List Str), _, by decide +kernel, by simp; rfl⟩
      · exact ⟨rfl, (KINDS : List Str), _, by decide +kernel, by simp; rfl⟩
      · exact ⟨rfl, (["enter", "leave"] : List Str), _, by decide +kernel, by simp; rfl⟩
    · simp
      rw [hR]
      exact ⟨rfl, ys, _, hy, rfl⟩
  · intro f ρ h
    rw [hR] at h
    obtain ⟨rfl, ks, n, hk, rfl⟩ := h
    simp [hp1]
    obtain ⟨I, hI⟩ := hide (fun (i : Nat) (acc ρ : List D) => ∃ n' ys, acc = ys.map D.str ∧ ρ = [bx row n', p, .lst false (ks.map D.str), .un] ∧ ys.length ≤ i ∧ ys ∈ subs (SIGHTS.take i))
    refine Vl_lc I (by rw [hI]; exact ⟨n, [], rfl, rfl, by simp, by simp [subs]⟩) ?_ ?_
    · intro i d acc ρ hd h
      rw [hI] at h
      obtain ⟨n', ys, rfl, rfl, hl, hy⟩ := h
      obtain ⟨x, hx, rfl⟩ := strs_get (xs := SIGHTS) hd
      have hi : i < 3 := (List.getElem?_eq_some_iff.mp hx).1
      have := take_snoc hx
      refine ⟨by unfold big; simp; omega, ?_⟩
      simp [draw_e]
      refine ⟨fun _ => ?_, fun _ => ?_⟩
      · rw [hI]; exact ⟨_, ys ++ [x], by simp, rfl, by simp; omega, this ▸ (sub_snoc hy).2⟩
      · rw [hI]; exact ⟨_, ys, rfl, rfl, by omega, this ▸ (sub_snoc hy).1⟩
    · intro acc ρ h
      rw [hI] at h
      obtain ⟨n', ys, rfl, rfl, hl, hy⟩ := h
      obtain ⟨z, rfl, hz⟩ := hp2
      simp
      rw [hQ]
      exact ⟨⟨z, ks, ys, by simp, hz, hk, hy⟩, _, rfl⟩
end G
end VS
set_option Elab.async false
set_option linter.all false
set_option maxRecDepth 100000
set_option maxHeartbeats 4000000
namespace VS
open PySem PySem.Spec PyProof.Rows L2
namespace G
mutual
def sameD : D → D → Bool
  | .un, .un => true
  | .non, .non => true
  | .bl a, .bl b => a == b
  | .int i, .int j => decide (i = j)
  | .str x, .str y => decide (x = y)
  | .tup xs, .tup ys => sameDs xs ys
  | .rol xs, .rol ys => sameDs xs ys
  | .lst m xs, .lst n ys => m == n && sameDs xs ys
  | .dic m ks xs, .dic n ls ys => m == n && (sameDs ks ls && sameDs xs ys)
  | .obj m c ns xs, .obj n e ms ys => m == n && (decide (c = e) && (decide (ns = ms) && sameDs xs ys))
  | _, _ => false
def sameDs : List D → List D → Bool
  | [], [] => true
  | x :: xs, y :: ys => sameD x y && sameDs xs ys
  | _, _ => false
end
mutual
theorem same_eq : ∀ (d e : D), sameD d e = true → d = e := by
  intro d e h
  cases d <;> cases e <;> simp [sameD] at h <;> first
    | rfl
    | (subst h; rfl)
    | (rw [sames_eq _ _ h]; done)
    | (rw [h.1, sames_eq _ _ h.2]; done)
    | (rw [h.1, sames_eq _ _ h.2.1, sames_eq _ _ h.2.2]; done)
    | (rw [h.1, h.2.1, h.2.2.1, sames_eq _ _ h.2.2.2]; done)
theorem sames_eq : ∀ (ds es : List D), sameDs ds es = true → ds = es := by
  intro ds es h
  cases ds <;> cases es <;> simp [sameDs] at h
  · rfl
  · rw [same_eq _ _ h.1, sames_eq _ _ h.2]
end
def isOk (r : Res D) (d : D) (es : List D) : Bool := match r with
  | .ok d' es' => sameD d' d && sameDs es' es
  | _ => false
theorem isOk_eq {r : Res D} {d : D} {es : List D} (h : isOk r d es = true) : r = .ok d es := by
  cases r with
  | ok d' es' =>
    simp [isOk] at h
    rw [same_eq _ _ h.1, sames_eq _ _ h.2]
  | ex z es' => simp [isOk] at h
  | bad => simp [isOk] at h
def ordOk (K W r : D) : Bool := isOk (f__in_order [K, W]) r [K, W]
def kl (ks : List Str) : D := .lst false (ks.map D.str)
def kt (ks : List Str) : D := .tup (ks.map D.str)
theorem ordOk_eq {K W r : D} (h : ordOk K W r = true) : f__in_order [K, W] = .ok r [K, W] := isOk_eq h
theorem ord_k : ((subs KINDS).all fun ks => ordOk (kt ks) c_KINDS (kt ks)) = true := by decide +kernel
theorem ord_s : ((subs SIGHTS).all fun ks => ordOk (kt ks) c_SIGHTS (kt ks)) = true := by decide +kernel
/-- a Setup, frozen -/
def stO (m : Bool) (p : Str) (ks ss : List Str) : D := .obj m "Setup" ["place", "kinds", "sights"] [.str p, kt ks, kt ss]
/-- a setup of the law -/
def stL (p : Str) (ks ss : List Str) : D := .lst false [.str p, kl ks, kl ss]
theorem made_e {p : Str} {ks ss : List Str} (hp : p ∈ PLACES) (hk : ks ∈ subs KINDS) (hs : ss ∈ subs SIGHTS) : f__law_made [stL p ks ss] = .ok (stO true p ks ss) [stL p ks ss] := by
  have e1 := ordOk_eq (List.all_eq_true.mp ord_k ks hk)
  have e2 := ordOk_eq (List.all_eq_true.mp ord_s ss hs)
  simp [kt] at e1 e2
  simp at hp
  rcases hp with rfl | rfl | rfl <;>
    simp [f__law_made, fnM_e, N__law_made.m, stL, kl, atI, ixN, f_Setup___init__, N_Setup___init__.m, e1, e2, stO, kt]
end G
end VS
set_option Elab.async false
set_option linter.all false
set_option maxRecDepth 100000
set_option maxHeartbeats 4000000
/-! R1: what an ear hears; the law's likewise. -/
namespace VS
open PySem PySem.Spec PyProof.Rows L2
/-- scalars -/
def Sca (d : D) : Prop := has? d = true ∧ pure? d = true ∧ fz d = d ∧ ∀ n, sh n d = true
theorem sca_str {x : Str} (h : PyData.strOk x = true) : Sca (.str x) := ⟨by simp, by simp, by simp, fun n => by simp [h]⟩
theorem sca_non : Sca .non := ⟨by simp, by simp, by simp, fun n => by simp⟩
theorem sca_int {i : Int} : Sca (.int i) := ⟨by simp, by simp, by simp, fun n => by simp⟩
namespace G
def reachB (p side : Str) (root stopped : Bool) : Bool := decide (p = "capture") || (if p = "root" then root || !stopped else (decide (side = "zone") || (decide (side = "inside") && !stopped)))
theorem reaches_e {p side : Str} {root stopped : Bool} (hp : PyData.strOk p = true) (hs : PyData.strOk side = true) : f_reaches [.str p, .str side, .bl root, .bl stopped] = .ok (.bl (reachB p side root stopped)) [.str p, .str side, .bl root, .bl stopped] := by
  by_cases h1 : p = "capture"
  · subst h1; simp [f_reaches, fnM_e, N_reaches.m, reachB]
  · by_cases h2 : p = "root"
    · subst h2
      cases root <;> cases stopped <;> simp [f_reaches, fnM_e, N_reaches.m, reachB]
    · by_cases h3 : side = "zone"
      · subst h3; simp [f_reaches, fnM_e, N_reaches.m, reachB, hp, h1, h2]
      · by_cases h4 : side = "inside"
        · subst h4; simp [f_reaches, fnM_e, N_reaches.m, reachB, hp, h1, h2]
        · simp [f_reaches, fnM_e, N_reaches.m, reachB, hp, hs, h1, h2, h3, h4]
def plainS (s : Str) : Str := if s = "zone" then "inside" else s
theorem plain_e {s : Str} (h : PyData.strOk s = true) : f__plain [.str s] = .ok (.str (plainS s)) [.str s] := by
  by_cases h1 : s = "zone"
  · subst h1; simp [f__plain, fnM_e, N__plain.m, plainS]
  · simp [f__plain, fnM_e, N__plain.m, plainS, h, h1]
def sigF (ss : List Str) (kind side : Str) (same : Bool) (rel : Str) : D := .tup [.str kind, .str (if ("own" : Str) ∈ ss then side else plainS side), .bl (decide (("same" : Str) ∈ ss) && same), .str (if ("related" : Str) ∈ ss then plainS rel else "none")]
@[simp] theorem fz_sigF {ss : List Str} {kind side rel : Str} {same : Bool} : fz (sigF ss kind side same rel) = sigF ss kind side same rel := by simp [sigF]
@[simp] theorem pure_sigF {ss : List Str} {kind side rel : Str} {same : Bool} : pure? (sigF ss kind side same rel) = true := by simp [sigF]
@[simp] theorem has_sigF {ss : List Str} {kind side rel : Str} {same : Bool} : has? (sigF ss kind side same rel) = true := by simp [sigF]
theorem any_mem {ks : List Str} {x : Str} : (ks.any fun z => decide (z = x)) = decide (x ∈ ks) := by
  rw [Bool.eq_iff_iff]; simp
theorem any_mem' {ks : List Str} {x : Str} : (ks.map D.str).any (fun z => eqD z (.str x)) = decide (x ∈ ks) := by
  rw [List.any_map]
  simp only [Function.comp_def, eqD_ss]
  exact any_mem
def AllOk (ks : List Str) : Prop := ∀ w ∈ ks, PyData.strOk w = true
theorem AllOk.shs {ks : List Str} (h : AllOk ks) {n : Nat} : shs n (ks.map D.str) = true := shs_all fun d hd => by
  obtain ⟨w, hw, rfl⟩ := List.mem_map.mp hd
  simp [h w hw]
theorem signal_e {p kind side rel : Str} {ks ss : List Str} {same : Bool} (hss : AllOk ss) (h1 : PyData.strOk kind = true) (h2 : PyData.strOk side = true) (h3 : PyData.strOk rel = true) :
    f_signal_of [stO false p ks ss, .str kind, .str side, .bl same, .str rel] = .ok (sigF ss kind side same rel) [stO false p ks ss, .str kind, .str side, .bl same, .str rel] := by
  have e1 := plain_e h2
  have e3 := plain_e h3
  have hs := hss.shs (n := 63)
  by_cases o : ("own" : Str) ∈ ss <;> by_cases r : ("related" : Str) ∈ ss <;> by_cases q : ("same" : Str) ∈ ss <;>
    simp [f_signal_of, fnM_e, N_signal_of.m, stO, kt, hs, any_mem', any_mem, List.any_map, Function.comp_def, o, r, q, e1, e3, sigF]
def earO (S ent : D) (stops cnt : Int) (sg : List D) : D := .obj true "Ear" ["setup", "entered", "stops", "count", "signals"] [S, ent, .int stops, .int cnt, .lst true sg]
def stopB (stops cnt : Int) : Bool := decide (Builtin.bitAnd (stops / 2 ^ cnt.toNat) 1 = 1)
def hearB (p : Str) (ks : List Str) (kind side : Str) (root stopped : Bool) : Bool := decide (kind ∈ ks) && reachB p side root stopped
theorem event_e {p kind side rel : Str} {ks ss : List Str} {who ent : D} {stops cnt : Int} {root : Bool} {sg : List D} (hc : 0 ≤ cnt) (hp : PyData.strOk p = true) (hks : AllOk ks) (hss : AllOk ss) (h1 : PyData.strOk kind = true) (h2 : PyData.strOk side = true) (h3 : PyData.strOk rel = true) (hw : Sca who) (he : Sca ent) (hl : sg.length < 1000) :
    f_Ear_event [earO (stO false p ks ss) ent stops cnt sg, .str kind, who, .str side, .str rel, .bl root] =
      .ok .non [if hearB p ks kind side root (stopB stops cnt) = true then earO (stO false p ks ss) (if kind = "enter" then who else ent) stops (cnt + 1) (sg ++ [sigF ss kind side (eqD who ent) rel]) else earO (stO false p ks ss) ent stops (cnt + 1) sg, .str kind, who, .str side, .str rel, .bl root] := by
  have hs := hks.shs (n := 63)
  have e1 := reaches_e (root := root) (stopped := stopB stops cnt) hp h2
  have e2 := signal_e (p := p) (ks := ks) (same := eqD who ent) hss h1 h2 h3
  have hb : sg.length < big := by unfold big; omega
  have w1 := hw.2.2.2 64
  have w2 := he.2.2.2 64
  simp only [stO, kt] at e2
  have hst : decide (Builtin.bitAnd (stops / 2 ^ cnt.toNat) 1 = 1) = stopB stops cnt := rfl
  by_cases k : kind ∈ ks
  · cases r : reachB p side root (stopB stops cnt) with
    | false =>
      rw [r] at e1
      simp [f_Ear_event, fnM_e, N_Ear_event.m, earO, stO, kt, hs, any_mem', any_mem, List.any_map, Function.comp_def, k, hc, h1, h2, hst, e1, hearB, r]
    | true =>
      rw [r] at e1
      by_cases ke : kind = "enter"
      · subst ke
        simp [f_Ear_event, fnM_e, N_Ear_event.m, earO, stO, kt, hs, any_mem', any_mem, List.any_map, Function.comp_def, k, hc, h1, h2, h3, hst, e1, e2, hearB, r, hw.1, hw.2.1, hw.2.2.1, he.1, he.2.1, w1, w2, hb]
      · simp [f_Ear_event, fnM_e, N_Ear_event.m, earO, stO, kt, hs, any_mem', any_mem, List.any_map, Function.comp_def, k, hc, h1, h2, h3, hst, e1, e2, hearB, r, hw.1, hw.2.1, hw.2.2.1, he.1, he.2.1, w1, w2, hb, ke]
  · simp [f_Ear_event, fnM_e, N_Ear_event.m, earO, stO, kt, hs, any_mem', any_mem, List.any_map, Function.comp_def, k, hc, h1, hearB]
theorem hears_e {p : Str} {ks ss : List Str} (hp : PyData.strOk p = true) (hks : AllOk ks) : f_hears_end [stO false p ks ss] = .ok (.bl (!decide (p = "zone") && decide (("end" : Str) ∈ ks))) [stO false p ks ss] := by
  have hs := hks.shs (n := 63)
  by_cases h1 : p = "zone"
  · subst h1; simp [f_hears_end, fnM_e, N_hears_end.m, stO, kt]
  · simp [f_hears_end, fnM_e, N_hears_end.m, stO, kt, h1, hp, hs, any_mem', any_mem, List.any_map, Function.comp_def]
def endD : D := .tup [.str "end", .str "outside", .bl false, .str "none"]
theorem end_e {p : Str} {ks ss : List Str} {ent : D} {stops cnt : Int} {sg : List D} (hp : PyData.strOk p = true) (hks : AllOk ks) (hl : sg.length < 1000) : f_Ear_end [earO (stO false p ks ss) ent stops cnt sg] = .ok .non [earO (stO false p ks ss) ent stops cnt (if (!decide (p = "zone") && decide (("end" : Str) ∈ ks)) = true then sg ++ [endD] else sg)] := by
  have e := hears_e (ss := ss) hp hks
  have hb : sg.length < big := by unfold big; omega
  simp only [stO, kt] at e
  cases h : (!decide (p = "zone") && decide (("end" : Str) ∈ ks)) with
  | true => rw [h] at e; simp [f_Ear_end, fnM_e, N_Ear_end.m, earO, stO, kt, e, hb, endD]
  | false => rw [h] at e; simp [f_Ear_end, fnM_e, N_Ear_end.m, earO, stO, kt, e, hb, endD]
/-! what an ear is told, by value -/
structure EarS where
  ent : D
  cnt : Int
  sg : List D
def EarS.ok (E : EarS) : Prop := Sca E.ent ∧ 0 ≤ E.cnt ∧ E.sg.length < 1000 ∧ pures? E.sg = true
def earOf (p : Str) (ks ss : List Str) (stops : Int) (E : EarS) : D := earO (stO false p ks ss) E.ent stops E.cnt E.sg
def earStep (p : Str) (ks ss : List Str) (stops : Int) (E : EarS) (kind : Str) (who : D) (side rel : Str) (root : Bool) : EarS :=
  if hearB p ks kind side root (stopB stops E.cnt) = true then ⟨if kind = "enter" then who else E.ent, E.cnt + 1, E.sg ++ [sigF ss kind side (eqD who E.ent) rel]⟩ else ⟨E.ent, E.cnt + 1, E.sg⟩
theorem event_s {p kind side rel : Str} {ks ss : List Str} {who : D} {stops : Int} {root : Bool} {E : EarS} (hE : E.ok) (hp : PyData.strOk p = true) (hks : AllOk ks) (hss : AllOk ss) (h1 : PyData.strOk kind = true) (h2 : PyData.strOk side = true) (h3 : PyData.strOk rel = true) (hw : Sca who) :
    f_Ear_event [earOf p ks ss stops E, .str kind, who, .str side, .str rel, .bl root] = .ok .non [earOf p ks ss stops (earStep p ks ss stops E kind who side rel root), .str kind, who, .str side, .str rel, .bl root] := by
  unfold earOf
  rw [event_e hE.2.1 hp hks hss h1 h2 h3 hw hE.1 hE.2.2.1]
  unfold earStep
  split <;> rfl
theorem EarS.ok.step {p kind side rel : Str} {ks ss : List Str} {who : D} {stops : Int} {root : Bool} {E : EarS} (hE : E.ok) (hw : Sca who) (hl : E.sg.length < 900) : (earStep p ks ss stops E kind who side rel root).ok ∧ (earStep p ks ss stops E kind who side rel root).sg.length ≤ E.sg.length + 1 := by
  obtain ⟨h1, h2, h3, h4⟩ := hE
  unfold earStep
  split
  · refine ⟨⟨by dsimp only; split <;> assumption, by dsimp only; omega, by simp; omega, ?_⟩, by simp⟩
    dsimp only
    have : ∀ a b : List D, pures? (a ++ b) = (pures? a && pures? b) := fun a b => by
      induction a with
      | nil => simp
      | cons x a ih => simp [ih, Bool.and_assoc]
    rw [this, h4]
    simp
  · exact ⟨⟨h1, by dsimp only; omega, h3, h4⟩, by simp⟩
end G
end VS
set_option Elab.async false
set_option linter.all false
set_option maxRecDepth 100000
set_option maxHeartbeats 4000000
/-! R2: a meeting: what is heard in a turn, and the situation behind it. -/
namespace VS
open PySem PySem.Spec PyProof.Rows L2
namespace G
def sideOf (n : Int) : Str := if n = 1 then "outside" else if n = 2 then "inside" else if n = 3 then "zone" else "none"
@[simp] theorem ok_sideOf {n : Int} : PyData.strOk (sideOf n) = true := by
  unfold sideOf
  split
  · simp
  · split
    · simp
    · split <;> simp
theorem side_at {n : Int} (h0 : 0 ≤ n) (h1 : n < 4) : atI [D.str "none", .str "outside", .str "inside", .str "zone"] n = some (.str (sideOf n)) := by
  have : n = 0 ∨ n = 1 ∨ n = 2 ∨ n = 3 := by omega
  rcases this with rfl | rfl | rfl | rfl <;> simp [atI, ixN, sideOf]
def meO (o l t g : Int) (ear : D) : D := .obj true "Meeting" ["over", "last", "tick", "target", "ear"] [.int o, .int l, .int t, .int g, ear]
def entD (l : Int) : D := if l = 4 then .str "current" else if l = 0 then .non else .str "last"
theorem sca_ent {l : Int} : Sca (entD l) := by
  unfold entD
  split
  · exact sca_str (by simp)
  · split
    · exact sca_non
    · exact sca_str (by simp)
def stepN (p : Str) (ks ss : List Str) (stops : Int) (E : EarS) (kind : Str) (who : D) (n r : Int) : EarS := earStep p ks ss stops E kind who (sideOf n) (sideOf r) false
section
variable {p : Str} {ks ss : List Str} {o l t g stops : Int} {E : EarS} (hp : PyData.strOk p = true) (hks : AllOk ks) (hss : AllOk ss)
include hp hks hss
theorem mev_e {kind : Str} {who : D} {n r : Int} (hE : E.ok) (h1 : PyData.strOk kind = true) (hw : Sca who) (n0 : 0 ≤ n) (n1 : n < 4) (r0 : 0 ≤ r) (r1 : r < 4) :
    f_Meeting_event [meO o l t g (earOf p ks ss stops E), .str kind, who, .int n, .int r] = .ok .non [meO o l t g (earOf p ks ss stops (stepN p ks ss stops E kind who n r)), .str kind, who, .int n, .int r] := by
  have e := event_s (stops := stops) (root := false) hE hp hks hss h1 (ok_sideOf (n := n)) (ok_sideOf (n := r)) hw
  have hh : ∀ E, has? (earOf p ks ss stops E) = true := fun E => by simp [earOf, earO]
  have hob : ∀ E, objO "Ear" "event" (some (earOf p ks ss stops E)) = true := fun E => by simp [earOf, earO]
  simp [f_Meeting_event, fnM_e, N_Meeting_event.m, meO, hob, hh, side_at, n0, n1, r0, r1, hw.1, hw.2.1, e, stepN]
end
def whoS (g : Int) : Str := if g = 0 then "current" else if g = 1 then "last" else "new"
def numT (o l g : Int) : Int := if g = 0 then o else if g = 1 then l else g - 1
@[simp] theorem ok_who {g : Int} : PyData.strOk (whoS g) = true := by
  unfold whoS
  split
  · simp
  · split <;> simp
theorem pointed_e {o l t g : Int} {ear : D} (he : has? ear = true) : f_Meeting_pointed [meO o l t g ear] = .ok (.tup [.str (whoS g), .int (numT o l g)]) [meO o l t g ear] := by
  by_cases h0 : g = 0
  · subst h0; simp [f_Meeting_pointed, fnM_e, N_Meeting_pointed.m, meO, whoS, numT]
  · by_cases h1 : g = 1
    · subst h1; simp [f_Meeting_pointed, fnM_e, N_Meeting_pointed.m, meO, whoS, numT]
    · simp [f_Meeting_pointed, fnM_e, N_Meeting_pointed.m, meO, whoS, numT, h0, h1]
/-- what is heard of a point -/
def runPt (p : Str) (ks ss : List Str) (stops o l t g : Int) (E : EarS) : EarS :=
  let w := D.str (whoS g)
  let n := numT o l g
  let E1 := if g = 0 then E else
    let E2 := stepN p ks ss stops E "enter" w n o
    if o ≠ 0 ∧ t = 0 then stepN p ks ss stops E2 "leave" (.str "current") o n else E2
  stepN p ks ss stops E1 "over" w n 0
section
variable {p : Str} {ks ss : List Str} {o l t g stops : Int} {E : EarS} (hp : PyData.strOk p = true) (hks : AllOk ks) (hss : AllOk ss)
include hp hks hss
theorem point_e (hE : E.ok) (hl : E.sg.length < 800) (o0 : 0 ≤ o) (o1 : o < 4) (n0 : 0 ≤ numT o l g) (n1 : numT o l g < 4) :
    f_Meeting_point [meO o l t g (earOf p ks ss stops E)] = .ok (.tup [.str (whoS g), .int (numT o l g)]) [meO o l t g (earOf p ks ss stops (runPt p ks ss stops o l t g E))] := by
  have hh : ∀ E, has? (earOf p ks ss stops E) = true := fun E => by simp [earOf, earO]
  have hm : ∀ E (m : Str), ([("over" : Str), "last", "tick", "target", "ear"] : List Str).contains m = false → objO "Meeting" m (some (meO o l t g (earOf p ks ss stops E))) = true := fun E m h => by simp [meO, objO]; simpa using h
  have hm1 := fun E => hm E "event" (by decide +kernel)
  have hm2 := fun E => hm E "pointed" (by decide +kernel)
  have hmh : ∀ E, has? (meO o l t g (earOf p ks ss stops E)) = true := fun E => by simp [meO]
  have gp1 : ∀ E, getP (meO o l t g (earOf p ks ss stops E)) [Stp.fld "Meeting" "over"] = some (.int o) := fun E => by simp [meO]
  have gp2 : ∀ E, getP (meO o l t g (earOf p ks ss stops E)) [Stp.fld "Meeting" "tick"] = some (.int t) := fun E => by simp [meO]
  have pe := pointed_e (o := o) (l := l) (t := t) (g := g) (ear := earOf p ks ss stops E) (hh E)
  have sw : Sca (.str (whoS g)) := sca_str ok_who
  have sc : Sca (.str "current") := sca_str (by simp)
  have z0 : (0 : Int) ≤ 0 := Int.le_refl _
  have hpre : ∀ E F : EarS, E.ok → E.sg.length < 900 → ∀ kind who n r, Sca who → (stepN p ks ss stops E kind who n r).ok ∧ (stepN p ks ss stops E kind who n r).sg.length ≤ E.sg.length + 1 := fun E _ h1 h2 kind who n r h3 => h1.step h3 h2
  have w0 : whoS 0 = "current" := by simp [whoS]
  by_cases hg : g = 0
  · subst hg
    have e3 := mev_e (E := E) (o := o) (l := l) (t := t) (g := 0) (stops := stops) (kind := "over") (n := numT o l 0) (r := 0) hp hks hss hE (by simp) sw n0 n1 z0 (by decide)
    rw [w0] at pe e3
    simp [f_Meeting_point, fnM_e, N_Meeting_point.m, hm1, hm2, hmh, gp1, gp2, pe, e3, runPt, w0]
  · have wn : ¬ whoS g = "current" := by
      unfold whoS
      rw [if_neg hg]
      split <;> simp
    have wn' : ¬ Str.ofString "current" = whoS g := fun h => wn h.symm
    have e1 := mev_e (E := E) (o := o) (l := l) (t := t) (g := g) (stops := stops) (kind := "enter") (who := .str (whoS g)) (n := numT o l g) (r := o) hp hks hss hE (by simp) sw n0 n1 o0 o1
    obtain ⟨k1, k1'⟩ := hE.step (p := p) (kind := "enter") (side := sideOf (numT o l g)) (rel := sideOf o) (ks := ks) (ss := ss) (stops := stops) (root := false) sw (by omega)
    have e2 := mev_e (E := stepN p ks ss stops E "enter" (.str (whoS g)) (numT o l g) o) (o := o) (l := l) (t := t) (g := g) (stops := stops) (kind := "leave") (who := .str "current") (n := o) (r := numT o l g) hp hks hss k1 (by simp) sc o0 o1 n0 n1
    obtain ⟨k2, k2'⟩ := k1.step (p := p) (kind := "leave") (side := sideOf o) (rel := sideOf (numT o l g)) (ks := ks) (ss := ss) (stops := stops) (root := false) sc (by omega)
    have e3 := mev_e (E := stepN p ks ss stops E "enter" (.str (whoS g)) (numT o l g) o) (o := o) (l := l) (t := t) (g := g) (stops := stops) (kind := "over") (who := .str (whoS g)) (n := numT o l g) (r := 0) hp hks hss k1 (by simp) sw n0 n1 z0 (by decide)
    have e4 := mev_e (E := stepN p ks ss stops (stepN p ks ss stops E "enter" (.str (whoS g)) (numT o l g) o) "leave" (.str "current") o (numT o l g)) (o := o) (l := l) (t := t) (g := g) (stops := stops) (kind := "over") (who := .str (whoS g)) (n := numT o l g) (r := 0) hp hks hss k2 (by simp) sw n0 n1 z0 (by decide)
    by_cases ho : o = 0
    · subst ho
      simp [f_Meeting_point, fnM_e, N_Meeting_point.m, hm1, hm2, hmh, gp1, gp2, pe, e1, e3, runPt, wn, hg]
    · by_cases ht : t = 0
      · subst ht
        simp [f_Meeting_point, fnM_e, N_Meeting_point.m, hm1, hm2, hmh, gp1, gp2, pe, e1, e2, e4, runPt, wn, hg, ho]
      · simp [f_Meeting_point, fnM_e, N_Meeting_point.m, hm1, hm2, hmh, gp1, gp2, pe, e1, e3, runPt, wn, hg, ho, ht]
end
end G
end VS
set_option Elab.async false
set_option linter.all false
set_option maxRecDepth 100000
set_option maxHeartbeats 4000000
/-! R3: outcome. -/
namespace VS
open PySem PySem.Spec PyProof.Rows L2
namespace G
theorem entered_e {o l t g : Int} : f_Meeting__entered [.obj true "Meeting" ["over", "last", "tick", "target"] [.int o, .int l, .int t, .int g]] = .ok (entD l) [.obj true "Meeting" ["over", "last", "tick", "target"] [.int o, .int l, .int t, .int g]] := by
  by_cases h4 : l = 4
  · subst h4; simp [f_Meeting__entered, fnM_e, N_Meeting__entered.m, entD]
  · by_cases h0 : l = 0
    · subst h0; simp [f_Meeting__entered, fnM_e, N_Meeting__entered.m, entD]
    · simp [f_Meeting__entered, fnM_e, N_Meeting__entered.m, entD, h4, h0]
def E0 (l : Int) : EarS := ⟨entD l, 0, []⟩
theorem E0_ok {l : Int} : (G.E0 l).ok := ⟨sca_ent, by simp [G.E0], by simp [G.E0], by simp [G.E0]⟩
def turnD (o l t g s : Int) : D := .tup [.int o, .int l, .int t, .int g, .int s]
theorem einit_e {S ent : D} {s : Int} (h1 : has? S = true) (h2 : pure? S = true) (he : Sca ent) : f_Ear___init__ [.obj true "Ear" [] [], S, ent, .int s] = .ok .non [earO S ent s 0 [], S, ent, .int s] := by
  simp [f_Ear___init__, fnM_e, N_Ear___init__.m, earO, h1, h2, he.1, he.2.1]
theorem minit_e {p : Str} {ks ss : List Str} {o l t g s : Int} : f_Meeting___init__ [.obj true "Meeting" [] [], stO false p ks ss, turnD o l t g s] = .ok .non [meO o l t g (earOf p ks ss s (G.E0 l)), stO false p ks ss, turnD o l t g s] := by
  have e1 := entered_e (o := o) (l := l) (t := t) (g := g)
  have e2 := einit_e (S := stO false p ks ss) (ent := entD l) (s := s) (by simp [stO]) (by simp [stO]) sca_ent
  have hs : has? (stO false p ks ss) = true ∧ pure? (stO false p ks ss) = true := by simp [stO]
  have he := sca_ent (l := l)
  simp [f_Meeting___init__, fnM_e, N_Meeting___init__.m, turnD, e1, e2, hs, he.1, he.2.1, he.2.2.1, meO, earOf, G.E0]
def runSt (p : Str) (ks ss : List Str) (stops o t : Int) (E : EarS) : EarS :=
  let E1 := if o = 0 then E else stepN p ks ss stops E (if t = 3 ∨ t = 4 then "drop" else "leave") (.str "current") o 0
  if t = 3 ∨ t = 5 then ⟨E1.ent, E1.cnt, if (!decide (p = "zone") && decide (("end" : Str) ∈ ks)) = true then E1.sg ++ [endD] else E1.sg⟩ else E1
section
variable {p : Str} {ks ss : List Str} {o l t g stops : Int} {E : EarS} (hp : PyData.strOk p = true) (hks : AllOk ks) (hss : AllOk ss)
include hp hks hss
theorem stop_e (hE : E.ok) (hl : E.sg.length < 800) (o0 : 0 ≤ o) (o1 : o < 4) (t0 : 2 ≤ t) (t1 : t ≤ 6) :
    f_Meeting_stop [meO o l t g (earOf p ks ss stops E)] = .ok (.tup [.non, .int 0]) [meO o l t g (earOf p ks ss stops (runSt p ks ss stops o t E))] := by
  have hh : ∀ E, has? (earOf p ks ss stops E) = true := fun E => by simp [earOf, earO]
  have ho : ∀ E, objO "Ear" "end" (some (earOf p ks ss stops E)) = true := fun E => by simp [earOf, earO]
  have sc : Sca (.str "current") := sca_str (by simp)
  have z0 : (0 : Int) ≤ 0 := Int.le_refl _
  have hend : ∀ E : EarS, E.sg.length < 900 → f_Ear_end [earOf p ks ss stops E] = .ok .non [earOf p ks ss stops ⟨E.ent, E.cnt, if (!decide (p = "zone") && decide (("end" : Str) ∈ ks)) = true then E.sg ++ [endD] else E.sg⟩] := fun E h => by
    unfold earOf
    exact end_e hp hks (by omega)
  have e0 := hend E (by omega)
  have tt : t = 2 ∨ t = 3 ∨ t = 4 ∨ t = 5 ∨ t = 6 := by omega
  by_cases h0 : o = 0
  · subst h0
    rcases tt with rfl | rfl | rfl | rfl | rfl <;> simp [f_Meeting_stop, fnM_e, N_Meeting_stop.m, meO, hh, ho, e0, runSt]
  · have e1 := fun kind (h : PyData.strOk kind = true) => mev_e (E := E) (o := o) (l := l) (t := t) (g := g) (stops := stops) (kind := kind) (who := .str "current") (n := o) (r := 0) hp hks hss hE h sc o0 o1 z0 (by decide)
    have k1 := fun kind => (hE.step (p := p) (kind := kind) (side := sideOf o) (rel := sideOf 0) (ks := ks) (ss := ss) (stops := stops) (root := false) sc (by omega)).2
    have ed := e1 "drop" (by simp)
    have el := e1 "leave" (by simp)
    have fd := hend (stepN p ks ss stops E "drop" (.str "current") o 0) (by have := k1 "drop"; unfold stepN; omega)
    have fl := hend (stepN p ks ss stops E "leave" (.str "current") o 0) (by have := k1 "leave"; unfold stepN; omega)
    simp only [meO] at ed el
    rcases tt with rfl | rfl | rfl | rfl | rfl <;> simp [f_Meeting_stop, fnM_e, N_Meeting_stop.m, meO, hh, ho, runSt, h0, ed, el, fd, fl]
end
def lastT (o l t : Int) (ent who : D) : Int := if isNone? ent = true then 0 else if eqD ent who = true then 4 else if eqD ent (.str "current") = true then (if t = 1 then 0 else o) else l
theorem last_e {o l t g : Int} {S ent who : D} {stops cnt : Int} {sg : List D} (he : Sca ent) (hw : Sca who) : f_Meeting_last_then [meO o l t g (earO S ent stops cnt sg), who] = .ok (.int (lastT o l t ent who)) [meO o l t g (earO S ent stops cnt sg), who] := by
  have s1 := he.2.2.2 64
  have s2 := hw.2.2.2 64
  cases h1 : isNone? ent with
  | true => simp [f_Meeting_last_then, fnM_e, N_Meeting_last_then.m, meO, earO, he.1, he.2.1, hw.1, hw.2.1, h1, lastT]
  | false =>
    cases h2 : eqD ent who with
    | true => simp [f_Meeting_last_then, fnM_e, N_Meeting_last_then.m, meO, earO, he.1, he.2.1, hw.1, hw.2.1, h1, h2, lastT, s1, s2]
    | false =>
      cases h3 : eqD ent (.str "current") with
      | true => by_cases h4 : t = 1 <;> simp [f_Meeting_last_then, fnM_e, N_Meeting_last_then.m, meO, earO, he.1, he.2.1, hw.1, hw.2.1, h1, h2, h3, h4, lastT, s1, s2]
      | false => simp [f_Meeting_last_then, fnM_e, N_Meeting_last_then.m, meO, earO, he.1, he.2.1, hw.1, hw.2.1, h1, h2, h3, lastT, s1, s2]
end G
end VS
set_option Elab.async false
set_option linter.all false
set_option maxRecDepth 100000
set_option maxHeartbeats 4000000
/-! R4: _met, outcome, behind. -/
namespace VS
open PySem PySem.Spec PyProof.Rows L2
namespace G
def EarS.good (E : EarS) : Prop := fzs E.sg = E.sg ∧ ∀ n, shs (n + 1) E.sg = true
theorem ok_plain {x : Str} (h : PyData.strOk x = true) : PyData.strOk (plainS x) = true := by
  unfold plainS
  split
  · simp
  · exact h
theorem sh_sigF {ss : List Str} {kind side rel : Str} {same : Bool} {n : Nat} (h1 : PyData.strOk kind = true) (h2 : PyData.strOk side = true) (h3 : PyData.strOk rel = true) : sh (n + 1) (sigF ss kind side same rel) = true := by
  have e1 := ok_plain h2
  have e2 := ok_plain h3
  by_cases o : ("own" : Str) ∈ ss <;> by_cases r : ("related" : Str) ∈ ss <;> simp [sigF, o, r, h1, h2, e1, e2]
theorem EarS.good.step {p kind : Str} {ks ss : List Str} {who : D} {stops : Int} {E : EarS} {a b : Int} (h : E.good) (h1 : PyData.strOk kind = true) : (stepN p ks ss stops E kind who a b).good := by
  unfold stepN earStep
  split
  · refine ⟨by simp [h.1], fun n => ?_⟩
    simp [h.2 n, sh_sigF h1 (ok_sideOf (n := a)) (ok_sideOf (n := b))]
  · exact h
theorem E0_good {l : Int} : (G.E0 l).good := ⟨by simp [G.E0], fun n => by simp [G.E0]⟩
theorem runPt_good {p : Str} {ks ss : List Str} {stops o l t g : Int} {E : EarS} (h : E.good) : (runPt p ks ss stops o l t g E).good := by
  unfold runPt
  dsimp only
  split
  · exact h.step (by simp)
  · split
    · exact ((h.step (by simp)).step (by simp)).step (by simp)
    · exact (h.step (by simp)).step (by simp)
theorem runSt_good {p : Str} {ks ss : List Str} {stops o t : Int} {E : EarS} (h : E.good) : (runSt p ks ss stops o t E).good := by
  unfold runSt
  dsimp only
  have h1 : (if o = 0 then E else stepN p ks ss stops E (if t = 3 ∨ t = 4 then "drop" else "leave") (.str "current") o 0).good := by
    split
    · exact h
    · exact h.step (by split <;> simp)
  split
  · refine ⟨?_, fun n => ?_⟩
    · dsimp only
      split
      · simp [h1.1, endD]
      · exact h1.1
    · dsimp only
      split
      · simp [h1.2 n, endD]
      · exact h1.2 n
  · exact h1
theorem runPt_ok {p : Str} {ks ss : List Str} {stops o l t g : Int} {E : EarS} (h : E.ok) (hl : E.sg.length < 800) : (runPt p ks ss stops o l t g E).ok ∧ (runPt p ks ss stops o l t g E).sg.length ≤ E.sg.length + 3 := by
  unfold runPt
  dsimp only
  have sw : Sca (.str (whoS g)) := sca_str ok_who
  have sc : Sca (.str "current") := sca_str (by simp)
  split
  · obtain ⟨a, b⟩ := h.step (p := p) (kind := "over") (side := sideOf (numT o l g)) (rel := sideOf 0) (ks := ks) (ss := ss) (stops := stops) (root := false) sw (by omega)
    exact ⟨a, by unfold stepN; omega⟩
  · obtain ⟨a, b⟩ := h.step (p := p) (kind := "enter") (side := sideOf (numT o l g)) (rel := sideOf o) (ks := ks) (ss := ss) (stops := stops) (root := false) sw (by omega)
    split
    · obtain ⟨a2, b2⟩ := a.step (p := p) (kind := "leave") (side := sideOf o) (rel := sideOf (numT o l g)) (ks := ks) (ss := ss) (stops := stops) (root := false) sc (by omega)
      obtain ⟨a3, b3⟩ := a2.step (p := p) (kind := "over") (side := sideOf (numT o l g)) (rel := sideOf 0) (ks := ks) (ss := ss) (stops := stops) (root := false) sw (by omega)
      exact ⟨a3, by unfold stepN; omega⟩
    · obtain ⟨a2, b2⟩ := a.step (p := p) (kind := "over") (side := sideOf (numT o l g)) (rel := sideOf 0) (ks := ks) (ss := ss) (stops := stops) (root := false) sw (by omega)
      exact ⟨a2, by unfold stepN; omega⟩
theorem runSt_ok {p : Str} {ks ss : List Str} {stops o t : Int} {E : EarS} (h : E.ok) (hl : E.sg.length < 800) : (runSt p ks ss stops o t E).ok := by
  unfold runSt
  dsimp only
  have sc : Sca (.str "current") := sca_str (by simp)
  have h1 : (if o = 0 then E else stepN p ks ss stops E (if t = 3 ∨ t = 4 then "drop" else "leave") (.str "current") o 0).ok ∧ (if o = 0 then E else stepN p ks ss stops E (if t = 3 ∨ t = 4 then "drop" else "leave") (.str "current") o 0).sg.length ≤ E.sg.length + 1 := by
    split
    · exact ⟨h, by omega⟩
    · exact h.step sc (by omega)
  generalize (if o = 0 then E else stepN p ks ss stops E (if t = 3 ∨ t = 4 then "drop" else "leave") (.str "current") o 0) = E1 at h1
  obtain ⟨⟨a1, a2, a3, a4⟩, b⟩ := h1
  split
  · refine ⟨a1, a2, ?_, ?_⟩
    · dsimp only
      split
      · simp; omega
      · omega
    · dsimp only
      split
      · have : ∀ a b : List D, pures? (a ++ b) = (pures? a && pures? b) := fun a b => by
          induction a with
          | nil => simp
          | cons x a ih => simp [ih, Bool.and_assoc]
        rw [this, a4]
        simp [endD]
      · exact a4
  · exact ⟨a1, a2, a3, a4⟩
def metE (p : Str) (ks ss : List Str) (o l t g s : Int) : EarS := if t ≤ 1 then runPt p ks ss s o l t g (G.E0 l) else runSt p ks ss s o t (G.E0 l)
def metW (t g : Int) : D := if t ≤ 1 then .str (whoS g) else .non
def metN (o l t g : Int) : Int := if t ≤ 1 then numT o l g else 0
/-- a turn with its parts in their bounds -/
structure TurnOk (o l t g s : Int) : Prop where
  o0 : 0 ≤ o
  o1 : o < 4
  l0 : 0 ≤ l
  l1 : l ≤ 4
  t0 : 0 ≤ t
  t1 : t ≤ 6
  g0 : 0 ≤ g
  g1 : g ≤ 4
  gl : g = 1 → 1 ≤ l ∧ l ≤ 3
section
variable {p : Str} {ks ss : List Str} {o l t g s : Int} (hp : PyData.strOk p = true) (hks : AllOk ks) (hss : AllOk ss)
include hp hks hss
theorem met_e (T : TurnOk o l t g s) : f__met [stO false p ks ss, turnD o l t g s] =
    .ok (.tup [(metE p ks ss o l t g s).ent, .tup [.int (metN o l t g), .int (lastT o l t (metE p ks ss o l t g s).ent (metW t g))], .tup (metE p ks ss o l t g s).sg]) [stO false p ks ss, turnD o l t g s] := by
  obtain ⟨o0, o1, l0, l1, t0, t1, g0, g1, gl⟩ := T
  have e1 := minit_e (p := p) (ks := ks) (ss := ss) (o := o) (l := l) (t := t) (g := g) (s := s)
  have n0 : 0 ≤ numT o l g := by unfold numT; split; omega; split; (have := gl ‹_›; omega); omega
  have n1 : numT o l g < 4 := by unfold numT; split; omega; split; (have := gl ‹_›; omega); omega
  have hS : has? (stO false p ks ss) = true ∧ pure? (stO false p ks ss) = true := by simp [stO]
  have hT : has? (turnD o l t g s) = true ∧ pure? (turnD o l t g s) = true := by simp [turnD]
  have hm : ∀ E (m : Str), ([("over" : Str), "last", "tick", "target", "ear"] : List Str).contains m = false → objO "Meeting" m (some (meO o l t g (earOf p ks ss s E))) = true := fun E m h => by simp [meO, objO]; simpa using h
  have hm1 := fun E => hm E "point" (by decide +kernel)
  have hm2 := fun E => hm E "stop" (by decide +kernel)
  have hm3 := fun E => hm E "last_then" (by decide +kernel)
  have hmh : ∀ E, has? (meO o l t g (earOf p ks ss s E)) = true := fun E => by simp [meO]
  have gp : ∀ E, getP (meO o l t g (earOf p ks ss s E)) [Stp.fld "Meeting" "tick"] = some (.int t) := fun E => by simp [meO]
  have gq : ∀ E : EarS, getP (meO o l t g (earOf p ks ss s E)) [Stp.fld "Meeting" "ear", Stp.fld "Ear" "entered"] = some E.ent := fun E => by simp [meO, earOf, earO]
  have gr : ∀ E : EarS, getP (meO o l t g (earOf p ks ss s E)) [Stp.fld "Meeting" "ear", Stp.fld "Ear" "signals"] = some (.lst true E.sg) := fun E => by simp [meO, earOf, earO]
  have l8 : (G.E0 l).sg.length < 800 := by simp [G.E0]
  by_cases ht : t ≤ 1
  · have ep := point_e (l := l) (t := t) (g := g) hp hks hss (stops := s) E0_ok l8 o0 o1 n0 n1
    obtain ⟨ok, _⟩ := runPt_ok (p := p) (ks := ks) (ss := ss) (stops := s) (o := o) (l := l) (t := t) (g := g) (E := G.E0 l) E0_ok l8
    have sw : Sca (.str (whoS g)) := sca_str ok_who
    have el := last_e (o := o) (l := l) (t := t) (g := g) (S := stO false p ks ss) (ent := (runPt p ks ss s o l t g (G.E0 l)).ent) (who := .str (whoS g)) (stops := s) (cnt := (runPt p ks ss s o l t g (G.E0 l)).cnt) (sg := (runPt p ks ss s o l t g (G.E0 l)).sg) ok.1 sw
    have hE : metE p ks ss o l t g s = runPt p ks ss s o l t g (G.E0 l) := if_pos ht
    have tt : t = 0 ∨ t = 1 := by omega
    have ti : (decide (0 = t) || decide (1 = t)) = true := by simp; omega
    rw [hE, metN, metW, if_pos ht, if_pos ht]
    generalize hR : runPt p ks ss s o l t g (G.E0 l) = R at *
    have el' : f_Meeting_last_then [meO o l t g (earOf p ks ss s R), .str (whoS g)] = .ok (.int (lastT o l t R.ent (.str (whoS g)))) [meO o l t g (earOf p ks ss s R), .str (whoS g)] := el
    simp [f__met, fnM_e, N__met.m, hS, hT, e1, hmh, hm1, hm3, gp, gq, gr, ep, ti, ok.1.1, ok.1.2.1, ok.2.2.2, el']
  · have ep := stop_e (l := l) (t := t) (g := g) hp hks hss (stops := s) E0_ok l8 o0 o1 (by omega) t1
    have ok := runSt_ok (p := p) (ks := ks) (ss := ss) (stops := s) (o := o) (t := t) (E := G.E0 l) E0_ok l8
    have el := last_e (o := o) (l := l) (t := t) (g := g) (S := stO false p ks ss) (ent := (runSt p ks ss s o t (G.E0 l)).ent) (who := .non) (stops := s) (cnt := (runSt p ks ss s o t (G.E0 l)).cnt) (sg := (runSt p ks ss s o t (G.E0 l)).sg) ok.1 sca_non
    have hE : metE p ks ss o l t g s = runSt p ks ss s o t (G.E0 l) := if_neg ht
    have ti : (decide (0 = t) || decide (1 = t)) = false := by simp; omega
    rw [hE, metN, metW, if_neg ht, if_neg ht]
    generalize hR : runSt p ks ss s o t (G.E0 l) = R at *
    have el' : f_Meeting_last_then [meO o l t g (earOf p ks ss s R), .non] = .ok (.int (lastT o l t R.ent .non)) [meO o l t g (earOf p ks ss s R), .non] := el
    simp [f__met, fnM_e, N__met.m, hS, hT, e1, hmh, hm2, hm3, gp, gq, gr, ep, ti, ok.1.1, ok.1.2.1, ok.2.2.2, el']
/-- the situation and the signals behind a turn -/
def outD (p : Str) (ks ss : List Str) (o l t g s : Int) : D := .tup [.tup [.int (metN o l t g), .int (lastT o l t (metE p ks ss o l t g s).ent (metW t g))], .tup (metE p ks ss o l t g s).sg]
theorem metE_ok : (metE p ks ss o l t g s).ok ∧ (metE p ks ss o l t g s).good := by
  unfold metE
  split
  · exact ⟨(runPt_ok E0_ok (by simp [G.E0])).1, runPt_good E0_good⟩
  · exact ⟨runSt_ok E0_ok (by simp [G.E0]), runSt_good E0_good⟩
theorem outcome_e (T : TurnOk o l t g s) : f_outcome [stO false p ks ss, turnD o l t g s] = .ok (outD p ks ss o l t g s) [stO false p ks ss, turnD o l t g s] := by
  have e := met_e hp hks hss T
  obtain ⟨⟨a1, a2, a3, a4⟩, b1, b2⟩ := metE_ok hp hks hss (o := o) (l := l) (t := t) (g := g) (s := s)
  have hS : has? (stO false p ks ss) = true ∧ pure? (stO false p ks ss) = true := by simp [stO]
  have hT : has? (turnD o l t g s) = true ∧ pure? (turnD o l t g s) = true := by simp [turnD]
  simp [f_outcome, fnM_e, N_outcome.m, hS, hT, e, a1.1, a1.2.1, a1.2.2.1, a4, b1, outD]
theorem behind_e {si : D} (T : TurnOk o l t g s) (h1 : has? si = true) (h2 : pure? si = true) : f_behind [stO false p ks ss, si, turnD o l t g s] = .ok (outD p ks ss o l t g s) [stO false p ks ss, si, turnD o l t g s] := by
  have e := outcome_e hp hks hss T
  have hS : has? (stO false p ks ss) = true ∧ pure? (stO false p ks ss) = true := by simp [stO]
  have hT : has? (turnD o l t g s) = true ∧ pure? (turnD o l t g s) = true := by simp [turnD]
  simp [f_behind, fnM_e, N_behind.m, hS, hT, e, h1, h2]
end
end G
end VS
set_option Elab.async false
set_option linter.all false
set_option maxRecDepth 100000
set_option maxHeartbeats 4000000
/-! R5: the law's way of the same. -/
namespace VS
open PySem PySem.Spec PyProof.Rows L2
namespace G
theorem x3_0 (a b c : D) : atI [a, b, c] 0 = some a := rfl
theorem x3_1 (a b c : D) : atI [a, b, c] 1 = some b := rfl
theorem x3_2 (a b c : D) : atI [a, b, c] 2 = some c := rfl
def lreachB (p : Str) (ks : List Str) (kind : Str) (n : Int) (root stopped : Bool) : Bool :=
  if kind ∈ ks then (if kind = "end" then !decide (p = "zone") else if p = "zone" then (decide (n = 3) || (decide (n = 2) && !stopped)) else (decide (p = "capture") || (root || !stopped))) else false
theorem lreaches_e {p : Str} {ks ss : List Str} {kind : Str} {n : Int} {root stopped : Bool} (hp : PyData.strOk p = true) (hks : AllOk ks) (h1 : PyData.strOk kind = true) :
    f__law_reaches [stL p ks ss, .str kind, .int n, .bl root, .bl stopped] = .ok (.bl (lreachB p ks kind n root stopped)) [stL p ks ss, .str kind, .int n, .bl root, .bl stopped] := by
  have hs := hks.shs (n := 63)
  by_cases k : kind ∈ ks
  · by_cases e : kind = "end"
    · subst e
      simp [f__law_reaches, fnM_e, N__law_reaches.m, stL, kl, x3_0, x3_1, hs, any_mem', any_mem, List.any_map, Function.comp_def, k, hp, lreachB]
    · by_cases z : p = "zone"
      · subst z
        by_cases n3 : n = 3
        · subst n3
          simp [f__law_reaches, fnM_e, N__law_reaches.m, stL, kl, x3_0, x3_1, hs, any_mem', any_mem, List.any_map, Function.comp_def, k, e, h1, lreachB]
        · by_cases n2 : n = 2
          · subst n2
            simp [f__law_reaches, fnM_e, N__law_reaches.m, stL, kl, x3_0, x3_1, hs, any_mem', any_mem, List.any_map, Function.comp_def, k, e, h1, lreachB]
          · simp [f__law_reaches, fnM_e, N__law_reaches.m, stL, kl, x3_0, x3_1, hs, any_mem', any_mem, List.any_map, Function.comp_def, k, e, h1, lreachB, n2, n3]
      · by_cases c : p = "capture"
        · subst c
          simp [f__law_reaches, fnM_e, N__law_reaches.m, stL, kl, x3_0, x3_1, hs, any_mem', any_mem, List.any_map, Function.comp_def, k, e, h1, lreachB]
        · cases root <;> simp [f__law_reaches, fnM_e, N__law_reaches.m, stL, kl, x3_0, x3_1, hs, any_mem', any_mem, List.any_map, Function.comp_def, k, e, h1, hp, z, c, lreachB]
  · simp [f__law_reaches, fnM_e, N__law_reaches.m, stL, kl, x3_0, x3_1, hs, any_mem', any_mem, List.any_map, Function.comp_def, k, h1, lreachB]
/-- both say alike what is heard -/
theorem lreach_hear {p : Str} {ks : List Str} {kind : Str} {n : Int} {root stopped : Bool} (hp : p ∈ PLACES) (n0 : 0 ≤ n) (n1 : n < 4) (hk : kind ≠ "end") : lreachB p ks kind n root stopped = hearB p ks kind (sideOf n) root stopped := by
  have : n = 0 ∨ n = 1 ∨ n = 2 ∨ n = 3 := by omega
  simp at hp
  by_cases k : kind ∈ ks
  · rcases hp with rfl | rfl | rfl <;> rcases this with rfl | rfl | rfl | rfl <;> simp [lreachB, hearB, reachB, sideOf, k, hk]
  · simp [lreachB, hearB, k]
theorem atI4 {a b c d : D} {n : Int} (h0 : 0 ≤ n) (h1 : n < 4) : atI [a, b, c, d] n = some (if n = 0 then a else if n = 1 then b else if n = 2 then c else d) := by
  have : n = 0 ∨ n = 1 ∨ n = 2 ∨ n = 3 := by omega
  rcases this with rfl | rfl | rfl | rfl <;> simp [atI, ixN]
theorem lsignal_e {p : Str} {ks ss : List Str} {kind : Str} {n r : Int} {same : Bool} (hss : AllOk ss) (h1 : PyData.strOk kind = true) (hk : kind ≠ "end") (n0 : 1 ≤ n) (n1 : n < 4) (r0 : 0 ≤ r) (r1 : r < 4) :
    f__law_signal [stL p ks ss, .str kind, .int n, .bl same, .int r] = .ok (sigF ss kind (sideOf n) same (sideOf r)) [stL p ks ss, .str kind, .int n, .bl same, .int r] := by
  have hs := hss.shs (n := 63)
  have hn : n = 1 ∨ n = 2 ∨ n = 3 := by omega
  have hr : r = 0 ∨ r = 1 ∨ r = 2 ∨ r = 3 := by omega
  by_cases o : ("own" : Str) ∈ ss <;> by_cases w : ("related" : Str) ∈ ss <;> by_cases q : ("same" : Str) ∈ ss <;> cases same <;> rcases hn with rfl | rfl | rfl <;> rcases hr with rfl | rfl | rfl | rfl <;>
    simp [f__law_signal, fnM_e, N__law_signal.m, stL, kl, x3_2, atI, ixN, hs, any_mem', any_mem, List.any_map, Function.comp_def, o, w, q, h1, hk, sigF, sideOf, plainS]
theorem lend_e {p : Str} {ks ss : List Str} {n r : Int} {same : Bool} : f__law_signal [stL p ks ss, .str "end", .int n, .bl same, .int r] = .ok endD [stL p ks ss, .str "end", .int n, .bl same, .int r] := by
  simp [f__law_signal, fnM_e, N__law_signal.m, stL, endD]
end G
end VS
set_option Elab.async false
set_option linter.all false
set_option maxRecDepth 100000
set_option maxHeartbeats 4000000
/-! R6: _law_situation, _law_behind. -/
namespace VS
open PySem PySem.Spec PyProof.Rows L2
namespace G
def lold (o l t : Int) : Int := if l = 4 then (if t = 1 then 0 else o) else l
def lsit (o l t g x : Int) (ent : Bool) : D :=
  if t < 2 ∧ g = 0 then .tup [.int o, .int l] else if t < 2 ∧ (ent = true ∨ g = 1) then .tup [.int x, .int 4] else if t < 2 then .tup [.int x, .int (lold o l t)] else .tup [.int 0, .int (lold o l t)]
theorem cmo {o : Int} (o0 : 0 ≤ o) (o1 : o < 4) (j : Int) : CMul o j := .inl ⟨by omega, by omega⟩
theorem lsit_e {o l t g s x : Int} {ent : Bool} (o0 : 0 ≤ o) (o1 : o < 4) : f__law_situation [turnD o l t g s, .int x, .bl ent] = .ok (lsit o l t g x ent) [turnD o l t g s, .int x, .bl ent] := by
  have cm := cmo o0 o1
  by_cases ht : t < 2
  · by_cases hg : g = 0
    · subst hg; simp [f__law_situation, fnM_e, N__law_situation.m, turnD, lsit, ht]
    · cases ent with
      | true => simp [f__law_situation, fnM_e, N__law_situation.m, turnD, lsit, ht, hg]
      | false =>
        by_cases h1 : g = 1
        · subst h1; simp [f__law_situation, fnM_e, N__law_situation.m, turnD, lsit, ht]
        · by_cases h4 : l = 4
          · subst h4
            by_cases t1 : t = 1
            · subst t1; simp [f__law_situation, fnM_e, N__law_situation.m, turnD, lsit, hg, h1, cm, lold]
            · simp [f__law_situation, fnM_e, N__law_situation.m, turnD, lsit, ht, hg, h1, cm, lold, t1]
          · simp [f__law_situation, fnM_e, N__law_situation.m, turnD, lsit, ht, hg, h1, h4, lold]
  · by_cases h4 : l = 4
    · subst h4
      have t1 : ¬ t = 1 := by omega
      simp [f__law_situation, fnM_e, N__law_situation.m, turnD, lsit, ht, cm, lold, t1]
    · simp [f__law_situation, fnM_e, N__law_situation.m, turnD, lsit, ht, h4, lold]
structure Ev where
  k : Str
  n : Int
  s : Bool
  r : Int
def Ev.ok (e : Ev) : Prop := PyData.strOk e.k = true ∧ e.k ≠ "end" ∧ 1 ≤ e.n ∧ e.n < 4 ∧ 0 ≤ e.r ∧ e.r < 4
def evD (e : Ev) : D := .tup [.str e.k, .int e.n, .bl e.s, .int e.r]
structure LawS where
  ent : Bool
  sg : List D
def stopL (s : Int) (k : Nat) : Bool := decide (s / (if k = 0 then 1 else if k = 1 then 2 else 4) % 2 = 1)
def lstep (p : Str) (ks ss : List Str) (s : Int) (k : Nat) (L : LawS) (e : Ev) : LawS :=
  if lreachB p ks e.k e.n false (stopL s k) = true then ⟨L.ent || decide (e.k = "enter"), L.sg ++ [sigF ss e.k (sideOf e.n) (if L.ent = true then decide (e.k = "over") else e.s) (sideOf e.r)]⟩ else L
def lrun (p : Str) (ks ss : List Str) (s : Int) : Nat → LawS → List Ev → LawS
  | _, L, [] => L
  | k, L, e :: es => lrun p ks ss s (k + 1) (lstep p ks ss s k L e) es
theorem drop_at {α : Type} {xs : List α} {i : Nat} {x : α} (h : xs[i]? = some x) : xs.drop i = x :: xs.drop (i + 1) := by
  obtain ⟨hi, e⟩ := List.getElem?_eq_some_iff.mp h
  rw [List.drop_eq_getElem_cons hi, e]
def lawBody : SM := (seqM (asgM (tgTup 4 (tgCons (tgN 12) (tgCons (tgN 13) (tgCons (tgN 14) (tgCons (tgN 15) tgNil))))) (ixPM 3 [] (rd 6)))
  (iteM (testM (callM 5 [.tmp, .tmp, .tmp, .tmp, .tmp] f__law_reaches (consM (rd 0) (consM (rd 12) (consM (rd 13) (consM (blM false) (consM (opM (eqP false) (opM modD (clM (one intD) (consM (opM divD (rd 11) (opM ixD (clM lstD (consM (intM 1) (consM (intM 2) (consM (intM 4) nilM)))) (rd 6))) nilM)) (intM 2)) (intM 1)) nilM))))))) (seqM (iteM (truM (rd 5)) (setM 14 (opM (eqP false) (rd 12) (strM "over"))) skipM)
  (seqM (dropM (lmM 4 [] appF (consM (fzM (callM 5 [.tmp, .tmp, .tmp, .tmp, .tmp] f__law_signal (consM (rd 0) (consM (rd 12) (consM (rd 13) (consM (rd 14) (consM (rd 15) nilM))))))) nilM)))
  (setM 5 (orV (rd 5) (opM (eqP false) (rd 12) (strM "enter")))))) skipM))
theorem at124 {k : Nat} (h : k < 3) : atI [D.int 1, .int 2, .int 4] (k : Int) = some (.int (if k = 0 then 1 else if k = 1 then 2 else 4)) := by
  have : k = 0 ∨ k = 1 ∨ k = 2 := by omega
  rcases this with rfl | rfl | rfl <;> simp [atI, ixN]
theorem cd124 {k : Nat} {s : Int} : CDiv s (if k = 0 then 1 else if k = 1 then 2 else 4) := by
  unfold CDiv
  split
  · decide
  · split <;> decide
theorem lawLoop_ok {p : Str} {ks ss : List Str} {s o l t g x : Int} {L : LawS} {evs : List Ev} {tu a6 a12 a13 a14 a15 : D} {Q : Fl → List D → Prop} {m : Nat} (hm : m = evs.length) (hp : PyData.strOk p = true) (hks : AllOk ks) (hss : AllOk ss) (hev : ∀ e ∈ evs, e.ok) (hl : evs.length ≤ 3) (hsg : L.sg.length < 100)
    (hQ : ∀ a6 a12 a13 a14 a15, Q .nx [stL p ks ss, tu, .int x, .lst true (evs.map evD), .lst true (lrun p ks ss s 0 L evs).sg, .bl (lrun p ks ss s 0 L evs).ent, a6, .int o, .int l, .int t, .int g, .int s, a12, a13, a14, a15]) :
    Vl (forM (tgN 6) lawBody (rangeD 0 m) [stL p ks ss, tu, .int x, .lst true (evs.map evD), .lst true L.sg, .bl L.ent, a6, .int o, .int l, .int t, .int g, .int s, a12, a13, a14, a15]) Q := by
  subst hm
  obtain ⟨I, hI⟩ := hide (fun (i : Nat) (ρ : List D) => ∃ (L' : LawS) (a6 a12 a13 a14 a15 : D), ρ = [stL p ks ss, tu, .int x, .lst true (evs.map evD), .lst true L'.sg, .bl L'.ent, a6, .int o, .int l, .int t, .int g, .int s, a12, a13, a14, a15] ∧ lrun p ks ss s i L' (evs.drop i) = lrun p ks ss s 0 L evs ∧ L'.sg.length < 100 + i)
  refine Vl_for I (by rw [hI]; exact ⟨L, _, _, _, _, _, rfl, rfl, by omega⟩) ?_ ?_
  · intro i d ρ hd h
    rw [hI] at h
    obtain ⟨L', a6, a12, a13, a14, a15, rfl, hr, hlen⟩ := h
    obtain ⟨rfl, hi⟩ := rangeD_get hd
    have hev' : evs[i]? = some evs[i] := List.getElem?_eq_getElem hi
    have dr := drop_at hev'
    have hb : L'.sg.length < big := by unfold big; omega
    obtain ⟨ek1, ek2, en0, en1, er0, er1⟩ := hev _ (List.getElem_mem hi)
    generalize hee : evs[i] = e at *
    rw [dr, lrun] at hr
    have i1 : atI (evs.map evD) (i : Int) = some (evD e) := by simp [atI, ixN, hi, hee]
    have r1 := lreaches_e (ss := ss) (n := e.n) (root := false) (stopped := stopL s i) hp hks ek1
    have r2 := fun same => lsignal_e (p := p) (ks := ks) (ss := ss) (same := same) hss ek1 ek2 en0 en1 er0 er1
    have hst : decide (s / (if i = 0 then 1 else if i = 1 then 2 else 4) % 2 = 1) = stopL s i := rfl
    have hS : has? (stL p ks ss) = true ∧ pure? (stL p ks ss) = true := by simp [stL]
    have a124 := at124 (k := i) (by omega)
    simp [lawBody, i1, evD, hS, a124, cd124, hst, r1]
    cases hh : lreachB p ks e.k e.n false (stopL s i) with
    | false =>
      simp
      rw [hI]
      refine ⟨L', _, _, _, _, _, rfl, ?_, by omega⟩
      rw [← hr]
      simp [lstep, hh]
    | true =>
      cases hent : L'.ent with
      | true =>
        have es : lstep p ks ss s i L' e = ⟨true, L'.sg ++ [sigF ss e.k (sideOf e.n) (decide (e.k = "over")) (sideOf e.r)]⟩ := by simp [lstep, hh, hent]
        rw [es] at hr
        simp [hS, ek1, r2, hb]
        rw [hI]
        exact ⟨_, _, _, _, _, _, rfl, hr, by simp; omega⟩
      | false =>
        have es : lstep p ks ss s i L' e = ⟨decide (e.k = "enter"), L'.sg ++ [sigF ss e.k (sideOf e.n) e.s (sideOf e.r)]⟩ := by simp [lstep, hh, hent]
        rw [es] at hr
        simp [hS, ek1, r2, hb]
        rw [hI]
        exact ⟨_, _, _, _, _, _, rfl, hr, by simp; omega⟩
  · intro ρ h
    rw [hI] at h
    obtain ⟨L', a6, a12, a13, a14, a15, rfl, hr, hlen⟩ := h
    rw [rangeD_len, List.drop_length] at hr
    have hr : L' = lrun p ks ss s 0 L evs := hr
    rw [hr]
    exact hQ _ _ _ _ _
end G
end VS
set_option Elab.async false
set_option linter.all false
set_option maxRecDepth 100000
set_option maxHeartbeats 4000000
/-! R7: _law_behind. -/
namespace VS
open PySem PySem.Spec PyProof.Rows L2
namespace G
def stopK (t : Int) : Str := if t = 3 ∨ t = 4 then "drop" else "leave"
def evsOf (o l t g : Int) : List Ev :=
  if t < 2 then (if g = 0 then [⟨"over", o, decide (l = 4), 0⟩] else
    ⟨"enter", numT o l g, decide (g = 1), o⟩ :: ((if t = 0 ∧ 0 < o then [⟨"leave", o, decide (l = 4), numT o l g⟩] else []) ++ [⟨"over", numT o l g, decide (g = 1), 0⟩]))
  else if 0 < o then [⟨stopK t, o, decide (l = 4), 0⟩] else []
structure TurnOk' (o l t g s : Int) : Prop extends TurnOk o l t g s where
  go : t ≤ 1 → g = 0 → 1 ≤ o
  gt : 2 ≤ t → g = 0
theorem numT_b {o l t g s : Int} (T : TurnOk' o l t g s) (ht : t < 2) : 1 ≤ numT o l g ∧ numT o l g < 4 := by
  obtain ⟨⟨o0, o1, l0, l1, t0, t1, g0, g1, gl⟩, go, gt⟩ := T
  unfold numT
  split
  · have := go (by omega) ‹_›; omega
  · split
    · have := gl ‹_›; omega
    · omega
theorem evs_ok {o l t g s : Int} (T : TurnOk' o l t g s) : (∀ e ∈ evsOf o l t g, e.ok) ∧ (evsOf o l t g).length ≤ 3 := by
  have nb := numT_b T
  obtain ⟨⟨o0, o1, l0, l1, t0, t1, g0, g1, gl⟩, go, gt⟩ := T
  unfold evsOf
  by_cases ht : t < 2
  · rw [if_pos ht]
    have nb := nb ht
    by_cases hg : g = 0
    · rw [if_pos hg]
      have := go (by omega) hg
      simp [Ev.ok]
      omega
    · rw [if_neg hg]
      by_cases h2 : t = 0 ∧ 0 < o
      · rw [if_pos h2]
        simp [Ev.ok]
        omega
      · rw [if_neg h2]
        simp [Ev.ok]
        omega
  · rw [if_neg ht]
    by_cases h2 : 0 < o
    · rw [if_pos h2]
      simp only [List.mem_singleton, forall_eq, List.length_singleton]
      refine ⟨⟨?_, ?_, by dsimp only; omega, by dsimp only; omega, by dsimp only; omega, by dsimp only; omega⟩, by omega⟩
      · dsimp only [stopK]; split <;> simp
      · dsimp only [stopK]; split <;> simp
    · rw [if_neg h2]
      simp
def lawEnd (p : Str) (ks : List Str) (t : Int) (sg : List D) : List D := if (t = 3 ∨ t = 5) ∧ lreachB p ks "end" 1 true false = true then sg ++ [endD] else sg
def lawR (p : Str) (ks ss : List Str) (o l t g s : Int) : LawS := lrun p ks ss s 0 ⟨false, []⟩ (evsOf o l t g)
def lbehD (p : Str) (ks ss : List Str) (o l t g s : Int) : D := .lst true [lsit o l t g (numT o l g) (lawR p ks ss o l t g s).ent, .lst false (lawEnd p ks t (lawR p ks ss o l t g s).sg)]
theorem atX {o l g : Int} (g0 : 0 ≤ g) (g1 : g ≤ 4) : atI [D.int o, .int l, .int 1, .int 2, .int 3] g = some (.int (numT o l g)) := by
  have : g = 0 ∨ g = 1 ∨ g = 2 ∨ g = 3 ∨ g = 4 := by omega
  rcases this with rfl | rfl | rfl | rfl | rfl <;> simp [atI, ixN, numT]
theorem atK {t : Int} (t0 : 2 ≤ t) (t1 : t ≤ 6) : atI [D.str "leave", .str "drop", .str "drop", .str "leave", .str "leave"] (t - 2) = some (.str (stopK t)) := by
  have : t = 2 ∨ t = 3 ∨ t = 4 ∨ t = 5 ∨ t = 6 := by omega
  rcases this with rfl | rfl | rfl | rfl | rfl <;> simp [atI, ixN, stopK]
def LG (L : LawS) : Prop := fzs L.sg = L.sg ∧ pures? L.sg = true ∧ ∀ n, shs (n + 1) L.sg = true
theorem pures_app {a b : List D} : pures? (a ++ b) = (pures? a && pures? b) := by
  induction a with
  | nil => simp
  | cons x a ih => simp [ih, Bool.and_assoc]
theorem lrun_good {p : Str} {ks ss : List Str} {s : Int} : ∀ {evs : List Ev} {k : Nat} {L : LawS}, LG L → (∀ e ∈ evs, e.ok) → LG (lrun p ks ss s k L evs) ∧ (lrun p ks ss s k L evs).sg.length ≤ L.sg.length + evs.length
  | [], _, L, h, _ => ⟨h, by simp [lrun]⟩
  | e :: evs, k, L, h, he => by
    have h1 := he e (by simp)
    have hs : LG (lstep p ks ss s k L e) ∧ (lstep p ks ss s k L e).sg.length ≤ L.sg.length + 1 := by
      unfold lstep
      split
      · exact ⟨⟨by simp [h.1], by simp [pures_app, h.2.1], fun n => by simp [h.2.2 n, sh_sigF h1.1 (ok_sideOf (n := e.n)) (ok_sideOf (n := e.r))]⟩, by simp⟩
      · exact ⟨h, by omega⟩
    obtain ⟨a, b⟩ := lrun_good (k := k + 1) hs.1 fun e' h' => he e' (List.mem_cons_of_mem _ h')
    exact ⟨a, by simp only [lrun, List.length_cons]; omega⟩
section
variable {p : Str} {ks ss : List Str} {o l t g s : Int} (hp : PyData.strOk p = true) (hks : AllOk ks) (hss : AllOk ss)
include hp hks hss
def tailM : SM := (seqM
            (iteM
              (andM (testM (opM (inP false) (rd 9) (clM tupD (consM (intM 3) (consM (intM 5) nilM)))))
                (testM
                  (callM 5 [AK.tmp, AK.tmp, AK.tmp, AK.tmp, AK.tmp] f__law_reaches
                    (consM (rd 0)
                      (consM (strM (Str.ofString "end"))
                        (consM (intM 1) (consM (blM true) (consM (blM false) nilM))))))))
              (dropM
                (lmM 4 [] appF
                  (consM
                    (fzM
                      (callM 5 [AK.tmp, AK.tmp, AK.tmp, AK.tmp, AK.tmp] f__law_signal
                        (consM (rd 0)
                          (consM (strM (Str.ofString "end"))
                            (consM (intM 1) (consM (blM false) (consM (intM 0) nilM)))))))
                    nilM)))
              skipM)
            (retM
              (clM lstD
                (consM
                  (callM 3 [AK.tmp, AK.tmp, AK.tmp] f__law_situation (consM (rd 1) (consM (rd 2) (consM (rd 5) nilM))))
                  (consM (fzv 4) nilM)))))
theorem tail_ok {x : Int} {L : LawS} {evs a6 a12 a13 a14 a15 : D} {Q : D → List D → Prop} (o0 : 0 ≤ o) (o1 : o < 4) (hL : LG L) (hl : L.sg.length < 100)
    (hQ : Q (.lst true [lsit o l t g x L.ent, .lst false (lawEnd p ks t L.sg)]) [stL p ks ss, turnD o l t g s]) :
    Vl (seqK tailM .nx [stL p ks ss, turnD o l t g s, .int x, evs, .lst true L.sg, .bl L.ent, a6, .int o, .int l, .int t, .int g, .int s, a12, a13, a14, a15]) (FE 2 [2, 3, 4, 5, 6, 7, 8, 9, 10, 11, 12, 13, 14, 15] Q) := by
  have le := lsit_e (l := l) (t := t) (g := g) (s := s) (x := x) (ent := L.ent) o0 o1
  have re := lreaches_e (ss := ss) (kind := "end") (n := 1) (root := true) (stopped := false) hp hks (by simp)
  have se := lend_e (p := p) (ks := ks) (ss := ss) (n := 1) (r := 0) (same := false)
  have hS : has? (stL p ks ss) = true ∧ pure? (stL p ks ss) = true := by simp [stL]
  have hT : has? (turnD o l t g s) = true ∧ pure? (turnD o l t g s) = true := by simp [turnD]
  obtain ⟨h1, h2, h3⟩ := hL
  have hb : L.sg.length < big := by unfold big; omega
  by_cases h : t = 3 ∨ t = 5
  · have h' : (decide (3 = t) || decide (5 = t)) = true := by rcases h with rfl | rfl <;> rfl
    cases hr : lreachB p ks "end" 1 true false with
    | true =>
      rw [hr] at re
      have e : lawEnd p ks t L.sg = L.sg ++ [endD] := by simp [lawEnd, h, hr]
      rw [e] at hQ
      simp [tailM, h', re, hS, hT, se, le, hb, h1, h2, endD, pures_app]
      simp [endD] at hQ
      exact hQ
    | false =>
      rw [hr] at re
      have e : lawEnd p ks t L.sg = L.sg := by simp [lawEnd, hr]
      rw [e] at hQ
      simp [tailM, h', re, hS, hT, se, le, hb, h1, h2]
      exact hQ
  · have h' : (decide (3 = t) || decide (5 = t)) = false := by simp; omega
    have e : lawEnd p ks t L.sg = L.sg := by simp [lawEnd, h]
    rw [e] at hQ
    simp [tailM, h', re, hS, hT, se, le, hb, h1, h2]
    exact hQ
theorem lbehind_e (T : TurnOk' o l t g s) : f__law_behind [stL p ks ss, turnD o l t g s] = .ok (lbehD p ks ss o l t g s) [stL p ks ss, turnD o l t g s] := by
  obtain ⟨ev, el⟩ := evs_ok T
  have nb := numT_b T
  obtain ⟨⟨o0, o1, l0, l1, t0, t1, g0, g1, gl⟩, go, gt⟩ := T
  have hG := (lrun_good (p := p) (ks := ks) (ss := ss) (s := s) (k := 0) (L := ⟨false, []⟩) ⟨by simp, by simp, fun n => by simp⟩ ev)
  have hS : has? (stL p ks ss) = true ∧ pure? (stL p ks ss) = true := by simp [stL]
  have hT : has? (turnD o l t g s) = true ∧ pure? (turnD o l t g s) = true := by simp [turnD]
  have aX := atX (o := o) (l := l) g0 g1
  have b2 : (2 : Nat) < big := by unfold big; omega
  have s0 : small62 0 = true := by decide
  have s1 : small62 1 = true := by decide
  have s2 : small62 2 = true := by decide
  have s3 : small62 3 = true := by decide
  apply Vl.eq
  obtain ⟨Q, hQ⟩ := hide (fun (d : D) (es : List D) => d = lbehD p ks ss o l t g s ∧ es = [stL p ks ss, turnD o l t g s])
  rw [← hQ]
  have fin : ∀ {a6 a12 a13 a14 a15 : D}, Vl (seqK tailM .nx [stL p ks ss, turnD o l t g s, .int (numT o l g), .lst true ((evsOf o l t g).map evD), .lst true (lrun p ks ss s 0 ⟨false, []⟩ (evsOf o l t g)).sg, .bl (lrun p ks ss s 0 ⟨false, []⟩ (evsOf o l t g)).ent, a6, .int o, .int l, .int t, .int g, .int s, a12, a13, a14, a15]) (FE 2 [2, 3, 4, 5, 6, 7, 8, 9, 10, 11, 12, 13, 14, 15] Q) := by
    intro a6 a12 a13 a14 a15
    refine tail_ok hp hks hss o0 o1 hG.1 (by have := hG.2; have e0 : (LawS.mk false []).sg.length = 0 := rfl; omega) ?_
    rw [hQ]
    exact ⟨rfl, rfl⟩
  have loop : ∀ {m : Nat}, m = (evsOf o l t g).length → Vl (forM (tgN 6) lawBody (rangeD 0 m) [stL p ks ss, turnD o l t g s, .int (numT o l g), .lst true ((evsOf o l t g).map evD), .lst true [], .bl false, .un, .int o, .int l, .int t, .int g, .int s, .un, .un, .un, .un]) (fun b ρ => Vl (seqK tailM b ρ) (FE 2 [2, 3, 4, 5, 6, 7, 8, 9, 10, 11, 12, 13, 14, 15] Q)) := by
    intro m hm
    exact lawLoop_ok (L := ⟨false, []⟩) hm hp hks hss ev el (by simp) fun _ _ _ _ _ => fin
  clear fin
  by_cases ht : t < 2
  · by_cases hg : g = 0
    · subst hg
      have he : evsOf o l t 0 = [⟨"over", o, decide (l = 4), 0⟩] := by simp [evsOf, ht]
      rw [he] at loop
      simp [f__law_behind, fnM_e, N__law_behind.m, hS, hT, turnD, aX, ht, rng1, s0, s1, s2, s3]
      exact loop rfl
    · by_cases h2 : t = 0 ∧ 0 < o
      · have he : evsOf o l t g = [⟨"enter", numT o l g, decide (g = 1), o⟩, ⟨"leave", o, decide (l = 4), numT o l g⟩, ⟨"over", numT o l g, decide (g = 1), 0⟩] := by simp [evsOf, ht, hg, h2]
        obtain ⟨rfl, h2⟩ := h2
        rw [he] at loop
        simp [f__law_behind, fnM_e, N__law_behind.m, hS, hT, turnD, aX, hg, h2, b2, rng1, s0, s1, s2, s3]
        exact loop rfl
      · have he : evsOf o l t g = [⟨"enter", numT o l g, decide (g = 1), o⟩, ⟨"over", numT o l g, decide (g = 1), 0⟩] := by simp only [evsOf, ht, hg, h2, if_true, if_false]; rfl
        rw [he] at loop
        by_cases t0 : t = 0
        · subst t0
          have h2 : ¬ 0 < o := by omega
          simp [f__law_behind, fnM_e, N__law_behind.m, hS, hT, turnD, aX, hg, h2, b2, rng1, s0, s1, s2, s3]
          exact loop rfl
        · simp [f__law_behind, fnM_e, N__law_behind.m, hS, hT, turnD, aX, ht, hg, t0, rng1, s0, s1, s2, s3]
          exact loop rfl
  · have hg : g = 0 := gt (by omega)
    subst hg
    have aK := atK (t := t) (by omega) t1
    by_cases h2 : 0 < o
    · have he : evsOf o l t 0 = [⟨stopK t, o, decide (l = 4), 0⟩] := by simp [evsOf, ht, h2]
      rw [he] at loop
      simp [f__law_behind, fnM_e, N__law_behind.m, hS, hT, turnD, aX, ht, rng1, s0, s1, s2, s3, h2, aK]
      exact loop rfl
    · have he : evsOf o l t 0 = [] := by simp [evsOf, ht, h2]
      rw [he] at loop
      simp [f__law_behind, fnM_e, N__law_behind.m, hS, hT, turnD, aX, ht, rng1, s0, s1, s2, s3, h2]
      exact loop rfl
end
end G
end VS
set_option Elab.async false
set_option linter.all false
set_option maxRecDepth 100000
set_option maxHeartbeats 4000000
/-! R8: behind and _law_behind tell the same. -/
namespace VS
open PySem PySem.Spec PyProof.Rows L2
namespace G
theorem stops_eq : (List.range 8).all (fun s : Nat => (List.range 3).all fun k : Nat => stopL (s : Int) k == stopB (s : Int) (k : Int)) = true := by decide +kernel
theorem stop_eq {s : Int} {k : Nat} (s0 : 0 ≤ s) (s1 : s < 8) (hk : k < 3) : stopL s k = stopB s k := by
  obtain ⟨m, rfl⟩ := Int.eq_ofNat_of_zero_le s0
  have := List.all_eq_true.mp (List.all_eq_true.mp stops_eq m (List.mem_range.mpr (by omega))) k (List.mem_range.mpr hk)
  simpa using this
theorem outside_e {l : Int} {x : Str} : eqD (.str x) (entD l) = (if l = 4 then decide (x = "current") else if l = 0 then false else decide (x = "last")) := by
  unfold entD
  split
  · simp
  · split <;> simp
theorem ent_eq {l : Int} {x : Str} : eqD (entD l) (.str x) = (if l = 4 then decide (("current" : Str) = x) else if l = 0 then false else decide (("last" : Str) = x)) := by
  unfold entD
  split
  · simp
  · split <;> simp
theorem ent_none {l : Int} : isNone? (entD l) = decide (l = 0) := by
  unfold entD
  by_cases h : l = 4
  · subst h; simp
  · by_cases h0 : l = 0
    · subst h0; simp
    · simp [h, h0]
structure TurnS (o l t g s : Int) : Prop extends TurnOk' o l t g s where
  s0 : 0 ≤ s
  s1 : s < 8
section
variable {p : Str} {ks ss : List Str} {o l t g s : Int} (hp : p ∈ PLACES)
include hp
theorem same_e (T : TurnS o l t g s) : (metE p ks ss o l t g s).sg = lawEnd p ks t (lawR p ks ss o l t g s).sg ∧ D.tup [.int (metN o l t g), .int (lastT o l t (metE p ks ss o l t g s).ent (metW t g))] = lsit o l t g (numT o l g) (lawR p ks ss o l t g s).ent := by
  have nb := numT_b T.toTurnOk'
  obtain ⟨⟨⟨o0, o1, l0, l1, t0, t1, g0, g1, gl⟩, go, gt⟩, s0, s1⟩ := T
  have H : ∀ {kind : Str} {n : Int} {k : Nat}, kind ≠ "end" → 0 ≤ n → n < 4 → k < 3 → lreachB p ks kind n false (stopL s k) = hearB p ks kind (sideOf n) false (stopB s k) := fun h1 h2 h3 h4 => by
    rw [stop_eq s0 s1 h4]
    exact lreach_hear hp h2 h3 h1
  have ce : ("current" : Str) ≠ "last" := by simp
  by_cases ht : t < 2
  · have ht1 : t ≤ 1 := by omega
    have nt3 : ¬ t = 3 := by omega
    have nt5 : ¬ t = 5 := by omega
    have nb := nb ht
    by_cases hg : g = 0
    · subst hg
      have o1' := go ht1 rfl
      have n0 : ∀ l, numT o l 0 = o := fun l => by simp [numT]
      have h1 := H (kind := "over") (n := o) (k := 0) (by simp) (by omega) (by omega) (by omega)
      generalize hb1 : hearB p ks "over" (sideOf o) false (stopB s (0 : Nat)) = b1 at h1
      have hb1 : hearB p ks "over" (sideOf o) false (stopB s 0) = b1 := hb1
      have e1 : metE p ks ss o l t 0 s = ⟨entD l, 1, if b1 = true then [sigF ss "over" (sideOf o) (decide (l = 4)) (sideOf 0)] else []⟩ := by
        cases b1 <;> by_cases h4 : l = 4 <;> simp [metE, ht1, runPt, stepN, earStep, G.E0, hb1, n0, whoS, outside_e, h4]
      have e2 : lawR p ks ss o l t 0 s = ⟨false, if b1 = true then [sigF ss "over" (sideOf o) (decide (l = 4)) (sideOf 0)] else []⟩ := by
        cases b1 <;> simp [lawR, evsOf, ht, lrun, lstep, h1]
      rw [e1, e2]
      refine ⟨by simp [lawEnd, nt3, nt5], ?_⟩
      by_cases h4 : l = 4
      · simp [metN, metW, lastT, ht1, ht, lsit, n0, whoS, ent_none, ent_eq, h4]
      · by_cases h0 : l = 0 <;> simp [metN, metW, lastT, ht1, ht, lsit, n0, whoS, ent_none, ent_eq, h4, h0]
    · have h1 := H (kind := "enter") (n := numT o l g) (k := 0) (by simp) (by omega) (by omega) (by omega)
      generalize hb1 : hearB p ks "enter" (sideOf (numT o l g)) false (stopB s (0 : Nat)) = b1 at h1
      have hb1 : hearB p ks "enter" (sideOf (numT o l g)) false (stopB s 0) = b1 := hb1
      have sw : eqD (.str (whoS g)) (entD l) = decide (g = 1) := by
        rw [outside_e]
        by_cases h : g = 1
        · have := gl h
          have h4 : ¬ l = 4 := by omega
          have h0 : ¬ l = 0 := by omega
          simp [h, h4, h0, whoS]
        · simp [h, hg, whoS]
      have sx : eqD (.str (whoS g)) (.str (whoS g)) = true := by simp
      have sy : eqD (.str "current") (.str (whoS g)) = false := by
        unfold whoS
        rw [if_neg hg]
        split <;> simp
      have sc : eqD (.str "current") (entD l) = decide (l = 4) := by
        rw [outside_e]
        by_cases h : l = 4 <;> simp [h]
      have tail : ∀ (b : Bool) (sg : List D) (c : Int), D.tup [.int (metN o l t g), .int (lastT o l t (EarS.mk (if b = true then .str (whoS g) else entD l) c sg).ent (metW t g))] = lsit o l t g (numT o l g) (LawS.mk b sg).ent := by
        intro b sg c
        cases b
        · by_cases h1 : g = 1
          · have := gl h1
            have h4 : ¬ l = 4 := by omega
            have h0 : ¬ l = 0 := by omega
            simp [metN, metW, lastT, ht1, ht, lsit, hg, whoS, ent_none, ent_eq, h1, h4, h0]
          · by_cases h4 : l = 4
            · simp [metN, metW, lastT, ht1, ht, lsit, hg, whoS, ent_none, ent_eq, h1, h4, lold]
            · by_cases h0 : l = 0 <;> simp [metN, metW, lastT, ht1, ht, lsit, hg, whoS, ent_none, ent_eq, h1, h4, h0, lold]
        · simp [metN, metW, lastT, ht1, ht, lsit, hg]
      by_cases hd : t = 0 ∧ 0 < o
      · obtain ⟨rfl, hd⟩ := hd
        have hn : ¬ o = 0 := by omega
        have h2 := H (kind := "leave") (n := o) (k := 1) (by simp) (by omega) (by omega) (by omega)
        generalize hb2 : hearB p ks "leave" (sideOf o) false (stopB s (1 : Nat)) = b2 at h2
        have hb2 : hearB p ks "leave" (sideOf o) false (stopB s 1) = b2 := hb2
        have h3 := H (kind := "over") (n := numT o l g) (k := 2) (by simp) (by omega) (by omega) (by omega)
        generalize hb3 : hearB p ks "over" (sideOf (numT o l g)) false (stopB s (2 : Nat)) = b3 at h3
        have hb3 : hearB p ks "over" (sideOf (numT o l g)) false (stopB s 2) = b3 := hb3
        generalize hs1 : (if b1 = true then [sigF ss "enter" (sideOf (numT o l g)) (decide (g = 1)) (sideOf o)] else []) = s1
        generalize hs2 : (if b2 = true then [sigF ss "leave" (sideOf o) (if b1 = true then false else decide (l = 4)) (sideOf (numT o l g))] else []) = s2
        generalize hs3 : (if b3 = true then [sigF ss "over" (sideOf (numT o l g)) (if b1 = true then true else decide (g = 1)) (sideOf 0)] else []) = s3
        have e1 : metE p ks ss o l 0 g s = ⟨if b1 = true then .str (whoS g) else entD l, 3, s1 ++ s2 ++ s3⟩ := by
          subst hs1 hs2 hs3
          cases b1 <;> cases b2 <;> cases b3 <;> simp [metE, runPt, stepN, earStep, G.E0, hb1, hb2, hb3, hg, hn, sw, sx, sy, sc]
        have e2 : lawR p ks ss o l 0 g s = ⟨b1, s1 ++ s2 ++ s3⟩ := by
          subst hs1 hs2 hs3
          cases b1 <;> cases b2 <;> cases b3 <;> simp [lawR, evsOf, hg, hd, lrun, lstep, h1, h2, h3]
        rw [e1, e2]
        exact ⟨by simp [lawEnd], tail _ _ _⟩
      · have hd' : ¬ (o ≠ 0 ∧ t = 0) := by omega
        have h3 := H (kind := "over") (n := numT o l g) (k := 1) (by simp) (by omega) (by omega) (by omega)
        generalize hb3 : hearB p ks "over" (sideOf (numT o l g)) false (stopB s (1 : Nat)) = b3 at h3
        have hb3 : hearB p ks "over" (sideOf (numT o l g)) false (stopB s 1) = b3 := hb3
        generalize hs1 : (if b1 = true then [sigF ss "enter" (sideOf (numT o l g)) (decide (g = 1)) (sideOf o)] else []) = s1
        generalize hs3 : (if b3 = true then [sigF ss "over" (sideOf (numT o l g)) (if b1 = true then true else decide (g = 1)) (sideOf 0)] else []) = s3
        have e1 : metE p ks ss o l t g s = ⟨if b1 = true then .str (whoS g) else entD l, 2, s1 ++ s3⟩ := by
          subst hs1 hs3
          unfold metE runPt
          simp only [if_neg hd']
          cases b1 <;> cases b3 <;> simp [ht1, stepN, earStep, G.E0, hb1, hb3, hg, sw, sx]
        have e2 : lawR p ks ss o l t g s = ⟨b1, s1 ++ s3⟩ := by
          subst hs1 hs3
          unfold lawR evsOf
          rw [if_pos ht, if_neg hg, if_neg hd]
          cases b1 <;> cases b3 <;> simp [lrun, lstep, h1, h3]
        rw [e1, e2]
        exact ⟨by simp [lawEnd, nt3, nt5], tail _ _ _⟩
  · have ht1 : ¬ t ≤ 1 := by omega
    have hg := gt (by omega)
    subst hg
    have ed : ∀ {a : Bool}, (lreachB p ks "end" 1 true false) = (!decide (p = "zone") && decide (("end" : Str) ∈ ks)) := by
      intro a
      unfold lreachB
      by_cases h : ("end" : Str) ∈ ks <;> simp [h]
    have ed := ed (a := true)
    have sc : eqD (.str "current") (entD l) = decide (l = 4) := by
      rw [outside_e]
      by_cases h : l = 4 <;> simp [h]
    have kk : stopK t ≠ "end" := by unfold stopK; split <;> simp
    have ke : stopK t ≠ "enter" := by unfold stopK; split <;> simp
    have kd : (if t = 3 ∨ t = 4 then ("drop" : Str) else "leave") = stopK t := rfl
    have h1 : 0 < o → _ := fun ho => H (kind := stopK t) (n := o) (k := 0) kk o0 o1 (by omega)
    generalize hb1 : hearB p ks (stopK t) (sideOf o) false (stopB s (0 : Nat)) = b1 at h1
    have hb1 : hearB p ks (stopK t) (sideOf o) false (stopB s 0) = b1 := hb1
    generalize hs1 : (if 0 < o ∧ b1 = true then [sigF ss (stopK t) (sideOf o) (decide (l = 4)) (sideOf 0)] else []) = s1
    have e2 : lawR p ks ss o l t 0 s = ⟨false, s1⟩ := by
      subst hs1
      unfold lawR evsOf
      rw [if_neg ht]
      by_cases ho : 0 < o
      · rw [if_pos ho]
        have h1 := h1 ho
        cases b1 <;> simp [lrun, lstep, h1, ke, ho]
      · rw [if_neg ho]
        simp [lrun, ho]
    have e1 : (metE p ks ss o l t 0 s).sg = lawEnd p ks t s1 ∧ (metE p ks ss o l t 0 s).ent = entD l := by
      subst hs1
      unfold metE runSt lawEnd
      rw [if_neg ht1, kd, ed]
      by_cases ho : 0 < o
      · have hn : ¬ o = 0 := by omega
        cases b1 <;> by_cases h35 : t = 3 ∨ t = 5 <;> by_cases hz : (!decide (p = "zone") && decide (("end" : Str) ∈ ks)) = true <;> simp only [h35, hz] <;> simp [stepN, earStep, G.E0, hb1, hn, ho, sc, ke]
      · have hn : o = 0 := by omega
        subst hn
        by_cases h35 : t = 3 ∨ t = 5 <;> by_cases hz : (!decide (p = "zone") && decide (("end" : Str) ∈ ks)) = true <;> simp only [h35, hz] <;> simp [G.E0]
    rw [e2, e1.1, e1.2]
    refine ⟨rfl, ?_⟩
    have tn : ¬ t = 1 := by omega
    by_cases h4 : l = 4
    · simp [metN, metW, lastT, ht1, ht, lsit, ent_none, ent_eq, h4, lold, tn, entD]
    · by_cases h0 : l = 0 <;> simp [metN, metW, lastT, ht1, ht, lsit, ent_none, ent_eq, h4, h0, lold, entD]
end
end G
end VS
set_option Elab.async false
set_option linter.all false
set_option maxRecDepth 100000
set_option maxHeartbeats 4000000
/-! R9: turns. -/
namespace VS
open PySem PySem.Spec PyProof.Rows L2
theorem ltS_total (a b : D) : (!ltS b a || !ltS a b) = true := by
  cases h1 : ltS a b with
  | false => simp
  | true =>
    cases h2 : ltS b a with
    | false => simp
    | true =>
      have := lex_trans (O := itemOrd) _ _ _ h1 h2
      rw [lex_irrefl] at this
      cases this
theorem ltS_trans (a b c : D) (h1 : (!ltS b a) = true) (h2 : (!ltS c b) = true) : (!ltS c a) = true := by
  cases h3 : ltS c a with
  | false => rfl
  | true =>
    rcases lex_negTrans (O := itemOrd) _ (PySem.W.keyToks (tP b)) _ h3 with h | h
    · have h : ltS c b = true := h
      rw [h] at h2; cases h2
    · have h : ltS b a = true := h
      rw [h] at h1; cases h1
theorem sortDs_perm {xs ys : List D} (p : xs.Perm ys) (inj : ∀ a ∈ xs, ∀ b ∈ xs, PySem.W.keyToks (tP a) = PySem.W.keyToks (tP b) → a = b) : sortDs xs = sortDs ys := by
  unfold sortDs
  refine List.Perm.eq_of_pairwise (le := fun a b => (!ltS b a) = true) ?_ (List.pairwise_mergeSort ltS_trans ltS_total xs) (List.pairwise_mergeSort ltS_trans ltS_total ys) ((List.mergeSort_perm xs _).trans (p.trans (List.mergeSort_perm ys _).symm))
  intro a b ha hb h1 h2
  have ha := List.mem_mergeSort.mp ha
  have hb := p.mem_iff.mpr (List.mem_mergeSort.mp hb)
  refine inj a ha b hb ?_
  refine lex_total (O := itemOrd) _ _ ?_ ?_
  · have : ltS a b = false := by simpa using h2
    exact this
  · have : ltS b a = false := by simpa using h1
    exact this
theorem Vl_map {vs : List Nat} {g : D → List D → Option (List D)} {t : M Bool} {m : EM} {P : List D → List D → Prop} {ds : List D} {ρ : List D} (f : D → D) (hb : ds.length < big)
    (h : ∀ d ∈ ds, GO (g d ρ) fun ρ1 => Vl (t ρ1) fun c ρ2 => c = true ∧ Vl (m ρ2) fun y ρ3 => y = f d ∧ wipeD vs ρ3 = ρ) (hP : P (ds.map f) ρ) : Vl (lcLoop vs g t m ds [] ρ) P := by
  obtain ⟨I, hI⟩ := hide (fun (i : Nat) (acc ρ' : List D) => acc = (ds.take i).map f ∧ ρ' = ρ)
  refine Vl_lc I (by rw [hI]; exact ⟨by simp, rfl⟩) ?_ ?_
  · intro i d acc ρ' hd hi
    rw [hI] at hi
    obtain ⟨rfl, rfl⟩ := hi
    have hlt : i < ds.length := by
      obtain ⟨h1, _⟩ := List.getElem?_eq_some_iff.mp hd
      exact h1
    refine ⟨by simp; omega, ?_⟩
    obtain ⟨ρ1, e1, c, ρ2, e2, rfl, y, ρ3, e3, rfl, e4⟩ := h d (List.mem_of_getElem? hd)
    refine ⟨ρ1, e1, true, ρ2, e2, fun _ => ⟨_, _, e3, ?_⟩, fun h => by cases h⟩
    rw [hI]
    refine ⟨?_, e4⟩
    rw [List.take_add_one, hd]
    simp
  · intro acc ρ' hi
    rw [hI] at hi
    obtain ⟨rfl, rfl⟩ := hi
    rw [List.take_length]
    exact hP
namespace G
structure Turn where
  o : Int
  l : Int
  t : Int
  g : Int
  s : Int
def tD (x : Turn) : D := turnD x.o x.l x.t x.g x.s
def pD (x : Int × Int) : D := .tup [.int x.1, .int x.2]
theorem tP_tD (x : Turn) : tP (tD x) = .tuple [.int x.o, .int x.l, .int x.t, .int x.g, .int x.s] := by simp [tP, tD, turnD, toP, toPs]
theorem toP_tD (x : Turn) : toP (tD x) = some (.tuple [.int x.o, .int x.l, .int x.t, .int x.g, .int x.s]) := by simp [tP, tD, turnD, toP, toPs]
theorem key_tD {x y : Turn} (h : PySem.W.keyToks (tP (tD x)) = PySem.W.keyToks (tP (tD y))) : tD x = tD y := by
  rw [tP_tD, tP_tD] at h
  simp [PySem.W.keyToks, PySem.W.keyToksAll] at h
  simp [tD, turnD, h]
theorem sortOk_tD (xs : List Turn) : sortOk (xs.map tD) = true := by
  have h1 : pures? (xs.map tD) = true := by
    induction xs with
    | nil => simp
    | cons x xs ih => simp [ih, tD, turnD]
  have h2 : (toPs (xs.map tD)).isSome = true := by
    clear h1
    induction xs with
    | nil => simp [toPs]
    | cons x xs ih =>
      obtain ⟨ps, e⟩ := Option.isSome_iff_exists.mp ih
      simp [toPs, toP_tD, e]
  have h3 : ∀ x : Turn, (tP (tD x)).depth ≤ 60 := fun x => by
    rw [tP_tD]
    simp [PyData.depth, PyData.depthAll]
  have h4 : ∀ x y : Turn, PySem.W.alike (tP (tD x)) (tP (tD y)) = true := fun x y => by
    rw [tP_tD, tP_tD]
    simp [PySem.W.alike, PySem.W.alikeAll]
  have h5 : (xs.map tD).all (fun a => decide ((tP a).depth ≤ 60) && (xs.map tD).all fun b => PySem.W.alike (tP a) (tP b)) = true := by
    rw [List.all_eq_true]
    intro a ha
    obtain ⟨x, _, rfl⟩ := List.mem_map.mp ha
    rw [Bool.and_eq_true, List.all_eq_true]
    refine ⟨decide_eq_true (h3 x), fun b hb => ?_⟩
    obtain ⟨y, _, rfl⟩ := List.mem_map.mp hb
    exact h4 x y
  have h6 : (xs.map tD).all tupNE = true := by
    rw [List.all_eq_true]
    intro a ha
    obtain ⟨x, _, rfl⟩ := List.mem_map.mp ha
    rfl
  unfold sortOk
  rw [h1, h2, h5, h6]
  rfl
theorem flatMap_cg {α β : Type} {f g : α → List β} : ∀ {l : List α}, (∀ a ∈ l, f a = g a) → l.flatMap f = l.flatMap g
  | [], _ => rfl
  | a :: l, h => by rw [List.flatMap_cons, List.flatMap_cons, h a (by simp), flatMap_cg fun b hb => h b (List.mem_cons_of_mem _ hb)]
theorem flatMap_pm {α β : Type} {f g : α → List β} : ∀ {l : List α}, (∀ a ∈ l, (f a).Perm (g a)) → (l.flatMap f).Perm (l.flatMap g)
  | [], _ => .refl _
  | a :: l, h => by rw [List.flatMap_cons, List.flatMap_cons]; exact (h a (by simp)).append (flatMap_pm fun b hb => h b (List.mem_cons_of_mem _ hb))
theorem sort_tD {xs ys : List Turn} (p : xs.Perm ys) : sortDs (xs.map tD) = sortDs (ys.map tD) := by
  refine sortDs_perm (p.map tD) ?_
  intro a ha b hb h
  obtain ⟨x, _, rfl⟩ := List.mem_map.mp ha
  obtain ⟨y, _, rfl⟩ := List.mem_map.mp hb
  exact key_tD h
/-! what can be -/
def ledL (n : Int) (tr : List Str) : List Int := [n] ++ ((if (n = 1 ∨ n = 2) ∧ ("removals" : Str) ∈ tr then [0] else []) ++ (if (n = 1 ∨ n = 2) ∧ ("moves" : Str) ∈ tr then [3 - n] else []))
def tgL (o l : Int) : List Int := [2, 3] ++ ((if l = 1 ∨ l = 2 ∨ l = 3 then [1] else []) ++ (if o ≠ 3 ∧ l ≠ 3 then [4] else []))
def chgL (o l : Int) (tr : List Str) : List (Int × Int) := (ledL o tr).flatMap fun now => if l = 4 then [(now, if now ≠ 0 then 4 else 0)] else (ledL l tr).map fun x => (now, x)
def tickL (o l : Int) (tr : List Str) : List (Int × Int) := (tgL o l).map (fun x => (0, x)) ++ ((if o ≠ 0 then [(0, 0)] else []) ++ ((if (o = 1 ∨ o = 2) ∧ ("slips" : Str) ∈ tr then (tgL o l).map (fun x => (1, x)) else []) ++ ((if ("outs" : Str) ∈ tr then [(2, 0)] else []) ++ ([(3, 0), (5, 0)] ++ (if ("silent" : Str) ∈ tr then [(4, 0), (6, 0)] else [])))))
def latL (o l : Int) (tr : List Str) : List (Int × Int) := (tgL o l).map (fun x => (0, x)) ++ ([(3, 0), (5, 0)] ++ ((if o ≠ 0 then [(0, 0)] else []) ++ ((if ("slips" : Str) ∈ tr ∧ (o = 1 ∨ o = 2) then (tgL o l).map (fun x => (1, x)) else []) ++ ((if ("outs" : Str) ∈ tr then [(2, 0)] else []) ++ (if ("silent" : Str) ∈ tr then [(4, 0), (6, 0)] else [])))))
def many (tr : List Str) : Nat := if ("stops" : Str) ∈ tr then 8 else 1
def withS (o l : Int) (tr : List Str) (k : Int × Int) : List Turn := (List.range (many tr)).map fun s : Nat => ⟨o, l, k.1, k.2, (s : Int)⟩
def turnsP (o l : Int) (tr : List Str) : List Turn := (chgL o l tr).flatMap fun q => (tickL q.1 q.2 tr).flatMap (withS q.1 q.2 tr)
def turnsAt (o l : Int) (tr : List Str) : List Turn := (latL o l tr).flatMap (withS o l tr)
def turnsL (o l : Int) (tr : List Str) : List Turn := (ledL o tr).flatMap fun o' => (if l = 4 then [if 0 < o' then 4 else 0] else ledL l tr).flatMap fun l' => turnsAt o' l' tr
theorem tick_perm (o l : Int) (tr : List Str) : (tickL o l tr).Perm (latL o l tr) := by
  unfold tickL latL
  have e : (if ("slips" : Str) ∈ tr ∧ (o = 1 ∨ o = 2) then (tgL o l).map (fun x => ((1 : Int), x)) else []) = (if (o = 1 ∨ o = 2) ∧ ("slips" : Str) ∈ tr then (tgL o l).map (fun x => ((1 : Int), x)) else []) := by
    by_cases h : (o = 1 ∨ o = 2) <;> by_cases h' : ("slips" : Str) ∈ tr <;> simp [h, h']
  rw [e]
  generalize (tgL o l).map (fun x => ((0 : Int), x)) = A
  generalize (if o ≠ 0 then [((0 : Int), (0 : Int))] else []) = B
  generalize (if (o = 1 ∨ o = 2) ∧ ("slips" : Str) ∈ tr then (tgL o l).map (fun x => ((1 : Int), x)) else []) = C
  generalize (if ("outs" : Str) ∈ tr then [((2 : Int), (0 : Int))] else []) = X
  generalize (if ("silent" : Str) ∈ tr then [((4 : Int), (0 : Int)), (6, 0)] else []) = F
  generalize [((3 : Int), (0 : Int)), (5, 0)] = Y
  rw [List.perm_iff_count]
  intro a
  simp only [List.count_append]
  omega
theorem led_n {n : Int} {tr : List Str} (h0 : 0 ≤ n) (h1 : n < 4) : ∀ m ∈ ledL n tr, 0 ≤ m ∧ m < 4 := by
  unfold ledL
  intro m hm
  simp only [List.mem_append, List.mem_singleton] at hm
  rcases hm with rfl | hm | hm
  · exact ⟨h0, h1⟩
  · split at hm <;> simp at hm
    omega
  · split at hm <;> simp at hm
    omega
theorem turns_perm {o l : Int} (tr : List Str) (h0 : 0 ≤ o) (h1 : o < 4) : (turnsP o l tr).Perm (turnsL o l tr) := by
  have e : turnsP o l tr = (ledL o tr).flatMap fun o' => (if l = 4 then [if 0 < o' then 4 else 0] else ledL l tr).flatMap fun l' => (tickL o' l' tr).flatMap (withS o' l' tr) := by
    unfold turnsP chgL
    rw [List.flatMap_assoc]
    refine flatMap_cg ?_
    intro n hn
    have hn := led_n h0 h1 n hn
    by_cases h4 : l = 4
    · rw [if_pos h4, if_pos h4]
      have : (if n ≠ 0 then (4 : Int) else 0) = if 0 < n then 4 else 0 := by
        split <;> split <;> omega
      rw [this]
      simp
    · rw [if_neg h4, if_neg h4, List.flatMap_map]
  rw [e]
  unfold turnsL turnsAt
  refine flatMap_pm fun a ha => ?_
  refine flatMap_pm fun b hb => ?_
  exact (tick_perm a b tr).flatMap_right _
end G
end VS
set_option Elab.async false
set_option linter.all false
set_option maxRecDepth 100000
set_option maxHeartbeats 4000000
/-! R10: turns, of the program and of the law. -/
namespace VS
open PySem PySem.Spec PyProof.Rows L2
namespace G
theorem tr_in {tr : List Str} {w : Str} (h : AllOk tr) (hw : PyData.strOk w = true) : inP false (.str w) (kl tr) = some (.bl (decide (w ∈ tr))) := by
  have hs := h.shs (n := 63)
  simp [kl, hs, hw, any_mem', any_mem, List.any_map, Function.comp_def]
theorem has_kl {tr : List Str} : has? (kl tr) = true ∧ pure? (kl tr) = true := by simp [kl]
theorem led_e {n : Int} {tr : List Str} (h : AllOk tr) : f__led [.int n, kl tr] = .ok (.lst true ((ledL n tr).map D.int)) [.int n, kl tr] := by
  have i1 := tr_in (w := "removals") h (by simp)
  have i2 := tr_in (w := "moves") h (by simp)
  have hk := has_kl (tr := tr)
  have b1 : (1 : Nat) < big := by unfold big; omega
  have b2 : (2 : Nat) < big := by unfold big; omega
  by_cases hn : n = 1 ∨ n = 2
  · have hd : (decide (1 = n) || decide (2 = n)) = true := by simp; omega
    by_cases h1 : ("removals" : Str) ∈ tr <;> by_cases h2 : ("moves" : Str) ∈ tr <;>
      simp [f__led, fnM_e, N__led.m, i1, i2, hk, hd, h1, h2, ledL, hn, b1, b2]
  · have hd : (decide (1 = n) || decide (2 = n)) = false := by simp; omega
    simp [f__led, fnM_e, N__led.m, i1, i2, hk, hd, ledL, hn]
theorem lways_e {n : Int} {tr : List Str} (h : AllOk tr) : f__law_ways [.int n, kl tr] = .ok (.lst true ((ledL n tr).map D.int)) [.int n, kl tr] := by
  have i1 := tr_in (w := "removals") h (by simp)
  have i2 := tr_in (w := "moves") h (by simp)
  have hk := has_kl (tr := tr)
  have b1 : (1 : Nat) < big := by unfold big; omega
  have b2 : (2 : Nat) < big := by unfold big; omega
  by_cases hn : n = 1 ∨ n = 2
  · have hd : (decide (1 = n) || decide (2 = n)) = true := by simp; omega
    by_cases h1 : ("removals" : Str) ∈ tr <;> by_cases h2 : ("moves" : Str) ∈ tr <;>
      simp [f__law_ways, fnM_e, N__law_ways.m, i1, i2, hk, hd, h1, h2, ledL, hn, b1, b2]
  · have hd : (decide (1 = n) || decide (2 = n)) = false := by simp; omega
    simp [f__law_ways, fnM_e, N__law_ways.m, i1, i2, hk, hd, ledL, hn]
theorem targets_e {o l : Int} : f__targets [.int o, .int l] = .ok (.lst true ((tgL o l).map D.int)) [.int o, .int l] := by
  have b2 : (2 : Nat) < big := by unfold big; omega
  have b3 : (3 : Nat) < big := by unfold big; omega
  by_cases h1 : l = 1 ∨ l = 2 ∨ l = 3
  · have hd : (decide (1 = l) || (decide (2 = l) || decide (3 = l))) = true := by simp; omega
    by_cases h3 : o = 3
    · simp [f__targets, fnM_e, N__targets.m, hd, h1, h3, b2, b3, tgL]
    · by_cases h4 : l = 3
      · subst h4; simp [f__targets, fnM_e, N__targets.m, h3, b2, b3, tgL]
      · have h12 : l = 1 ∨ l = 2 := by omega
        simp [h12, f__targets, fnM_e, N__targets.m, hd, h1, h3, h4, b2, b3, tgL]
  · have hd : (decide (1 = l) || (decide (2 = l) || decide (3 = l))) = false := by simp; omega
    have h4 : ¬ l = 3 := by omega
    have h11 : ¬ l = 1 := by omega
    have h12 : ¬ l = 2 := by omega
    by_cases h3 : o = 3
    · simp [f__targets, fnM_e, N__targets.m, hd, h1, h3, b2, b3, tgL]
    · simp [f__targets, fnM_e, N__targets.m, hd, h1, h3, h4, h11, h12, b2, b3, tgL]
theorem ltargets_e {o l : Int} : f__law_targets [.int o, .int l] = .ok (.lst true ((tgL o l).map D.int)) [.int o, .int l] := by
  have b2 : (2 : Nat) < big := by unfold big; omega
  have b3 : (3 : Nat) < big := by unfold big; omega
  by_cases h1 : l = 1 ∨ l = 2 ∨ l = 3
  · have hd : (decide (1 = l) || (decide (2 = l) || decide (3 = l))) = true := by simp; omega
    by_cases h3 : o = 3
    · simp [f__law_targets, fnM_e, N__law_targets.m, hd, h1, h3, b2, b3, tgL]
    · by_cases h4 : l = 3
      · subst h4; simp [f__law_targets, fnM_e, N__law_targets.m, h3, b2, b3, tgL]
      · have h12 : l = 1 ∨ l = 2 := by omega
        simp [h12, f__law_targets, fnM_e, N__law_targets.m, hd, h1, h3, h4, b2, b3, tgL]
  · have hd : (decide (1 = l) || (decide (2 = l) || decide (3 = l))) = false := by simp; omega
    have h4 : ¬ l = 3 := by omega
    have h11 : ¬ l = 1 := by omega
    have h12 : ¬ l = 2 := by omega
    by_cases h3 : o = 3
    · simp [f__law_targets, fnM_e, N__law_targets.m, hd, h1, h3, b2, b3, tgL]
    · simp [f__law_targets, fnM_e, N__law_targets.m, hd, h1, h3, h4, h11, h12, b2, b3, tgL]
theorem led_len {n : Int} {tr : List Str} : (ledL n tr).length ≤ 3 := by
  unfold ledL
  simp only [List.length_append, List.length_singleton]
  split <;> split <;> simp
theorem tg_len {o l : Int} : (tgL o l).length ≤ 4 := by
  unfold tgL
  simp only [List.length_append, List.length_cons, List.length_nil]
  split <;> split <;> simp
theorem pD_map {f : Int → Int × Int} {xs : List Int} : (xs.map f).map pD = xs.map fun x => pD (f x) := by rw [List.map_map]; rfl
theorem fzs_pD {xs : List (Int × Int)} : fzs (xs.map pD) = xs.map pD := by
  induction xs with
  | nil => simp
  | cons x xs ih => simp [ih, pD]
theorem pures_pD {xs : List (Int × Int)} : pures? (xs.map pD) = true := by
  induction xs with
  | nil => simp
  | cons x xs ih => simp [ih, pD]
theorem pD_of (a : Int) (T : List Int) : (T.map D.int).map (fun d => D.tup [.int a, d]) = (T.map fun x => (a, x)).map pD := by
  rw [List.map_map, List.map_map]; rfl
theorem ticks_e {o l : Int} {tr : List Str} (h : AllOk tr) : f_ticks [pD (o, l), kl tr] = .ok (.lst true ((tickL o l tr).map pD)) [pD (o, l), kl tr] := by
  have i1 := tr_in (w := "slips") h (by simp)
  have i2 := tr_in (w := "outs") h (by simp)
  have i3 := tr_in (w := "silent") h (by simp)
  have hk := has_kl (tr := tr)
  have te := targets_e (o := o) (l := l)
  have tl := tg_len (o := o) (l := l)
  have bl : ∀ {n : Nat}, n < 1000 → n < big := fun h => by unfold big; omega
  apply Vl.eq
  obtain ⟨Q, hQ⟩ := hide (fun (d : D) (es : List D) => d = .lst true ((tickL o l tr).map pD) ∧ es = [pD (o, l), kl tr])
  rw [← hQ]
  unfold tickL at hQ
  generalize tgL o l = T at *
  simp [f_ticks, fnM_e, N_ticks.m, pD, te, hk]
  refine Vl_map (fun d => .tup [.int 0, d]) (by simp; exact bl (by omega)) ?_ ?_
  · intro d hd
    obtain ⟨x, hx, rfl⟩ := List.mem_map.mp hd
    simp [c_POINT]
  rw [pD_of]
  have lA : ((T.map fun x => ((0 : Int), x)).map pD).length = T.length := by simp
  have fA : fzs ((T.map fun x => ((0 : Int), x)).map pD) = (T.map fun x => ((0 : Int), x)).map pD := fzs_pD
  generalize hA : (T.map fun x => ((0 : Int), x)).map pD = A at *
  have lC : ((T.map fun x => ((1 : Int), x)).map pD).length = T.length := by simp
  have fC : fzs ((T.map fun x => ((1 : Int), x)).map pD) = (T.map fun x => ((1 : Int), x)).map pD := fzs_pD
  have step : ∀ {P : List D → List D → Prop} {ρ1 : List D}, P ((T.map fun x => ((1 : Int), x)).map pD) (ρ1) → (∀ d ∈ T.map D.int, GO (tgN 6 d ρ1) fun ρ1' => Vl (yesM ρ1') fun c ρ2 => c = true ∧ Vl ((clM tupD (consM (cM c_SLIP) (consM (rd 6) nilM))) ρ2) fun y ρ3 => y = D.tup [.int 1, d] ∧ wipeD [6] ρ3 = ρ1) → Vl (lcLoop [6] (tgN 6) yesM (clM tupD (consM (cM c_SLIP) (consM (rd 6) nilM))) (T.map D.int) [] ρ1) P := by
    intro P ρ1 hP hh
    refine Vl_map (fun d => .tup [.int 1, d]) (by simp; exact bl (by omega)) hh ?_
    rw [pD_of]; exact hP
  generalize hC : (T.map fun x => ((1 : Int), x)).map pD = C at *
  have ga0 : T.length < big := bl (by omega)
  have gb0 : T.length ≤ big := Nat.le_of_lt ga0
  have gc0 : T.length + (T.length + 1) < big := bl (by omega)
  have gd0 : T.length + (T.length + 1) ≤ big := Nat.le_of_lt gc0
  have ga1 : T.length + 1 < big := bl (by omega)
  have gb1 : T.length + 1 ≤ big := Nat.le_of_lt ga1
  have gc1 : T.length + (T.length + 2) < big := bl (by omega)
  have gd1 : T.length + (T.length + 2) ≤ big := Nat.le_of_lt gc1
  have ga2 : T.length + 2 < big := bl (by omega)
  have gb2 : T.length + 2 ≤ big := Nat.le_of_lt ga2
  have gc2 : T.length + (T.length + 3) < big := bl (by omega)
  have gd2 : T.length + (T.length + 3) ≤ big := Nat.le_of_lt gc2
  have ga3 : T.length + 3 < big := bl (by omega)
  have gb3 : T.length + 3 ≤ big := Nat.le_of_lt ga3
  have gc3 : T.length + (T.length + 4) < big := bl (by omega)
  have gd3 : T.length + (T.length + 4) ≤ big := Nat.le_of_lt gc3
  have ga4 : T.length + 4 < big := bl (by omega)
  have gb4 : T.length + 4 ≤ big := Nat.le_of_lt ga4
  have gc4 : T.length + (T.length + 5) < big := bl (by omega)
  have gd4 : T.length + (T.length + 5) ≤ big := Nat.le_of_lt gc4
  have ga5 : T.length + 5 < big := bl (by omega)
  have gb5 : T.length + 5 ≤ big := Nat.le_of_lt ga5
  have gc5 : T.length + (T.length + 6) < big := bl (by omega)
  have gd5 : T.length + (T.length + 6) ≤ big := Nat.le_of_lt gc5
  have ga6 : T.length + 6 < big := bl (by omega)
  have gb6 : T.length + 6 ≤ big := Nat.le_of_lt ga6
  have gc6 : T.length + (T.length + 7) < big := bl (by omega)
  have gd6 : T.length + (T.length + 7) ≤ big := Nat.le_of_lt gc6
  have ga7 : T.length + 7 < big := bl (by omega)
  have gb7 : T.length + 7 ≤ big := Nat.le_of_lt ga7
  have gc7 : T.length + (T.length + 8) < big := bl (by omega)
  have gd7 : T.length + (T.length + 8) ≤ big := Nat.le_of_lt gc7
  have ga8 : T.length + 8 < big := bl (by omega)
  have gb8 : T.length + 8 ≤ big := Nat.le_of_lt ga8
  have gc8 : T.length + (T.length + 9) < big := bl (by omega)
  have gd8 : T.length + (T.length + 9) ≤ big := Nat.le_of_lt gc8
  have gw1 : T.length + (T.length + 1) + 2 ≤ big := Nat.le_of_lt (bl (by omega))
  have gw2 : T.length + (T.length + 2) + 2 ≤ big := Nat.le_of_lt (bl (by omega))
  have gw3 : T.length + (T.length + 3) + 2 ≤ big := Nat.le_of_lt (bl (by omega))
  have gw4 : T.length + (T.length + 4) + 2 ≤ big := Nat.le_of_lt (bl (by omega))
  have gw5 : T.length + (T.length + 5) + 2 ≤ big := Nat.le_of_lt (bl (by omega))
  have gw6 : T.length + (T.length + 6) + 2 ≤ big := Nat.le_of_lt (bl (by omega))
  have gw7 : T.length + (T.length + 7) + 2 ≤ big := Nat.le_of_lt (bl (by omega))
  have gz : T.length + 1 + T.length ≤ big := Nat.le_of_lt (bl (by omega))
  by_cases h0 : o = 0
  · subst h0
    by_cases u2 : ("outs" : Str) ∈ tr <;> by_cases u3 : ("silent" : Str) ∈ tr <;>
    · simp [i1, i2, i3, hk, u2, u3, lA, lC, gz, gw1, gw2, gw3, gw4, gw5, gw6, gw7, fA, fC, ga0, gb0, gc0, gd0, ga1, gb1, gc1, gd1, ga2, gb2, gc2, gd2, ga3, gb3, gc3, gd3, ga4, gb4, gc4, gd4, ga5, gb5, gc5, gd5, ga6, gb6, gc6, gd6, ga7, gb7, gc7, gd7, ga8, gb8, gc8, gd8, c_POINT, c_OUT, c_DROP, c_CANCEL, c_SILENT_DROP, c_SILENT_CANCEL]
      rw [hQ]
      exact ⟨by simp [u2, u3, pD, hA, hC], rfl⟩
  · by_cases h12 : o = 1 ∨ o = 2
    · have hd : (decide (1 = o) || decide (2 = o)) = true := by simp; omega
      by_cases u1 : ("slips" : Str) ∈ tr
      · by_cases u2 : ("outs" : Str) ∈ tr <;> by_cases u3 : ("silent" : Str) ∈ tr <;>
        · simp [h0, hd, u1, i1, i2, i3, hk, u2, u3, lA, lC, gz, gw1, gw2, gw3, gw4, gw5, gw6, gw7, fA, fC, ga0, gb0, gc0, gd0, ga1, gb1, gc1, gd1, ga2, gb2, gc2, gd2, ga3, gb3, gc3, gd3, ga4, gb4, gc4, gd4, ga5, gb5, gc5, gd5, ga6, gb6, gc6, gd6, ga7, gb7, gc7, gd7, ga8, gb8, gc8, gd8, c_POINT, c_OUT, c_DROP, c_CANCEL, c_SILENT_DROP, c_SILENT_CANCEL]
          refine step ?_ ?_
          · simp [i1, i2, i3, hk, u2, u3, lA, lC, gz, gw1, gw2, gw3, gw4, gw5, gw6, gw7, fA, fC, ga0, gb0, gc0, gd0, ga1, gb1, gc1, gd1, ga2, gb2, gc2, gd2, ga3, gb3, gc3, gd3, ga4, gb4, gc4, gd4, ga5, gb5, gc5, gd5, ga6, gb6, gc6, gd6, ga7, gb7, gc7, gd7, ga8, gb8, gc8, gd8, c_POINT, c_OUT, c_DROP, c_CANCEL, c_SILENT_DROP, c_SILENT_CANCEL]
            rw [hQ]
            exact ⟨by simp [u2, u3, pD, hA, hC, h0, h12, u1], rfl⟩
          · intro d hd
            obtain ⟨x, hx, rfl⟩ := List.mem_map.mp hd
            simp [c_SLIP]
      · by_cases u2 : ("outs" : Str) ∈ tr <;> by_cases u3 : ("silent" : Str) ∈ tr <;>
        · simp [h0, hd, u1, i1, i2, i3, hk, u2, u3, lA, lC, gz, gw1, gw2, gw3, gw4, gw5, gw6, gw7, fA, fC, ga0, gb0, gc0, gd0, ga1, gb1, gc1, gd1, ga2, gb2, gc2, gd2, ga3, gb3, gc3, gd3, ga4, gb4, gc4, gd4, ga5, gb5, gc5, gd5, ga6, gb6, gc6, gd6, ga7, gb7, gc7, gd7, ga8, gb8, gc8, gd8, c_POINT, c_OUT, c_DROP, c_CANCEL, c_SILENT_DROP, c_SILENT_CANCEL]
          rw [hQ]
          exact ⟨by simp [u2, u3, pD, hA, hC, h0, h12, u1], rfl⟩

    · have hd : (decide (1 = o) || decide (2 = o)) = false := by simp; omega
      by_cases u2 : ("outs" : Str) ∈ tr <;> by_cases u3 : ("silent" : Str) ∈ tr <;>
      · simp [h0, hd, i1, i2, i3, hk, u2, u3, lA, lC, gz, gw1, gw2, gw3, gw4, gw5, gw6, gw7, fA, fC, ga0, gb0, gc0, gd0, ga1, gb1, gc1, gd1, ga2, gb2, gc2, gd2, ga3, gb3, gc3, gd3, ga4, gb4, gc4, gd4, ga5, gb5, gc5, gd5, ga6, gb6, gc6, gd6, ga7, gb7, gc7, gd7, ga8, gb8, gc8, gd8, c_POINT, c_OUT, c_DROP, c_CANCEL, c_SILENT_DROP, c_SILENT_CANCEL]
        rw [hQ]
        exact ⟨by simp [u2, u3, pD, hA, hC, h0, h12], rfl⟩
end G
end VS
set_option Elab.async false
set_option linter.all false
set_option maxRecDepth 100000
set_option maxHeartbeats 4000000
/-! R11: turns, of the law. -/
namespace VS
open PySem PySem.Spec PyProof.Rows L2
namespace G
theorem fzs_tD {xs : List Turn} : fzs (xs.map tD) = xs.map tD := by
  induction xs with
  | nil => simp
  | cons x xs ih => simp [ih, tD, turnD]
theorem pures_tD {xs : List Turn} : pures? (xs.map tD) = true := by
  induction xs with
  | nil => simp
  | cons x xs ih => simp [ih, tD, turnD]
theorem many_le {tr : List Str} : many tr ≤ 8 := by unfold many; split <;> omega
theorem withS_len {o l : Int} {tr : List Str} {k : Int × Int} : (withS o l tr k).length ≤ 8 := by
  unfold withS
  rw [List.length_map, List.length_range]
  exact many_le
theorem flatMap_len {α β : Type} {f : α → List β} {m : Nat} : ∀ {l : List α}, (∀ a ∈ l, (f a).length ≤ m) → (l.flatMap f).length ≤ l.length * m
  | [], _ => by simp
  | a :: l, h => by
    rw [List.flatMap_cons, List.length_append, List.length_cons, Nat.succ_mul]
    have h1 := h a (by simp)
    have h2 := flatMap_len (l := l) fun b hb => h b (List.mem_cons_of_mem _ hb)
    omega
theorem lat_len {o l : Int} {tr : List Str} : (latL o l tr).length ≤ 16 := by
  have tl := tg_len (o := o) (l := l)
  unfold latL
  generalize tgL o l = T at *
  simp only [List.length_append, List.length_map]
  have h1 : (if o ≠ 0 then [((0 : Int), (0 : Int))] else []).length ≤ 1 := by split <;> simp
  have h2 : (if ("slips" : Str) ∈ tr ∧ (o = 1 ∨ o = 2) then T.map (fun x => ((1 : Int), x)) else []).length ≤ 4 := by split <;> simp; omega
  have h3 : (if ("outs" : Str) ∈ tr then [((2 : Int), (0 : Int))] else []).length ≤ 1 := by split <;> simp
  have h4 : (if ("silent" : Str) ∈ tr then [((4 : Int), (0 : Int)), (6, 0)] else []).length ≤ 2 := by split <;> simp
  have h5 : [((3 : Int), (0 : Int)), (5, 0)].length = 2 := rfl
  omega
theorem tick_len {o l : Int} {tr : List Str} : (tickL o l tr).length ≤ 16 := by rw [(tick_perm o l tr).length_eq]; exact lat_len
theorem turnsAt_len {o l : Int} {tr : List Str} : (turnsAt o l tr).length ≤ 128 := by
  have := flatMap_len (m := 8) (l := latL o l tr) (f := withS o l tr) fun a _ => withS_len
  have h := lat_len (o := o) (l := l) (tr := tr)
  unfold turnsAt
  omega
def atBody : SM := (dropM (lmM 5 [] extF (consM (fzM (lcM [8] (rngM rng1 (consM (rd 4) nilM)) (tgN 8) yesM (clM tupD (consM (rd 0) (consM (rd 1) (consM (opM ixD (rd 6) (intM 0)) (consM (opM ixD (rd 6) (intM 1)) (consM (rd 8) nilM)))))))) nilM)))
theorem pair_get {K : List (Int × Int)} {i : Nat} {d : D} (h : (K.map pD)[i]? = some d) : ∃ k, K[i]? = some k ∧ d = pD k := by
  rw [List.getElem?_map, Option.map_eq_some_iff] at h
  obtain ⟨k, h1, rfl⟩ := h
  exact ⟨k, h1, rfl⟩
theorem atLoop_ok {o l : Int} {tr : List Str} {K : List (Int × Int)} {a b : D} {Q : Fl → List D → Prop} (hK : K.length ≤ 16)
    (hQ : ∀ b, Q .nx [.int o, .int l, kl tr, a, .int (many tr), .lst true ((K.flatMap (withS o l tr)).map tD), b, .un, .un]) :
    Vl (forM (tgN 6) atBody (K.map pD) [.int o, .int l, kl tr, a, .int (many tr), .lst true [], b, .un, .un]) Q := by
  obtain ⟨I, hI⟩ := hide (fun (i : Nat) (ρ : List D) => ∃ (b : D), ρ = [.int o, .int l, kl tr, a, .int (many tr), .lst true (((K.take i).flatMap (withS o l tr)).map tD), b, .un, .un])
  have hk := has_kl (tr := tr)
  refine Vl_for I (by rw [hI]; exact ⟨_, by simp; rfl⟩) ?_ ?_
  · intro i d ρ hd h
    rw [hI] at h
    obtain ⟨b, rfl⟩ := h
    obtain ⟨k, hk', rfl⟩ := pair_get hd
    have sm : small62 (many tr : Nat) = true := by have := many_le (tr := tr); unfold small62; simp; omega
    simp [atBody, pD, rng1, sm]
    refine Vl_map (fun d => .tup [.int o, .int l, .int k.1, .int k.2, d]) (by simp; have := many_le (tr := tr); unfold big; omega) ?_ ?_
    · intro d hd
      obtain ⟨s, hs, rfl⟩ := List.mem_map.mp hd
      simp [atI, ixN]
    · have e : (rangeD 0 (many tr)).map (fun d => D.tup [.int o, .int l, .int k.1, .int k.2, d]) = (withS o l tr k).map tD := by
        unfold rangeD withS
        rw [List.map_map, List.map_map]
        refine List.map_congr_left fun s _ => ?_
        simp [tD, turnD]
      rw [e]
      have l1 : (((K.take i).flatMap (withS o l tr)).map tD).length + ((withS o l tr k).map tD).length ≤ big := by
        have h1 := flatMap_len (m := 8) (l := K.take i) (f := withS o l tr) fun a _ => withS_len
        have h2 := withS_len (o := o) (l := l) (tr := tr) (k := k)
        have h3 : (K.take i).length ≤ K.length := by simp; omega
        rw [List.length_map, List.length_map]
        unfold big; omega
      have fW : fzs ((withS o l tr k).map tD) = (withS o l tr k).map tD := fzs_tD
      have et : (K.take (i + 1)).flatMap (withS o l tr) = (K.take i).flatMap (withS o l tr) ++ withS o l tr k := by
        rw [List.take_add_one, hk']
        simp
      generalize hX : ((K.take i).flatMap (withS o l tr)).map tD = X at *
      generalize hW : (withS o l tr k).map tD = W at *
      simp [fW, l1]
      rw [hI]
      refine ⟨pD k, ?_⟩
      rw [et, List.map_append, hX, hW]
      rfl
  · intro ρ h
    rw [hI] at h
    obtain ⟨b, rfl⟩ := h
    simp only [List.length_map, List.take_length]
    exact hQ _
def atRest : SM := (seqM (iteM (testM (opM (inP false) (strM "outs") (rd 2))) (dropM (lmM 3 [] appF (consM (fzM (clM tupD (consM (intM 2) (consM (intM 0) nilM)))) nilM))) skipM)
  (seqM (iteM (testM (opM (inP false) (strM "silent") (rd 2))) (dropM (lmM 3 [] extF (consM (fzM (clM lstD (consM (clM tupD (consM (intM 4) (consM (intM 0) nilM))) (consM (clM tupD (consM (intM 6) (consM (intM 0) nilM))) nilM)))) nilM))) skipM)
  (seqM (setM 4 (intM 1))
  (seqM (iteM (testM (opM (inP false) (strM "stops") (rd 2))) (setM 4 (intM 8)) skipM)
  (seqM (setM 5 (clM lstD nilM))
  (seqM (forS (itM (fzv 3)) (tgN 6) (dropM (lmM 5 [] extF (consM (fzM (lcM [8] (rngM rng1 (consM (rd 4) nilM)) (tgN 8) yesM (clM tupD (consM (rd 0) (consM (rd 1) (consM (opM ixD (rd 6) (intM 0)) (consM (opM ixD (rd 6) (intM 1)) (consM (rd 8) nilM)))))))) nilM))))
  (retM (mv 5))))))))
theorem at_m : N__law_turns_at.m = (seqM (setM 3 (opM addD (lcM [7] (itM (callM 2 [.tmp, .tmp] f__law_targets (consM (rd 0) (consM (rd 1) nilM)))) (tgN 7) yesM (clM tupD (consM (intM 0) (consM (rd 7) nilM)))) (clM lstD (consM (clM tupD (consM (intM 3) (consM (intM 0) nilM))) (consM (clM tupD (consM (intM 5) (consM (intM 0) nilM))) nilM)))))
  (seqM (iteM (testM (opM (eqP true) (rd 0) (intM 0))) (dropM (lmM 3 [] appF (consM (fzM (clM tupD (consM (intM 0) (consM (intM 0) nilM)))) nilM))) skipM)
  (seqM (iteM (andM (testM (opM (inP false) (strM "slips") (rd 2))) (testM (opM (inP false) (rd 0) (clM tupD (consM (intM 1) (consM (intM 2) nilM)))))) (dropM (lmM 3 [] extF (consM (fzM (lcM [7] (itM (callM 2 [.tmp, .tmp] f__law_targets (consM (rd 0) (consM (rd 1) nilM)))) (tgN 7) yesM (clM tupD (consM (intM 1) (consM (rd 7) nilM))))) nilM))) skipM)
  atRest))) := rfl
theorem lturnsat_e {o l : Int} {tr : List Str} (h : AllOk tr) : f__law_turns_at [.int o, .int l, kl tr] = .ok (.lst true ((turnsAt o l tr).map tD)) [.int o, .int l, kl tr] := by
  have i1 := tr_in (w := "slips") h (by simp)
  have i2 := tr_in (w := "outs") h (by simp)
  have i3 := tr_in (w := "silent") h (by simp)
  have i4 := tr_in (w := "stops") h (by simp)
  have hk := has_kl (tr := tr)
  have te := ltargets_e (o := o) (l := l)
  have tl := tg_len (o := o) (l := l)
  have bl : ∀ {n : Nat}, n < 1000 → n < big := fun h => by unfold big; omega
  apply Vl.eq
  obtain ⟨Q, hQ⟩ := hide (fun (d : D) (es : List D) => d = .lst true ((turnsAt o l tr).map tD) ∧ es = [.int o, .int l, kl tr])
  have loop : ∀ {a : D} {w : Int}, w = many tr → Vl (forM (tgN 6) atBody ((latL o l tr).map pD) [.int o, .int l, kl tr, a, .int w, .lst true [], .un, .un, .un]) (fun b ρ => Vl (seqK (retM (mv 5)) b ρ) (FE 3 [3, 4, 5, 6] Q)) := by
    intro a w hw
    subst hw
    refine atLoop_ok lat_len fun b => ?_
    simp
    rw [hQ]
    exact ⟨rfl, rfl⟩
  rw [← hQ]
  clear hQ
  have lf : fzs ((latL o l tr).map pD) = (latL o l tr).map pD := fzs_pD
  generalize hL : (latL o l tr).map pD = LL at *
  unfold latL at hL
  generalize tgL o l = T at *
  have rest : ∀ Z : List D, Z.length ≤ 11 → LL = Z ++ ((if ("outs" : Str) ∈ tr then [.tup [.int 2, .int 0]] else []) ++ (if ("silent" : Str) ∈ tr then [.tup [.int 4, .int 0], .tup [.int 6, .int 0]] else [])) → Vl (atRest [.int o, .int l, kl tr, .lst true Z, .un, .un, .un, .un, .un]) (FE 3 [3, 4, 5, 6] Q) := by
    intro Z hz hl
    have g0 : Z.length < big := bl (by omega)
    have g2 : Z.length + 2 ≤ big := Nat.le_of_lt (bl (by omega))
    have g3 : Z.length + 1 + 2 ≤ big := Nat.le_of_lt (bl (by omega))
    have g4 : Z.length + 3 ≤ big := Nat.le_of_lt (bl (by omega))
    by_cases u2 : ("outs" : Str) ∈ tr <;> by_cases u3 : ("silent" : Str) ∈ tr <;>
    · simp [u2, u3] at hl
      rw [hl] at lf
      by_cases u4 : ("stops" : Str) ∈ tr
      · have e8 : (8 : Int) = many tr := by simp [many, u4]
        simp [atRest, i2, i3, i4, hk, u2, u3, u4, g0, g2, g3, g4, lf]
        rw [← hl]
        exact loop e8
      · have e1 : (1 : Int) = many tr := by simp [many, u4]
        simp [atRest, i2, i3, i4, hk, u2, u3, u4, g0, g2, g3, g4, lf]
        rw [← hl]
        exact loop e1
  clear lf loop
  simp [f__law_turns_at, fnM_e, at_m, te, hk]
  refine Vl_map (fun d => .tup [.int 0, d]) (by simp; exact bl (by omega)) ?_ ?_
  · intro d hd
    obtain ⟨x, hx, rfl⟩ := List.mem_map.mp hd
    simp
  rw [pD_of]
  have lA : ((T.map fun x => ((0 : Int), x)).map pD).length = T.length := by simp
  have fA : fzs ((T.map fun x => ((0 : Int), x)).map pD) = (T.map fun x => ((0 : Int), x)).map pD := fzs_pD
  have lC : ((T.map fun x => ((1 : Int), x)).map pD).length = T.length := by simp
  have fC : fzs ((T.map fun x => ((1 : Int), x)).map pD) = (T.map fun x => ((1 : Int), x)).map pD := fzs_pD
  have step : ∀ {P : List D → List D → Prop} {ρ1 : List D}, P ((T.map fun x => ((1 : Int), x)).map pD) (ρ1) → (∀ d ∈ T.map D.int, GO (tgN 7 d ρ1) fun ρ1' => Vl (yesM ρ1') fun c ρ2 => c = true ∧ Vl ((clM tupD (consM (intM 1) (consM (rd 7) nilM))) ρ2) fun y ρ3 => y = D.tup [.int 1, d] ∧ wipeD [7] ρ3 = ρ1) → Vl (lcLoop [7] (tgN 7) yesM (clM tupD (consM (intM 1) (consM (rd 7) nilM))) (T.map D.int) [] ρ1) P := by
    intro P ρ1 hP hh
    refine Vl_map (fun d => .tup [.int 1, d]) (by simp; exact bl (by omega)) hh ?_
    rw [pD_of]; exact hP
  simp only [List.map_append] at hL
  generalize hA : (T.map fun x => ((0 : Int), x)).map pD = A at *
  have hC' : ∀ c : Prop, [Decidable c] → (if c then T.map (fun x => ((1 : Int), x)) else []).map pD = if c then (T.map (fun x => ((1 : Int), x))).map pD else [] := fun c _ => by split <;> rfl
  rw [hC'] at hL
  generalize hC : (T.map fun x => ((1 : Int), x)).map pD = C at *
  have a2 : T.length + 2 ≤ big := Nat.le_of_lt (bl (by omega))
  have a3 : T.length + 2 < big := bl (by omega)
  have a4 : T.length + 2 + 1 + T.length ≤ big := Nat.le_of_lt (bl (by omega))
  have a5 : T.length + 3 + T.length ≤ big := Nat.le_of_lt (bl (by omega))
  have hp : ∀ (c : Prop) [Decidable c] (xs : List (Int × Int)), (if c then xs else []).map pD = if c then xs.map pD else [] := fun c _ xs => by split <;> rfl
  simp only [hp, List.map_cons, List.map_nil, pD] at hL
  by_cases h0 : o = 0
  · subst h0
    by_cases u1 : ("slips" : Str) ∈ tr <;>
    · simp [a2, a3, lA, i1, hk, u1, te]
      refine rest _ ?_ ?_
      · simp [lA, lC]; omega
      simp [← hL]
  · by_cases h12 : o = 1 ∨ o = 2
    · have hd : (decide (1 = o) || decide (2 = o)) = true := by simp; omega
      by_cases u1 : ("slips" : Str) ∈ tr
      · simp [a2, a3, lA, i1, hk, h0, hd, u1, te]
        refine step ?_ ?_
        · simp [fC, lA, lC, a3, a4, a5]
          refine rest _ ?_ ?_
          · simp [lA, lC]; omega
          simp [← hL, h0, h12, u1]
        · intro d hd
          obtain ⟨x, hx, rfl⟩ := List.mem_map.mp hd
          simp
      · simp [a2, a3, lA, i1, hk, h0, hd, u1, te]
        refine rest _ ?_ ?_
        · simp [lA, lC]; omega
        simp [← hL, h0, h12, u1]
    · have hd : (decide (1 = o) || decide (2 = o)) = false := by simp; omega
      by_cases u1 : ("slips" : Str) ∈ tr <;>
      · simp [a2, a3, lA, i1, hk, h0, hd, u1, te]
        refine rest _ ?_ ?_
        · simp [lA, lC]; omega
        simp [← hL, h0, h12, u1]
end G
end VS
set_option Elab.async false
set_option linter.all false
set_option maxRecDepth 100000
set_option maxHeartbeats 4000000
/-! R12: turns. -/
namespace VS
open PySem PySem.Spec PyProof.Rows L2
namespace G
theorem chg_len {o l : Int} {tr : List Str} : (chgL o l tr).length ≤ 9 := by
  have := flatMap_len (m := 3) (l := ledL o tr) (f := fun now => if l = 4 then [(now, if now ≠ 0 then (4 : Int) else 0)] else (ledL l tr).map fun x => (now, x)) fun a _ => by
    split
    · simp
    · rw [List.length_map]; exact led_len
  have h := led_len (n := o) (tr := tr)
  unfold chgL
  omega
theorem int_get {K : List Int} {i : Nat} {d : D} (h : (K.map D.int)[i]? = some d) : ∃ k, K[i]? = some k ∧ d = .int k := by
  rw [List.getElem?_map, Option.map_eq_some_iff] at h
  obtain ⟨k, h1, rfl⟩ := h
  exact ⟨k, h1, rfl⟩
theorem fm_take {α β : Type} {f : α → List β} {K : List α} {i : Nat} {k : α} (h : K[i]? = some k) : (K.take (i + 1)).flatMap f = (K.take i).flatMap f ++ f k := by
  rw [List.take_add_one, h]
  simp
theorem changed_e {o l : Int} {tr : List Str} (h : AllOk tr) : f_changed [pD (o, l), kl tr] = .ok (.lst true ((chgL o l tr).map pD)) [pD (o, l), kl tr] := by
  have hk := has_kl (tr := tr)
  have le := fun n => led_e (n := n) h
  have bl : ∀ {n : Nat}, n < 1000 → n < big := fun h => by unfold big; omega
  apply Vl.eq
  obtain ⟨Q, hQ⟩ := hide (fun (d : D) (es : List D) => d = .lst true ((chgL o l tr).map pD) ∧ es = [pD (o, l), kl tr])
  rw [← hQ]
  obtain ⟨I, hI⟩ := hide (fun (i : Nat) (ρ : List D) => ∃ (b : D), ρ = [pD (o, l), kl tr, .lst true ((((ledL o tr).take i).flatMap fun now => if l = 4 then [(now, if now ≠ 0 then (4 : Int) else 0)] else (ledL l tr).map fun x => (now, x)).map pD), b, .int o, .int l, .un])
  simp [f_changed, fnM_e, N_changed.m, pD, hk, le]
  refine Vl_for I (by rw [hI]; exact ⟨_, by simp [pD]; rfl⟩) ?_ ?_
  · intro i d ρ hd hi
    rw [hI] at hi
    obtain ⟨b, rfl⟩ := hi
    obtain ⟨n, hn, rfl⟩ := int_get hd
    have lX : ((((ledL o tr).take i).flatMap fun now => if l = 4 then [(now, if now ≠ 0 then (4 : Int) else 0)] else (ledL l tr).map fun x => (now, x)).map pD).length ≤ 9 := by
      rw [List.length_map]
      have := flatMap_len (m := 3) (l := (ledL o tr).take i) (f := fun now => if l = 4 then [(now, if now ≠ 0 then (4 : Int) else 0)] else (ledL l tr).map fun x => (now, x)) fun a _ => by
        split
        · simp
        · rw [List.length_map]; exact led_len
      have h := led_len (n := o) (tr := tr)
      have h3 : ((ledL o tr).take i).length ≤ (ledL o tr).length := by simp; omega
      omega
    have e := fm_take (f := fun now => if l = 4 then [(now, if now ≠ 0 then (4 : Int) else 0)] else (ledL l tr).map fun x => (now, x)) hn
    have done : ∀ b, I (i + 1) [pD (o, l), kl tr, .lst true ((((ledL o tr).take i).flatMap fun now => if l = 4 then [(now, if now ≠ 0 then (4 : Int) else 0)] else (ledL l tr).map fun x => (now, x)).map pD ++ (if l = 4 then [(n, if n ≠ 0 then (4 : Int) else 0)] else (ledL l tr).map fun x => (n, x)).map pD), b, .int o, .int l, .un] := by
      intro b
      rw [hI]
      exact ⟨b, by rw [e, List.map_append]⟩
    clear e hI
    generalize (((ledL o tr).take i).flatMap fun now => if l = 4 then [(now, if now ≠ 0 then (4 : Int) else 0)] else (ledL l tr).map fun x => (now, x)).map pD = X at *
    have b0 : X.length < big := bl (by omega)
    have lL := led_len (n := l) (tr := tr)
    by_cases h4 : l = 4
    · subst h4
      by_cases hz : n = 0
      · subst hz
        simp [pD] at done
        simp [c_CURRENT, b0, pD]
        exact done _
      · simp [pD, hz] at done
        simp [c_CURRENT, b0, pD, hz]
        exact done _
    · rw [if_neg h4, ← pD_of] at done
      simp [c_CURRENT, h4, pD, hk, le]
      refine Vl_map (fun d => .tup [.int n, d]) (by simp; exact bl (by omega)) ?_ ?_
      · intro d hd
        obtain ⟨x, hx, rfl⟩ := List.mem_map.mp hd
        simp
      · have fW : fzs (((ledL l tr).map D.int).map fun d => .tup [.int n, d]) = (((ledL l tr).map D.int).map fun d => .tup [.int n, d]) := by rw [pD_of]; exact fzs_pD
        have lW : (((ledL l tr).map D.int).map fun d => D.tup [.int n, d]).length ≤ 3 := by simp; exact lL
        generalize (((ledL l tr).map D.int).map fun d => D.tup [.int n, d]) = W at *
        have b1 : X.length + W.length ≤ big := Nat.le_of_lt (bl (by omega))
        simp [fW, b1]
        exact done _
  · intro ρ hi
    rw [hI] at hi
    obtain ⟨b, rfl⟩ := hi
    simp
    rw [hQ]
    unfold chgL
    have e : (ledL o tr).length = ((ledL o tr).map D.int).length := by simp
    exact ⟨by simp [List.map_flatMap], by simp [pD]⟩
def trBody : SM := (dropM (lmM 3 [] extF (consM (fzM (lcM [6] (rngM rng1 (consM (rd 2) nilM)) (tgN 6) yesM (opM addD (opM addD (rd 4) (rd 5)) (clM tupD (consM (rd 6) nilM))))) nilM)))
theorem trLoop_ok {o l : Int} {tr : List Str} {sit : D} {K : List (Int × Int)} {X : List D} {b : D} {Q : Fl → List D → Prop} (hK : K.length ≤ 16) (hX : X.length ≤ 2000)
    (hQ : ∀ b, Q .nx [sit, kl tr, .int (many tr), .lst true (X ++ (K.flatMap (withS o l tr)).map tD), pD (o, l), b, .un]) :
    Vl (forM (tgN 5) trBody (K.map pD) [sit, kl tr, .int (many tr), .lst true X, pD (o, l), b, .un]) Q := by
  obtain ⟨I, hI⟩ := hide (fun (i : Nat) (ρ : List D) => ∃ (b : D), ρ = [sit, kl tr, .int (many tr), .lst true (X ++ ((K.take i).flatMap (withS o l tr)).map tD), pD (o, l), b, .un])
  refine Vl_for I (by rw [hI]; exact ⟨_, by simp; rfl⟩) ?_ ?_
  · intro i d ρ hd h
    rw [hI] at h
    obtain ⟨b, rfl⟩ := h
    obtain ⟨k, hk', rfl⟩ := pair_get hd
    have sm : small62 (many tr : Nat) = true := by have := many_le (tr := tr); unfold small62; simp; omega
    have c4 : (4 : Nat) ≤ big := by unfold big; omega
    have c5 : (5 : Nat) ≤ big := by unfold big; omega
    simp [trBody, pD, rng1, sm]
    refine Vl_map (fun d => .tup [.int o, .int l, .int k.1, .int k.2, d]) (by simp; have := many_le (tr := tr); unfold big; omega) ?_ ?_
    · intro d hd
      obtain ⟨s, hs, rfl⟩ := List.mem_map.mp hd
      simp [c4, c5]
    · have e : (rangeD 0 (many tr)).map (fun d => D.tup [.int o, .int l, .int k.1, .int k.2, d]) = (withS o l tr k).map tD := by
        unfold rangeD withS
        rw [List.map_map, List.map_map]
        refine List.map_congr_left fun s _ => ?_
        simp [tD, turnD]
      rw [e]
      have l1 : (X ++ ((K.take i).flatMap (withS o l tr)).map tD).length + ((withS o l tr k).map tD).length ≤ big := by
        have h1 := flatMap_len (m := 8) (l := K.take i) (f := withS o l tr) fun a _ => withS_len
        have h2 := withS_len (o := o) (l := l) (tr := tr) (k := k)
        have h3 : (K.take i).length ≤ K.length := by simp; omega
        rw [List.length_append, List.length_map, List.length_map]
        unfold big; omega
      have fW : fzs ((withS o l tr k).map tD) = (withS o l tr k).map tD := fzs_tD
      have et := fm_take (f := withS o l tr) hk'
      have done : ∀ b, I (i + 1) [sit, kl tr, .int (many tr), .lst true ((X ++ ((K.take i).flatMap (withS o l tr)).map tD) ++ (withS o l tr k).map tD), pD (o, l), b, .un] := by
        intro b
        rw [hI]
        exact ⟨b, by rw [et, List.map_append, List.append_assoc]⟩
      generalize X ++ ((K.take i).flatMap (withS o l tr)).map tD = Y at *
      generalize hW : (withS o l tr k).map tD = W at *
      simp [fW, l1]
      exact done _
  · intro ρ h
    rw [hI] at h
    obtain ⟨b, rfl⟩ := h
    simp only [List.length_map, List.take_length]
    exact hQ _
def sitD (o l : Int) : D := .tup [.int o, .int l]
def tr_m : SM := (seqM (setM 2 (fzM (ifM (testM (opM (inP false) (strM "stops") (rd 1))) (intM 8) (intM 1))))
  (seqM (setM 3 (clM lstD nilM))
  (seqM (forS (itM (callM 2 [.tmp, .tmp] f_changed (consM (rd 0) (consM (rd 1) nilM)))) (tgN 4) (forS (itM (callM 2 [.tmp, .tmp] f_ticks (consM (rd 4) (consM (rd 1) nilM)))) (tgN 5) trBody))
  (retM (clM (one sortedG) (consM (fzv 3) nilM))))))
theorem tr_me : N_turns.m = tr_m := rfl
theorem turns_e {o l : Int} {tr : List Str} (h : AllOk tr) : f_turns [sitD o l, kl tr] = .ok (.lst true (sortDs ((turnsP o l tr).map tD))) [sitD o l, kl tr] := by
  have hk := has_kl (tr := tr)
  have i4 := tr_in (w := "stops") h (by simp)
  have ce := changed_e (o := o) (l := l) h
  have te := fun q : Int × Int => ticks_e (o := q.1) (l := q.2) h
  have cl := chg_len (o := o) (l := l) (tr := tr)
  have fC : fzs ((chgL o l tr).map pD) = (chgL o l tr).map pD := fzs_pD
  have pC : pures? ((chgL o l tr).map pD) = true := pures_pD
  apply Vl.eq
  obtain ⟨Q, hQ⟩ := hide (fun (d : D) (es : List D) => d = .lst true (sortDs ((turnsP o l tr).map tD)) ∧ es = [sitD o l, kl tr])
  rw [← hQ]
  obtain ⟨I, hI⟩ := hide (fun (i : Nat) (ρ : List D) => ∃ (b c : D), ρ = [sitD o l, kl tr, .int (many tr), .lst true ((((chgL o l tr).take i).flatMap fun q => (tickL q.1 q.2 tr).flatMap (withS q.1 q.2 tr)).map tD), b, c, .un])
  have main : ∀ {w : Int}, w = many tr → Vl (forM (tgN 4) (forS (itM (callM 2 [.tmp, .tmp] f_ticks (consM (rd 4) (consM (rd 1) nilM)))) (tgN 5) trBody) ((chgL o l tr).map pD) [sitD o l, kl tr, .int w, .lst true [], .un, .un, .un]) (fun b ρ => Vl (seqK (retM (clM (one sortedG) (consM (fzv 3) nilM))) b ρ) (FE 2 [2, 3, 4, 5] Q)) := by
    intro w hw
    subst hw
    refine Vl_for I (by rw [hI]; exact ⟨_, _, by simp; exact ⟨rfl, rfl⟩⟩) ?_ ?_
    · intro i d ρ hd hi
      rw [hI] at hi
      obtain ⟨b, c, rfl⟩ := hi
      obtain ⟨q, hq, rfl⟩ := pair_get hd
      have te := te q
      have fT : fzs ((tickL q.1 q.2 tr).map pD) = (tickL q.1 q.2 tr).map pD := fzs_pD
      have pT : pures? ((tickL q.1 q.2 tr).map pD) = true := pures_pD
      have hp : has? (pD (q.1, q.2)) = true ∧ pure? (pD (q.1, q.2)) = true := by simp [pD]
      have lX : ((((chgL o l tr).take i).flatMap fun q => (tickL q.1 q.2 tr).flatMap (withS q.1 q.2 tr)).map tD).length ≤ 2000 := by
        rw [List.length_map]
        have h1 := flatMap_len (m := 128) (l := (chgL o l tr).take i) (f := fun q => (tickL q.1 q.2 tr).flatMap (withS q.1 q.2 tr)) fun a _ => by
          have := flatMap_len (m := 8) (l := tickL a.1 a.2 tr) (f := withS a.1 a.2 tr) fun a _ => withS_len
          have h := tick_len (o := a.1) (l := a.2) (tr := tr)
          omega
        have h3 : ((chgL o l tr).take i).length ≤ (chgL o l tr).length := by simp; omega
        omega
      have et := fm_take (f := fun q : Int × Int => (tickL q.1 q.2 tr).flatMap (withS q.1 q.2 tr)) hq
      have done : ∀ b c, I (i + 1) [sitD o l, kl tr, .int (many tr), .lst true ((((chgL o l tr).take i).flatMap fun q => (tickL q.1 q.2 tr).flatMap (withS q.1 q.2 tr)).map tD ++ ((tickL q.1 q.2 tr).flatMap (withS q.1 q.2 tr)).map tD), b, c, .un] := by
        intro b c
        rw [hI]
        exact ⟨b, c, by rw [et, List.map_append]⟩
      generalize (((chgL o l tr).take i).flatMap fun q => (tickL q.1 q.2 tr).flatMap (withS q.1 q.2 tr)).map tD = X at *
      have main := trLoop_ok (o := q.1) (l := q.2) (tr := tr) (sit := sitD o l) (K := tickL q.1 q.2 tr) (X := X) (b := c) (Q := StP (I (i + 1)) fun b ρ => Vl (seqK (retM (clM (one sortedG) (consM (fzv 3) nilM))) b ρ) (FE 2 [2, 3, 4, 5] Q)) tick_len lX fun b => done _ _
      simp [hk, te, fT, pT, hp]
      exact main
    · intro ρ hi
      rw [hI] at hi
      obtain ⟨b, c, rfl⟩ := hi
      have e : ((chgL o l tr).take ((chgL o l tr).map pD).length) = chgL o l tr := by rw [List.length_map, List.take_length]
      rw [e]
      have e2 : ((chgL o l tr).flatMap fun q => (tickL q.1 q.2 tr).flatMap (withS q.1 q.2 tr)) = turnsP o l tr := rfl
      rw [e2]
      have fT : fzs ((turnsP o l tr).map tD) = (turnsP o l tr).map tD := fzs_tD
      have so := sortOk_tD (turnsP o l tr)
      generalize (turnsP o l tr).map tD = W at *
      simp [fT, so]
      rw [hQ]
      exact ⟨rfl, rfl⟩
  have hs : has? (sitD o l) = true ∧ pure? (sitD o l) = true := by simp [sitD]
  have ce : f_changed [sitD o l, kl tr] = .ok (.lst true ((chgL o l tr).map pD)) [sitD o l, kl tr] := ce
  by_cases u4 : ("stops" : Str) ∈ tr
  · have e8 : (8 : Int) = many tr := by simp [many, u4]
    simp [f_turns, fnM_e, tr_me, tr_m, hk, hs, i4, u4, ce, fC, pC]
    exact main e8
  · have e8 : (1 : Int) = many tr := by simp [many, u4]
    simp [f_turns, fnM_e, tr_me, tr_m, hk, hs, i4, u4, ce, fC, pC]
    exact main e8
end G
end VS
set_option Elab.async false
set_option linter.all false
set_option maxRecDepth 100000
set_option maxHeartbeats 4000000
/-! R13: the law's turns. -/
namespace VS
open PySem PySem.Spec PyProof.Rows L2
namespace G
def lastsL (o l : Int) (tr : List Str) : List Int := if l = 4 then [if 0 < o then 4 else 0] else ledL l tr
theorem lasts_len {o l : Int} {tr : List Str} : (lastsL o l tr).length ≤ 3 := by
  unfold lastsL
  split
  · simp
  · exact led_len
theorem shs_int {xs : List Int} : fzs (xs.map D.int) = xs.map D.int ∧ pures? (xs.map D.int) = true := by
  induction xs with
  | nil => simp
  | cons x xs ih => simp [ih]
def ltBody : SM := (dropM (lmM 2 [] extF (consM (fzM (callM 3 [.tmp, .tmp, .tmp] f__law_turns_at (consM (rd 3) (consM (rd 5) (consM (rd 1) nilM))))) nilM)))
theorem ltLoop_ok {o : Int} {tr : List Str} {sit ws : D} {K : List Int} {X : List D} {b : D} {Q : Fl → List D → Prop} (h : AllOk tr) (hK : K.length ≤ 3) (hX : X.length ≤ 2000)
    (hQ : ∀ b, Q .nx [sit, kl tr, .lst true (X ++ (K.flatMap fun l => turnsAt o l tr).map tD), .int o, ws, b]) :
    Vl (forM (tgN 5) ltBody (K.map D.int) [sit, kl tr, .lst true X, .int o, ws, b]) Q := by
  obtain ⟨I, hI⟩ := hide (fun (i : Nat) (ρ : List D) => ∃ (b : D), ρ = [sit, kl tr, .lst true (X ++ ((K.take i).flatMap fun l => turnsAt o l tr).map tD), .int o, ws, b])
  have hk := has_kl (tr := tr)
  have le := fun l => lturnsat_e (o := o) (l := l) h
  refine Vl_for I (by rw [hI]; exact ⟨_, by simp; rfl⟩) ?_ ?_
  · intro i d ρ hd hi
    rw [hI] at hi
    obtain ⟨b, rfl⟩ := hi
    obtain ⟨k, hk', rfl⟩ := int_get hd
    have l1 : (X ++ ((K.take i).flatMap fun l => turnsAt o l tr).map tD).length + ((turnsAt o k tr).map tD).length ≤ big := by
      have h1 := flatMap_len (m := 128) (l := K.take i) (f := fun l => turnsAt o l tr) fun a _ => turnsAt_len
      have h2 := turnsAt_len (o := o) (l := k) (tr := tr)
      have h3 : (K.take i).length ≤ K.length := by simp; omega
      rw [List.length_append, List.length_map, List.length_map]
      unfold big; omega
    have fW : fzs ((turnsAt o k tr).map tD) = (turnsAt o k tr).map tD := fzs_tD
    have pW : pures? ((turnsAt o k tr).map tD) = true := pures_tD
    have et := fm_take (f := fun l => turnsAt o l tr) hk'
    have le := le k
    have done : ∀ b, I (i + 1) [sit, kl tr, .lst true ((X ++ ((K.take i).flatMap fun l => turnsAt o l tr).map tD) ++ (turnsAt o k tr).map tD), .int o, ws, b] := by
      intro b
      rw [hI]
      exact ⟨b, by rw [et, List.map_append, List.append_assoc]⟩
    generalize X ++ ((K.take i).flatMap fun l => turnsAt o l tr).map tD = Y at *
    generalize hW : (turnsAt o k tr).map tD = W at *
    simp [ltBody, hk, le, fW, pW, l1]
    exact done _
  · intro ρ h
    rw [hI] at h
    obtain ⟨b, rfl⟩ := h
    simp only [List.length_map, List.take_length]
    exact hQ _
def lt_m : SM := (seqM (setM 2 (clM lstD nilM))
  (seqM (forS (itM (callM 2 [.tmp, .tmp] f__law_ways (consM (opM ixD (rd 0) (intM 0)) (consM (rd 1) nilM)))) (tgN 3) (seqM (setM 4 (fzM (callM 2 [.tmp, .tmp] f__law_ways (consM (opM ixD (rd 0) (intM 1)) (consM (rd 1) nilM)))))
  (seqM (iteM (testM (opM (eqP false) (opM ixD (rd 0) (intM 1)) (intM 4))) (setM 4 (fzM (clM lstD (consM (opM mulD (intM 4) (clM (one intD) (consM (opM gtD (rd 3) (intM 0)) nilM))) nilM)))) skipM)
  (forS (itM (rd 4)) (tgN 5) ltBody))))
  (retM (clM (one sortedG) (consM (fzv 2) nilM)))))
theorem lt_me : N__law_turns.m = lt_m := rfl
theorem lturns_e {o l : Int} {tr : List Str} (h : AllOk tr) : f__law_turns [sitD o l, kl tr] = .ok (.lst true (sortDs ((turnsL o l tr).map tD))) [sitD o l, kl tr] := by
  have hk := has_kl (tr := tr)
  have le := fun n => lways_e (n := n) h
  have cl := led_len (n := o) (tr := tr)
  have fC := shs_int (xs := ledL o tr)
  have hs : has? (sitD o l) = true ∧ pure? (sitD o l) = true := by simp [sitD]
  apply Vl.eq
  obtain ⟨Q, hQ⟩ := hide (fun (d : D) (es : List D) => d = .lst true (sortDs ((turnsL o l tr).map tD)) ∧ es = [sitD o l, kl tr])
  rw [← hQ]
  obtain ⟨I, hI⟩ := hide (fun (i : Nat) (ρ : List D) => ∃ (b c e : D), ρ = [sitD o l, kl tr, .lst true ((((ledL o tr).take i).flatMap fun o' => (lastsL o' l tr).flatMap fun l' => turnsAt o' l' tr).map tD), b, c, e])
  simp [f__law_turns, fnM_e, lt_me, lt_m, hk, hs, le, fC, sitD, atI, ixN]
  refine Vl_for I (by rw [hI]; exact ⟨_, _, _, by simp [sitD]; exact ⟨rfl, rfl, rfl⟩⟩) ?_ ?_
  · intro i d ρ hd hi
    rw [hI] at hi
    obtain ⟨b, c, e, rfl⟩ := hi
    obtain ⟨n, hn, rfl⟩ := int_get hd
    have lX : ((((ledL o tr).take i).flatMap fun o' => (lastsL o' l tr).flatMap fun l' => turnsAt o' l' tr).map tD).length ≤ 2000 := by
      rw [List.length_map]
      have h1 := flatMap_len (m := 384) (l := (ledL o tr).take i) (f := fun o' => (lastsL o' l tr).flatMap fun l' => turnsAt o' l' tr) fun a _ => by
        have := flatMap_len (m := 128) (l := lastsL a l tr) (f := fun l' => turnsAt a l' tr) fun a _ => turnsAt_len
        have h := lasts_len (o := a) (l := l) (tr := tr)
        omega
      have h3 : ((ledL o tr).take i).length ≤ (ledL o tr).length := by simp; omega
      omega
    have et := fm_take (f := fun o' => (lastsL o' l tr).flatMap fun l' => turnsAt o' l' tr) hn
    have done : ∀ b c e, I (i + 1) [sitD o l, kl tr, .lst true ((((ledL o tr).take i).flatMap fun o' => (lastsL o' l tr).flatMap fun l' => turnsAt o' l' tr).map tD ++ ((lastsL n l tr).flatMap fun l' => turnsAt n l' tr).map tD), b, c, e] := by
      intro b c e
      rw [hI]
      exact ⟨b, c, e, by rw [et, List.map_append]⟩
    generalize (((ledL o tr).take i).flatMap fun o' => (lastsL o' l tr).flatMap fun l' => turnsAt o' l' tr).map tD = X at *
    have main := fun ws => ltLoop_ok (o := n) (tr := tr) (sit := sitD o l) (ws := ws) (K := lastsL n l tr) (X := X) (b := e) (Q := StP (I (i + 1)) fun b ρ => Vl (seqK (retM (clM (one sortedG) (consM (fzv 2) nilM))) b ρ) (FE 2 [2, 3, 4, 5] Q)) h lasts_len lX fun b => done _ _ _
    by_cases h4 : l = 4
    · subst h4
      have cm := cm_l 4 (if 0 < n then 1 else 0) (by omega) (by omega)
      have f1 := shs_int (xs := ledL 4 tr)
      by_cases hn0 : 0 < n
      · have e1 : lastsL n 4 tr = [4] := by simp [lastsL, hn0]
        rw [e1] at main
        have cm := cm_l 4 1 (by omega) (by omega)
        simp [hk, hs, le, f1, sitD, atI, ixN, hn0, cm]
        exact main _
      · have e1 : lastsL n 4 tr = [0] := by simp [lastsL, hn0]
        rw [e1] at main
        have cm := cm_l 4 0 (by omega) (by omega)
        simp [hk, hs, le, f1, sitD, atI, ixN, hn0, cm]
        exact main _
    · have f1 := shs_int (xs := ledL l tr)
      have e1 : lastsL n l tr = ledL l tr := by simp [lastsL, h4]
      rw [e1] at main
      simp [hk, hs, le, f1, sitD, atI, ixN, h4]
      exact main _
  · intro ρ hi
    rw [hI] at hi
    obtain ⟨b, c, e, rfl⟩ := hi
    have e : ((ledL o tr).take ((ledL o tr).map D.int).length) = ledL o tr := by rw [List.length_map, List.take_length]
    rw [e]
    have e2 : ((ledL o tr).flatMap fun o' => (lastsL o' l tr).flatMap fun l' => turnsAt o' l' tr) = turnsL o l tr := rfl
    rw [e2]
    have fT : fzs ((turnsL o l tr).map tD) = (turnsL o l tr).map tD := fzs_tD
    have so := sortOk_tD (turnsL o l tr)
    generalize (turnsL o l tr).map tD = W at *
    simp [fT, so]
    rw [hQ]
    exact ⟨rfl, rfl⟩
/-- the turns of a situation, in order -/
def turnsS (o l : Int) (tr : List Str) : List D := sortDs ((turnsP o l tr).map tD)
theorem turns_same {o l : Int} {tr : List Str} (h0 : 0 ≤ o) (h1 : o < 4) : sortDs ((turnsL o l tr).map tD) = turnsS o l tr := (sort_tD (turns_perm tr h0 h1)).symm
end G
end VS
set_option Elab.async false
set_option linter.all false
set_option maxRecDepth 100000
set_option maxHeartbeats 4000000
/-! R14: troubles drawn; turns that are possible; the situation behind. -/
namespace VS
open PySem PySem.Spec PyProof.Rows L2
namespace G
abbrev TROUB : List Str := ["removals", "moves", "slips", "stops", "silent", "outs"]
theorem troubles_ok {row : List Int} {n : Nat} : Vl (f__law_troubles [bx row n]) fun d es => (∃ tr, d = .lst true (tr.map D.str) ∧ tr ∈ subs TROUB) ∧ ∃ n', es = [bx row n'] := by
  obtain ⟨Q, hQ⟩ := hide (fun (d : D) (es : List D) => (∃ tr, d = .lst true (tr.map D.str) ∧ tr ∈ subs TROUB) ∧ ∃ n', es = [bx row n'])
  obtain ⟨I, hI⟩ := hide (fun (i : Nat) (acc ρ : List D) => ∃ n' ys, acc = ys.map D.str ∧ ys.length ≤ i ∧ ρ = [bx row n', .un] ∧ ys ∈ subs (TROUB.take i))
  rw [← hQ]
  have e0 : [D.str (Str.ofString "removals"), D.str (Str.ofString "moves"), D.str (Str.ofString "slips"), D.str (Str.ofString "stops"), D.str (Str.ofString "silent"), D.str (Str.ofString "outs")] = TROUB.map D.str := rfl
  simp [f__law_troubles, fnM_e, N__law_troubles.m]
  rw [e0]
  refine Vl_lc I (by rw [hI]; exact ⟨n, [], rfl, by simp, rfl, by simp [subs]⟩) ?_ ?_
  · intro i d acc ρ hd h
    rw [hI] at h
    obtain ⟨n', ys, rfl, hl, rfl, hy⟩ := h
    obtain ⟨x, hx, rfl⟩ := strs_get hd
    have hi : i < TROUB.length := (List.getElem?_eq_some_iff.mp hx).1
    have h6 : TROUB.length = 6 := rfl
    have := take_snoc hx
    refine ⟨by unfold big; simp; omega, ?_⟩
    simp [draw_e]
    refine ⟨fun _ => ?_, fun _ => ?_⟩
    · rw [hI]; exact ⟨_, ys ++ [x], by simp, by simp; omega, rfl, this ▸ (sub_snoc hy).2⟩
    · rw [hI]; exact ⟨_, ys, rfl, by omega, rfl, this ▸ (sub_snoc hy).1⟩
  · intro acc ρ h
    rw [hI] at h
    obtain ⟨n', ys, rfl, hl, rfl, hy⟩ := h
    have e6 : TROUB.take (TROUB.map D.str).length = TROUB := rfl
    rw [e6] at hy
    simp
    rw [hQ]
    exact ⟨⟨ys, rfl, hy⟩, _, rfl⟩
theorem sub_mem {α : Type} {x : α} : ∀ {xs ys : List α}, ys ∈ subs xs → x ∈ ys → x ∈ xs
  | [], ys, h, hx => by simp [subs] at h; subst h; cases hx
  | a :: xs, ys, h, hx => by
    simp [subs] at h
    rcases h with h | ⟨zs, h, rfl⟩
    · exact List.mem_cons_of_mem _ (sub_mem h hx)
    · rcases List.mem_cons.mp hx with rfl | hx
      · simp
      · exact List.mem_cons_of_mem _ (sub_mem h hx)
theorem ok_TROUB : AllOk TROUB := fun w hw => by
  simp at hw
  rcases hw with rfl | rfl | rfl | rfl | rfl | rfl <;> simp
theorem ok_KINDS : AllOk KINDS := fun w hw => by
  simp at hw
  rcases hw with rfl | rfl | rfl | rfl | rfl <;> simp
theorem ok_SIGHTS : AllOk SIGHTS := fun w hw => by
  simp at hw
  rcases hw with rfl | rfl | rfl <;> simp
theorem AllOk.sub {xs ys : List Str} (h : AllOk xs) (hs : ys ∈ subs xs) : AllOk ys := fun w hw => h w (sub_mem hs hw)
/-! a situation -/
structure SitOk (o l : Int) : Prop where
  o0 : 0 ≤ o
  o1 : o < 4
  l0 : 0 ≤ l
  l1 : l ≤ 4
theorem led_n' {n : Int} {tr : List Str} (h0 : 0 ≤ n) (h1 : n ≤ 4) : ∀ m ∈ ledL n tr, 0 ≤ m ∧ m ≤ 4 := by
  unfold ledL
  intro m hm
  simp only [List.mem_append, List.mem_singleton] at hm
  rcases hm with rfl | hm | hm
  · exact ⟨h0, h1⟩
  · split at hm <;> simp at hm
    omega
  · split at hm <;> simp at hm
    omega
theorem chg_ok {o l : Int} {tr : List Str} (S : SitOk o l) : ∀ q ∈ chgL o l tr, SitOk q.1 q.2 := by
  obtain ⟨o0, o1, l0, l1⟩ := S
  intro q hq
  unfold chgL at hq
  obtain ⟨n, hn, hq⟩ := List.mem_flatMap.mp hq
  obtain ⟨n0, n1⟩ := led_n o0 o1 n hn
  by_cases h4 : l = 4
  · rw [if_pos h4] at hq
    simp only [List.mem_singleton] at hq
    subst hq
    refine ⟨n0, n1, ?_, ?_⟩ <;> dsimp only <;> split <;> omega
  · rw [if_neg h4] at hq
    obtain ⟨m, hm, rfl⟩ := List.mem_map.mp hq
    obtain ⟨m0, m1⟩ := led_n' l0 l1 m hm
    exact ⟨n0, n1, m0, m1⟩
theorem tg_ok {o l : Int} : ∀ g ∈ tgL o l, 1 ≤ g ∧ g ≤ 4 ∧ (g = 1 → 1 ≤ l ∧ l ≤ 3) := by
  intro g hg
  unfold tgL at hg
  simp only [List.mem_append, List.mem_cons, List.not_mem_nil, or_false] at hg
  rcases hg with (rfl | rfl) | hg | hg
  · omega
  · omega
  · split at hg
    · simp at hg; omega
    · simp at hg
  · split at hg <;> simp at hg
    omega
theorem tick_ok {o l : Int} {tr : List Str} : ∀ k ∈ tickL o l tr, 0 ≤ k.1 ∧ k.1 ≤ 6 ∧ 0 ≤ k.2 ∧ k.2 ≤ 4 ∧ (k.2 = 1 → 1 ≤ l ∧ l ≤ 3) ∧ (k.1 ≤ 1 → k.2 = 0 → o ≠ 0) ∧ (2 ≤ k.1 → k.2 = 0) := by
  intro k hk
  unfold tickL at hk
  simp only [List.mem_append, List.mem_map] at hk
  rcases hk with ⟨g, hg, rfl⟩ | hk | hk | hk | hk | hk
  · have := tg_ok g hg; dsimp only; omega
  · split at hk <;> simp at hk
    subst hk; dsimp only; omega
  · split at hk
    · obtain ⟨g, hg, rfl⟩ := List.mem_map.mp hk
      have := tg_ok g hg; dsimp only; omega
    · simp at hk
  · split at hk <;> simp at hk
    subst hk; dsimp only; omega
  · simp at hk
    rcases hk with rfl | rfl <;> dsimp only <;> omega
  · split at hk <;> simp at hk
    rcases hk with rfl | rfl <;> dsimp only <;> omega
theorem turnsP_ok {o l : Int} {tr : List Str} (S : SitOk o l) : ∀ x ∈ turnsP o l tr, TurnS x.o x.l x.t x.g x.s := by
  intro x hx
  unfold turnsP at hx
  obtain ⟨q, hq, hx⟩ := List.mem_flatMap.mp hx
  obtain ⟨k, hk, hx⟩ := List.mem_flatMap.mp hx
  obtain ⟨o0, o1, l0, l1⟩ := chg_ok S q hq
  obtain ⟨a1, a2, a3, a4, a5, a6, a7⟩ := tick_ok k hk
  unfold withS at hx
  obtain ⟨s, hs, rfl⟩ := List.mem_map.mp hx
  have hs := List.mem_range.mp hs
  have := many_le (tr := tr)
  exact ⟨⟨⟨o0, o1, l0, l1, a1, a2, a3, a4, a5⟩, fun h1 h2 => by have := a6 h1 h2; dsimp only at *; omega, a7⟩, by dsimp only; omega, by dsimp only; omega⟩
theorem turnsS_mem {o l : Int} {tr : List Str} {d : D} : d ∈ turnsS o l tr ↔ ∃ x ∈ turnsP o l tr, d = tD x := by
  unfold turnsS sortDs
  rw [List.mem_mergeSort, List.mem_map]
  constructor
  · rintro ⟨x, h, rfl⟩; exact ⟨x, h, rfl⟩
  · rintro ⟨x, h, rfl⟩; exact ⟨x, h, rfl⟩
theorem tD_inj {x y : Turn} (h : tD x = tD y) : x = y := by
  cases x; cases y
  simp [tD, turnD] at h
  simp [h]
theorem turnsS_in {o l : Int} {tr : List Str} {x : Turn} : tD x ∈ turnsS o l tr ↔ x ∈ turnsP o l tr := by
  rw [turnsS_mem]
  constructor
  · rintro ⟨y, h, e⟩; rw [tD_inj e]; exact h
  · intro h; exact ⟨x, h, rfl⟩
/-- every situation has a turn -/
theorem turnsP_ne {o l : Int} {tr : List Str} : turnsP o l tr ≠ [] := by
  have h1 : ∃ l', (o, l') ∈ chgL o l tr := by
    by_cases h4 : l = 4
    · refine ⟨if o ≠ 0 then 4 else 0, ?_⟩
      unfold chgL
      refine List.mem_flatMap.mpr ⟨o, by simp [ledL], ?_⟩
      rw [if_pos h4]; simp
    · refine ⟨l, ?_⟩
      unfold chgL
      refine List.mem_flatMap.mpr ⟨o, by simp [ledL], ?_⟩
      rw [if_neg h4]; exact List.mem_map.mpr ⟨l, by simp [ledL], rfl⟩
  obtain ⟨l', h1⟩ := h1
  have h2 : ((3 : Int), (0 : Int)) ∈ tickL o l' tr := by simp [tickL]
  have h3 : (⟨o, l', 3, 0, 0⟩ : Turn) ∈ withS o l' tr (3, 0) := by
    unfold withS
    refine List.mem_map.mpr ⟨0, List.mem_range.mpr ?_, rfl⟩
    unfold many; split <;> omega
  intro h
  have : (⟨o, l', 3, 0, 0⟩ : Turn) ∈ turnsP o l tr := by
    unfold turnsP
    exact List.mem_flatMap.mpr ⟨_, h1, List.mem_flatMap.mpr ⟨_, h2, h3⟩⟩
  rw [h] at this
  cases this
theorem turnsP_len {o l : Int} {tr : List Str} : (turnsP o l tr).length ≤ 1152 := by
  have h1 := flatMap_len (m := 128) (l := chgL o l tr) (f := fun q => (tickL q.1 q.2 tr).flatMap (withS q.1 q.2 tr)) fun a _ => by
    have := flatMap_len (m := 8) (l := tickL a.1 a.2 tr) (f := withS a.1 a.2 tr) fun a _ => withS_len
    have h := tick_len (o := a.1) (l := a.2) (tr := tr)
    omega
  have := chg_len (o := o) (l := l) (tr := tr)
  unfold turnsP
  omega
/-! the situation behind -/
def aft (p : Str) (ks ss : List Str) (x : Turn) : Int × Int :=
  let ent := (lawR p ks ss x.o x.l x.t x.g x.s).ent
  let n := numT x.o x.l x.g
  if x.t < 2 ∧ x.g = 0 then (x.o, x.l) else if x.t < 2 ∧ (ent = true ∨ x.g = 1) then (n, 4) else if x.t < 2 then (n, lold x.o x.l x.t) else (0, lold x.o x.l x.t)
theorem aft_e {p : Str} {ks ss : List Str} {x : Turn} : lsit x.o x.l x.t x.g (numT x.o x.l x.g) (lawR p ks ss x.o x.l x.t x.g x.s).ent = sitD (aft p ks ss x).1 (aft p ks ss x).2 := by
  unfold lsit aft sitD
  dsimp only
  split
  · rfl
  · split
    · rfl
    · split <;> rfl
theorem aft_ok {p : Str} {ks ss : List Str} {x : Turn} (T : TurnS x.o x.l x.t x.g x.s) : SitOk (aft p ks ss x).1 (aft p ks ss x).2 := by
  have nb := numT_b T.toTurnOk'
  obtain ⟨⟨⟨o0, o1, l0, l1, t0, t1, g0, g1, gl⟩, go, gt⟩, s0, s1⟩ := T
  have hl : 0 ≤ lold x.o x.l x.t ∧ lold x.o x.l x.t ≤ 4 := by
    unfold lold
    split
    · split <;> omega
    · omega
  unfold aft
  dsimp only
  split
  · exact ⟨o0, o1, l0, l1⟩
  · split
    · have := nb (by omega); exact ⟨by dsimp only; omega, by dsimp only; omega, by dsimp only; omega, by dsimp only; omega⟩
    · split
      · have := nb (by omega); exact ⟨by dsimp only; omega, by dsimp only; omega, by dsimp only; omega, by dsimp only; omega⟩
      · exact ⟨by dsimp only; omega, by dsimp only; omega, by dsimp only; omega, by dsimp only; omega⟩
end G
end VS
set_option Elab.async false
set_option linter.all false
set_option maxRecDepth 100000
set_option maxHeartbeats 4000000
/-! R15: scenarios. -/
namespace VS
open PySem PySem.Spec PyProof.Rows L2
namespace G
def inB (ds : List D) (d : D) : Bool := ds.any fun z => eqD z d
theorem eqD_tD {x y : Turn} : eqD (tD x) (tD y) = true ↔ x = y := by
  cases x with | mk o l t g s => cases y with | mk o' l' t' g' s' =>
  simp [tD, turnD]
theorem inB_tD {o l : Int} {tr : List Str} {x : Turn} : inB (turnsS o l tr) (tD x) = true ↔ x ∈ turnsP o l tr := by
  unfold inB
  rw [List.any_eq_true]
  constructor
  · rintro ⟨d, hd, he⟩
    obtain ⟨y, hy, rfl⟩ := turnsS_mem.mp hd
    rw [← eqD_tD.mp he]; exact hy
  · intro h
    exact ⟨tD x, turnsS_in.mpr h, eqD_tD.mpr rfl⟩
theorem sh_tD {n : Nat} {x : Turn} : sh (n + 2) (tD x) = true := by simp [tD, turnD]
theorem shs_turnsS {n : Nat} {o l : Int} {tr : List Str} : shs (n + 2) (turnsS o l tr) = true := shs_all fun d hd => by
  obtain ⟨x, _, rfl⟩ := turnsS_mem.mp hd
  exact sh_tD
theorem in_turns {m neg : Bool} {o l : Int} {tr : List Str} {x : Turn} : inP neg (tD x) (.lst m (turnsS o l tr)) = some (.bl (neg != inB (turnsS o l tr) (tD x))) := by
  have s1 : shs 63 (turnsS o l tr) = true := shs_turnsS (n := 61) (o := o) (l := l) (tr := tr)
  have s2 : sh 64 (tD x) = true := sh_tD (n := 62) (x := x)
  cases neg <;> simp [s1, s2, inB]
theorem fzs_turnsS {o l : Int} {tr : List Str} : fzs (turnsS o l tr) = turnsS o l tr ∧ pures? (turnsS o l tr) = true := by
  have h : ∀ ds : List D, (∀ d ∈ ds, ∃ x, d = tD x) → fzs ds = ds ∧ pures? ds = true := by
    intro ds hd
    induction ds with
    | nil => simp
    | cons d ds ih =>
      obtain ⟨x, rfl⟩ := hd d (by simp)
      have := ih fun e he => hd e (List.mem_cons_of_mem _ he)
      simp [this, tD, turnD]
  refine h _ fun d hd => ?_
  obtain ⟨x, _, rfl⟩ := turnsS_mem.mp hd
  exact ⟨x, rfl⟩
/-- whether a list of turns is a scenario -/
def scB (p : Str) (ks ss tr : List Str) : Int → Int → List Turn → Bool
  | _, _, [] => true
  | o, l, x :: xs => inB (turnsS o l tr) (tD x) && scB p ks ss tr (aft p ks ss x).1 (aft p ks ss x).2 xs
theorem tD_get {K : List Turn} {i : Nat} {d : D} (h : (K.map tD)[i]? = some d) : ∃ k, K[i]? = some k ∧ d = tD k := by
  rw [List.getElem?_map, Option.map_eq_some_iff] at h
  obtain ⟨k, h1, rfl⟩ := h
  exact ⟨k, h1, rfl⟩
structure SetOk (p : Str) (ks ss : List Str) : Prop where
  hp : p ∈ PLACES
  hk : ks ∈ subs KINDS
  hs : ss ∈ subs SIGHTS
theorem SetOk.okp {p : Str} {ks ss : List Str} (h : SetOk p ks ss) : PyData.strOk p = true := by
  have := h.hp
  simp at this
  rcases this with rfl | rfl | rfl <;> simp
theorem SetOk.okk {p : Str} {ks ss : List Str} (h : SetOk p ks ss) : AllOk ks := ok_KINDS.sub h.hk
theorem SetOk.oks {p : Str} {ks ss : List Str} (h : SetOk p ks ss) : AllOk ss := ok_SIGHTS.sub h.hs
section
variable {p : Str} {ks ss tr : List Str} (hS : SetOk p ks ss) (htr : AllOk tr)
include hS
/-- the signals behind a turn -/
def sigs (p : Str) (ks ss : List Str) (x : Turn) : List D := (metE p ks ss x.o x.l x.t x.g x.s).sg
theorem out_eq {x : Turn} (T : TurnS x.o x.l x.t x.g x.s) : outD p ks ss x.o x.l x.t x.g x.s = .tup [sitD (aft p ks ss x).1 (aft p ks ss x).2, .tup (sigs p ks ss x)] := by
  have h := (same_e (ks := ks) (ss := ss) hS.hp T).2
  unfold outD
  rw [h, aft_e]
  rfl
theorem lbe_eq {x : Turn} (T : TurnS x.o x.l x.t x.g x.s) : lbehD p ks ss x.o x.l x.t x.g x.s = .lst true [sitD (aft p ks ss x).1 (aft p ks ss x).2, .lst false (sigs p ks ss x)] := by
  have h := (same_e (ks := ks) (ss := ss) hS.hp T).1
  unfold lbehD
  rw [aft_e, ← h]
  rfl
theorem outcome_t {x : Turn} (T : TurnS x.o x.l x.t x.g x.s) : f_outcome [stO false p ks ss, tD x] = .ok (.tup [sitD (aft p ks ss x).1 (aft p ks ss x).2, .tup (sigs p ks ss x)]) [stO false p ks ss, tD x] := by
  rw [← out_eq hS T]
  exact outcome_e hS.okp hS.okk hS.oks T.toTurnOk
theorem lbehind_t {x : Turn} (T : TurnS x.o x.l x.t x.g x.s) : f__law_behind [stL p ks ss, tD x] = .ok (.lst true [sitD (aft p ks ss x).1 (aft p ks ss x).2, .lst false (sigs p ks ss x)]) [stL p ks ss, tD x] := by
  rw [← lbe_eq hS T]
  exact lbehind_e hS.okp hS.okk hS.oks T.toTurnOk'
theorem sigs_ok {x : Turn} : pures? (sigs p ks ss x) = true ∧ fzs (sigs p ks ss x) = sigs p ks ss x ∧ ∀ n, shs (n + 1) (sigs p ks ss x) = true := by
  obtain ⟨⟨a1, a2, a3, a4⟩, b1, b2⟩ := metE_ok hS.okp hS.okk hS.oks (o := x.o) (l := x.l) (t := x.t) (g := x.g) (s := x.s)
  exact ⟨a4, b1, b2⟩
include htr
theorem isScen_e {xs : List Turn} : f_is_scenario [stO false p ks ss, .lst false (xs.map tD), kl tr] = .ok (.bl (scB p ks ss tr 0 0 xs)) [stO false p ks ss, .lst false (xs.map tD), kl tr] := by
  have hk := has_kl (tr := tr)
  have hh : has? (stO false p ks ss) = true ∧ pure? (stO false p ks ss) = true := by simp [stO]
  have hx : ∀ x, has? (tD x) = true ∧ pure? (tD x) = true ∧ fz (tD x) = tD x := fun x => by simp [tD, turnD]
  have hq : ∀ o l, has? (sitD o l) = true ∧ pure? (sitD o l) = true ∧ fz (sitD o l) = sitD o l := fun o l => by simp [sitD]
  have te := fun o l => turns_e (o := o) (l := l) htr
  apply Vl.eq
  obtain ⟨Q, hQ⟩ := hide (fun (d : D) (es : List D) => d = .bl (scB p ks ss tr 0 0 xs) ∧ es = [stO false p ks ss, .lst false (xs.map tD), kl tr])
  rw [← hQ]
  obtain ⟨I, hI⟩ := hide (fun (i : Nat) (ρ : List D) => ∃ (o l : Int) (b c : D), ρ = [stO false p ks ss, .lst false (xs.map tD), kl tr, sitD o l, b, c] ∧ SitOk o l ∧ scB p ks ss tr o l (xs.drop i) = scB p ks ss tr 0 0 xs)
  have fx : fzs (xs.map tD) = xs.map tD := fzs_tD
  have px : pures? (xs.map tD) = true := pures_tD
  have s0 : c_START = sitD 0 0 := rfl
  simp [f_is_scenario, fnM_e, N_is_scenario.m, hk, hh, s0, fx, px]
  refine Vl_for I (by rw [hI]; exact ⟨0, 0, _, _, rfl, ⟨by decide, by decide, by decide, by decide⟩, rfl⟩) ?_ ?_
  · intro i d ρ hd hi
    rw [hI] at hi
    obtain ⟨o, l, b, c, rfl, S, hr⟩ := hi
    obtain ⟨x, hx', rfl⟩ := tD_get hd
    rw [drop_at hx', scB] at hr
    have te := te o l
    have po : f__is_possible [sitD o l, tD x, kl tr] = .ok (.bl (inB (turnsS o l tr) (tD x))) [sitD o l, tD x, kl tr] := by
      have i1 := in_turns (m := true) (neg := false) (o := o) (l := l) (tr := tr) (x := x)
      have te : f_turns [sitD o l, kl tr] = .ok (.lst true (turnsS o l tr)) [sitD o l, kl tr] := te
      simp [f__is_possible, fnM_e, N__is_possible.m, hk, hx, hq, te, i1]
    cases hb : inB (turnsS o l tr) (tD x) with
    | false =>
      rw [hb] at po hr
      simp [hk, hx, hq, hh, po]
      rw [hQ]
      refine ⟨?_, rfl⟩
      rw [← hr]; rfl
    | true =>
      rw [hb] at po hr
      have T := turnsP_ok S x (inB_tD.mp hb)
      have oe := outcome_t hS T
      obtain ⟨pa, pb, pc⟩ := sigs_ok hS (x := x)
      simp [hk, hx, hq, hh, po, oe, pa, pb]
      rw [hI]
      exact ⟨_, _, _, _, rfl, aft_ok T, by rw [← hr]; rfl⟩
  · intro ρ hi
    rw [hI] at hi
    obtain ⟨o, l, b, c, rfl, S, hr⟩ := hi
    rw [List.length_map, List.drop_length] at hr
    simp
    rw [hQ]
    exact ⟨by rw [← hr]; rfl, rfl⟩
theorem lisScen_e {m : Bool} {xs : List Turn} : f__law_is_scenario [stL p ks ss, .lst false (xs.map tD), kl tr] = .ok (.bl (scB p ks ss tr 0 0 xs)) [stL p ks ss, .lst false (xs.map tD), kl tr] := by
  have hk := has_kl (tr := tr)
  have hh : has? (stL p ks ss) = true ∧ pure? (stL p ks ss) = true := by simp [stL]
  have hx : ∀ x, has? (tD x) = true ∧ pure? (tD x) = true ∧ fz (tD x) = tD x := fun x => by simp [tD, turnD]
  have hq : ∀ o l, has? (sitD o l) = true ∧ pure? (sitD o l) = true ∧ fz (sitD o l) = sitD o l := fun o l => by simp [sitD]
  apply Vl.eq
  obtain ⟨Q, hQ⟩ := hide (fun (d : D) (es : List D) => d = .bl (scB p ks ss tr 0 0 xs) ∧ es = [stL p ks ss, .lst false (xs.map tD), kl tr])
  rw [← hQ]
  obtain ⟨I, hI⟩ := hide (fun (i : Nat) (ρ : List D) => ∃ (o l : Int) (b : D), ρ = [stL p ks ss, .lst false (xs.map tD), kl tr, sitD o l, b] ∧ SitOk o l ∧ scB p ks ss tr o l (xs.drop i) = scB p ks ss tr 0 0 xs)
  have fx : fzs (xs.map tD) = xs.map tD := fzs_tD
  have px : pures? (xs.map tD) = true := pures_tD
  simp [f__law_is_scenario, fnM_e, N__law_is_scenario.m, hk, hh, fx, px]
  refine Vl_for I (by rw [hI]; exact ⟨0, 0, _, rfl, ⟨by decide, by decide, by decide, by decide⟩, rfl⟩) ?_ ?_
  · intro i d ρ hd hi
    rw [hI] at hi
    obtain ⟨o, l, b, rfl, S, hr⟩ := hi
    obtain ⟨x, hx', rfl⟩ := tD_get hd
    rw [drop_at hx', scB] at hr
    have te := lturns_e (o := o) (l := l) htr
    rw [turns_same S.o0 S.o1] at te
    have i1 := in_turns (m := true) (neg := true) (o := o) (l := l) (tr := tr) (x := x)
    cases hb : inB (turnsS o l tr) (tD x) with
    | false =>
      rw [hb] at i1 hr
      simp [hk, hx, hq, hh, te, i1]
      rw [hQ]
      refine ⟨?_, rfl⟩
      rw [← hr]; rfl
    | true =>
      rw [hb] at i1 hr
      have T := turnsP_ok S x (inB_tD.mp hb)
      have oe := lbehind_t hS T
      obtain ⟨pa, pb, pc⟩ := sigs_ok hS (x := x)
      simp [hk, hx, hq, hh, te, i1, oe, pa, pb, atI, ixN]
      rw [hI]
      exact ⟨_, _, _, rfl, aft_ok T, by rw [← hr]; rfl⟩
  · intro ρ hi
    rw [hI] at hi
    obtain ⟨o, l, b, rfl, S, hr⟩ := hi
    rw [List.length_map, List.drop_length] at hr
    simp
    rw [hQ]
    exact ⟨by rw [← hr]; rfl, rfl⟩
end
end G
end VS
set_option Elab.async false
set_option linter.all false
set_option maxRecDepth 100000
set_option maxHeartbeats 4000000
/-! R16: scenarios drawn, spoiled. -/
namespace VS
open PySem PySem.Spec PyProof.Rows L2
namespace G
theorem turnsS_list (o l : Int) (tr : List Str) : ∃ zs : List Turn, turnsS o l tr = zs.map tD ∧ zs.length ≤ 1152 ∧ (∀ z ∈ zs, z ∈ turnsP o l tr) ∧ (∀ z ∈ turnsP o l tr, z ∈ zs) := by
  have h : ∀ ds : List D, (∀ d ∈ ds, d ∈ turnsS o l tr) → ∃ zs : List Turn, ds = zs.map tD ∧ ∀ z ∈ zs, z ∈ turnsP o l tr := by
    intro ds hd
    induction ds with
    | nil => exact ⟨[], rfl, by simp⟩
    | cons d ds ih =>
      obtain ⟨zs, rfl, hz⟩ := ih fun e he => hd e (List.mem_cons_of_mem _ he)
      obtain ⟨x, hx, rfl⟩ := turnsS_mem.mp (hd d (by simp))
      exact ⟨x :: zs, rfl, fun z hz' => by
        rcases List.mem_cons.mp hz' with rfl | h
        · exact hx
        · exact hz z h⟩
  obtain ⟨zs, e, hz⟩ := h _ fun d hd => hd
  refine ⟨zs, e, ?_, hz, ?_⟩
  · have l1 : (turnsS o l tr).length = (turnsP o l tr).length := by
      unfold turnsS sortDs
      rw [List.length_mergeSort, List.length_map]
    have := turnsP_len (o := o) (l := l) (tr := tr)
    rw [e, List.length_map] at l1
    omega
  · intro z h
    have := turnsS_in.mpr h
    rw [e] at this
    obtain ⟨y, hy, e⟩ := List.mem_map.mp this
    rw [← tD_inj e]; exact hy
theorem turnsP_pt {o l : Int} {tr : List Str} : ∃ x ∈ turnsP o l tr, x.t < 2 := by
  have h1 : ∃ l', (o, l') ∈ chgL o l tr := by
    by_cases h4 : l = 4
    · refine ⟨if o ≠ 0 then 4 else 0, ?_⟩
      unfold chgL
      refine List.mem_flatMap.mpr ⟨o, by simp [ledL], ?_⟩
      rw [if_pos h4]; simp
    · refine ⟨l, ?_⟩
      unfold chgL
      refine List.mem_flatMap.mpr ⟨o, by simp [ledL], ?_⟩
      rw [if_neg h4]; exact List.mem_map.mpr ⟨l, by simp [ledL], rfl⟩
  obtain ⟨l', h1⟩ := h1
  have h2 : ((0 : Int), (2 : Int)) ∈ tickL o l' tr := by simp [tickL, tgL]
  have h3 : (⟨o, l', 0, 2, 0⟩ : Turn) ∈ withS o l' tr (0, 2) := by
    unfold withS
    refine List.mem_map.mpr ⟨0, List.mem_range.mpr ?_, rfl⟩
    unfold many; split <;> omega
  refine ⟨⟨o, l', 0, 2, 0⟩, ?_, (by decide : (0 : Int) < 2)⟩
  unfold turnsP
  exact List.mem_flatMap.mpr ⟨_, h1, List.mem_flatMap.mpr ⟨_, h2, h3⟩⟩
theorem pick {zs : List Turn} {i : Int} (h : zs ≠ []) : ∃ x ∈ zs, atI (zs.map tD) (i % zs.length) = some (tD x) := by
  have hl : 0 < zs.length := List.length_pos_iff.mpr h
  obtain ⟨d, e, hd⟩ := atI_mem (ds := zs.map tD) (i := i % zs.length) (Int.emod_nonneg _ (by omega)) (by rw [List.length_map]; exact Int.emod_lt_of_pos _ (by omega))
  obtain ⟨x, hx, rfl⟩ := List.mem_map.mp hd
  exact ⟨x, hx, e⟩
theorem filter_take {zs : List Turn} {i : Nat} {f : Turn → Bool} {z : Turn} (h : zs[i]? = some z) : (zs.take (i + 1)).filter f = (zs.take i).filter f ++ (if f z = true then [z] else []) := by
  rw [List.take_add_one, h, List.filter_append]
  simp [List.filter_cons]
def scRest : SM := (seqM (setM 8 (opM ixD (fzv 7) (opM modD (clM (one intD) (consM (callM 2 [.plc 0 [], .tmp] f__law_draw (plcM 0 [] (consM (intM 840) nilM))) nilM)) (lenP 7 []))))
  (seqM (dropM (lmM 4 [] appF (consM (rd 8) nilM)))
  (setM 5 (fzM (opM ixD (callM 2 [.tmp, .tmp] f__law_behind (consM (rd 1) (consM (rd 8) nilM))) (intM 0))))))
def sc_m : SM := (seqM (setM 4 (clM lstD nilM))
  (seqM (setM 5 (fzM (clM tupD (consM (intM 0) (consM (intM 0) nilM)))))
  (seqM (forS (rngM rng1 (consM (callM 2 [.plc 0 [], .tmp] f__law_draw (plcM 0 [] (consM (fzM (opM addD (rd 3) (intM 1))) nilM))) nilM)) (tgN 6) (seqM (setM 7 (callM 2 [.tmp, .tmp] f__law_turns (consM (rd 5) (consM (rd 2) nilM))))
  (seqM (iteM (testM (opM (eqP false) (callM 2 [.plc 0 [], .tmp] f__law_draw (plcM 0 [] (consM (intM 2) nilM))) (intM 0))) (setM 7 (lcM [8] (itM (fzv 7)) (tgN 8) (testM (opM ltD (opM ixD (rd 8) (intM 2)) (intM 2))) (rd 8))) skipM)
  scRest)))
  (retM (mv 4)))))
theorem sc_me : N__law_scenario.m = sc_m := rfl
section
variable {p : Str} {ks ss tr : List Str} (hS : SetOk p ks ss) (htr : AllOk tr)
include hS htr
theorem scen_ok {row : List Int} {n : Nat} : Vl (f__law_scenario [bx row n, stL p ks ss, kl tr, .int 6]) fun d es => ∃ (n' : Nat) (xs : List Turn), d = .lst true (xs.map tD) ∧ es = [bx row n', stL p ks ss, kl tr, .int 6] ∧ xs.length ≤ 6 ∧ scB p ks ss tr 0 0 xs = true := by
  have hk := has_kl (tr := tr)
  have hh : has? (stL p ks ss) = true ∧ pure? (stL p ks ss) = true := by simp [stL]
  have hx : ∀ x, has? (tD x) = true ∧ pure? (tD x) = true ∧ fz (tD x) = tD x := fun x => by simp [tD, turnD]
  have hq : ∀ o l, has? (sitD o l) = true ∧ pure? (sitD o l) = true ∧ fz (sitD o l) = sitD o l := fun o l => by simp [sitD]
  obtain ⟨Q, hQ⟩ := hide (fun (d : D) (es : List D) => ∃ (n' : Nat) (xs : List Turn), d = .lst true (xs.map tD) ∧ es = [bx row n', stL p ks ss, kl tr, .int 6] ∧ xs.length ≤ 6 ∧ scB p ks ss tr 0 0 xs = true)
  rw [← hQ]
  obtain ⟨I, hI⟩ := hide (fun (i : Nat) (ρ : List D) => ∃ (n' : Nat) (xs : List Turn) (o l : Int) (b c e : D), ρ = [bx row n', stL p ks ss, kl tr, .int 6, .lst true (xs.map tD), sitD o l, b, c, e] ∧ SitOk o l ∧ xs.length ≤ i ∧ ∀ ys, scB p ks ss tr 0 0 (xs ++ ys) = scB p ks ss tr o l ys)
  have lo := drawV_lo (row := row) (n := n) (many := 7) (by decide)
  have hi := drawV_hi (row := row) (n := n) (many := 7) (by decide)
  have s7 : small62 (drawV row n 7) = true := by unfold small62; simp; omega
  simp [f__law_scenario, fnM_e, sc_me, sc_m, draw_e, rng1, s7]
  refine Vl_for I (by rw [hI]; exact ⟨_, [], 0, 0, _, _, _, rfl, ⟨by decide, by decide, by decide, by decide⟩, by simp, fun ys => rfl⟩) ?_ ?_
  · intro i d ρ hd hi'
    rw [hI] at hi'
    obtain ⟨n', xs, o, l, b, c, e, rfl, S, hl, hr⟩ := hi'
    obtain ⟨rfl, hi2⟩ := rangeD_get hd
    have te := lturns_e (o := o) (l := l) htr
    rw [turns_same S.o0 S.o1] at te
    obtain ⟨zs, ez, zl, za, zb⟩ := turnsS_list o l tr
    obtain ⟨x0, hx0, hxt⟩ := turnsP_pt (o := o) (l := l) (tr := tr)
    have f1 := fzs_turnsS (o := o) (l := l) (tr := tr)
    rw [ez] at te f1
    have bX : xs.length < big := by unfold big; omega
    simp [hk, hq, te, f1, draw_e]
    have x20 : ∀ a b : D, atI [a, b] 0 = some a := fun _ _ => rfl
    have go : ∀ (m : Bool) (n2 : Nat) (ws : List Turn) (b e : D), ws ≠ [] → (∀ w ∈ ws, w ∈ turnsP o l tr) → ws.length ≤ 1152 → Vl (scRest [bx row n2, stL p ks ss, kl tr, .int 6, .lst true (xs.map tD), sitD o l, b, .lst m (ws.map tD), e]) (StP (I (i + 1)) fun b ρ => Vl (seqK (retM (mv 4)) b ρ) (FE 4 [4, 5, 6, 7, 8] Q)) := by
      intro m n2 ws b e h1 h2 h3
      obtain ⟨x, hx', ex⟩ := pick (i := drawV row n2 840) h1
      have hin := h2 x hx'
      have T := turnsP_ok S x hin
      have be := lbehind_t hS T
      obtain ⟨pa, pb, pc⟩ := sigs_ok hS (x := x)
      have sl : 0 < (ws.length : Int) := by
        have hl : 0 < ws.length := List.length_pos_iff.mpr h1
        omega
      have fw : fzs (ws.map tD) = ws.map tD ∧ pures? (ws.map tD) = true := ⟨fzs_tD, pures_tD⟩
      have done : ∀ n2 b c e, I (i + 1) [bx row n2, stL p ks ss, kl tr, .int 6, .lst true (xs.map tD ++ [tD x]), sitD (aft p ks ss x).1 (aft p ks ss x).2, b, c, e] := by
        intro n2 b c e
        rw [hI]
        refine ⟨n2, xs ++ [x], (aft p ks ss x).1, (aft p ks ss x).2, b, c, e, by simp, aft_ok T, by simp; omega, fun ys => ?_⟩
        rw [List.append_assoc, hr, List.singleton_append, scB, inB_tD.mpr hin, Bool.true_and]
      have md : modD (.int (drawV row n2 840)) (.int ws.length) = some (.int (drawV row n2 840 % ws.length)) := modD_e sl
      simp [scRest, draw_e, fw, md, ex, hx, hh, hk, bX, be, pa, pb, x20, hq]
      exact done _ _ _ _
    refine Vl_iteK (fun _ => ?_) (fun _ => ?_)
    · obtain ⟨J, hJ⟩ := hide (fun (j : Nat) (acc ρ : List D) => acc = ((zs.take j).filter fun z => decide (z.t < 2)).map tD ∧ ρ = [bx row (n' + 1), stL p ks ss, kl tr, .int 6, .lst true (xs.map tD), sitD o l, .int i, .lst false (zs.map tD), .un])
      simp [f1]
      refine Vl_lc J (by rw [hJ]; exact ⟨by simp, rfl⟩) ?_ ?_
      · intro j d acc ρ hd hj
        rw [hJ] at hj
        obtain ⟨rfl, rfl⟩ := hj
        obtain ⟨z, hz, rfl⟩ := tD_get hd
        have hft := filter_take (f := fun z => decide (z.t < 2)) hz
        refine ⟨?_, ?_⟩
        · have h1 := List.length_filter_le (fun z : Turn => decide (z.t < 2)) (zs.take j)
          have h2 : (zs.take j).length ≤ zs.length := by simp; omega
          rw [List.length_map]
          unfold big; omega
        · have tz : ((items (tD z)).bind fun ds => atI ds 2) = some (.int z.t) := by simp [tD, turnD, atI, ixN]
          have hz := hx z
          simp [hz, tz]
          refine ⟨fun h => ?_, fun h => ?_⟩
          · rw [hJ]
            exact ⟨by rw [hft]; simp [h], rfl⟩
          · rw [hJ]
            exact ⟨by rw [hft]; have : ¬ z.t < 2 := by omega
                      simp [this], rfl⟩
      · intro acc ρ hj
        rw [hJ] at hj
        obtain ⟨rfl, rfl⟩ := hj
        rw [List.length_map, List.take_length]
        simp
        refine go _ _ _ _ _ ?_ ?_ ?_
        · intro h
          have := List.mem_filter (p := fun z : Turn => decide (z.t < 2)) |>.mpr ⟨zb x0 hx0, by simpa using hxt⟩
          rw [h] at this; cases this
        · intro w hw
          exact za w (List.mem_filter.mp hw).1
        · have := List.length_filter_le (fun z : Turn => decide (z.t < 2)) zs
          omega
    · simp
      refine go _ _ _ _ _ ?_ za zl
      intro h
      have := zb x0 hx0
      rw [h] at this; cases this
  · intro ρ hi'
    rw [hI] at hi'
    obtain ⟨n', xs, o, l, b, c, e, rfl, S, hl, hr⟩ := hi'
    have := hr []
    rw [List.append_nil] at this
    rw [rangeD_len] at hl
    simp
    rw [hQ]
    exact ⟨_, xs, rfl, rfl, by omega, this⟩
end
end G
end VS
set_option Elab.async false
set_option linter.all false
set_option maxRecDepth 100000
set_option maxHeartbeats 4000000
/-! R17: a scenario spoiled; the law. -/
namespace VS
open PySem PySem.Spec PyProof.Rows L2
namespace G
theorem spoil_ok {row : List Int} {n : Nat} {xs : List Turn} (hl : xs.length ≤ 6) : Vl (f__law_spoiled [bx row n, .lst false (xs.map tD)]) fun d es => ∃ (n' : Nat) (ys : List Turn), d = .lst true (ys.map tD) ∧ es = [bx row n', .lst false (xs.map tD)] := by
  have hx : ∀ x, has? (tD x) = true ∧ pure? (tD x) = true ∧ fz (tD x) = tD x := fun x => by simp [tD, turnD]
  have fx : fzs (xs.map tD) = xs.map tD ∧ pures? (xs.map tD) = true := ⟨fzs_tD, pures_tD⟩
  obtain ⟨Q, hQ⟩ := hide (fun (d : D) (es : List D) => ∃ (n' : Nat) (ys : List Turn), d = .lst true (ys.map tD) ∧ es = [bx row n', .lst false (xs.map tD)])
  rw [← hQ]
  by_cases h0 : xs = []
  · subst h0
    simp [f__law_spoiled, fnM_e, N__law_spoiled.m]
    rw [hQ]
    exact ⟨n, [], rfl, rfl⟩
  · have hpos : 0 < (xs.length : Int) := by have := List.length_pos_iff.mpr h0; omega
    have hne : ¬ (xs.length : Int) = 0 := by omega
    obtain ⟨d, e, hd⟩ := atI_mem (ds := xs.map tD) (i := drawV row n xs.length) (drawV_lo hpos) (by rw [List.length_map]; exact drawV_hi hpos)
    obtain ⟨x, hx', rfl⟩ := List.mem_map.mp hd
    have lo := drawV_lo (row := row) (n := n) hpos
    have hi := drawV_hi (row := row) (n := n) hpos
    have p0 := drawV_lo (row := row) (n := n + 1) (many := 5) (by decide)
    have p1 := drawV_hi (row := row) (n := n + 1) (many := 5) (by decide)
    have hp : drawV row (n + 1) 5 = 0 ∨ drawV row (n + 1) 5 = 1 ∨ drawV row (n + 1) 5 = 2 ∨ drawV row (n + 1) 5 = 3 ∨ drawV row (n + 1) 5 = 4 := by omega
    have dr := draw_e (row := row) (n := n) hpos
    cases x with | mk o l t g s =>
    have pk : ∀ a b c d e : Int, D.tup [.int a, .int b, .int c, .int d, .int e] = tD ⟨a, b, c, d, e⟩ := fun _ _ _ _ _ => rfl
    have xl : ((xs.map tD).length : Int) = xs.length := by rw [List.length_map]
    have ixx : ixN (xs.map tD).length (drawV row n xs.length) = some (drawV row n xs.length).toNat := by simp [ixN, lo, hi]
    have ixx' : ixN xs.length (drawV row n xs.length) = some (drawV row n xs.length).toNat := by simp [ixN, lo, hi]
    have i0 : ixN 5 0 = some 0 := rfl
    have i1 : ixN 5 1 = some 1 := rfl
    have i2 : ixN 5 2 = some 2 := rfl
    have i3 : ixN 5 3 = some 3 := rfl
    have i4 : ixN 5 4 = some 4 := rfl
    have a0 : ∀ a b c d e : D, atI [a, b, c, d, e] 0 = some a := fun _ _ _ _ _ => rfl
    have a1 : ∀ a b c d e : D, atI [a, b, c, d, e] 1 = some b := fun _ _ _ _ _ => rfl
    have a2 : ∀ a b c d e : D, atI [a, b, c, d, e] 2 = some c := fun _ _ _ _ _ => rfl
    have a3 : ∀ a b c d e : D, atI [a, b, c, d, e] 3 = some d := fun _ _ _ _ _ => rfl
    have a4 : ∀ a b c d e : D, atI [a, b, c, d, e] 4 = some e := fun _ _ _ _ _ => rfl
    have fin : ∀ (y : Turn) n', Q (.lst true ((xs.map tD).set (drawV row n xs.length).toNat (tD y))) [bx row n', .lst false (xs.map tD)] := by
      intro y n'
      rw [hQ, ← List.map_set]
      exact ⟨n', _, rfl, rfl⟩
    simp only [tD, turnD] at e
    rcases hp with hp | hp | hp | hp | hp <;>
    · simp [f__law_spoiled, fnM_e, N__law_spoiled.m, fx, hne, h0, draw_e, dr, e, hx, hp, ixx, ixx', a0, a1, a2, a3, a4, i0, i1, i2, i3, i4]
      simp only [pk]
      exact fin _ _
end G
end VS
set_option Elab.async false
set_option linter.all false
set_option maxRecDepth 100000
set_option maxHeartbeats 4000000
/-! R18: the law. -/
namespace VS
open PySem PySem.Spec PyProof.Rows L2
namespace G
theorem all_e : f__law_all [] = .ok (.lst true (TROUB.map D.str)) [] := by simp [f__law_all, fnM_e, N__law_all.m]
theorem fzs_str {xs : List Str} : fzs (xs.map D.str) = xs.map D.str := by
  induction xs with
  | nil => simp
  | cons x xs ih => simp [ih]
theorem pures_str {xs : List Str} : pures? (xs.map D.str) = true := by
  induction xs with
  | nil => simp
  | cons x xs ih => simp [ih]
theorem at5 {i : Int} (h0 : 0 ≤ i) (h1 : i < 5) : atI [D.int 0, .int 1, .int 2, .int 3, .int 4] i = some (.int i) := by
  have : i = 0 ∨ i = 1 ∨ i = 2 ∨ i = 3 ∨ i = 4 := by omega
  rcases this with rfl | rfl | rfl | rfl | rfl <;> rfl
def lawRest2 : SM := (seqM (setM 10 (fzM (callM 4 [.plc 1 [], .tmp, .tmp, .tmp] f__law_scenario (plcM 1 [] (consM (rd 3) (consM (rd 4) (consM (intM 6) nilM)))))))
  (seqM (iteM (testM (opM (isBD true) (callM 3 [.tmp, .tmp, .tmp] f_is_scenario (consM (fzM (callM 1 [.tmp] f__law_made (consM (rd 3) nilM))) (consM (fzM (clM (one toLstD) (consM (rd 10) nilM))) (consM (fzM (clM (one toLstD) (consM (rd 4) nilM))) nilM)))) (blM true))) (retM (blM false)) skipM)
  (seqM (setM 11 (fzM (callM 2 [.plc 1 [], .tmp] f__law_spoiled (plcM 1 [] (consM (rd 10) nilM)))))
  (seqM (setM 12 (fzM (callM 3 [.tmp, .tmp, .tmp] f_is_scenario (consM (fzM (callM 1 [.tmp] f__law_made (consM (rd 3) nilM))) (consM (fzM (clM (one toLstD) (consM (rd 11) nilM))) (consM (fzM (clM (one toLstD) (consM (rd 4) nilM))) nilM))))))
  (iteM (orM (notM (testM (unM (isiD ["bool"]) (rd 12)))) (testM (opM (eqP true) (rd 12) (callM 3 [.tmp, .tmp, .tmp] f__law_is_scenario (consM (rd 3) (consM (rd 11) (consM (rd 4) nilM))))))) (retM (blM false)) skipM)))))
def lawRest : SM := (seqM (setM 7 (fzM (callM 2 [.tmp, .tmp] f__law_turns (consM (rd 6) (consM (rd 4) nilM)))))
  (seqM (iteM (testM (opM (eqP true) (callM 2 [.tmp, .tmp] f_turns (consM (rd 6) (consM (fzM (clM (one toLstD) (consM (rd 4) nilM))) nilM))) (rd 7))) (retM (blM false)) skipM)
  (seqM (setM 8 (fzM (callM 2 [.tmp, .tmp] f__law_turns (consM (rd 6) (consM (fzM (callM 0 [] f__law_all nilM)) nilM)))))
  (seqM (forS (rngM rng1 (consM (intM 8) nilM)) (tgN 9) (seqM (setM 13 (opM ixD (rd 8) (opM modD (clM (one intD) (consM (opM addD (opM mulD (callM 2 [.plc 1 [], .tmp] f__law_draw (plcM 1 [] (consM (intM 840) nilM))) (intM 3)) (callM 2 [.plc 1 [], .tmp] f__law_draw (plcM 1 [] (consM (intM 3) nilM)))) nilM)) (clM (one lenD) (consM (rd 8) nilM)))))
  (seqM (setM 14 (fzM (callM 2 [.tmp, .tmp] f__law_behind (consM (rd 3) (consM (rd 13) nilM)))))
  (iteM (testM (opM (eqP true) (callM 3 [.tmp, .tmp, .tmp] f_behind (consM (fzM (callM 1 [.tmp] f__law_made (consM (rd 3) nilM))) (consM (rd 6) (consM (rd 13) nilM)))) (clM tupD (consM (opM ixD (rd 14) (intM 0)) (consM (clM (one toTupD) (consM (opM ixD (rd 14) (intM 1)) nilM)) nilM))))) (retM (blM false)) skipM))))
  lawRest2))))
def law_m : SM := (seqM (setM 1 (clM lstD (consM (fzM (callM 3 [.tmp, .tmp, .tmp] f__law_row (consM (rd 0) (consM (intM 0) (consM (intM 50) nilM))))) (consM (intM 0) nilM))))
  (seqM (forS (rngM rng1 (consM (intM 3) nilM)) (tgN 2) (seqM (setM 3 (fzM (callM 1 [.plc 1 []] f__law_setup (plcM 1 [] nilM))))
  (seqM (setM 4 (fzM (callM 1 [.plc 1 []] f__law_troubles (plcM 1 [] nilM))))
  (seqM (setM 5 (fzM (callM 2 [.plc 1 [], .tmp] f__law_draw (plcM 1 [] (consM (intM 4) nilM)))))
  (seqM (setM 6 (fzM (clM tupD (consM (rd 5) (consM (opM ixD (clM lstD (consM (intM 0) (consM (intM 1) (consM (intM 2) (consM (intM 3) (consM (intM 4) nilM)))))) (callM 2 [.plc 1 [], .tmp] f__law_draw (plcM 1 [] (consM (fzM (opM addD (intM 4) (clM (one intD) (consM (opM gtD (rd 5) (intM 0)) nilM)))) nilM)))) nilM)))))
  (seqM (iteM (testM (opM (eqP false) (rd 6) (clM tupD (consM (intM 3) (consM (intM 3) nilM))))) (setM 6 (fzM (clM tupD (consM (intM 3) (consM (intM 4) nilM))))) skipM)
  lawRest))))))
  (retM (blM true))))
theorem law_me : N_law.m = law_m := rfl
theorem sh_sit {n : Nat} {o l : Int} : sh (n + 2) (sitD o l) = true := by simp [sitD]
theorem law_ok {ns : List Int} (hn : ns.length ≤ 63) : Vl (f_law [.rol (ns.map D.int)]) fun d es => d = .bl true := by
  have x20 : ∀ a b : D, atI [a, b] 0 = some a := fun _ _ => rfl
  have x21 : ∀ a b : D, atI [a, b] 1 = some b := fun _ _ => rfl
  have s3 : small62 3 = true := by decide
  have s8 : small62 8 = true := by decide
  obtain ⟨Q, hQ⟩ := hide (fun (d : D) (es : List D) => d = .bl true)
  rw [← hQ]
  simp [f_law, fnM_e, law_me, law_m]
  refine Vl_call (row_ok (last := 50) (by decide)) ?_
  rintro _ _ ⟨row, rfl, rfl⟩
  simp [rng1, s3]
  obtain ⟨I, hI⟩ := hide (fun (i : Nat) (ρ : List D) => ∃ n a2 a3 a4 a5 a6 a7 a8 a9 a10 a11 a12 a13 a14, ρ = [.rol (ns.map D.int), bx row n, a2, a3, a4, a5, a6, a7, a8, a9, a10, a11, a12, a13, a14])
  refine Vl_for I (by rw [hI]; exact ⟨0, _, _, _, _, _, _, _, _, _, _, _, _, _, rfl⟩) ?_ ?_
  · intro i d ρ hi h
    rw [hI] at h
    obtain ⟨n, a2, a3, a4, a5, a6, a7, a8, a9, a10, a11, a12, a13, a14, rfl⟩ := h
    simp
    refine Vl_call setup_ok ?_
    rintro s _ ⟨hs, n1, rfl⟩
    obtain ⟨p, ks, ss, es, hp, hk, hss⟩ := hs
    have hS : SetOk p ks ss := ⟨hp, hk, hss⟩
    have es : fz s = stL p ks ss := es
    have hh : has? (stL p ks ss) = true ∧ pure? (stL p ks ss) = true := by simp [stL]
    simp [es]
    refine Vl_call troubles_ok ?_
    rintro _ _ ⟨⟨tr, rfl, htr⟩, n2, rfl⟩
    have htr' := ok_TROUB.sub htr
    have o0 := drawV_lo (row := row) (n := n2) (many := 4) (by decide)
    have o1 := drawV_hi (row := row) (n := n2) (many := 4) (by decide)
    have fT : fz (.lst true (tr.map D.str)) = kl tr := by simp [kl, fzs_str]
    have hk' := has_kl (tr := tr)
    have m0 : 0 < 4 + (if 0 < drawV row n2 4 then (1 : Int) else 0) := by split <;> decide
    have l0 := drawV_lo (row := row) (n := n2 + 1) m0
    have l1 := drawV_hi (row := row) (n := n2 + 1) m0
    have l1 : drawV row (n2 + 1) (4 + if 0 < drawV row n2 4 then 1 else 0) < 5 := by
      have : (4 + if 0 < drawV row n2 4 then (1 : Int) else 0) ≤ 5 := by split <;> decide
      omega
    have d2 := draw_e (row := row) (n := n2 + 1) m0
    have a5 := at5 l0 l1
    simp [fT, draw_e, hk', d2, a5]
    have made := made_e hp hk hss
    have fM : fz (stO true p ks ss) = stO false p ks ss := by simp [stO, kt, fzs_str]
    have tlT : items (kl tr) = some (tr.map D.str) := rfl
    have fS : fzs (tr.map D.str) = tr.map D.str := fzs_str
    have klT : D.lst false (tr.map D.str) = kl tr := rfl
    have hO : has? (stO false p ks ss) = true ∧ pure? (stO false p ks ss) = true := by simp [stO]
    have hx : ∀ x, has? (tD x) = true ∧ pure? (tD x) = true ∧ fz (tD x) = tD x := fun x => by simp [tD, turnD]
    have hq : ∀ o l, has? (sitD o l) = true ∧ pure? (sitD o l) = true ∧ fz (sitD o l) = sitD o l := fun o l => by simp [sitD]
    have rest2 : ∀ n2 (a2 a5 a6 a7 a8 a9 a10 a11 a12 a13 a14 : D), Vl (lawRest2 [.rol (ns.map D.int), bx row n2, a2, stL p ks ss, kl tr, a5, a6, a7, a8, a9, a10, a11, a12, a13, a14]) (StP (I (i + 1)) fun b ρ => Vl (seqK (retM (blM true)) b ρ) (FE 1 [1, 2, 3, 4, 5, 6, 7, 8, 9, 10, 11, 12, 13, 14] Q)) := by
      intro n2 a2 a5 a6 a7 a8 a9 a10 a11 a12 a13 a14
      simp [lawRest2, hh, hk']
      refine Vl_call (scen_ok hS htr') ?_
      rintro _ _ ⟨n3, xs, rfl, rfl, xl, hsc⟩
      have fx : fzs (xs.map tD) = xs.map tD ∧ pures? (xs.map tD) = true := ⟨fzs_tD, pures_tD⟩
      have ise := isScen_e hS htr' (xs := xs)
      rw [hsc] at ise
      simp [fx, made, fM, hO, tlT, fS, klT, ise, hh, hk']
      refine Vl_call (spoil_ok xl) ?_
      rintro _ _ ⟨n4, ys, rfl, rfl⟩
      have fy : fzs (ys.map tD) = ys.map tD ∧ pures? (ys.map tD) = true := ⟨fzs_tD, pures_tD⟩
      have isy := isScen_e hS htr' (xs := ys)
      have lisy := lisScen_e (m := true) hS htr' (xs := ys)
      simp [fx, fy, made, fM, hO, tlT, fS, klT, isy, lisy, hh, hk']
      rw [hI]
      exact ⟨_, _, _, _, _, _, _, _, _, _, _, _, _, _, rfl⟩
    have rest : ∀ o l n2 (a2 a5 a7 a8 a9 a10 a11 a12 a13 a14 : D), SitOk o l → Vl (lawRest [.rol (ns.map D.int), bx row n2, a2, stL p ks ss, kl tr, a5, sitD o l, a7, a8, a9, a10, a11, a12, a13, a14]) (StP (I (i + 1)) fun b ρ => Vl (seqK (retM (blM true)) b ρ) (FE 1 [1, 2, 3, 4, 5, 6, 7, 8, 9, 10, 11, 12, 13, 14] Q)) := by
      intro o l n2 a2 a5 a7 a8 a9 a10 a11 a12 a13 a14 S
      have te : f_turns [sitD o l, kl tr] = .ok (.lst true (turnsS o l tr)) [sitD o l, kl tr] := turns_e htr'
      have le := lturns_e (o := o) (l := l) htr'
      rw [turns_same S.o0 S.o1] at le
      have ae := lturns_e (o := o) (l := l) ok_TROUB
      rw [turns_same S.o0 S.o1] at ae
      have f1 := fzs_turnsS (o := o) (l := l) (tr := tr)
      have f2 := fzs_turnsS (o := o) (l := l) (tr := TROUB)
      have q1 := eqDs_self _ (shs_turnsS (n := 0) (o := o) (l := l) (tr := tr))
      have s63 : shs 63 (turnsS o l tr) = true := shs_turnsS (n := 61)
      obtain ⟨AA, hAA⟩ := hide (TROUB.map D.str)
      have al := all_e
      rw [← hAA] at al
      have fA : fzs AA = AA := by rw [hAA]; exact fzs_str
      have kA : D.lst false AA = kl TROUB := by rw [hAA]; rfl
      have hkA := has_kl (tr := TROUB)
      obtain ⟨zs, ez, zl, za, zb⟩ := turnsS_list o l TROUB
      have hne : zs ≠ [] := by
        intro h
        obtain ⟨x0, hx0, _⟩ := turnsP_pt (o := o) (l := l) (tr := TROUB)
        have := zb x0 hx0
        rw [h] at this; cases this
      have hpos : 0 < (zs.length : Int) := by have := List.length_pos_iff.mpr hne; omega
      generalize hEv : turnsS o l TROUB = EV at *
      generalize hKA : kl TROUB = KA at *
      simp [lawRest, hh, hk', hq, te, le, f1, f2, tlT, fS, klT, q1, s63, al, fA, kA, ae, hkA, rng1, s8]
      obtain ⟨J, hJ⟩ := hide (fun (j : Nat) (ρ : List D) => ∃ n a9 a13 a14, ρ = [.rol (ns.map D.int), bx row n, a2, stL p ks ss, kl tr, a5, sitD o l, .lst false (turnsS o l tr), .lst false EV, a9, a10, a11, a12, a13, a14])
      refine Vl_for J (by rw [hJ]; exact ⟨_, _, _, _, rfl⟩) ?_ ?_
      · intro j d' ρ hj h
        rw [hJ] at h
        obtain ⟨n5, a9, a13, a14, rfl⟩ := h
        obtain ⟨x, hx', ex⟩ := pick (i := drawV row n5 840 * 3 + drawV row (n5 + 1) 3) hne
        rw [← ez] at ex
        have hin := za x hx'
        have T := turnsP_ok S x hin
        have be := lbehind_t hS T
        obtain ⟨pa, pb, pc⟩ := sigs_ok hS (x := x)
        have pe := behind_e hS.okp hS.okk hS.oks (si := sitD o l) T.toTurnOk (hq o l).1 (hq o l).2.1
        rw [out_eq hS T] at pe
        have pe : f_behind [stO false p ks ss, sitD o l, tD x] = .ok (.tup [sitD (aft p ks ss x).1 (aft p ks ss x).2, .tup (sigs p ks ss x)]) [stO false p ks ss, sitD o l, tD x] := pe
        have cm := cm_r (drawV row n5 840) 3 (by omega) (by omega)
        have el : (EV.length : Int) = zs.length := by rw [ez, List.length_map]
        have md : modD (.int (drawV row n5 840 * 3 + drawV row (n5 + 1) 3)) (.int EV.length) = some (.int ((drawV row n5 840 * 3 + drawV row (n5 + 1) 3) % zs.length)) := by rw [el]; exact modD_e hpos
        have ss1 : sh 63 (sitD (aft p ks ss x).1 (aft p ks ss x).2) = true := sh_sit (n := 61)
        have qs1 := eqD_self _ (sh_sit (n := 0) (o := (aft p ks ss x).1) (l := (aft p ks ss x).2))
        have ss2 : shs 62 (sigs p ks ss x) = true := pc 61
        have qs2 := eqDs_self _ (pc 0)
        have hs1 := hq (aft p ks ss x).1 (aft p ks ss x).2
        simp [draw_e, cm, md, ex, hx, hh, hq, be, pe, made, fM, hO, pa, pb, x20, x21, ss1, ss2, qs1, qs2]
        rw [hJ]
        exact ⟨_, _, _, _, rfl⟩
      · intro ρ h
        rw [hJ] at h
        obtain ⟨n5, a9, a13, a14, rfl⟩ := h
        simp
        exact rest2 _ _ _ _ _ _ _ _ _ _ _ _
    refine Vl_iteK (fun _ => ?_) (fun _ => ?_)
    · simp
      exact rest 3 4 _ _ _ _ _ _ _ _ _ _ _ ⟨by decide, by decide, by decide, by decide⟩
    · simp
      exact rest _ _ _ _ _ _ _ _ _ _ _ _ _ ⟨o0, o1, l0, by omega⟩
  · intro ρ h
    rw [hI] at h
    obtain ⟨n, a2, a3, a4, a5, a6, a7, a8, a9, a10, a11, a12, a13, a14, rfl⟩ := h
    simp
    rw [hQ]
end G
end VS
set_option Elab.async false
set_option linter.all false
set_option maxRecDepth 100000
set_option maxHeartbeats 8000000
set_option pp.deepTerms false
namespace VS
open PySem PySem.Spec PyProof.Rows L2
namespace G
theorem law_mk {P : Program} {w : World} {K : PySem.W.Frag} {h : Heap} {mg : Str → Option Value} {fa : Addr} (X : K.In h) (G : h.Ns mainGlobals mg) (hfa : mg "law" = some (.ref fa))
    (z_isinstance : PySem.W.nsIn K mainGlobals "isinstance" = some none)
    (z_len : PySem.W.nsIn K mainGlobals "len" = some none)
    (z_abs : PySem.W.nsIn K mainGlobals "abs" = some none)
    (z_int : PySem.W.nsIn K mainGlobals "int" = some none)
    (z_tuple : PySem.W.nsIn K mainGlobals "tuple" = some none)
    (z_list : PySem.W.nsIn K mainGlobals "list" = some none)
    (z_all : PySem.W.nsIn K mainGlobals "all" = some none)
    (z_any : PySem.W.nsIn K mainGlobals "any" = some none)
    (z_sorted : PySem.W.nsIn K mainGlobals "sorted" = some none)
    (z_sum : PySem.W.nsIn K mainGlobals "sum" = some none)
    (z_bool : PySem.W.nsIn K mainGlobals "bool" = some none)
    (z_str : PySem.W.nsIn K mainGlobals "str" = some none)
    (z_range : PySem.W.nsIn K mainGlobals "range" = some none)
    (z_zip : PySem.W.nsIn K mainGlobals "zip" = some none)
    (z_enumerate : PySem.W.nsIn K mainGlobals "enumerate" = some none)
    {t_CANCEL : Tok}
    (n_CANCEL : PySem.W.nsIn K mainGlobals "CANCEL" = some (some (.int 5 t_CANCEL)))
    {t_CURRENT : Tok}
    (n_CURRENT : PySem.W.nsIn K mainGlobals "CURRENT" = some (some (.int 4 t_CURRENT)))
    {t_DROP : Tok}
    (n_DROP : PySem.W.nsIn K mainGlobals "DROP" = some (some (.int 3 t_DROP)))
    {a_END : Addr} {dd_END : Option Addr} {nn_END : Nat} {sl_END : Array (Option Value)}
    (n_END : PySem.W.nsIn K mainGlobals "END" = some (some (.ref a_END)))
    {t_END_0 : Tok}
    {t_END_1 : Tok}
    {t_END_3 : Tok}
    (l_END : K.lookup a_END = some ⟨.type "tuple", dd_END, .seq #[.str "end" t_END_0, .str "outside" t_END_1, .bool false, .str "none" t_END_3] nn_END, sl_END⟩)
    {a_KINDS : Addr} {dd_KINDS : Option Addr} {nn_KINDS : Nat} {sl_KINDS : Array (Option Value)}
    (n_KINDS : PySem.W.nsIn K mainGlobals "KINDS" = some (some (.ref a_KINDS)))
    {t_KINDS_0 : Tok}
    {t_KINDS_1 : Tok}
    {t_KINDS_2 : Tok}
    {t_KINDS_3 : Tok}
    {t_KINDS_4 : Tok}
    (l_KINDS : K.lookup a_KINDS = some ⟨.type "tuple", dd_KINDS, .seq #[.str "enter" t_KINDS_0, .str "leave" t_KINDS_1, .str "over" t_KINDS_2, .str "drop" t_KINDS_3, .str "end" t_KINDS_4] nn_KINDS, sl_KINDS⟩)
    {t_OUT : Tok}
    (n_OUT : PySem.W.nsIn K mainGlobals "OUT" = some (some (.int 2 t_OUT)))
    {a_PLACES : Addr} {dd_PLACES : Option Addr} {nn_PLACES : Nat} {sl_PLACES : Array (Option Value)}
    (n_PLACES : PySem.W.nsIn K mainGlobals "PLACES" = some (some (.ref a_PLACES)))
    {t_PLACES_0 : Tok}
    {t_PLACES_1 : Tok}
    {t_PLACES_2 : Tok}
    (l_PLACES : K.lookup a_PLACES = some ⟨.type "tuple", dd_PLACES, .seq #[.str "zone" t_PLACES_0, .str "root" t_PLACES_1, .str "capture" t_PLACES_2] nn_PLACES, sl_PLACES⟩)
    {t_POINT : Tok}
    (n_POINT : PySem.W.nsIn K mainGlobals "POINT" = some (some (.int 0 t_POINT)))
    {a_SIDE_OF : Addr} {dd_SIDE_OF : Option Addr} {nn_SIDE_OF : Nat} {sl_SIDE_OF : Array (Option Value)}
    (n_SIDE_OF : PySem.W.nsIn K mainGlobals "SIDE_OF" = some (some (.ref a_SIDE_OF)))
    {t_SIDE_OF_0 : Tok}
    {t_SIDE_OF_1 : Tok}
    {t_SIDE_OF_2 : Tok}
    {t_SIDE_OF_3 : Tok}
    (l_SIDE_OF : K.lookup a_SIDE_OF = some ⟨.type "tuple", dd_SIDE_OF, .seq #[.str "none" t_SIDE_OF_0, .str "outside" t_SIDE_OF_1, .str "inside" t_SIDE_OF_2, .str "zone" t_SIDE_OF_3] nn_SIDE_OF, sl_SIDE_OF⟩)
    {a_SIGHTS : Addr} {dd_SIGHTS : Option Addr} {nn_SIGHTS : Nat} {sl_SIGHTS : Array (Option Value)}
    (n_SIGHTS : PySem.W.nsIn K mainGlobals "SIGHTS" = some (some (.ref a_SIGHTS)))
    {t_SIGHTS_0 : Tok}
    {t_SIGHTS_1 : Tok}
    {t_SIGHTS_2 : Tok}
    (l_SIGHTS : K.lookup a_SIGHTS = some ⟨.type "tuple", dd_SIGHTS, .seq #[.str "own" t_SIGHTS_0, .str "same" t_SIGHTS_1, .str "related" t_SIGHTS_2] nn_SIGHTS, sl_SIGHTS⟩)
    {t_SILENT_CANCEL : Tok}
    (n_SILENT_CANCEL : PySem.W.nsIn K mainGlobals "SILENT_CANCEL" = some (some (.int 6 t_SILENT_CANCEL)))
    {t_SILENT_DROP : Tok}
    (n_SILENT_DROP : PySem.W.nsIn K mainGlobals "SILENT_DROP" = some (some (.int 4 t_SILENT_DROP)))
    {t_SLIP : Tok}
    (n_SLIP : PySem.W.nsIn K mainGlobals "SLIP" = some (some (.int 1 t_SLIP)))
    {a_START : Addr} {dd_START : Option Addr} {nn_START : Nat} {sl_START : Array (Option Value)}
    (n_START : PySem.W.nsIn K mainGlobals "START" = some (some (.ref a_START)))
    {t_START_0 : Tok}
    {t_START_1 : Tok}
    (l_START : K.lookup a_START = some ⟨.type "tuple", dd_START, .seq #[.int 0 t_START_0, .int 0 t_START_1] nn_START, sl_START⟩)
    {eC fI : Addr}
    (dtop : (P.main.scope.names.lookup ("super" : Str)).isSome = false)
    (daC : PySem.W.nsIn K mainGlobals "DragError" = some (some (.ref eC)))
    (daS : PySem.W.nsIn K mainGlobals "super" = some none)
    (dop : PySem.W.nsIn K PySem.cStatics "thirdparty.any" = some none)
    {dnm dq : Str} {dN : Addr} {dbs : List Value} {dsn : List Str} {dsub : List Value} {dab : Bool} {dcol : Option Bool} {ddd : Option Addr} {dm0 dm1 dm2 dm3 dm5 : Option Value}
    (dxL : K.lookup eC = some (excClassObj dnm dq eC dN dbs [.type "ValueError", .type "Exception", .type "BaseException", .type "object"] true dsn dsub dab dcol ddd dm0 dm1 dm2 dm3 dm5 "ValueError.__new__"))
    (dve : PySem.W.subIn K (.ref eC) (.type "ValueError") = some true)
    (dsa : PySem.W.findIn K (.ref eC) "__setattr__" = some (some (.builtin "object.__setattr__")))
    (dga : PySem.W.findIn K (.ref eC) "__getattribute__" = some (some (.builtin "BaseException.__getattribute__")))
    (dgg : PySem.W.findIn K (.ref eC) "__getattr__" = some none)
    (dnN : PySem.W.findIn K (.ref eC) "reason" = some none)
    (diC : PySem.W.findIn K (.ref eC) "__init__" = some (some (.ref fI)))
    (dtC : PySem.W.typeIn K (.ref fI) = some (.type "function"))
    (dkC : PySem.W.keepIn K (.ref eC) = true)
    (dex : PySem.W.subIn K (.ref eC) (.type "BaseException") = some true)
    (dty : PySem.W.typeIn K (.ref eC) = some (.type "type"))
    (dhd : PySem.W.hasDictIn K eC = true)
    (dic : PySem.W.isClsIn K eC = true)
    (dsc : PySem.W.subIn K (.ref eC) (.ref eC) = some true)
    {doc0 : Value} {dod : Option Addr} {ddoc dpm : Value} {dan : Option Addr} {dcda dcc : Addr} {dct : Value} {dosl : Array (Option Value)} {dccl dcl : Value} {dcdd dcld : Option Addr} {dccs dcsl : Array (Option Value)} {dvs : Array Value} {dfile : Str} {dtf : Tok}
    (dlf : K.lookup fI = some ⟨doc0, dod, .func (PySem.W.ksFn "__init__" "DragError.__init__" (dgA ⟨4, 17, 4, 21⟩ ⟨4, 23, 4, 29⟩) (dgB 5 ⟨6, 8, 6, 12⟩ ⟨6, 8, 6, 19⟩ ⟨6, 22, 6, 28⟩ ⟨6, 8, 6, 28⟩) dgS .none .none ddoc dpm dan (.ref dcda) dct dcc), dosl⟩)
    (dcd : PySem.W.codeIn K (.ref dcda) "DragError.__init__" = true)
    (dcda_ : K.lookup dcda = some ⟨dccl, dcdd, .fields dvs, dccs⟩)
    (dvs_ : dvs[2]? = some (.str dfile dtf)) (dfi : ((P.main.file : Str) == dfile) = true)
    (dcc_ : K.lookup dcc = some ⟨dcl, dcld, .cell (some (.ref eC)), dcsl⟩)
    {a_Ear : Addr}
    (n_Ear : PySem.W.nsIn K mainGlobals "Ear" = some (some (.ref a_Ear)))
    (pg_Ear : PySem.W.plainGet K a_Ear Str.empty = true)
    (hd_Ear : PySem.W.hasDictIn K a_Ear = true)
    (po_Ear : PySem.W.plainOver K a_Ear = true)
    (sa_Ear : PySem.W.findIn K (.ref a_Ear) "__setattr__" = some (some (.builtin "object.__setattr__")))
    (mk0_Ear : PySem.W.makesIn K a_Ear = true)
    (kc_Ear : PySem.W.keepIn K (.ref a_Ear) = true)
    {a_Meeting : Addr}
    (n_Meeting : PySem.W.nsIn K mainGlobals "Meeting" = some (some (.ref a_Meeting)))
    (pg_Meeting : PySem.W.plainGet K a_Meeting Str.empty = true)
    (hd_Meeting : PySem.W.hasDictIn K a_Meeting = true)
    (po_Meeting : PySem.W.plainOver K a_Meeting = true)
    (sa_Meeting : PySem.W.findIn K (.ref a_Meeting) "__setattr__" = some (some (.builtin "object.__setattr__")))
    (mk0_Meeting : PySem.W.makesIn K a_Meeting = true)
    (kc_Meeting : PySem.W.keepIn K (.ref a_Meeting) = true)
    {a_Setup : Addr}
    (n_Setup : PySem.W.nsIn K mainGlobals "Setup" = some (some (.ref a_Setup)))
    (pg_Setup : PySem.W.plainGet K a_Setup Str.empty = true)
    (hd_Setup : PySem.W.hasDictIn K a_Setup = true)
    (po_Setup : PySem.W.plainOver K a_Setup = true)
    (sa_Setup : PySem.W.findIn K (.ref a_Setup) "__setattr__" = some (some (.builtin "object.__setattr__")))
    (mk0_Setup : PySem.W.makesIn K a_Setup = true)
    (kc_Setup : PySem.W.keepIn K (.ref a_Setup) = true)
    (no_Ear_count : PySem.W.findIn K (.ref a_Ear) "count" = some none)
    (no_Ear_entered : PySem.W.findIn K (.ref a_Ear) "entered" = some none)
    (no_Ear_setup : PySem.W.findIn K (.ref a_Ear) "setup" = some none)
    (no_Ear_signals : PySem.W.findIn K (.ref a_Ear) "signals" = some none)
    (no_Ear_stops : PySem.W.findIn K (.ref a_Ear) "stops" = some none)
    (no_Meeting_ear : PySem.W.findIn K (.ref a_Meeting) "ear" = some none)
    (no_Meeting_last : PySem.W.findIn K (.ref a_Meeting) "last" = some none)
    (no_Meeting_over : PySem.W.findIn K (.ref a_Meeting) "over" = some none)
    (no_Meeting_target : PySem.W.findIn K (.ref a_Meeting) "target" = some none)
    (no_Meeting_tick : PySem.W.findIn K (.ref a_Meeting) "tick" = some none)
    (no_Setup_kinds : PySem.W.findIn K (.ref a_Setup) "kinds" = some none)
    (no_Setup_place : PySem.W.findIn K (.ref a_Setup) "place" = some none)
    (no_Setup_sights : PySem.W.findIn K (.ref a_Setup) "sights" = some none)
    {a_reaches : Addr} {od_reaches an_reaches : Option Addr} {sl_reaches : Array (Option Value)} {oc_reaches kV_reaches dc_reaches pm_reaches cd_reaches ct_reaches : Value}
    (n_reaches : PySem.W.nsIn K mainGlobals "reaches" = some (some (.ref a_reaches)))
    (l_reaches : K.lookup a_reaches = some ⟨oc_reaches, od_reaches, .func (PySem.W.fnOf "reaches" "reaches" (defArgs N_reaches.st) (defBody N_reaches.st) (defScope N_reaches.st) .none kV_reaches dc_reaches pm_reaches an_reaches cd_reaches ct_reaches), sl_reaches⟩)
    (c_d_reaches : PySem.W.codeIn K cd_reaches "reaches" = true)
    (k_reaches : PySem.W.keepIn K (.ref a_reaches) = true)
    {a__plain : Addr} {od__plain an__plain : Option Addr} {sl__plain : Array (Option Value)} {oc__plain kV__plain dc__plain pm__plain cd__plain ct__plain : Value}
    (n__plain : PySem.W.nsIn K mainGlobals "_plain" = some (some (.ref a__plain)))
    (l__plain : K.lookup a__plain = some ⟨oc__plain, od__plain, .func (PySem.W.fnOf "_plain" "_plain" (defArgs N__plain.st) (defBody N__plain.st) (defScope N__plain.st) .none kV__plain dc__plain pm__plain an__plain cd__plain ct__plain), sl__plain⟩)
    (c_d__plain : PySem.W.codeIn K cd__plain "_plain" = true)
    (k__plain : PySem.W.keepIn K (.ref a__plain) = true)
    {a_signal_of : Addr} {od_signal_of an_signal_of : Option Addr} {sl_signal_of : Array (Option Value)} {oc_signal_of kV_signal_of dc_signal_of pm_signal_of cd_signal_of ct_signal_of : Value}
    (n_signal_of : PySem.W.nsIn K mainGlobals "signal_of" = some (some (.ref a_signal_of)))
    (l_signal_of : K.lookup a_signal_of = some ⟨oc_signal_of, od_signal_of, .func (PySem.W.fnOf "signal_of" "signal_of" (defArgs N_signal_of.st) (defBody N_signal_of.st) (defScope N_signal_of.st) .none kV_signal_of dc_signal_of pm_signal_of an_signal_of cd_signal_of ct_signal_of), sl_signal_of⟩)
    (c_d_signal_of : PySem.W.codeIn K cd_signal_of "signal_of" = true)
    (k_signal_of : PySem.W.keepIn K (.ref a_signal_of) = true)
    {a_hears_end : Addr} {od_hears_end an_hears_end : Option Addr} {sl_hears_end : Array (Option Value)} {oc_hears_end kV_hears_end dc_hears_end pm_hears_end cd_hears_end ct_hears_end : Value}
    (n_hears_end : PySem.W.nsIn K mainGlobals "hears_end" = some (some (.ref a_hears_end)))
    (l_hears_end : K.lookup a_hears_end = some ⟨oc_hears_end, od_hears_end, .func (PySem.W.fnOf "hears_end" "hears_end" (defArgs N_hears_end.st) (defBody N_hears_end.st) (defScope N_hears_end.st) .none kV_hears_end dc_hears_end pm_hears_end an_hears_end cd_hears_end ct_hears_end), sl_hears_end⟩)
    (c_d_hears_end : PySem.W.codeIn K cd_hears_end "hears_end" = true)
    (k_hears_end : PySem.W.keepIn K (.ref a_hears_end) = true)
    {a_Ear___init__ : Addr} {od_Ear___init__ an_Ear___init__ : Option Addr} {sl_Ear___init__ : Array (Option Value)} {oc_Ear___init__ kV_Ear___init__ dc_Ear___init__ pm_Ear___init__ cd_Ear___init__ ct_Ear___init__ : Value}
    (i_Ear___init__ : PySem.W.findIn K (.ref a_Ear) "__init__" = some (some (.ref a_Ear___init__)))
    (f_n_Ear___init__ : PySem.W.isFn K (.ref a_Ear___init__) = true)
    (l_Ear___init__ : K.lookup a_Ear___init__ = some ⟨oc_Ear___init__, od_Ear___init__, .func (PySem.W.fnOf "__init__" "Ear.__init__" (defArgs N_Ear___init__.st) (defBody N_Ear___init__.st) (defScope N_Ear___init__.st) .none kV_Ear___init__ dc_Ear___init__ pm_Ear___init__ an_Ear___init__ cd_Ear___init__ ct_Ear___init__), sl_Ear___init__⟩)
    (c_d_Ear___init__ : PySem.W.codeIn K cd_Ear___init__ "Ear.__init__" = true)
    (k_Ear___init__ : PySem.W.keepIn K (.ref a_Ear___init__) = true)
    {a_Ear_event : Addr} {od_Ear_event an_Ear_event : Option Addr} {sl_Ear_event : Array (Option Value)} {oc_Ear_event kV_Ear_event dc_Ear_event pm_Ear_event cd_Ear_event ct_Ear_event : Value}
    (i_Ear_event : PySem.W.findIn K (.ref a_Ear) "event" = some (some (.ref a_Ear_event)))
    (f_n_Ear_event : PySem.W.isFn K (.ref a_Ear_event) = true)
    (l_Ear_event : K.lookup a_Ear_event = some ⟨oc_Ear_event, od_Ear_event, .func (PySem.W.fnOf "event" "Ear.event" (defArgs N_Ear_event.st) (defBody N_Ear_event.st) (defScope N_Ear_event.st) .none kV_Ear_event dc_Ear_event pm_Ear_event an_Ear_event cd_Ear_event ct_Ear_event), sl_Ear_event⟩)
    (c_d_Ear_event : PySem.W.codeIn K cd_Ear_event "Ear.event" = true)
    (k_Ear_event : PySem.W.keepIn K (.ref a_Ear_event) = true)
    {a_Ear_end : Addr} {od_Ear_end an_Ear_end : Option Addr} {sl_Ear_end : Array (Option Value)} {oc_Ear_end kV_Ear_end dc_Ear_end pm_Ear_end cd_Ear_end ct_Ear_end : Value}
    (i_Ear_end : PySem.W.findIn K (.ref a_Ear) "end" = some (some (.ref a_Ear_end)))
    (f_n_Ear_end : PySem.W.isFn K (.ref a_Ear_end) = true)
    (l_Ear_end : K.lookup a_Ear_end = some ⟨oc_Ear_end, od_Ear_end, .func (PySem.W.fnOf "end" "Ear.end" (defArgs N_Ear_end.st) (defBody N_Ear_end.st) (defScope N_Ear_end.st) .none kV_Ear_end dc_Ear_end pm_Ear_end an_Ear_end cd_Ear_end ct_Ear_end), sl_Ear_end⟩)
    (c_d_Ear_end : PySem.W.codeIn K cd_Ear_end "Ear.end" = true)
    (k_Ear_end : PySem.W.keepIn K (.ref a_Ear_end) = true)
    {a__led : Addr} {od__led an__led : Option Addr} {sl__led : Array (Option Value)} {oc__led kV__led dc__led pm__led cd__led ct__led : Value}
    (n__led : PySem.W.nsIn K mainGlobals "_led" = some (some (.ref a__led)))
    (l__led : K.lookup a__led = some ⟨oc__led, od__led, .func (PySem.W.fnOf "_led" "_led" (defArgs N__led.st) (defBody N__led.st) (defScope N__led.st) .none kV__led dc__led pm__led an__led cd__led ct__led), sl__led⟩)
    (c_d__led : PySem.W.codeIn K cd__led "_led" = true)
    (k__led : PySem.W.keepIn K (.ref a__led) = true)
    {a_changed : Addr} {od_changed an_changed : Option Addr} {sl_changed : Array (Option Value)} {oc_changed kV_changed dc_changed pm_changed cd_changed ct_changed : Value}
    (n_changed : PySem.W.nsIn K mainGlobals "changed" = some (some (.ref a_changed)))
    (l_changed : K.lookup a_changed = some ⟨oc_changed, od_changed, .func (PySem.W.fnOf "changed" "changed" (defArgs N_changed.st) (defBody N_changed.st) (defScope N_changed.st) .none kV_changed dc_changed pm_changed an_changed cd_changed ct_changed), sl_changed⟩)
    (c_d_changed : PySem.W.codeIn K cd_changed "changed" = true)
    (k_changed : PySem.W.keepIn K (.ref a_changed) = true)
    {a__targets : Addr} {od__targets an__targets : Option Addr} {sl__targets : Array (Option Value)} {oc__targets kV__targets dc__targets pm__targets cd__targets ct__targets : Value}
    (n__targets : PySem.W.nsIn K mainGlobals "_targets" = some (some (.ref a__targets)))
    (l__targets : K.lookup a__targets = some ⟨oc__targets, od__targets, .func (PySem.W.fnOf "_targets" "_targets" (defArgs N__targets.st) (defBody N__targets.st) (defScope N__targets.st) .none kV__targets dc__targets pm__targets an__targets cd__targets ct__targets), sl__targets⟩)
    (c_d__targets : PySem.W.codeIn K cd__targets "_targets" = true)
    (k__targets : PySem.W.keepIn K (.ref a__targets) = true)
    {a_ticks : Addr} {od_ticks an_ticks : Option Addr} {sl_ticks : Array (Option Value)} {oc_ticks kV_ticks dc_ticks pm_ticks cd_ticks ct_ticks : Value}
    (n_ticks : PySem.W.nsIn K mainGlobals "ticks" = some (some (.ref a_ticks)))
    (l_ticks : K.lookup a_ticks = some ⟨oc_ticks, od_ticks, .func (PySem.W.fnOf "ticks" "ticks" (defArgs N_ticks.st) (defBody N_ticks.st) (defScope N_ticks.st) .none kV_ticks dc_ticks pm_ticks an_ticks cd_ticks ct_ticks), sl_ticks⟩)
    (c_d_ticks : PySem.W.codeIn K cd_ticks "ticks" = true)
    (k_ticks : PySem.W.keepIn K (.ref a_ticks) = true)
    {a_turns : Addr} {od_turns an_turns : Option Addr} {sl_turns : Array (Option Value)} {oc_turns kV_turns dc_turns pm_turns cd_turns ct_turns : Value}
    (n_turns : PySem.W.nsIn K mainGlobals "turns" = some (some (.ref a_turns)))
    (l_turns : K.lookup a_turns = some ⟨oc_turns, od_turns, .func (PySem.W.fnOf "turns" "turns" (defArgs N_turns.st) (defBody N_turns.st) (defScope N_turns.st) .none kV_turns dc_turns pm_turns an_turns cd_turns ct_turns), sl_turns⟩)
    (c_d_turns : PySem.W.codeIn K cd_turns "turns" = true)
    (k_turns : PySem.W.keepIn K (.ref a_turns) = true)
    {a_Meeting__entered : Addr} {od_Meeting__entered an_Meeting__entered : Option Addr} {sl_Meeting__entered : Array (Option Value)} {oc_Meeting__entered kV_Meeting__entered dc_Meeting__entered pm_Meeting__entered cd_Meeting__entered ct_Meeting__entered : Value}
    (i_Meeting__entered : PySem.W.findIn K (.ref a_Meeting) "_entered" = some (some (.ref a_Meeting__entered)))
    (f_n_Meeting__entered : PySem.W.isFn K (.ref a_Meeting__entered) = true)
    (l_Meeting__entered : K.lookup a_Meeting__entered = some ⟨oc_Meeting__entered, od_Meeting__entered, .func (PySem.W.fnOf "_entered" "Meeting._entered" (defArgs N_Meeting__entered.st) (defBody N_Meeting__entered.st) (defScope N_Meeting__entered.st) .none kV_Meeting__entered dc_Meeting__entered pm_Meeting__entered an_Meeting__entered cd_Meeting__entered ct_Meeting__entered), sl_Meeting__entered⟩)
    (c_d_Meeting__entered : PySem.W.codeIn K cd_Meeting__entered "Meeting._entered" = true)
    (k_Meeting__entered : PySem.W.keepIn K (.ref a_Meeting__entered) = true)
    {a_Meeting___init__ : Addr} {od_Meeting___init__ an_Meeting___init__ : Option Addr} {sl_Meeting___init__ : Array (Option Value)} {oc_Meeting___init__ kV_Meeting___init__ dc_Meeting___init__ pm_Meeting___init__ cd_Meeting___init__ ct_Meeting___init__ : Value}
    (i_Meeting___init__ : PySem.W.findIn K (.ref a_Meeting) "__init__" = some (some (.ref a_Meeting___init__)))
    (f_n_Meeting___init__ : PySem.W.isFn K (.ref a_Meeting___init__) = true)
    (l_Meeting___init__ : K.lookup a_Meeting___init__ = some ⟨oc_Meeting___init__, od_Meeting___init__, .func (PySem.W.fnOf "__init__" "Meeting.__init__" (defArgs N_Meeting___init__.st) (defBody N_Meeting___init__.st) (defScope N_Meeting___init__.st) .none kV_Meeting___init__ dc_Meeting___init__ pm_Meeting___init__ an_Meeting___init__ cd_Meeting___init__ ct_Meeting___init__), sl_Meeting___init__⟩)
    (c_d_Meeting___init__ : PySem.W.codeIn K cd_Meeting___init__ "Meeting.__init__" = true)
    (k_Meeting___init__ : PySem.W.keepIn K (.ref a_Meeting___init__) = true)
    {a_Meeting_event : Addr} {od_Meeting_event an_Meeting_event : Option Addr} {sl_Meeting_event : Array (Option Value)} {oc_Meeting_event kV_Meeting_event dc_Meeting_event pm_Meeting_event cd_Meeting_event ct_Meeting_event : Value}
    (i_Meeting_event : PySem.W.findIn K (.ref a_Meeting) "event" = some (some (.ref a_Meeting_event)))
    (f_n_Meeting_event : PySem.W.isFn K (.ref a_Meeting_event) = true)
    (l_Meeting_event : K.lookup a_Meeting_event = some ⟨oc_Meeting_event, od_Meeting_event, .func (PySem.W.fnOf "event" "Meeting.event" (defArgs N_Meeting_event.st) (defBody N_Meeting_event.st) (defScope N_Meeting_event.st) .none kV_Meeting_event dc_Meeting_event pm_Meeting_event an_Meeting_event cd_Meeting_event ct_Meeting_event), sl_Meeting_event⟩)
    (c_d_Meeting_event : PySem.W.codeIn K cd_Meeting_event "Meeting.event" = true)
    (k_Meeting_event : PySem.W.keepIn K (.ref a_Meeting_event) = true)
    {a_Meeting_pointed : Addr} {od_Meeting_pointed an_Meeting_pointed : Option Addr} {sl_Meeting_pointed : Array (Option Value)} {oc_Meeting_pointed kV_Meeting_pointed dc_Meeting_pointed pm_Meeting_pointed cd_Meeting_pointed ct_Meeting_pointed : Value}
    (i_Meeting_pointed : PySem.W.findIn K (.ref a_Meeting) "pointed" = some (some (.ref a_Meeting_pointed)))
    (f_n_Meeting_pointed : PySem.W.isFn K (.ref a_Meeting_pointed) = true)
    (l_Meeting_pointed : K.lookup a_Meeting_pointed = some ⟨oc_Meeting_pointed, od_Meeting_pointed, .func (PySem.W.fnOf "pointed" "Meeting.pointed" (defArgs N_Meeting_pointed.st) (defBody N_Meeting_pointed.st) (defScope N_Meeting_pointed.st) .none kV_Meeting_pointed dc_Meeting_pointed pm_Meeting_pointed an_Meeting_pointed cd_Meeting_pointed ct_Meeting_pointed), sl_Meeting_pointed⟩)
    (c_d_Meeting_pointed : PySem.W.codeIn K cd_Meeting_pointed "Meeting.pointed" = true)
    (k_Meeting_pointed : PySem.W.keepIn K (.ref a_Meeting_pointed) = true)
    {a_Meeting_point : Addr} {od_Meeting_point an_Meeting_point : Option Addr} {sl_Meeting_point : Array (Option Value)} {oc_Meeting_point kV_Meeting_point dc_Meeting_point pm_Meeting_point cd_Meeting_point ct_Meeting_point : Value}
    (i_Meeting_point : PySem.W.findIn K (.ref a_Meeting) "point" = some (some (.ref a_Meeting_point)))
    (f_n_Meeting_point : PySem.W.isFn K (.ref a_Meeting_point) = true)
    (l_Meeting_point : K.lookup a_Meeting_point = some ⟨oc_Meeting_point, od_Meeting_point, .func (PySem.W.fnOf "point" "Meeting.point" (defArgs N_Meeting_point.st) (defBody N_Meeting_point.st) (defScope N_Meeting_point.st) .none kV_Meeting_point dc_Meeting_point pm_Meeting_point an_Meeting_point cd_Meeting_point ct_Meeting_point), sl_Meeting_point⟩)
    (c_d_Meeting_point : PySem.W.codeIn K cd_Meeting_point "Meeting.point" = true)
    (k_Meeting_point : PySem.W.keepIn K (.ref a_Meeting_point) = true)
    {a_Meeting_stop : Addr} {od_Meeting_stop an_Meeting_stop : Option Addr} {sl_Meeting_stop : Array (Option Value)} {oc_Meeting_stop kV_Meeting_stop dc_Meeting_stop pm_Meeting_stop cd_Meeting_stop ct_Meeting_stop : Value}
    (i_Meeting_stop : PySem.W.findIn K (.ref a_Meeting) "stop" = some (some (.ref a_Meeting_stop)))
    (f_n_Meeting_stop : PySem.W.isFn K (.ref a_Meeting_stop) = true)
    (l_Meeting_stop : K.lookup a_Meeting_stop = some ⟨oc_Meeting_stop, od_Meeting_stop, .func (PySem.W.fnOf "stop" "Meeting.stop" (defArgs N_Meeting_stop.st) (defBody N_Meeting_stop.st) (defScope N_Meeting_stop.st) .none kV_Meeting_stop dc_Meeting_stop pm_Meeting_stop an_Meeting_stop cd_Meeting_stop ct_Meeting_stop), sl_Meeting_stop⟩)
    (c_d_Meeting_stop : PySem.W.codeIn K cd_Meeting_stop "Meeting.stop" = true)
    (k_Meeting_stop : PySem.W.keepIn K (.ref a_Meeting_stop) = true)
    {a_Meeting_last_then : Addr} {od_Meeting_last_then an_Meeting_last_then : Option Addr} {sl_Meeting_last_then : Array (Option Value)} {oc_Meeting_last_then kV_Meeting_last_then dc_Meeting_last_then pm_Meeting_last_then cd_Meeting_last_then ct_Meeting_last_then : Value}
    (i_Meeting_last_then : PySem.W.findIn K (.ref a_Meeting) "last_then" = some (some (.ref a_Meeting_last_then)))
    (f_n_Meeting_last_then : PySem.W.isFn K (.ref a_Meeting_last_then) = true)
    (l_Meeting_last_then : K.lookup a_Meeting_last_then = some ⟨oc_Meeting_last_then, od_Meeting_last_then, .func (PySem.W.fnOf "last_then" "Meeting.last_then" (defArgs N_Meeting_last_then.st) (defBody N_Meeting_last_then.st) (defScope N_Meeting_last_then.st) .none kV_Meeting_last_then dc_Meeting_last_then pm_Meeting_last_then an_Meeting_last_then cd_Meeting_last_then ct_Meeting_last_then), sl_Meeting_last_then⟩)
    (c_d_Meeting_last_then : PySem.W.codeIn K cd_Meeting_last_then "Meeting.last_then" = true)
    (k_Meeting_last_then : PySem.W.keepIn K (.ref a_Meeting_last_then) = true)
    {a__met : Addr} {od__met an__met : Option Addr} {sl__met : Array (Option Value)} {oc__met kV__met dc__met pm__met cd__met ct__met : Value}
    (n__met : PySem.W.nsIn K mainGlobals "_met" = some (some (.ref a__met)))
    (l__met : K.lookup a__met = some ⟨oc__met, od__met, .func (PySem.W.fnOf "_met" "_met" (defArgs N__met.st) (defBody N__met.st) (defScope N__met.st) .none kV__met dc__met pm__met an__met cd__met ct__met), sl__met⟩)
    (c_d__met : PySem.W.codeIn K cd__met "_met" = true)
    (k__met : PySem.W.keepIn K (.ref a__met) = true)
    {a_outcome : Addr} {od_outcome an_outcome : Option Addr} {sl_outcome : Array (Option Value)} {oc_outcome kV_outcome dc_outcome pm_outcome cd_outcome ct_outcome : Value}
    (n_outcome : PySem.W.nsIn K mainGlobals "outcome" = some (some (.ref a_outcome)))
    (l_outcome : K.lookup a_outcome = some ⟨oc_outcome, od_outcome, .func (PySem.W.fnOf "outcome" "outcome" (defArgs N_outcome.st) (defBody N_outcome.st) (defScope N_outcome.st) .none kV_outcome dc_outcome pm_outcome an_outcome cd_outcome ct_outcome), sl_outcome⟩)
    (c_d_outcome : PySem.W.codeIn K cd_outcome "outcome" = true)
    (k_outcome : PySem.W.keepIn K (.ref a_outcome) = true)
    {a_behind : Addr} {od_behind an_behind : Option Addr} {sl_behind : Array (Option Value)} {oc_behind kV_behind dc_behind pm_behind cd_behind ct_behind : Value}
    (n_behind : PySem.W.nsIn K mainGlobals "behind" = some (some (.ref a_behind)))
    (l_behind : K.lookup a_behind = some ⟨oc_behind, od_behind, .func (PySem.W.fnOf "behind" "behind" (defArgs N_behind.st) (defBody N_behind.st) (defScope N_behind.st) .none kV_behind dc_behind pm_behind an_behind cd_behind ct_behind), sl_behind⟩)
    (c_d_behind : PySem.W.codeIn K cd_behind "behind" = true)
    (k_behind : PySem.W.keepIn K (.ref a_behind) = true)
    {a__is_possible : Addr} {od__is_possible an__is_possible : Option Addr} {sl__is_possible : Array (Option Value)} {oc__is_possible kV__is_possible dc__is_possible pm__is_possible cd__is_possible ct__is_possible : Value}
    (n__is_possible : PySem.W.nsIn K mainGlobals "_is_possible" = some (some (.ref a__is_possible)))
    (l__is_possible : K.lookup a__is_possible = some ⟨oc__is_possible, od__is_possible, .func (PySem.W.fnOf "_is_possible" "_is_possible" (defArgs N__is_possible.st) (defBody N__is_possible.st) (defScope N__is_possible.st) .none kV__is_possible dc__is_possible pm__is_possible an__is_possible cd__is_possible ct__is_possible), sl__is_possible⟩)
    (c_d__is_possible : PySem.W.codeIn K cd__is_possible "_is_possible" = true)
    (k__is_possible : PySem.W.keepIn K (.ref a__is_possible) = true)
    {a_is_scenario : Addr} {od_is_scenario an_is_scenario : Option Addr} {sl_is_scenario : Array (Option Value)} {oc_is_scenario kV_is_scenario dc_is_scenario pm_is_scenario cd_is_scenario ct_is_scenario : Value}
    (n_is_scenario : PySem.W.nsIn K mainGlobals "is_scenario" = some (some (.ref a_is_scenario)))
    (l_is_scenario : K.lookup a_is_scenario = some ⟨oc_is_scenario, od_is_scenario, .func (PySem.W.fnOf "is_scenario" "is_scenario" (defArgs N_is_scenario.st) (defBody N_is_scenario.st) (defScope N_is_scenario.st) .none kV_is_scenario dc_is_scenario pm_is_scenario an_is_scenario cd_is_scenario ct_is_scenario), sl_is_scenario⟩)
    (c_d_is_scenario : PySem.W.codeIn K cd_is_scenario "is_scenario" = true)
    (k_is_scenario : PySem.W.keepIn K (.ref a_is_scenario) = true)
    {a__in_order : Addr} {od__in_order an__in_order : Option Addr} {sl__in_order : Array (Option Value)} {oc__in_order kV__in_order dc__in_order pm__in_order cd__in_order ct__in_order : Value}
    (n__in_order : PySem.W.nsIn K mainGlobals "_in_order" = some (some (.ref a__in_order)))
    (l__in_order : K.lookup a__in_order = some ⟨oc__in_order, od__in_order, .func (PySem.W.fnOf "_in_order" "_in_order" (defArgs N__in_order.st) (defBody N__in_order.st) (defScope N__in_order.st) .none kV__in_order dc__in_order pm__in_order an__in_order cd__in_order ct__in_order), sl__in_order⟩)
    (c_d__in_order : PySem.W.codeIn K cd__in_order "_in_order" = true)
    (k__in_order : PySem.W.keepIn K (.ref a__in_order) = true)
    {a_Setup___init__ : Addr} {od_Setup___init__ an_Setup___init__ : Option Addr} {sl_Setup___init__ : Array (Option Value)} {oc_Setup___init__ kV_Setup___init__ dc_Setup___init__ pm_Setup___init__ cd_Setup___init__ ct_Setup___init__ : Value}
    (i_Setup___init__ : PySem.W.findIn K (.ref a_Setup) "__init__" = some (some (.ref a_Setup___init__)))
    (f_n_Setup___init__ : PySem.W.isFn K (.ref a_Setup___init__) = true)
    (l_Setup___init__ : K.lookup a_Setup___init__ = some ⟨oc_Setup___init__, od_Setup___init__, .func (PySem.W.fnOf "__init__" "Setup.__init__" (defArgs N_Setup___init__.st) (defBody N_Setup___init__.st) (defScope N_Setup___init__.st) .none kV_Setup___init__ dc_Setup___init__ pm_Setup___init__ an_Setup___init__ cd_Setup___init__ ct_Setup___init__), sl_Setup___init__⟩)
    (c_d_Setup___init__ : PySem.W.codeIn K cd_Setup___init__ "Setup.__init__" = true)
    (k_Setup___init__ : PySem.W.keepIn K (.ref a_Setup___init__) = true)
    {a__law_cell : Addr} {od__law_cell an__law_cell : Option Addr} {sl__law_cell : Array (Option Value)} {oc__law_cell kV__law_cell dc__law_cell pm__law_cell cd__law_cell ct__law_cell : Value}
    (n__law_cell : PySem.W.nsIn K mainGlobals "_law_cell" = some (some (.ref a__law_cell)))
    (l__law_cell : K.lookup a__law_cell = some ⟨oc__law_cell, od__law_cell, .func (PySem.W.fnOf "_law_cell" "_law_cell" (defArgs N__law_cell.st) (defBody N__law_cell.st) (defScope N__law_cell.st) .none kV__law_cell dc__law_cell pm__law_cell an__law_cell cd__law_cell ct__law_cell), sl__law_cell⟩)
    (c_d__law_cell : PySem.W.codeIn K cd__law_cell "_law_cell" = true)
    (k__law_cell : PySem.W.keepIn K (.ref a__law_cell) = true)
    {a__law_row : Addr} {od__law_row an__law_row : Option Addr} {sl__law_row : Array (Option Value)} {oc__law_row kV__law_row dc__law_row pm__law_row cd__law_row ct__law_row : Value}
    (n__law_row : PySem.W.nsIn K mainGlobals "_law_row" = some (some (.ref a__law_row)))
    (l__law_row : K.lookup a__law_row = some ⟨oc__law_row, od__law_row, .func (PySem.W.fnOf "_law_row" "_law_row" (defArgs N__law_row.st) (defBody N__law_row.st) (defScope N__law_row.st) .none kV__law_row dc__law_row pm__law_row an__law_row cd__law_row ct__law_row), sl__law_row⟩)
    (c_d__law_row : PySem.W.codeIn K cd__law_row "_law_row" = true)
    (k__law_row : PySem.W.keepIn K (.ref a__law_row) = true)
    {a__law_draw : Addr} {od__law_draw an__law_draw : Option Addr} {sl__law_draw : Array (Option Value)} {oc__law_draw kV__law_draw dc__law_draw pm__law_draw cd__law_draw ct__law_draw : Value}
    (n__law_draw : PySem.W.nsIn K mainGlobals "_law_draw" = some (some (.ref a__law_draw)))
    (l__law_draw : K.lookup a__law_draw = some ⟨oc__law_draw, od__law_draw, .func (PySem.W.fnOf "_law_draw" "_law_draw" (defArgs N__law_draw.st) (defBody N__law_draw.st) (defScope N__law_draw.st) .none kV__law_draw dc__law_draw pm__law_draw an__law_draw cd__law_draw ct__law_draw), sl__law_draw⟩)
    (c_d__law_draw : PySem.W.codeIn K cd__law_draw "_law_draw" = true)
    (k__law_draw : PySem.W.keepIn K (.ref a__law_draw) = true)
    {a__law_some : Addr} {od__law_some an__law_some : Option Addr} {sl__law_some : Array (Option Value)} {oc__law_some kV__law_some dc__law_some pm__law_some cd__law_some ct__law_some : Value}
    (n__law_some : PySem.W.nsIn K mainGlobals "_law_some" = some (some (.ref a__law_some)))
    (l__law_some : K.lookup a__law_some = some ⟨oc__law_some, od__law_some, .func (PySem.W.fnOf "_law_some" "_law_some" (defArgs N__law_some.st) (defBody N__law_some.st) (defScope N__law_some.st) .none kV__law_some dc__law_some pm__law_some an__law_some cd__law_some ct__law_some), sl__law_some⟩)
    (c_d__law_some : PySem.W.codeIn K cd__law_some "_law_some" = true)
    (k__law_some : PySem.W.keepIn K (.ref a__law_some) = true)
    {a__law_kinds : Addr} {od__law_kinds an__law_kinds : Option Addr} {sl__law_kinds : Array (Option Value)} {oc__law_kinds kV__law_kinds dc__law_kinds pm__law_kinds cd__law_kinds ct__law_kinds : Value}
    (n__law_kinds : PySem.W.nsIn K mainGlobals "_law_kinds" = some (some (.ref a__law_kinds)))
    (l__law_kinds : K.lookup a__law_kinds = some ⟨oc__law_kinds, od__law_kinds, .func (PySem.W.fnOf "_law_kinds" "_law_kinds" (defArgs N__law_kinds.st) (defBody N__law_kinds.st) (defScope N__law_kinds.st) .none kV__law_kinds dc__law_kinds pm__law_kinds an__law_kinds cd__law_kinds ct__law_kinds), sl__law_kinds⟩)
    (c_d__law_kinds : PySem.W.codeIn K cd__law_kinds "_law_kinds" = true)
    (k__law_kinds : PySem.W.keepIn K (.ref a__law_kinds) = true)
    {a__law_setup : Addr} {od__law_setup an__law_setup : Option Addr} {sl__law_setup : Array (Option Value)} {oc__law_setup kV__law_setup dc__law_setup pm__law_setup cd__law_setup ct__law_setup : Value}
    (n__law_setup : PySem.W.nsIn K mainGlobals "_law_setup" = some (some (.ref a__law_setup)))
    (l__law_setup : K.lookup a__law_setup = some ⟨oc__law_setup, od__law_setup, .func (PySem.W.fnOf "_law_setup" "_law_setup" (defArgs N__law_setup.st) (defBody N__law_setup.st) (defScope N__law_setup.st) .none kV__law_setup dc__law_setup pm__law_setup an__law_setup cd__law_setup ct__law_setup), sl__law_setup⟩)
    (c_d__law_setup : PySem.W.codeIn K cd__law_setup "_law_setup" = true)
    (k__law_setup : PySem.W.keepIn K (.ref a__law_setup) = true)
    {a__law_troubles : Addr} {od__law_troubles an__law_troubles : Option Addr} {sl__law_troubles : Array (Option Value)} {oc__law_troubles kV__law_troubles dc__law_troubles pm__law_troubles cd__law_troubles ct__law_troubles : Value}
    (n__law_troubles : PySem.W.nsIn K mainGlobals "_law_troubles" = some (some (.ref a__law_troubles)))
    (l__law_troubles : K.lookup a__law_troubles = some ⟨oc__law_troubles, od__law_troubles, .func (PySem.W.fnOf "_law_troubles" "_law_troubles" (defArgs N__law_troubles.st) (defBody N__law_troubles.st) (defScope N__law_troubles.st) .none kV__law_troubles dc__law_troubles pm__law_troubles an__law_troubles cd__law_troubles ct__law_troubles), sl__law_troubles⟩)
    (c_d__law_troubles : PySem.W.codeIn K cd__law_troubles "_law_troubles" = true)
    (k__law_troubles : PySem.W.keepIn K (.ref a__law_troubles) = true)
    {a__law_made : Addr} {od__law_made an__law_made : Option Addr} {sl__law_made : Array (Option Value)} {oc__law_made kV__law_made dc__law_made pm__law_made cd__law_made ct__law_made : Value}
    (n__law_made : PySem.W.nsIn K mainGlobals "_law_made" = some (some (.ref a__law_made)))
    (l__law_made : K.lookup a__law_made = some ⟨oc__law_made, od__law_made, .func (PySem.W.fnOf "_law_made" "_law_made" (defArgs N__law_made.st) (defBody N__law_made.st) (defScope N__law_made.st) .none kV__law_made dc__law_made pm__law_made an__law_made cd__law_made ct__law_made), sl__law_made⟩)
    (c_d__law_made : PySem.W.codeIn K cd__law_made "_law_made" = true)
    (k__law_made : PySem.W.keepIn K (.ref a__law_made) = true)
    {a__law_reaches : Addr} {od__law_reaches an__law_reaches : Option Addr} {sl__law_reaches : Array (Option Value)} {oc__law_reaches kV__law_reaches dc__law_reaches pm__law_reaches cd__law_reaches ct__law_reaches : Value}
    (n__law_reaches : PySem.W.nsIn K mainGlobals "_law_reaches" = some (some (.ref a__law_reaches)))
    (l__law_reaches : K.lookup a__law_reaches = some ⟨oc__law_reaches, od__law_reaches, .func (PySem.W.fnOf "_law_reaches" "_law_reaches" (defArgs N__law_reaches.st) (defBody N__law_reaches.st) (defScope N__law_reaches.st) .none kV__law_reaches dc__law_reaches pm__law_reaches an__law_reaches cd__law_reaches ct__law_reaches), sl__law_reaches⟩)
    (c_d__law_reaches : PySem.W.codeIn K cd__law_reaches "_law_reaches" = true)
    (k__law_reaches : PySem.W.keepIn K (.ref a__law_reaches) = true)
    {a__law_signal : Addr} {od__law_signal an__law_signal : Option Addr} {sl__law_signal : Array (Option Value)} {oc__law_signal kV__law_signal dc__law_signal pm__law_signal cd__law_signal ct__law_signal : Value}
    (n__law_signal : PySem.W.nsIn K mainGlobals "_law_signal" = some (some (.ref a__law_signal)))
    (l__law_signal : K.lookup a__law_signal = some ⟨oc__law_signal, od__law_signal, .func (PySem.W.fnOf "_law_signal" "_law_signal" (defArgs N__law_signal.st) (defBody N__law_signal.st) (defScope N__law_signal.st) .none kV__law_signal dc__law_signal pm__law_signal an__law_signal cd__law_signal ct__law_signal), sl__law_signal⟩)
    (c_d__law_signal : PySem.W.codeIn K cd__law_signal "_law_signal" = true)
    (k__law_signal : PySem.W.keepIn K (.ref a__law_signal) = true)
    {a__law_ways : Addr} {od__law_ways an__law_ways : Option Addr} {sl__law_ways : Array (Option Value)} {oc__law_ways kV__law_ways dc__law_ways pm__law_ways cd__law_ways ct__law_ways : Value}
    (n__law_ways : PySem.W.nsIn K mainGlobals "_law_ways" = some (some (.ref a__law_ways)))
    (l__law_ways : K.lookup a__law_ways = some ⟨oc__law_ways, od__law_ways, .func (PySem.W.fnOf "_law_ways" "_law_ways" (defArgs N__law_ways.st) (defBody N__law_ways.st) (defScope N__law_ways.st) .none kV__law_ways dc__law_ways pm__law_ways an__law_ways cd__law_ways ct__law_ways), sl__law_ways⟩)
    (c_d__law_ways : PySem.W.codeIn K cd__law_ways "_law_ways" = true)
    (k__law_ways : PySem.W.keepIn K (.ref a__law_ways) = true)
    {a__law_targets : Addr} {od__law_targets an__law_targets : Option Addr} {sl__law_targets : Array (Option Value)} {oc__law_targets kV__law_targets dc__law_targets pm__law_targets cd__law_targets ct__law_targets : Value}
    (n__law_targets : PySem.W.nsIn K mainGlobals "_law_targets" = some (some (.ref a__law_targets)))
    (l__law_targets : K.lookup a__law_targets = some ⟨oc__law_targets, od__law_targets, .func (PySem.W.fnOf "_law_targets" "_law_targets" (defArgs N__law_targets.st) (defBody N__law_targets.st) (defScope N__law_targets.st) .none kV__law_targets dc__law_targets pm__law_targets an__law_targets cd__law_targets ct__law_targets), sl__law_targets⟩)
    (c_d__law_targets : PySem.W.codeIn K cd__law_targets "_law_targets" = true)
    (k__law_targets : PySem.W.keepIn K (.ref a__law_targets) = true)
    {a__law_turns_at : Addr} {od__law_turns_at an__law_turns_at : Option Addr} {sl__law_turns_at : Array (Option Value)} {oc__law_turns_at kV__law_turns_at dc__law_turns_at pm__law_turns_at cd__law_turns_at ct__law_turns_at : Value}
    (n__law_turns_at : PySem.W.nsIn K mainGlobals "_law_turns_at" = some (some (.ref a__law_turns_at)))
    (l__law_turns_at : K.lookup a__law_turns_at = some ⟨oc__law_turns_at, od__law_turns_at, .func (PySem.W.fnOf "_law_turns_at" "_law_turns_at" (defArgs N__law_turns_at.st) (defBody N__law_turns_at.st) (defScope N__law_turns_at.st) .none kV__law_turns_at dc__law_turns_at pm__law_turns_at an__law_turns_at cd__law_turns_at ct__law_turns_at), sl__law_turns_at⟩)
    (c_d__law_turns_at : PySem.W.codeIn K cd__law_turns_at "_law_turns_at" = true)
    (k__law_turns_at : PySem.W.keepIn K (.ref a__law_turns_at) = true)
    {a__law_turns : Addr} {od__law_turns an__law_turns : Option Addr} {sl__law_turns : Array (Option Value)} {oc__law_turns kV__law_turns dc__law_turns pm__law_turns cd__law_turns ct__law_turns : Value}
    (n__law_turns : PySem.W.nsIn K mainGlobals "_law_turns" = some (some (.ref a__law_turns)))
    (l__law_turns : K.lookup a__law_turns = some ⟨oc__law_turns, od__law_turns, .func (PySem.W.fnOf "_law_turns" "_law_turns" (defArgs N__law_turns.st) (defBody N__law_turns.st) (defScope N__law_turns.st) .none kV__law_turns dc__law_turns pm__law_turns an__law_turns cd__law_turns ct__law_turns), sl__law_turns⟩)
    (c_d__law_turns : PySem.W.codeIn K cd__law_turns "_law_turns" = true)
    (k__law_turns : PySem.W.keepIn K (.ref a__law_turns) = true)
    {a__law_situation : Addr} {od__law_situation an__law_situation : Option Addr} {sl__law_situation : Array (Option Value)} {oc__law_situation kV__law_situation dc__law_situation pm__law_situation cd__law_situation ct__law_situation : Value}
    (n__law_situation : PySem.W.nsIn K mainGlobals "_law_situation" = some (some (.ref a__law_situation)))
    (l__law_situation : K.lookup a__law_situation = some ⟨oc__law_situation, od__law_situation, .func (PySem.W.fnOf "_law_situation" "_law_situation" (defArgs N__law_situation.st) (defBody N__law_situation.st) (defScope N__law_situation.st) .none kV__law_situation dc__law_situation pm__law_situation an__law_situation cd__law_situation ct__law_situation), sl__law_situation⟩)
    (c_d__law_situation : PySem.W.codeIn K cd__law_situation "_law_situation" = true)
    (k__law_situation : PySem.W.keepIn K (.ref a__law_situation) = true)
    {a__law_behind : Addr} {od__law_behind an__law_behind : Option Addr} {sl__law_behind : Array (Option Value)} {oc__law_behind kV__law_behind dc__law_behind pm__law_behind cd__law_behind ct__law_behind : Value}
    (n__law_behind : PySem.W.nsIn K mainGlobals "_law_behind" = some (some (.ref a__law_behind)))
    (l__law_behind : K.lookup a__law_behind = some ⟨oc__law_behind, od__law_behind, .func (PySem.W.fnOf "_law_behind" "_law_behind" (defArgs N__law_behind.st) (defBody N__law_behind.st) (defScope N__law_behind.st) .none kV__law_behind dc__law_behind pm__law_behind an__law_behind cd__law_behind ct__law_behind), sl__law_behind⟩)
    (c_d__law_behind : PySem.W.codeIn K cd__law_behind "_law_behind" = true)
    (k__law_behind : PySem.W.keepIn K (.ref a__law_behind) = true)
    {a__law_scenario : Addr} {od__law_scenario an__law_scenario : Option Addr} {sl__law_scenario : Array (Option Value)} {oc__law_scenario kV__law_scenario dc__law_scenario pm__law_scenario cd__law_scenario ct__law_scenario : Value}
    (n__law_scenario : PySem.W.nsIn K mainGlobals "_law_scenario" = some (some (.ref a__law_scenario)))
    (l__law_scenario : K.lookup a__law_scenario = some ⟨oc__law_scenario, od__law_scenario, .func (PySem.W.fnOf "_law_scenario" "_law_scenario" (defArgs N__law_scenario.st) (defBody N__law_scenario.st) (defScope N__law_scenario.st) .none kV__law_scenario dc__law_scenario pm__law_scenario an__law_scenario cd__law_scenario ct__law_scenario), sl__law_scenario⟩)
    (c_d__law_scenario : PySem.W.codeIn K cd__law_scenario "_law_scenario" = true)
    (k__law_scenario : PySem.W.keepIn K (.ref a__law_scenario) = true)
    {a__law_is_scenario : Addr} {od__law_is_scenario an__law_is_scenario : Option Addr} {sl__law_is_scenario : Array (Option Value)} {oc__law_is_scenario kV__law_is_scenario dc__law_is_scenario pm__law_is_scenario cd__law_is_scenario ct__law_is_scenario : Value}
    (n__law_is_scenario : PySem.W.nsIn K mainGlobals "_law_is_scenario" = some (some (.ref a__law_is_scenario)))
    (l__law_is_scenario : K.lookup a__law_is_scenario = some ⟨oc__law_is_scenario, od__law_is_scenario, .func (PySem.W.fnOf "_law_is_scenario" "_law_is_scenario" (defArgs N__law_is_scenario.st) (defBody N__law_is_scenario.st) (defScope N__law_is_scenario.st) .none kV__law_is_scenario dc__law_is_scenario pm__law_is_scenario an__law_is_scenario cd__law_is_scenario ct__law_is_scenario), sl__law_is_scenario⟩)
    (c_d__law_is_scenario : PySem.W.codeIn K cd__law_is_scenario "_law_is_scenario" = true)
    (k__law_is_scenario : PySem.W.keepIn K (.ref a__law_is_scenario) = true)
    {a__law_all : Addr} {od__law_all an__law_all : Option Addr} {sl__law_all : Array (Option Value)} {oc__law_all kV__law_all dc__law_all pm__law_all cd__law_all ct__law_all : Value}
    (n__law_all : PySem.W.nsIn K mainGlobals "_law_all" = some (some (.ref a__law_all)))
    (l__law_all : K.lookup a__law_all = some ⟨oc__law_all, od__law_all, .func (PySem.W.fnOf "_law_all" "_law_all" (defArgs N__law_all.st) (defBody N__law_all.st) (defScope N__law_all.st) .none kV__law_all dc__law_all pm__law_all an__law_all cd__law_all ct__law_all), sl__law_all⟩)
    (c_d__law_all : PySem.W.codeIn K cd__law_all "_law_all" = true)
    (k__law_all : PySem.W.keepIn K (.ref a__law_all) = true)
    {a__law_spoiled : Addr} {od__law_spoiled an__law_spoiled : Option Addr} {sl__law_spoiled : Array (Option Value)} {oc__law_spoiled kV__law_spoiled dc__law_spoiled pm__law_spoiled cd__law_spoiled ct__law_spoiled : Value}
    (n__law_spoiled : PySem.W.nsIn K mainGlobals "_law_spoiled" = some (some (.ref a__law_spoiled)))
    (l__law_spoiled : K.lookup a__law_spoiled = some ⟨oc__law_spoiled, od__law_spoiled, .func (PySem.W.fnOf "_law_spoiled" "_law_spoiled" (defArgs N__law_spoiled.st) (defBody N__law_spoiled.st) (defScope N__law_spoiled.st) .none kV__law_spoiled dc__law_spoiled pm__law_spoiled an__law_spoiled cd__law_spoiled ct__law_spoiled), sl__law_spoiled⟩)
    (c_d__law_spoiled : PySem.W.codeIn K cd__law_spoiled "_law_spoiled" = true)
    (k__law_spoiled : PySem.W.keepIn K (.ref a__law_spoiled) = true)
    {a_law : Addr} {od_law an_law : Option Addr} {sl_law : Array (Option Value)} {oc_law kV_law dc_law pm_law cd_law ct_law : Value}
    (n_law : PySem.W.nsIn K mainGlobals "law" = some (some (.ref a_law)))
    (l_law : K.lookup a_law = some ⟨oc_law, od_law, .func (PySem.W.fnOf "law" "law" (defArgs N_law.st) (defBody N_law.st) (defScope N_law.st) .none kV_law dc_law pm_law an_law cd_law ct_law), sl_law⟩)
    (c_d_law : PySem.W.codeIn K cd_law "law" = true)
    (k_law : PySem.W.keepIn K (.ref a_law) = true) {nM : Nat} (hl : ∀ ns : List Int, ns.length ≤ nM → ∃ es, f_law [.rol (ns.map D.int)] = .ok (.bl true) es) :
    ∃ fd : FuncData, (∀ (s : Shared) (v : Value), BindsTo s fd ⟨[v], []⟩ [("_law_script", v)]) ∧ ∀ base : Heap, K.In base → base.Ns mainGlobals mg → FnOk P w K mg base (L2.CX P w) 9 fa fd ["_law_script"] (spL nM K) := by
  have nb : NoB mg := ⟨PySem.W.mg_none_of X G z_isinstance, PySem.W.mg_none_of X G z_len, PySem.W.mg_none_of X G z_abs, PySem.W.mg_none_of X G z_int, PySem.W.mg_none_of X G z_tuple, PySem.W.mg_none_of X G z_list, PySem.W.mg_none_of X G z_all, PySem.W.mg_none_of X G z_any, PySem.W.mg_none_of X G z_sorted, PySem.W.mg_none_of X G z_sum, PySem.W.mg_none_of X G z_bool, PySem.W.mg_none_of X G z_str, PySem.W.mg_none_of X G z_range, PySem.W.mg_none_of X G z_zip, PySem.W.mg_none_of X G z_enumerate⟩
  have g_CANCEL : GK K mg "CANCEL" c_CANCEL := ⟨_, _, PySem.W.mg_of X G n_CANCEL, (.int _ _)⟩
  have g_CURRENT : GK K mg "CURRENT" c_CURRENT := ⟨_, _, PySem.W.mg_of X G n_CURRENT, (.int _ _)⟩
  have g_DROP : GK K mg "DROP" c_DROP := ⟨_, _, PySem.W.mg_of X G n_DROP, (.int _ _)⟩
  have kr_END : KRep K (.tup [.str "end", .str "outside", .bl false, .str "none"]) (.ref a_END) (.ref a_END) := krep_tup (n := nn_END) l_END rfl rfl rfl (by rw [sizeLine_eq]; exact (by decide : 4 ≤ 16777216)) (.cons (.str _ _) (.cons (.str _ _) (.cons (.bl _) (.cons (.str _ _) .nil))))
  have g_END : GK K mg "END" c_END := ⟨_, _, PySem.W.mg_of X G n_END, kr_END⟩
  have kr_KINDS : KRep K (.tup [.str "enter", .str "leave", .str "over", .str "drop", .str "end"]) (.ref a_KINDS) (.ref a_KINDS) := krep_tup (n := nn_KINDS) l_KINDS rfl rfl rfl (by rw [sizeLine_eq]; exact (by decide : 5 ≤ 16777216)) (.cons (.str _ _) (.cons (.str _ _) (.cons (.str _ _) (.cons (.str _ _) (.cons (.str _ _) .nil)))))
  have g_KINDS : GK K mg "KINDS" c_KINDS := ⟨_, _, PySem.W.mg_of X G n_KINDS, kr_KINDS⟩
  have g_OUT : GK K mg "OUT" c_OUT := ⟨_, _, PySem.W.mg_of X G n_OUT, (.int _ _)⟩
  have kr_PLACES : KRep K (.tup [.str "zone", .str "root", .str "capture"]) (.ref a_PLACES) (.ref a_PLACES) := krep_tup (n := nn_PLACES) l_PLACES rfl rfl rfl (by rw [sizeLine_eq]; exact (by decide : 3 ≤ 16777216)) (.cons (.str _ _) (.cons (.str _ _) (.cons (.str _ _) .nil)))
  have g_PLACES : GK K mg "PLACES" c_PLACES := ⟨_, _, PySem.W.mg_of X G n_PLACES, kr_PLACES⟩
  have g_POINT : GK K mg "POINT" c_POINT := ⟨_, _, PySem.W.mg_of X G n_POINT, (.int _ _)⟩
  have kr_SIDE_OF : KRep K (.tup [.str "none", .str "outside", .str "inside", .str "zone"]) (.ref a_SIDE_OF) (.ref a_SIDE_OF) := krep_tup (n := nn_SIDE_OF) l_SIDE_OF rfl rfl rfl (by rw [sizeLine_eq]; exact (by decide : 4 ≤ 16777216)) (.cons (.str _ _) (.cons (.str _ _) (.cons (.str _ _) (.cons (.str _ _) .nil))))
  have g_SIDE_OF : GK K mg "SIDE_OF" c_SIDE_OF := ⟨_, _, PySem.W.mg_of X G n_SIDE_OF, kr_SIDE_OF⟩
  have kr_SIGHTS : KRep K (.tup [.str "own", .str "same", .str "related"]) (.ref a_SIGHTS) (.ref a_SIGHTS) := krep_tup (n := nn_SIGHTS) l_SIGHTS rfl rfl rfl (by rw [sizeLine_eq]; exact (by decide : 3 ≤ 16777216)) (.cons (.str _ _) (.cons (.str _ _) (.cons (.str _ _) .nil)))
  have g_SIGHTS : GK K mg "SIGHTS" c_SIGHTS := ⟨_, _, PySem.W.mg_of X G n_SIGHTS, kr_SIGHTS⟩
  have g_SILENT_CANCEL : GK K mg "SILENT_CANCEL" c_SILENT_CANCEL := ⟨_, _, PySem.W.mg_of X G n_SILENT_CANCEL, (.int _ _)⟩
  have g_SILENT_DROP : GK K mg "SILENT_DROP" c_SILENT_DROP := ⟨_, _, PySem.W.mg_of X G n_SILENT_DROP, (.int _ _)⟩
  have g_SLIP : GK K mg "SLIP" c_SLIP := ⟨_, _, PySem.W.mg_of X G n_SLIP, (.int _ _)⟩
  have kr_START : KRep K (.tup [.int 0, .int 0]) (.ref a_START) (.ref a_START) := krep_tup (n := nn_START) l_START rfl rfl rfl (by rw [sizeLine_eq]; exact (by decide : 2 ≤ 16777216)) (.cons (.int _ _) (.cons (.int _ _) .nil))
  have g_START : GK K mg "START" c_START := ⟨_, _, PySem.W.mg_of X G n_START, kr_START⟩
  have dg : DgTxt P K mg eC fI := dg_mk X G dtop daC daS dop dxL (along_ve K) dve dsa dga dgg dnN diC dtC dkC dex dty dhd dic dsc dlf dcd dcda_ dvs_ dfi dcc_ (by decide)
  have g_Ear := PySem.W.mg_of X G n_Ear
  have cl_Ear : Cls K a_Ear := ⟨pg_Ear, hd_Ear, po_Ear, sa_Ear⟩
  have g_Meeting := PySem.W.mg_of X G n_Meeting
  have cl_Meeting : Cls K a_Meeting := ⟨pg_Meeting, hd_Meeting, po_Meeting, sa_Meeting⟩
  have g_Setup := PySem.W.mg_of X G n_Setup
  have cl_Setup : Cls K a_Setup := ⟨pg_Setup, hd_Setup, po_Setup, sa_Setup⟩
  have fc_Ear_count : ∀ C, mg "Ear" = some (.ref C) → Cls K C ∧ NoAttr K C "count" := fun C e => by cases g_Ear.symm.trans e; exact ⟨⟨pg_Ear, hd_Ear, po_Ear, sa_Ear⟩, no_Ear_count⟩
  have fc_Ear_entered : ∀ C, mg "Ear" = some (.ref C) → Cls K C ∧ NoAttr K C "entered" := fun C e => by cases g_Ear.symm.trans e; exact ⟨⟨pg_Ear, hd_Ear, po_Ear, sa_Ear⟩, no_Ear_entered⟩
  have fc_Ear_setup : ∀ C, mg "Ear" = some (.ref C) → Cls K C ∧ NoAttr K C "setup" := fun C e => by cases g_Ear.symm.trans e; exact ⟨⟨pg_Ear, hd_Ear, po_Ear, sa_Ear⟩, no_Ear_setup⟩
  have fc_Ear_signals : ∀ C, mg "Ear" = some (.ref C) → Cls K C ∧ NoAttr K C "signals" := fun C e => by cases g_Ear.symm.trans e; exact ⟨⟨pg_Ear, hd_Ear, po_Ear, sa_Ear⟩, no_Ear_signals⟩
  have fc_Ear_stops : ∀ C, mg "Ear" = some (.ref C) → Cls K C ∧ NoAttr K C "stops" := fun C e => by cases g_Ear.symm.trans e; exact ⟨⟨pg_Ear, hd_Ear, po_Ear, sa_Ear⟩, no_Ear_stops⟩
  have fc_Meeting_ear : ∀ C, mg "Meeting" = some (.ref C) → Cls K C ∧ NoAttr K C "ear" := fun C e => by cases g_Meeting.symm.trans e; exact ⟨⟨pg_Meeting, hd_Meeting, po_Meeting, sa_Meeting⟩, no_Meeting_ear⟩
  have fc_Meeting_last : ∀ C, mg "Meeting" = some (.ref C) → Cls K C ∧ NoAttr K C "last" := fun C e => by cases g_Meeting.symm.trans e; exact ⟨⟨pg_Meeting, hd_Meeting, po_Meeting, sa_Meeting⟩, no_Meeting_last⟩
  have fc_Meeting_over : ∀ C, mg "Meeting" = some (.ref C) → Cls K C ∧ NoAttr K C "over" := fun C e => by cases g_Meeting.symm.trans e; exact ⟨⟨pg_Meeting, hd_Meeting, po_Meeting, sa_Meeting⟩, no_Meeting_over⟩
  have fc_Meeting_target : ∀ C, mg "Meeting" = some (.ref C) → Cls K C ∧ NoAttr K C "target" := fun C e => by cases g_Meeting.symm.trans e; exact ⟨⟨pg_Meeting, hd_Meeting, po_Meeting, sa_Meeting⟩, no_Meeting_target⟩
  have fc_Meeting_tick : ∀ C, mg "Meeting" = some (.ref C) → Cls K C ∧ NoAttr K C "tick" := fun C e => by cases g_Meeting.symm.trans e; exact ⟨⟨pg_Meeting, hd_Meeting, po_Meeting, sa_Meeting⟩, no_Meeting_tick⟩
  have fc_Setup_kinds : ∀ C, mg "Setup" = some (.ref C) → Cls K C ∧ NoAttr K C "kinds" := fun C e => by cases g_Setup.symm.trans e; exact ⟨⟨pg_Setup, hd_Setup, po_Setup, sa_Setup⟩, no_Setup_kinds⟩
  have fc_Setup_place : ∀ C, mg "Setup" = some (.ref C) → Cls K C ∧ NoAttr K C "place" := fun C e => by cases g_Setup.symm.trans e; exact ⟨⟨pg_Setup, hd_Setup, po_Setup, sa_Setup⟩, no_Setup_place⟩
  have fc_Setup_sights : ∀ C, mg "Setup" = some (.ref C) → Cls K C ∧ NoAttr K C "sights" := fun C e => by cases g_Setup.symm.trans e; exact ⟨⟨pg_Setup, hd_Setup, po_Setup, sa_Setup⟩, no_Setup_sights⟩
  have g_reaches := PySem.W.mg_of X G n_reaches
  have F_reaches := fun_mk (st := N_reaches.st) l_reaches c_d_reaches k_reaches
  have b_reaches := F_reaches.binds (ps := ["place", "side", "is_root", "stopped"]) fun _ _ _ _ _ _ us hl => match us, hl with | [_, _, _, _], _ => rfl
  have g__plain := PySem.W.mg_of X G n__plain
  have F__plain := fun_mk (st := N__plain.st) l__plain c_d__plain k__plain
  have b__plain := F__plain.binds (ps := ["side"]) fun _ _ _ _ _ _ us hl => match us, hl with | [_], _ => rfl
  have g_signal_of := PySem.W.mg_of X G n_signal_of
  have F_signal_of := fun_mk (st := N_signal_of.st) l_signal_of c_d_signal_of k_signal_of
  have b_signal_of := F_signal_of.binds (ps := ["setup", "kind", "side", "same", "related"]) fun _ _ _ _ _ _ us hl => match us, hl with | [_, _, _, _, _], _ => rfl
  have g_hears_end := PySem.W.mg_of X G n_hears_end
  have F_hears_end := fun_mk (st := N_hears_end.st) l_hears_end c_d_hears_end k_hears_end
  have b_hears_end := F_hears_end.binds (ps := ["setup"]) fun _ _ _ _ _ _ us hl => match us, hl with | [_], _ => rfl
  have mk_Ear : Mk K a_Ear a_Ear___init__ := ⟨mk0_Ear, i_Ear___init__, f_n_Ear___init__, kc_Ear⟩
  have F_Ear___init__ := fun_mk (st := N_Ear___init__.st) l_Ear___init__ c_d_Ear___init__ k_Ear___init__
  have b_Ear___init__ := F_Ear___init__.binds (ps := ["self", "setup", "entered", "stops"]) fun _ _ _ _ _ _ us hl => match us, hl with | [_, _, _, _], _ => rfl
  have F_Ear_event := fun_mk (st := N_Ear_event.st) l_Ear_event c_d_Ear_event k_Ear_event
  have me_Ear_event : Meth K a_Ear "event" a_Ear_event := ⟨i_Ear_event, f_n_Ear_event, k_Ear_event⟩
  have b_Ear_event := F_Ear_event.binds (ps := ["self", "kind", "target", "side", "related", "is_root"]) fun _ _ _ _ _ _ us hl => match us, hl with | [_, _, _, _, _, _], _ => rfl
  have F_Ear_end := fun_mk (st := N_Ear_end.st) l_Ear_end c_d_Ear_end k_Ear_end
  have me_Ear_end : Meth K a_Ear "end" a_Ear_end := ⟨i_Ear_end, f_n_Ear_end, k_Ear_end⟩
  have b_Ear_end := F_Ear_end.binds (ps := ["self"]) fun _ _ _ _ _ _ us hl => match us, hl with | [_], _ => rfl
  have g__led := PySem.W.mg_of X G n__led
  have F__led := fun_mk (st := N__led.st) l__led c_d__led k__led
  have b__led := F__led.binds (ps := ["number", "troubles"]) fun _ _ _ _ _ _ us hl => match us, hl with | [_, _], _ => rfl
  have g_changed := PySem.W.mg_of X G n_changed
  have F_changed := fun_mk (st := N_changed.st) l_changed c_d_changed k_changed
  have b_changed := F_changed.binds (ps := ["situation", "troubles"]) fun _ _ _ _ _ _ us hl => match us, hl with | [_, _], _ => rfl
  have g__targets := PySem.W.mg_of X G n__targets
  have F__targets := fun_mk (st := N__targets.st) l__targets c_d__targets k__targets
  have b__targets := F__targets.binds (ps := ["over", "last"]) fun _ _ _ _ _ _ us hl => match us, hl with | [_, _], _ => rfl
  have g_ticks := PySem.W.mg_of X G n_ticks
  have F_ticks := fun_mk (st := N_ticks.st) l_ticks c_d_ticks k_ticks
  have b_ticks := F_ticks.binds (ps := ["situation", "troubles"]) fun _ _ _ _ _ _ us hl => match us, hl with | [_, _], _ => rfl
  have g_turns := PySem.W.mg_of X G n_turns
  have F_turns := fun_mk (st := N_turns.st) l_turns c_d_turns k_turns
  have b_turns := F_turns.binds (ps := ["situation", "troubles"]) fun _ _ _ _ _ _ us hl => match us, hl with | [_, _], _ => rfl
  have F_Meeting__entered := fun_mk (st := N_Meeting__entered.st) l_Meeting__entered c_d_Meeting__entered k_Meeting__entered
  have me_Meeting__entered : Meth K a_Meeting "_entered" a_Meeting__entered := ⟨i_Meeting__entered, f_n_Meeting__entered, k_Meeting__entered⟩
  have b_Meeting__entered := F_Meeting__entered.binds (ps := ["self"]) fun _ _ _ _ _ _ us hl => match us, hl with | [_], _ => rfl
  have mk_Meeting : Mk K a_Meeting a_Meeting___init__ := ⟨mk0_Meeting, i_Meeting___init__, f_n_Meeting___init__, kc_Meeting⟩
  have F_Meeting___init__ := fun_mk (st := N_Meeting___init__.st) l_Meeting___init__ c_d_Meeting___init__ k_Meeting___init__
  have b_Meeting___init__ := F_Meeting___init__.binds (ps := ["self", "setup", "turn"]) fun _ _ _ _ _ _ us hl => match us, hl with | [_, _, _], _ => rfl
  have F_Meeting_event := fun_mk (st := N_Meeting_event.st) l_Meeting_event c_d_Meeting_event k_Meeting_event
  have me_Meeting_event : Meth K a_Meeting "event" a_Meeting_event := ⟨i_Meeting_event, f_n_Meeting_event, k_Meeting_event⟩
  have b_Meeting_event := F_Meeting_event.binds (ps := ["self", "kind", "who", "number", "related"]) fun _ _ _ _ _ _ us hl => match us, hl with | [_, _, _, _, _], _ => rfl
  have F_Meeting_pointed := fun_mk (st := N_Meeting_pointed.st) l_Meeting_pointed c_d_Meeting_pointed k_Meeting_pointed
  have me_Meeting_pointed : Meth K a_Meeting "pointed" a_Meeting_pointed := ⟨i_Meeting_pointed, f_n_Meeting_pointed, k_Meeting_pointed⟩
  have b_Meeting_pointed := F_Meeting_pointed.binds (ps := ["self"]) fun _ _ _ _ _ _ us hl => match us, hl with | [_], _ => rfl
  have F_Meeting_point := fun_mk (st := N_Meeting_point.st) l_Meeting_point c_d_Meeting_point k_Meeting_point
  have me_Meeting_point : Meth K a_Meeting "point" a_Meeting_point := ⟨i_Meeting_point, f_n_Meeting_point, k_Meeting_point⟩
  have b_Meeting_point := F_Meeting_point.binds (ps := ["self"]) fun _ _ _ _ _ _ us hl => match us, hl with | [_], _ => rfl
  have F_Meeting_stop := fun_mk (st := N_Meeting_stop.st) l_Meeting_stop c_d_Meeting_stop k_Meeting_stop
  have me_Meeting_stop : Meth K a_Meeting "stop" a_Meeting_stop := ⟨i_Meeting_stop, f_n_Meeting_stop, k_Meeting_stop⟩
  have b_Meeting_stop := F_Meeting_stop.binds (ps := ["self"]) fun _ _ _ _ _ _ us hl => match us, hl with | [_], _ => rfl
  have F_Meeting_last_then := fun_mk (st := N_Meeting_last_then.st) l_Meeting_last_then c_d_Meeting_last_then k_Meeting_last_then
  have me_Meeting_last_then : Meth K a_Meeting "last_then" a_Meeting_last_then := ⟨i_Meeting_last_then, f_n_Meeting_last_then, k_Meeting_last_then⟩
  have b_Meeting_last_then := F_Meeting_last_then.binds (ps := ["self", "who"]) fun _ _ _ _ _ _ us hl => match us, hl with | [_, _], _ => rfl
  have g__met := PySem.W.mg_of X G n__met
  have F__met := fun_mk (st := N__met.st) l__met c_d__met k__met
  have b__met := F__met.binds (ps := ["setup", "turn"]) fun _ _ _ _ _ _ us hl => match us, hl with | [_, _], _ => rfl
  have g_outcome := PySem.W.mg_of X G n_outcome
  have F_outcome := fun_mk (st := N_outcome.st) l_outcome c_d_outcome k_outcome
  have b_outcome := F_outcome.binds (ps := ["setup", "turn"]) fun _ _ _ _ _ _ us hl => match us, hl with | [_, _], _ => rfl
  have g_behind := PySem.W.mg_of X G n_behind
  have F_behind := fun_mk (st := N_behind.st) l_behind c_d_behind k_behind
  have b_behind := F_behind.binds (ps := ["setup", "situation", "turn"]) fun _ _ _ _ _ _ us hl => match us, hl with | [_, _, _], _ => rfl
  have g__is_possible := PySem.W.mg_of X G n__is_possible
  have F__is_possible := fun_mk (st := N__is_possible.st) l__is_possible c_d__is_possible k__is_possible
  have b__is_possible := F__is_possible.binds (ps := ["situation", "turn", "troubles"]) fun _ _ _ _ _ _ us hl => match us, hl with | [_, _, _], _ => rfl
  have g_is_scenario := PySem.W.mg_of X G n_is_scenario
  have F_is_scenario := fun_mk (st := N_is_scenario.st) l_is_scenario c_d_is_scenario k_is_scenario
  have b_is_scenario := F_is_scenario.binds (ps := ["setup", "scenario", "troubles"]) fun _ _ _ _ _ _ us hl => match us, hl with | [_, _, _], _ => rfl
  have g__in_order := PySem.W.mg_of X G n__in_order
  have F__in_order := fun_mk (st := N__in_order.st) l__in_order c_d__in_order k__in_order
  have b__in_order := F__in_order.binds (ps := ["things", "words"]) fun _ _ _ _ _ _ us hl => match us, hl with | [_, _], _ => rfl
  have mk_Setup : Mk K a_Setup a_Setup___init__ := ⟨mk0_Setup, i_Setup___init__, f_n_Setup___init__, kc_Setup⟩
  have F_Setup___init__ := fun_mk (st := N_Setup___init__.st) l_Setup___init__ c_d_Setup___init__ k_Setup___init__
  have b_Setup___init__ := F_Setup___init__.binds (ps := ["self", "place", "kinds", "sights"]) fun _ _ _ _ _ _ us hl => match us, hl with | [_, _, _, _], _ => rfl
  have g__law_cell := PySem.W.mg_of X G n__law_cell
  have F__law_cell := fun_mk (st := N__law_cell.st) l__law_cell c_d__law_cell k__law_cell
  have b__law_cell := F__law_cell.binds (ps := ["_law_script", "_law_k"]) fun _ _ _ _ _ _ us hl => match us, hl with | [_, _], _ => rfl
  have g__law_row := PySem.W.mg_of X G n__law_row
  have F__law_row := fun_mk (st := N__law_row.st) l__law_row c_d__law_row k__law_row
  have b__law_row := F__law_row.binds (ps := ["_law_script", "_law_first", "_law_last"]) fun _ _ _ _ _ _ us hl => match us, hl with | [_, _, _], _ => rfl
  have g__law_draw := PySem.W.mg_of X G n__law_draw
  have F__law_draw := fun_mk (st := N__law_draw.st) l__law_draw c_d__law_draw k__law_draw
  have b__law_draw := F__law_draw.binds (ps := ["_law_box", "_law_many"]) fun _ _ _ _ _ _ us hl => match us, hl with | [_, _], _ => rfl
  have g__law_some := PySem.W.mg_of X G n__law_some
  have F__law_some := fun_mk (st := N__law_some.st) l__law_some c_d__law_some k__law_some
  have b__law_some := F__law_some.binds (ps := ["_law_box", "_law_names"]) fun _ _ _ _ _ _ us hl => match us, hl with | [_, _], _ => rfl
  have g__law_kinds := PySem.W.mg_of X G n__law_kinds
  have F__law_kinds := fun_mk (st := N__law_kinds.st) l__law_kinds c_d__law_kinds k__law_kinds
  have b__law_kinds := F__law_kinds.binds (ps := []) fun _ _ _ _ _ _ us hl => match us, hl with | [], _ => rfl
  have g__law_setup := PySem.W.mg_of X G n__law_setup
  have F__law_setup := fun_mk (st := N__law_setup.st) l__law_setup c_d__law_setup k__law_setup
  have b__law_setup := F__law_setup.binds (ps := ["_law_box"]) fun _ _ _ _ _ _ us hl => match us, hl with | [_], _ => rfl
  have g__law_troubles := PySem.W.mg_of X G n__law_troubles
  have F__law_troubles := fun_mk (st := N__law_troubles.st) l__law_troubles c_d__law_troubles k__law_troubles
  have b__law_troubles := F__law_troubles.binds (ps := ["_law_box"]) fun _ _ _ _ _ _ us hl => match us, hl with | [_], _ => rfl
  have g__law_made := PySem.W.mg_of X G n__law_made
  have F__law_made := fun_mk (st := N__law_made.st) l__law_made c_d__law_made k__law_made
  have b__law_made := F__law_made.binds (ps := ["_law_told"]) fun _ _ _ _ _ _ us hl => match us, hl with | [_], _ => rfl
  have g__law_reaches := PySem.W.mg_of X G n__law_reaches
  have F__law_reaches := fun_mk (st := N__law_reaches.st) l__law_reaches c_d__law_reaches k__law_reaches
  have b__law_reaches := F__law_reaches.binds (ps := ["_law_setup_here", "_law_kind", "_law_number", "_law_is_root", "_law_stopped"]) fun _ _ _ _ _ _ us hl => match us, hl with | [_, _, _, _, _], _ => rfl
  have g__law_signal := PySem.W.mg_of X G n__law_signal
  have F__law_signal := fun_mk (st := N__law_signal.st) l__law_signal c_d__law_signal k__law_signal
  have b__law_signal := F__law_signal.binds (ps := ["_law_setup_here", "_law_kind", "_law_number", "_law_same", "_law_related"]) fun _ _ _ _ _ _ us hl => match us, hl with | [_, _, _, _, _], _ => rfl
  have g__law_ways := PySem.W.mg_of X G n__law_ways
  have F__law_ways := fun_mk (st := N__law_ways.st) l__law_ways c_d__law_ways k__law_ways
  have b__law_ways := F__law_ways.binds (ps := ["_law_number", "_law_troubles_here"]) fun _ _ _ _ _ _ us hl => match us, hl with | [_, _], _ => rfl
  have g__law_targets := PySem.W.mg_of X G n__law_targets
  have F__law_targets := fun_mk (st := N__law_targets.st) l__law_targets c_d__law_targets k__law_targets
  have b__law_targets := F__law_targets.binds (ps := ["_law_over", "_law_last"]) fun _ _ _ _ _ _ us hl => match us, hl with | [_, _], _ => rfl
  have g__law_turns_at := PySem.W.mg_of X G n__law_turns_at
  have F__law_turns_at := fun_mk (st := N__law_turns_at.st) l__law_turns_at c_d__law_turns_at k__law_turns_at
  have b__law_turns_at := F__law_turns_at.binds (ps := ["_law_over", "_law_last", "_law_troubles_here"]) fun _ _ _ _ _ _ us hl => match us, hl with | [_, _, _], _ => rfl
  have g__law_turns := PySem.W.mg_of X G n__law_turns
  have F__law_turns := fun_mk (st := N__law_turns.st) l__law_turns c_d__law_turns k__law_turns
  have b__law_turns := F__law_turns.binds (ps := ["_law_situation_here", "_law_troubles_here"]) fun _ _ _ _ _ _ us hl => match us, hl with | [_, _], _ => rfl
  have g__law_situation := PySem.W.mg_of X G n__law_situation
  have F__law_situation := fun_mk (st := N__law_situation.st) l__law_situation c_d__law_situation k__law_situation
  have b__law_situation := F__law_situation.binds (ps := ["_law_turn", "_law_x", "_law_entered"]) fun _ _ _ _ _ _ us hl => match us, hl with | [_, _, _], _ => rfl
  have g__law_behind := PySem.W.mg_of X G n__law_behind
  have F__law_behind := fun_mk (st := N__law_behind.st) l__law_behind c_d__law_behind k__law_behind
  have b__law_behind := F__law_behind.binds (ps := ["_law_setup_here", "_law_turn"]) fun _ _ _ _ _ _ us hl => match us, hl with | [_, _], _ => rfl
  have g__law_scenario := PySem.W.mg_of X G n__law_scenario
  have F__law_scenario := fun_mk (st := N__law_scenario.st) l__law_scenario c_d__law_scenario k__law_scenario
  have b__law_scenario := F__law_scenario.binds (ps := ["_law_box", "_law_setup_here", "_law_troubles_here", "_law_most"]) fun _ _ _ _ _ _ us hl => match us, hl with | [_, _, _, _], _ => rfl
  have g__law_is_scenario := PySem.W.mg_of X G n__law_is_scenario
  have F__law_is_scenario := fun_mk (st := N__law_is_scenario.st) l__law_is_scenario c_d__law_is_scenario k__law_is_scenario
  have b__law_is_scenario := F__law_is_scenario.binds (ps := ["_law_setup_here", "_law_scenario_here", "_law_troubles_here"]) fun _ _ _ _ _ _ us hl => match us, hl with | [_, _, _], _ => rfl
  have g__law_all := PySem.W.mg_of X G n__law_all
  have F__law_all := fun_mk (st := N__law_all.st) l__law_all c_d__law_all k__law_all
  have b__law_all := F__law_all.binds (ps := []) fun _ _ _ _ _ _ us hl => match us, hl with | [], _ => rfl
  have g__law_spoiled := PySem.W.mg_of X G n__law_spoiled
  have F__law_spoiled := fun_mk (st := N__law_spoiled.st) l__law_spoiled c_d__law_spoiled k__law_spoiled
  have b__law_spoiled := F__law_spoiled.binds (ps := ["_law_box", "_law_scenario_here"]) fun _ _ _ _ _ _ us hl => match us, hl with | [_, _], _ => rfl
  have g_law := PySem.W.mg_of X G n_law
  have F_law := fun_mk (st := N_law.st) l_law c_d_law k_law
  have b_law := F_law.binds (ps := ["_law_script"]) fun _ _ _ _ _ _ us hl => match us, hl with | [_], _ => rfl
  have e := hfa.symm.trans g_law
  cases e
  refine ⟨PySem.W.fnOf "law" "law" (defArgs N_law.st) (defBody N_law.st) (defScope N_law.st) .none kV_law dc_law pm_law an_law cd_law ct_law, fun s v => .of_eq rfl, fun base _ _ => ?_⟩
  have D_reaches := d_reaches (P := P) (w := w) (mg := mg) (base := base) (eC := eC) F_reaches b_reaches 
  have D__plain := d__plain (P := P) (w := w) (mg := mg) (base := base) (eC := eC) F__plain b__plain 
  have D_signal_of := d_signal_of (P := P) (w := w) (mg := mg) (base := base) (eC := eC) F_signal_of b_signal_of fc_Setup_sights g__plain D__plain
  have D_hears_end := d_hears_end (P := P) (w := w) (mg := mg) (base := base) (eC := eC) F_hears_end b_hears_end fc_Setup_kinds fc_Setup_place
  have D_Ear___init__ := d_Ear___init__ (P := P) (w := w) (mg := mg) (base := base) (eC := eC) F_Ear___init__ b_Ear___init__ fc_Ear_count fc_Ear_entered fc_Ear_setup fc_Ear_signals fc_Ear_stops
  have D_Ear_event := d_Ear_event (P := P) (w := w) (mg := mg) (base := base) (eC := eC) F_Ear_event b_Ear_event fc_Ear_count fc_Ear_entered fc_Ear_setup fc_Ear_signals fc_Ear_stops fc_Setup_kinds fc_Setup_place g_reaches D_reaches g_signal_of D_signal_of
  have D_Ear_end := d_Ear_end (P := P) (w := w) (mg := mg) (base := base) (eC := eC) F_Ear_end b_Ear_end g_END fc_Ear_setup fc_Ear_signals g_hears_end D_hears_end
  have D__led := d__led (P := P) (w := w) (mg := mg) (base := base) (eC := eC) F__led b__led 
  have D_changed := d_changed (P := P) (w := w) (mg := mg) (base := base) (eC := eC) F_changed b_changed g_CURRENT g__led D__led
  have D__targets := d__targets (P := P) (w := w) (mg := mg) (base := base) (eC := eC) F__targets b__targets 
  have D_ticks := d_ticks (P := P) (w := w) (mg := mg) (base := base) (eC := eC) F_ticks b_ticks g_POINT g_SLIP g_OUT g_DROP g_CANCEL g_SILENT_DROP g_SILENT_CANCEL g__targets D__targets
  have D_turns := d_turns (P := P) (w := w) (mg := mg) (base := base) (eC := eC) F_turns b_turns nb g_changed D_changed g_ticks D_ticks
  have D_Meeting__entered := d_Meeting__entered (P := P) (w := w) (mg := mg) (base := base) (eC := eC) F_Meeting__entered b_Meeting__entered g_CURRENT fc_Meeting_last
  have D_Meeting___init__ := d_Meeting___init__ (P := P) (w := w) (mg := mg) (base := base) (eC := eC) F_Meeting___init__ b_Meeting___init__ fc_Meeting_ear fc_Meeting_last fc_Meeting_over fc_Meeting_target fc_Meeting_tick g_Ear g_Meeting cl_Meeting mk_Ear D_Ear___init__ me_Meeting__entered D_Meeting__entered
  have D_Meeting_event := d_Meeting_event (P := P) (w := w) (mg := mg) (base := base) (eC := eC) F_Meeting_event b_Meeting_event g_SIDE_OF fc_Meeting_ear g_Ear cl_Ear me_Ear_event D_Ear_event
  have D_Meeting_pointed := d_Meeting_pointed (P := P) (w := w) (mg := mg) (base := base) (eC := eC) F_Meeting_pointed b_Meeting_pointed fc_Meeting_last fc_Meeting_over fc_Meeting_target
  have D_Meeting_point := d_Meeting_point (P := P) (w := w) (mg := mg) (base := base) (eC := eC) F_Meeting_point b_Meeting_point g_POINT fc_Meeting_over fc_Meeting_tick g_Meeting cl_Meeting me_Meeting_pointed D_Meeting_pointed me_Meeting_event D_Meeting_event
  have D_Meeting_stop := d_Meeting_stop (P := P) (w := w) (mg := mg) (base := base) (eC := eC) F_Meeting_stop b_Meeting_stop g_DROP g_SILENT_DROP g_CANCEL fc_Meeting_ear fc_Meeting_over fc_Meeting_tick g_Ear cl_Ear g_Meeting cl_Meeting me_Meeting_event D_Meeting_event me_Ear_end D_Ear_end
  have D_Meeting_last_then := d_Meeting_last_then (P := P) (w := w) (mg := mg) (base := base) (eC := eC) F_Meeting_last_then b_Meeting_last_then g_CURRENT g_SLIP fc_Ear_entered fc_Meeting_ear fc_Meeting_last fc_Meeting_over fc_Meeting_tick
  have D__met := d__met (P := P) (w := w) (mg := mg) (base := base) (eC := eC) F__met b__met nb g_POINT g_SLIP fc_Ear_entered fc_Ear_signals fc_Meeting_ear fc_Meeting_tick g_Meeting cl_Meeting mk_Meeting D_Meeting___init__ me_Meeting_point D_Meeting_point me_Meeting_stop D_Meeting_stop me_Meeting_last_then D_Meeting_last_then
  have D_outcome := d_outcome (P := P) (w := w) (mg := mg) (base := base) (eC := eC) F_outcome b_outcome g__met D__met
  have D_behind := d_behind (P := P) (w := w) (mg := mg) (base := base) (eC := eC) F_behind b_behind g_outcome D_outcome
  have D__is_possible := d__is_possible (P := P) (w := w) (mg := mg) (base := base) (eC := eC) F__is_possible b__is_possible g_turns D_turns
  have D_is_scenario := d_is_scenario (P := P) (w := w) (mg := mg) (base := base) (eC := eC) F_is_scenario b_is_scenario g_START g__is_possible D__is_possible g_outcome D_outcome
  have D__in_order := d__in_order (P := P) (w := w) (mg := mg) (base := base) (eC := eC) F__in_order b__in_order nb
  have D_Setup___init__ := d_Setup___init__ (P := P) (w := w) (mg := mg) (base := base) (eC := eC) F_Setup___init__ b_Setup___init__ nb dg g_KINDS g_SIGHTS g_PLACES fc_Setup_kinds fc_Setup_place fc_Setup_sights g__in_order D__in_order
  have D__law_cell := d__law_cell (P := P) (w := w) (mg := mg) (base := base) (eC := eC) F__law_cell b__law_cell nb
  have D__law_row := d__law_row (P := P) (w := w) (mg := mg) (base := base) (eC := eC) F__law_row b__law_row nb g__law_cell D__law_cell
  have D__law_draw := d__law_draw (P := P) (w := w) (mg := mg) (base := base) (eC := eC) F__law_draw b__law_draw nb
  have D__law_some := d__law_some (P := P) (w := w) (mg := mg) (base := base) (eC := eC) F__law_some b__law_some g__law_draw D__law_draw
  have D__law_kinds := d__law_kinds (P := P) (w := w) (mg := mg) (base := base) (eC := eC) F__law_kinds b__law_kinds 
  have D__law_setup := d__law_setup (P := P) (w := w) (mg := mg) (base := base) (eC := eC) F__law_setup b__law_setup g__law_draw D__law_draw g__law_some D__law_some g__law_kinds D__law_kinds
  have D__law_troubles := d__law_troubles (P := P) (w := w) (mg := mg) (base := base) (eC := eC) F__law_troubles b__law_troubles g__law_draw D__law_draw
  have D__law_made := d__law_made (P := P) (w := w) (mg := mg) (base := base) (eC := eC) F__law_made b__law_made nb g_Setup mk_Setup D_Setup___init__
  have D__law_reaches := d__law_reaches (P := P) (w := w) (mg := mg) (base := base) (eC := eC) F__law_reaches b__law_reaches 
  have D__law_signal := d__law_signal (P := P) (w := w) (mg := mg) (base := base) (eC := eC) F__law_signal b__law_signal 
  have D__law_ways := d__law_ways (P := P) (w := w) (mg := mg) (base := base) (eC := eC) F__law_ways b__law_ways 
  have D__law_targets := d__law_targets (P := P) (w := w) (mg := mg) (base := base) (eC := eC) F__law_targets b__law_targets 
  have D__law_turns_at := d__law_turns_at (P := P) (w := w) (mg := mg) (base := base) (eC := eC) F__law_turns_at b__law_turns_at nb g__law_targets D__law_targets
  have D__law_turns := d__law_turns (P := P) (w := w) (mg := mg) (base := base) (eC := eC) F__law_turns b__law_turns nb g__law_ways D__law_ways g__law_turns_at D__law_turns_at
  have D__law_situation := d__law_situation (P := P) (w := w) (mg := mg) (base := base) (eC := eC) F__law_situation b__law_situation nb
  have D__law_behind := d__law_behind (P := P) (w := w) (mg := mg) (base := base) (eC := eC) F__law_behind b__law_behind nb g__law_reaches D__law_reaches g__law_signal D__law_signal g__law_situation D__law_situation
  have D__law_scenario := d__law_scenario (P := P) (w := w) (mg := mg) (base := base) (eC := eC) F__law_scenario b__law_scenario nb g__law_draw D__law_draw g__law_turns D__law_turns g__law_behind D__law_behind
  have D__law_is_scenario := d__law_is_scenario (P := P) (w := w) (mg := mg) (base := base) (eC := eC) F__law_is_scenario b__law_is_scenario g__law_turns D__law_turns g__law_behind D__law_behind
  have D__law_all := d__law_all (P := P) (w := w) (mg := mg) (base := base) (eC := eC) F__law_all b__law_all 
  have D__law_spoiled := d__law_spoiled (P := P) (w := w) (mg := mg) (base := base) (eC := eC) F__law_spoiled b__law_spoiled nb g__law_draw D__law_draw
  have D_law := d_law (P := P) (w := w) (mg := mg) (base := base) (eC := eC) F_law b_law nb g__law_row D__law_row g__law_setup D__law_setup g__law_troubles D__law_troubles g__law_draw D__law_draw g__law_turns D__law_turns g_turns D_turns g__law_all D__law_all g__law_behind D__law_behind g_behind D_behind g__law_made D__law_made g__law_scenario D__law_scenario g_is_scenario D_is_scenario g__law_spoiled D__law_spoiled g__law_is_scenario D__law_is_scenario
  exact fnOk_law D_law hl
end G
end VS
set_option Elab.async false
set_option maxRecDepth 100000
open PySem PySem.W PyProof.Rows
set_option maxRecDepth 100000 in
set_option maxHeartbeats 0 in
theorem PySem.Challenge.cw_dragtold_k07_turns_holds : PySem.Challenge.rw_dragtold_k07_turns.Holds := by
  w_on; o_law; k_head; (case hw => w_witness2)
  k_fill
  refine VS.walkV (l := PySem.Challenge.rw_dragtold_k07_turns) (n := 63) (k := 9) (x := "_law_script") rfl (by decide) rfl ⟨rfl, by decide, by decide⟩ (fun w h Y => PySem.W.kIn_of Y) ?F
  case F =>
    intro w mg fa h KX G hmg
    refine' VS.G.law_mk KX G hmg ?z_isinstance ?z_len ?z_abs ?z_int ?z_tuple ?z_list ?z_all ?z_any ?z_sorted ?z_sum ?z_bool ?z_str ?z_range ?z_zip ?z_enumerate ?n_CANCEL ?n_CURRENT ?n_DROP ?n_END ?l_END ?n_KINDS ?l_KINDS ?n_OUT ?n_PLACES ?l_PLACES ?n_POINT ?n_SIDE_OF ?l_SIDE_OF ?n_SIGHTS ?l_SIGHTS ?n_SILENT_CANCEL ?n_SILENT_DROP ?n_SLIP ?n_START ?l_START ?dtop ?daC ?daS ?dop ?dxL ?dve ?dsa ?dga ?dgg ?dnN ?diC ?dtC ?dkC ?dex ?dty ?dhd ?dic ?dsc ?dlf ?dcd ?dcda_ ?dvs_ ?dfi ?dcc_ ?n_Ear ?pg_Ear ?hd_Ear ?po_Ear ?sa_Ear ?mk0_Ear ?kc_Ear ?n_Meeting ?pg_Meeting ?hd_Meeting ?po_Meeting ?sa_Meeting ?mk0_Meeting ?kc_Meeting ?n_Setup ?pg_Setup ?hd_Setup ?po_Setup ?sa_Setup ?mk0_Setup ?kc_Setup ?no_Ear_count ?no_Ear_entered ?no_Ear_setup ?no_Ear_signals ?no_Ear_stops ?no_Meeting_ear ?no_Meeting_last ?no_Meeting_over ?no_Meeting_target ?no_Meeting_tick ?no_Setup_kinds ?no_Setup_place ?no_Setup_sights ?n_reaches ?l_reaches ?c_d_reaches ?k_reaches ?n__plain ?l__plain ?c_d__plain ?k__plain ?n_signal_of ?l_signal_of ?c_d_signal_of ?k_signal_of ?n_hears_end ?l_hears_end ?c_d_hears_end ?k_hears_end ?i_Ear___init__ ?f_n_Ear___init__ ?l_Ear___init__ ?c_d_Ear___init__ ?k_Ear___init__ ?i_Ear_event ?f_n_Ear_event ?l_Ear_event ?c_d_Ear_event ?k_Ear_event ?i_Ear_end ?f_n_Ear_end ?l_Ear_end ?c_d_Ear_end ?k_Ear_end ?n__led ?l__led ?c_d__led ?k__led ?n_changed ?l_changed ?c_d_changed ?k_changed ?n__targets ?l__targets ?c_d__targets ?k__targets ?n_ticks ?l_ticks ?c_d_ticks ?k_ticks ?n_turns ?l_turns ?c_d_turns ?k_turns ?i_Meeting__entered ?f_n_Meeting__entered ?l_Meeting__entered ?c_d_Meeting__entered ?k_Meeting__entered ?i_Meeting___init__ ?f_n_Meeting___init__ ?l_Meeting___init__ ?c_d_Meeting___init__ ?k_Meeting___init__ ?i_Meeting_event ?f_n_Meeting_event ?l_Meeting_event ?c_d_Meeting_event ?k_Meeting_event ?i_Meeting_pointed ?f_n_Meeting_pointed ?l_Meeting_pointed ?c_d_Meeting_pointed ?k_Meeting_pointed ?i_Meeting_point ?f_n_Meeting_point ?l_Meeting_point ?c_d_Meeting_point ?k_Meeting_point ?i_Meeting_stop ?f_n_Meeting_stop ?l_Meeting_stop ?c_d_Meeting_stop ?k_Meeting_stop ?i_Meeting_last_then ?f_n_Meeting_last_then ?l_Meeting_last_then ?c_d_Meeting_last_then ?k_Meeting_last_then ?n__met ?l__met ?c_d__met ?k__met ?n_outcome ?l_outcome ?c_d_outcome ?k_outcome ?n_behind ?l_behind ?c_d_behind ?k_behind ?n__is_possible ?l__is_possible ?c_d__is_possible ?k__is_possible ?n_is_scenario ?l_is_scenario ?c_d_is_scenario ?k_is_scenario ?n__in_order ?l__in_order ?c_d__in_order ?k__in_order ?i_Setup___init__ ?f_n_Setup___init__ ?l_Setup___init__ ?c_d_Setup___init__ ?k_Setup___init__ ?n__law_cell ?l__law_cell ?c_d__law_cell ?k__law_cell ?n__law_row ?l__law_row ?c_d__law_row ?k__law_row ?n__law_draw ?l__law_draw ?c_d__law_draw ?k__law_draw ?n__law_some ?l__law_some ?c_d__law_some ?k__law_some ?n__law_kinds ?l__law_kinds ?c_d__law_kinds ?k__law_kinds ?n__law_setup ?l__law_setup ?c_d__law_setup ?k__law_setup ?n__law_troubles ?l__law_troubles ?c_d__law_troubles ?k__law_troubles ?n__law_made ?l__law_made ?c_d__law_made ?k__law_made ?n__law_reaches ?l__law_reaches ?c_d__law_reaches ?k__law_reaches ?n__law_signal ?l__law_signal ?c_d__law_signal ?k__law_signal ?n__law_ways ?l__law_ways ?c_d__law_ways ?k__law_ways ?n__law_targets ?l__law_targets ?c_d__law_targets ?k__law_targets ?n__law_turns_at ?l__law_turns_at ?c_d__law_turns_at ?k__law_turns_at ?n__law_turns ?l__law_turns ?c_d__law_turns ?k__law_turns ?n__law_situation ?l__law_situation ?c_d__law_situation ?k__law_situation ?n__law_behind ?l__law_behind ?c_d__law_behind ?k__law_behind ?n__law_scenario ?l__law_scenario ?c_d__law_scenario ?k__law_scenario ?n__law_is_scenario ?l__law_is_scenario ?c_d__law_is_scenario ?k__law_is_scenario ?n__law_all ?l__law_all ?c_d__law_all ?k__law_all ?n__law_spoiled ?l__law_spoiled ?c_d__law_spoiled ?k__law_spoiled ?n_law ?l_law ?c_d_law ?k_law ?zplain
    (case z_isinstance => k_is)
    (case z_len => k_is)
    (case z_abs => k_is)
    (case z_int => k_is)
    (case z_tuple => k_is)
    (case z_list => k_is)
    (case z_all => k_is)
    (case z_any => k_is)
    (case z_sorted => k_is)
    (case z_sum => k_is)
    (case z_bool => k_is)
    (case z_str => k_is)
    (case z_range => k_is)
    (case z_zip => k_is)
    (case z_enumerate => k_is)
    (case n_CANCEL => k_is)
    (case n_CURRENT => k_is)
    (case n_DROP => k_is)
    (case n_END => k_is)
    (case l_END => k_is)
    (case n_KINDS => k_is)
    (case l_KINDS => k_is)
    (case n_OUT => k_is)
    (case n_PLACES => k_is)
    (case l_PLACES => k_is)
    (case n_POINT => k_is)
    (case n_SIDE_OF => k_is)
    (case l_SIDE_OF => k_is)
    (case n_SIGHTS => k_is)
    (case l_SIGHTS => k_is)
    (case n_SILENT_CANCEL => k_is)
    (case n_SILENT_DROP => k_is)
    (case n_SLIP => k_is)
    (case n_START => k_is)
    (case l_START => k_is)
    (case dtop => first | rfl | k_is | decide +kernel)
    (case daC => k_is)
    (case daS => k_is)
    (case dop => k_is)
    (case dxL => k_is)
    (case dve => k_is)
    (case dsa => k_is)
    (case dga => k_is)
    (case dgg => k_is)
    (case dnN => k_is)
    (case diC => k_is)
    (case dtC => k_is)
    (case dkC => k_is)
    (case dex => k_is)
    (case dty => k_is)
    (case dhd => k_is)
    (case dic => k_is)
    (case dsc => k_is)
    (case dlf => k_is)
    (case dcd => k_is)
    (case dcda_ => k_is)
    (case dvs_ => first | rfl | k_is | decide +kernel)
    (case dfi => first | rfl | k_is | decide +kernel)
    (case dcc_ => k_is)
    (case n_Ear => k_is)
    (case pg_Ear => k_is)
    (case hd_Ear => k_is)
    (case po_Ear => k_is)
    (case sa_Ear => k_is)
    (case mk0_Ear => k_is)
    (case kc_Ear => k_is)
    (case n_Meeting => k_is)
    (case pg_Meeting => k_is)
    (case hd_Meeting => k_is)
    (case po_Meeting => k_is)
    (case sa_Meeting => k_is)
    (case mk0_Meeting => k_is)
    (case kc_Meeting => k_is)
    (case n_Setup => k_is)
    (case pg_Setup => k_is)
    (case hd_Setup => k_is)
    (case po_Setup => k_is)
    (case sa_Setup => k_is)
    (case mk0_Setup => k_is)
    (case kc_Setup => k_is)
    (case no_Ear_count => k_is)
    (case no_Ear_entered => k_is)
    (case no_Ear_setup => k_is)
    (case no_Ear_signals => k_is)
    (case no_Ear_stops => k_is)
    (case no_Meeting_ear => k_is)
    (case no_Meeting_last => k_is)
    (case no_Meeting_over => k_is)
    (case no_Meeting_target => k_is)
    (case no_Meeting_tick => k_is)
    (case no_Setup_kinds => k_is)
    (case no_Setup_place => k_is)
    (case no_Setup_sights => k_is)
    (case n_reaches => k_is)
    (case l_reaches => k_is)
    (case c_d_reaches => k_is)
    (case k_reaches => k_is)
    (case n__plain => k_is)
    (case l__plain => k_is)
    (case c_d__plain => k_is)
    (case k__plain => k_is)
    (case n_signal_of => k_is)
    (case l_signal_of => k_is)
    (case c_d_signal_of => k_is)
    (case k_signal_of => k_is)
    (case n_hears_end => k_is)
    (case l_hears_end => k_is)
    (case c_d_hears_end => k_is)
    (case k_hears_end => k_is)
    (case i_Ear___init__ => k_is)
    (case f_n_Ear___init__ => k_is)
    (case l_Ear___init__ => k_is)
    (case c_d_Ear___init__ => k_is)
    (case k_Ear___init__ => k_is)
    (case i_Ear_event => k_is)
    (case f_n_Ear_event => k_is)
    (case l_Ear_event => k_is)
    (case c_d_Ear_event => k_is)
    (case k_Ear_event => k_is)
    (case i_Ear_end => k_is)
    (case f_n_Ear_end => k_is)
    (case l_Ear_end => k_is)
    (case c_d_Ear_end => k_is)
    (case k_Ear_end => k_is)
    (case n__led => k_is)
    (case l__led => k_is)
    (case c_d__led => k_is)
    (case k__led => k_is)
    (case n_changed => k_is)
    (case l_changed => k_is)
    (case c_d_changed => k_is)
    (case k_changed => k_is)
    (case n__targets => k_is)
    (case l__targets => k_is)
    (case c_d__targets => k_is)
    (case k__targets => k_is)
    (case n_ticks => k_is)
    (case l_ticks => k_is)
    (case c_d_ticks => k_is)
    (case k_ticks => k_is)
    (case n_turns => k_is)
    (case l_turns => k_is)
    (case c_d_turns => k_is)
    (case k_turns => k_is)
    (case i_Meeting__entered => k_is)
    (case f_n_Meeting__entered => k_is)
    (case l_Meeting__entered => k_is)
    (case c_d_Meeting__entered => k_is)
    (case k_Meeting__entered => k_is)
    (case i_Meeting___init__ => k_is)
    (case f_n_Meeting___init__ => k_is)
    (case l_Meeting___init__ => k_is)
    (case c_d_Meeting___init__ => k_is)
    (case k_Meeting___init__ => k_is)
    (case i_Meeting_event => k_is)
    (case f_n_Meeting_event => k_is)
    (case l_Meeting_event => k_is)
    (case c_d_Meeting_event => k_is)
    (case k_Meeting_event => k_is)
    (case i_Meeting_pointed => k_is)
    (case f_n_Meeting_pointed => k_is)
    (case l_Meeting_pointed => k_is)
    (case c_d_Meeting_pointed => k_is)
    (case k_Meeting_pointed => k_is)
    (case i_Meeting_point => k_is)
    (case f_n_Meeting_point => k_is)
    (case l_Meeting_point => k_is)
    (case c_d_Meeting_point => k_is)
    (case k_Meeting_point => k_is)
    (case i_Meeting_stop => k_is)
    (case f_n_Meeting_stop => k_is)
    (case l_Meeting_stop => k_is)
    (case c_d_Meeting_stop => k_is)
    (case k_Meeting_stop => k_is)
    (case i_Meeting_last_then => k_is)
    (case f_n_Meeting_last_then => k_is)
    (case l_Meeting_last_then => k_is)
    (case c_d_Meeting_last_then => k_is)
    (case k_Meeting_last_then => k_is)
    (case n__met => k_is)
    (case l__met => k_is)
    (case c_d__met => k_is)
    (case k__met => k_is)
    (case n_outcome => k_is)
    (case l_outcome => k_is)
    (case c_d_outcome => k_is)
    (case k_outcome => k_is)
    (case n_behind => k_is)
    (case l_behind => k_is)
    (case c_d_behind => k_is)
    (case k_behind => k_is)
    (case n__is_possible => k_is)
    (case l__is_possible => k_is)
    (case c_d__is_possible => k_is)
    (case k__is_possible => k_is)
    (case n_is_scenario => k_is)
    (case l_is_scenario => k_is)
    (case c_d_is_scenario => k_is)
    (case k_is_scenario => k_is)
    (case n__in_order => k_is)
    (case l__in_order => k_is)
    (case c_d__in_order => k_is)
    (case k__in_order => k_is)
    (case i_Setup___init__ => k_is)
    (case f_n_Setup___init__ => k_is)
    (case l_Setup___init__ => k_is)
    (case c_d_Setup___init__ => k_is)
    (case k_Setup___init__ => k_is)
    (case n__law_cell => k_is)
    (case l__law_cell => k_is)
    (case c_d__law_cell => k_is)
    (case k__law_cell => k_is)
    (case n__law_row => k_is)
    (case l__law_row => k_is)
    (case c_d__law_row => k_is)
    (case k__law_row => k_is)
    (case n__law_draw => k_is)
    (case l__law_draw => k_is)
    (case c_d__law_draw => k_is)
    (case k__law_draw => k_is)
    (case n__law_some => k_is)
    (case l__law_some => k_is)
    (case c_d__law_some => k_is)
    (case k__law_some => k_is)
    (case n__law_kinds => k_is)
    (case l__law_kinds => k_is)
    (case c_d__law_kinds => k_is)
    (case k__law_kinds => k_is)
    (case n__law_setup => k_is)
    (case l__law_setup => k_is)
    (case c_d__law_setup => k_is)
    (case k__law_setup => k_is)
    (case n__law_troubles => k_is)
    (case l__law_troubles => k_is)
    (case c_d__law_troubles => k_is)
    (case k__law_troubles => k_is)
    (case n__law_made => k_is)
    (case l__law_made => k_is)
    (case c_d__law_made => k_is)
    (case k__law_made => k_is)
    (case n__law_reaches => k_is)
    (case l__law_reaches => k_is)
    (case c_d__law_reaches => k_is)
    (case k__law_reaches => k_is)
    (case n__law_signal => k_is)
    (case l__law_signal => k_is)
    (case c_d__law_signal => k_is)
    (case k__law_signal => k_is)
    (case n__law_ways => k_is)
    (case l__law_ways => k_is)
    (case c_d__law_ways => k_is)
    (case k__law_ways => k_is)
    (case n__law_targets => k_is)
    (case l__law_targets => k_is)
    (case c_d__law_targets => k_is)
    (case k__law_targets => k_is)
    (case n__law_turns_at => k_is)
    (case l__law_turns_at => k_is)
    (case c_d__law_turns_at => k_is)
    (case k__law_turns_at => k_is)
    (case n__law_turns => k_is)
    (case l__law_turns => k_is)
    (case c_d__law_turns => k_is)
    (case k__law_turns => k_is)
    (case n__law_situation => k_is)
    (case l__law_situation => k_is)
    (case c_d__law_situation => k_is)
    (case k__law_situation => k_is)
    (case n__law_behind => k_is)
    (case l__law_behind => k_is)
    (case c_d__law_behind => k_is)
    (case k__law_behind => k_is)
    (case n__law_scenario => k_is)
    (case l__law_scenario => k_is)
    (case c_d__law_scenario => k_is)
    (case k__law_scenario => k_is)
    (case n__law_is_scenario => k_is)
    (case l__law_is_scenario => k_is)
    (case c_d__law_is_scenario => k_is)
    (case k__law_is_scenario => k_is)
    (case n__law_all => k_is)
    (case l__law_all => k_is)
    (case c_d__law_all => k_is)
    (case k__law_all => k_is)
    (case n__law_spoiled => k_is)
    (case l__law_spoiled => k_is)
    (case c_d__law_spoiled => k_is)
    (case k__law_spoiled => k_is)
    (case n_law => k_is)
    (case l_law => k_is)
    (case c_d_law => k_is)
    (case k_law => k_is)
    case zplain =>
      intro ns hn
      obtain ⟨d, es, e, rfl⟩ := VS.G.law_ok hn
      exact ⟨es, e⟩
