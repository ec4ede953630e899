import PyProof.Rows.All
import Wide.All
import OpenK.AllK
import Wide.FinOn
import HandS.ForMost
import HandS.ForExc
import HandS.IsInst
import HandS.TupAny
import HandS.Zip
import KE.KExcSuper
import HandS.Style
import HandS.DictComp
import HandS.WordsDict
import HandS.Conv
import KE.SortData
import HandS.TupLe
import HandS.Text
import HandS.Iter
import HandS.RaiseMore
import KE.IntTextLaws
import KE.KIntText
import PySem.Challenge.RW_dragtold_k19_texts
set_option Elab.async false
set_option linter.all false
set_option maxRecDepth 100000
set_option maxHeartbeats 4000000
/-! VS1: data by value, what stands for it in the tracked memory, and how that is kept. -/
namespace VS
open PySem PySem.Spec PyProof.Rows L2

/-- data by value; the first flag of a list, dict, object: it is the holder's own (may be changed) -/
inductive D where
  | un | non | bl (b : Bool) | int (i : Int) | str (x : Str)
  | tup (ds : List D)
  | rol (ds : List D)
  | lst (m : Bool) (ds : List D)
  | dic (m : Bool) (ks ds : List D)
  | obj (m : Bool) (c : Str) (ns : List Str) (ds : List D)

/-- a set of addresses -/
abbrev AS := Addr → Prop
def Sub (A B : AS) : Prop := ∀ a, A a → B a
def Dj (A B : AS) : Prop := ∀ a, A a → B a → False
abbrev E0 : AS := fun _ => False
abbrev But (A : AS) (a : Addr) : AS := fun b => A b ∧ b ≠ a

/-- a dict's keys and values at a, as they stand -/
def DicO (o : HO) (kx xs : List V) : Prop := ∃ kvs : List (Key × V), o = .dK kvs ∧ kx = kvs.map (fun p => kV p.1) ∧ xs = kvs.map (·.2)

/-- a list that never changes again; one that may be the module's own -/
def FzL (H : Hp) (a : Addr) (xs : List V) : Prop := ∃ o, H a = some (.frz o (.lst xs))
def RoL (K : PySem.W.Frag) (H : Hp) (a : Addr) (xs : List V) : Prop :=
  FzL H a xs ∨
    ∃ (o : Obj) (its : Array Value) (n : Nat), K.lookup a = some o ∧ o.cls = .type "list" ∧ o.dict = none ∧ o.data = .seq its n ∧ its.size ≤ sizeLine ∧ Vals xs its.toList
theorem FzL.sq {K : PySem.W.Frag} {H : Hp} {a : Addr} {xs : List V} (h : FzL H a xs) : SqL K H a xs := by
  obtain ⟨o, h⟩ := h
  exact .inl (.inr ⟨o, h⟩)
theorem RoL.sq {K : PySem.W.Frag} {H : Hp} {a : Addr} {xs : List V} (h : RoL K H a xs) : SqL K H a xs := by
  rcases h with h | h
  · exact h.sq
  · exact .inr h

mutual
def Rep (K : PySem.W.Frag) (mg : Str → Option Value) (H : Hp) : D → V → AS → Prop
  | .un, _, _ => True
  | .non, v, _ => v = .non
  | .bl b, v, _ => v = .bl b
  | .int i, v, _ => v = .int i
  | .str x, v, _ => v = .str x
  | .tup ds, v, A => ∃ a xs, v = .ref a ∧ SqT K H a xs ∧ Reps K mg H ds xs A
  | .rol ds, v, _ => ∃ a xs, v = .ref a ∧ RoL K H a xs ∧ Reps K mg H ds xs E0
  | .lst true ds, v, A => ∃ a xs, v = .ref a ∧ H a = some (.lst xs) ∧ A a ∧ Reps K mg H ds xs (But A a)
  | .lst false ds, v, _ => ∃ a xs, v = .ref a ∧ FzL H a xs ∧ Reps K mg H ds xs E0
  | .dic true ks ds, v, A => ∃ a o kx xs, v = .ref a ∧ H a = some o ∧ DicO o kx xs ∧ A a ∧ Reps K mg H ks kx E0 ∧ Reps K mg H ds xs (But A a)
  | .dic false ks ds, v, _ => ∃ a ob o kx xs, v = .ref a ∧ H a = some (.frz ob o) ∧ DicO o kx xs ∧ Reps K mg H ks kx E0 ∧ Reps K mg H ds xs E0
  | .obj true c ns ds, v, A => ∃ a C dx fs, v = .ref a ∧ mg c = some (.ref C) ∧ H a = some (.ins C dx fs) ∧ A a ∧ fs.map (·.1) = ns ∧ Reps K mg H ds (fs.map (·.2)) (But A a)
  | .obj false c ns ds, v, _ => ∃ a C dx fs o, v = .ref a ∧ mg c = some (.ref C) ∧ H a = some (.frz o (.ins C dx fs)) ∧ fs.map (·.1) = ns ∧ Reps K mg H ds (fs.map (·.2)) E0
def Reps (K : PySem.W.Frag) (mg : Str → Option Value) (H : Hp) : List D → List V → AS → Prop
  | [], xs, _ => xs = []
  | d :: ds, xs, A => ∃ x ys A1 A2, xs = x :: ys ∧ Sub A1 A ∧ Sub A2 A ∧ Dj A1 A2 ∧ Rep K mg H d x A1 ∧ Reps K mg H ds ys A2
end

section
variable {K : PySem.W.Frag} {mg : Str → Option Value} {H H' : Hp}
theorem Sub.rfl {A : AS} : Sub A A := fun _ h => h
theorem Sub.trans {A B C : AS} (h : Sub A B) (g : Sub B C) : Sub A C := fun a x => g a (h a x)
theorem Sub.e0 {A : AS} : Sub E0 A := fun _ h => h.elim
theorem Sub.but {A B : AS} {a : Addr} (h : Sub A B) : Sub (But A a) (But B a) := fun b x => ⟨h b x.1, x.2⟩
theorem Dj.e0 {A : AS} : Dj E0 A := fun _ h => h.elim
theorem Dj.e0r {A : AS} : Dj A E0 := fun _ _ h => h.elim
theorem Dj.symm {A B : AS} (h : Dj A B) : Dj B A := fun a x y => h a y x
theorem Dj.sub {A B C E : AS} (h : Dj A B) (f : Sub C A) (g : Sub E B) : Dj C E := fun a x y => h a (f a x) (g a y)

/-- more room -/
theorem Reps.mono {ds : List D} {xs : List V} {A B : AS} (h : Reps K mg H ds xs A) (s : Sub A B) : Reps K mg H ds xs B := by
  cases ds with
  | nil => exact h
  | cons d ds =>
    obtain ⟨x, ys, A1, A2, e, s1, s2, j, h1, h2⟩ := h
    exact ⟨x, ys, A1, A2, e, s1.trans s, s2.trans s, j, h1, h2⟩
theorem Rep.mono {d : D} {v : V} {A B : AS} (h : Rep K mg H d v A) (s : Sub A B) : Rep K mg H d v B := by
  cases d with
  | un => trivial
  | non => exact h
  | bl => exact h
  | int => exact h
  | str => exact h
  | tup ds => obtain ⟨a, xs, e, q, r⟩ := h; exact ⟨a, xs, e, q, r.mono s⟩
  | rol ds => exact h
  | lst m ds =>
    cases m with
    | true => obtain ⟨a, xs, e, q, i, r⟩ := h; exact ⟨a, xs, e, q, s a i, r.mono s.but⟩
    | false => exact h
  | dic m ks ds =>
    cases m with
    | true => obtain ⟨a, o, kx, xs, e, q, z, i, rk, r⟩ := h; exact ⟨a, o, kx, xs, e, q, z, s a i, rk, r.mono s.but⟩
    | false => exact h
  | obj m c ns ds =>
    cases m with
    | true => obtain ⟨a, C, dx, fs, e, q, z, i, n, r⟩ := h; exact ⟨a, C, dx, fs, e, q, z, s a i, n, r.mono s.but⟩
    | false => exact h

/-- what never changes again -/
def Fix : HO → Prop
  | .tup _ => True
  | .frz _ _ => True
  | _ => False
/-- what is in A, and what never changes again, is kept -/
def Kp (A : AS) (H H' : Hp) : Prop := ∀ a o, H a = some o → (A a ∨ Fix o) → H' a = some o
theorem Kp.sub {A B : AS} (k : Kp A H H') (s : Sub B A) : Kp B H H' := fun a o e h => k a o e (h.elim (fun x => .inl (s a x)) .inr)
theorem Kp.fz {A : AS} (k : Kp A H H') : Kp E0 H H' := k.sub Sub.e0
theorem Kp.tupT {A : AS} (k : Kp A H H') {a : Addr} {xs : List V} (h : SqT K H a xs) : SqT K H' a xs := by
  rcases h with (h | ⟨o, h⟩) | h
  · exact .inl (.inl (k a _ h (.inr trivial)))
  · exact .inl (.inr ⟨o, k a _ h (.inr trivial)⟩)
  · exact .inr h
theorem Kp.fzL {A : AS} (k : Kp A H H') {a : Addr} {xs : List V} (h : FzL H a xs) : FzL H' a xs := by
  obtain ⟨o, h⟩ := h
  exact ⟨o, k a _ h (.inr trivial)⟩
theorem Kp.roL {A : AS} (k : Kp A H H') {a : Addr} {xs : List V} (h : RoL K H a xs) : RoL K H' a xs := by
  rcases h with h | h
  · exact .inl (k.fzL h)
  · exact .inr h
mutual
theorem Rep.keep : ∀ (d : D) {v : V} {A : AS}, Rep K mg H d v A → Kp A H H' → Rep K mg H' d v A
  | .un, _, _, _, _ => trivial
  | .non, _, _, h, _ => h
  | .bl _, _, _, h, _ => h
  | .int _, _, _, h, _ => h
  | .str _, _, _, h, _ => h
  | .tup ds, _, _, ⟨a, xs, e, q, r⟩, k => ⟨a, xs, e, k.tupT q, Reps.keep ds r k⟩
  | .rol ds, _, _, ⟨a, xs, e, q, r⟩, k => ⟨a, xs, e, k.roL q, Reps.keep ds r k.fz⟩
  | .lst true ds, _, _, ⟨a, xs, e, q, i, r⟩, k => ⟨a, xs, e, k a _ q (.inl i), i, Reps.keep ds r (k.sub fun _ h => h.1)⟩
  | .lst false ds, _, _, ⟨a, xs, e, q, r⟩, k => ⟨a, xs, e, k.fzL q, Reps.keep ds r k.fz⟩
  | .dic true ks ds, _, _, ⟨a, o, kx, xs, e, q, z, i, rk, r⟩, k => ⟨a, o, kx, xs, e, k a _ q (.inl i), z, i, Reps.keep ks rk k.fz, Reps.keep ds r (k.sub fun _ h => h.1)⟩
  | .dic false ks ds, _, _, ⟨a, ob, o, kx, xs, e, q, z, rk, r⟩, k => ⟨a, ob, o, kx, xs, e, k a _ q (.inr trivial), z, Reps.keep ks rk k.fz, Reps.keep ds r k.fz⟩
  | .obj true c ns ds, _, _, ⟨a, C, dx, fs, e, q, z, i, n, r⟩, k => ⟨a, C, dx, fs, e, q, k a _ z (.inl i), i, n, Reps.keep ds r (k.sub fun _ h => h.1)⟩
  | .obj false c ns ds, _, _, ⟨a, C, dx, fs, o, e, q, z, n, r⟩, k => ⟨a, C, dx, fs, o, e, q, k a _ z (.inr trivial), n, Reps.keep ds r k.fz⟩
theorem Reps.keep : ∀ (ds : List D) {xs : List V} {A : AS}, Reps K mg H ds xs A → Kp A H H' → Reps K mg H' ds xs A
  | [], _, _, h, _ => h
  | d :: ds, _, _, ⟨x, ys, A1, A2, e, s1, s2, j, h1, h2⟩, k => ⟨x, ys, A1, A2, e, s1, s2, j, Rep.keep d h1 (k.sub s1), Reps.keep ds h2 (k.sub s2)⟩
end
end

/-! ### freezing -/
mutual
def fz : D → D
  | .un => .un
  | .non => .non
  | .bl b => .bl b
  | .int i => .int i
  | .str x => .str x
  | .tup ds => .tup (fzs ds)
  | .rol ds => .rol ds
  | .lst _ ds => .lst false (fzs ds)
  | .dic _ ks ds => .dic false ks (fzs ds)
  | .obj _ c ns ds => .obj false c ns (fzs ds)
def fzs : List D → List D
  | [] => []
  | d :: ds => fz d :: fzs ds
end
/-! nothing in it may be changed -/
mutual
def pure? : D → Bool
  | .un => true
  | .non => true
  | .bl _ => true
  | .int _ => true
  | .str _ => true
  | .tup ds => pures? ds
  | .rol _ => true
  | .lst m _ => !m
  | .dic m _ _ => !m
  | .obj m _ _ _ => !m
def pures? : List D → Bool
  | [] => true
  | d :: ds => pure? d && pures? ds
end
section
variable {K : PySem.W.Frag} {mg : Str → Option Value} {H H' : Hp}
mutual
/-- what is fixed holds no room -/
theorem Rep.fixed : ∀ (d : D) {v : V} {A : AS}, pure? d = true → Rep K mg H d v A → Rep K mg H d v E0
  | .un, _, _, _, _ => trivial
  | .non, _, _, _, h => h
  | .bl _, _, _, _, h => h
  | .int _, _, _, _, h => h
  | .str _, _, _, _, h => h
  | .tup ds, _, _, p, ⟨a, xs, e, q, r⟩ => ⟨a, xs, e, q, Reps.fixed ds (by simpa [pure?] using p) r⟩
  | .rol ds, _, _, _, h => h
  | .lst true ds, _, _, p, _ => by simp [pure?] at p
  | .lst false ds, _, _, _, h => h
  | .dic true ks ds, _, _, p, _ => by simp [pure?] at p
  | .dic false ks ds, _, _, _, h => h
  | .obj true c ns ds, _, _, p, _ => by simp [pure?] at p
  | .obj false c ns ds, _, _, _, h => h
theorem Reps.fixed : ∀ (ds : List D) {xs : List V} {A : AS}, pures? ds = true → Reps K mg H ds xs A → Reps K mg H ds xs E0
  | [], _, _, _, h => h
  | d :: ds, _, _, p, ⟨x, ys, A1, A2, e, s1, s2, j, h1, h2⟩ => by
    have p1 : pure? d = true ∧ pures? ds = true := by simpa [pures?] using p
    exact ⟨x, ys, E0, E0, e, Sub.e0, Sub.e0, Dj.e0, Rep.fixed d p1.1 h1, Reps.fixed ds p1.2 h2⟩
end
/-- the objects of A are frozen in H' -/
structure Frz (A : AS) (H H' : Hp) : Prop where
  inn : ∀ a u, A a → H a = some u → Mut (some u) → ∃ o, H' a = some (.frz o u)
  out : ∀ a, ¬ A a → H' a = H a
  fix : ∀ a o, H a = some o → Fix o → H' a = some o
theorem mut_dic {o : HO} {kx xs : List V} (z : DicO o kx xs) : Mut (some o) := by
  obtain ⟨kvs, rfl, _⟩ := z
  trivial
theorem Frz.tupT {A : AS} (k : Frz A H H') {a : Addr} {xs : List V} (h : SqT K H a xs) : SqT K H' a xs := by
  rcases h with (h | ⟨o, h⟩) | h
  · exact .inl (.inl (k.fix a _ h trivial))
  · exact .inl (.inr ⟨o, k.fix a _ h trivial⟩)
  · exact .inr h
theorem Frz.kp {A : AS} (k : Frz A H H') : Kp (fun a => ¬ A a) H H' := fun a o e h => h.elim (fun n => (k.out a n).trans e) fun f => k.fix a o e f
mutual
theorem Rep.frz {A : AS} (f : Frz A H H') : ∀ (d : D) {v : V} {B : AS}, Rep K mg H d v B → Sub B A → Rep K mg H' (fz d) v E0
  | .un, _, _, _, _ => trivial
  | .non, _, _, h, _ => h
  | .bl _, _, _, h, _ => h
  | .int _, _, _, h, _ => h
  | .str _, _, _, h, _ => h
  | .tup ds, _, _, ⟨a, xs, e, q, r⟩, s => ⟨a, xs, e, f.tupT q, Reps.frz f ds r s⟩
  | .rol ds, _, _, ⟨a, xs, e, q, r⟩, s => ⟨a, xs, e, f.kp.roL q, Reps.keep ds r f.kp.fz⟩
  | .lst true ds, _, _, ⟨a, xs, e, q, i, r⟩, s => by
    obtain ⟨o, ho⟩ := f.inn a _ (s a i) q trivial
    exact ⟨a, xs, e, ⟨o, ho⟩, Reps.frz f ds r fun b h => s b h.1⟩
  | .lst false ds, _, _, ⟨a, xs, e, q, r⟩, s => ⟨a, xs, e, f.kp.fzL q, Reps.frz f ds r Sub.e0⟩
  | .dic true ks ds, _, _, ⟨a, o, kx, xs, e, q, z, i, rk, r⟩, s => by
    obtain ⟨ob, ho⟩ := f.inn a _ (s a i) q (mut_dic z)
    exact ⟨a, ob, o, kx, xs, e, ho, z, Reps.keep ks rk f.kp.fz, Reps.frz f ds r fun b h => s b h.1⟩
  | .dic false ks ds, _, _, ⟨a, ob, o, kx, xs, e, q, z, rk, r⟩, s => ⟨a, ob, o, kx, xs, e, f.fix a _ q trivial, z, Reps.keep ks rk f.kp.fz, Reps.frz f ds r Sub.e0⟩
  | .obj true c ns ds, _, _, ⟨a, C, dx, fs, e, q, z, i, n, r⟩, s => by
    obtain ⟨o, ho⟩ := f.inn a _ (s a i) z trivial
    exact ⟨a, C, dx, fs, o, e, q, ho, n, Reps.frz f ds r fun b h => s b h.1⟩
  | .obj false c ns ds, _, _, ⟨a, C, dx, fs, o, e, q, z, n, r⟩, s => ⟨a, C, dx, fs, o, e, q, f.fix a _ z trivial, n, Reps.frz f ds r Sub.e0⟩
theorem Reps.frz {A : AS} (f : Frz A H H') : ∀ (ds : List D) {xs : List V} {B : AS}, Reps K mg H ds xs B → Sub B A → Reps K mg H' (fzs ds) xs E0
  | [], _, _, h, _ => h
  | d :: ds, _, _, ⟨x, ys, A1, A2, e, s1, s2, j, h1, h2⟩, s => ⟨x, ys, E0, E0, e, Sub.e0, Sub.e0, Dj.e0, Rep.frz f d h1 (s1.trans s), Reps.frz f ds h2 (s2.trans s)⟩
end
end
/-- the memory with the objects of A frozen, as they stand in h -/
noncomputable def frzH (A : AS) (h : Heap) (H : Hp) : Hp := fun a =>
  open Classical in
  if A a ∧ Mut (H a) then (match H a, h.get? a with | some u, some o => some (.frz o u) | x, _ => x) else H a
section
variable {P : Program} {w : World} {H : Hp} {h : Heap}
theorem frzH_cases (ok : HOk P w H h) (A : AS) (a : Addr) : frzH A h H a = H a ∨ ∃ u o, H a = some u ∧ Mut (some u) ∧ h.get? a = some o ∧ frzH A h H a = some (.frz o u) ∧ A a := by
  unfold frzH
  by_cases c : A a ∧ Mut (H a)
  · rw [if_pos c]
    cases e : H a with
    | none => simp
    | some u =>
      obtain ⟨o, ho⟩ := objOk_get (ok a u e)
      rw [ho]
      refine .inr ⟨u, o, rfl, ?_, rfl, rfl, c.1⟩
      rw [← e]; exact c.2
  · rw [if_neg c]; exact .inl rfl
theorem frzH_frz (ok : HOk P w H h) (A : AS) : Frz A H (frzH A h H) where
  inn := fun a u ha e m => by
    obtain ⟨o, ho⟩ := objOk_get (ok a u e)
    refine ⟨o, ?_⟩
    unfold frzH
    rw [if_pos ⟨ha, by rw [e]; exact m⟩, e, ho]
  out := fun a na => by unfold frzH; rw [if_neg fun c => na c.1]
  fix := fun a o e f => by
    have nm : ¬ Mut (H a) := by rw [e]; cases o <;> first | exact fun z => z | exact f.elim
    unfold frzH
    rw [if_neg fun c => nm c.2, e]
/-- a frozen memory is held -/
theorem frz_ok (ok : HOk P w H h) (A : AS) : HOk P w (frzH A h H) h := fun a u e => by
  have ho : ∀ b x, H b = some (.own x) → frzH A h H b = some (.own x) := fun b x q => by
    unfold frzH
    rw [if_neg (fun c => by have := c.2; rw [q] at this; exact this), q]
  have ht : ∀ b xs, H b = some (.tup xs) → frzH A h H b = some (.tup xs) := fun b xs q => (frzH_frz ok A).fix b _ q trivial
  rcases frzH_cases ok A a with q | ⟨v, o, e1, _, e2, q, _⟩
  · rw [q] at e
    exact (ok a u e).stay (fun b v _ z => z) (fun b => ho b a) ht
  · rw [q] at e
    cases e
    exact ⟨e2, (ok a v e1).stay (fun b v _ z => z) (fun b => ho b a) ht⟩
end
theorem _root_.L2.Inv.frozen {X : Cx} {pins : List (Addr × Obj)} {σ : L2.St} {H : Hp} {s : Shared} (I : Inv X pins σ H s) (A : AS) : Inv X pins σ (frzH A s.heap H) s := by
  have f := frzH_frz I.hok A
  have none' : ∀ b, H b = none → frzH A s.heap H b = none := fun b e => by
    unfold frzH
    rw [if_neg (fun c => by have := c.2; rw [e] at this; exact this), e]
  have tbl : ∀ b ps, H b = some (.tbl ps) → frzH A s.heap H b = some (.tbl ps) := fun b ps e => by
    unfold frzH
    rw [if_neg (fun c => by have := c.2; rw [e] at this; exact this), e]
  refine ⟨I.ok, I.os, I.bare, ⟨I.base.keep, I.base.slot, fun b o e n x => none' b (I.base.free b o e n x), I.base.there, fun b xs e => f.fix b _ (I.base.tups b xs e) trivial,
    fun b o u e => f.fix b _ (I.base.frzs b o u e) trivial, fun b ps e => ?_⟩, I.loc, I.cell, none' _ I.free, fun x c e => none' c (I.freeC x c e), fun p hp => ?_, frz_ok I.hok A, I.len⟩
  · obtain ⟨m, q⟩ := I.base.tbls b ps e
    exact ⟨m, tbl b _ q⟩
  · obtain ⟨a, b, c⟩ := I.pin p hp
    exact ⟨a, none' _ b, c⟩
end VS
set_option Elab.async false
set_option linter.all false
set_option maxRecDepth 100000
set_option maxHeartbeats 4000000
/-! VS2: what evaluating gives, by value; expressions. -/
namespace VS
open PySem PySem.Spec PyProof.Rows L2

inductive Res (α : Type) where
  | ok (a : α) (ρ : List D)
  | ex (z : Str) (ρ : List D)
  | bad
/-- from the slots' data: the value, the slots' data behind it -/
abbrev M (α : Type) := List D → Res α
abbrev EM := M D
def Res.bind {α β : Type} (r : Res α) (f : α → List D → Res β) : Res β :=
  match r with
  | .ok a ρ => f a ρ
  | .ex z ρ => .ex z ρ
  | .bad => .bad
@[simp] theorem Res.bind_ok {α β : Type} {a : α} {ρ : List D} {f : α → List D → Res β} : (Res.ok a ρ).bind f = f a ρ := (Eq.refl _).trans rfl
@[simp] theorem Res.bind_ex {α β : Type} {z : Str} {ρ : List D} {f : α → List D → Res β} : (Res.ex z ρ).bind f = .ex z ρ := (Eq.refl _).trans rfl
@[simp] theorem Res.bind_bad {α β : Type} {f : α → List D → Res β} : (Res.bad : Res α).bind f = .bad := (Eq.refl _).trans rfl
/-- a partial function's answer -/
def Res.of {α : Type} (o : Option α) (ρ : List D) : Res α :=
  match o with
  | some a => .ok a ρ
  | none => .bad
@[simp] theorem Res.of_some {α : Type} {a : α} {ρ : List D} : Res.of (some a) ρ = .ok a ρ := (Eq.refl _).trans rfl
@[simp] theorem Res.of_none {α : Type} {ρ : List D} : Res.of (none : Option α) ρ = .bad := (Eq.refl _).trans rfl

def Live (H : Hp) (A : AS) : Prop := ∀ a, A a → ∃ u, H a = some u ∧ Mut (some u)
theorem Live.e0 {H : Hp} : Live H E0 := fun _ h => h.elim
theorem Live.sub {H : Hp} {A B : AS} (h : Live H A) (s : Sub B A) : Live H B := fun a x => h a (s a x)
theorem Live.keep {H H' : Hp} {A : AS} (h : Live H A) (k : Kp A H H') : Live H' A := fun a x => by
  obtain ⟨u, e, m⟩ := h a x
  exact ⟨u, k a u e (.inl x), m⟩
theorem Live.nfix {H : Hp} {A : AS} (h : Live H A) {a : Addr} {o : HO} (e : H a = some o) (f : Fix o) : ¬ A a := fun x => by
  obtain ⟨u, e', m⟩ := h a x
  rw [e] at e'; cases e'
  cases o <;> first | exact m | exact f

def RepO (K : PySem.W.Frag) (mg : Str → Option Value) (H : Hp) (d : D) (o : Option V) (A : AS) : Prop :=
  match o with
  | some v => Rep K mg H d v A
  | none => d = .un
/-- the slots' data stand for the slots' values; slot j's own room is F j -/
structure ER (K : PySem.W.Frag) (mg : Str → Option Value) (H : Hp) (ρ : List D) (σ : L2.St) (F : Nat → AS) : Prop where
  len : ρ.length = σ.length
  get : ∀ (j : Nat) (d : D), ρ[j]? = some d → ∃ o, σ[j]? = some o ∧ RepO K mg H d o (F j)
  dj : ∀ j k, j ≠ k → Dj (F j) (F k)
  live : ∀ j, Live H (F j)
/-- behind a step that touches the slots S -/
structure Aft (S : List Nat) (H : Hp) (F : Nat → AS) (H' : Hp) (F' : Nat → AS) : Prop where
  keep : ∀ a o, H a = some o → (∀ j ∈ S, ¬ F j a) → H' a = some o
  same : ∀ j, j ∉ S → Sub (F' j) (F j)
  sub : ∀ j, j ∈ S → ∀ a, F' j a → (∃ k, k ∈ S ∧ F k a) ∨ H a = none
  dom : ∀ a, H' a = none → H a = none
/-- .. that gives a value whose own room is T -/
structure Got (S : List Nat) (H : Hp) (F : Nat → AS) (H' : Hp) (F' : Nat → AS) (T : AS) : Prop extends Aft S H F H' F' where
  new : ∀ a, T a → (∃ k, k ∈ S ∧ F k a) ∨ H a = none
  dj : ∀ j, Dj T (F' j)
  live : Live H' T
/-- behind a step upon values that stand in A, giving a value in T -/
structure AftT (A : AS) (H H' : Hp) (T : AS) : Prop where
  keep : ∀ a o, H a = some o → ¬ A a → H' a = some o
  sub : ∀ a, T a → A a ∨ H a = none
  live : Live H' T
  dom : ∀ a, H' a = none → H a = none

section
variable {K : PySem.W.Frag} {mg : Str → Option Value} {H H' H'' : Hp} {ρ ρ' ρ'' : List D} {σ : L2.St} {F F' F'' : Nat → AS} {T T1 T' A : AS} {S S' : List Nat}
theorem Aft.refl : Aft S H F H F := ⟨fun _ _ e _ => e, fun _ _ => Sub.rfl, fun j hj a h => .inl ⟨j, hj, h⟩, fun _ e => e⟩
theorem Got.refl : Got S H F H F E0 := ⟨Aft.refl, fun _ h => h.elim, fun _ => Dj.e0, Live.e0⟩
theorem Aft.more (g : Aft S H F H' F') (s : ∀ j, j ∈ S → j ∈ S') : Aft S' H F H' F' where
  keep := fun a o e n => g.keep a o e fun j hj => n j (s j hj)
  same := fun j hj => g.same j fun h => hj (s j h)
  sub := fun j hj a h => by
    by_cases c : j ∈ S
    · rcases g.sub j c a h with ⟨k, hk, x⟩ | x
      · exact .inl ⟨k, s k hk, x⟩
      · exact .inr x
    · exact .inl ⟨j, hj, g.same j c a h⟩
  dom := g.dom
theorem Got.more (g : Got S H F H' F' T) (s : ∀ j, j ∈ S → j ∈ S') : Got S' H F H' F' T :=
  ⟨g.toAft.more s, fun a h => (g.new a h).imp (fun ⟨k, hk, x⟩ => ⟨k, s k hk, x⟩) id, g.dj, g.live⟩
/-- what stood, back through a step -/
theorem Aft.back (g : Aft S H F H' F') {k : Nat} {a : Addr} (h : F' k a) : (∃ k, k ∈ S ∧ F k a) ∨ F k a ∨ H a = none := by
  by_cases c : k ∈ S
  · rcases g.sub k c a h with x | x
    · exact .inl x
    · exact .inr (.inr x)
  · exact .inr (.inl (g.same k c a h))
theorem Aft.trans (g : Aft S H F H' F') (g' : Aft S' H' F' H'' F'') : Aft (S ++ S') H F H'' F'' := by
  have back : ∀ k a, F' k a → k ∈ S ++ S' → (∃ k, k ∈ S ++ S' ∧ F k a) ∨ H a = none := fun k a hk c => by
    rcases g.back hk with ⟨i, hi, x⟩ | x | x
    · exact .inl ⟨i, List.mem_append_left _ hi, x⟩
    · exact .inl ⟨k, c, x⟩
    · exact .inr x
  refine ⟨fun a o e n => ?_, fun j hj a h => g.same j (fun x => hj (List.mem_append_left _ x)) a (g'.same j (fun x => hj (List.mem_append_right _ x)) a h), fun j hj a h => ?_, fun a e => g.dom a (g'.dom a e)⟩
  · have e1 := g.keep a o e fun j hj => n j (List.mem_append_left _ hj)
    refine g'.keep a o e1 fun j hj h => ?_
    rcases g.back h with ⟨i, hi, x⟩ | x | x
    · exact n i (List.mem_append_left _ hi) x
    · exact n j (List.mem_append_right _ hj) x
    · rw [e] at x; cases x
  · rcases g'.back h with ⟨k, hk, x⟩ | x | x
    · exact back k a x (List.mem_append_right _ hk)
    · exact back j a x hj
    · exact .inr (g.dom a x)
/-- a pending value is kept through a step -/
theorem Aft.kp (g : Aft S H F H' F') (er : ER K mg H ρ σ F) (d : ∀ j, Dj T1 (F j)) : Kp T1 H H' := fun a o e h =>
  g.keep a o e fun j _ x => h.elim (fun y => d j a y x) fun f => (er.live j).nfix e f x
theorem Aft.djP (g : Aft S H F H' F') (l : Live H T1) (d : ∀ j, Dj T1 (F j)) (j : Nat) : Dj T1 (F' j) := fun a y x => by
  rcases g.back x with ⟨i, _, z⟩ | z | z
  · exact d i a y z
  · exact d j a y z
  · obtain ⟨u, e, _⟩ := l a y
    rw [e] at z; cases z
theorem Got.djT (g : Got S H F H' F' T) (l : Live H T1) (d : ∀ j, Dj T1 (F j)) : Dj T1 T := fun a y x => by
  rcases g.new a x with ⟨i, _, z⟩ | z
  · exact d i a y z
  · obtain ⟨u, e, _⟩ := l a y
    rw [e] at z; cases z
/-- a step upon a pending value, behind a step -/
theorem Got.step (g : Aft S H F H' F') (er' : ER K mg H' ρ' σ F') (dT : ∀ j, Dj A (F' j)) (hA : ∀ a, A a → (∃ k, k ∈ S ∧ F k a) ∨ H a = none) (t : AftT A H' H'' T) : Got S H F H'' F' T := by
  refine ⟨⟨fun a o e n => ?_, g.same, g.sub, fun a e => g.dom a (t.dom a e)⟩, fun a h => ?_, fun j a h x => ?_, t.live⟩
  · refine t.keep a o (g.keep a o e n) fun h => ?_
    rcases hA a h with ⟨k, hk, x⟩ | x
    · exact n k hk x
    · rw [e] at x; cases x
  · rcases t.sub a h with x | x
    · exact hA a x
    · exact .inr (g.dom a x)
  · rcases t.sub a h with y | y
    · exact dT j a y x
    · obtain ⟨u, e, _⟩ := er'.live j a x
      rw [e] at y; cases y
/-- the slots are kept through a step upon pending values -/
theorem ER.step (er : ER K mg H ρ σ F) (lA : Live H A) (dT : ∀ j, Dj A (F j)) (t : AftT A H H' T) : ER K mg H' ρ σ F := by
  have kp : ∀ j, Kp (F j) H H' := fun j a o e h => t.keep a o e fun x => h.elim (fun y => dT j a x y) fun f => lA.nfix e f x
  refine ⟨er.len, fun j d e => ?_, er.dj, fun j => (er.live j).keep (kp j)⟩
  obtain ⟨o, e1, r⟩ := er.get j d e
  refine ⟨o, e1, ?_⟩
  cases o with
  | none => exact r
  | some v => exact Rep.keep d r (kp j)
/-- a slot's data, and the rest without it -/
theorem ER.take (er : ER K mg H ρ σ F) {i : Nat} {d : D} (e : ρ[i]? = some d) (A : AS := E0) : ER K mg H (ρ.set i .un) σ (fun j => if j = i then E0 else F j) := by
  refine ⟨by rw [List.length_set]; exact er.len, fun j c q => ?_, fun j k n => ?_, fun j => ?_⟩
  · by_cases h : j = i
    · subst h
      have lt : j < ρ.length := (List.getElem?_eq_some_iff.mp e).1
      rw [List.getElem?_set_self lt] at q
      cases q
      obtain ⟨o, e1, r⟩ := er.get j d e
      refine ⟨o, e1, ?_⟩
      cases o with
      | none => rfl
      | some v => trivial
    · rw [List.getElem?_set_ne (Ne.symm h)] at q
      obtain ⟨o, e1, r⟩ := er.get j c q
      refine ⟨o, e1, ?_⟩
      rw [if_neg h]; exact r
  · by_cases h : j = i
    · rw [if_pos h]; exact Dj.e0
    · rw [if_neg h]
      by_cases h' : k = i
      · rw [if_pos h']; exact Dj.e0r
      · rw [if_neg h']; exact er.dj j k n
  · by_cases h : j = i
    · rw [if_pos h]; exact Live.e0
    · rw [if_neg h]; exact er.live j
/-- a slot is given a value -/
theorem ER.put (er : ER K mg H ρ σ F) {i : Nat} {d : D} {v : V} (lt : i < ρ.length) (r : Rep K mg H d v T) (l : Live H T) (dj : ∀ j, Dj T (F j)) : ER K mg H (ρ.set i d) (σ.set i (some v)) (fun j => if j = i then T else F j) := by
  refine ⟨by rw [List.length_set, List.length_set]; exact er.len, fun j c q => ?_, fun j k n => ?_, fun j => ?_⟩
  · by_cases h : j = i
    · subst h
      rw [List.getElem?_set_self lt] at q
      cases q
      refine ⟨some v, by rw [List.getElem?_set_self (by rw [← er.len]; exact lt)], ?_⟩
      rw [if_pos rfl]; exact r
    · rw [List.getElem?_set_ne (Ne.symm h)] at q
      obtain ⟨o, e1, r⟩ := er.get j c q
      refine ⟨o, by rw [List.getElem?_set_ne (Ne.symm h)]; exact e1, ?_⟩
      rw [if_neg h]; exact r
  · by_cases h : j = i
    · rw [if_pos h, if_neg (by omega)]; exact dj k
    · rw [if_neg h]
      by_cases h' : k = i
      · rw [if_pos h']; exact (dj j).symm
      · rw [if_neg h']; exact er.dj j k n
  · by_cases h : j = i
    · rw [if_pos h]; exact l
    · rw [if_neg h]; exact er.live j
/-- the slot's value stays the same object, its data are told anew -/
theorem ER.again (er : ER K mg H ρ σ F) {i : Nat} {d : D} {v : V} (e : σ[i]? = some (some v)) (r : Rep K mg H d v T) (l : Live H T) (dj : ∀ j, j ≠ i → Dj T (F j)) : ER K mg H (ρ.set i d) σ (fun j => if j = i then T else F j) := by
  have lt : i < ρ.length := by rw [er.len]; exact (List.getElem?_eq_some_iff.mp e).1
  refine ⟨by rw [List.length_set]; exact er.len, fun j c q => ?_, fun j k n => ?_, fun j => ?_⟩
  · by_cases h : j = i
    · subst h
      rw [List.getElem?_set_self lt] at q
      cases q
      refine ⟨some v, e, ?_⟩
      rw [if_pos rfl]; exact r
    · rw [List.getElem?_set_ne (Ne.symm h)] at q
      obtain ⟨o, e1, r⟩ := er.get j c q
      refine ⟨o, e1, ?_⟩
      rw [if_neg h]; exact r
  · by_cases h : j = i
    · rw [if_pos h, if_neg (by omega)]; exact dj k (by omega)
    · rw [if_neg h]
      by_cases h' : k = i
      · rw [if_pos h']; exact (dj j h).symm
      · rw [if_neg h']; exact er.dj j k n
  · by_cases h : j = i
    · rw [if_pos h]; exact l
    · rw [if_neg h]; exact er.live j
end

/-! ### the judgement of an expression -/
/-- the reading: m tells the value and the slots' data behind -/
def TV (K : PySem.W.Frag) (mg : Str → Option Value) (eC : Addr) (W : WX) (S : List Nat) (m : EM) : TE := fun σ H Q => ∃ ρ F, ER K mg H ρ σ F ∧
  match m ρ with
  | .ok d ρ' => ∀ v H' F' T, ER K mg H' ρ' σ F' → Rep K mg H' d v T → Got S H F H' F' T → Q v H'
  | .ex z ρ' => ∀ dd H' F', ER K mg H' ρ' σ F' → H' dd = some (.xd [("reason", .str z)]) → Aft S H F H' F' → W (.ref eC) (some dd) σ H'
  | .bad => False
abbrev VE (X : Cx) (eC : Addr) (W : WX) (S : List Nat) (e : Expr) (m : EM) : Prop := PE X e (TV X.K X.mg eC W S m)
/-- .. of an argument list -/
def TVs (K : PySem.W.Frag) (mg : Str → Option Value) (eC : Addr) (W : WX) (S : List Nat) (m : M (List D)) : TA := fun σ H Q => ∃ ρ F, ER K mg H ρ σ F ∧
  match m ρ with
  | .ok ds ρ' => ∀ vs H' F' T, ER K mg H' ρ' σ F' → Reps K mg H' ds vs T → Got S H F H' F' T → Q vs H'
  | .ex z ρ' => ∀ dd H' F', ER K mg H' ρ' σ F' → H' dd = some (.xd [("reason", .str z)]) → Aft S H F H' F' → W (.ref eC) (some dd) σ H'
  | .bad => False
abbrev VA (X : Cx) (eC : Addr) (W : WX) (S : List Nat) (es : List Expr) (m : M (List D)) : Prop := PA X es (TVs X.K X.mg eC W S m)
/-- .. of a test, of a slice's part -/
def TVt {α : Type} (K : PySem.W.Frag) (mg : Str → Option Value) (eC : Addr) (W : WX) (S : List Nat) (m : M α) : L2.St → Hp → (α → Hp → Prop) → Prop := fun σ H Q => ∃ ρ F, ER K mg H ρ σ F ∧
  match m ρ with
  | .ok b ρ' => ∀ H' F', ER K mg H' ρ' σ F' → Aft S H F H' F' → Q b H'
  | .ex z ρ' => ∀ dd H' F', ER K mg H' ρ' σ F' → H' dd = some (.xd [("reason", .str z)]) → Aft S H F H' F' → W (.ref eC) (some dd) σ H'
  | .bad => False
abbrev VT (X : Cx) (eC : Addr) (W : WX) (S : List Nat) (e : Expr) (m : M Bool) : Prop := PT X e (TVt X.K X.mg eC W S m)

theorem PE.imp {X : Cx} {e : Expr} {t t' : TE} (h : PE X e t) (i : ∀ σ H Q, t' σ H Q → t σ H Q) : PE X e t' := ⟨fun pins s σ H Q I q => h.run pins s σ H Q I (i σ H Q q)⟩
theorem PT.imp {X : Cx} {e : Expr} {t t' : TT} (h : PT X e t) (i : ∀ σ H Q, t' σ H Q → t σ H Q) : PT X e t' := ⟨fun pins s σ H Q I q => h.run pins s σ H Q I (i σ H Q q)⟩
theorem PA.imp {X : Cx} {es : List Expr} {t t' : TA} (h : PA X es t) (i : ∀ σ H Q, t' σ H Q → t σ H Q) : PA X es t' := ⟨fun pos pins s σ H Q I q => h.run pos pins s σ H Q I (i σ H Q q)⟩
theorem PS.imp {X : Cx} {st : Stmt} {t t' : TS} (h : PS X st t) (i : ∀ D σ H, t' D σ H → t D σ H) : PS X st t' := ⟨fun pins s σ H Q I q => h.run pins s σ H Q I (i Q σ H q)⟩
theorem PSs.imp {X : Cx} {st : List Stmt} {t t' : TS} (h : PSs X st t) (i : ∀ D σ H, t' D σ H → t D σ H) : PSs X st t' := ⟨fun pins s σ H Q I q => h.run pins s σ H Q I (i Q σ H q)⟩
/-- behind an expression its reader may freeze what he likes -/
theorem PE.frz {X : Cx} {e : Expr} {t : TE} (h : PE X e t) : PE X e (fun σ H Q => t σ H fun v H1 => ∃ A : AS, ∀ H2, Frz A H1 H2 → Q v H2) := ⟨fun pins s σ H Q I q =>
  thn (h.run pins s σ H _ I q) fun u s1 ⟨v, H1, I1, r, A, k⟩ => ⟨v, frzH A s1.heap H1, I1.frozen A, r, k _ (frzH_frz I1.hok A)⟩⟩

section
variable {X : Cx} {eC : Addr} {W : WX} {S S1 S2 S3 : List Nat}
theorem VE.more {e : Expr} {m : EM} (h : VE X eC W S e m) (s : ∀ j, j ∈ S → j ∈ S1) : VE X eC W S1 e m := PE.imp h fun σ H Q ⟨ρ, F, er, q⟩ => ⟨ρ, F, er, by
  cases e1 : m ρ with
  | ok d ρ' => rw [e1] at q; exact fun v H' F' T er' r g => q v H' F' T er' r (g.more s)
  | ex z ρ' => rw [e1] at q; exact fun dd H' F' er' r g => q dd H' F' er' r (g.more s)
  | bad => rw [e1] at q; exact q⟩

/-! ### constants, names -/
theorem ve_const {e : Expr} {v : V} {d : D} (h : PE X e (tC v)) (r : ∀ H, Rep X.K X.mg H d v E0) : VE X eC W [] e (fun ρ => .ok d ρ) :=
  PE.imp h fun σ H Q ⟨ρ, F, er, q⟩ => q v H F E0 er (r H) .refl
theorem ve_int {i j pos} : VE X eC W [] (.Constant (.int i) j pos) (fun ρ => .ok (.int i) ρ) := ve_const pe_int fun _ => rfl
theorem ve_bl {b j pos} : VE X eC W [] (.Constant (.bool b) j pos) (fun ρ => .ok (.bl b) ρ) := ve_const pe_bl fun _ => rfl
theorem ve_non {j pos} : VE X eC W [] (.Constant .none j pos) (fun ρ => .ok .non ρ) := ve_const pe_non fun _ => rfl
theorem ve_str {x j pos} : VE X eC W [] (.Constant (.str x) j pos) (fun ρ => .ok (.str x) ρ) := ve_const pe_str fun _ => rfl

def has? : D → Bool
  | .un => false
  | _ => true
theorem has_of {K : PySem.W.Frag} {mg : Str → Option Value} {H : Hp} {d : D} {o : Option V} {A : AS} (h : has? d = true) (r : RepO K mg H d o A) : ∃ v, o = some v ∧ Rep K mg H d v A := by
  cases o with
  | none =>
    have e : d = .un := r
    subst e
    cases h
  | some v => exact ⟨v, rfl, r⟩
/-- a name is read; what it holds can't be changed -/
def rd (i : Nat) : EM := fun ρ => match ρ[i]? with
  | some d => if has? d && pure? d then .ok d ρ else .bad
  | none => .bad
theorem ve_rd {e : Expr} {i : Nat} (h : PE X e (tVar i)) : VE X eC W [] e (rd i) := PE.imp h fun σ H Q ⟨ρ, F, er, q⟩ => by
  unfold rd at q
  cases e1 : ρ[i]? with
  | none => rw [e1] at q; exact q.elim
  | some d =>
    rw [e1] at q
    dsimp only at q
    by_cases c : (has? d && pure? d) = true
    · rw [if_pos c] at q
      obtain ⟨o, e2, r⟩ := er.get i d e1
      simp only [Bool.and_eq_true] at c
      obtain ⟨v, rfl, r⟩ := has_of c.1 r
      exact ⟨v, e2, q v H F E0 er (Rep.fixed d c.2 r) .refl⟩
    · rw [if_neg c] at q; exact q.elim
/-- a name's data are taken out of it -/
def mv (i : Nat) : EM := fun ρ => match ρ[i]? with
  | some d => if has? d then .ok d (ρ.set i .un) else .bad
  | none => .bad
theorem ve_mv {e : Expr} {i : Nat} (h : PE X e (tVar i)) : VE X eC W [i] e (mv i) := PE.imp h fun σ H Q ⟨ρ, F, er, q⟩ => by
  unfold mv at q
  cases e1 : ρ[i]? with
  | none => rw [e1] at q; exact q.elim
  | some d =>
    rw [e1] at q
    dsimp only at q
    by_cases c : has? d = true
    · rw [if_pos c] at q
      obtain ⟨o, e2, r⟩ := er.get i d e1
      obtain ⟨v, rfl, r⟩ := has_of c r
      refine ⟨v, e2, q v H _ (F i) (er.take e1) r ⟨⟨fun _ _ e _ => e, fun j hj => ?_, fun j hj a h => ?_, fun _ e => e⟩, fun a h => .inl ⟨i, List.mem_singleton.mpr rfl, h⟩, fun j => ?_, er.live i⟩⟩
      · rw [if_neg (fun z => hj (List.mem_singleton.mpr z))]; exact Sub.rfl
      · rw [if_pos (List.mem_singleton.mp hj)] at h; exact h.elim
      · by_cases z : j = i
        · rw [if_pos z]; exact Dj.e0r
        · rw [if_neg z]; exact er.dj i j (Ne.symm z)
    · rw [if_neg c] at q; exact q.elim
/-- a name is read, and what it holds is frozen -/
def fzv (i : Nat) : EM := fun ρ => match ρ[i]? with
  | some d => if has? d then .ok (fz d) (ρ.set i (fz d)) else .bad
  | none => .bad
theorem ve_fz {e : Expr} {i : Nat} (h : PE X e (tVar i)) : VE X eC W [i] e (fzv i) := PE.imp (PE.frz h) fun σ H Q ⟨ρ, F, er, q⟩ => by
  unfold fzv at q
  cases e1 : ρ[i]? with
  | none => rw [e1] at q; exact q.elim
  | some d =>
    rw [e1] at q
    dsimp only at q
    by_cases c : has? d = true
    · rw [if_pos c] at q
      obtain ⟨o, e2, r⟩ := er.get i d e1
      obtain ⟨v, rfl, r⟩ := has_of c r
      refine ⟨v, e2, F i, fun H2 f => ?_⟩
      have rf := Rep.frz f d r Sub.rfl
      have kp : ∀ j, j ≠ i → Kp (F j) H H2 := fun j n => f.kp.sub fun a x y => er.dj j i n a x y
      have er2 : ER X.K X.mg H2 (ρ.set i (fz d)) σ (fun j => if j = i then E0 else F j) := by
        have er0 := er.take e1
        have er1 : ER X.K X.mg H2 (ρ.set i .un) σ (fun j => if j = i then E0 else F j) := by
          refine ⟨er0.len, fun j d' e' => ?_, er0.dj, fun j => ?_⟩
          · obtain ⟨o, e3, r3⟩ := er0.get j d' e'
            refine ⟨o, e3, ?_⟩
            by_cases z : j = i
            · subst z
              have lt : j < ρ.length := (List.getElem?_eq_some_iff.mp e1).1
              rw [List.getElem?_set_self lt] at e'
              cases e'
              cases o <;> trivial
            · rw [if_neg z] at r3 ⊢
              cases o with
              | none => exact r3
              | some v' => exact Rep.keep d' r3 (kp j z)
          · by_cases z : j = i
            · rw [if_pos z]; exact Live.e0
            · rw [if_neg z]; exact (er.live j).keep (kp j z)
        have := er1.again (i := i) (d := fz d) e2 rf Live.e0 (fun j _ => Dj.e0)
        rw [List.set_set] at this
        refine ⟨this.len, fun j d' e' => ?_, er1.dj, er1.live⟩
        obtain ⟨o, e3, r3⟩ := this.get j d' e'
        refine ⟨o, e3, ?_⟩
        by_cases z : j = i
        · rw [if_pos z] at r3 ⊢; exact r3
        · rw [if_neg z] at r3 ⊢
          simpa only [if_neg z] using r3
      refine q v H2 _ E0 er2 rf ⟨⟨fun a o e n => (f.out a (n i (List.mem_singleton.mpr rfl))).trans e, fun j hj => ?_, fun j hj a h => ?_, fun a e => ?_⟩, fun a h => h.elim, fun j => Dj.e0, Live.e0⟩
      · rw [if_neg (fun z => hj (List.mem_singleton.mpr z))]; exact Sub.rfl
      · rw [if_pos (List.mem_singleton.mp hj)] at h; exact h.elim
      · by_cases x : F i a
        · obtain ⟨u, e', m⟩ := er.live i a x
          obtain ⟨o, e3⟩ := f.inn a u x e' m
          rw [e] at e3; cases e3
        · rw [f.out a x] at e; exact e
    · rw [if_neg c] at q; exact q.elim
end
end VS
set_option Elab.async false
set_option linter.all false
set_option maxRecDepth 100000
set_option maxHeartbeats 4000000
/-! VS3: putting expressions together. -/
namespace VS
open PySem PySem.Spec PyProof.Rows L2

abbrev Un2 (A B : AS) : AS := fun a => A a ∨ B a
section
variable {K : PySem.W.Frag} {mg : Str → Option Value} {H H' H'' : Hp} {ρ ρ' ρ'' : List D} {σ : L2.St} {F F' F'' : Nat → AS} {T T1 T2 T' A B : AS} {S S' S1 S2 : List Nat} {p : Addr} {o : HO}
theorem AftT.refl : AftT A H H E0 := ⟨fun _ _ e _ => e, fun _ h => h.elim, Live.e0, fun _ e => e⟩
theorem AftT.same (l : Live H T) (s : Sub T A) : AftT A H H T := ⟨fun _ _ e _ => e, fun a h => .inl (s a h), l, fun _ e => e⟩
theorem kp_new (np : H p = none) : Kp A H (upd H p o) := fun a u e _ => by
  rw [upd_ne (ne_of_none e np)]; exact e
theorem AftT.newF (np : H p = none) (l : Live H T) (s : Sub T A) : AftT A H (upd H p o) T :=
  ⟨fun a u e _ => by rw [upd_ne (ne_of_none e np)]; exact e, fun a h => .inl (s a h), l.keep (kp_new np), fun a e => by
    by_cases h : a = p
    · subst h; exact np
    · rw [upd_ne h] at e; exact e⟩
theorem AftT.new (np : H p = none) (m : Mut (some o)) (l : Live H T) (s : Sub T A) : AftT A H (upd H p o) (fun a => T a ∨ a = p) where
  keep := fun a u e _ => by rw [upd_ne (ne_of_none e np)]; exact e
  sub := fun a h => h.elim (fun x => .inl (s a x)) fun e => .inr (by rw [e]; exact np)
  live := fun a h => by
    rcases h with h | rfl
    · exact l.keep (kp_new np) a h
    · exact ⟨o, upd_same, m⟩
  dom := (AftT.newF (A := A) np l s).dom
theorem AftT.more (t : AftT A H H' T) (s : Sub A B) : AftT B H H' T := ⟨fun a o e n => t.keep a o e fun x => n (s a x), fun a h => (t.sub a h).imp (s a) id, t.live, t.dom⟩
theorem AftT.kp (t : AftT A H H' T) (l : Live H A) (d : Dj T1 A) : Kp T1 H H' := fun a o e h => t.keep a o e fun x => h.elim (fun y => d a y x) fun f => l.nfix e f x
theorem AftT.djP (t : AftT A H H' T) (l1 : Live H T1) (d : Dj T1 A) : Dj T1 T := fun a x y => by
  rcases t.sub a y with z | z
  · exact d a x z
  · obtain ⟨u, e, _⟩ := l1 a x
    rw [e] at z; cases z
theorem AftT.trans (t : AftT A H H' T) (t' : AftT T H' H'' T') : AftT A H H'' T' where
  keep := fun a o e n => t'.keep a o (t.keep a o e n) fun x => by
    rcases t.sub a x with z | z
    · exact n z
    · rw [e] at z; cases z
  sub := fun a h => by
    rcases t'.sub a h with z | z
    · exact t.sub a z
    · exact .inr (t.dom a z)
  live := t'.live
  dom := fun a e => t.dom a (t'.dom a e)
theorem Got.trans (g : Aft S H F H' F') (g' : Got S' H' F' H'' F'' T) : Got (S ++ S') H F H'' F'' T := by
  refine ⟨g.trans g'.toAft, fun a h => ?_, g'.dj, g'.live⟩
  rcases g'.new a h with ⟨k, hk, x⟩ | x
  · rcases g.back x with ⟨i, hi, z⟩ | z | z
    · exact .inl ⟨i, List.mem_append_left _ hi, z⟩
    · exact .inl ⟨k, List.mem_append_right _ hk, z⟩
    · exact .inr z
  · exact .inr (g.dom a x)
theorem Reps.length : ∀ {ds : List D} {xs : List V} {A : AS}, Reps K mg H ds xs A → xs.length = ds.length
  | [], _, _, h => by have e := (show _ = [] from h); subst e; rfl
  | d :: ds, _, _, ⟨x, ys, A1, A2, e, s1, s2, j, h1, h2⟩ => by rw [e, List.length_cons, List.length_cons, Reps.length h2]
end

section
variable {X : Cx} {eC : Addr} {W : WX} {S S1 S2 S3 : List Nat} {σ : L2.St} {H : Hp} {Q : VK}
/-- two values, one answer -/
def VOp (K : PySem.W.Frag) (mg : Str → Option Value) (r : R2) (f : D → D → Option D) : Prop :=
  ∀ d1 d2 d v1 v2 T1 T2 H Q, f d1 d2 = some d → Rep K mg H d1 v1 T1 → Rep K mg H d2 v2 T2 → Dj T1 T2 → Live H T1 → Live H T2 →
    (∀ v H' T, Rep K mg H' d v T → AftT (Un2 T1 T2) H H' T → Q v H') → r v1 v2 H Q
def opM (f : D → D → Option D) (ma mb : EM) : EM := fun ρ => (ma ρ).bind fun d1 ρ1 => (mb ρ1).bind fun d2 ρ2 => Res.of (f d1 d2) ρ2
theorem tv_op {K : PySem.W.Frag} {mg : Str → Option Value} {r : R2} {f : D → D → Option D} {ma mb : EM} (h : VOp K mg r f) (q : TV K mg eC W (S1 ++ S2) (opM f ma mb) σ H Q) : tOp r (TV K mg eC W S1 ma) (TV K mg eC W S2 mb) σ H Q := by
  obtain ⟨ρ, F, er, q⟩ := q
  refine ⟨ρ, F, er, ?_⟩
  unfold opM at q
  cases e1 : ma ρ with
  | bad => rw [e1] at q; exact q
  | ex z ρ1 => rw [e1] at q; exact fun dd H' F' er' x g => q dd H' F' er' x (g.more fun j hj => List.mem_append_left _ hj)
  | ok d1 ρ1 =>
    rw [e1] at q
    intro v1 H1 F1 T1 er1 r1 g1
    refine ⟨ρ1, F1, er1, ?_⟩
    simp only [Res.bind_ok] at q
    cases e2 : mb ρ1 with
    | bad => rw [e2] at q; exact q
    | ex z ρ2 => rw [e2] at q; exact fun dd H' F' er' x g => q dd H' F' er' x (g1.toAft.trans g)
    | ok d2 ρ2 =>
      rw [e2] at q
      intro v2 H2 F2 T2 er2 r2 g2
      simp only [Res.bind_ok] at q
      cases e3 : f d1 d2 with
      | none => rw [e3] at q; exact q.elim
      | some d =>
        rw [e3] at q
        have kp := g2.toAft.kp er1 g1.dj
        refine h d1 d2 d v1 v2 T1 T2 H2 Q e3 (Rep.keep d1 r1 kp) r2 (g2.djT g1.live g1.dj) (g1.live.keep kp) g2.live fun v H' T rv t => ?_
        have dT : ∀ j, Dj (Un2 T1 T2) (F2 j) := fun j a x y => x.elim (fun x => g2.toAft.djP g1.live g1.dj j a x y) fun x => g2.dj j a x y
        have lT : Live H2 (Un2 T1 T2) := fun a x => x.elim (g1.live.keep kp a) (g2.live a)
        have g12 := Got.trans g1.toAft g2
        refine q v H' F2 T (er2.step lT dT t) rv (Got.step g12.toAft er2 dT (fun a x => ?_) t)
        rcases x with x | x
        · exact (g1.new a x).imp (fun ⟨k, hk, y⟩ => ⟨k, List.mem_append_left _ hk, y⟩) id
        · exact g12.new a x
theorem ve_op {a b : Expr} {pos : Pos} {op : Operator} {r : R2} {f : D → D → Option D} {ma mb : EM} (ho : OpR X (binaryOp op) r) (h : VOp X.K X.mg r f) (ha : VE X eC W S1 a ma) (hb : VE X eC W S2 b mb) :
    VE X eC W (S1 ++ S2) (.BinOp a op b pos) (opM f ma mb) := PE.imp (pe_op ho ha hb) fun _ _ _ q => tv_op h q
theorem ve_cmp {a b : Expr} {pos : Pos} {op : CmpOp} {r : R2} {f : D → D → Option D} {ma mb : EM} (ho : OpR X (compareOp op) r) (h : VOp X.K X.mg r f) (ha : VE X eC W S1 a ma) (hb : VE X eC W S2 b mb) (hm : behindInMarks op b = false := by rfl) :
    VE X eC W (S1 ++ S2) (.Compare a [op] [b] pos) (opM f ma mb) := PE.imp (pe_cmpR ho ha hb hm) fun _ _ _ q => tv_op h q
theorem ve_ix {a b : Expr} {pos : Pos} {r : R2} {f : D → D → Option D} {ma mb : EM} (hr : IxR X r) (h : VOp X.K X.mg r f) (ha : VE X eC W S1 a ma) (hb : VE X eC W S2 b mb) (hs : PlainIx b := by exact fun _ _ => rfl) :
    VE X eC W (S1 ++ S2) (.Subscript a b pos) (opM f ma mb) := PE.imp (pe_ix hr ha hb hs) fun _ _ _ q => tv_op h q
/-- one value -/
def VUn (K : PySem.W.Frag) (mg : Str → Option Value) (r : V → Hp → VK → Prop) (f : D → Option D) : Prop :=
  ∀ d1 d v1 T1 H Q, f d1 = some d → Rep K mg H d1 v1 T1 → Live H T1 → (∀ v H' T, Rep K mg H' d v T → AftT T1 H H' T → Q v H') → r v1 H Q
def unM (f : D → Option D) (ma : EM) : EM := fun ρ => (ma ρ).bind fun d1 ρ1 => Res.of (f d1) ρ1
theorem tv_un {K : PySem.W.Frag} {mg : Str → Option Value} {r : V → Hp → VK → Prop} {f : D → Option D} {ma : EM} (h : VUn K mg r f) (q : TV K mg eC W S (unM f ma) σ H Q) : TV K mg eC W S ma σ H (fun v H1 => r v H1 Q) := by
  obtain ⟨ρ, F, er, q⟩ := q
  refine ⟨ρ, F, er, ?_⟩
  unfold unM at q
  cases e1 : ma ρ with
  | bad => rw [e1] at q; exact q
  | ex z ρ1 => rw [e1] at q; exact q
  | ok d1 ρ1 =>
    rw [e1] at q
    intro v1 H1 F1 T1 er1 r1 g1
    simp only [Res.bind_ok] at q
    cases e3 : f d1 with
    | none => rw [e3] at q; exact q.elim
    | some d =>
      rw [e3] at q
      exact h d1 d v1 T1 H1 Q e3 r1 g1.live fun v H' T rv t => q v H' F1 T (er1.step g1.live g1.dj t) rv (Got.step g1.toAft er1 g1.dj g1.new t)
theorem ve_un {a : Expr} {pos : Pos} {op : UnaryOp} {r : V → Hp → VK → Prop} {f : D → Option D} {ma : EM} (ho : UnR X (unaryOp op) r) (h : VUn X.K X.mg r f) (ha : VE X eC W S a ma) :
    VE X eC W S (.UnaryOp op a pos) (unM f ma) := PE.imp (pe_un ho ha) fun _ _ _ q => tv_un h q

/-! ### lists of expressions -/
def consM (m : EM) (ms : M (List D)) : M (List D) := fun ρ => (m ρ).bind fun d ρ1 => (ms ρ1).bind fun ds ρ2 => .ok (d :: ds) ρ2
def nilM : M (List D) := fun ρ => .ok [] ρ
theorem va_nil : VA X eC W [] [] nilM := PA.imp pa_nil fun σ H Q ⟨ρ, F, er, q⟩ => q [] H F E0 er rfl .refl
theorem va_cons {e : Expr} {es : List Expr} {m : EM} {ms : M (List D)} (h : VE X eC W S1 e m) (hs : VA X eC W S2 es ms)
    (hst : starEach (e :: es) X.env = (false, eval e X.env) :: starEach es X.env := by rfl) : VA X eC W (S1 ++ S2) (e :: es) (consM m ms) := PA.imp (pa_cons h hs hst) fun σ H Q ⟨ρ, F, er, q⟩ => by
  refine ⟨ρ, F, er, ?_⟩
  unfold consM at q
  cases e1 : m ρ with
  | bad => rw [e1] at q; exact q
  | ex z ρ1 => rw [e1] at q; exact fun dd H' F' er' x g => q dd H' F' er' x (g.more fun j hj => List.mem_append_left _ hj)
  | ok d1 ρ1 =>
    rw [e1] at q
    intro v1 H1 F1 T1 er1 r1 g1
    refine ⟨ρ1, F1, er1, ?_⟩
    simp only [Res.bind_ok] at q
    cases e2 : ms ρ1 with
    | bad => rw [e2] at q; exact q
    | ex z ρ2 => rw [e2] at q; exact fun dd H' F' er' x g => q dd H' F' er' x (g1.toAft.trans g)
    | ok ds ρ2 =>
      rw [e2] at q
      intro vs H2 F2 T2 er2 r2 g2
      simp only [Res.bind_ok] at q
      have kp := g2.toAft.kp er1 g1.dj
      have g12 := Got.trans g1.toAft g2
      refine q (v1 :: vs) H2 F2 (Un2 T1 T2) er2 ⟨v1, vs, T1, T2, rfl, fun _ => .inl, fun _ => .inr, g2.djT g1.live g1.dj, Rep.keep d1 r1 kp, r2⟩ ⟨g12.toAft, fun a x => ?_, fun j a x y => ?_, fun a x => ?_⟩
      · rcases x with x | x
        · exact (g1.new a x).imp (fun ⟨k, hk, y⟩ => ⟨k, List.mem_append_left _ hk, y⟩) id
        · exact g12.new a x
      · exact x.elim (fun x => g2.toAft.djP g1.live g1.dj j a x y) fun x => g2.dj j a x y
      · exact x.elim (g1.live.keep kp a) (g2.live a)
/-- a list of values, one answer -/
def VCl (K : PySem.W.Frag) (mg : Str → Option Value) (r : List V → Hp → VK → Prop) (f : List D → Option D) : Prop :=
  ∀ ds d vs T1 H Q, f ds = some d → Reps K mg H ds vs T1 → Live H T1 → (∀ v H' T, Rep K mg H' d v T → AftT T1 H H' T → Q v H') → r vs H Q
def clM (f : List D → Option D) (ms : M (List D)) : EM := fun ρ => (ms ρ).bind fun ds ρ1 => Res.of (f ds) ρ1
theorem tv_cl {K : PySem.W.Frag} {mg : Str → Option Value} {r : List V → Hp → VK → Prop} {f : List D → Option D} {ms : M (List D)} (h : VCl K mg r f) (q : TV K mg eC W S (clM f ms) σ H Q) : TVs K mg eC W S ms σ H (fun vs H1 => r vs H1 Q) := by
  obtain ⟨ρ, F, er, q⟩ := q
  refine ⟨ρ, F, er, ?_⟩
  unfold clM at q
  cases e1 : ms ρ with
  | bad => rw [e1] at q; exact q
  | ex z ρ1 => rw [e1] at q; exact q
  | ok ds ρ1 =>
    rw [e1] at q
    intro vs H1 F1 T1 er1 r1 g1
    simp only [Res.bind_ok] at q
    cases e3 : f ds with
    | none => rw [e3] at q; exact q.elim
    | some d =>
      rw [e3] at q
      exact h ds d vs T1 H1 Q e3 r1 g1.live fun v H' T rv t => q v H' F1 T (er1.step g1.live g1.dj t) rv (Got.step g1.toAft er1 g1.dj g1.new t)
theorem ve_callB {e : Expr} {es : List Expr} {x : Str} {p pos : Pos} {id : String} {r : List V → Hp → VK → Prop} {f : List D → Option D} {ms : M (List D)} (hc : CallR X (.builtin id) r) (h : VCl X.K X.mg r f)
    (hg : Gl X x) (hm : X.mg x = none) (hv : bootBuiltins x = some (.builtin id)) (ha : VA X eC W S (e :: es) ms)
    (hb : PE X (.Call (.Name x p) (e :: es) [] pos) (tCB r (TVs X.K X.mg eC W S ms)) := by exact pe_callB hc hg hm hv ha) : VE X eC W S (.Call (.Name x p) (e :: es) [] pos) (clM f ms) := PE.imp hb fun _ _ _ q => tv_cl h q
theorem ve_callTy {e : Expr} {es : List Expr} {x : Str} {p pos : Pos} {T : String} {r : List V → Hp → VK → Prop} {f : List D → Option D} {ms : M (List D)} (hc : CallR X (.type T) r) (h : VCl X.K X.mg r f)
    (hg : Gl X x) (hm : X.mg x = none) (hv : bootBuiltins x = some (.type T)) (ha : VA X eC W S (e :: es) ms)
    (hb : PE X (.Call (.Name x p) (e :: es) [] pos) (tCB r (TVs X.K X.mg eC W S ms)) := by exact pe_callTy hc hg hm hv ha) : VE X eC W S (.Call (.Name x p) (e :: es) [] pos) (clM f ms) := PE.imp hb fun _ _ _ q => tv_cl h q
/-- [a, b, ..], (a, b, ..) -/
def lstD : List D → Option D := fun ds => if ds.length ≤ 1000 then some (.lst true ds) else none
def tupD : List D → Option D := fun ds => if ds.length ≤ 1000 then some (.tup ds) else none
theorem small_line {n : Nat} (h : n ≤ 1000) : n ≤ sizeLine := by rw [sizeLine_eq]; omega
theorem cl_lst {K : PySem.W.Frag} {mg : Str → Option Value} : VCl K mg (fun xs H1 Q => xs.length ≤ sizeLine ∧ ∀ p, H1 p = none → Q (.ref p) (upd H1 p (.lst xs))) lstD := by
  intro ds d vs T1 H Q e r l q
  unfold lstD at e
  split at e
  · rename_i h
    cases e
    refine ⟨by rw [r.length]; exact small_line h, fun p np => q _ _ (fun a => T1 a ∨ a = p) ⟨p, vs, rfl, upd_same, .inr rfl, ?_⟩ (.new np trivial l Sub.rfl)⟩
    refine (Reps.keep ds r (kp_new np)).mono fun a x => ⟨.inl x, fun z => ?_⟩
    obtain ⟨u, e, _⟩ := l a x
    rw [z, np] at e; cases e
  · cases e
theorem cl_tup {K : PySem.W.Frag} {mg : Str → Option Value} : VCl K mg (fun xs H1 Q => xs.length ≤ sizeLine ∧ ∀ p, H1 p = none → Q (.ref p) (upd H1 p (.tup xs))) tupD := by
  intro ds d vs T1 H Q e r l q
  unfold tupD at e
  split at e
  · rename_i h
    cases e
    exact ⟨by rw [r.length]; exact small_line h, fun p np => q _ _ T1 ⟨p, vs, rfl, .of upd_same, Reps.keep ds r (kp_new np)⟩ (.newF np l Sub.rfl)⟩
  · cases e
theorem ve_lst {es : List Expr} {pos : Pos} {ms : M (List D)} (ha : VA X eC W S es ms) : VE X eC W S (.List es pos) (clM lstD ms) := PE.imp (pe_lst ha) fun _ _ _ q => tv_cl cl_lst q
theorem ve_tup {es : List Expr} {k : Nat} {pos : Pos} {ms : M (List D)} (ha : VA X eC W S es ms) : VE X eC W S (.Tuple es k pos) (clM tupD ms) := PE.imp (pe_tup ha) fun _ _ _ q => tv_cl cl_tup q
end
end VS
set_option Elab.async false
set_option linter.all false
set_option maxRecDepth 100000
set_option maxHeartbeats 4000000
/-! VS4: the operators and built-ins, by value. -/
namespace VS
open PySem PySem.Spec PyProof.Rows L2

section
variable {K : PySem.W.Frag} {mg : Str → Option Value} {H H' : Hp}
mutual
/-- as plain data, for == -/
def toP : D → Option PyData
  | .non => some .none
  | .bl b => some (.bool b)
  | .int i => some (.int i)
  | .str x => some (.str x)
  | .tup ds => (toPs ds).map .tuple
  | .lst _ ds => (toPs ds).map .list
  | .rol ds => (toPs ds).map .list
  | _ => none
def toPs : List D → Option (List PyData)
  | [] => some []
  | d :: ds => (toP d).bind fun p => (toPs ds).map fun ps => p :: ps
end
mutual
theorem Rep.dp : ∀ (d : D) {v : V} {A : AS} {p : PyData}, Rep K mg H d v A → toP d = some p → Dp K H v p
  | .un, _, _, _, _, e => by simp [toP] at e
  | .non, _, _, _, h, e => by
    cases h
    simp [toP] at e; subst e; exact .non
  | .bl b, _, _, _, h, e => by
    cases h
    simp [toP] at e; subst e; exact .bl b
  | .int i, _, _, _, h, e => by
    cases h
    simp [toP] at e; subst e; exact .int i
  | .str x, _, _, _, h, e => by
    cases h
    simp [toP] at e; subst e; exact .str x
  | .tup ds, _, _, _, ⟨a, xs, e1, q, r⟩, e => by
    subst e1
    simp only [toP, Option.map_eq_some_iff] at e
    obtain ⟨ps, e2, rfl⟩ := e
    exact .tup q (Reps.dp ds r e2)
  | .rol ds, _, _, _, ⟨a, xs, e1, q, r⟩, e => by
    subst e1
    simp only [toP, Option.map_eq_some_iff] at e
    obtain ⟨ps, e2, rfl⟩ := e
    exact .lst q.sq (Reps.dp ds r e2)
  | .lst true ds, _, _, _, ⟨a, xs, e1, q, i, r⟩, e => by
    subst e1
    simp only [toP, Option.map_eq_some_iff] at e
    obtain ⟨ps, e2, rfl⟩ := e
    exact .lst (.of q) (Reps.dp ds r e2)
  | .lst false ds, _, _, _, ⟨a, xs, e1, q, r⟩, e => by
    subst e1
    simp only [toP, Option.map_eq_some_iff] at e
    obtain ⟨ps, e2, rfl⟩ := e
    exact .lst q.sq (Reps.dp ds r e2)
  | .dic _ _ _, _, _, _, _, e => by simp [toP] at e
  | .obj _ _ _ _, _, _, _, _, e => by simp [toP] at e
theorem Reps.dp : ∀ (ds : List D) {xs : List V} {A : AS} {ps : List PyData}, Reps K mg H ds xs A → toPs ds = some ps → DpAll K H xs ps
  | [], _, _, _, h, e => by
    have e1 := (show _ = [] from h); subst e1
    simp [toPs] at e; subst e; exact .nil
  | d :: ds, _, _, _, ⟨x, ys, A1, A2, e1, s1, s2, j, h1, h2⟩, e => by
    subst e1
    simp only [toPs, Option.bind_eq_some_iff, Option.map_eq_some_iff] at e
    obtain ⟨p, e2, ps, e3, rfl⟩ := e
    exact .cons (Rep.dp d h1 e2) (Reps.dp ds h2 e3)
end
/-- the items of a list or tuple -/
def items : D → Option (List D)
  | .tup ds => some ds
  | .lst _ ds => some ds
  | .rol ds => some ds
  | _ => none
theorem Rep.seq {d : D} {ds : List D} {v : V} {A : AS} (h : Rep K mg H d v A) (e : items d = some ds) : ∃ a xs, v = .ref a ∧ (SqL K H a xs ∨ SqT K H a xs) ∧ Reps K mg H ds xs A := by
  cases d with
  | tup ds' => cases e; obtain ⟨a, xs, e1, q, r⟩ := h; exact ⟨a, xs, e1, .inr q, r⟩
  | rol ds' => cases e; obtain ⟨a, xs, e1, q, r⟩ := h; exact ⟨a, xs, e1, .inl q.sq, r.mono Sub.e0⟩
  | lst m ds' =>
    cases e
    cases m with
    | true => obtain ⟨a, xs, e1, q, i, r⟩ := h; exact ⟨a, xs, e1, .inl (.of q), r.mono fun _ h => h.1⟩
    | false => obtain ⟨a, xs, e1, q, r⟩ := h; exact ⟨a, xs, e1, .inl q.sq, r.mono Sub.e0⟩
  | _ => cases e
theorem Reps.get : ∀ {ds : List D} {xs : List V} {A : AS} {i : Nat} {d : D}, Reps K mg H ds xs A → ds[i]? = some d → ∃ v, xs[i]? = some v ∧ Rep K mg H d v A
  | [], _, _, _, _, _, e => by simp at e
  | d :: ds, _, _, 0, _, ⟨x, ys, A1, A2, e1, s1, s2, j, h1, h2⟩, e => by
    subst e1
    simp at e; subst e
    exact ⟨x, rfl, h1.mono s1⟩
  | d :: ds, _, _, i + 1, _, ⟨x, ys, A1, A2, e1, s1, s2, j, h1, h2⟩, e => by
    subst e1
    obtain ⟨v, e2, r⟩ := Reps.get (i := i) h2 (by simpa using e)
    exact ⟨v, by simpa using e2, r.mono s2⟩
theorem Reps.append : ∀ {ds es : List D} {xs ys : List V} {A B C : AS}, Reps K mg H ds xs A → Reps K mg H es ys B → Dj A B → Sub A C → Sub B C → Reps K mg H (ds ++ es) (xs ++ ys) C
  | [], _, _, _, _, _, _, h, g, _, _, sB => by
    have e := (show _ = [] from h); subst e
    exact g.mono sB
  | d :: ds, es, _, ys, A, B, C, ⟨x, zs, A1, A2, e1, s1, s2, j, h1, h2⟩, g, dj, sA, sB => by
    subst e1
    refine ⟨x, zs ++ ys, A1, (fun a => A2 a ∨ B a), rfl, s1.trans sA, fun a h => h.elim (fun y => sA a (s2 a y)) (sB a), fun a y z => z.elim (j a y) (dj a (s1 a y)), h1, ?_⟩
    exact Reps.append h2 g (fun a y z => dj a (s2 a y) z) (fun a => .inl) fun a => .inr
theorem Reps.take : ∀ {ds : List D} {xs : List V} {A : AS} (n : Nat), Reps K mg H ds xs A → Reps K mg H (ds.take n) (xs.take n) A
  | [], _, _, n, h => by
    have e := (show _ = [] from h); subst e
    simp; rfl
  | d :: ds, _, _, 0, ⟨x, ys, A1, A2, e1, s1, s2, j, h1, h2⟩ => rfl
  | d :: ds, _, _, n + 1, ⟨x, ys, A1, A2, e1, s1, s2, j, h1, h2⟩ => by
    subst e1
    exact ⟨x, ys.take n, A1, A2, rfl, s1, s2, j, h1, Reps.take n h2⟩
theorem Reps.drop : ∀ {ds : List D} {xs : List V} {A : AS} (n : Nat), Reps K mg H ds xs A → Reps K mg H (ds.drop n) (xs.drop n) A
  | ds, _, _, 0, h => by simpa using h
  | [], _, _, n + 1, h => by
    have e := (show _ = [] from h); subst e
    simp; rfl
  | d :: ds, _, _, n + 1, ⟨x, ys, A1, A2, e1, s1, s2, j, h1, h2⟩ => by
    subst e1
    simpa using (Reps.drop n h2).mono s2
end

/-! ### ints -/
section
variable {X : Cx} {K : PySem.W.Frag} {mg : Str → Option Value}
def int2 (f : Int → Int → Option D) : D → D → Option D
  | .int i, .int j => f i j
  | _, _ => none
theorem vop_int2 {r : R2} {f : Int → Int → Option D} (h : ∀ i j d H Q, f i j = some d → (∀ v H' T, Rep K mg H' d v T → AftT E0 H H' T → Q v H') → r (.int i) (.int j) H Q) : VOp K mg r (int2 f) := by
  intro d1 d2 d v1 v2 T1 T2 H Q e r1 r2 dj l1 l2 q
  cases d1 with
  | int i =>
    cases d2 with
    | int j =>
      cases (show v1 = .int i from r1)
      cases (show v2 = .int j from r2)
      exact h i j d H Q e fun v H' T rv t => q v H' T rv (t.more Sub.e0)
    | _ => cases e
  | _ => cases e
theorem vop_i {C : Int → Int → Prop} [∀ i j, Decidable (C i j)] {g : Int → Int → Int} : VOp K mg (rI C fun i j => .int (g i j)) (int2 fun i j => if C i j then some (.int (g i j)) else none) :=
  vop_int2 fun i j d H Q e q => by
    split at e
    · rename_i h
      cases e
      exact ⟨i, j, rfl, rfl, h, q _ H E0 rfl .refl⟩
    · cases e
theorem vop_i0 {g : Int → Int → Int} : VOp K mg (rI0 fun i j => .int (g i j)) (int2 fun i j => some (.int (g i j))) :=
  vop_int2 fun i j d H Q e q => by cases e; exact ⟨i, j, rfl, rfl, q _ H E0 rfl .refl⟩
theorem vop_b0 {g : Int → Int → Bool} : VOp K mg (rI0 fun i j => .bl (g i j)) (int2 fun i j => some (.bl (g i j))) :=
  vop_int2 fun i j d H Q e q => by cases e; exact ⟨i, j, rfl, rfl, q _ H E0 rfl .refl⟩
instance (i j : Int) : Decidable (CMul i j) := by unfold CMul; infer_instance
instance (i j : Int) : Decidable (CDiv i j) := by unfold CDiv; infer_instance
instance (i j : Int) : Decidable (CPow i j) := by unfold CPow; infer_instance
def subD : D → D → Option D := int2 fun i j => some (.int (i - j))
def mulD : D → D → Option D := int2 fun i j => if CMul i j then some (.int (i * j)) else none
def modD : D → D → Option D := int2 fun i j => if 0 < j then some (.int (i % j)) else none
def divD : D → D → Option D := int2 fun i j => if CDiv i j then some (.int (i / j)) else none
def powD : D → D → Option D := int2 fun i j => if CPow i j then some (.int (i ^ j.toNat)) else none
def shrD : D → D → Option D := int2 fun i j => if 0 ≤ j then some (.int (i / 2 ^ j.toNat)) else none
def shlD : D → D → Option D := int2 fun i j => if CPow i j then some (.int (i * 2 ^ j.toNat)) else none
def andD : D → D → Option D := int2 fun i j => some (.int (Builtin.bitAnd i j))
def ltD : D → D → Option D := int2 fun i j => some (.bl (decide (i < j)))
def leD : D → D → Option D := int2 fun i j => some (.bl (decide (i ≤ j)))
def gtD : D → D → Option D := int2 fun i j => some (.bl (decide (j < i)))
def geD : D → D → Option D := int2 fun i j => some (.bl (decide (j ≤ i)))
def negD : D → Option D
  | .int i => some (.int (-i))
  | _ => none
theorem vun_neg : VUn K mg (rU fun i => .int (-i)) negD := by
  intro d1 d v1 T1 H Q e r l q
  cases d1 with
  | int i => cases e; cases (show v1 = .int i from r); exact ⟨i, rfl, q _ H E0 rfl .refl⟩
  | _ => cases e

/-! ### +: ints, texts, lists, tuples -/
def LstAt (H : Hp) (a : Addr) (xs : List V) : Prop := H a = some (.lst xs) ∨ FzL H a xs
theorem LstAt.obj {pins : List (Addr × Obj)} {σ : L2.St} {H : Hp} {s : Shared} {l : Addr} {xs : List V} (I : Inv X pins σ H s) (h : LstAt H l xs) :
    xs.length ≤ sizeLine ∧ ∃ (its : List Value) (n : Nat), Vals xs its ∧ xs.length = its.length ∧ s.heap.get? l = some { cls := .type "list", data := .seq its.toArray n } := by
  rcases h with h | ⟨o, h⟩
  · exact I.lstM h
  · obtain ⟨e, z, its, n, r, e2⟩ := I.hok l _ h
    exact ⟨z, its, n, r, r.length, e2⟩
def rCatF : R2 := fun x y H Q => ∃ l b xs zs, x = .ref l ∧ y = .ref b ∧ LstAt H l xs ∧ LstAt H b zs ∧ xs.length + zs.length ≤ sizeLine ∧ ∀ p, H p = none → Q (.ref p) (upd H p (.lst (xs ++ zs)))
theorem op_catF : OpR X (binaryOp .Add) rCatF := by
  intro pins s σ H x y v u Q I rx ry h
  obtain ⟨l, b, xs, zs, rfl, rfl, hH, hB, hz, q⟩ := h
  cases rx
  cases ry
  obtain ⟨z, its, n, r, hl, e⟩ := hH.obj I
  obtain ⟨z2, its2, n2, r2, hl2, e2⟩ := hB.obj I
  refine PySem.P.add_list e e2 ?_ (by rw [List.size_toArray, List.size_toArray]; omega)
  have ea : its.toArray ++ its2.toArray = (its ++ its2).toArray := by simp
  rw [ea]
  exact ⟨.ref _, _, I.lnew (t' := s.toks) (r.append r2) (by rw [List.length_append]; omega), rfl, q _ I.fresh⟩
theorem Rep.lstAt {H : Hp} {m : Bool} {ds : List D} {v : V} {A : AS} (h : Rep K mg H (.lst m ds) v A) : ∃ a xs, v = .ref a ∧ LstAt H a xs ∧ Reps K mg H ds xs A := by
  cases m with
  | true => obtain ⟨a, xs, e1, q, i, r⟩ := h; exact ⟨a, xs, e1, .inl q, r.mono fun _ h => h.1⟩
  | false => obtain ⟨a, xs, e1, q, r⟩ := h; exact ⟨a, xs, e1, .inr q, r.mono Sub.e0⟩
/-- the largest length that is looked at here -/
def big : Nat := 1000000
theorem big_line {n : Nat} (h : n ≤ big) : n ≤ sizeLine := by
  have h' : n ≤ 1000000 := h
  rw [sizeLine_eq]; omega
def addR (K : PySem.W.Frag) : R2 := fun x y H Q => (rI0 fun i j => .int (i + j)) x y H Q ∨ ((fun x y H Q => ∃ i j, x = V.str i ∧ y = V.str j ∧ i.length + j.length ≤ sizeLine ∧ Q (.str (i ++ j)) H : R2) x y H Q ∨ (rCatF x y H Q ∨ rCatA K x y H Q))
theorem op_addR : OpR X (binaryOp .Add) (addR X.K) := op_add.or (op_add_str.or (op_catF.or op_catA))
def addD : D → D → Option D
  | .int i, .int j => some (.int (i + j))
  | .str x, .str y => if x.length + y.length ≤ big then some (.str (x ++ y)) else none
  | .lst _ as, .lst _ bs => if as.length + bs.length ≤ big then some (.lst true (as ++ bs)) else none
  | .tup as, .tup bs => if as.length + bs.length ≤ big then some (.tup (as ++ bs)) else none
  | _, _ => none
theorem not_new {H : Hp} {p : Addr} {T : AS} (np : H p = none) (l : Live H T) {a : Addr} (x : T a) : a ≠ p := fun z => by
  obtain ⟨u, e, _⟩ := l a x
  rw [z, np] at e; cases e
theorem Live.un {H : Hp} {A B : AS} (a : Live H A) (b : Live H B) : Live H (Un2 A B) := fun x h => h.elim (a x) (b x)
theorem Rep.nil_tup {H : Hp} {v : V} {A : AS} {ds : List D} {a : Addr} (q : SqT K H a []) (r : Reps K mg H ds [] A) : ds = [] := by
  have := r.length
  cases ds with
  | nil => rfl
  | cons => simp at this
theorem vop_add : VOp K mg (addR K) addD := by
  intro d1 d2 d v1 v2 T1 T2 H Q e r1 r2 dj l1 l2 q
  unfold addD at e
  split at e
  · rename_i i j
    cases e
    cases (show v1 = .int i from r1)
    cases (show v2 = .int j from r2)
    exact .inl ⟨i, j, rfl, rfl, q _ H E0 rfl .refl⟩
  · rename_i x y
    split at e
    · rename_i h
      cases e
      cases (show v1 = .str x from r1)
      cases (show v2 = .str y from r2)
      exact .inr (.inl ⟨x, y, rfl, rfl, big_line h, q _ H E0 rfl .refl⟩)
    · cases e
  · rename_i m as m' bs
    split at e
    · rename_i h
      cases e
      obtain ⟨a, xs, rfl, q1, s1⟩ := Rep.lstAt r1
      obtain ⟨b, ys, rfl, q2, s2⟩ := Rep.lstAt r2
      refine .inr (.inr (.inl ⟨a, b, xs, ys, rfl, rfl, q1, q2, by rw [s1.length, s2.length]; exact big_line h, fun p np => ?_⟩))
      refine q (.ref p) _ (fun a => Un2 T1 T2 a ∨ a = p) ⟨p, _, rfl, upd_same, .inr rfl, ?_⟩ (.new np trivial (l1.un l2) Sub.rfl)
      exact Reps.append (Reps.keep as s1 (kp_new np)) (Reps.keep bs s2 (kp_new np)) dj (fun a x => ⟨.inl (.inl x), not_new np l1 x⟩) fun a x => ⟨.inl (.inr x), not_new np l2 x⟩
    · cases e
  · rename_i as bs
    split at e
    · rename_i h
      cases e
      obtain ⟨a, xs, rfl, q1, s1⟩ := r1
      obtain ⟨b, ys, rfl, q2, s2⟩ := r2
      refine .inr (.inr (.inr ⟨a, b, xs, ys, rfl, rfl, q1, q2, by rw [s1.length, s2.length]; exact big_line h, fun hx => ?_, fun hx hy => ?_, fun _ _ p np => ?_⟩))
      · have e1 := s1.length
        rw [hx] at e1
        have : as = [] := by cases as with | nil => rfl | cons => simp at e1
        subst this
        exact q _ H T2 ⟨b, ys, rfl, q2, s2⟩ (.same l2 fun a => .inr)
      · have e1 := s2.length
        rw [hy] at e1
        have : bs = [] := by cases bs with | nil => rfl | cons => simp at e1
        subst this
        rw [List.append_nil] at q
        exact q _ H T1 ⟨a, xs, rfl, q1, s1⟩ (.same l1 fun a => .inl)
      · refine q (.ref p) _ (Un2 T1 T2) ⟨p, _, rfl, .of upd_same, ?_⟩ (.newF np (l1.un l2) Sub.rfl)
        exact Reps.append (Reps.keep as s1 (kp_new np)) (Reps.keep bs s2 (kp_new np)) dj (fun a => .inl) fun a => .inr
    · cases e
  · cases e

/-! ### ==, in, is None -/
def eqP (neg : Bool) (d1 d2 : D) : Option D := (toP d1).bind fun p => (toP d2).bind fun q => if SeqAt.shaped p && SeqAt.shaped q then some (.bl (if neg then !PyData.eqv p q else PyData.eqv p q)) else none
theorem eqP_some {neg : Bool} {d1 d2 d : D} (e : eqP neg d1 d2 = some d) : ∃ p q, toP d1 = some p ∧ toP d2 = some q ∧ SeqAt.shaped p = true ∧ SeqAt.shaped q = true ∧ d = .bl (if neg then !PyData.eqv p q else PyData.eqv p q) := by
  unfold eqP at e
  simp only [Option.bind_eq_some_iff] at e
  obtain ⟨p, e1, q, e2, e3⟩ := e
  split at e3
  · rename_i h
    simp only [Bool.and_eq_true] at h
    cases e3
    exact ⟨p, q, e1, e2, h.1, h.2, rfl⟩
  · cases e3
theorem vop_eq : VOp K mg (rEqD K) (eqP false) := by
  intro d1 d2 d v1 v2 T1 T2 H Q e r1 r2 dj l1 l2 q
  obtain ⟨p, p', e1, e2, h1, h2, rfl⟩ := eqP_some e
  exact ⟨p, p', Rep.dp d1 r1 e1, Rep.dp d2 r2 e2, h1, h2, q _ H E0 rfl .refl⟩
theorem vop_ne : VOp K mg (rNeD K) (eqP true) := by
  intro d1 d2 d v1 v2 T1 T2 H Q e r1 r2 dj l1 l2 q
  obtain ⟨p, p', e1, e2, h1, h2, rfl⟩ := eqP_some e
  exact ⟨p, p', Rep.dp d1 r1 e1, Rep.dp d2 r2 e2, h1, h2, q _ H E0 rfl .refl⟩
def rInP (K : PySem.W.Frag) (neg : Bool) : R2 := fun x y H Q => ∃ d ds, Dp K H x d ∧ (Dp K H y (.list ds) ∨ Dp K H y (.tuple ds)) ∧ SeqAt.shaped d = true ∧ SeqAt.shaped (.list ds) = true ∧
  Q (.bl (if neg then !ds.any (fun z => PyData.eqv z d) else ds.any fun z => PyData.eqv z d)) H
theorem shaped_tup {ds : List PyData} (h : SeqAt.shaped (.list ds) = true) : SeqAt.shaped (.tuple ds) = true := by
  simpa [SeqAt.shaped, PyData.canLay0, PyData.depth] using h
theorem op_inP (hu : X.A.units + 65 < cLine) : OpR X (compareOp .In) (rInP X.K false) := by
  intro pins s σ H x y v u Q I rx ry h
  obtain ⟨d, ds, hd, he, sd, se, q⟩ := h
  obtain ⟨as, r1⟩ := Dp.reads I d x v hd rx
  rcases he with he | he
  · obtain ⟨bs, r2⟩ := Dp.reads I _ y u he ry
    exact SeqAt.in_list_reads r2 r1 (SeqAt.canLay_of_shaped se) (SeqAt.canLay_of_shaped sd) (room_in_shaped sd hu) ⟨.bl _, H, I, rfl, q⟩
  · obtain ⟨bs, r2⟩ := Dp.reads I _ y u he ry
    exact SeqAt.in_tuple_reads r2 r1 (SeqAt.canLay_of_shaped (shaped_tup se)) (SeqAt.canLay_of_shaped sd) (room_in_shaped sd hu) ⟨.bl _, H, I, rfl, q⟩
theorem op_notInP (hu : X.A.units + 65 < cLine) : OpR X (compareOp .NotIn) (rInP X.K true) := by
  intro pins s σ H x y v u Q I rx ry h
  obtain ⟨d, ds, hd, he, sd, se, q⟩ := h
  obtain ⟨as, r1⟩ := Dp.reads I d x v hd rx
  rcases he with he | he
  · obtain ⟨bs, r2⟩ := Dp.reads I _ y u he ry
    exact SeqAt.notIn_list_reads r2 r1 (SeqAt.canLay_of_shaped se) (SeqAt.canLay_of_shaped sd) (room_in_shaped sd hu) ⟨.bl _, H, I, rfl, q⟩
  · obtain ⟨bs, r2⟩ := Dp.reads I _ y u he ry
    exact SeqAt.notIn_tuple_reads r2 r1 (SeqAt.canLay_of_shaped (shaped_tup se)) (SeqAt.canLay_of_shaped sd) (room_in_shaped sd hu) ⟨.bl _, H, I, rfl, q⟩
def inP (neg : Bool) (x c : D) : Option D := (toP x).bind fun p => (items c).bind fun ds => (toPs ds).bind fun ps => if SeqAt.shaped p && SeqAt.shaped (.list ps) then some (.bl (if neg then !ps.any (fun z => PyData.eqv z p) else ps.any fun z => PyData.eqv z p)) else none
theorem toP_items {c : D} {ds : List D} {ps : List PyData} (e : items c = some ds) (e2 : toPs ds = some ps) : toP c = some (.list ps) ∨ toP c = some (.tuple ps) := by
  cases c with
  | tup => cases e; exact .inr (by simp [toP, e2])
  | rol => cases e; exact .inl (by simp [toP, e2])
  | lst => cases e; exact .inl (by simp [toP, e2])
  | _ => cases e
theorem vop_in {neg : Bool} : VOp K mg (rInP K neg) (inP neg) := by
  intro d1 d2 d v1 v2 T1 T2 H Q e r1 r2 dj l1 l2 q
  unfold inP at e
  simp only [Option.bind_eq_some_iff] at e
  obtain ⟨p, e1, ds, e2, ps, e3, e4⟩ := e
  split at e4
  · rename_i h
    simp only [Bool.and_eq_true] at h
    cases e4
    refine ⟨p, ps, Rep.dp d1 r1 e1, ?_, h.1, h.2, q _ H E0 rfl .refl⟩
    exact (toP_items e2 e3).imp (Rep.dp d2 r2) (Rep.dp d2 r2)
  · cases e4
/-- x is None -/
def isNone? : D → Bool
  | .non => true
  | _ => false
def isN (neg : Bool) (d : D) : Option D := if has? d then some (.bl (if neg then !isNone? d else isNone? d)) else none
theorem Rep.non_iff {H : Hp} {d : D} {v : V} {A : AS} (h : Rep K mg H d v A) (c : has? d = true) : decide (v = .non) = isNone? d := by
  cases d with
  | un => cases c
  | non => cases (show v = .non from h); rfl
  | bl => cases h; rfl
  | int => cases h; rfl
  | str => cases h; rfl
  | tup => obtain ⟨_, _, rfl, _⟩ := h; rfl
  | rol => obtain ⟨_, _, rfl, _⟩ := h; rfl
  | lst m => cases m <;> (obtain ⟨_, _, rfl, _⟩ := h; rfl)
  | dic m => cases m <;> (obtain ⟨_, _, _, _, h⟩ := h; first | (obtain ⟨rfl, _⟩ := h; rfl) | (obtain ⟨_, rfl, _⟩ := h; rfl))
  | obj m => cases m <;> (obtain ⟨_, _, _, _, h⟩ := h; first | (obtain ⟨rfl, _⟩ := h; rfl) | (obtain ⟨_, rfl, _⟩ := h; rfl))
theorem isN_some {neg : Bool} {d d' : D} (e : isN neg d = some d') : has? d = true ∧ d' = .bl (if neg then !isNone? d else isNone? d) := by
  unfold isN at e
  split at e
  · rename_i h; cases e; exact ⟨h, rfl⟩
  · cases e
theorem vun_isN : VUn K mg (fun x H Q => Q (.bl (decide (x = .non))) H) (isN false) := by
  intro d1 d v1 T1 H Q e r l q
  obtain ⟨c, rfl⟩ := isN_some e
  refine q _ H E0 ?_ .refl
  show _ = _
  rw [r.non_iff c]; rfl
theorem vun_notN : VUn K mg (fun x H Q => Q (.bl (!decide (x = .non))) H) (isN true) := by
  intro d1 d v1 T1 H Q e r l q
  obtain ⟨c, rfl⟩ := isN_some e
  refine q _ H E0 ?_ .refl
  show _ = _
  rw [r.non_iff c]; rfl
end
end VS
set_option Elab.async false
set_option linter.all false
set_option maxRecDepth 100000
set_option maxHeartbeats 4000000
/-! VS5: built-in calls, items, slices. -/
namespace VS
open PySem PySem.Spec PyProof.Rows L2
section
variable {X : Cx} {K : PySem.W.Frag} {mg : Str → Option Value}
/-- one argument -/
def one (f : D → Option D) : List D → Option D
  | [d] => f d
  | _ => none
theorem one_some {f : D → Option D} {ds : List D} {d : D} (e : one f ds = some d) : ∃ x, ds = [x] ∧ f x = some d := by
  unfold one at e
  split at e
  · exact ⟨_, rfl, e⟩
  · cases e
theorem Reps.one {H : Hp} {d : D} {vs : List V} {A : AS} (h : Reps K mg H [d] vs A) : ∃ v, vs = [v] ∧ Rep K mg H d v A := by
  obtain ⟨x, ys, A1, A2, e, s1, s2, j, h1, h2⟩ := h
  have e2 := (show ys = [] from h2)
  subst e2
  exact ⟨x, e, h1.mono s1⟩
theorem vcl_one {r : List V → Hp → VK → Prop} {f : D → Option D} (h : VUn K mg (fun v H Q => r [v] H Q) f) : VCl K mg r (one f) := by
  intro ds d vs T1 H Q e rp l q
  obtain ⟨x, rfl, e⟩ := one_some e
  obtain ⟨v, rfl, rv⟩ := rp.one
  exact h x d v T1 H Q e rv l q
/-- len -/
def lenD : D → Option D
  | .str x => if x.length ≤ big then some (.int x.length) else none
  | .tup ds => some (.int ds.length)
  | .lst _ ds => some (.int ds.length)
  | .rol ds => some (.int ds.length)
  | _ => none
theorem vcl_len : VCl K mg (fun xs H Q => ∃ x n, xs = [x] ∧ LenV K x H n ∧ Q (.int n) H) (one lenD) := vcl_one fun d1 d v T H Q e r l q => by
  cases d1 with
  | str x =>
    cases (show v = .str x from r)
    simp only [lenD] at e
    split at e
    · rename_i h
      cases e
      exact ⟨_, _, rfl, ⟨big_line h, rfl⟩, q _ H E0 rfl .refl⟩
    · cases e
  | tup ds => cases e; obtain ⟨a, xs, rfl, s, r⟩ := r; exact ⟨_, _, rfl, .inr ⟨xs, s, rfl⟩, q _ H E0 (by show _ = _; rw [r.length]) .refl⟩
  | rol ds => cases e; obtain ⟨a, xs, rfl, s, r⟩ := r; exact ⟨_, _, rfl, .inl ⟨xs, s.sq, rfl⟩, q _ H E0 (by show _ = _; rw [r.length]) .refl⟩
  | lst m ds =>
    cases e
    obtain ⟨a, xs, rfl, s, r⟩ := r.lstAt
    exact ⟨_, _, rfl, .inl ⟨xs, s.elim .of fun h => h.sq, rfl⟩, q _ H E0 (by show _ = _; rw [r.length]) .refl⟩
  | _ => cases e
/-- int(..) of an int, a bool -/
def intD : D → Option D
  | .int i => some (.int i)
  | .bl b => some (.int (if b then 1 else 0))
  | _ => none
theorem vcl_int : VCl K mg (fun xs H Q => (∃ i, xs = [V.int i] ∧ Q (.int i) H) ∨ ∃ k, xs = [V.bl k] ∧ Q (.int (if k then 1 else 0)) H) (one intD) := vcl_one fun d1 d v T H Q e r l q => by
  cases d1 with
  | int i => cases e; cases (show v = .int i from r); exact .inl ⟨i, rfl, q _ H E0 rfl .refl⟩
  | bl b => cases e; cases (show v = .bl b from r); exact .inr ⟨b, rfl, q _ H E0 rfl .refl⟩
  | _ => cases e
def absD : D → Option D
  | .int i => some (.int (if i < 0 then -i else i))
  | _ => none
theorem vcl_abs : VCl K mg (fun xs H Q => ∃ i, xs = [V.int i] ∧ Q (.int (if i < 0 then -i else i)) H) (one absD) := vcl_one fun d1 d v T H Q e r l q => by
  cases d1 with
  | int i => cases e; cases (show v = .int i from r); exact ⟨i, rfl, q _ H E0 rfl .refl⟩
  | _ => cases e
def strD : D → Option D
  | .int i => if i.natAbs.log2 < 1920 then some (.str (toString i)) else none
  | _ => none
theorem vcl_str : VCl K mg (fun xs H Q => ∃ i, xs = [V.int i] ∧ i.natAbs.log2 < 1920 ∧ Q (.str (toString i)) H) (one strD) := vcl_one fun d1 d v T H Q e r l q => by
  cases d1 with
  | int i =>
    cases (show v = .int i from r)
    simp only [strD] at e
    split at e
    · rename_i h
      cases e
      exact ⟨i, rfl, h, q _ H E0 rfl .refl⟩
    · cases e
  | _ => cases e
/-- list(..), tuple(..) of a list or tuple -/
def toLstD : D → Option D := fun d => (items d).map (.lst true)
theorem vcl_list : VCl K mg (fun xs H Q => ∃ p ys, xs = [V.ref p] ∧ (SqL K H p ys ∨ SqT K H p ys) ∧ ∀ l, H l = none → Q (.ref l) (upd H l (.lst ys))) (one toLstD) := vcl_one fun d1 d v T H Q e r l q => by
  simp only [toLstD, Option.map_eq_some_iff] at e
  obtain ⟨ds, e, rfl⟩ := e
  obtain ⟨a, xs, rfl, s, r⟩ := r.seq e
  exact ⟨a, xs, rfl, s, fun p np => q _ _ (fun a => T a ∨ a = p) ⟨p, xs, rfl, upd_same, .inr rfl, (Reps.keep ds r (kp_new np)).mono fun a x => ⟨.inl x, not_new np l x⟩⟩ (.new np trivial l Sub.rfl)⟩
def toTupD : D → Option D := fun d => (items d).map .tup
theorem vcl_tuple : VCl K mg (fun xs H Q => ∃ p ys, xs = [V.ref p] ∧ ((SqL K H p ys ∧ ∀ l, H l = none → Q (.ref l) (upd H l (.tup ys))) ∨ (SqT K H p ys ∧ Q (.ref p) H))) (one toTupD) := vcl_one fun d1 d v T H Q e r l q => by
  simp only [toTupD, Option.map_eq_some_iff] at e
  obtain ⟨ds, e, rfl⟩ := e
  obtain ⟨a, xs, rfl, s, r⟩ := r.seq e
  refine ⟨a, xs, rfl, s.imp (fun s => ⟨s, fun p np => ?_⟩) fun s => ⟨s, ?_⟩⟩
  · exact q _ _ T ⟨p, xs, rfl, .of upd_same, Reps.keep ds r (kp_new np)⟩ (.newF np l Sub.rfl)
  · exact q _ H T ⟨a, xs, rfl, s, r⟩ (.same l Sub.rfl)
/-- all(..), any(..) of a list of bools -/
def blD : D → Option Bool
  | .bl b => some b
  | _ => none
def bools : List D → Option (List Bool)
  | [] => some []
  | d :: ds => (blD d).bind fun b => (bools ds).map (b :: ·)
theorem blD_some {d : D} {b : Bool} (e : blD d = some b) : d = .bl b := by
  cases d <;> simp [blD] at e <;> subst e <;> rfl
theorem Reps.bools {H : Hp} : ∀ (ds : List D) {xs : List V} {A : AS} {bs : List Bool}, Reps K mg H ds xs A → bools ds = some bs → xs = bs.map V.bl := by
  intro ds
  induction ds with
  | nil => intro xs A bs h e; cases e; exact h
  | cons d ds ih =>
    intro xs A bs ⟨x, ys, A1, A2, e1, s1, s2, j, h1, h2⟩ e
    simp only [VS.bools, Option.bind_eq_some_iff, Option.map_eq_some_iff] at e
    obtain ⟨b, e2, bs', e3, rfl⟩ := e
    have e4 := blD_some e2
    subst e4
    have e5 : x = .bl b := h1
    rw [e1, e5, ih h2 e3, List.map_cons]
def isLst : D → Option (List D)
  | .lst _ ds => some ds
  | .rol ds => some ds
  | _ => none
theorem Rep.lsts {H : Hp} {d : D} {ds : List D} {v : V} {A : AS} (h : Rep K mg H d v A) (e : isLst d = some ds) : ∃ a xs, v = .ref a ∧ SqL K H a xs ∧ Reps K mg H ds xs A := by
  cases d with
  | rol ds' => cases e; obtain ⟨a, xs, e1, q, r⟩ := h; exact ⟨a, xs, e1, q.sq, r.mono Sub.e0⟩
  | lst m ds' =>
    cases e
    obtain ⟨a, xs, rfl, s, r⟩ := h.lstAt
    exact ⟨a, xs, rfl, s.elim .of fun h => h.sq, r⟩
  | _ => cases e
def allD : D → Option D := fun d => ((isLst d).bind bools).map fun bs => .bl (bs.all id)
def anyD : D → Option D := fun d => ((isLst d).bind bools).map fun bs => .bl (bs.any id)
theorem vcl_all : VCl K mg (rAll K) (one allD) := vcl_one fun d1 d v T H Q e r l q => by
  simp only [allD, Option.map_eq_some_iff, Option.bind_eq_some_iff] at e
  obtain ⟨bs, ⟨ds, e1, e2⟩, rfl⟩ := e
  obtain ⟨a, xs, rfl, s, r⟩ := r.lsts e1
  have e3 := Reps.bools _ r e2
  subst e3
  exact ⟨a, bs, rfl, s, q _ H E0 rfl .refl⟩
theorem vcl_any : VCl K mg (rAny K) (one anyD) := vcl_one fun d1 d v T H Q e r l q => by
  simp only [anyD, Option.map_eq_some_iff, Option.bind_eq_some_iff] at e
  obtain ⟨bs, ⟨ds, e1, e2⟩, rfl⟩ := e
  obtain ⟨a, xs, rfl, s, r⟩ := r.lsts e1
  have e3 := Reps.bools _ r e2
  subst e3
  exact ⟨a, bs, rfl, s, q _ H E0 rfl .refl⟩
/-- sum(..), sorted(..) of ints -/
def inD : D → Option Int
  | .int b => some b
  | _ => none
def numsD : List D → Option (List Int)
  | [] => some []
  | d :: ds => (inD d).bind fun b => (numsD ds).map (b :: ·)
theorem inD_some {d : D} {b : Int} (e : inD d = some b) : d = .int b := by
  cases d <;> simp [inD] at e <;> subst e <;> rfl
theorem Reps.numsD {H : Hp} : ∀ (ds : List D) {xs : List V} {A : AS} {bs : List Int}, Reps K mg H ds xs A → numsD ds = some bs → xs = bs.map V.int := by
  intro ds
  induction ds with
  | nil => intro xs A bs h e; cases e; exact h
  | cons d ds ih =>
    intro xs A bs ⟨x, ys, A1, A2, e1, s1, s2, j, h1, h2⟩ e
    simp only [VS.numsD, Option.bind_eq_some_iff, Option.map_eq_some_iff] at e
    obtain ⟨b, e2, bs', e3, rfl⟩ := e
    have e4 := inD_some e2
    subst e4
    have e5 : x = .int b := h1
    rw [e1, e5, ih h2 e3, List.map_cons]
theorem reps_ints {H : Hp} : ∀ ns : List Int, Reps K mg H (ns.map D.int) (ns.map V.int) E0
  | [] => rfl
  | n :: ns => ⟨_, _, E0, E0, rfl, Sub.rfl, Sub.rfl, Dj.e0, rfl, reps_ints ns⟩
/-- sorted: the answer is any list with these facts -/
def sortI (ns : List Int) : List Int := ns.mergeSort (fun a b => decide (a ≤ b))
theorem sortI_perm (ns : List Int) : (sortI ns).Perm ns := List.mergeSort_perm ..
theorem sortI_sorted (ns : List Int) : (sortI ns).Pairwise (· ≤ ·) := by
  have h := List.pairwise_mergeSort (le := fun a b : Int => decide (a ≤ b)) (by intro a b c; simp; omega) (by intro a b; simp; omega) ns
  exact h.imp fun h => by simpa using h
theorem sort_one {ns ms : List Int} (p : ms.Perm ns) (s : ms.Pairwise (· ≤ ·)) : ms = sortI ns := by
  refine List.Perm.eq_of_pairwise (le := fun a b : Int => a ≤ b) ?_ s (sortI_sorted ns) (p.trans (sortI_perm ns).symm)
  intro a b _ _ h1 h2
  omega
def sortedD : D → Option D := fun d => ((isLst d).bind numsD).bind fun ns => if ns.length < 64 then some (.lst true ((sortI ns).map D.int)) else none
theorem vcl_sorted : VCl K mg (rSorted K) (one sortedD) := vcl_one fun d1 d v T H Q e r l q => by
  simp only [sortedD, Option.bind_eq_some_iff] at e
  obtain ⟨ns, ⟨ds, e1, e2⟩, e⟩ := e
  split at e
  · rename_i h
    cases e
    obtain ⟨a, xs, rfl, s, r⟩ := r.lsts e1
    have e3 := Reps.numsD _ r e2
    subst e3
    refine ⟨a, ns, rfl, s, h, fun ms p pm so np => ?_⟩
    have e4 := sort_one pm so
    subst e4
    exact q _ _ (fun a => E0 a ∨ a = p) ⟨p, _, rfl, upd_same, .inr rfl, (reps_ints _).mono Sub.e0⟩ (.new np trivial Live.e0 Sub.e0)
  · cases e
def sumD : D → Option D := fun d => ((isLst d).bind numsD).map fun ns => .int ns.sum
theorem vcl_sum : VCl K mg (rSum K) (one sumD) := vcl_one fun d1 d v T H Q e r l q => by
  simp only [sumD, Option.map_eq_some_iff, Option.bind_eq_some_iff] at e
  obtain ⟨ns, ⟨ds, e1, e2⟩, rfl⟩ := e
  obtain ⟨a, xs, rfl, s, r⟩ := r.lsts e1
  have e3 := Reps.numsD _ r e2
  subst e3
  exact ⟨a, ns, rfl, s, q _ H E0 rfl .refl⟩

/-! ### items -/
def ixD (c i : D) : Option D :=
  match i with
  | .int k => (items c).bind fun ds => atI ds k
  | _ => none
theorem Reps.atI {H : Hp} {ds : List D} {xs : List V} {A : AS} {k : Int} {d : D} (h : Reps K mg H ds xs A) (e : atI ds k = some d) : ∃ v, atI xs k = some v ∧ Rep K mg H d v A := by
  unfold L2.atI at e ⊢
  rw [h.length]
  simp only [Option.bind_eq_some_iff] at e ⊢
  obtain ⟨j, e1, e2⟩ := e
  obtain ⟨v, e3, r⟩ := h.get e2
  exact ⟨v, ⟨j, e1, e3⟩, r⟩
theorem vop_ix : VOp K mg (fun x y H Q => rIxL K x y H Q ∨ rIxT K x y H Q) ixD := by
  intro d1 d2 d v1 v2 T1 T2 H Q e r1 r2 dj l1 l2 q
  unfold ixD at e
  split at e
  · rename_i k
    simp only [Option.bind_eq_some_iff] at e
    obtain ⟨ds, e1, e2⟩ := e
    cases (show v2 = .int k from r2)
    obtain ⟨a, xs, rfl, s, r⟩ := r1.seq e1
    obtain ⟨v, e3, rv⟩ := r.atI e2
    have fin := q v H T1 rv (.same l1 fun a => .inl)
    exact s.imp (fun s => ⟨a, xs, k, v, rfl, rfl, s, e3, fin⟩) fun s => ⟨a, xs, k, v, rfl, rfl, s, e3, fin⟩
  · cases e
theorem ix_lt : IxR X (fun x y H Q => rIxL X.K x y H Q ∨ rIxT X.K x y H Q) := ix_list.or ix_tup

/-! ### isinstance -/
def tyD : D → Option String
  | .non => some "NoneType"
  | .bl _ => some "bool"
  | .int _ => some "int"
  | .str _ => some "str"
  | .tup _ => some "tuple"
  | .lst _ _ => some "list"
  | .rol _ => some "list"
  | _ => none
theorem Rep.tyx {H : Hp} {d : D} {v : V} {A : AS} {n : String} (h : Rep K mg H d v A) (e : tyD d = some n) : TyX K H v (.type n) := by
  cases d with
  | non => cases e; cases (show v = .non from h); exact .base .non
  | bl b => cases e; cases (show v = .bl b from h); exact .base (.bl b)
  | int b => cases e; cases (show v = .int b from h); exact .base (.int b)
  | str b => cases e; cases (show v = .str b from h); exact .base (.str b)
  | tup ds =>
    cases e
    obtain ⟨a, xs, rfl, (s | ⟨o, s⟩) | ⟨o, its, m, s, c, _⟩, r⟩ := h
    · exact .base (.tup s)
    · exact .fTuple s
    · exact .kTuple s c
  | rol ds =>
    cases e
    obtain ⟨a, xs, rfl, ⟨o, s⟩ | ⟨o, its, m, s, c, _⟩, r⟩ := h
    · exact .base (.frz s)
    · exact .kList s c
  | lst m ds =>
    cases e
    obtain ⟨a, xs, rfl, s | ⟨o, s⟩, r⟩ := h.lstAt
    · exact .base (.lst s)
    · exact .base (.frz s)
  | _ => cases e
/-- a built-in type's name as an argument: a text that no data have (never read) -/
def subT (a T : String) : Bool := a == T || (a == "bool" && T == "int")
theorem subT_ok : ∀ a ∈ ["NoneType", "bool", "int", "str", "tuple", "list"], ∀ T ∈ ["bool", "int", "str", "tuple", "list"], kitB a T = some (subT a T) := by decide +kernel
theorem tyD_mem {d : D} {n : String} (e : tyD d = some n) : n ∈ ["NoneType", "bool", "int", "str", "tuple", "list"] := by
  cases d <;> simp [tyD] at e <;> subst e <;> simp
def isiD (Ts : List String) (d : D) : Option D := (tyD d).map fun a => .bl (Ts.any fun T => subT a T)
theorem kitOne_of {a T : String} (ha : a ∈ ["NoneType", "bool", "int", "str", "tuple", "list"]) (hT : T ∈ ["bool", "int", "str", "tuple", "list"]) : PySem.W.kitOne K (.type a) (.type T) = some (subT a T) := kit_ty (subT_ok a ha T hT)
theorem kitAny_of {a : String} (ha : a ∈ ["NoneType", "bool", "int", "str", "tuple", "list"]) : ∀ Ts : List String, (∀ T ∈ Ts, T ∈ ["bool", "int", "str", "tuple", "list"]) → PySem.W.kitAny K (.type a) (Ts.map Value.type) = some (Ts.any fun T => subT a T)
  | [], _ => rfl
  | T :: Ts, h => by
    rw [List.map_cons, List.any_cons]
    have h1 := kitOne_of (K := K) ha (h T List.mem_cons_self)
    have h2 := kitAny_of ha Ts fun U hU => h U (List.mem_cons_of_mem _ hU)
    refine kitAny_cons h1 (fun e => ?_) fun e => ?_
    · rw [e, Bool.false_or]; exact h2
    · rw [e, Bool.true_or]
end
section
variable {X : Cx} {eC : Addr} {W : WX} {S : List Nat}
/-- isinstance(e, T) -/
theorem ve_isi {e : Expr} {m : EM} {T x : Str} {Ts : String} {p p2 pos : Pos} (hT : Ts ∈ ["bool", "int", "str", "tuple", "list"]) (hx : X.mg x = none) (hg : Gl X x) (hv : bootBuiltins x = some (.type Ts))
    (hg2 : Gl X "isinstance") (hm2 : X.mg "isinstance" = none) (hv2 : bootBuiltins "isinstance" = some (.builtin "isinstance")) (he : VE X eC W S e m) (hn : x ≠ "__name__") (hd : (x == ("__debug__" : Str)) = false)
    (hs : starEach [e, .Name x p2] X.env = (false, eval e X.env) :: starEach [.Name x p2] X.env := by rfl) (hs2 : starEach [.Name x p2] X.env = (false, eval (.Name x p2) X.env) :: starEach [] X.env := by rfl)
    (hb : PE X (.Call (.Name "isinstance" p) [e, .Name x p2] [] pos) (tCB (rIsi X.K) (tCons (TV X.K X.mg eC W S m) (tCons (tC (.ty Ts)) tNil))) := by
      exact pe_callB call_isi hg2 hm2 hv2 (pa_cons he (pa_cons (pe_bltn hg hx hv rfl hn hd) pa_nil))) :
    VE X eC W S (.Call (.Name "isinstance" p) [e, .Name x p2] [] pos) (unM (isiD [Ts]) m) := PE.imp hb fun σ H Q q => by
  refine tv_un (r := fun v H Q => rIsi X.K [v, .ty Ts] H Q) (f := isiD [Ts]) (fun d1 d v T1 H Q e r l q => ?_) q
  simp only [isiD, Option.map_eq_some_iff] at e
  obtain ⟨n, e, rfl⟩ := e
  refine ⟨v, .ty Ts, _, .type Ts, subT n Ts, rfl, .ty Ts, r.tyx e, kitOne_of (tyD_mem e) hT, ?_⟩
  refine q _ H E0 ?_ .refl
  show _ = _
  simp
end
end VS
set_option Elab.async false
set_option linter.all false
set_option maxRecDepth 100000
set_option maxHeartbeats 4000000
/-! VS6: tests, and, or, not, conditional expressions, slices, freezing. -/
namespace VS
open PySem PySem.Spec PyProof.Rows L2
section
variable (K : PySem.W.Frag) (mg : Str → Option Value) (eC : Addr) (W : WX) (S : List Nat) (σ : L2.St) (H : Hp) (F : Nat → AS)
/-- what is wanted behind, told of the answer -/
def CT {α : Type} (r : Res α) (Q : α → Hp → Prop) : Prop :=
  match r with
  | .ok b ρ' => ∀ H' F', ER K mg H' ρ' σ F' → Aft S H F H' F' → Q b H'
  | .ex z ρ' => ∀ dd H' F', ER K mg H' ρ' σ F' → H' dd = some (.xd [("reason", .str z)]) → Aft S H F H' F' → W (.ref eC) (some dd) σ H'
  | .bad => False
def CV (r : Res D) (Q : VK) : Prop :=
  match r with
  | .ok d ρ' => ∀ v H' F' T, ER K mg H' ρ' σ F' → Rep K mg H' d v T → Got S H F H' F' T → Q v H'
  | .ex z ρ' => ∀ dd H' F', ER K mg H' ρ' σ F' → H' dd = some (.xd [("reason", .str z)]) → Aft S H F H' F' → W (.ref eC) (some dd) σ H'
  | .bad => False
end
section
variable {K : PySem.W.Frag} {mg : Str → Option Value} {eC : Addr} {W : WX} {S S1 S2 S3 : List Nat} {σ : L2.St} {H : Hp}
theorem tv_iff {m : EM} {Q : VK} : TV K mg eC W S m σ H Q ↔ ∃ ρ F, ER K mg H ρ σ F ∧ CV K mg eC W S σ H F (m ρ) Q := Iff.rfl
theorem tvt_iff {α : Type} {m : M α} {Q : α → Hp → Prop} : TVt K mg eC W S m σ H Q ↔ ∃ ρ F, ER K mg H ρ σ F ∧ CT K mg eC W S σ H F (m ρ) Q := Iff.rfl
/-- a value, then something told by its data -/
theorem tv_t {α : Type} {m : EM} {f : D → List D → Res α} {Q : VK} {Q' : α → Hp → Prop} (q : TVt K mg eC W S (fun ρ => (m ρ).bind f) σ H Q')
    (h : ∀ F d ρ1 v H1 F1 T, ER K mg H1 ρ1 σ F1 → Rep K mg H1 d v T → Got S H F H1 F1 T → CT K mg eC W S σ H F (f d ρ1) Q' → Q v H1) : TV K mg eC W S m σ H Q := by
  obtain ⟨ρ, F, er, q⟩ := q
  refine ⟨ρ, F, er, ?_⟩
  dsimp only at q
  cases e1 : m ρ with
  | bad => rw [e1] at q; exact q
  | ex z ρ1 => rw [e1] at q; exact q
  | ok d ρ1 =>
    rw [e1] at q
    intro v H1 F1 T er1 r g
    exact h F d ρ1 v H1 F1 T er1 r g q
/-- one told thing, then another -/
theorem ct_ct {α β : Type} {m : M α} {f : α → List D → Res β} {Q : β → Hp → Prop} {Q' : α → Hp → Prop} (q : TVt K mg eC W (S1 ++ S2) (fun ρ => (m ρ).bind f) σ H Q)
    (h : ∀ b ρ1 H1 F1, ER K mg H1 ρ1 σ F1 → CT K mg eC W S2 σ H1 F1 (f b ρ1) Q → Q' b H1) : TVt K mg eC W S1 m σ H Q' := by
  obtain ⟨ρ, F, er, q⟩ := q
  refine ⟨ρ, F, er, ?_⟩
  dsimp only at q
  cases e1 : m ρ with
  | bad => rw [e1] at q; exact q
  | ex z ρ1 => rw [e1] at q; exact fun dd H' F' er' x g => q dd H' F' er' x (g.more fun j hj => List.mem_append_left _ hj)
  | ok b ρ1 =>
    rw [e1] at q
    intro H1 F1 er1 g
    refine h b ρ1 H1 F1 er1 ?_
    simp only [Res.bind_ok] at q
    cases e2 : f b ρ1 with
    | bad => rw [e2] at q; exact q
    | ex z ρ2 => rw [e2] at q; exact fun dd H' F' er' x g' => q dd H' F' er' x (g.trans g')
    | ok c ρ2 => rw [e2] at q; exact fun H' F' er' g' => q H' F' er' (g.trans g')
theorem ct_cv {α : Type} {m : M α} {f : α → List D → Res D} {Q : VK} {Q' : α → Hp → Prop} (q : TV K mg eC W (S1 ++ S2) (fun ρ => (m ρ).bind f) σ H Q)
    (h : ∀ b ρ1 H1 F1, ER K mg H1 ρ1 σ F1 → CV K mg eC W S2 σ H1 F1 (f b ρ1) Q → Q' b H1) : TVt K mg eC W S1 m σ H Q' := by
  obtain ⟨ρ, F, er, q⟩ := q
  refine ⟨ρ, F, er, ?_⟩
  dsimp only at q
  cases e1 : m ρ with
  | bad => rw [e1] at q; exact q
  | ex z ρ1 => rw [e1] at q; exact fun dd H' F' er' x g => q dd H' F' er' x (g.more fun j hj => List.mem_append_left _ hj)
  | ok b ρ1 =>
    rw [e1] at q
    intro H1 F1 er1 g
    refine h b ρ1 H1 F1 er1 ?_
    simp only [Res.bind_ok] at q
    cases e2 : f b ρ1 with
    | bad => rw [e2] at q; exact q
    | ex z ρ2 => rw [e2] at q; exact fun dd H' F' er' x g' => q dd H' F' er' x (g.trans g')
    | ok c ρ2 => rw [e2] at q; exact fun v H' F' T er' r g' => q v H' F' T er' r (Got.trans g g')
theorem CT.more {α : Type} {r : Res α} {Q : α → Hp → Prop} {F : Nat → AS} (q : CT K mg eC W S1 σ H F r Q) (s : ∀ j, j ∈ S2 → j ∈ S1) : CT K mg eC W S2 σ H F r Q := by
  cases r with
  | bad => exact q
  | ok b ρ => exact fun H' F' er g => q H' F' er (g.more s)
  | ex z ρ => exact fun dd H' F' er x g => q dd H' F' er x (g.more s)
theorem CV.more {r : Res D} {Q : VK} {F : Nat → AS} (q : CV K mg eC W S1 σ H F r Q) (s : ∀ j, j ∈ S2 → j ∈ S1) : CV K mg eC W S2 σ H F r Q := by
  cases r with
  | bad => exact q
  | ok b ρ => exact fun v H' F' T er rv g => q v H' F' T er rv (g.more s)
  | ex z ρ => exact fun dd H' F' er x g => q dd H' F' er x (g.more s)
def blOf : D → Option Bool
  | .bl b => some b
  | _ => none
def testM (m : EM) : M Bool := fun ρ => (m ρ).bind fun d ρ1 => Res.of (blOf d) ρ1
theorem tv_test {m : EM} {Q : Bool → Hp → Prop} (q : TVt K mg eC W S (testM m) σ H Q) : TV K mg eC W S m σ H (fun x H1 => ∃ c, x = .bl c ∧ Q c H1) :=
  tv_t q fun F d ρ1 v H1 F1 T er1 r g q => by
    cases d with
    | bl b => exact ⟨b, r, q H1 F1 er1 g.toAft⟩
    | _ => exact q.elim
end

section
variable {X : Cx} {eC : Addr} {W : WX} {S S1 S2 S3 : List Nat} {pos : Pos}
theorem vt_val {e : Expr} {m : EM} (h : VE X eC W S e m) (he : ∀ whole, isTrue e X.env whole = (do let v ← whole; standAt e.pos; holding [v] (truthy v)) := by intro _; rfl) : VT X eC W S e (testM m) :=
  PT.imp (pt_val h he) fun _ _ _ q => tv_test q
theorem vt_cmp {a b : Expr} {op : CmpOp} {r : R2} {f : D → D → Option D} {ma mb : EM} (ho : OpR X (compareOp op) r) (h : VOp X.K X.mg r f) (ha : VE X eC W S1 a ma) (hb : VE X eC W S2 b mb) (hm : behindInMarks op b = false := by rfl) :
    VT X eC W (S1 ++ S2) (.Compare a [op] [b] pos) (testM (opM f ma mb)) := PT.imp (pt_cmpR ho ha hb hm) fun _ _ _ q => tv_op (Q := fun x H1 => ∃ c, x = .bl c ∧ _) h (tv_test q)
/-- and, or, not as tests -/
abbrev VW (X : Cx) (eC : Addr) (W : WX) (S : List Nat) (e : Expr) (m : M Bool) : Prop := PW X e (TVt X.K X.mg eC W S m)
theorem PW.imp {X : Cx} {e : Expr} {t t' : TT} (h : PW X e t) (i : ∀ σ H Q, t' σ H Q → t σ H Q) : PW X e t' := ⟨fun wh pins s σ H Q I q => h.run wh pins s σ H Q I (i σ H Q q)⟩
def andM (t u : M Bool) : M Bool := fun ρ => (t ρ).bind fun b ρ1 => if b = true then u ρ1 else .ok false ρ1
def orM (t u : M Bool) : M Bool := fun ρ => (t ρ).bind fun b ρ1 => if b = true then .ok true ρ1 else u ρ1
def notM (t : M Bool) : M Bool := fun ρ => (t ρ).bind fun b ρ1 => .ok (!b) ρ1
theorem vw_and1 {a : Expr} {t : M Bool} (h : VT X eC W S a t) : VW X eC W S (.BoolOp .And [a] pos) t := pw_and1 h
theorem vw_or1 {a : Expr} {t : M Bool} (h : VT X eC W S a t) : VW X eC W S (.BoolOp .Or [a] pos) t := pw_or1 h
theorem vw_and {a b : Expr} {rest : List Expr} {t u : M Bool} (h : VT X eC W S1 a t) (g : VW X eC W S2 (.BoolOp .And (b :: rest) pos) u) : VW X eC W (S1 ++ S2) (.BoolOp .And (a :: b :: rest) pos) (andM t u) :=
  PW.imp (pw_and h g) fun σ H Q q => ct_ct q fun b ρ1 H1 F1 er1 q => by
    cases b with
    | true => rw [if_pos rfl]; exact ⟨ρ1, F1, er1, q⟩
    | false => rw [if_neg Bool.false_ne_true]; exact q H1 F1 er1 .refl
theorem vw_or {a b : Expr} {rest : List Expr} {t u : M Bool} (h : VT X eC W S1 a t) (g : VW X eC W S2 (.BoolOp .Or (b :: rest) pos) u) : VW X eC W (S1 ++ S2) (.BoolOp .Or (a :: b :: rest) pos) (orM t u) :=
  PW.imp (pw_or h g) fun σ H Q q => ct_ct q fun b ρ1 H1 F1 er1 q => by
    cases b with
    | true => rw [if_pos rfl]; exact q H1 F1 er1 .refl
    | false => rw [if_neg Bool.false_ne_true]; exact ⟨ρ1, F1, er1, q⟩
theorem vt_w {e : Expr} {m : M Bool} (h : VW X eC W S e m) : VT X eC W S e m := h.pt
theorem vt_not {a : Expr} {t : M Bool} (h : VT X eC W S a t) : VT X eC W S (.UnaryOp .Not a pos) (notM t) :=
  PT.imp (pt_not h) fun σ H Q q => ct_ct (S2 := []) (f := fun b ρ1 => .ok (!b) ρ1) (by rw [List.append_nil]; exact q) fun b ρ1 H1 F1 er1 q => q H1 F1 er1 .refl
/-- .. as values -/
def andV (ma mb : EM) : EM := fun ρ => (ma ρ).bind fun d ρ1 => (Res.of (blOf d) ρ1).bind fun b ρ2 => if b = true then mb ρ2 else .ok (.bl false) ρ2
def orV (ma mb : EM) : EM := fun ρ => (ma ρ).bind fun d ρ1 => (Res.of (blOf d) ρ1).bind fun b ρ2 => if b = true then .ok (.bl true) ρ2 else mb ρ2
theorem tv_bl {K : PySem.W.Frag} {mg : Str → Option Value} {σ : L2.St} {H : Hp} {m : EM} {f : Bool → List D → Res D} {Q : VK} {Q' : Bool → Hp → Prop} (q : TV K mg eC W (S1 ++ S2) (fun ρ => (m ρ).bind fun d ρ1 => (Res.of (blOf d) ρ1).bind f) σ H Q)
    (h : ∀ b ρ1 H1 F1, ER K mg H1 ρ1 σ F1 → CV K mg eC W S2 σ H1 F1 (f b ρ1) Q → Q' b H1) : TV K mg eC W S1 m σ H (fun x H1 => ∃ c, x = .bl c ∧ Q' c H1) := by
  refine tv_test (ct_cv (S2 := S2) (f := f) (Q := Q) ?_ h)
  obtain ⟨ρ, F, er, q⟩ := q
  refine ⟨ρ, F, er, ?_⟩
  have e : (testM m ρ).bind f = (m ρ).bind fun d ρ1 => (Res.of (blOf d) ρ1).bind f := by
    unfold testM
    cases m ρ <;> rfl
  dsimp only
  rw [e]
  exact q
theorem ve_one {a : Expr} {op : BoolOp} {m : EM} (h : VE X eC W S a m) : VE X eC W S (.BoolOp op [a] pos) m := pe_one h
theorem ve_and {a b : Expr} {rest : List Expr} {ma mb : EM} (h : VE X eC W S1 a ma) (g : VE X eC W S2 (.BoolOp .And (b :: rest) pos) mb) : VE X eC W (S1 ++ S2) (.BoolOp .And (a :: b :: rest) pos) (andV ma mb) :=
  PE.imp (pe_and h g) fun σ H Q q => tv_bl q fun b ρ1 H1 F1 er1 q => by
    cases b with
    | true => rw [if_pos rfl]; exact ⟨ρ1, F1, er1, q⟩
    | false => rw [if_neg Bool.false_ne_true]; exact q _ H1 F1 E0 er1 rfl .refl
theorem ve_or {a b : Expr} {rest : List Expr} {ma mb : EM} (h : VE X eC W S1 a ma) (g : VE X eC W S2 (.BoolOp .Or (b :: rest) pos) mb) : VE X eC W (S1 ++ S2) (.BoolOp .Or (a :: b :: rest) pos) (orV ma mb) :=
  PE.imp (pe_or h g) fun σ H Q q => tv_bl q fun b ρ1 H1 F1 er1 q => by
    cases b with
    | true => rw [if_pos rfl]; exact q _ H1 F1 E0 er1 rfl .refl
    | false => rw [if_neg Bool.false_ne_true]; exact ⟨ρ1, F1, er1, q⟩
def notV (m : EM) : EM := fun ρ => (m ρ).bind fun d ρ1 => (Res.of (blOf d) ρ1).bind fun b ρ2 => .ok (.bl (!b)) ρ2
theorem ve_not {a : Expr} {m : EM} (h : VE X eC W S a m) : VE X eC W S (.UnaryOp .Not a pos) (notV m) :=
  PE.imp (pe_not h) fun σ H Q q => tv_bl (S2 := []) (f := fun b ρ2 => .ok (.bl (!b)) ρ2) (by rw [List.append_nil]; exact q) fun b ρ1 H1 F1 er1 q => q _ H1 F1 E0 er1 rfl .refl
/-- a if t else b -/
def ifM {α : Type} (t : M Bool) (a b : M α) : M α := fun ρ => (t ρ).bind fun c ρ1 => if c = true then a ρ1 else b ρ1
theorem ve_if {c a b : Expr} {t : M Bool} {ma mb : EM} (h : VT X eC W S1 c t) (ha : VE X eC W S2 a ma) (hb : VE X eC W S3 b mb) : VE X eC W (S1 ++ (S2 ++ S3)) (.IfExp c a b pos) (ifM t ma mb) :=
  PE.imp (pe_ifExp h ha hb) fun σ H Q q => ct_cv q fun c ρ1 H1 F1 er1 q => by
    cases c with
    | true =>
      rw [if_pos rfl]
      rw [if_pos rfl] at q
      exact ⟨ρ1, F1, er1, CV.more q fun j hj => List.mem_append_left _ hj⟩
    | false =>
      rw [if_neg Bool.false_ne_true]
      rw [if_neg Bool.false_ne_true] at q
      exact ⟨ρ1, F1, er1, CV.more q fun j hj => List.mem_append_right _ hj⟩
/-- the value is frozen -/
def fzM (m : EM) : EM := fun ρ => (m ρ).bind fun d ρ1 => .ok (fz d) ρ1
theorem ve_fzM {e : Expr} {m : EM} (h : VE X eC W S e m) : VE X eC W S e (fzM m) := PE.imp (PE.frz h) fun σ H Q q => by
  obtain ⟨ρ, F, er, q⟩ := q
  refine ⟨ρ, F, er, ?_⟩
  unfold fzM at q
  cases e1 : m ρ with
  | bad => rw [e1] at q; exact q
  | ex z ρ1 => rw [e1] at q; exact q
  | ok d ρ1 =>
    rw [e1] at q
    intro v H1 F1 T er1 r g
    refine ⟨T, fun H2 f => ?_⟩
    have t : AftT T H1 H2 E0 := ⟨fun a o e n => (f.out a n).trans e, fun _ h => h.elim, Live.e0, fun a e => by
      by_cases x : T a
      · obtain ⟨u, e', m⟩ := g.live a x
        obtain ⟨o, e3⟩ := f.inn a u x e' m
        rw [e] at e3; cases e3
      · rw [f.out a x] at e; exact e⟩
    exact q v H2 F1 E0 (er1.step g.live g.dj t) (Rep.frz f d r Sub.rfl) (Got.step g.toAft er1 g.dj g.new t)
/-- truth of lists, tuples, texts, ints -/
def truD : D → Option Bool
  | .non => some false
  | .bl b => some b
  | .int i => some (i != 0)
  | .str x => if x.length ≤ big then some ((x.length : Int) != 0) else none
  | .tup ds => some (!ds.isEmpty)
  | .lst _ ds => some (!ds.isEmpty)
  | .rol ds => some (!ds.isEmpty)
  | _ => none
def truM (m : EM) : M Bool := fun ρ => (m ρ).bind fun d ρ1 => Res.of (truD d) ρ1
theorem Reps.empty {K : PySem.W.Frag} {mg : Str → Option Value} {H : Hp} {ds : List D} {xs : List V} {A : AS} (r : Reps K mg H ds xs A) : xs.isEmpty = ds.isEmpty := by
  have e := r.length
  cases ds with
  | nil => cases xs with | nil => rfl | cons => simp at e
  | cons => cases xs with | nil => simp at e | cons => rfl
theorem vt_truth {e : Expr} {m : EM} (h : VE X eC W S e m) (he : ∀ whole, isTrue e X.env whole = (do let v ← whole; standAt e.pos; holding [v] (truthy v)) := by intro _; rfl) : VT X eC W S e (truM m) :=
  PT.imp (pt_truth h he) fun σ H Q q => tv_t q fun F d ρ1 v H1 F1 T er1 r g q => by
    cases e : truD d with
    | none => rw [e] at q; exact q.elim
    | some k =>
      rw [e] at q
      refine ⟨k, ?_, q H1 F1 er1 g.toAft⟩
      cases d with
      | non => cases e; cases (show v = .non from r); rfl
      | bl b => cases (show v = .bl b from r); cases e; rfl
      | int i => cases (show v = .int i from r); cases e; rfl
      | str x =>
        simp only [truD] at e
        split at e
        · rename_i hb
          cases (show v = .str x from r); cases e; exact ⟨big_line hb, rfl⟩
        · cases e
      | tup ds => cases e; obtain ⟨a, xs, rfl, s, r⟩ := r; exact .inr (.inl ⟨xs, s, by rw [r.empty]⟩)
      | rol ds => cases e; obtain ⟨a, xs, rfl, s, r⟩ := r; exact .inl ⟨xs, s.sq, by rw [r.empty]⟩
      | lst m ds => cases e; obtain ⟨a, xs, rfl, s, r⟩ := r.lstAt; exact .inl ⟨xs, s.elim .of fun h => h.sq, by rw [r.empty]⟩
      | _ => cases e
end
end VS
set_option Elab.async false
set_option linter.all false
set_option maxRecDepth 100000
set_option maxHeartbeats 4000000
/-! VS7: statements. -/
namespace VS
open PySem PySem.Spec PyProof.Rows L2
/-- how a statement ends -/
inductive Fl where
  | nx | ret (d : D) | bk | ct
abbrev SM := M Fl
/-- behind statements -/
structure AftS (H : Hp) (F : Nat → AS) (H' : Hp) (F' : Nat → AS) : Prop where
  keep : ∀ a o, H a = some o → (∀ j, ¬ F j a) → H' a = some o
  sub : ∀ j a, F' j a → (∃ k, F k a) ∨ H a = none
  dom : ∀ a, H' a = none → H a = none
structure GotS (H : Hp) (F : Nat → AS) (H' : Hp) (F' : Nat → AS) (T : AS) : Prop extends AftS H F H' F' where
  new : ∀ a, T a → (∃ k, F k a) ∨ H a = none
  dj : ∀ j, Dj T (F' j)
  live : Live H' T
/-- the slots but SA hold the same values -/
def Agree (SA : List Nat) (σ σ' : L2.St) : Prop := σ'.length = σ.length ∧ ∀ j, j ∉ SA → σ'[j]? = σ[j]?
section
variable {K : PySem.W.Frag} {mg : Str → Option Value} {H H' H'' : Hp} {ρ ρ' : List D} {σ σ' σ'' : L2.St} {F F' F'' : Nat → AS} {T : AS} {S SA SB : List Nat}
theorem Aft.s (g : Aft S H F H' F') : AftS H F H' F' := ⟨fun a o e n => g.keep a o e fun j _ => n j, fun j a h => by
  rcases g.back h with ⟨k, _, x⟩ | x | x
  · exact .inl ⟨k, x⟩
  · exact .inl ⟨j, x⟩
  · exact .inr x, g.dom⟩
theorem Got.s (g : Got S H F H' F' T) : GotS H F H' F' T := ⟨g.toAft.s, fun a h => (g.new a h).imp (fun ⟨k, _, x⟩ => ⟨k, x⟩) id, g.dj, g.live⟩
theorem AftS.refl : AftS H F H F := ⟨fun _ _ e _ => e, fun j a h => .inl ⟨j, h⟩, fun _ e => e⟩
theorem AftS.trans (g : AftS H F H' F') (g' : AftS H' F' H'' F'') : AftS H F H'' F'' := by
  refine ⟨fun a o e n => g'.keep a o (g.keep a o e n) fun j h => ?_, fun j a h => ?_, fun a e => g.dom a (g'.dom a e)⟩
  · rcases g.sub j a h with ⟨k, x⟩ | x
    · exact n k x
    · rw [e] at x; cases x
  · rcases g'.sub j a h with ⟨k, x⟩ | x
    · exact g.sub k a x
    · exact .inr (g.dom a x)
theorem GotS.trans (g : AftS H F H' F') (g' : GotS H' F' H'' F'' T) : GotS H F H'' F'' T := ⟨g.trans g'.toAftS, fun a h => by
  rcases g'.new a h with ⟨k, x⟩ | x
  · exact g.sub k a x
  · exact .inr (g.dom a x), g'.dj, g'.live⟩
theorem Agree.refl : Agree SA σ σ := ⟨rfl, fun _ _ => rfl⟩
theorem Agree.trans (a : Agree SA σ σ') (b : Agree SA σ' σ'') : Agree SA σ σ'' := ⟨b.1.trans a.1, fun j h => (b.2 j h).trans (a.2 j h)⟩
theorem Agree.more (a : Agree SA σ σ') (s : ∀ j, j ∈ SA → j ∈ SB) : Agree SB σ σ' := ⟨a.1, fun j h => a.2 j fun x => h (s j x)⟩
theorem Agree.set {i : Nat} {v : Option V} (h : i ∈ SA) : Agree SA σ (σ.set i v) := ⟨List.length_set, fun j n => List.getElem?_set_ne (by intro e; subst e; exact n h)⟩
end
section
variable (K : PySem.W.Frag) (mg : Str → Option Value) (eC : Addr) (W : WX) (SA : List Nat) (E : Ends) (σ : L2.St) (H : Hp) (F : Nat → AS)
/-- what is wanted behind a statement, told of its end -/
def CS (r : Res Fl) : Prop :=
  match r with
  | .ok .nx ρ' => ∀ σ' H' F', ER K mg H' ρ' σ' F' → AftS H F H' F' → Agree SA σ σ' → E.nx σ' H'
  | .ok (.ret d) ρ' => ∀ v σ' H' F' T, ER K mg H' ρ' σ' F' → Rep K mg H' d v T → GotS H F H' F' T → Agree SA σ σ' → E.rt v H'
  | .ok .bk ρ' => ∀ σ' H' F', ER K mg H' ρ' σ' F' → AftS H F H' F' → Agree SA σ σ' → E.bk σ' H'
  | .ok .ct ρ' => ∀ σ' H' F', ER K mg H' ρ' σ' F' → AftS H F H' F' → Agree SA σ σ' → E.ct σ' H'
  | .ex z ρ' => ∀ dd σ' H' F', ER K mg H' ρ' σ' F' → H' dd = some (.xd [("reason", .str z)]) → AftS H F H' F' → Agree SA σ σ' → W (.ref eC) (some dd) σ' H'
  | .bad => False
def TVS (m : SM) : TS := fun E σ H => ∃ ρ F, ER K mg H ρ σ F ∧ CS K mg eC W SA E σ H F (m ρ)
end
abbrev VS (X : Cx) (eC : Addr) (W : WX) (SA : List Nat) (st : Stmt) (m : SM) : Prop := PS X st (TVS X.K X.mg eC W SA m)
abbrev VSs (X : Cx) (eC : Addr) (W : WX) (SA : List Nat) (st : List Stmt) (m : SM) : Prop := PSs X st (TVS X.K X.mg eC W SA m)
section
variable {K : PySem.W.Frag} {mg : Str → Option Value} {eC : Addr} {W : WX} {SA S1 S2 : List Nat} {E E' : Ends} {σ σ1 : L2.St} {H H1 : Hp} {F F1 : Nat → AS} {r : Res Fl}
/-- behind a step -/
theorem CS.after (q : CS K mg eC W SA E σ H F r) (g : AftS H F H1 F1) (a : Agree SA σ σ1) : CS K mg eC W SA E σ1 H1 F1 r := by
  cases r with
  | bad => exact q
  | ex z ρ => exact fun dd σ' H' F' er x g' a' => q dd σ' H' F' er x (g.trans g') (a.trans a')
  | ok f ρ =>
    cases f with
    | nx => exact fun σ' H' F' er g' a' => q σ' H' F' er (g.trans g') (a.trans a')
    | bk => exact fun σ' H' F' er g' a' => q σ' H' F' er (g.trans g') (a.trans a')
    | ct => exact fun σ' H' F' er g' a' => q σ' H' F' er (g.trans g') (a.trans a')
    | ret d => exact fun v σ' H' F' T er rv g' a' => q v σ' H' F' T er rv (GotS.trans g g') (a.trans a')
theorem CS.more (q : CS K mg eC W S1 E σ H F r) (s : ∀ j, j ∈ S2 → j ∈ S1) : CS K mg eC W S2 E σ H F r := by
  cases r with
  | bad => exact q
  | ex z ρ => exact fun dd σ' H' F' er x g' a' => q dd σ' H' F' er x g' (a'.more s)
  | ok f ρ =>
    cases f with
    | nx => exact fun σ' H' F' er g' a' => q σ' H' F' er g' (a'.more s)
    | bk => exact fun σ' H' F' er g' a' => q σ' H' F' er g' (a'.more s)
    | ct => exact fun σ' H' F' er g' a' => q σ' H' F' er g' (a'.more s)
    | ret d => exact fun v σ' H' F' T er rv g' a' => q v σ' H' F' T er rv g' (a'.more s)
/-- a value, then a statement told by its data -/
theorem tv_s {S : List Nat} {m : EM} {f : D → List D → Res Fl} {Q : VK} (q : TVS K mg eC W SA (fun ρ => (m ρ).bind f) E σ H)
    (h : ∀ d ρ1 v H1 F1 T, ER K mg H1 ρ1 σ F1 → Rep K mg H1 d v T → (∀ j, Dj T (F1 j)) → Live H1 T → (∀ H2 F2, (∀ a o, H1 a = some o → ¬ T a → (∀ j, ¬ F1 j a) → H2 a = some o) → (∀ j a, F2 j a → T a ∨ (∃ k, F1 k a) ∨ H1 a = none) → (∀ a, H2 a = none → H1 a = none) → AftS H1 F1 H2 F2 ∨ True) →
      (∃ F0 : Nat → AS, ∃ H0, CS K mg eC W SA E σ H0 F0 (f d ρ1) ∧ AftS H0 F0 H1 F1 ∧ (∀ a, T a → (∃ k, F0 k a) ∨ H0 a = none)) → Q v H1) : TV K mg eC W S m σ H Q := by
  obtain ⟨ρ, F, er, q⟩ := q
  refine ⟨ρ, F, er, ?_⟩
  dsimp only at q
  cases e1 : m ρ with
  | bad => rw [e1] at q; exact q
  | ex z ρ1 => rw [e1] at q; exact fun dd H' F' er' x g => q dd σ H' F' er' x g.s .refl
  | ok d ρ1 =>
    rw [e1] at q
    intro v H1 F1 T er1 r g
    exact h d ρ1 v H1 F1 T er1 r g.dj g.live (fun _ _ _ _ _ => .inr trivial) ⟨F, H, q, g.s.toAftS, g.s.new⟩
/-- a told test, then a statement -/
theorem tvt_s {α : Type} {S : List Nat} {m : M α} {f : α → List D → Res Fl} {Q : α → Hp → Prop} (q : TVS K mg eC W SA (fun ρ => (m ρ).bind f) E σ H)
    (h : ∀ b ρ1 H1 F1, ER K mg H1 ρ1 σ F1 → CS K mg eC W SA E σ H1 F1 (f b ρ1) → Q b H1) : TVt K mg eC W S m σ H Q := by
  obtain ⟨ρ, F, er, q⟩ := q
  refine ⟨ρ, F, er, ?_⟩
  dsimp only at q
  cases e1 : m ρ with
  | bad => rw [e1] at q; exact q
  | ex z ρ1 => rw [e1] at q; exact fun dd H' F' er' x g => q dd σ H' F' er' x g.s .refl
  | ok b ρ1 =>
    rw [e1] at q
    intro H1 F1 er1 g
    exact h b ρ1 H1 F1 er1 (CS.after q g.s .refl)
/-- a slot is stored behind a step -/
theorem CS.store {i : Nat} {d : D} {v : V} {ρ1 : List D} {T : AS} {H0 : Hp} {F0 : Nat → AS} {f : Res Fl} (q : CS K mg eC W SA E σ H0 F0 f) (g : AftS H0 F0 H1 F1) (er : ER K mg H1 ρ1 σ F1) (r : Rep K mg H1 d v T) (dj : ∀ j, Dj T (F1 j)) (l : Live H1 T)
    (new : ∀ a, T a → (∃ k, F0 k a) ∨ H0 a = none) (hi : i ∈ SA) (lt : i < ρ1.length) : ER K mg H1 (ρ1.set i d) (σ.set i (some v)) (fun j => if j = i then T else F1 j) ∧ CS K mg eC W SA E (σ.set i (some v)) H1 (fun j => if j = i then T else F1 j) f := by
  refine ⟨er.put lt r l dj, CS.after q ⟨fun a o e n => g.keep a o e n, fun j a h => ?_, g.dom⟩ (.set hi)⟩
  by_cases c : j = i
  · rw [if_pos c] at h; exact new a h
  · rw [if_neg c] at h; exact g.sub j a h
end
section
variable {X : Cx} {eC : Addr} {W : WX} {S S1 S2 SA SB : List Nat} {pos : Pos}
theorem VS.more {st : Stmt} {m : SM} (h : VS X eC W SA st m) (s : ∀ j, j ∈ SA → j ∈ SB) : VS X eC W SB st m := PS.imp h fun E σ H ⟨ρ, F, er, q⟩ => ⟨ρ, F, er, by
  cases e1 : m ρ with
  | bad => rw [e1] at q; exact q
  | ex z ρ => rw [e1] at q; exact fun dd σ' H' F' er x g' a' => q dd σ' H' F' er x g' (a'.more s)
  | ok f ρ =>
    rw [e1] at q
    cases f with
    | nx => exact fun σ' H' F' er g' a' => q σ' H' F' er g' (a'.more s)
    | bk => exact fun σ' H' F' er g' a' => q σ' H' F' er g' (a'.more s)
    | ct => exact fun σ' H' F' er g' a' => q σ' H' F' er g' (a'.more s)
    | ret d => exact fun v σ' H' F' T er rv g' a' => q v σ' H' F' T er rv g' (a'.more s)⟩
def skipM : SM := fun ρ => .ok .nx ρ
def seqM (a b : SM) : SM := fun ρ => (a ρ).bind fun f ρ1 => match f with
  | .nx => b ρ1
  | f => .ok f ρ1
theorem vss_nil : VSs X eC W SA [] skipM := PSs.imp pss_nil fun E σ H ⟨ρ, F, er, q⟩ => q σ H F er .refl .refl
theorem vss_cons {st : Stmt} {rest : List Stmt} {a b : SM} (h : VS X eC W SA st a) (g : VSs X eC W SA rest b) : VSs X eC W SA (st :: rest) (seqM a b) := PSs.imp (pss_cons h g) fun E σ H ⟨ρ, F, er, q⟩ => by
  refine ⟨ρ, F, er, ?_⟩
  unfold seqM at q
  cases e1 : a ρ with
  | bad => rw [e1] at q; exact q
  | ex z ρ1 => rw [e1] at q; exact q
  | ok f ρ1 =>
    rw [e1] at q
    cases f with
    | nx =>
      intro σ1 H1 F1 er1 g1 a1
      exact ⟨ρ1, F1, er1, CS.after (r := b ρ1) q g1 a1⟩
    | bk => exact q
    | ct => exact q
    | ret d => exact q
theorem vss_one {st : Stmt} {a : SM} (h : VS X eC W SA st a) : VSs X eC W SA [st] a := pss_one h
theorem vs_pass : VS X eC W SA (.Pass pos) skipM := PS.imp ps_pass fun E σ H ⟨ρ, F, er, q⟩ => q σ H F er .refl .refl
theorem vs_doc {x j pos pos'} : VS X eC W SA (.Expr (.Constant (.str x) j pos) pos') skipM := PS.imp ps_doc fun E σ H ⟨ρ, F, er, q⟩ => q σ H F er .refl .refl
def dropM (m : EM) : SM := fun ρ => (m ρ).bind fun _ ρ1 => .ok .nx ρ1
theorem vs_expr {e : Expr} {m : EM} (h : VE X eC W S e m) (hs : swapsWith e none pos.line X.env = pure false := by rfl) : VS X eC W SA (.Expr e pos) (dropM m) := PS.imp (ps_expr h hs) fun E σ H q =>
  tv_s (f := fun _ ρ1 => .ok .nx ρ1) q fun d ρ1 v H1 F1 T er1 r dj l _ ⟨F0, H0, q, g, new⟩ => q σ H1 F1 er1 g .refl
def retM (m : EM) : SM := fun ρ => (m ρ).bind fun d ρ1 => .ok (.ret d) ρ1
theorem vs_ret {e : Expr} {m : EM} (h : VE X eC W S e m) : VS X eC W SA (.Return (some e) pos) (retM m) := PS.imp (ps_ret h) fun E σ H q =>
  tv_s (f := fun d ρ1 => .ok (.ret d) ρ1) q fun d ρ1 v H1 F1 T er1 r dj l _ ⟨F0, H0, q, g, new⟩ => q v σ H1 F1 T er1 r ⟨g, new, dj, l⟩ .refl
def retN : SM := fun ρ => .ok (.ret .non) ρ
theorem vs_retN : VS X eC W SA (.Return none pos) retN := PS.imp ps_retN fun E σ H ⟨ρ, F, er, q⟩ => q .non σ H F E0 er rfl ⟨.refl, fun _ h => h.elim, fun _ => Dj.e0, Live.e0⟩ .refl
def iteM (t : M Bool) (a b : SM) : SM := fun ρ => (t ρ).bind fun c ρ1 => if c = true then a ρ1 else b ρ1
theorem vs_if {c : Expr} {x y : List Stmt} {t : M Bool} {a b : SM} (h : VT X eC W S c t) (ha : VSs X eC W SA x a) (hb : VSs X eC W SA y b) : VS X eC W SA (.If c x y pos) (iteM t a b) := PS.imp (ps_if h ha hb) fun E σ H q =>
  tvt_s q fun c ρ1 H1 F1 er1 q => by
    cases c with
    | true => rw [if_pos rfl]; rw [if_pos rfl] at q; exact ⟨ρ1, F1, er1, q⟩
    | false => rw [if_neg Bool.false_ne_true]; rw [if_neg Bool.false_ne_true] at q; exact ⟨ρ1, F1, er1, q⟩
/-- name = value -/
def setM (i : Nat) (m : EM) : SM := fun ρ => (m ρ).bind fun d ρ1 => if i < ρ1.length then .ok .nx (ρ1.set i d) else .bad
theorem vs_set {i : Nat} {x : Str} {e : Expr} {m : EM} {pos' : Pos} (hi : i ∈ SA) (h : VE X eC W S e m) (hN : X.N.Nodup) (hx : X.N[i]? = some x) (hl : Loc X.env.scope x) (hs : swapsWith e (some (.Name x pos')) pos.line X.env = pure false := by rfl)
    (hf : X.fn x = true ∨ X.env.scope.names.lookup x = some .local := by first | exact .inl rfl | exact .inr rfl) : VS X eC W SA (.Assign [.Name x pos'] e pos) (setM i m) := PS.imp (ps_set hN hx hl h hs hf) fun E σ H q =>
  tv_s q fun d ρ1 v H1 F1 T er1 r dj l _ ⟨F0, H0, q, g, new⟩ => by
    split at q
    · rename_i lt
      obtain ⟨er2, q2⟩ := CS.store (i := i) q g er1 r dj l new hi lt
      exact q2 _ H1 _ er2 .refl .refl
    · exact q.elim
end
end VS
set_option Elab.async false
set_option linter.all false
set_option maxRecDepth 100000
set_option maxHeartbeats 4000000
/-! VS8: places: a slot, an item of it, a field of that, .. -/
namespace VS
open PySem PySem.Spec PyProof.Rows L2
section
variable {K : PySem.W.Frag} {mg : Str → Option Value} {H H' : Hp}
/-- an item apart from the others -/
theorem Reps.kid : ∀ {ds : List D} {xs : List V} {A : AS} {k : Nat} {c : D}, Reps K mg H ds xs A → ds[k]? = some c →
    ∃ x A1 A2, xs[k]? = some x ∧ Sub A1 A ∧ Sub A2 A ∧ Dj A1 A2 ∧ Rep K mg H c x A1 ∧ Reps K mg H (ds.set k .un) xs A2
  | [], _, _, _, _, _, e => by simp at e
  | d :: ds, _, _, 0, _, ⟨x, ys, A1, A2, e1, s1, s2, j, h1, h2⟩, e => by
    subst e1
    simp at e; subst e
    exact ⟨x, A1, A2, rfl, s1, s2, j, h1, ⟨x, ys, E0, A2, rfl, Sub.e0, Sub.rfl, Dj.e0, trivial, h2⟩⟩
  | d :: ds, _, _, k + 1, _, ⟨x, ys, A1, A2, e1, s1, s2, j, h1, h2⟩, e => by
    subst e1
    obtain ⟨y, B1, B2, e2, t1, t2, dj, r1, r2⟩ := Reps.kid (k := k) h2 (by simpa using e)
    refine ⟨y, B1, Un2 A1 B2, by simpa using e2, t1.trans s2, fun a h => h.elim (s1 a) fun h => s2 a (t2 a h), fun a h g => g.elim (fun g => j a g (t1 a h)) (dj a h), r1, ?_⟩
    exact ⟨x, ys, A1, B2, rfl, fun _ => .inl, fun _ => .inr, fun a h g => j a h (t2 a g), h1, r2⟩
theorem Reps.fill : ∀ {ds : List D} {xs : List V} {A B : AS} {k : Nat} {c : D} {x : V}, Reps K mg H ds xs A → xs[k]? = some x → Rep K mg H c x B → Dj B A → Reps K mg H (ds.set k c) xs (Un2 A B)
  | [], _, _, _, _, _, _, h, e, _, _ => by
    have e1 := (show _ = [] from h); subst e1
    simp at e
  | d :: ds, _, A, B, 0, _, _, ⟨x, ys, A1, A2, e1, s1, s2, j, h1, h2⟩, e, r, dj => by
    subst e1
    simp at e; subst e
    exact ⟨x, ys, B, A2, rfl, fun _ => .inr, fun a h => .inl (s2 a h), fun a h g => dj a h (s2 a g), r, h2⟩
  | d :: ds, _, A, B, k + 1, _, _, ⟨x, ys, A1, A2, e1, s1, s2, j, h1, h2⟩, e, r, dj => by
    subst e1
    have r2 := Reps.fill (k := k) h2 (by simpa using e) r (fun a h g => dj a h (s2 a g))
    exact ⟨x, ys, A1, Un2 A2 B, rfl, fun a h => .inl (s1 a h), fun a h => h.elim (fun h => .inl (s2 a h)) .inr, fun a h g => g.elim (j a h) fun g => dj a g (s1 a h), h1, r2⟩
/-- a step: an item by its place, a field of an object of a class -/
inductive Stp where
  | ix (k : Nat)
  | fld (c f : Str)
  | ky (f : Str)
def isKy : D → Str → Bool
  | .str g, f => decide (g = f)
  | _, _ => false
def keyLike : D → Bool
  | .str _ => true
  | .int _ => true
  | _ => false
/-- the place of a word among a dict's keys -/
def kyN : List D → Str → Option Nat
  | [], _ => none
  | d :: ks, f => if isKy d f = true then some 0 else if keyLike d = true then (kyN ks f).map (· + 1) else none
def kidN : D → Stp → Option Nat
  | .lst _ ds, .ix k => if k < ds.length then some k else none
  | .obj _ c ns _, .fld c' f => if c = c' then ns.idxOf? f else none
  | .dic _ ks _, .ky f => kyN ks f
  | _, _ => none
def kids : D → List D
  | .lst _ ds => ds
  | .obj _ _ _ ds => ds
  | .dic _ _ ds => ds
  | _ => []
/-- a kid is told anew; of what is frozen nothing changes -/
def setKid : D → Nat → D → D
  | .lst true ds, k, c => .lst true (ds.set k c)
  | .obj true n ns ds, k, c => .obj true n ns (ds.set k c)
  | .dic true ks ds, k, c => .dic true ks (ds.set k c)
  | d, _, _ => d
def isFz : D → Bool
  | .lst false _ => true
  | .obj false _ _ _ => true
  | .dic false _ _ => true
  | _ => false
/-- x stands at the step from v -/
def StpAt (K : PySem.W.Frag) (mg : Str → Option Value) (H : Hp) (v : V) (p : Stp) (x : V) : Prop :=
  match p with
  | .ix k => ∃ a xs, v = .ref a ∧ LstAt H a xs ∧ xs[k]? = some x
  | .fld c f => ∃ a C dx fs, v = .ref a ∧ mg c = some (.ref C) ∧ (H a = some (.ins C dx fs) ∨ ∃ o, H a = some (.frz o (.ins C dx fs))) ∧ fs.lookup f = some x
  | .ky f => ∃ a kvs, v = .ref a ∧ (H a = some (.dK kvs) ∨ ∃ o, H a = some (.frz o (.dK kvs))) ∧ valV kvs (Sum.inr f : Key) = some x
/-- the word's place, and what stands at it -/
theorem ky_val {f : Str} : ∀ {ks : List D} {kvs : List (Key × V)} {k : Nat} {A : AS}, kyN ks f = some k → Reps K mg H ks (kvs.map fun p => kV p.1) A → ∀ x, (kvs.map (·.2))[k]? = some x ↔ valV kvs (Sum.inr f : Key) = some x
  | [], _, _, _, e, _ => by cases e
  | d :: ks, [], _, _, e, ⟨_, _, _, _, e1, _⟩ => by cases e1
  | d :: ks, p :: kvs, k, A, e, ⟨y, ys, B1, B2, e1, _, _, _, r1, r2⟩ => by
    rw [List.map_cons] at e1
    injection e1 with e11 e12
    subst e11 e12
    unfold kyN at e
    by_cases h : isKy d f = true
    · rw [if_pos h] at e
      cases e
      have hk : p.1 = (Sum.inr f : Key) := by
        cases d with
        | str g =>
          have hg : g = f := of_decide_eq_true h
          subst hg
          have r1 : kV p.1 = .str g := r1
          cases hp : p.1 with
          | inl i => rw [hp] at r1; simp [kV] at r1
          | inr z => rw [hp] at r1; simp [kV] at r1; rw [r1]
        | _ => cases h
      intro x
      rw [valV_pos hk]
      simp
    · rw [if_neg h] at e
      have hk : ¬ p.1 = (Sum.inr f : Key) := by
        intro hp
        by_cases hl : keyLike d = true
        · cases d with
          | str g =>
            have r1 : kV p.1 = .str g := r1
            rw [hp] at r1
            simp [kV] at r1
            exact h (decide_eq_true r1.symm)
          | int i =>
            have r1 : kV p.1 = .int i := r1
            rw [hp] at r1
            simp [kV] at r1
          | _ => cases hl
        · rw [if_neg hl] at e; cases e
      by_cases hl : keyLike d = true
      · rw [if_pos hl, Option.map_eq_some_iff] at e
        obtain ⟨j, e, rfl⟩ := e
        intro x
        rw [valV_neg hk]
        simpa using ky_val e r2 x
      · rw [if_neg hl] at e; cases e
theorem lookup_idx {f : Str} : ∀ {fs : List (Str × V)} {k : Nat} {x : V}, (fs.map (·.1)).idxOf? f = some k → (fs.map (·.2))[k]? = some x → fs.lookup f = some x
  | [], _, _, e, _ => by simp at e
  | (g, y) :: fs, k, x, e, e2 => by
    rw [List.map_cons, List.idxOf?_cons] at e
    rw [List.lookup_cons]
    by_cases h : g = f
    · subst h
      simp at e
      subst e
      simp at e2
      simp [e2]
    · have h1 : (g == f) = false := by simpa using h
      have h2 : (f == g) = false := by simpa using Ne.symm h
      rw [h1] at e
      simp only [Bool.false_eq_true, if_false, Option.map_eq_some_iff] at e
      obtain ⟨j, e, rfl⟩ := e
      rw [h2]
      exact lookup_idx e (by simpa using e2)
/-- a kid taken out of what may be changed -/
theorem Rep.kid {d c : D} {v : V} {A : AS} {p : Stp} {k : Nat} (h : Rep K mg H d v A) (e : kidN d p = some k) (e2 : (kids d)[k]? = some c) :
    ∃ x A1 A2, StpAt K mg H v p x ∧ Sub A1 A ∧ Sub A2 A ∧ Dj A1 A2 ∧ Rep K mg H c x A1 ∧ Rep K mg H (setKid d k .un) v A2 ∧ ∀ H', Kp A2 H H' → StpAt K mg H' v p x := by
  cases d with
  | lst m ds =>
    cases p with
    | ix j =>
      simp only [kidN] at e
      split at e <;> cases e
      cases m with
      | true =>
        obtain ⟨a, xs, rfl, q, i, r⟩ := h
        obtain ⟨x, A1, A2, e3, s1, s2, dj, r1, r2⟩ := r.kid e2
        refine ⟨x, A1, (fun b => A2 b ∨ b = a), ⟨a, xs, rfl, .inl q, e3⟩, fun b h => (s1 b h).1, fun b h => h.elim (fun h => (s2 b h).1) (fun h => by rw [h]; exact i), fun b h g => g.elim (dj b h) fun g => (s1 b h).2 g, r1, ?_, fun H' k => ⟨a, xs, rfl, .inl (k a _ q (.inl (.inr rfl))), e3⟩⟩
        exact ⟨a, xs, rfl, q, .inr rfl, r2.mono fun b h => ⟨.inl h, (s2 b h).2⟩⟩
      | false =>
        obtain ⟨a, xs, rfl, q, r⟩ := h
        obtain ⟨x, A1, A2, e3, s1, s2, dj, r1, r2⟩ := r.kid e2
        exact ⟨x, E0, E0, ⟨a, xs, rfl, .inr q, e3⟩, Sub.e0, Sub.e0, Dj.e0, r1.mono s1, ⟨a, xs, rfl, q, r⟩, fun H' k => ⟨a, xs, rfl, .inr (k.fzL q), e3⟩⟩
    | fld => cases e
    | ky => cases e
  | obj m n ns ds =>
    cases p with
    | ix => cases e
    | fld n' f =>
      simp only [kidN] at e
      split at e
      · rename_i en
        subst en
        cases m with
        | true =>
          obtain ⟨a, C, dx, fs, rfl, q, z, i, en, r⟩ := h
          subst en
          obtain ⟨x, A1, A2, e3, s1, s2, dj, r1, r2⟩ := r.kid e2
          refine ⟨x, A1, (fun b => A2 b ∨ b = a), ⟨a, C, dx, fs, rfl, q, .inl z, lookup_idx e e3⟩, fun b h => (s1 b h).1, fun b h => h.elim (fun h => (s2 b h).1) (fun h => by rw [h]; exact i), fun b h g => g.elim (dj b h) fun g => (s1 b h).2 g, r1, ?_, fun H' k => ⟨a, C, dx, fs, rfl, q, .inl (k a _ z (.inl (.inr rfl))), lookup_idx e e3⟩⟩
          exact ⟨a, C, dx, fs, rfl, q, z, .inr rfl, rfl, r2.mono fun b h => ⟨.inl h, (s2 b h).2⟩⟩
        | false =>
          obtain ⟨a, C, dx, fs, o, rfl, q, z, en, r⟩ := h
          subst en
          obtain ⟨x, A1, A2, e3, s1, s2, dj, r1, r2⟩ := r.kid e2
          exact ⟨x, E0, E0, ⟨a, C, dx, fs, rfl, q, .inr ⟨o, z⟩, lookup_idx e e3⟩, Sub.e0, Sub.e0, Dj.e0, r1.mono s1, ⟨a, C, dx, fs, o, rfl, q, z, rfl, r⟩, fun H' k => ⟨a, C, dx, fs, rfl, q, .inr ⟨o, k a _ z (.inr trivial)⟩, lookup_idx e e3⟩⟩
      · cases e
    | ky => cases e
  | dic m ks ds =>
    cases p with
    | ix => cases e
    | fld => cases e
    | ky f =>
      have e : kyN ks f = some k := e
      cases m with
      | true =>
        obtain ⟨a, o, kx, xs, rfl, q, ⟨kvs, rfl, rfl, rfl⟩, i, rk, r⟩ := h
        obtain ⟨x, A1, A2, e3, s1, s2, dj, r1, r2⟩ := r.kid e2
        refine ⟨x, A1, (fun b => A2 b ∨ b = a), ⟨a, kvs, rfl, .inl q, (ky_val e rk x).mp e3⟩, fun b h => (s1 b h).1, fun b h => h.elim (fun h => (s2 b h).1) (fun h => by rw [h]; exact i), fun b h g => g.elim (dj b h) fun g => (s1 b h).2 g, r1, ?_, fun H' k => ⟨a, kvs, rfl, .inl (k a _ q (.inl (.inr rfl))), (ky_val e rk x).mp e3⟩⟩
        exact ⟨a, _, _, _, rfl, q, ⟨kvs, rfl, rfl, rfl⟩, .inr rfl, rk, r2.mono fun b h => ⟨.inl h, (s2 b h).2⟩⟩
      | false =>
        obtain ⟨a, ob, o, kx, xs, rfl, q, ⟨kvs, rfl, rfl, rfl⟩, rk, r⟩ := h
        obtain ⟨x, A1, A2, e3, s1, s2, dj, r1, r2⟩ := r.kid e2
        exact ⟨x, E0, E0, ⟨a, kvs, rfl, .inr ⟨ob, q⟩, (ky_val e rk x).mp e3⟩, Sub.e0, Sub.e0, Dj.e0, r1.mono s1, ⟨a, ob, _, _, _, rfl, q, ⟨kvs, rfl, rfl, rfl⟩, rk, r⟩, fun H' k => ⟨a, kvs, rfl, .inr ⟨ob, k a _ q (.inr trivial)⟩, (ky_val e rk x).mp e3⟩⟩
  | _ => cases p <;> cases e
theorem LstAt.inj {a : Addr} {xs ys : List V} (h : H a = some (.lst xs)) (g : LstAt H a ys) : ys = xs := by
  rcases g with g | ⟨o, g⟩
  · rw [h] at g; cases g; rfl
  · rw [h] at g; cases g
theorem idx_lookup {f : Str} : ∀ {fs : List (Str × V)} {k : Nat} {x : V}, (fs.map (·.1)).idxOf? f = some k → fs.lookup f = some x → (fs.map (·.2))[k]? = some x
  | [], _, _, e, _ => by simp at e
  | (g, y) :: fs, k, x, e, e2 => by
    rw [List.map_cons, List.idxOf?_cons] at e
    rw [List.lookup_cons] at e2
    by_cases h : g = f
    · subst h
      simp at e
      subst e
      simp at e2
      simp [e2]
    · have h1 : (g == f) = false := by simpa using h
      have h2 : (f == g) = false := by simpa using Ne.symm h
      rw [h1] at e
      simp only [Bool.false_eq_true, if_false, Option.map_eq_some_iff] at e
      obtain ⟨j, e, rfl⟩ := e
      rw [h2] at e2
      simpa using idx_lookup e e2
/-- .. and put in again -/
theorem Rep.fill {d c : D} {v x : V} {A B : AS} {p : Stp} {k : Nat} (h : Rep K mg H (setKid d k .un) v A) (e : kidN d p = some k) (at_ : StpAt K mg H v p x) (r : Rep K mg H c x B) (dj : Dj B A) : Rep K mg H (setKid d k c) v (Un2 A B) := by
  have but : ∀ {a : Addr}, A a → Sub (Un2 (But A a) B) (But (Un2 A B) a) := fun {a} i b h => h.elim (fun h => ⟨.inl h.1, h.2⟩) fun g => ⟨.inr g, fun z => dj b g (by rw [z]; exact i)⟩
  cases d with
  | lst m ds =>
    cases p with
    | ix j =>
      simp only [kidN] at e
      split at e <;> cases e
      cases m with
      | true =>
        obtain ⟨a, xs, rfl, q, i, r1⟩ := h
        obtain ⟨a', ys, ea, q', e3⟩ := at_
        cases ea
        have e4 := q'.inj q
        subst e4
        have := Reps.fill (k := k) r1 e3 r fun b g h => dj b g h.1
        rw [List.set_set] at this
        exact ⟨a, ys, rfl, q, .inl i, this.mono (but i)⟩
      | false => exact Rep.mono h fun _ => .inl
    | fld => cases e
    | ky => cases e
  | obj m n ns ds =>
    cases p with
    | ix => cases e
    | fld n' f =>
      simp only [kidN] at e
      split at e
      · rename_i en
        subst en
        cases m with
        | true =>
          obtain ⟨a, C, dx, fs, rfl, q, z, i, en, r1⟩ := h
          subst en
          obtain ⟨a', C', dx', fs', ea, q', z', e3⟩ := at_
          cases ea
          have e4 : fs' = fs := by
            rcases z' with z' | ⟨o, z'⟩
            · rw [z] at z'; cases z'; rfl
            · rw [z] at z'; cases z'
          subst e4
          have := Reps.fill (k := k) r1 (idx_lookup e e3) r fun b g h => dj b g h.1
          rw [List.set_set] at this
          exact ⟨a, C, dx, fs', rfl, q, z, .inl i, rfl, this.mono (but i)⟩
        | false => exact Rep.mono h fun _ => .inl
      · cases e
    | ky => cases e
  | dic m ks ds =>
    cases p with
    | ix => cases e
    | fld => cases e
    | ky f =>
      have e : kyN ks f = some k := e
      cases m with
      | true =>
        obtain ⟨a, o, kx, xs, rfl, q, ⟨kvs, rfl, rfl, rfl⟩, i, rk, r1⟩ := h
        obtain ⟨a', kvs', ea, z', e3⟩ := at_
        cases ea
        have e4 : kvs' = kvs := by
          rcases z' with z' | ⟨o, z'⟩
          · rw [q] at z'; cases z'; rfl
          · rw [q] at z'; cases z'
        subst e4
        have := Reps.fill (k := k) r1 ((ky_val e rk x).mpr e3) r fun b g h => dj b g h.1
        rw [List.set_set] at this
        exact ⟨a, _, _, _, rfl, q, ⟨kvs', rfl, rfl, rfl⟩, .inl i, rk, this.mono (but i)⟩
      | false => exact Rep.mono h fun _ => .inl
  | _ => cases p <;> cases e
/-! ### paths -/
abbrev Path := List Stp
def getP : D → Path → Option D
  | d, [] => some d
  | d, p :: ps => (kidN d p).bind fun k => ((kids d)[k]?).bind fun c => getP c ps
def putP : D → Path → D → D
  | _, [], x => x
  | d, p :: ps, x => match kidN d p with
    | some k => match (kids d)[k]? with
      | some c => setKid d k (putP c ps x)
      | none => d
    | none => d
/-- is all on the way one's own -/
def PathAt (K : PySem.W.Frag) (mg : Str → Option Value) (H : Hp) : V → Path → V → Prop
  | v, [], x => x = v
  | v, p :: ps, x => ∃ y, StpAt K mg H v p y ∧ PathAt K mg H y ps x
theorem kid_set {d : D} {k : Nat} {p : Stp} {c : D} (e : kidN d p = some k) : kidN (setKid d k c) p = some k := by
  cases d with
  | lst m ds =>
    cases p with
    | ix j =>
      simp only [kidN] at e
      cases m with
      | true => simp only [setKid, kidN, List.length_set]; exact e
      | false => exact e
    | fld => cases e
    | ky => cases e
  | obj m n ns ds =>
    cases m <;> cases p <;> exact e
  | dic m ks ds =>
    cases m <;> cases p <;> exact e
  | _ => exact e
/-- what stands at the path, apart; the rest with a hole -/
theorem Rep.path : ∀ {ps : Path} {d c : D} {v : V} {A : AS}, Rep K mg H d v A → getP d ps = some c →
    ∃ x A1 A2, PathAt K mg H v ps x ∧ Sub A1 A ∧ Sub A2 A ∧ Dj A1 A2 ∧ Rep K mg H c x A1 ∧ Rep K mg H (putP d ps .un) v A2 ∧ ∀ H', Kp A2 H H' → PathAt K mg H' v ps x := by
  intro ps
  induction ps with
  | nil =>
    intro d c v A h e
    cases e
    exact ⟨v, A, E0, rfl, Sub.rfl, Sub.e0, Dj.e0r, h, trivial, fun _ _ => rfl⟩
  | cons p ps ih =>
    intro d c v A h e
    simp only [getP, Option.bind_eq_some_iff] at e
    obtain ⟨k, e1, b, e2, e3⟩ := e
    obtain ⟨y, A1, A2, at1, s1, s2, dj, r1, r2, kp1⟩ := h.kid e1 e2
    obtain ⟨x, B1, B2, at2, t1, t2, dj2, r3, r4, kp2⟩ := ih r1 e3
    refine ⟨x, B1, Un2 A2 B2, ⟨y, at1, at2⟩, t1.trans s1, fun a h => h.elim (s2 a) fun h => s1 a (t2 a h), fun a h g => g.elim (fun g => dj a (t1 a h) g) (dj2 a h), r3, ?_, fun H' k => ⟨y, kp1 H' (k.sub fun _ => .inl), kp2 H' (k.sub fun _ => .inr)⟩⟩
    simp only [putP, e1, e2]
    exact Rep.fill r2 e1 at1 r4 fun a h g => dj a (t2 a h) g
theorem StpAt.inj {d : D} {v x y : V} {A : AS} {p : Stp} {k : Nat} (h : Rep K mg H d v A) (e : kidN d p = some k) (a : StpAt K mg H v p x) (b : StpAt K mg H v p y) : x = y := by
  cases p with
  | ix j =>
    obtain ⟨a1, xs, rfl, q1, e1⟩ := a
    obtain ⟨a2, ys, ea, q2, e2⟩ := b
    cases ea
    have : xs = ys := by
      rcases q1 with q1 | ⟨o, q1⟩
      · exact (q2.inj q1).symm
      · rcases q2 with q2 | ⟨o', q2⟩
        · rw [q1] at q2; cases q2
        · rw [q1] at q2; cases q2; rfl
    subst this
    rw [e1] at e2; exact Option.some.inj e2
  | fld c f =>
    obtain ⟨a1, C, dx, fs, rfl, m1, q1, e1⟩ := a
    obtain ⟨a2, C', dx', fs', ea, m2, q2, e2⟩ := b
    cases ea
    have : fs = fs' := by
      rcases q1 with q1 | ⟨o, q1⟩ <;> rcases q2 with q2 | ⟨o', q2⟩ <;> (rw [q1] at q2; cases q2)
      · rfl
      · rfl
    subst this
    rw [e1] at e2; exact Option.some.inj e2
  | ky f =>
    obtain ⟨a1, kvs, rfl, q1, e1⟩ := a
    obtain ⟨a2, kvs', ea, q2, e2⟩ := b
    cases ea
    have : kvs = kvs' := by
      rcases q1 with q1 | ⟨o, q1⟩ <;> rcases q2 with q2 | ⟨o', q2⟩ <;> (rw [q1] at q2; cases q2)
      · rfl
      · rfl
    subst this
    rw [e1] at e2; exact Option.some.inj e2
theorem kids_set {d : D} {k : Nat} {p : Stp} {b c : D} (e : kidN d p = some k) (e2 : (kids d)[k]? = some b) (f : isFz d = false) : (kids (setKid d k c))[k]? = some c ∧ setKid (setKid d k c) k .un = setKid d k .un ∧ ∀ x, setKid (setKid d k c) k x = setKid d k x := by
  have lt := (List.getElem?_eq_some_iff.mp e2).1
  cases d with
  | lst m ds =>
    cases m with
    | true =>
      refine ⟨?_, ?_, fun x => ?_⟩
      · show (ds.set k c)[k]? = some c
        exact List.getElem?_set_self (show k < ds.length from lt)
      · simp only [setKid, List.set_set]
      · simp only [setKid, List.set_set]
    | false => cases f
  | obj m n ns ds =>
    cases m with
    | true =>
      refine ⟨?_, ?_, fun x => ?_⟩
      · show (ds.set k c)[k]? = some c
        exact List.getElem?_set_self (show k < ds.length from lt)
      · simp only [setKid, List.set_set]
      · simp only [setKid, List.set_set]
    | false => cases f
  | dic m ks ds =>
    cases m with
    | true =>
      refine ⟨?_, ?_, fun x => ?_⟩
      · show (ds.set k c)[k]? = some c
        exact List.getElem?_set_self (show k < ds.length from lt)
      · simp only [setKid, List.set_set]
      · simp only [setKid, List.set_set]
    | false => cases f
  | _ => cases p <;> cases e
theorem Rep.pathFill : ∀ {ps : Path} {d c0 c : D} {v x : V} {A B : AS}, Rep K mg H (putP d ps .un) v A → getP d ps = some c0 → PathAt K mg H v ps x → Rep K mg H c x B → Dj B A → Rep K mg H (putP d ps c) v (Un2 A B) := by
  intro ps
  induction ps with
  | nil =>
    intro d c0 c v x A B h e a r dj
    cases a
    exact Rep.mono r fun _ => .inr
  | cons p ps ih =>
    intro d c0 c v x A B h e a r dj
    simp only [getP, Option.bind_eq_some_iff] at e
    obtain ⟨k, e1, b, e2, e3⟩ := e
    obtain ⟨y, at1, at2⟩ := a
    simp only [putP, e1, e2] at h ⊢
    by_cases f : isFz d = true
    · have : ∀ z, setKid d k z = d := fun z => by
        cases d with
        | lst m ds => cases m with | true => cases f | false => rfl
        | obj m n ns ds => cases m with | true => cases f | false => rfl
        | dic m ks ds => cases m with | true => cases f | false => rfl
        | _ => cases f
      rw [this] at h ⊢
      exact Rep.mono h fun _ => .inl
    · have f' : isFz d = false := by simpa using f
      obtain ⟨k1, k2, k3⟩ := kids_set (c := putP b ps .un) e1 e2 f'
      obtain ⟨y', A1, A2, at1', s1, s2, dj1, r1, r2, _⟩ := Rep.kid h (kid_set e1) k1
      have ey := StpAt.inj h (kid_set e1) at1 at1'
      subst ey
      rw [k2] at r2
      have r3 := ih r1 e3 at2 r fun a g i => dj a g (s1 a i)
      refine Rep.mono (Rep.fill r2 e1 at1 r3 fun a g i => g.elim (fun g => dj1 a g i) fun g => dj a g (s2 a i)) fun a g => ?_
      rcases g with g | g | g
      · exact .inl (s2 a g)
      · exact .inl (s1 a g)
      · exact .inr g
end
end VS
set_option Elab.async false
set_option linter.all false
set_option maxRecDepth 100000
set_option maxHeartbeats 4000000
/-! VS9: reading places; arguments that are places. -/
namespace VS
open PySem PySem.Spec PyProof.Rows L2
section
variable {K : PySem.W.Frag} {mg : Str → Option Value} {H H' : Hp} {σ : L2.St}
theorem PathAt.snoc {p : Stp} : ∀ {ps : Path} {v y x : V}, PathAt K mg H v ps y → StpAt K mg H y p x → PathAt K mg H v (ps ++ [p]) x
  | [], _, _, _, a, b => by cases a; exact ⟨_, b, rfl⟩
  | q :: ps, _, _, _, ⟨z, h1, h2⟩, b => ⟨z, h1, PathAt.snoc h2 b⟩
theorem PathAt.last {p : Stp} : ∀ {ps : Path} {v x : V}, PathAt K mg H v (ps ++ [p]) x → ∃ y, PathAt K mg H v ps y ∧ StpAt K mg H y p x
  | [], v, x, ⟨z, h1, h2⟩ => by cases h2; exact ⟨v, rfl, h1⟩
  | q :: ps, v, x, ⟨z, h1, h2⟩ => by
    obtain ⟨y, h3, h4⟩ := PathAt.last h2
    exact ⟨y, ⟨z, h1, h3⟩, h4⟩
/-- slot i holds v0, and at the path from it stands v -/
def PlcAt (K : PySem.W.Frag) (mg : Str → Option Value) (H : Hp) (σ : L2.St) (i : Nat) (ps : Path) (v : V) : Prop := ∃ v0, σ[i]? = some (some v0) ∧ PathAt K mg H v0 ps v
end
/-- e is the place i, ps -/
abbrev VP (X : Cx) (e : Expr) (i : Nat) (ps : Path) : Prop := PE X e (fun σ H Q => ∃ v, PlcAt X.K X.mg H σ i ps v ∧ Q v H)
section
variable {X : Cx} {eC : Addr} {W : WX} {S S1 S2 : List Nat} {pos : Pos}
theorem vp_var {e : Expr} {i : Nat} (h : PE X e (tVar i)) : VP X e i [] := PE.imp h fun σ H Q ⟨v, ⟨v0, e, a⟩, q⟩ => by
  cases a; exact ⟨_, e, q⟩
theorem vp_ix {e : Expr} {i : Nat} {ps : Path} {k : Nat} {j : Nat} {p2 : Pos} (h : VP X e i ps) (hs : PlainIx (.Constant (.int (k : Nat)) j p2) := by exact fun _ _ => rfl) : VP X (.Subscript e (.Constant (.int (k : Nat)) j p2) pos) i (ps ++ [.ix k]) :=
  PE.imp (pe_ix ix_list h pe_int hs) fun σ H Q ⟨x, ⟨v0, e0, a⟩, q⟩ => by
    obtain ⟨y, a1, b, xs, rfl, l, e2⟩ := a.last
    refine ⟨_, ⟨v0, e0, a1⟩, b, xs, ((k : Nat) : Int), x, rfl, rfl, l.elim .of fun h => h.sq, ?_, q⟩
    exact atI_nat e2
/-- reading a field of an object, its own or frozen -/
theorem ins_getF {P : Program} {w : World} {H : Hp} {h : Heap} {a C dx : Addr} {fs : List (Str × V)} (hok : HOk P w H h) (e : H a = some (.ins C dx fs) ∨ ∃ o, H a = some (.frz o (.ins C dx fs))) : ∃ mA, ObjM h a dx C mA ∧ (∀ f, RelO (fs.lookup f) (mA f)) := by
  rcases e with e | ⟨o, e⟩
  · obtain ⟨mA, O, r, _⟩ := ins_get hok e
    exact ⟨mA, O, r⟩
  · obtain ⟨_, d, z, ne, ob, mA, n, r, q⟩ := (show ObjOk P w H h a (.frz o (.ins C dx fs)) from hok a _ e)
    exact ⟨mA, ⟨ob, n, ne⟩, r⟩
theorem vp_fld {e : Expr} {i : Nat} {ps : Path} {c f : Str} (h : VP X e i ps) (hc : ∀ C, X.mg c = some (.ref C) → Cls X.K C ∧ NoAttr X.K C f) (hb : attributeBase e f X.env (eval e X.env) = eval e X.env := by rfl) : VP X (.Attribute e f pos) i (ps ++ [.fld c f]) := by
  refine ⟨fun pins s σ H Q I ⟨x, ⟨v0, e0, a⟩, q⟩ => ?_⟩
  obtain ⟨y, a1, b, C, dx, fs, rfl, m, z, l⟩ := a.last
  obtain ⟨cl, n⟩ := hc C m
  refine attr_of hb (thn (h.run pins s σ H (fun v H1 => v = .ref b ∧ H1 = H) I ⟨_, ⟨v0, e0, a1⟩, rfl, rfl⟩) fun u s1 ⟨y, H1, I1, rx, ey, eH⟩ => ?_)
  subst ey; subst eH
  obtain rfl : u = Value.ref b := rx
  obtain ⟨mA, O, r⟩ := ins_getF I1.hok z
  obtain ⟨u, hu, ru⟩ := RelO.some_of (v := x) (o := mA f) (by rw [← l]; exact r f)
  exact get_map I1.kIn O (cl.get f) cl.hd n hu (handed_of ru) ⟨x, H1, I1.tok _, ru, q⟩
/-- a place is read; what it holds can't be changed -/
def rdP (i : Nat) (ps : Path) : EM := fun ρ => match (ρ[i]?).bind (getP · ps) with
  | some d => if has? d && pure? d then .ok d ρ else .bad
  | none => .bad
theorem has_root {K : PySem.W.Frag} {mg : Str → Option Value} {H : Hp} {d c : D} {ps : Path} {o : Option V} {A : AS} (e : getP d ps = some c) (hc : has? c = true) (r : RepO K mg H d o A) : ∃ v, o = some v ∧ Rep K mg H d v A := by
  cases o with
  | some v => exact ⟨v, rfl, r⟩
  | none =>
    have e1 : d = .un := r
    subst e1
    cases ps with
    | nil => cases e; cases hc
    | cons p ps => cases p <;> cases e
theorem ve_rdP {e : Expr} {i : Nat} {ps : Path} (h : VP X e i ps) : VE X eC W [] e (rdP i ps) := PE.imp h fun σ H Q ⟨ρ, F, er, q⟩ => by
  unfold rdP at q
  cases e1 : ρ[i]? with
  | none => rw [e1] at q; exact q.elim
  | some d0 =>
    rw [e1] at q
    simp only [Option.bind_some] at q
    cases e2 : getP d0 ps with
    | none => rw [e2] at q; exact q.elim
    | some d =>
      rw [e2] at q
      dsimp only at q
      by_cases c : (has? d && pure? d) = true
      · rw [if_pos c] at q
        simp only [Bool.and_eq_true] at c
        obtain ⟨o, e3, r⟩ := er.get i d0 e1
        obtain ⟨v0, rfl, r⟩ := has_root e2 c.1 r
        obtain ⟨x, A1, A2, a, s1, s2, dj, r1, r2, _⟩ := r.path e2
        exact ⟨x, ⟨v0, e3, a⟩, q x H F E0 er (Rep.fixed d c.2 r1) .refl⟩
      · rw [if_neg c] at q; exact q.elim
end
/-! ### arguments: values, places -/
inductive AK where
  | tmp
  | plc (i : Nat) (ps : Path)
def roots : List AK → List Nat
  | [] => []
  | .tmp :: ks => roots ks
  | .plc i _ :: ks => i :: roots ks
def RepsK (K : PySem.W.Frag) (mg : Str → Option Value) (H : Hp) (σ : L2.St) : List AK → List D → List V → AS → Prop
  | [], ds, vs, _ => ds = [] ∧ vs = []
  | .tmp :: ks, ds, vs, A => ∃ d es x ys A1 A2, ds = d :: es ∧ vs = x :: ys ∧ Sub A1 A ∧ Sub A2 A ∧ Dj A1 A2 ∧ Rep K mg H d x A1 ∧ RepsK K mg H σ ks es ys A2
  | .plc i ps :: ks, ds, vs, A => ∃ x ys, vs = x :: ys ∧ PlcAt K mg H σ i ps x ∧ RepsK K mg H σ ks ds ys A
def TVr (K : PySem.W.Frag) (mg : Str → Option Value) (eC : Addr) (W : WX) (S : List Nat) (ks : List AK) (m : M (List D)) : TA := fun σ H Q => ∃ ρ F, ER K mg H ρ σ F ∧
  match m ρ with
  | .ok ds ρ' => ∀ vs H' F' T, ER K mg H' ρ' σ F' → RepsK K mg H' σ ks ds vs T → Got S H F H' F' T → Q vs H'
  | .ex z ρ' => ∀ dd H' F', ER K mg H' ρ' σ F' → H' dd = some (.xd [("reason", .str z)]) → Aft S H F H' F' → W (.ref eC) (some dd) σ H'
  | .bad => False
abbrev VR (X : Cx) (eC : Addr) (W : WX) (S : List Nat) (ks : List AK) (es : List Expr) (m : M (List D)) : Prop := PA X es (TVr X.K X.mg eC W S ks m)
section
variable {X : Cx} {eC : Addr} {W : WX} {S S1 S2 : List Nat} {pos : Pos}
theorem vr_nil : VR X eC W [] [] [] nilM := PA.imp pa_nil fun σ H Q ⟨ρ, F, er, q⟩ => q [] H F E0 er ⟨rfl, rfl⟩ .refl
theorem vr_cons {e : Expr} {es : List Expr} {ks : List AK} {m : EM} {ms : M (List D)} (h : VE X eC W S1 e m) (hs : VR X eC W S2 ks es ms)
    (hst : starEach (e :: es) X.env = (false, eval e X.env) :: starEach es X.env := by rfl) : VR X eC W (S1 ++ S2) (.tmp :: ks) (e :: es) (consM m ms) := PA.imp (pa_cons h hs hst) fun σ H Q ⟨ρ, F, er, q⟩ => by
  refine ⟨ρ, F, er, ?_⟩
  unfold consM at q
  cases e1 : m ρ with
  | bad => rw [e1] at q; exact q
  | ex z ρ1 => rw [e1] at q; exact fun dd H' F' er' x g => q dd H' F' er' x (g.more fun j hj => List.mem_append_left _ hj)
  | ok d1 ρ1 =>
    rw [e1] at q
    intro v1 H1 F1 T1 er1 r1 g1
    refine ⟨ρ1, F1, er1, ?_⟩
    simp only [Res.bind_ok] at q
    cases e2 : ms ρ1 with
    | bad => rw [e2] at q; exact q
    | ex z ρ2 => rw [e2] at q; exact fun dd H' F' er' x g => q dd H' F' er' x (g1.toAft.trans g)
    | ok ds ρ2 =>
      rw [e2] at q
      intro vs H2 F2 T2 er2 r2 g2
      simp only [Res.bind_ok] at q
      have kp := g2.toAft.kp er1 g1.dj
      have g12 := Got.trans g1.toAft g2
      refine q (v1 :: vs) H2 F2 (Un2 T1 T2) er2 ⟨d1, ds, v1, vs, T1, T2, rfl, rfl, fun _ => .inl, fun _ => .inr, g2.djT g1.live g1.dj, Rep.keep d1 r1 kp, r2⟩ ⟨g12.toAft, fun a x => ?_, fun j a x y => ?_, fun a x => ?_⟩
      · rcases x with x | x
        · exact (g1.new a x).imp (fun ⟨k, hk, y⟩ => ⟨k, List.mem_append_left _ hk, y⟩) id
        · exact g12.new a x
      · exact x.elim (fun x => g2.toAft.djP g1.live g1.dj j a x y) fun x => g2.dj j a x y
      · exact x.elim (g1.live.keep kp a) (g2.live a)
def isPlc (i : Nat) (ps : Path) (ρ : List D) : Bool := match (ρ[i]?).bind (getP · ps) with
  | some c => has? c
  | none => false
def plcM (i : Nat) (ps : Path) (ms : M (List D)) : M (List D) := fun ρ => if isPlc i ps ρ = true then ms ρ else .bad
theorem isPlc_some {i : Nat} {ps : Path} {ρ : List D} (h : isPlc i ps ρ = true) : ∃ d0 c, ρ[i]? = some d0 ∧ getP d0 ps = some c ∧ has? c = true := by
  unfold isPlc at h
  cases e1 : ρ[i]? with
  | none => rw [e1] at h; cases h
  | some d0 =>
    rw [e1] at h
    simp only [Option.bind_some] at h
    cases e2 : getP d0 ps with
    | none => rw [e2] at h; cases h
    | some c => rw [e2] at h; exact ⟨d0, c, rfl, e2, h⟩
/-- a slot that is not touched is kept -/
theorem Aft.kpSlot {K : PySem.W.Frag} {mg : Str → Option Value} {H H' : Hp} {ρ : List D} {σ : L2.St} {F F' : Nat → AS} (g : Aft S H F H' F') (er : ER K mg H ρ σ F) {i : Nat} (n : i ∉ S) : Kp (F i) H H' := fun a o e h =>
  g.keep a o e fun j hj x => h.elim (fun y => er.dj i j (by intro z; subst z; exact n hj) a y x) fun f => (er.live j).nfix e f x
theorem vr_plc {e : Expr} {es : List Expr} {i : Nat} {ps : Path} {ks : List AK} {ms : M (List D)} (h : VP X e i ps) (hs : VR X eC W S ks es ms) (n : i ∉ S := by decide)
    (hst : starEach (e :: es) X.env = (false, eval e X.env) :: starEach es X.env := by rfl) : VR X eC W S (.plc i ps :: ks) (e :: es) (plcM i ps ms) := PA.imp (pa_cons h hs hst) fun σ H Q ⟨ρ, F, er, q⟩ => by
  unfold plcM at q
  by_cases c : isPlc i ps ρ = true
  · rw [if_pos c] at q
    obtain ⟨d0, c0, e1, e2, hc⟩ := isPlc_some c
    obtain ⟨o, e3, r⟩ := er.get i d0 e1
    obtain ⟨v0, rfl, r⟩ := has_root e2 hc r
    obtain ⟨x, A1, A2, a, s1, s2, dj, r1, r2, kp⟩ := r.path e2
    refine ⟨x, ⟨v0, e3, a⟩, ρ, F, er, ?_⟩
    cases e4 : ms ρ with
    | bad => rw [e4] at q; exact q
    | ex z ρ1 => rw [e4] at q; exact q
    | ok ds ρ1 =>
      rw [e4] at q
      exact fun vs H1 F1 T er1 r3 g => q (x :: vs) H1 F1 T er1 ⟨x, vs, rfl, ⟨v0, e3, kp H1 ((g.toAft.kpSlot er n).sub s2)⟩, r3⟩ g
  · rw [if_neg c] at q; exact q.elim
end
/-- the arguments' data: what the places hold is taken out -/
def takeK : List AK → List D → List D → Option (List D × List D)
  | [], _, ρ => some ([], ρ)
  | .tmp :: ks, d :: ds, ρ => (takeK ks ds ρ).map fun p => (d :: p.1, p.2)
  | .tmp :: _, [], _ => none
  | .plc i ps :: ks, ds, ρ => (ρ[i]?).bind fun d0 => (getP d0 ps).bind fun c => if has? c then (takeK ks ds (ρ.set i (putP d0 ps .un))).map fun p => (c :: p.1, p.2) else none
/-- .. and put in again -/
def putK : List AK → List D → List D → Option (List D)
  | [], _, ρ => some ρ
  | .tmp :: ks, _ :: es, ρ => putK ks es ρ
  | .tmp :: _, [], _ => none
  | .plc _ _ :: _, [], _ => none
  | .plc i ps :: ks, e :: es, ρ => (putK ks es ρ).bind fun ρ' => (ρ'[i]?).bind fun d0 => if (getP d0 ps).isSome then some (ρ'.set i (putP d0 ps e)) else none
section
variable {K : PySem.W.Frag} {mg : Str → Option Value} {H H' : Hp} {σ : L2.St}
def PathsK (K : PySem.W.Frag) (mg : Str → Option Value) (H : Hp) (σ : L2.St) : List AK → List V → Prop
  | [], _ => True
  | .tmp :: ks, vs => PathsK K mg H σ ks vs.tail
  | .plc i ps :: ks, vs => (∃ x ys, vs = x :: ys ∧ PlcAt K mg H σ i ps x) ∧ PathsK K mg H σ ks vs.tail
theorem roots_get : ∀ {ks : List AK} {ds ρ : List D} {p : List D × List D} {j : Nat}, takeK ks ds ρ = some p → j ∉ roots ks → p.2[j]? = ρ[j]?
  | [], _, _, _, _, e, _ => by cases e; rfl
  | .tmp :: ks, [], _, _, _, e, _ => by cases e
  | .tmp :: ks, d :: ds, _, _, _, e, n => by
    simp only [takeK, Option.map_eq_some_iff] at e
    obtain ⟨q, e, rfl⟩ := e
    show q.2[_]? = _
    exact roots_get (ks := ks) (p := q) e n
  | .plc i ps :: ks, ds, ρ, _, j, e, n => by
    simp only [takeK, Option.bind_eq_some_iff] at e
    obtain ⟨d0, e1, c, e2, e⟩ := e
    split at e
    · simp only [Option.map_eq_some_iff] at e
      obtain ⟨q, e, rfl⟩ := e
      have h := roots_get (ks := ks) (p := q) e fun x => n (List.mem_cons_of_mem _ x)
      show q.2[j]? = _
      rw [h, List.getElem?_set_ne]
      intro z; subst z; exact n List.mem_cons_self
    · cases e
theorem PathAt.inj : ∀ {ps : Path} {d c : D} {v x y : V} {A : AS}, Rep K mg H d v A → getP d ps = some c → PathAt K mg H v ps x → PathAt K mg H v ps y → x = y
  | [], _, _, _, _, _, _, _, _, a, b => by cases a; cases b; rfl
  | p :: ps, _, _, _, _, _, _, h, e, ⟨z, a1, a2⟩, ⟨w, b1, b2⟩ => by
    simp only [getP, Option.bind_eq_some_iff] at e
    obtain ⟨k, e1, b, e2, e3⟩ := e
    have ez := StpAt.inj h e1 a1 b1
    subst ez
    obtain ⟨u, A1, A2, c1, s1, s2, dj, r1, r2, _⟩ := h.kid e1 e2
    have eu := StpAt.inj h e1 a1 c1
    subst eu
    exact PathAt.inj r1 e3 a2 b2
/-- taking -/
theorem take_ok : ∀ {ks : List AK} {ds ρ ds' ρ' : List D} {vs : List V} {F : Nat → AS} {T : AS}, (roots ks).Nodup → takeK ks ds ρ = some (ds', ρ') → RepsK K mg H σ ks ds vs T → ER K mg H ρ σ F → Live H T → (∀ j, Dj T (F j)) →
    ∃ F' T', ER K mg H ρ' σ F' ∧ Reps K mg H ds' vs T' ∧ Live H T' ∧ (∀ j, Dj T' (F' j)) ∧ (∀ a, T' a → T a ∨ ∃ i, i ∈ roots ks ∧ F i a) ∧ (∀ j, Sub (F' j) (F j)) ∧ (∀ j, j ∉ roots ks → F' j = F j) ∧
      ∀ H2, (∀ j, Kp (F' j) H H2) → PathsK K mg H2 σ ks vs := by
  intro ks
  induction ks with
  | nil =>
    intro ds ρ ds' ρ' vs F T nd e r er l dj
    cases e
    obtain ⟨rfl, rfl⟩ := r
    exact ⟨F, E0, er, rfl, Live.e0, fun _ => Dj.e0, fun _ h => h.elim, fun _ => Sub.rfl, fun _ _ => rfl, fun _ _ => trivial⟩
  | cons k ks ih =>
    intro ds ρ ds' ρ' vs F T nd e r er l dj
    cases k with
    | tmp =>
      obtain ⟨d, es, x, ys, A1, A2, rfl, rfl, s1, s2, d12, r1, r2⟩ := r
      simp only [takeK, Option.map_eq_some_iff] at e
      obtain ⟨⟨q1, q2⟩, e, e'⟩ := e
      cases e'
      obtain ⟨F', T', er', r', l', dj', t', f', g', p'⟩ := ih nd e r2 er (l.sub s2) fun j => (dj j).sub s2 Sub.rfl
      have dA : Dj A1 T' := fun a h g => by
        rcases t' a g with g | ⟨i, _, g⟩
        · exact d12 a h g
        · exact dj i a (s1 a h) g
      refine ⟨F', Un2 A1 T', er', ⟨x, ys, A1, T', rfl, fun _ => .inl, fun _ => .inr, dA, r1, r'⟩, (l.sub s1).un l', fun j a h g => h.elim (fun h => dj j a (s1 a h) (f' j a g)) fun h => dj' j a h g, fun a h => ?_, f', g', fun H2 k => p' H2 k⟩
      rcases h with h | h
      · exact .inl (s1 a h)
      · exact (t' a h).imp (s2 a) id
    | plc i ps =>
      obtain ⟨x, ys, rfl, at1, r2⟩ := r
      simp only [takeK, Option.bind_eq_some_iff] at e
      obtain ⟨d0, e1, c, e2, e⟩ := e
      split at e
      · rename_i hc
        simp only [Option.map_eq_some_iff] at e
        obtain ⟨⟨q1, q2⟩, e, e'⟩ := e
        cases e'
        obtain ⟨o, e3, r⟩ := er.get i d0 e1
        obtain ⟨v0, rfl, r⟩ := has_root e2 hc r
        obtain ⟨x', A1, A2, a, s1, s2, d12, r1, r3, kp⟩ := r.path e2
        have ex : x' = x := by
          obtain ⟨v1, e4, a'⟩ := at1
          rw [e3] at e4; cases e4
          exact PathAt.inj r e2 a a'
        subst ex
        have nd' := (List.nodup_cons.mp nd)
        have er1 : ER K mg H (ρ.set i (putP d0 ps .un)) σ (fun j => if j = i then A2 else F j) := er.again e3 r3 ((er.live i).sub s2) fun j n => (er.dj i j (Ne.symm n)).sub s2 Sub.rfl
        obtain ⟨F', T', er', r', l', dj', t', f', g', p'⟩ := ih nd'.2 e r2 er1 l fun j => by
          by_cases z : j = i
          · rw [if_pos z]; exact (dj i).sub Sub.rfl s2
          · rw [if_neg z]; exact dj j
        have sF : ∀ j, Sub (F' j) (F j) := fun j a h => by
          have := f' j a h
          by_cases z : j = i
          · rw [if_pos z] at this; subst z; exact s2 a this
          · rw [if_neg z] at this; exact this
        have dA : Dj A1 T' := fun a h g => by
          rcases t' a g with g | ⟨k, hk, g⟩
          · exact dj i a g (s1 a h)
          · have n : k ≠ i := fun z => nd'.1 (z ▸ hk)
            rw [if_neg n] at g
            exact er.dj i k (Ne.symm n) a (s1 a h) g
        refine ⟨F', Un2 A1 T', er', ⟨x', ys, A1, T', rfl, fun _ => .inl, fun _ => .inr, dA, r1, r'⟩, ((er.live i).sub s1).un l', fun j a h g => ?_, fun a h => ?_, sF, fun j n => ?_, fun H2 k => ⟨⟨x', ys, rfl, v0, e3, kp H2 ?_⟩, p' H2 k⟩⟩
        · rcases h with h | h
          · have g2 := f' j a g
            by_cases z : j = i
            · rw [if_pos z] at g2; exact d12 a h g2
            · rw [if_neg z] at g2; exact er.dj i j (Ne.symm z) a (s1 a h) g2
          · exact dj' j a h g
        · rcases h with h | h
          · exact .inr ⟨i, List.mem_cons_self, s1 a h⟩
          · rcases t' a h with g | ⟨k, hk, g⟩
            · exact .inl g
            · refine .inr ⟨k, List.mem_cons_of_mem _ hk, ?_⟩
              by_cases z : k = i
              · rw [if_pos z] at g; subst z; exact s2 a g
              · rw [if_neg z] at g; exact g
        · rw [g' j fun x => n (List.mem_cons_of_mem _ x), if_neg fun (z : j = i) => n (by rw [z]; exact List.mem_cons_self)]
        · have := k i
          rw [g' i nd'.1, if_pos rfl] at this
          exact this
      · cases e
/-- putting in again -/
theorem put_ok : ∀ {ks : List AK} {es ρ ρ' : List D} {vs : List V} {F : Nat → AS} {T : AS}, putK ks es ρ = some ρ' → Reps K mg H es vs T → PathsK K mg H σ ks vs → ER K mg H ρ σ F → Live H T → (∀ j, Dj T (F j)) →
    ∃ F', ER K mg H ρ' σ F' ∧ (∀ j a, F' j a → F j a ∨ T a) ∧ (∀ j, j ∉ roots ks → F' j = F j) := by
  intro ks
  induction ks with
  | nil =>
    intro es ρ ρ' vs F T e r p er l dj
    cases e
    exact ⟨F, er, fun _ _ => .inl, fun _ _ => rfl⟩
  | cons k ks ih =>
    intro es ρ ρ' vs F T e r p er l dj
    cases k with
    | tmp =>
      cases es with
      | nil => cases e
      | cons d es =>
        obtain ⟨x, ys, A1, A2, rfl, s1, s2, d12, r1, r2⟩ := r
        obtain ⟨F', er', f', g'⟩ := ih e r2 p er (l.sub s2) fun j => (dj j).sub s2 Sub.rfl
        exact ⟨F', er', fun j a h => (f' j a h).imp id (s2 a), g'⟩
    | plc i ps =>
      cases es with
      | nil => cases e
      | cons d es =>
        obtain ⟨x, ys, A1, A2, rfl, s1, s2, d12, r1, r2⟩ := r
        obtain ⟨⟨x', ys', ex, v0, e3, at1⟩, p⟩ := p
        cases ex
        simp only [putK, Option.bind_eq_some_iff] at e
        obtain ⟨ρ1, e1, d0, e2, e⟩ := e
        split at e
        · rename_i hg
          cases e
          obtain ⟨F', er', f', g'⟩ := ih e1 r2 p er (l.sub s2) fun j => (dj j).sub s2 Sub.rfl
          obtain ⟨c0, e4⟩ := Option.isSome_iff_exists.mp hg
          obtain ⟨o, e5, r5⟩ := er'.get i d0 e2
          rw [e3] at e5
          cases e5
          have r5' : Rep K mg H d0 v0 (F' i) := r5
          obtain ⟨y, B1, B2, at2, t1, t2, d12', r6, r7, _⟩ := r5'.path e4
          have dA : Dj A1 (F' i) := fun a h g => by
            rcases f' i a g with g | g
            · exact dj i a (s1 a h) g
            · exact d12 a h g
          have r8 := Rep.pathFill r7 e4 at1 r1 (dA.sub Sub.rfl t2)
          have lu : Live H (Un2 B2 A1) := ((er'.live i).sub t2).un (l.sub s1)
          refine ⟨_, er'.again e3 r8 lu fun j n a h g => ?_, fun j a h => ?_, fun j n => ?_⟩
          · rcases h with h | h
            · exact er'.dj i j (Ne.symm n) a (t2 a h) g
            · rcases f' j a g with g | g
              · exact dj j a (s1 a h) g
              · exact d12 a h g
          · by_cases z : j = i
            · rw [if_pos z] at h
              subst z
              rcases h with h | h
              · exact (f' j a (t2 a h)).imp id (s2 a)
              · exact .inr (s1 a h)
            · rw [if_neg z] at h
              exact (f' j a h).imp id (s2 a)
          · rw [if_neg fun (z : j = i) => n (by rw [z]; exact List.mem_cons_self)]
            exact g' j fun x => n (List.mem_cons_of_mem _ x)
        · cases e
end
end VS
set_option Elab.async false
set_option linter.all false
set_option maxRecDepth 100000
set_option maxHeartbeats 4000000
/-! VS10: defs: what they promise, how they are called, how they are shown. -/
namespace VS
open PySem PySem.Spec PyProof.Rows L2
/-- a def by value: from the arguments' data the answer and the parameters' data behind it -/
abbrev FM := List D → Res D
def spV (K : PySem.W.Frag) (mg : Str → Option Value) (eC : Addr) (n : Nat) (fm : FM) : Sp := fun vs H Q E => ∃ ds T, vs.length = n ∧ Reps K mg H ds vs T ∧ Live H T ∧
  match fm ds with
  | .ok d es => ∀ v H' T1 T2, Rep K mg H' d v T1 → Reps K mg H' es vs T2 → Dj T1 T2 → AftT T H H' (Un2 T1 T2) → Q v H'
  | .ex z es => ∀ dd H' T2, Reps K mg H' es vs T2 → AftT T H H' T2 → H' dd = some (.xd [("reason", .str z)]) → E (.ref eC) (some dd) H'
  | .bad => False
/-- behind the arguments: the places' data taken, the def, the places filled -/
def postM (n : Nat) (ks : List AK) (fm : FM) (ds ρ1 : List D) : Res D := match takeK ks ds ρ1 with
  | some (ds', ρ2) => if ds'.length = n then (match fm ds' with
    | .ok d es => (match putK ks es ρ2 with
      | some ρ3 => .ok d ρ3
      | none => .bad)
    | .ex z es => (match putK ks es ρ2 with
      | some ρ3 => .ex z ρ3
      | none => .bad)
    | .bad => .bad) else .bad
  | none => .bad
def callM (n : Nat) (ks : List AK) (fm : FM) (ms : M (List D)) : EM := fun ρ => (ms ρ).bind (postM n ks fm)
section
variable {K : PySem.W.Frag} {mg : Str → Option Value} {H H' H'' : Hp} {σ : L2.St} {eC : Addr} {W : WX} {S : List Nat}
/-- behind a call: the slots S and the places' roots are touched -/
theorem call_aft {ρ2 : List D} {F F1 F2 F3 : Nat → AS} {T1 T2 Ta Tb : AS} {ks : List AK} (g1 : Got S H F H' F1 T1) (er2 : ER K mg H' ρ2 σ F2) (l2 : Live H' T2) (dj2 : ∀ j, Dj T2 (F2 j))
    (t : ∀ a, T2 a → T1 a ∨ ∃ i, i ∈ roots ks ∧ F1 i a) (f : ∀ j, Sub (F2 j) (F1 j)) (af : AftT T2 H' H'' (Un2 Ta Tb)) (f3 : ∀ j a, F3 j a → F2 j a ∨ Tb a) (g3 : ∀ j, j ∉ roots ks → F3 j = F2 j) :
    Aft (S ++ roots ks) H F H'' F3 ∧ ∀ a, (Ta a ∨ Tb a) → (∃ k, k ∈ S ++ roots ks ∧ F k a) ∨ H a = none := by
  have back2 : ∀ a, T2 a → (∃ k, k ∈ S ++ roots ks ∧ F k a) ∨ H a = none := fun a h => by
    rcases t a h with h | ⟨i, hi, h⟩
    · exact (g1.new a h).imp (fun ⟨k, hk, x⟩ => ⟨k, List.mem_append_left _ hk, x⟩) id
    · rcases g1.toAft.back h with ⟨k, hk, x⟩ | x | x
      · exact .inl ⟨k, List.mem_append_left _ hk, x⟩
      · exact .inl ⟨i, List.mem_append_right _ hi, x⟩
      · exact .inr x
  have backT : ∀ a, (Ta a ∨ Tb a) → (∃ k, k ∈ S ++ roots ks ∧ F k a) ∨ H a = none := fun a h => by
    rcases af.sub a h with h | h
    · exact back2 a h
    · exact .inr (g1.toAft.dom a h)
  refine ⟨⟨fun a o e n => ?_, fun j hj a h => ?_, fun j hj a h => ?_, fun a e => g1.toAft.dom a (af.dom a e)⟩, backT⟩
  · refine af.keep a o (g1.toAft.keep a o e fun j hj => n j (List.mem_append_left _ hj)) fun h => ?_
    rcases back2 a h with ⟨k, hk, x⟩ | x
    · exact n k hk x
    · rw [e] at x; cases x
  · rw [g3 j fun x => hj (List.mem_append_right _ x)] at h
    exact g1.toAft.same j (fun x => hj (List.mem_append_left _ x)) a (f j a h)
  · rcases f3 j a h with h | h
    · rcases g1.toAft.back (f j a h) with ⟨k, hk, x⟩ | x | x
      · exact .inl ⟨k, List.mem_append_left _ hk, x⟩
      · exact .inl ⟨j, hj, x⟩
      · exact .inr x
    · exact backT a (.inr h)
theorem call_core {n : Nat} {ks : List AK} {fm : FM} {ds ρ1 : List D} {vs : List V} {F F1 : Nat → AS} {T1 : AS} {Q : VK} (nd : (roots ks).Nodup) (er1 : ER K mg H' ρ1 σ F1) (rk : RepsK K mg H' σ ks ds vs T1) (g1 : Got S H F H' F1 T1)
    (q : CV K mg eC W (S ++ roots ks) σ H F (postM n ks fm ds ρ1) Q) : spV K mg eC n fm vs H' Q (WE W σ) := by
  unfold postM at q
  cases e2 : takeK ks ds ρ1 with
  | none => rw [e2] at q; exact q.elim
  | some p =>
    obtain ⟨ds', ρ2⟩ := p
    rw [e2] at q
    dsimp only at q
    by_cases hn : ds'.length = n
    · rw [if_pos hn] at q
      obtain ⟨F2, T2, er2, r2, l2, dj2, t, f, _, p⟩ := take_ok nd e2 rk er1 g1.live g1.dj
      refine ⟨ds', T2, by rw [r2.length]; exact hn, r2, l2, ?_⟩
      have paths : ∀ {H2 : Hp} {T : AS}, AftT T2 H' H2 T → PathsK K mg H2 σ ks vs := fun {H2 T} af => p H2 fun j a o e h =>
        af.keep a o e fun x => h.elim (fun y => dj2 j a x y) fun fx => l2.nfix e fx x
      cases e3 : fm ds' with
      | bad => rw [e3] at q; exact q
      | ok d es =>
        rw [e3] at q
        dsimp only at q
        intro v H2 Ta Tb rv re dab af
        cases e4 : putK ks es ρ2 with
        | none => rw [e4] at q; exact q.elim
        | some ρ3 =>
          rw [e4] at q
          have er2' := er2.step l2 dj2 af
          have dT : ∀ j, Dj (Un2 Ta Tb) (F2 j) := fun j a x y => by
            rcases af.sub a x with z | z
            · exact dj2 j a z y
            · obtain ⟨u, e, _⟩ := er2.live j a y
              rw [e] at z; cases z
          obtain ⟨F3, er3, f3, g3⟩ := put_ok e4 re (paths af) er2' (af.live.sub fun _ => .inr) fun j => (dT j).sub (fun _ => .inr) Sub.rfl
          obtain ⟨g, new⟩ := call_aft (ρ2 := ρ2) g1 er2 l2 dj2 t f af f3 g3
          exact q v H2 F3 Ta er3 rv ⟨g, fun a x => new a (.inl x), fun j a x y => (f3 j a y).elim (fun y => dT j a (.inl x) y) fun y => dab a x y, af.live.sub fun _ => .inl⟩
      | ex z es =>
        rw [e3] at q
        dsimp only at q
        intro dd H2 Tb re af hx
        cases e4 : putK ks es ρ2 with
        | none => rw [e4] at q; exact q.elim
        | some ρ3 =>
          rw [e4] at q
          have er2' := er2.step l2 dj2 af
          have af' : AftT T2 H' H2 (Un2 E0 Tb) := ⟨af.keep, fun a h => af.sub a (h.resolve_left id), fun a h => af.live a (h.resolve_left id), af.dom⟩
          have dT : ∀ j, Dj Tb (F2 j) := fun j a x y => by
            rcases af.sub a x with z | z
            · exact dj2 j a z y
            · obtain ⟨u, e, _⟩ := er2.live j a y
              rw [e] at z; cases z
          obtain ⟨F3, er3, f3, g3⟩ := put_ok e4 re (paths af) er2' af.live dT
          obtain ⟨g, new⟩ := call_aft (ρ2 := ρ2) g1 er2 l2 dj2 t f af' f3 g3
          exact q dd H2 F3 er3 hx g
    · rw [if_neg hn] at q; exact q.elim
/-- a def called upon arguments and places -/
theorem tv_call {n : Nat} {ks : List AK} {fm : FM} {ms : M (List D)} {Q : VK} (nd : (roots ks).Nodup) (q : TV K mg eC W (S ++ roots ks) (callM n ks fm ms) σ H Q) : TVr K mg eC W S ks ms σ H (fun vs H1 => spV K mg eC n fm vs H1 Q (WE W σ)) := by
  obtain ⟨ρ, F, er, q⟩ := q
  refine ⟨ρ, F, er, ?_⟩
  unfold callM at q
  cases e1 : ms ρ with
  | bad => rw [e1] at q; exact q
  | ex z ρ1 => rw [e1] at q; exact fun dd H' F' er' x g => q dd H' F' er' x (g.more fun j hj => List.mem_append_left _ hj)
  | ok ds ρ1 =>
    rw [e1] at q
    exact fun vs H1 F1 T1 er1 rk g1 => call_core nd er1 rk g1 q
end

/-! ### calls that may raise, wished for at the caller's slots -/
section
variable {X : Cx} {CX : CXT} {k : Nat} {f C : Addr} {fd : FuncData} {ps : List Str} {sp : Sp} {E : L2.St → XK} {x m : Str} {p pos apos : Pos} {e o : Expr} {es : List Expr} {ta : TE} {t : TA}
theorem pe_callS0 (F : FnOk X.prog X.w X.K X.mg X.base CX k f fd ps sp) (hr : Room k X.A) (hg : Gl X x) (hm : X.mg x = some (.ref f)) (hk : PySem.W.keepIn X.K (.ref f) = true) (hb : Binds X.K fd ps []) (hx : ∀ σ, PassesAt CX X σ (E σ))
    (hdb : (x == ("__debug__" : Str)) = false := by decide) : PE X (.Call (.Name x p) [] [] pos) (tCallS sp E tNil) := by
  refine ⟨fun pins s σ H Q I h => ?_⟩
  refine wpAny_Call_Name_kw (ld_glob I hg hm ?_ hdb)
  exact PySem.W.callWith_K0 I.kIn hk (run_fnS (us := []) F hr hb (hx σ) I .nil h)
def tMethS (C : Addr) (m : Str) (sp : Sp) (E : L2.St → XK) (ta : TE) (t : TA) : TE := fun σ H Q => ta σ H fun x H1 => ∃ a dx fs, x = .ref a ∧ H1 a = some (.ins C dx fs) ∧ fs.lookup m = none ∧ t σ H1 fun vs H2 => sp (x :: vs) H2 Q (E σ)
theorem pe_methS1 {pl : Sem Bool} (he : PE X o ta) (c : Cls X.K C) (hm : Meth X.K C m f) (F : FnOk X.prog X.w X.K X.mg X.base CX k f fd ps sp) (hr : Room k X.A) (hb : Binds X.K fd ps []) (hx : ∀ σ, PassesAt CX X σ (E σ)) (ha : PA X (e :: es) t)
    (hst : starEach (e :: es) X.env = (false, eval e X.env) :: starEach es X.env := by rfl) (hpl : (backTo pos (starEach es X.env)).any (·.1) = false := by rfl)
    (ht : eval (.Call (.Attribute o m apos) (e :: es) [] pos) X.env = (do
      let ov ← eval o X.env
      standAt apos.atName
      let (f, first) ← holding [ov] (getMethod ov m pl)
      callWith pos f first (backTo pos (starEach (e :: es) X.env)) (backToKw pos (keywordEach [] X.env))) := by rfl) :
    PE X (.Call (.Attribute o m apos) (e :: es) [] pos) (tMethS C m sp E ta t) := by
  refine ⟨fun pins s σ H Q I h => ?_⟩
  refine PySem.W.methodCall_KW (pl := pl) (thn (he.run pins s σ H _ I h) fun u s1 ⟨x, H1, I1, rx, a, dx, fs, ex, ea, l, q⟩ => ?_) ht
  subst ex
  obtain rfl : u = Value.ref a := rx
  refine getmeth_ok I1 ea c hm l ?_
  refine PySem.W.callWith_K (first := [.ref a]) (h₀ := X.base) I.ok.mod.kin hm.kp (thn (ha.run pos pins s1 σ H1 _ I1 q) fun us s2 ⟨vs, H2, I2, r, q2⟩ => ⟨I2.kIn, ?_⟩) hst hpl
  exact run_fnS (us := .ref a :: us) (vs := .ref a :: vs) F hr hb (hx σ) I2 (.cons rfl r) q2
theorem pe_methS0 {pl : Sem Bool} (he : PE X o ta) (c : Cls X.K C) (hm : Meth X.K C m f) (F : FnOk X.prog X.w X.K X.mg X.base CX k f fd ps sp) (hr : Room k X.A) (hb : Binds X.K fd ps []) (hx : ∀ σ, PassesAt CX X σ (E σ))
    (ht : eval (.Call (.Attribute o m apos) [] [] pos) X.env = (do
      let ov ← eval o X.env
      standAt apos.atName
      let (f, first) ← holding [ov] (getMethod ov m pl)
      callWith pos f first (backTo pos (starEach [] X.env)) (backToKw pos (keywordEach [] X.env))) := by rfl) :
    PE X (.Call (.Attribute o m apos) [] [] pos) (tMethS C m sp E ta tNil) := by
  refine ⟨fun pins s σ H Q I h => ?_⟩
  refine PySem.W.methodCall_KW (pl := pl) (thn (he.run pins s σ H _ I h) fun u s1 ⟨x, H1, I1, rx, a, dx, fs, ex, ea, l, q⟩ => ?_) ht
  subst ex
  obtain rfl : u = Value.ref a := rx
  refine getmeth_ok I1 ea c hm l ?_
  exact PySem.W.callWith_K0 (first := [.ref a]) I1.kIn hm.kp (run_fnS (us := [.ref a]) (vs := [.ref a]) F hr hb (hx σ) I1 (.cons rfl .nil) q)
def tMakeS (C : Addr) (sp : Sp) (E : L2.St → XK) (t : TA) : TE := fun σ H Q => t σ H fun vs H1 => ∀ x dx, H1 x = none → H1 dx = none → dx ≠ x → sp (.ref x :: vs) (upd (upd H1 dx (.own x)) x (.ins C dx [])) (fun v H2 => v = .non ∧ Q (.ref x) H2) (E σ)
theorem run_makeS {pins : List (Addr × Obj)} {σ : L2.St} {H : Hp} {s : Shared} {Q : VK} {us : List Value} {vs : List V} (M : Mk X.K C f) (F : FnOk X.prog X.w X.K X.mg X.base CX k f fd ps sp) (hr : Room (k + 1) X.A) (hb : Binds X.K fd ps [])
    (hx : PassesAt CX X σ (E σ)) (I : Inv X pins σ H s) (r : Vals vs us)
    (h : ∀ x dx, H x = none → H dx = none → dx ≠ x → sp (.ref x :: vs) (upd (upd H dx (.own x)) x (.ins C dx [])) (fun v H2 => v = .non ∧ Q (.ref x) H2) (E σ)) :
    wpAny (model X.prog X.w) X.A (call (.ref C) us) (EP X pins σ Q) X.xe s := by
  have hq := h (s.heap.objs.size + 1) s.heap.objs.size (I.hok.fresh (Nat.le_succ _)) (I.hok.fresh (Nat.le_refl _)) (Nat.ne_of_lt (Nat.lt_succ_self _))
  have I2 := Inv.made (C := C) I
  have r2 : Vals (V.ref (s.heap.objs.size + 1) :: vs) (Value.ref (s.heap.objs.size + 1) :: us) := .cons rfl r
  have hl : (Value.ref (s.heap.objs.size + 1) :: us).length = ps.length := by
    have e := r2.length
    rw [F.len _ _ _ _ hq] at e
    exact e.symm
  have b := hb _ (Value.ref (s.heap.objs.size + 1) :: us) I2.kIn (by rw [List.append_nil]; exact hl)
  rw [List.append_nil] at b
  refine wpAny_call (make_map (f := f) I.kIn M.makes M.init (beq_iff_eq.mp M.fn) (codeAny_mono (F.run _ X.stack _ _ ⟨Value.ref (s.heap.objs.size + 1) :: us, []⟩ (Value.ref (s.heap.objs.size + 1) :: us) _ _ (E σ) (hr.make C us [])
    (I2.env0.make C us []) b r2 hq) fun r s' hq' => ?_))
  cases r with
  | error e => exact hx pins _ _ e s' I2 hq'
  | ok fl =>
    cases fl with
    | ret u =>
      obtain ⟨v, H', I3, rv, ev, q3⟩ := I2.after hq'
      subst ev
      exact ⟨rv, ⟨V.ref (s.heap.objs.size + 1), H', I3, rfl, q3⟩⟩
    | next => exact False.elim hq'
    | brk => exact False.elim hq'
    | cont => exact False.elim hq'
theorem pe_makeS (M : Mk X.K C f) (F : FnOk X.prog X.w X.K X.mg X.base CX k f fd ps sp) (hr : Room (k + 1) X.A) (hg : Gl X x) (hm : X.mg x = some (.ref C)) (hb : Binds X.K fd ps []) (hx : ∀ σ, PassesAt CX X σ (E σ))
    (ha : PA X (e :: es) t) (hdb : (x == ("__debug__" : Str)) = false := by decide) (he : starEach (e :: es) X.env = (false, eval e X.env) :: starEach es X.env := by rfl) (hpl : (backTo pos (starEach es X.env)).any (·.1) = false := by rfl) :
    PE X (.Call (.Name x p) (e :: es) [] pos) (tMakeS C sp E t) := by
  refine ⟨fun pins s σ H Q I h => ?_⟩
  refine wpAny_Call_Name_kw (ld_glob I hg hm ?_ hdb)
  refine PySem.W.callWith_K (h₀ := X.base) I.ok.mod.kin M.kp (thn (ha.run pos pins s σ H _ I h) fun us s1 ⟨vs, H1, I1, r, q⟩ => ⟨I1.kIn, ?_⟩) he hpl
  exact run_makeS M F hr hb (hx σ) I1 r q
theorem pe_makeS0 (M : Mk X.K C f) (F : FnOk X.prog X.w X.K X.mg X.base CX k f fd ps sp) (hr : Room (k + 1) X.A) (hg : Gl X x) (hm : X.mg x = some (.ref C)) (hb : Binds X.K fd ps []) (hx : ∀ σ, PassesAt CX X σ (E σ))
    (hdb : (x == ("__debug__" : Str)) = false := by decide) : PE X (.Call (.Name x p) [] [] pos) (tMakeS C sp E tNil) := by
  refine ⟨fun pins s σ H Q I h => ?_⟩
  refine wpAny_Call_Name_kw (ld_glob I hg hm ?_ hdb)
  exact PySem.W.callWith_K0 I.kIn M.kp (run_makeS (us := []) M F hr hb (hx σ) I .nil h)
end
/-- a def that is shown: it stands at f and keeps the promise fm -/
structure Df (P : Program) (w : World) (K : PySem.W.Frag) (mg : Str → Option Value) (base : Heap) (eC : Addr) (k : Nat) (f : Addr) (fd : FuncData) (ps : List Str) (fm : FM) : Prop where
  ok : FnOk P w K mg base (L2.CX P w) k f fd ps (spV K mg eC ps.length fm)
  kp : PySem.W.keepIn K (.ref f) = true
  bi : Binds K fd ps []
section
variable {X : Cx} {eC : Addr} {W : WX} {S : List Nat} {k : Nat} {f C : Addr} {fd : FuncData} {ps : List Str} {fm : FM} {x m : Str} {p pos apos : Pos} {e o : Expr} {es : List Expr} {ks : List AK} {ms : M (List D)}
theorem ve_call (F : Df X.prog X.w X.K X.mg X.base eC k f fd ps fm) (hr : Room k X.A) (tk : Takes X W) (hm : X.mg x = some (.ref f)) (hg : Gl X x) (ha : VR X eC W S ks (e :: es) ms) (nd : (roots ks).Nodup := by decide)
    (hdb : (x == ("__debug__" : Str)) = false := by decide) (he : starEach (e :: es) X.env = (false, eval e X.env) :: starEach es X.env := by rfl) (hpl : (backTo pos (starEach es X.env)).any (·.1) = false := by rfl) :
    VE X eC W (S ++ roots ks) (.Call (.Name x p) (e :: es) [] pos) (callM ps.length ks fm ms) := PE.imp (pe_callS F.ok hr hg hm F.kp F.bi (fun σ => passAt tk σ) ha hdb he hpl) fun σ H Q q => tv_call nd q
theorem tvr_nil {K : PySem.W.Frag} {mg : Str → Option Value} {σ : L2.St} {H : Hp} {Q : List V → Hp → Prop} (q : TVr K mg eC W [] [] nilM σ H Q) : tNil σ H Q := by
  obtain ⟨ρ, F, er, q⟩ := q
  exact q [] H F E0 er ⟨rfl, rfl⟩ .refl
theorem ve_call0 (F : Df X.prog X.w X.K X.mg X.base eC k f fd ps fm) (hr : Room k X.A) (tk : Takes X W) (hm : X.mg x = some (.ref f)) (hg : Gl X x) (hdb : (x == ("__debug__" : Str)) = false := by decide) :
    VE X eC W [] (.Call (.Name x p) [] [] pos) (callM ps.length [] fm nilM) := PE.imp (pe_callS0 F.ok hr hg hm F.kp F.bi (fun σ => passAt tk σ) hdb) fun σ H Q q => tvr_nil (tv_call (ks := []) (S := []) (by decide) q)
/-- what a method call asks of its receiver: an object of the class, of one's own, without such a field -/
def isObj? (c m : Str) : D → Bool
  | .obj true c' ns _ => decide (c' = c) && !ns.contains m
  | _ => false
def objAt (i : Nat) (ps : Path) (c m : Str) (ρ : List D) : Bool := match (ρ[i]?).bind (getP · ps) with
  | some d => isObj? c m d
  | none => false
/-- o.m(e, ..), o a place -/
def methM (n : Nat) (c m : Str) (i : Nat) (ps : Path) (ks : List AK) (fm : FM) (ms : M (List D)) : EM := fun ρ => if objAt i ps c m ρ = true then callM n (.plc i ps :: ks) fm (plcM i ps ms) ρ else .bad
theorem lookup_none {f : Str} : ∀ {fs : List (Str × V)}, (fs.map (·.1)).contains f = false → fs.lookup f = none
  | [], _ => rfl
  | (g, y) :: fs, h => by
    simp only [List.map_cons, List.contains_cons, Bool.or_eq_false_iff] at h
    rw [List.lookup_cons, h.1]
    exact lookup_none h.2
theorem tv_meth {K : PySem.W.Frag} {mg : Str → Option Value} {σ : L2.St} {H : Hp} {Q : VK} {n : Nat} {c : Str} {i : Nat} {ps : Path} {ks : List AK} {fm : FM} {ms : M (List D)} {to : TE} {C : Addr} (hC : mg c = some (.ref C))
    (ho : ∀ Q : VK, (∃ v, PlcAt K mg H σ i ps v ∧ Q v H) → to σ H Q) (nS : i ∉ S) (nd : (roots (.plc i ps :: ks)).Nodup)
    (q : TV K mg eC W (S ++ roots (.plc i ps :: ks)) (methM n c m i ps ks fm ms) σ H Q) : tMethS C m (spV K mg eC n fm) (WE W) to (TVr K mg eC W S ks ms) σ H Q := by
  obtain ⟨ρ, F, er, q⟩ := q
  unfold methM at q
  by_cases hc : objAt i ps c m ρ = true
  · rw [if_pos hc] at q
    have q2 := tv_call nd ⟨ρ, F, er, q⟩
    have hp : ∃ d0 ns ds, ρ[i]? = some d0 ∧ getP d0 ps = some (.obj true c ns ds) ∧ ns.contains m = false := by
      unfold objAt at hc
      cases e1 : ρ[i]? with
      | none => rw [e1] at hc; cases hc
      | some d0 =>
        rw [e1] at hc
        simp only [Option.bind_some] at hc
        cases e2 : getP d0 ps with
        | none => rw [e2] at hc; cases hc
        | some d =>
          rw [e2] at hc
          dsimp only at hc
          unfold isObj? at hc
          split at hc
          · simp only [Bool.and_eq_true, decide_eq_true_eq, Bool.not_eq_true'] at hc
            obtain ⟨rfl, hm⟩ := hc
            exact ⟨d0, _, _, rfl, e2, hm⟩
          · cases hc
    obtain ⟨d0, ns, ds, e1, e2, hm⟩ := hp
    obtain ⟨o, e3, rr⟩ := er.get i d0 e1
    obtain ⟨v0, rfl, rr⟩ := has_root e2 rfl rr
    obtain ⟨x, A1, A2, a, s1, s2, dj, r1, r2, kp⟩ := rr.path e2
    obtain ⟨b, C', dx, fs, rfl, mC, z, _, en, _⟩ := r1
    rw [hC] at mC; cases mC
    have hpl : isPlc i ps ρ = true := by unfold isPlc; rw [e1]; simp only [Option.bind_some, e2]; rfl
    refine ho _ ⟨.ref b, ⟨v0, e3, a⟩, b, dx, fs, rfl, z, lookup_none (by rw [en]; exact hm), ρ, F, er, ?_⟩
    unfold callM plcM at q
    rw [if_pos hpl] at q
    cases e4 : ms ρ with
    | bad => rw [e4] at q; exact q
    | ex z ρ1 => rw [e4] at q; exact fun dd H' F' er' x g => q dd H' F' er' x (g.more fun j hj => List.mem_append_left _ hj)
    | ok ds' ρ1 =>
      rw [e4] at q
      exact fun vs H1 F1 T er1 r3 g => call_core (ks := .plc i ps :: ks) nd er1 ⟨.ref b, vs, rfl, ⟨v0, e3, kp H1 ((g.toAft.kpSlot er nS).sub s2)⟩, r3⟩ g q
  · rw [if_neg hc] at q; exact q.elim
theorem ve_meth {pl : Sem Bool} {c : Str} {i : Nat} {ps' : Path} (ho : VP X o i ps') (F : Df X.prog X.w X.K X.mg X.base eC k f fd ps fm) (hr : Room k X.A) (tk : Takes X W) (hC : X.mg c = some (.ref C)) (cl : Cls X.K C) (hm : Meth X.K C m f) (ha : VR X eC W S ks (e :: es) ms)
    (nS : i ∉ S := by decide) (nd : (roots (.plc i ps' :: ks)).Nodup := by decide)
    (hst : starEach (e :: es) X.env = (false, eval e X.env) :: starEach es X.env := by rfl) (hpl : (backTo pos (starEach es X.env)).any (·.1) = false := by rfl)
    (ht : eval (.Call (.Attribute o m apos) (e :: es) [] pos) X.env = (do
      let ov ← eval o X.env
      standAt apos.atName
      let (f, first) ← holding [ov] (getMethod ov m pl)
      callWith pos f first (backTo pos (starEach (e :: es) X.env)) (backToKw pos (keywordEach [] X.env))) := by rfl) :
    VE X eC W (S ++ roots (.plc i ps' :: ks)) (.Call (.Attribute o m apos) (e :: es) [] pos) (methM ps.length c m i ps' ks fm ms) :=
  PE.imp (pe_methS1 ho cl hm F.ok hr F.bi (fun σ => passAt tk σ) ha hst hpl ht) fun σ H Q q => tv_meth hC (fun Q h => h) nS nd q
theorem ve_meth0 {pl : Sem Bool} {c : Str} {i : Nat} {ps' : Path} (ho : VP X o i ps') (F : Df X.prog X.w X.K X.mg X.base eC k f fd ps fm) (hr : Room k X.A) (tk : Takes X W) (hC : X.mg c = some (.ref C)) (cl : Cls X.K C) (hm : Meth X.K C m f)
    (ht : eval (.Call (.Attribute o m apos) [] [] pos) X.env = (do
      let ov ← eval o X.env
      standAt apos.atName
      let (f, first) ← holding [ov] (getMethod ov m pl)
      callWith pos f first (backTo pos (starEach [] X.env)) (backToKw pos (keywordEach [] X.env))) := by rfl) :
    VE X eC W ([] ++ roots [.plc i ps']) (.Call (.Attribute o m apos) [] [] pos) (methM ps.length c m i ps' [] fm nilM) :=
  PE.imp (pe_methS0 ho cl hm F.ok hr F.bi (fun σ => passAt tk σ) ht) fun σ H Q q => by
    obtain ⟨v, h1, a, dx, fs, e1, e2, e3, q⟩ := tv_meth (S := []) (ks := []) (to := fun σ H Q => ∃ v, PlcAt X.K X.mg H σ i ps' v ∧ Q v H) hC (fun Q h => h) (by simp) (by simp [roots]) q
    exact ⟨v, h1, a, dx, fs, e1, e2, e3, tvr_nil q⟩

/-! ### C(e, ..) -/
/-- __init__'s answer is None, its self is the new object -/
def newM (n : Nat) (c : Str) (ks : List AK) (fm : FM) (ms : M (List D)) : EM := fun ρ => (ms ρ).bind fun ds ρ1 => match takeK ks ds ρ1 with
  | some (ds', ρ2) => if ds'.length + 1 = n then (match fm (.obj true c [] [] :: ds') with
    | .ok .non (d :: es) => (match putK ks es ρ2 with
      | some ρ3 => .ok d ρ3
      | none => .bad)
    | .ex z (_ :: es) => (match putK ks es ρ2 with
      | some ρ3 => .ex z ρ3
      | none => .bad)
    | _ => .bad) else .bad
  | none => .bad
theorem tv_new {K : PySem.W.Frag} {mg : Str → Option Value} {σ : L2.St} {H : Hp} {Q : VK} {n : Nat} {c : Str} {ks : List AK} {fm : FM} {ms : M (List D)} (hC : mg c = some (.ref C)) (nd : (roots ks).Nodup)
    (q : TV K mg eC W (S ++ roots ks) (newM n c ks fm ms) σ H Q) : tMakeS C (spV K mg eC n fm) (WE W) (TVr K mg eC W S ks ms) σ H Q := by
  obtain ⟨ρ, F, er, q⟩ := q
  refine ⟨ρ, F, er, ?_⟩
  unfold newM at q
  cases e1 : ms ρ with
  | bad => rw [e1] at q; exact q
  | ex z ρ1 => rw [e1] at q; exact fun dd H' F' er' x g => q dd H' F' er' x (g.more fun j hj => List.mem_append_left _ hj)
  | ok ds ρ1 =>
    rw [e1] at q
    intro vs H1 F1 T1 er1 rk g1 x dx nx ndx nex
    simp only [Res.bind_ok] at q
    cases e2 : takeK ks ds ρ1 with
    | none => rw [e2] at q; exact q.elim
    | some p =>
      obtain ⟨ds', ρ2⟩ := p
      rw [e2] at q
      dsimp only at q
      by_cases hn : ds'.length + 1 = n
      · rw [if_pos hn] at q
        obtain ⟨F2, T2, er2, r2, l2, dj2, t, f, _, p⟩ := take_ok nd e2 rk er1 g1.live g1.dj
        -- the new object
        have nx' : (upd H1 dx (.own x)) x = none := by rw [upd_ne (Ne.symm nex)]; exact nx
        have af0 : AftT T2 H1 (upd H1 dx (.own x)) T2 := .newF ndx l2 Sub.rfl
        have af1 : AftT T2 H1 (upd (upd H1 dx (.own x)) x (.ins C dx [])) (fun a => T2 a ∨ a = x) := af0.trans (.new nx' trivial (l2.keep (kp_new ndx)) Sub.rfl)
        have kpn : ∀ {A : AS}, Kp A H1 (upd (upd H1 dx (.own x)) x (.ins C dx [])) := fun {A} a o e h => kp_new (A := A) nx' a o (kp_new (A := A) ndx a o e h) h
        have nT2 : ¬ T2 x := fun h => by
          obtain ⟨u, e, _⟩ := l2 x h
          rw [nx] at e; cases e
        have rn : Reps K mg (upd (upd H1 dx (.own x)) x (.ins C dx [])) (.obj true c [] [] :: ds') (.ref x :: vs) (fun a => T2 a ∨ a = x) :=
          ⟨.ref x, vs, (fun a => a = x), T2, rfl, fun _ => .inr, fun _ => .inl, fun a h g => nT2 (h ▸ g), ⟨x, C, dx, [], rfl, hC, upd_same, rfl, rfl, rfl⟩, Reps.keep ds' r2 kpn⟩
        refine ⟨_, _, by rw [List.length_cons, r2.length]; exact hn, rn, af1.live, ?_⟩
        have paths : ∀ {H2 : Hp} {T : AS}, AftT T2 H1 H2 T → PathsK K mg H2 σ ks vs := fun {H2 T} af => p H2 fun j a o e h =>
          af.keep a o e fun x => h.elim (fun y => dj2 j a x y) fun fx => l2.nfix e fx x
        cases e3 : fm (.obj true c [] [] :: ds') with
        | bad => rw [e3] at q; exact q
        | ok d es0 =>
          rw [e3] at q
          cases d with
          | non =>
            cases es0 with
            | nil => exact q.elim
            | cons d' es' =>
              intro v H2 Ta Tb rv re dab af2
              have ev : v = .non := rv
              refine ⟨ev, ?_⟩
              obtain ⟨y, ys, B1, B2, ey, s1, s2, d12, r5, r6⟩ := re
              cases ey
              have af3 := af1.trans af2
              have af4 : AftT T2 H1 H2 (Un2 B1 B2) := ⟨af3.keep, fun a h => af3.sub a (h.elim (fun h => .inr (s1 a h)) fun h => .inr (s2 a h)), fun a h => af3.live a (h.elim (fun h => .inr (s1 a h)) fun h => .inr (s2 a h)), af3.dom⟩
              dsimp only at q
              cases e4 : putK ks es' ρ2 with
              | none => rw [e4] at q; exact q.elim
              | some ρ3 =>
                rw [e4] at q
                have er2' := er2.step l2 dj2 af4
                have dT : ∀ j, Dj (Un2 B1 B2) (F2 j) := fun j a x y => by
                  rcases af4.sub a x with z | z
                  · exact dj2 j a z y
                  · obtain ⟨u, e, _⟩ := er2.live j a y
                    rw [e] at z; cases z
                obtain ⟨F3, er3, f3, g3⟩ := put_ok e4 r6 (paths af4) er2' (af4.live.sub fun _ => .inr) fun j => (dT j).sub (fun _ => .inr) Sub.rfl
                obtain ⟨g, new⟩ := call_aft (ρ2 := ρ2) g1 er2 l2 dj2 t f af4 f3 g3
                exact q _ H2 F3 B1 er3 r5 ⟨g, fun a x => new a (.inl x), fun j a x y => (f3 j a y).elim (fun y => dT j a (.inl x) y) fun y => d12 a x y, af4.live.sub fun _ => .inl⟩
          | _ => exact q.elim
        | ex z es0 =>
          rw [e3] at q
          cases es0 with
          | nil => exact q.elim
          | cons d' es' =>
            intro dd H2 Tb re af2 hx
            obtain ⟨y, ys, B1, B2, ey, s1, s2, d12, r5, r6⟩ := re
            cases ey
            have af3 := af1.trans af2
            have af4 : AftT T2 H1 H2 (Un2 E0 B2) := ⟨af3.keep, fun a h => af3.sub a (s2 a (h.resolve_left id)), fun a h => af3.live a (s2 a (h.resolve_left id)), af3.dom⟩
            dsimp only at q
            cases e4 : putK ks es' ρ2 with
            | none => rw [e4] at q; exact q.elim
            | some ρ3 =>
              rw [e4] at q
              have er2' := er2.step l2 dj2 af4
              have dT : ∀ j, Dj B2 (F2 j) := fun j a x y => by
                rcases af4.sub a (.inr x) with z | z
                · exact dj2 j a z y
                · obtain ⟨u, e, _⟩ := er2.live j a y
                  rw [e] at z; cases z
              obtain ⟨F3, er3, f3, g3⟩ := put_ok e4 r6 (paths af4) er2' (af4.live.sub fun _ => .inr) dT
              obtain ⟨g, new⟩ := call_aft (ρ2 := ρ2) g1 er2 l2 dj2 t f af4 f3 g3
              exact q dd H2 F3 er3 hx g
      · rw [if_neg hn] at q; exact q.elim
theorem ve_new {fI : Addr} {c : Str} (Mk' : Mk X.K C fI) (F : Df X.prog X.w X.K X.mg X.base eC k fI fd ps fm) (hr : Room (k + 1) X.A) (tk : Takes X W) (hC : X.mg c = some (.ref C)) (hg : Gl X c) (ha : VR X eC W S ks (e :: es) ms) (nd : (roots ks).Nodup := by decide)
    (hdb : (c == ("__debug__" : Str)) = false := by decide) (he : starEach (e :: es) X.env = (false, eval e X.env) :: starEach es X.env := by rfl) (hpl : (backTo pos (starEach es X.env)).any (·.1) = false := by rfl) :
    VE X eC W (S ++ roots ks) (.Call (.Name c p) (e :: es) [] pos) (newM ps.length c ks fm ms) := PE.imp (pe_makeS Mk' F.ok hr hg hC F.bi (fun σ => passAt tk σ) ha hdb he hpl) fun σ H Q q => tv_new hC nd q
theorem ve_new0 {fI : Addr} {c : Str} (Mk' : Mk X.K C fI) (F : Df X.prog X.w X.K X.mg X.base eC k fI fd ps fm) (hr : Room (k + 1) X.A) (tk : Takes X W) (hC : X.mg c = some (.ref C)) (hg : Gl X c) (hdb : (c == ("__debug__" : Str)) = false := by decide) :
    VE X eC W [] (.Call (.Name c p) [] [] pos) (newM ps.length c [] fm nilM) := PE.imp (pe_makeS0 Mk' F.ok hr hg hC F.bi (fun σ => passAt tk σ) hdb) fun σ H Q q => tvr_nil (tv_new (ks := []) (S := []) hC (by decide) q)
end
end VS
set_option Elab.async false
set_option linter.all false
set_option maxRecDepth 100000
set_option maxHeartbeats 4000000
/-! VS11: a def is what its body is. -/
namespace VS
open PySem PySem.Spec PyProof.Rows L2
/-- the parameters' data behind the body; a parameter that was given another value tells nothing -/
def fin (SA : List Nat) : Nat → List D → List D
  | _, [] => []
  | j, d :: ds => (if SA.contains j then .un else d) :: fin SA (j + 1) ds
def fnM (n N : Nat) (SA : List Nat) (body : SM) : FM := fun ds => if ds.length = n then (match body (ds ++ List.replicate (N - n) .un) with
  | .ok (.ret d) ρ => .ok d (fin SA 0 (ρ.take n))
  | .ok .nx ρ => .ok .non (fin SA 0 (ρ.take n))
  | .ex z ρ => .ex z (fin SA 0 (ρ.take n))
  | _ => .bad) else .bad
section
variable {K : PySem.W.Frag} {mg : Str → Option Value} {H H' : Hp}
/-- each item's own room -/
theorem Reps.split : ∀ {ds : List D} {vs : List V} {A : AS}, Reps K mg H ds vs A →
    ∃ F : Nat → AS, (∀ (j : Nat) d, ds[j]? = some d → ∃ v, vs[j]? = some v ∧ Rep K mg H d v (F j)) ∧ (∀ j, Sub (F j) A) ∧ (∀ j k, j ≠ k → Dj (F j) (F k))
  | [], _, _, h => ⟨fun _ => E0, fun j d e => by simp at e, fun _ => Sub.e0, fun _ _ _ => Dj.e0⟩
  | d :: ds, _, A, ⟨x, ys, A1, A2, e1, s1, s2, dj, h1, h2⟩ => by
    subst e1
    obtain ⟨F, f1, f2, f3⟩ := Reps.split h2
    refine ⟨fun j => match j with | 0 => A1 | j + 1 => F j, fun j => ?_, fun j => ?_, fun j k => ?_⟩
    · cases j with
      | zero => intro c e; simp at e; subst e; exact ⟨x, rfl, h1⟩
      | succ j => intro c e; simpa using f1 j c (by simpa using e)
    · cases j with
      | zero => exact s1
      | succ j => exact (f2 j).trans s2
    · cases j with
      | zero =>
        cases k with
        | zero => intro n; exact absurd rfl n
        | succ k => intro _; exact dj.sub Sub.rfl (f2 k)
      | succ j =>
        cases k with
        | zero => intro _; exact (dj.sub Sub.rfl (f2 j)).symm
        | succ k => intro n; exact f3 j k (by omega)
theorem Reps.join : ∀ {ds : List D} {vs : List V} {F : Nat → AS}, ds.length = vs.length → (∀ (j : Nat) d, ds[j]? = some d → ∃ v, vs[j]? = some v ∧ Rep K mg H d v (F j)) → (∀ j k, j ≠ k → Dj (F j) (F k)) → Reps K mg H ds vs (fun a => ∃ j, F j a)
  | [], vs, F, hl, _, _ => by
    cases vs with
    | nil => rfl
    | cons => simp at hl
  | d :: ds, vs, F, hl, h, dj => by
    cases vs with
    | nil => simp at hl
    | cons v vs =>
      obtain ⟨v', e, r⟩ := h 0 d rfl
      simp at e; subst e
      have r2 := Reps.join (F := fun j => F (j + 1)) (ds := ds) (vs := vs) (by simpa using hl) (fun j c e => by simpa using h (j + 1) c (by simpa using e)) fun j k n => dj (j + 1) (k + 1) (by omega)
      exact ⟨v, vs, F 0, _, rfl, fun a x => ⟨0, x⟩, fun a ⟨j, x⟩ => ⟨j + 1, x⟩, fun a x ⟨j, y⟩ => dj 0 (j + 1) (by omega) a x y, r, r2⟩
theorem fin_length (SA : List Nat) : ∀ (ds : List D) (j : Nat), (fin SA j ds).length = ds.length
  | [], _ => rfl
  | d :: ds, j => by simp only [fin, List.length_cons, fin_length SA ds (j + 1)]
theorem fin_get (SA : List Nat) : ∀ (ds : List D) (j k : Nat) (d : D), (fin SA j ds)[k]? = some d → ∃ c, ds[k]? = some c ∧ d = if SA.contains (j + k) then .un else c
  | [], _, _, _, e => by simp [fin] at e
  | c :: ds, j, 0, d, e => by
    simp [fin] at e; subst e
    exact ⟨c, rfl, by simp⟩
  | c :: ds, j, k + 1, d, e => by
    obtain ⟨c', e1, e2⟩ := fin_get SA ds (j + 1) k d (by simpa [fin] using e)
    exact ⟨c', by simpa using e1, by rw [e2, show j + 1 + k = j + (k + 1) by omega]⟩
theorem start_er {N : List Str} {ds : List D} {vs : List V} {T : AS} (r : Reps K mg H ds vs T) (l : Live H T) (hN : vs.length ≤ N.length) :
    ∃ F, ER K mg H (ds ++ List.replicate (N.length - ds.length) .un) (L2.start N vs) F ∧ ∀ j, Sub (F j) T := by
  obtain ⟨F, f1, f2, f3⟩ := r.split
  have hl := r.length
  refine ⟨F, ⟨?_, fun j d e => ?_, f3, fun j => l.sub (f2 j)⟩, f2⟩
  · unfold L2.start
    rw [List.length_append, List.length_append, List.length_replicate, List.length_replicate, List.length_map, hl]
  · unfold L2.start
    by_cases c : j < ds.length
    · rw [List.getElem?_append_left c] at e
      obtain ⟨v, e1, rv⟩ := f1 j d e
      refine ⟨some v, ?_, rv⟩
      rw [List.getElem?_append_left (by rw [List.length_map, hl]; exact c), List.getElem?_map, e1]; rfl
    · rw [List.getElem?_append_right (by omega)] at e
      have e2 := List.getElem?_replicate ▸ e
      rw [List.getElem?_append_right (by rw [List.length_map, hl]; omega), List.length_map, hl, List.getElem?_replicate]
      rw [List.getElem?_replicate] at e
      split at e
      · rename_i h
        rw [if_pos h]
        cases e
        exact ⟨none, rfl, rfl⟩
      · cases e
end
section
variable {P : Program} {w : World} {K : PySem.W.Frag} {mg : Str → Option Value} {base : Heap} {eC : Addr}
/-- what the body leaves tells of the parameters -/
theorem fin_reps {N : List Str} {ds ρ : List D} {vs : List V} {σ' : L2.St} {H H' : Hp} {F F' : Nat → AS} {SA : List Nat} (hv : vs.length ≤ N.length) (er : ER K mg H' ρ σ' F') (a : Agree SA (L2.start N vs) σ') : Reps K mg H' (fin SA 0 (ρ.take vs.length)) vs (fun a => ∃ j, F' j a) := by
  have hl : ρ.length = N.length := by
    rw [er.len, a.1]
    unfold L2.start
    rw [List.length_append, List.length_map, List.length_replicate]
    omega
  refine Reps.join (by rw [fin_length, List.length_take]; omega) (fun j d e => ?_) er.dj
  obtain ⟨c, e1, e2⟩ := fin_get SA _ 0 j d e
  have hj : j < vs.length := by
    have := (List.getElem?_eq_some_iff.mp e1).1
    rw [List.length_take] at this
    omega
  refine ⟨vs[j], by simp [hj], ?_⟩
  rw [Nat.zero_add] at e2
  by_cases c1 : SA.contains j = true
  · rw [if_pos c1] at e2
    subst e2
    trivial
  · rw [if_neg c1] at e2
    subst e2
    rw [List.getElem?_take_of_lt hj] at e1
    obtain ⟨o, e3, r⟩ := er.get j d e1
    rw [a.2 j (by intro h; exact c1 (by simpa using h))] at e3
    unfold L2.start at e3
    rw [List.getElem?_append_left (by rw [List.length_map]; exact hj), List.getElem?_map] at e3
    simp [hj] at e3
    subst e3
    exact r
/-- THE RULE for a def -/
theorem df_of {x qual : Str} {st : Stmt} {f : Addr} {fd : FuncData} {N ps : List Str} {k : Nat} {SA : List Nat} {m : SM} (F : Fun K x qual st f fd) (S : FnScope N ps (defScope st)) (hb : Binds K fd ps [])
    (body : ∀ (cdv : Value) (A : Around) (outer : List Env) (s : Shared) (H : Hp) (E : XK), Room k (A.deeper (envOfC qual (defScope st) s.heap.objs.size f cdv)) →
      VSs (cxOf (L2.CX P w) P w K mg base N qual (defScope st) f cdv A outer s H E) eC (fun cls d _ H => E cls d H) SA (defBody st) m) : Df P w K mg base eC (k + 1) f fd ps (fnM ps.length N.length SA m) := by
  refine ⟨F.okX S (fun vs H Q E h => ?_) (fun cdv A outer s H vs Q E hr h => ⟨_, body cdv A outer s H E hr, ?_⟩), F.kp, hb⟩
  · obtain ⟨ds, T, hn, _⟩ := h
    exact hn
  · obtain ⟨ds, T, hn, r, l, q⟩ := h
    have hpl : ps.length ≤ N.length := by have := congrArg List.length S.pre; rw [List.length_take] at this; omega
    obtain ⟨F0, er, sF⟩ := start_er (N := N) r l (by omega)
    have hd : ds.length = ps.length := by rw [← r.length, hn]
    rw [hd] at er
    refine ⟨_, F0, er, ?_⟩
    unfold fnM at q
    rw [if_pos hd] at q
    have aft : ∀ {H' : Hp} {F' : Nat → AS} {T1 : AS}, AftS H F0 H' F' → (∀ a, T1 a → (∃ k, F0 k a) ∨ H a = none) → Live H' T1 → (∀ j, Live H' (F' j)) → AftT T H H' (Un2 T1 fun a => ∃ j, F' j a) := fun {H' F' T1} g n l1 l2 =>
      ⟨fun a o e na => g.keep a o e fun j h => na (sF j a h), fun a h => by
        rcases h with h | ⟨j, h⟩
        · exact (n a h).imp (fun ⟨k, x⟩ => sF k a x) id
        · exact (g.sub j a h).imp (fun ⟨k, x⟩ => sF k a x) id, fun a h => by
        rcases h with h | ⟨j, h⟩
        · exact l1 a h
        · exact l2 j a h, g.dom⟩
    cases e1 : m (ds ++ List.replicate (N.length - ps.length) .un) with
    | bad => rw [e1] at q; exact q
    | ex z ρ =>
      rw [e1] at q
      intro dd σ' H' F' er' hx g a
      have rp := fin_reps (ds := ds) (H := H) (F := F0) (by omega) er' a
      rw [hn] at rp
      have t := aft (T1 := E0) g (fun _ h => h.elim) Live.e0 er'.live
      exact q dd H' _ rp ⟨t.keep, fun a h => t.sub a (.inr h), fun a h => t.live a (.inr h), t.dom⟩ hx
    | ok fl ρ =>
      rw [e1] at q
      cases fl with
      | bk => exact q.elim
      | ct => exact q.elim
      | nx =>
        intro σ' H' F' er' g a
        have rp := fin_reps (ds := ds) (H := H) (F := F0) (by omega) er' a
        rw [hn] at rp
        exact q .non H' E0 _ rfl rp Dj.e0 (aft g (fun _ h => h.elim) Live.e0 er'.live)
      | ret d =>
        intro v σ' H' F' T1 er' rv g a
        have rp := fin_reps (ds := ds) (H := H) (F := F0) (by omega) er' a
        rw [hn] at rp
        exact q v H' T1 _ rv rp (fun a h ⟨j, x⟩ => g.dj j a h x) (aft g.toAftS g.new g.live er'.live)
end
end VS
set_option Elab.async false
set_option linter.all false
set_option maxRecDepth 100000
set_option maxHeartbeats 4000000
/-! VS12: what is walked, targets, for. -/
namespace VS
open PySem PySem.Spec PyProof.Rows L2
/-- J walks the data ds while hold stands -/
structure Walk (K : PySem.W.Frag) (mg : Str → Option Value) (J : It) (hold : Hp → Prop) (ds : List D) : Prop where
  keep : ∀ H H', hold H → Kp E0 H H' → hold H'
  go : ∀ i H, hold H → i < ds.length → J.go i H
  yld : ∀ i H x H', hold H → i < ds.length → J.yld i H x H' → (∃ d, ds[i]? = some d ∧ Rep K mg H' d x E0) ∧ AftT E0 H H' E0
  stop : ∀ H, hold H → J.stop ds.length H
def TVI (K : PySem.W.Frag) (mg : Str → Option Value) (eC : Addr) (W : WX) (S : List Nat) (m : M (List D)) : TI := fun σ H R => ∃ ρ F, ER K mg H ρ σ F ∧
  match m ρ with
  | .ok ds ρ' => ∀ J H' F' hold, ER K mg H' ρ' σ F' → Aft S H F H' F' → Walk K mg J hold ds → hold H' → R J H'
  | .ex z ρ' => ∀ dd H' F', ER K mg H' ρ' σ F' → H' dd = some (.xd [("reason", .str z)]) → Aft S H F H' F' → W (.ref eC) (some dd) σ H'
  | .bad => False
abbrev VI (X : Cx) (eC : Addr) (W : WX) (S : List Nat) (tg iter : Expr) (m : M (List D)) : Prop := PI X tg iter (TVI X.K X.mg eC W S m)
theorem PI.imp {X : Cx} {tg iter : Expr} {t t' : TI} (h : PI X tg iter t) (i : ∀ σ H R, t' σ H R → t σ H R) : PI X tg iter t' := ⟨fun pins s σ H R I q => h.run pins s σ H R I (i σ H R q)⟩
theorem PI.or {X : Cx} {tg iter : Expr} {t t' : TI} (h : PI X tg iter t) (g : PI X tg iter t') : PI X tg iter (fun σ H R => t σ H R ∨ t' σ H R) := ⟨fun pins s σ H R I q => q.elim (h.run pins s σ H R I) (g.run pins s σ H R I)⟩
section
variable {K : PySem.W.Frag} {mg : Str → Option Value} {H : Hp}
theorem Rep.pureItem {ds : List D} {xs : List V} {i : Nat} {x : V} (r : Reps K mg H ds xs E0) (e : xs[i]? = some x) : ∃ d, ds[i]? = some d ∧ Rep K mg H d x E0 := by
  have lt := (List.getElem?_eq_some_iff.mp e).1
  rw [r.length] at lt
  obtain ⟨v, e2, rv⟩ := r.get (i := i) (d := ds[i]) (by simp [lt])
  rw [e] at e2; cases e2
  exact ⟨ds[i], by simp [lt], rv⟩
theorem walk_list {a : Addr} {ds : List D} {xs : List V} (q : RoL K H a xs) (r : Reps K mg H ds xs E0) : Walk K mg (Itl K a) (fun H => RoL K H a xs ∧ Reps K mg H ds xs E0) ds where
  keep := fun H H' h k => ⟨k.roL h.1, Reps.keep ds h.2 k⟩
  go := fun i H h lt => ⟨xs, xs[i]'(by rw [h.2.length]; exact lt), h.1.sq, by simp⟩
  yld := fun i H x H' h lt y => by
    obtain ⟨rfl, y⟩ := y
    exact ⟨Rep.pureItem h.2 (y xs h.1.sq), .refl⟩
  stop := fun H h => ⟨xs, h.1.sq, by rw [h.2.length]; exact Nat.le_refl _⟩
theorem walk_tup {a : Addr} {ds : List D} {xs : List V} (q : SqT K H a xs) (r : Reps K mg H ds xs E0) : Walk K mg (Itt K a) (fun H => SqT K H a xs ∧ Reps K mg H ds xs E0) ds where
  keep := fun H H' h k => ⟨k.tupT h.1, Reps.keep ds h.2 k⟩
  go := fun i H h lt => ⟨xs, xs[i]'(by rw [h.2.length]; exact lt), h.1, by simp⟩
  yld := fun i H x H' h lt y => by
    obtain ⟨rfl, y⟩ := y
    exact ⟨Rep.pureItem h.2 (y xs h.1), .refl⟩
  stop := fun H h => ⟨xs, h.1, by rw [h.2.length]; exact Nat.le_refl _⟩
def rangeD (lo : Int) (n : Nat) : List D := (List.range n).map fun i => D.int (lo + (i : Nat))
theorem walk_range {lo : Int} {n : Nat} : Walk K mg (Itr lo n) (fun _ => True) (rangeD lo n) where
  keep := fun _ _ _ _ => trivial
  go := fun i H h lt => by
    have h2 : i < n := by simpa [rangeD] using lt
    exact h2
  yld := fun i H x H' h lt y => by
    obtain ⟨rfl, rfl⟩ := y
    refine ⟨⟨.int (lo + i), ?_, rfl⟩, .refl⟩
    have : i < n := by simpa [rangeD] using lt
    simp [rangeD, this]
  stop := fun H h => by show n ≤ (rangeD lo n).length; simp [rangeD]
/-- a pair of items, a new tuple -/
theorem pair_tup {x y : V} {d e : D} {T : Addr} (h1 : Rep K mg H d x E0) (h2 : Rep K mg H e y E0) (nT : H T = none) : Rep K mg (upd H T (.tup [x, y])) (.tup [d, e]) (.ref T) E0 :=
  ⟨T, [x, y], rfl, .of upd_same, x, [y], E0, E0, rfl, Sub.rfl, Sub.rfl, Dj.e0, Rep.keep d h1 (kp_new nT), y, [], E0, E0, rfl, Sub.rfl, Sub.rfl, Dj.e0, Rep.keep e h2 (kp_new nT), rfl⟩
def pairsD (ds es : List D) : List D := (ds.zip es).map fun p => .tup [p.1, p.2]
def enumD (ds : List D) : List D := pairsD (rangeD 0 ds.length) ds
theorem pairsD_get {ds es : List D} {i : Nat} {d e : D} (h1 : ds[i]? = some d) (h2 : es[i]? = some e) : (pairsD ds es)[i]? = some (.tup [d, e]) := by
  simp [pairsD, List.getElem?_map, List.getElem?_zip_eq_some, h1, h2, List.zip, List.getElem?_zipWith]
theorem pairsD_length {ds es : List D} : (pairsD ds es).length = min ds.length es.length := by simp [pairsD]
theorem walk_enum {a : Addr} {ds : List D} {xs : List V} (q : RoL K H a xs) (r : Reps K mg H ds xs E0) : Walk K mg (Ite K a) (fun H => RoL K H a xs ∧ Reps K mg H ds xs E0) (enumD ds) where
  keep := fun H H' h k => ⟨k.roL h.1, Reps.keep ds h.2 k⟩
  go := fun i H h lt => by
    rw [enumD, pairsD_length] at lt
    have lt' : i < ds.length := by omega
    exact ⟨xs, xs[i]'(by rw [h.2.length]; exact lt'), h.1.sq, by simp⟩
  yld := fun i H x H' h lt y => by
    obtain ⟨T, x', rfl, nT, rfl, y⟩ := y
    obtain ⟨d, e1, rd⟩ := Rep.pureItem h.2 (y xs h.1.sq)
    have lt' : i < ds.length := (List.getElem?_eq_some_iff.mp e1).1
    refine ⟨⟨.tup [.int (i : Nat), d], pairsD_get ?_ e1, pair_tup rfl rd nT⟩, .newF nT Live.e0 Sub.rfl⟩
    simp [rangeD, lt']
  stop := fun H h => ⟨xs, h.1.sq, by rw [enumD, pairsD_length, h.2.length]; simp [rangeD]⟩
theorem walk_zipL {a b : Addr} {ds es : List D} {xs ys : List V} (q : RoL K H a xs) (r : Reps K mg H ds xs E0) (q' : RoL K H b ys) (r' : Reps K mg H es ys E0) :
    Walk K mg (Itz K a b) (fun H => (RoL K H a xs ∧ Reps K mg H ds xs E0) ∧ RoL K H b ys ∧ Reps K mg H es ys E0) (pairsD ds es) where
  keep := fun H H' h k => ⟨⟨k.roL h.1.1, Reps.keep ds h.1.2 k⟩, k.roL h.2.1, Reps.keep es h.2.2 k⟩
  go := fun i H h lt => by
    rw [pairsD_length] at lt
    exact ⟨xs, ys, xs[i]'(by rw [h.1.2.length]; omega), ys[i]'(by rw [h.2.2.length]; omega), h.1.1.sq, h.2.1.sq, by simp, by simp⟩
  yld := fun i H x H' h lt y => by
    obtain ⟨T, x', y', rfl, nT, rfl, z1, z2⟩ := y
    obtain ⟨d, e1, rd⟩ := Rep.pureItem h.1.2 (z1 xs h.1.1.sq)
    obtain ⟨e, e2, re⟩ := Rep.pureItem h.2.2 (z2 ys h.2.1.sq)
    exact ⟨⟨.tup [d, e], pairsD_get e1 e2, pair_tup rd re nT⟩, .newF nT Live.e0 Sub.rfl⟩
  stop := fun H h => ⟨xs, ys, h.1.1.sq, h.2.1.sq, by rw [pairsD_length, h.1.2.length, h.2.2.length]; omega⟩
theorem walk_zipT {a b : Addr} {ds es : List D} {xs ys : List V} (q : SqT K H a xs) (r : Reps K mg H ds xs E0) (q' : SqT K H b ys) (r' : Reps K mg H es ys E0) :
    Walk K mg (RZ.ItzT K a b) (fun H => (SqT K H a xs ∧ Reps K mg H ds xs E0) ∧ SqT K H b ys ∧ Reps K mg H es ys E0) (pairsD ds es) where
  keep := fun H H' h k => ⟨⟨k.tupT h.1.1, Reps.keep ds h.1.2 k⟩, k.tupT h.2.1, Reps.keep es h.2.2 k⟩
  go := fun i H h lt => by
    rw [pairsD_length] at lt
    exact ⟨xs, ys, xs[i]'(by rw [h.1.2.length]; omega), ys[i]'(by rw [h.2.2.length]; omega), h.1.1, h.2.1, by simp, by simp⟩
  yld := fun i H x H' h lt y => by
    obtain ⟨T, x', y', rfl, nT, rfl, z1, z2⟩ := y
    obtain ⟨d, e1, rd⟩ := Rep.pureItem h.1.2 (z1 xs h.1.1)
    obtain ⟨e, e2, re⟩ := Rep.pureItem h.2.2 (z2 ys h.2.1)
    exact ⟨⟨.tup [d, e], pairsD_get e1 e2, pair_tup rd re nT⟩, .newF nT Live.e0 Sub.rfl⟩
  stop := fun H h => ⟨xs, ys, h.1.1, h.2.1, by rw [pairsD_length, h.1.2.length, h.2.2.length]; omega⟩
end
/-! ### iterables -/
inductive Sq where
  | l (ds : List D) | t (ds : List D)
/-- frozen, as a list or a tuple -/
def sqOf : D → Option Sq
  | .lst false ds => some (.l ds)
  | .rol ds => some (.l ds)
  | .tup ds => if pures? ds then some (.t ds) else none
  | _ => none
section
variable {K : PySem.W.Frag} {mg : Str → Option Value} {H : Hp}
theorem Rep.sqL {d : D} {ds : List D} {v : V} {A : AS} (h : Rep K mg H d v A) (e : sqOf d = some (.l ds)) : ∃ a xs, v = .ref a ∧ RoL K H a xs ∧ Reps K mg H ds xs E0 := by
  cases d with
  | lst m ds' =>
    cases m with
    | true => cases e
    | false => cases e; obtain ⟨a, xs, rfl, q, r⟩ := h; exact ⟨a, xs, rfl, .inl q, r⟩
  | rol ds' => cases e; exact h
  | tup ds' => simp only [sqOf] at e; split at e <;> cases e
  | _ => cases e
theorem Rep.sqT {d : D} {ds : List D} {v : V} {A : AS} (h : Rep K mg H d v A) (e : sqOf d = some (.t ds)) : ∃ a xs, v = .ref a ∧ SqT K H a xs ∧ Reps K mg H ds xs E0 := by
  cases d with
  | lst m ds' => cases m <;> cases e
  | tup ds' =>
    simp only [sqOf] at e
    split at e
    · rename_i p
      cases e
      obtain ⟨a, xs, rfl, q, r⟩ := h
      exact ⟨a, xs, rfl, q, Reps.fixed _ p r⟩
    · cases e
  | _ => cases e
end
def Sq.ds : Sq → List D
  | .l ds => ds
  | .t ds => ds
section
variable {X : Cx} {eC : Addr} {W : WX} {S S1 S2 : List Nat} {tg : Expr} {pos : Pos}
/-- over a list or tuple; it is frozen first -/
def itM (m : EM) : M (List D) := fun ρ => (fzM m ρ).bind fun d ρ1 => Res.of ((sqOf d).map Sq.ds) ρ1
theorem vi_seq {e : Expr} {m : EM} (h : VE X eC W S e m) : VI X eC W S tg e (itM m) := PI.imp (PI.or (pi_list (ve_fzM h)) (pi_tup (ve_fzM h))) fun σ H R q => by
  obtain ⟨ρ, F, er, q⟩ := q
  unfold itM at q
  cases e1 : fzM m ρ with
  | bad => rw [e1] at q; exact q.elim
  | ex z ρ1 =>
    rw [e1] at q
    refine .inl ⟨ρ, F, er, ?_⟩
    rw [e1]
    exact q
  | ok d ρ1 =>
    rw [e1] at q
    simp only [Res.bind_ok] at q
    cases e2 : sqOf d with
    | none => rw [e2] at q; exact q.elim
    | some s =>
      rw [e2] at q
      cases s with
      | l ds =>
        refine .inl ⟨ρ, F, er, ?_⟩
        rw [e1]
        intro v H1 F1 T er1 r g
        obtain ⟨a, xs, rfl, ro, rs⟩ := r.sqL e2
        exact ⟨a, rfl, ⟨xs, ro.sq⟩, q _ H1 F1 _ er1 g.toAft (walk_list ro rs) ⟨ro, rs⟩⟩
      | t ds =>
        refine .inr ⟨ρ, F, er, ?_⟩
        rw [e1]
        intro v H1 F1 T er1 r g
        obtain ⟨a, xs, rfl, ro, rs⟩ := r.sqT e2
        exact ⟨a, rfl, ⟨xs, ro⟩, q _ H1 F1 _ er1 g.toAft (walk_tup ro rs) ⟨ro, rs⟩⟩
/-- range(n), range(a, b) -/
def small62 (i : Int) : Bool := decide (-(2 ^ 62) ≤ i) && decide (i < 2 ^ 62)
def rng1 : List D → Option (List D)
  | [.int j] => if small62 j then some (rangeD 0 j.toNat) else none
  | _ => none
def rng2 : List D → Option (List D)
  | [.int i, .int j] => if small62 i && small62 j then some (rangeD i (j - i).toNat) else none
  | _ => none
def rngM (f : List D → Option (List D)) (ms : M (List D)) : M (List D) := fun ρ => (ms ρ).bind fun ds ρ1 => Res.of (f ds) ρ1
theorem tvs_it {K : PySem.W.Frag} {mg : Str → Option Value} {σ : L2.St} {H : Hp} {R : It → Hp → Prop} {f : List D → Option (List D)} {ms : M (List D)} {Q : List V → Hp → Prop} (q : TVI K mg eC W S (rngM f ms) σ H R)
    (h : ∀ ds its vs H1 T, f ds = some its → Reps K mg H1 ds vs T → (∀ J hold, Walk K mg J hold its → hold H1 → R J H1) → Q vs H1) : TVs K mg eC W S ms σ H Q := by
  obtain ⟨ρ, F, er, q⟩ := q
  refine ⟨ρ, F, er, ?_⟩
  unfold rngM at q
  cases e1 : ms ρ with
  | bad => rw [e1] at q; exact q
  | ex z ρ1 => rw [e1] at q; exact q
  | ok ds ρ1 =>
    rw [e1] at q
    simp only [Res.bind_ok] at q
    cases e2 : f ds with
    | none => rw [e2] at q; exact q.elim
    | some its =>
      rw [e2] at q
      exact fun vs H1 F1 T er1 r g => h ds its vs H1 T e2 r fun J hold w hh => q J H1 F1 hold er1 g.toAft w hh
theorem vi_range1 {a : Expr} {p : Pos} {ms : M (List D)} (hg : Gl X "range") (hm : X.mg "range" = none) (ha : VA X eC W S [a] ms) (hs : starEach [a] X.env = [(false, eval a X.env)] := by rfl) : VI X eC W S tg (.Call (.Name "range" p) [a] [] pos) (rngM rng1 ms) :=
  PI.imp (pi_range1 hg hm ha hs) fun σ H R q => tvs_it q fun ds its vs H1 T e r k => by
    unfold rng1 at e
    split at e
    · rename_i j
      split at e
      · rename_i h
        cases e
        simp only [small62, Bool.and_eq_true, decide_eq_true_eq] at h
        obtain ⟨v, rfl, rv⟩ := r.one
        cases (show v = .int j from rv)
        exact ⟨j, rfl, h.1, h.2, k _ _ walk_range trivial⟩
      · cases e
    · cases e
theorem Reps.two {K : PySem.W.Frag} {mg : Str → Option Value} {H : Hp} {d e : D} {vs : List V} {A : AS} (h : Reps K mg H [d, e] vs A) : ∃ x y, vs = [x, y] ∧ Rep K mg H d x A ∧ Rep K mg H e y A := by
  obtain ⟨x, ys, A1, A2, rfl, s1, s2, j, h1, h2⟩ := h
  obtain ⟨y, ey, h3⟩ := h2.one
  subst ey
  exact ⟨x, y, rfl, h1.mono s1, h3.mono s2⟩
theorem vi_range2 {a b : Expr} {p : Pos} {ms : M (List D)} (hg : Gl X "range") (hm : X.mg "range" = none) (ha : VA X eC W S [a, b] ms) (hs : starEach [a, b] X.env = [(false, eval a X.env), (false, eval b X.env)] := by rfl) (hs2 : starEach [b] X.env = [(false, eval b X.env)] := by rfl) :
    VI X eC W S tg (.Call (.Name "range" p) [a, b] [] pos) (rngM rng2 ms) :=
  PI.imp (pi_range2 hg hm ha hs hs2) fun σ H R q => tvs_it q fun ds its vs H1 T e r k => by
    unfold rng2 at e
    split at e
    · rename_i i j
      split at e
      · rename_i h
        cases e
        simp only [small62, Bool.and_eq_true, decide_eq_true_eq] at h
        obtain ⟨x, y, rfl, rx, ry⟩ := r.two
        cases (show x = .int i from rx)
        cases (show y = .int j from ry)
        exact ⟨i, j, rfl, ⟨h.1.1, h.1.2, h.2.1, h.2.2⟩, k _ _ walk_range trivial⟩
      · cases e
    · cases e
end
/-! ### targets -/
/-- a target's reading is what g tells -/
def TgOk (K : PySem.W.Frag) (mg : Str → Option Value) (SA : List Nat) (t : TG) (g : D → List D → Option (List D)) : Prop :=
  ∀ d v T ρ ρ' F σ H Q, g d ρ = some ρ' → ER K mg H ρ σ F → Rep K mg H d v T → Live H T → (∀ j, Dj T (F j)) →
    (∀ σ' F', ER K mg H ρ' σ' F' → (∀ j a, F' j a → F j a ∨ T a) → Agree SA σ σ' → Q σ' H) → t v σ H Q
def TgsOk (K : PySem.W.Frag) (mg : Str → Option Value) (SA : List Nat) (t : TGs) (g : List D → List D → Option (List D)) : Prop :=
  ∀ ds vs T ρ ρ' F σ H Q, g ds ρ = some ρ' → ER K mg H ρ σ F → Reps K mg H ds vs T → Live H T → (∀ j, Dj T (F j)) →
    (∀ σ' F', ER K mg H ρ' σ' F' → (∀ j a, F' j a → F j a ∨ T a) → Agree SA σ σ' → Q σ' H) → t vs σ H Q
def VG (X : Cx) (SA : List Nat) (tg : Expr) (g : D → List D → Option (List D)) : Prop := ∃ t : TG, PG X tg t ∧ TgOk X.K X.mg SA t g
def VGs (X : Cx) (SA : List Nat) (ts : List Expr) (g : List D → List D → Option (List D)) : Prop := ∃ t : TGs, PGs X ts t ∧ TgsOk X.K X.mg SA t g
section
variable {K : PySem.W.Frag} {mg : Str → Option Value} {SA : List Nat}
def tgN (i : Nat) : D → List D → Option (List D) := fun d ρ => if i < ρ.length then some (ρ.set i d) else none
theorem tk_name {i : Nat} (hi : i ∈ SA) : TgOk K mg SA (gName i) (tgN i) := fun d v T ρ ρ' F σ H Q e er r l dj k => by
  unfold tgN at e
  split at e
  · rename_i lt
    cases e
    refine k _ _ (er.put lt r l dj) (fun j a h => ?_) (.set hi)
    by_cases z : j = i
    · rw [if_pos z] at h; exact .inr h
    · rw [if_neg z] at h; exact .inl h
  · cases e
def tgNil : List D → List D → Option (List D)
  | [], ρ => some ρ
  | _, _ => none
def tgCons (g : D → List D → Option (List D)) (gs : List D → List D → Option (List D)) : List D → List D → Option (List D)
  | d :: ds, ρ => (g d ρ).bind (gs ds)
  | [], _ => none
theorem tks_nil : TgsOk K mg SA gNil tgNil := fun ds vs T ρ ρ' F σ H Q e er r l dj k => by
  cases ds with
  | nil => cases e; exact ⟨r, k σ F er (fun _ _ => .inl) .refl⟩
  | cons => cases e
theorem tks_cons {t : TG} {ts : TGs} {g : D → List D → Option (List D)} {gs : List D → List D → Option (List D)} (k1 : TgOk K mg SA t g) (k2 : TgsOk K mg SA ts gs) : TgsOk K mg SA (gCons t ts) (tgCons g gs) := fun ds vs T ρ ρ' F σ H Q e er r l dj k => by
  cases ds with
  | nil => cases e
  | cons d ds =>
    simp only [tgCons, Option.bind_eq_some_iff] at e
    obtain ⟨ρ1, e1, e2⟩ := e
    obtain ⟨x, ys, A1, A2, rfl, s1, s2, d12, r1, r2⟩ := r
    refine ⟨x, ys, rfl, k1 d x A1 ρ ρ1 F σ H _ e1 er r1 (l.sub s1) (fun j => (dj j).sub s1 Sub.rfl) fun σ1 F1 er1 f1 a1 => ?_⟩
    refine k2 ds ys A2 ρ1 ρ' F1 σ1 H _ e2 er1 r2 (l.sub s2) (fun j a h g => ?_) fun σ2 F2 er2 f2 a2 => k σ2 F2 er2 (fun j a h => ?_) (a1.trans a2)
    · rcases f1 j a g with g | g
      · exact dj j a (s2 a h) g
      · exact d12 a g h
    · rcases f2 j a h with h | h
      · exact (f1 j a h).imp id (s1 a)
      · exact .inr (s2 a h)
def tgTup (n : Nat) (gs : List D → List D → Option (List D)) : D → List D → Option (List D)
  | .tup ds, ρ => if ds.length = n then gs ds ρ else none
  | _, _ => none
theorem tk_tup {ts : TGs} {gs : List D → List D → Option (List D)} {n : Nat} (kk : TgsOk K mg SA ts gs) : TgOk K mg SA (gTup K n ts) (tgTup n gs) := fun d v T ρ ρ' F σ H Q e er r l dj q => by
  unfold tgTup at e
  split at e
  · split at e
    · rename_i hl
      obtain ⟨a, xs, rfl, s, r⟩ := r
      exact ⟨a, xs, rfl, s, by rw [r.length]; exact hl, kk _ xs T ρ ρ' F σ H Q e er r l dj q⟩
    · cases e
  · cases e
end
section
variable {X : Cx} {SA : List Nat} {pos : Pos}
theorem vg_name {i : Nat} {x : Str} (hi : i ∈ SA) (hN : X.N.Nodup) (hx : X.N[i]? = some x) (hl : Loc X.env.scope x) (hf : X.fn x = true ∨ X.env.scope.names.lookup x = some .local := by first | exact .inl rfl | exact .inr rfl) : VG X SA (.Name x pos) (tgN i) :=
  ⟨_, pg_name hN hx hl hf, tk_name hi⟩
theorem vgs_nil : VGs X SA [] tgNil := ⟨_, pgs_nil, tks_nil⟩
theorem vgs_cons {e : Expr} {es : List Expr} {g : D → List D → Option (List D)} {gs : List D → List D → Option (List D)} (h1 : VG X SA e g) (h2 : VGs X SA es gs)
    (hs : (assignEach (e :: es) X.env).map (·.2) = assign e X.env :: (assignEach es X.env).map (·.2) := by rfl) : VGs X SA (e :: es) (tgCons g gs) := by
  obtain ⟨t1, p1, k1⟩ := h1
  obtain ⟨t2, p2, k2⟩ := h2
  exact ⟨_, pgs_cons p1 p2 hs, tks_cons k1 k2⟩
theorem vg_tup {es : List Expr} {k : Nat} {gs : List D → List D → Option (List D)} {n : Nat} (hc : X.calm = true) (h : VGs X SA es gs)
    (hn : (assignEach es X.env).length = n := by rfl) (hst : (assignEach es X.env).findIdx? (·.1) = none := by rfl) : VG X SA (.Tuple es k pos) (tgTup n gs) := by
  obtain ⟨t, p, kk⟩ := h
  exact ⟨_, pg_tup hc p hn hst, tk_tup kk⟩
end
end VS
set_option Elab.async false
set_option linter.all false
set_option maxRecDepth 100000
set_option maxHeartbeats 4000000
/-! VS13: for, while, zip, enumerate; stores. -/
namespace VS
open PySem PySem.Spec PyProof.Rows L2
theorem AftS.kp0 {K : PySem.W.Frag} {mg : Str → Option Value} {H H' : Hp} {ρ : List D} {σ : L2.St} {F F' : Nat → AS} (g : AftS H F H' F') (er : ER K mg H ρ σ F) : Kp E0 H H' := fun a o e h =>
  g.keep a o e fun j x => h.elim id fun f => (er.live j).nfix e f x
def forM (g : D → List D → Option (List D)) (b : SM) : List D → SM
  | [], ρ => .ok .nx ρ
  | d :: ds, ρ => (Res.of (g d ρ) ρ).bind fun ρ1 _ => (b ρ1).bind fun f ρ2 => match f with
    | .nx => forM g b ds ρ2
    | .ct => forM g b ds ρ2
    | .bk => .ok .nx ρ2
    | .ret d => .ok (.ret d) ρ2
def forS (it : M (List D)) (g : D → List D → Option (List D)) (b : SM) : SM := fun ρ => (it ρ).bind fun ds ρ1 => forM g b ds ρ1
section
variable {X : Cx} {eC : Addr} {W : WX} {S S1 S2 SA : List Nat} {pos : Pos}
theorem tvi_s {K : PySem.W.Frag} {mg : Str → Option Value} {σ : L2.St} {H : Hp} {E : Ends} {it : M (List D)} {f : List D → List D → Res Fl} {R : It → Hp → Prop} (q : TVS K mg eC W SA (fun ρ => (it ρ).bind f) E σ H)
    (h : ∀ ds ρ1 J H1 F1 hold, ER K mg H1 ρ1 σ F1 → Walk K mg J hold ds → hold H1 → CS K mg eC W SA E σ H1 F1 (f ds ρ1) → R J H1) : TVI K mg eC W S it σ H R := by
  obtain ⟨ρ, F, er, q⟩ := q
  refine ⟨ρ, F, er, ?_⟩
  dsimp only at q
  cases e1 : it ρ with
  | bad => rw [e1] at q; exact q
  | ex z ρ1 => rw [e1] at q; exact fun dd H' F' er' x g => q dd σ H' F' er' x g.s .refl
  | ok ds ρ1 =>
    rw [e1] at q
    exact fun J H1 F1 hold er1 g w hh => h ds ρ1 J H1 F1 hold er1 w hh (CS.after q g.s .refl)
theorem for_core {K : PySem.W.Frag} {mg : Str → Option Value} {E : Ends} {σ : L2.St} {H : Hp} {F : Nat → AS} {J : It} {hold : Hp → Prop} {ds ρ : List D} {g : D → List D → Option (List D)} {b : SM} {gt : TG}
    (kt : ∀ d v T ρ ρ' F σ H Q, g d ρ = some ρ' → ER K mg H ρ σ F → Rep K mg H d v T → Live H T → (∀ j, Dj T (F j)) → (∀ σ' F', ER K mg H ρ' σ' F' → (∀ j a, F' j a → F j a ∨ T a) → Agree SA σ σ' → Q σ' H) → gt v σ H Q)
    (w : Walk K mg J hold ds) (er : ER K mg H ρ σ F) (hh : hold H) (q : CS K mg eC W SA E σ H F (forM g b ds ρ)) :
    ∃ Wi : Nat → Nat → L2.St → Hp → Prop, (∃ m, Wi 0 m σ H) ∧ ∀ i m σ H, Wi i m σ H →
      (J.stop i H ∧ E.nx σ H) ∨ (J.go i H ∧ ∃ N : L2.St → Hp → Prop, (∀ σ' H', N σ' H' → ∃ m', m' < m ∧ Wi (i + 1) m' σ' H') ∧ ∀ x H', J.yld i H x H' → gt x σ H' fun σ2 H2 => TVS K mg eC W SA b { E with nx := N, ct := N, bk := E.nx } σ2 H2) := by
  refine ⟨fun i m σ1 H1 => m = ds.length - i ∧ i ≤ ds.length ∧ hold H1 ∧ ∃ ρ1 F1, ER K mg H1 ρ1 σ1 F1 ∧ CS K mg eC W SA E σ1 H1 F1 (forM g b (ds.drop i) ρ1), ⟨ds.length, rfl, Nat.zero_le _, hh, ρ, F, er, by simpa using q⟩, ?_⟩
  rintro i m σ1 H1 ⟨rfl, hi, h1, ρ1, F1, er1, q1⟩
  by_cases hlt : i < ds.length
  · refine .inr ⟨w.go i H1 h1 hlt, fun σ2 H2 => hold H2 ∧ ∃ ρ2 F2, ER K mg H2 ρ2 σ2 F2 ∧ CS K mg eC W SA E σ2 H2 F2 (forM g b (ds.drop (i + 1)) ρ2), fun σ2 H2 ⟨h2, ρ2, F2, er2, q2⟩ => ⟨ds.length - (i + 1), by omega, rfl, hlt, h2, ρ2, F2, er2, q2⟩, fun x H2 y => ?_⟩
    obtain ⟨⟨d, e, r⟩, t⟩ := w.yld i H1 x H2 h1 hlt y
    have ed : ds.drop i = d :: ds.drop (i + 1) := by
      rw [List.drop_eq_getElem_cons hlt]
      have : ds[i] = d := by
        have := List.getElem?_eq_getElem hlt
        rw [e] at this; exact (Option.some.inj this).symm
      rw [this]
    rw [ed] at q1
    have er2 := er1.step Live.e0 (fun _ => Dj.e0) t
    have g2 : AftS H1 F1 H2 F1 := ⟨fun a o e n => t.keep a o e id, fun j a h => .inl ⟨j, h⟩, t.dom⟩
    unfold forM at q1
    cases e1 : g d ρ1 with
    | none => rw [e1] at q1; exact q1.elim
    | some ρ2 =>
      rw [e1] at q1
      simp only [Res.of_some, Res.bind_ok] at q1
      refine kt d x E0 ρ1 ρ2 F1 σ1 H2 _ e1 er2 r Live.e0 (fun _ => Dj.e0) fun σ3 F3 er3 f3 a3 => ⟨ρ2, F3, er3, ?_⟩
      have g3 : AftS H1 F1 H2 F3 := g2.trans ⟨fun a o e _ => e, fun j a h => .inl ((f3 j a h).elim (fun h => ⟨j, h⟩) fun h => h.elim), fun _ e => e⟩
      have h2 : hold H2 := w.keep H1 H2 h1 (g3.kp0 er1)
      cases e2 : b ρ2 with
      | bad => rw [e2] at q1; exact q1
      | ex z ρ3 => rw [e2] at q1; exact fun dd σ' H' F' er' hx g' a' => q1 dd σ' H' F' er' hx (g3.trans g') (a3.trans a')
      | ok f ρ3 =>
        rw [e2] at q1
        simp only [Res.bind_ok] at q1
        cases f with
        | nx => exact fun σ' H' F' er' g' a' => ⟨w.keep H2 H' h2 (g'.kp0 er3), ρ3, F', er', CS.after q1 (g3.trans g') (a3.trans a')⟩
        | ct => exact fun σ' H' F' er' g' a' => ⟨w.keep H2 H' h2 (g'.kp0 er3), ρ3, F', er', CS.after q1 (g3.trans g') (a3.trans a')⟩
        | bk => exact fun σ' H' F' er' g' a' => q1 σ' H' F' er' (g3.trans g') (a3.trans a')
        | ret d' => exact fun v σ' H' F' T er' rv g' a' => q1 v σ' H' F' T er' rv (GotS.trans g3 g') (a3.trans a')
  · have e : i = ds.length := by omega
    subst e
    rw [List.drop_length] at q1
    exact .inl ⟨w.stop H1 h1, q1 σ1 H1 F1 er1 .refl .refl⟩
theorem vs_for {tg iter : Expr} {body : List Stmt} {it : M (List D)} {g : D → List D → Option (List D)} {b : SM} (hp : PassesOwn (model X.prog X.w) X.A X.env X.xe) (hc : X.calm = true) (hi : VI X eC W S tg iter it) (hg : VG X SA tg g) (hb : VSs X eC W SA body b)
    (hs : ∀ x, foldedSetIterable iter X.env x = pure x := by intro _; rfl) : VS X eC W SA (.For tg iter body [] pos) (forS it g b) := by
  obtain ⟨gt, pg, kt⟩ := hg
  exact PS.imp (ps_for hp hc hi pg hb hs) fun E σ H q => tvi_s q fun ds ρ1 J H1 F1 hold er1 w hh q => for_core kt w er1 hh q
/-- while: told with a number of turns that is enough -/
def whileM (t : M Bool) (b : SM) : Nat → SM
  | 0, _ => .bad
  | n + 1, ρ => (t ρ).bind fun c ρ1 => if c = true then ((b ρ1).bind fun f ρ2 => match f with
    | .nx => whileM t b n ρ2
    | .ct => whileM t b n ρ2
    | .bk => .ok .nx ρ2
    | .ret d => .ok (.ret d) ρ2) else .ok .nx ρ1
def whileS (fuel : List D → Nat) (t : M Bool) (b : SM) : SM := fun ρ => whileM t b (fuel ρ) ρ
theorem vs_while {c : Expr} {body : List Stmt} {t : M Bool} {b : SM} (fuel : List D → Nat) (hp : PassesOwn (model X.prog X.w) X.A X.env X.xe) (hc : VT X eC W S c t) (hb : VSs X eC W SA body b) : VS X eC W SA (.While c body [] pos) (whileS fuel t b) :=
  PS.imp (ps_while hp hc hb) fun E σ H ⟨ρ, F, er, q⟩ => by
    refine ⟨fun n σ1 H1 => ∃ ρ1 F1, ER X.K X.mg H1 ρ1 σ1 F1 ∧ CS X.K X.mg eC W SA E σ1 H1 F1 (whileM t b n ρ1), ⟨fuel ρ, ρ, F, er, q⟩, ?_⟩
    rintro n σ1 H1 ⟨ρ1, F1, er1, q1⟩
    cases n with
    | zero => exact q1.elim
    | succ n =>
      unfold whileM at q1
      refine ⟨ρ1, F1, er1, ?_⟩
      cases e1 : t ρ1 with
      | bad => rw [e1] at q1; exact q1
      | ex z ρ2 => rw [e1] at q1; exact fun dd H' F' er' x g => q1 dd σ1 H' F' er' x g.s .refl
      | ok c ρ2 =>
        rw [e1] at q1
        intro H2 F2 er2 g2
        simp only [Res.bind_ok] at q1
        cases c with
        | false =>
          rw [if_neg Bool.false_ne_true] at q1 ⊢
          exact q1 σ1 H2 F2 er2 g2.s .refl
        | true =>
          rw [if_pos rfl] at q1 ⊢
          refine ⟨fun σ2 H2 => ∃ ρ1 F1, ER X.K X.mg H2 ρ1 σ2 F1 ∧ CS X.K X.mg eC W SA E σ2 H2 F1 (whileM t b n ρ1), fun σ' H' h => ⟨n, Nat.lt_succ_self _, h⟩, ρ2, F2, er2, ?_⟩
          cases e2 : b ρ2 with
          | bad => rw [e2] at q1; exact q1
          | ex z ρ3 => rw [e2] at q1; exact fun dd σ' H' F' er' hx g' a' => q1 dd σ' H' F' er' hx (g2.s.trans g') a'
          | ok f ρ3 =>
            rw [e2] at q1
            simp only [Res.bind_ok] at q1
            cases f with
            | nx => exact fun σ' H' F' er' g' a' => ⟨ρ3, F', er', CS.after q1 (g2.s.trans g') a'⟩
            | ct => exact fun σ' H' F' er' g' a' => ⟨ρ3, F', er', CS.after q1 (g2.s.trans g') a'⟩
            | bk => exact fun σ' H' F' er' g' a' => q1 σ' H' F' er' (g2.s.trans g') a'
            | ret d' => exact fun v σ' H' F' T er' rv g' a' => q1 v σ' H' F' T er' rv (GotS.trans g2.s g') a'
/-- target = value, the target names -/
def asgM (g : D → List D → Option (List D)) (m : EM) : SM := fun ρ => (m ρ).bind fun d ρ1 => (Res.of (g d ρ1) ρ1).bind fun ρ2 _ => .ok .nx ρ2
theorem vs_asg {tg e : Expr} {g : D → List D → Option (List D)} {m : EM} (h : VE X eC W S e m) (hg : VG X SA tg g) (hs : swapsWithSole [tg] e pos.line X.env = pure false := by rfl) (hw : swappedStores [tg] e X.env = pure none := by rfl)
    (h1 : (assignEach [tg] X.env).map (·.2) = [assign tg X.env] := by rfl) : VS X eC W SA (.Assign [tg] e pos) (asgM g m) := by
  obtain ⟨gt, pg, kt⟩ := hg
  exact PS.imp (ps_asg h pg hs hw h1) fun E σ H q => tv_s q fun d ρ1 v H1 F1 T er1 r dj l _ ⟨F0, H0, q, ga, new⟩ => by
    cases e1 : g d ρ1 with
    | none => rw [e1] at q; exact q.elim
    | some ρ2 =>
      rw [e1] at q
      refine kt d v T ρ1 ρ2 F1 σ H1 _ e1 er1 r l dj fun σ2 F2 er2 f2 a2 => q σ2 H1 F2 er2 ⟨ga.keep, fun j a h => ?_, ga.dom⟩ a2
      rcases f2 j a h with h | h
      · exact ga.sub j a h
      · exact new a h
/-! ### zip, enumerate -/
/-- frozen lists -/
def roOf : D → Option (List D)
  | .lst false ds => some ds
  | .rol ds => some ds
  | _ => none
theorem Rep.ro {K : PySem.W.Frag} {mg : Str → Option Value} {H : Hp} {d : D} {ds : List D} {v : V} {A : AS} (h : Rep K mg H d v A) (e : roOf d = some ds) : ∃ a xs, v = .ref a ∧ RoL K H a xs ∧ Reps K mg H ds xs E0 := by
  cases d with
  | lst m ds' =>
    cases m with
    | true => cases e
    | false => cases e; obtain ⟨a, xs, rfl, q, r⟩ := h; exact ⟨a, xs, rfl, .inl q, r⟩
  | rol ds' => cases e; exact h
  | _ => cases e
def enumI : List D → Option (List D)
  | [d] => (roOf d).map enumD
  | _ => none
theorem vi_enum {a : Expr} {elts : List Expr} {kk : Nat} {tpos p : Pos} {ms : M (List D)} (hg : Gl X "enumerate") (hm : X.mg "enumerate" = none) (ha : VA X eC W S [a] ms) (hs : starEach [a] X.env = [(false, eval a X.env)] := by rfl) :
    VI X eC W S (.Tuple elts kk tpos) (.Call (.Name "enumerate" p) [a] [] pos) (rngM enumI ms) := PI.imp (pi_enum hg hm ha hs) fun σ H R q => tvs_it q fun ds its vs H1 T e r k => by
    unfold enumI at e
    split at e
    · simp only [Option.map_eq_some_iff] at e
      obtain ⟨es, e, rfl⟩ := e
      obtain ⟨v, rfl, rv⟩ := r.one
      obtain ⟨b, xs, rfl, ro, rs⟩ := rv.ro e
      exact ⟨b, xs, rfl, ro.sq, k _ _ (walk_enum ro rs) ⟨ro, rs⟩⟩
    · cases e
def zipI : List D → Option (List D)
  | [d, e] => match sqOf d, sqOf e with
    | some (.l ds), some (.l es) => some (pairsD ds es)
    | some (.t ds), some (.t es) => some (pairsD ds es)
    | _, _ => none
  | _ => none
theorem vi_zip {a b : Expr} {elts : List Expr} {kk : Nat} {tpos p : Pos} {ms : M (List D)} (hg : Gl X "zip") (hm : X.mg "zip" = none) (ha : VA X eC W S [a, b] ms)
    (hs : starEach [a, b] X.env = (false, eval a X.env) :: starEach [b] X.env := by rfl) (hpl : (backTo pos (starEach [b] X.env)).any (·.1) = false := by rfl) :
    VI X eC W S (.Tuple elts kk tpos) (.Call (.Name "zip" p) [a, b] [] pos) (rngM zipI ms) := PI.imp (RZ.pi_zipA hg hm ha hs hpl) fun σ H R q => tvs_it q fun ds its vs H1 T e r k => by
    unfold zipI at e
    split at e
    · split at e
      · rename_i e1 e2
        cases e
        obtain ⟨x, y, rfl, rx, ry⟩ := r.two
        obtain ⟨c, xs, rfl, ro, rs⟩ := rx.sqL e1
        obtain ⟨c', ys, rfl, ro', rs'⟩ := ry.sqL e2
        exact ⟨c, c', xs, ys, rfl, .inl ⟨ro.sq, ro'.sq, k _ _ (walk_zipL ro rs ro' rs') ⟨⟨ro, rs⟩, ro', rs'⟩⟩⟩
      · rename_i e1 e2
        cases e
        obtain ⟨x, y, rfl, rx, ry⟩ := r.two
        obtain ⟨c, xs, rfl, ro, rs⟩ := rx.sqT e1
        obtain ⟨c', ys, rfl, ro', rs'⟩ := ry.sqT e2
        exact ⟨c, c', xs, ys, rfl, .inr ⟨ro, ro', k _ _ (walk_zipT ro rs ro' rs') ⟨⟨ro, rs⟩, ro', rs'⟩⟩⟩
      · cases e
    · cases e
end
end VS
set_option Elab.async false
set_option linter.all false
set_option maxRecDepth 100000
set_option maxHeartbeats 4000000
/-! VS14: stores into places, methods of lists. -/
namespace VS
open PySem PySem.Spec PyProof.Rows L2
section
variable {K : PySem.W.Frag} {mg : Str → Option Value} {H H' : Hp} {ρ : List D} {σ : L2.St} {F : Nat → AS} {i : Nat} {ps : Path} {d0 c0 : D}
/-- a place, to be told anew -/
theorem plc_set (er : ER K mg H ρ σ F) (e1 : ρ[i]? = some d0) (e2 : getP d0 ps = some c0) (hc : has? c0 = true) :
    ∃ x A1, PlcAt K mg H σ i ps x ∧ Rep K mg H c0 x A1 ∧ Sub A1 (F i) ∧ ∀ (T : AS), (∀ j, Dj T (F j)) → Live H T → ∀ H' T' c', AftT (Un2 A1 T) H H' T' → Rep K mg H' c' x T' →
      ∃ F', ER K mg H' (ρ.set i (putP d0 ps c')) σ F' ∧ (∀ j a, F' j a → (F j a ∧ ¬ A1 a) ∨ T' a) ∧ ∀ j, j ≠ i → F' j = F j := by
  obtain ⟨o, e3, r⟩ := er.get i d0 e1
  obtain ⟨v0, rfl, r⟩ := has_root e2 hc r
  obtain ⟨x, A1, A2, a, s1, s2, d12, r1, r2, kp⟩ := r.path e2
  refine ⟨x, A1, ⟨v0, e3, a⟩, r1, s1, fun T dT lT H' T' c' t r3 => ?_⟩
  have l1 : Live H A1 := (er.live i).sub s1
  have lU := l1.un lT
  have kO : ∀ j, j ≠ i → Kp (F j) H H' := fun j n => t.kp lU fun b h g => g.elim (fun g => er.dj i j (Ne.symm n) b (s1 b g) h) fun g => dT j b g h
  have k2 : Kp A2 H H' := t.kp lU fun b h g => g.elim (fun g => d12 b g h) fun g => dT i b g (s2 b h)
  have d2 : Dj T' A2 := fun b h g => by
    rcases t.sub b h with (z | z) | z
    · exact d12 b z g
    · exact dT i b z (s2 b g)
    · obtain ⟨u, e, _⟩ := er.live i b (s2 b g)
      rw [e] at z; cases z
  have dO : ∀ j, j ≠ i → Dj T' (F j) := fun j n b h g => by
    rcases t.sub b h with (z | z) | z
    · exact er.dj i j (Ne.symm n) b (s1 b z) g
    · exact dT j b z g
    · obtain ⟨u, e, _⟩ := er.live j b g
      rw [e] at z; cases z
  have lt : i < ρ.length := (List.getElem?_eq_some_iff.mp e1).1
  have r4 := Rep.pathFill (Rep.keep _ r2 k2) e2 (kp H' k2) r3 d2
  refine ⟨fun j => if j = i then Un2 A2 T' else F j, ⟨by rw [List.length_set]; exact er.len, fun j c q => ?_, fun j k n => ?_, fun j => ?_⟩, fun j a h => ?_, fun j n => if_neg n⟩
  · by_cases z : j = i
    · subst z
      rw [List.getElem?_set_self lt] at q
      cases q
      exact ⟨some v0, e3, by rw [if_pos rfl]; exact r4⟩
    · rw [List.getElem?_set_ne (Ne.symm z)] at q
      obtain ⟨o, e4, r5⟩ := er.get j c q
      refine ⟨o, e4, ?_⟩
      rw [if_neg z]
      cases o with
      | none => exact r5
      | some v => exact Rep.keep c r5 (kO j z)
  · by_cases z : j = i
    · rw [if_pos z, if_neg (by omega)]
      exact fun b h g => h.elim (fun h => er.dj i k (by omega) b (s2 b h) g) fun h => dO k (by omega) b h g
    · rw [if_neg z]
      by_cases z' : k = i
      · rw [if_pos z']
        exact fun b h g => g.elim (fun g => er.dj j i z b h (s2 b g)) fun g => dO j z b g h
      · rw [if_neg z']; exact er.dj j k n
  · by_cases z : j = i
    · rw [if_pos z]; exact (((er.live i).sub s2).keep k2).un t.live
    · rw [if_neg z]; exact (er.live j).keep (kO j z)
  · dsimp only at h
    by_cases z : j = i
    · rw [if_pos z] at h
      subst z
      exact h.imp (fun h => ⟨s2 a h, fun x => d12 a x h⟩) id
    · rw [if_neg z] at h
      exact .inl ⟨h, fun x => er.dj j i z a h (s1 a x)⟩
/-- an object rewritten at its place -/
theorem AftT.upd {A T : AS} {a : Addr} {o : HO} (i : A a) (m : Mut (some o)) (l : Live H A) (s : Sub T A) : AftT A H (upd H a o) T where
  keep := fun b u e n => by rw [upd_ne (by rintro rfl; exact n i)]; exact e
  sub := fun b h => .inl (s b h)
  live := fun b h => by
    by_cases z : b = a
    · subst z; exact ⟨o, upd_same, m⟩
    · rw [upd_ne z]; exact l b (s b h)
  dom := fun b e => by
    by_cases z : b = a
    · subst z; rw [upd_same] at e; cases e
    · rw [upd_ne z] at e; exact e
theorem kp_upd {A : AS} {a : Addr} {o u : HO} (n : ¬ A a) (e : H a = some u) (m : Mut (some u)) : Kp A H (upd H a o) := fun b w e2 h => by
  have z : b ≠ a := by
    rintro rfl
    rcases h with h | h
    · exact n h
    · rw [e] at e2; cases e2
      cases u <;> first | exact m | exact h
  rw [upd_ne z]; exact e2
end
/-! ### o.f = e -/
def fldPut (f : Str) (v : D) : List Str → List D → List Str × List D
  | g :: ns, d :: ds => if g = f then (g :: ns, v :: ds) else (g :: (fldPut f v ns ds).1, d :: (fldPut f v ns ds).2)
  | _, _ => ([f], [v])
section
variable {K : PySem.W.Frag} {mg : Str → Option Value} {H H' : Hp}
theorem fldPut_ok {f : Str} {d : D} {y : V} {T : AS} (rd : Rep K mg H d y T) : ∀ {fs : List (Str × V)} {ds : List D} {A : AS}, Reps K mg H ds (fs.map (·.2)) A → Dj A T →
    (putF f y fs).map (·.1) = (fldPut f d (fs.map (·.1)) ds).1 ∧ Reps K mg H (fldPut f d (fs.map (·.1)) ds).2 ((putF f y fs).map (·.2)) (Un2 A T)
  | [], ds, A, r, dj => by
    cases ds with
    | nil => exact ⟨rfl, y, [], T, E0, rfl, fun _ => .inr, Sub.e0, Dj.e0r, rd, rfl⟩
    | cons => obtain ⟨x, ys, A1, A2, e, _⟩ := r; cases e
  | (g, z) :: fs, ds, A, r, dj => by
    cases ds with
    | nil => cases r
    | cons c ds =>
      obtain ⟨x, ys, A1, A2, e, s1, s2, d12, r1, r2⟩ := r
      cases e
      unfold putF
      simp only [List.map_cons, fldPut]
      by_cases h : g = f
      · rw [if_pos h, if_pos h]
        exact ⟨rfl, y, _, T, A2, rfl, fun _ => .inr, fun a h => .inl (s2 a h), fun a h g => dj a (s2 a g) h, rd, r2⟩
      · rw [if_neg h, if_neg h]
        obtain ⟨e1, r3⟩ := fldPut_ok rd r2 (dj.sub s2 Sub.rfl)
        refine ⟨by rw [List.map_cons, e1], z, _, A1, Un2 A2 T, rfl, fun a h => .inl (s1 a h), fun a h => h.imp (s2 a) id, fun a h g => g.elim (d12 a h) (dj a (s1 a h)), r1, r3⟩
end
def stFld (i : Nat) (ps : Path) (c f : Str) (m : EM) : SM := fun ρ => (m ρ).bind fun d ρ1 => match ρ1[i]? with
  | some d0 => (match getP d0 ps with
    | some (.obj true c' ns ds) => if c' = c ∧ ns.length < 1000 then .ok .nx (ρ1.set i (putP d0 ps (.obj true c (fldPut f d ns ds).1 (fldPut f d ns ds).2))) else .bad
    | _ => .bad)
  | none => .bad
section
variable {X : Cx} {eC : Addr} {W : WX} {S S1 S2 SA : List Nat} {pos : Pos}
theorem vs_fld {o e : Expr} {i : Nat} {ps : Path} {c f : Str} {m : EM} {pos' : Pos} (hO : VP X o i ps) (h : VE X eC W S e m) (hc : ∀ C, X.mg c = some (.ref C) → Cls X.K C ∧ NoAttr X.K C f)
    (hs : swapsWith e (some (.Attribute o f pos')) pos.line X.env = pure false := by rfl) : VS X eC W SA (.Assign [.Attribute o f pos'] e pos) (stFld i ps c f m) := PS.imp (ps_fld hO h hs) fun E σ H q =>
  tv_s q fun d ρ1 v H1 F1 T er1 r dj l _ ⟨F0, H0, q, g, new⟩ => by
    cases e1 : ρ1[i]? with
    | none => rw [e1] at q; exact q.elim
    | some d0 =>
      rw [e1] at q
      dsimp only at q
      split at q
      · rename_i c' ns ds e2
        split at q
        · rename_i hh
          obtain ⟨rfl, hl⟩ := hh
          obtain ⟨x, A1, at1, r1, s1, k⟩ := plc_set er1 e1 e2 rfl
          obtain ⟨b, C, dx, fs, rfl, mC, z, iA, en, rs⟩ := r1
          obtain ⟨cl, na⟩ := hc C mC
          refine ⟨.ref b, at1, b, C, dx, fs, rfl, z, cl, na, by rw [← en, List.length_map] at hl; exact hl, ?_⟩
          have nT : ¬ T b := fun x => dj i b x (s1 b iA)
          subst en
          have kpT : Kp T H1 (upd H1 b (.ins C dx (putF f v fs))) := kp_upd nT z trivial
          have kpA : Kp (But A1 b) H1 (upd H1 b (.ins C dx (putF f v fs))) := kp_upd (fun x => x.2 rfl) z trivial
          obtain ⟨en2, rs2⟩ := fldPut_ok (f := f) (Rep.keep d r kpT) (Reps.keep ds rs kpA) fun a x y => dj i a y (s1 a x.1)
          have lA1 : Live H1 A1 := (er1.live i).sub s1
          obtain ⟨F', er', f', _⟩ := k T dj l _ (Un2 A1 T) (.obj true c' _ _) (.upd (o := .ins C dx (putF f v fs)) (.inl iA) trivial (lA1.un l) Sub.rfl)
            ⟨b, C, dx, _, rfl, mC, upd_same, .inl iA, en2, rs2.mono fun a x => x.elim (fun x => ⟨.inl x.1, x.2⟩) fun x => ⟨.inr x, fun e => nT (e ▸ x)⟩⟩
          refine q σ _ F' er' ⟨fun a o e n => ?_, fun j a h => ?_, fun a e => g.dom a ?_⟩ .refl
          · have := g.keep a o e n
            rw [upd_ne]
            · exact this
            · rintro rfl
              rcases g.sub i a (s1 a iA) with ⟨k, x⟩ | x
              · exact n k x
              · rw [e] at x; cases x
          · rcases f' j a h with h | h | h
            · exact g.sub j a h.1
            · exact g.sub i a (s1 a h)
            · exact new a h
          · by_cases zz : a = b
            · subst zz; rw [upd_same] at e; cases e
            · rw [upd_ne zz] at e; exact e
        · exact q.elim
      · exact q.elim
end
/-! ### methods of lists -/
def lstP (i : Nat) (ps : Path) (ρ : List D) : Option (D × List D) := (ρ[i]?).bind fun d0 => (getP d0 ps).bind fun c => match c with
  | .lst true ds => some (d0, ds)
  | _ => none
theorem lstP_some {i : Nat} {ps : Path} {ρ : List D} {d0 : D} {ds : List D} (e : lstP i ps ρ = some (d0, ds)) : ρ[i]? = some d0 ∧ getP d0 ps = some (.lst true ds) := by
  simp only [lstP, Option.bind_eq_some_iff] at e
  obtain ⟨d, e1, c, e2, e3⟩ := e
  split at e3
  · cases e3; exact ⟨e1, e2⟩
  · cases e3
/-- a method that rewrites the list: its answer, the items behind -/
def VLm (K : PySem.W.Frag) (mg : Str → Option Value) (r : V → List V → Hp → VK → Prop) (f : List D → List D → Option (D × List D)) : Prop :=
  ∀ ds as d ds' a xs vs A T H Q, f ds as = some (d, ds') → H a = some (.lst xs) → Reps K mg H ds xs A → Reps K mg H as vs T → ¬ A a → ¬ T a → Dj A T → Live H A → Live H T →
    (∀ v xs' T1 A', Rep K mg (upd H a (.lst xs')) d v T1 → Reps K mg (upd H a (.lst xs')) ds' xs' A' → Dj T1 A' → Sub T1 (Un2 A T) → Sub A' (Un2 A T) → Q v (upd H a (.lst xs'))) → r (.ref a) vs H Q
def lmM (i : Nat) (ps : Path) (f : List D → List D → Option (D × List D)) (ms : M (List D)) : EM := fun ρ => if (lstP i ps ρ).isSome = true then (ms ρ).bind fun as ρ1 => match lstP i ps ρ1 with
  | some (d0, ds) => (match f ds as with
    | some (d, ds') => .ok d (ρ1.set i (putP d0 ps (.lst true ds')))
    | none => .bad)
  | none => .bad else .bad
section
variable {X : Cx} {eC : Addr} {W : WX} {S S1 S2 SA : List Nat} {pos : Pos}
theorem tv_lm {K : PySem.W.Frag} {mg : Str → Option Value} {σ : L2.St} {H : Hp} {Q : VK} {i : Nat} {ps : Path} {r : V → List V → Hp → VK → Prop} {f : List D → List D → Option (D × List D)} {ms : M (List D)} {to : TE} (hr : VLm K mg r f) (nS : i ∉ S)
    (ho : ∀ Q : VK, (∃ v, PlcAt K mg H σ i ps v ∧ Q v H) → to σ H Q) (q : TV K mg eC W (S ++ [i]) (lmM i ps f ms) σ H Q) : tBM K "list" r to (TVs K mg eC W S ms) σ H Q := by
  obtain ⟨ρ, F, er, q⟩ := q
  unfold lmM at q
  by_cases c : (lstP i ps ρ).isSome = true
  · rw [if_pos c] at q
    obtain ⟨⟨d0, ds⟩, e⟩ := Option.isSome_iff_exists.mp c
    obtain ⟨e1, e2⟩ := lstP_some e
    obtain ⟨o, e3, rr⟩ := er.get i d0 e1
    obtain ⟨v0, rfl, rr⟩ := has_root e2 rfl rr
    obtain ⟨x, A1, A2, at1, s1, s2, dj12, r1, r2, kp⟩ := rr.path e2
    obtain ⟨b, xs, rfl, z, iA, _⟩ := id r1
    refine ho _ ⟨.ref b, ⟨v0, e3, at1⟩, .inl ⟨rfl, xs, .of z⟩, ρ, F, er, ?_⟩
    cases e4 : ms ρ with
    | bad => rw [e4] at q; exact q
    | ex z ρ1 => rw [e4] at q; exact fun dd H' F' er' x g => q dd H' F' er' x (g.more fun j hj => List.mem_append_left _ hj)
    | ok as ρ1 =>
      rw [e4] at q
      intro vs H1 F1 T er1 rv g
      simp only [Res.bind_ok] at q
      cases e5 : lstP i ps ρ1 with
      | none => rw [e5] at q; exact q.elim
      | some p =>
        obtain ⟨d1, ds1⟩ := p
        rw [e5] at q
        dsimp only at q
        obtain ⟨e6, e7⟩ := lstP_some e5
        obtain ⟨y, B1, ⟨v1, e8, at2⟩, r3, t1, k⟩ := plc_set er1 e6 e7 rfl
        rw [e3] at e8; cases e8
        -- the same list
        have at3 := kp H1 ((g.toAft.kpSlot er nS).sub s2)
        obtain ⟨o', e9, rr'⟩ := er1.get i d1 e6
        rw [e3] at e9; cases e9
        have ey : y = .ref b := PathAt.inj (show Rep K mg H1 d1 v0 (F1 i) from rr') e7 at2 at3
        subst ey
        obtain ⟨b', xs1, eb, z1, iB, rs1⟩ := id r3
        cases eb
        cases e10 : f ds1 as with
        | none => rw [e10] at q; exact q.elim
        | some p =>
          obtain ⟨d, ds'⟩ := p
          rw [e10] at q
          have nT : ¬ T b := fun x => g.dj i b x (t1 b iB)
          have lB : Live H1 B1 := (er1.live i).sub t1
          refine hr ds1 as d ds' b xs1 vs (But B1 b) T H1 Q e10 z1 rs1 rv (fun x => x.2 rfl) nT (fun a x y => g.dj i a y (t1 a x.1)) (lB.sub fun _ h => h.1) g.live fun v xs' T1 A' rd rds d1A sT sA => ?_
          have nb : ∀ {a : Addr}, Un2 (But B1 b) T a → a ≠ b := fun {a} h e => h.elim (fun h => h.2 e) fun h => nT (e ▸ h)
          have rl : Rep K mg (upd H1 b (.lst xs')) (.lst true ds') (.ref b) (fun a => A' a ∨ a = b) := ⟨b, xs', rfl, upd_same, .inr rfl, rds.mono fun a x => ⟨.inl x, nb (sA a x)⟩⟩
          have sub2 : Sub (fun a => A' a ∨ a = b) (Un2 B1 T) := fun a h => h.elim (fun h => (sA a h).imp (fun h => h.1) id) fun h => by rw [h]; exact .inl iB
          obtain ⟨F', er', f', g'⟩ := k T g.dj g.live _ _ (.lst true ds') (.upd (o := .lst xs') (.inl iB) trivial (lB.un g.live) sub2) rl
          have backT : ∀ a, Un2 B1 T a → (∃ k, k ∈ S ++ [i] ∧ F k a) ∨ H a = none := fun a h => by
            rcases h with h | h
            · rcases g.toAft.back (t1 a h) with ⟨k, hk, x⟩ | x | x
              · exact .inl ⟨k, List.mem_append_left _ hk, x⟩
              · exact .inl ⟨i, List.mem_append_right _ (List.mem_singleton.mpr rfl), x⟩
              · exact .inr x
            · exact (g.new a h).imp (fun ⟨k, hk, x⟩ => ⟨k, List.mem_append_left _ hk, x⟩) id
          have sT' : Sub T1 (Un2 B1 T) := fun a h => (sT a h).imp (fun h => h.1) id
          refine q v _ F' T1 er' rd ⟨⟨fun a o e n => ?_, fun j hj a h => ?_, fun j hj a h => ?_, fun a e => ?_⟩, fun a h => backT a (sT' a h), fun j a h x => ?_, ?_⟩
          · have := g.toAft.keep a o e fun j hj => n j (List.mem_append_left _ hj)
            rw [upd_ne]
            · exact this
            · rintro rfl
              rcases backT a (.inl iB) with ⟨k, hk, x⟩ | x
              · exact n k hk x
              · rw [e] at x; cases x
          · have ji : j ≠ i := fun e => hj (List.mem_append_right _ (List.mem_singleton.mpr e))
            rw [g' j ji] at h
            exact g.toAft.same j (fun x => hj (List.mem_append_left _ x)) a h
          · rcases f' j a h with h | h
            · rcases g.toAft.back h.1 with ⟨k, hk, x⟩ | x | x
              · exact .inl ⟨k, List.mem_append_left _ hk, x⟩
              · exact .inl ⟨j, hj, x⟩
              · exact .inr x
            · exact backT a (sub2 a h)
          · by_cases zz : a = b
            · subst zz; rw [upd_same] at e; cases e
            · rw [upd_ne zz] at e; exact g.toAft.dom a e
          · have nab : a ≠ b := nb (sT a h)
            by_cases ji : j = i
            · subst ji
              rcases f' j a x with x | x
              · rcases sT' a h with y | y
                · exact x.2 y
                · exact g.dj j a y x.1
              · exact x.elim (d1A a h) nab
            · rw [g' j ji] at x
              rcases sT' a h with y | y
              · exact er1.dj i j (Ne.symm ji) a (t1 a y) x
              · exact g.dj j a y x
          · exact fun a h => by
              have nab : a ≠ b := nb (sT a h)
              rw [upd_ne nab]
              rcases sT' a h with y | y
              · exact lB a y
              · exact g.live a y
  · rw [if_neg c] at q; exact q.elim
end
end VS
set_option Elab.async false
set_option linter.all false
set_option maxRecDepth 100000
set_option maxHeartbeats 4000000
/-! VS15: list comprehensions. -/
namespace VS
open PySem PySem.Spec PyProof.Rows L2
/-- the comprehension's own slots emptied -/
def wipeD : List Nat → List D → List D
  | [], ρ => ρ
  | v :: vs, ρ => (wipeD vs ρ).set v .un
theorem wipeD_length : ∀ (vs : List Nat) (ρ : List D), (wipeD vs ρ).length = ρ.length
  | [], _ => rfl
  | v :: vs, ρ => by unfold wipeD; rw [List.length_set, wipeD_length vs ρ]
theorem wipeD_get {j : Nat} : ∀ {vs : List Nat} {ρ : List D} {d : D}, (wipeD vs ρ)[j]? = some d → (j ∈ vs ∧ d = .un) ∨ (j ∉ vs ∧ ρ[j]? = some d)
  | [], _, _, h => .inr ⟨by simp, h⟩
  | v :: vs, ρ, d, h => by
    unfold wipeD at h
    by_cases e : v = j
    · subst e
      have lt : v < (wipeD vs ρ).length := by
        have := (List.getElem?_eq_some_iff.mp h).1
        rwa [List.length_set] at this
      rw [List.getElem?_set_self lt] at h
      cases h
      exact .inl ⟨List.mem_cons_self, rfl⟩
    · rw [List.getElem?_set_ne e] at h
      rcases wipeD_get h with ⟨h1, h2⟩ | ⟨h1, h2⟩
      · exact .inl ⟨List.mem_cons_of_mem _ h1, h2⟩
      · exact .inr ⟨fun x => (List.mem_cons.mp x).elim (fun x => e x.symm) h1, h2⟩
theorem wipe_get {σ : L2.St} {j : Nat} : ∀ {vs : List Nat}, (wipe σ vs)[j]? = if j ∈ vs then (if j < σ.length then some none else none) else σ[j]?
  | [] => by simp [wipe]
  | v :: vs => by
    unfold wipe
    by_cases e : v = j
    · subst e
      rw [if_pos List.mem_cons_self, List.getElem?_set]
      simp [wipe_length]
    · rw [List.getElem?_set_ne e, wipe_get]
      by_cases c : j ∈ vs
      · rw [if_pos c, if_pos (List.mem_cons_of_mem _ c)]
      · rw [if_neg c, if_neg fun x => (List.mem_cons.mp x).elim (fun x => e x.symm) c]
theorem wipe_agree {σ σ2 : L2.St} {vs SA : List Nat} (a : Agree SA (wipe σ vs) σ2) (s : ∀ j, j ∈ SA → j ∈ vs) : wipe σ2 vs = wipe σ vs := by
  apply List.ext_getElem?
  intro j
  rw [wipe_get, wipe_get]
  have hl : σ2.length = σ.length := by rw [a.1, wipe_length]
  by_cases c : j ∈ vs
  · rw [if_pos c, if_pos c, hl]
  · rw [if_neg c, if_neg c, a.2 j fun x => c (s j x), wipe_get, if_neg c]
section
variable {K : PySem.W.Frag} {mg : Str → Option Value} {H : Hp} {ρ : List D} {σ : L2.St} {F : Nat → AS} {vs : List Nat}
theorem ER.wipe (er : ER K mg H ρ σ F) : ER K mg H (wipeD vs ρ) (L2.wipe σ vs) (fun j => if j ∈ vs then E0 else F j) := by
  refine ⟨by rw [wipeD_length, wipe_length]; exact er.len, fun j d e => ?_, fun j k n => ?_, fun j => ?_⟩
  · have lt : j < σ.length := by
      have := (List.getElem?_eq_some_iff.mp e).1
      rw [wipeD_length, er.len] at this; exact this
    rcases wipeD_get e with ⟨c, rfl⟩ | ⟨c, e2⟩
    · exact ⟨none, by rw [wipe_get, if_pos c, if_pos lt], rfl⟩
    · obtain ⟨o, e3, r⟩ := er.get j d e2
      exact ⟨o, by rw [wipe_get, if_neg c]; exact e3, by rw [if_neg c]; exact r⟩
  · by_cases c : j ∈ vs
    · rw [if_pos c]; exact Dj.e0
    · rw [if_neg c]
      by_cases c' : k ∈ vs
      · rw [if_pos c']; exact Dj.e0r
      · rw [if_neg c']; exact er.dj j k n
  · by_cases c : j ∈ vs
    · rw [if_pos c]; exact Live.e0
    · rw [if_neg c]; exact er.live j
/-- behind the comprehension: its own slots tell nothing -/
theorem ER.unwipe {ρ' : List D} (er : ER K mg H (wipeD vs ρ') (L2.wipe σ vs) F) : ER K mg H (wipeD vs ρ') σ F := by
  refine ⟨by rw [er.len, wipe_length], fun j d e => ?_, er.dj, er.live⟩
  have lt : j < σ.length := by
    have := (List.getElem?_eq_some_iff.mp e).1
    rw [er.len, wipe_length] at this; exact this
  rcases wipeD_get e with ⟨c, rfl⟩ | ⟨c, e2⟩
  · refine ⟨σ[j], by simp [lt], ?_⟩
    cases σ[j] with
    | none => rfl
    | some v => trivial
  · obtain ⟨o, e3, r⟩ := er.get j d e
    rw [wipe_get, if_neg c] at e3
    exact ⟨o, e3, r⟩
end
def lcLoop (vs : List Nat) (g : D → List D → Option (List D)) (t : M Bool) (m : EM) : List D → List D → M (List D)
  | [], acc, ρ => .ok acc ρ
  | d :: ds, acc, ρ => match g d ρ with
    | none => .bad
    | some ρ1 => match t ρ1 with
      | .ok true ρ2 => (match m ρ2 with
        | .ok y ρ3 => if acc.length < big then lcLoop vs g t m ds (acc ++ [y]) (wipeD vs ρ3) else .bad
        | _ => .bad)
      | .ok false ρ2 => lcLoop vs g t m ds acc (wipeD vs ρ2)
      | _ => .bad
def lcM (vs : List Nat) (it : M (List D)) (g : D → List D → Option (List D)) (t : M Bool) (m : EM) : EM := fun ρ => (it ρ).bind fun ds ρ1 => (lcLoop vs g t m ds [] (wipeD vs ρ1)).bind fun acc ρ2 => .ok (.lst true acc) ρ2
abbrev W0 : WX := fun _ _ _ _ => False
section
variable {X : Cx} {eC : Addr} {W : WX} {S S1 S2 S3 SA : List Nat} {pos : Pos}
theorem big_lt {n : Nat} (h : n < big) : n < sizeLine := by
  have h' : n < 1000000 := h
  rw [sizeLine_eq]; omega
theorem lc_core' {K : PySem.W.Frag} {mg : Str → Option Value} {σ : L2.St} {H0 H : Hp} {F0 F : Nat → AS} {J : It} {hold : Hp → Prop} {vs : List Nat} {ds : List D} {g : D → List D → Option (List D)} {t : M Bool} {m : EM} {gt : TG} {Dd : Addr} {Q : VK} {ρ1 : List D}
    (kt : TgOk K mg SA gt g) (sv : ∀ j, j ∈ SA → j ∈ vs) (w : Walk K mg J hold ds) (er : ER K mg H ρ1 σ F) (hh : hold H) (nD : H Dd = none) (g0 : Aft S1 H0 F0 H F)
    (q : CV K mg eC W (S1 ++ (S2 ++ S3)) σ H0 F0 ((lcLoop vs g t m ds [] (wipeD vs ρ1)).bind fun acc ρ2 => .ok (.lst true acc) ρ2) Q) :
    ∃ Wi : Nat → Nat → Hp → Prop, (∃ n, Wi 0 n (upd H Dd (.lst []))) ∧ ∀ i n H, Wi i n H →
      (J.stop i H ∧ Q (.ref Dd) H) ∨ (J.go i H ∧ ∃ Nx : Hp → Prop, (∀ H', Nx H' → ∃ n', n' < n ∧ Wi (i + 1) n' H') ∧ ∀ x H', J.yld i H x H' → gt x (wipe σ vs) H' fun σ2 H2 => wipe σ2 vs = wipe σ vs ∧ TVt K mg eC W0 S2 t σ2 H2 fun b H3 =>
        if b = true then TV K mg eC W0 S3 m σ2 H3 fun y H4 => ∃ acc, H4 Dd = some (.lst acc) ∧ acc.length < sizeLine ∧ Nx (upd H4 Dd (.lst (acc ++ [y]))) else Nx H3) := by
  let St (H1 : Hp) (ds' : List D) : Prop := hold H1 ∧ ∃ ρ2 F2 T acc xs, ER K mg H1 (wipeD vs ρ2) (wipe σ vs) F2 ∧ H1 Dd = some (.lst xs) ∧ Reps K mg H1 acc xs T ∧ Live H1 T ∧ (∀ j, Dj T (F2 j)) ∧ ¬ T Dd ∧ (∀ j, ¬ F2 j Dd) ∧
    Aft (S1 ++ (S2 ++ S3)) H0 F0 H1 F2 ∧ (∀ a, T a → (∃ k, k ∈ S1 ++ (S2 ++ S3) ∧ F0 k a) ∨ H0 a = none) ∧ H0 Dd = none ∧
    CV K mg eC W (S1 ++ (S2 ++ S3)) σ H0 F0 ((lcLoop vs g t m ds' acc (wipeD vs ρ2)).bind fun acc ρ2 => .ok (.lst true acc) ρ2) Q
  have subS : ∀ {S' : List Nat}, (∀ j, j ∈ S' → j ∈ S2 ++ S3) → ∀ j, j ∈ (S1 ++ (S2 ++ S3)) ++ S' → j ∈ S1 ++ (S2 ++ S3) := fun {S'} h j hj => (List.mem_append.mp hj).elim id fun x => List.mem_append_right _ (h j x)
  refine ⟨fun i n H1 => n = ds.length - i ∧ i ≤ ds.length ∧ St H1 (ds.drop i), ⟨ds.length, rfl, Nat.zero_le _, ?_⟩, ?_⟩
  · have t0 : AftT E0 H (upd H Dd (.lst [])) (fun a => E0 a ∨ a = Dd) := .new nD trivial Live.e0 Sub.rfl
    have er1 := er.step Live.e0 (fun _ => Dj.e0) t0
    have nF : ∀ j, ¬ F j Dd := fun j x => by
      obtain ⟨u, e, _⟩ := er.live j Dd x
      rw [nD] at e; cases e
    refine ⟨w.keep _ _ hh (kp_new nD), ρ1, _, E0, [], [], er1.wipe, upd_same, rfl, Live.e0, fun _ => Dj.e0, fun h => h, fun j h => ?_, ?_, fun _ h => h.elim, g0.dom Dd nD, by rw [List.drop_zero]; exact q⟩
    · by_cases c : j ∈ vs
      · rw [if_pos c] at h; exact h
      · rw [if_neg c] at h; exact nF j h
    · have s1 : Aft [] H F (upd H Dd (.lst [])) (fun j => if j ∈ vs then E0 else F j) := ⟨fun a o e _ => t0.keep a o e id, fun j _ a h => by
        by_cases c : j ∈ vs
        · rw [if_pos c] at h; exact h.elim
        · rw [if_neg c] at h; exact h, fun j h => absurd h (by simp), t0.dom⟩
      exact (g0.trans s1).more fun j hj => List.mem_append_left _ (by simpa using hj)
  · rintro i n H1 ⟨rfl, hi, h1, ρ2, F2, T, acc, xs, er2, hD, ra, lT, dT, nT, nF, ga, newT, hD0, q1⟩
    by_cases hlt : i < ds.length
    · refine .inr ⟨w.go i H1 h1 hlt, fun H2 => St H2 (ds.drop (i + 1)), fun H2 h2 => ⟨ds.length - (i + 1), by omega, rfl, hlt, h2⟩, fun x H2 y => ?_⟩
      obtain ⟨⟨d, e, r⟩, tA⟩ := w.yld i H1 x H2 h1 hlt y
      have ed : ds.drop i = d :: ds.drop (i + 1) := by
        rw [List.drop_eq_getElem_cons hlt]
        have : ds[i] = d := by
          have := List.getElem?_eq_getElem hlt
          rw [e] at this; exact (Option.some.inj this).symm
        rw [this]
      rw [ed] at q1
      unfold lcLoop at q1
      cases e1 : g d (wipeD vs ρ2) with
      | none => rw [e1] at q1; exact q1.elim
      | some ρ3 =>
        rw [e1] at q1
        dsimp only at q1
        have er2' := er2.step Live.e0 (fun _ => Dj.e0) tA
        refine kt d x E0 (wipeD vs ρ2) ρ3 F2 (L2.wipe σ vs) H2 _ e1 er2' r Live.e0 (fun _ => Dj.e0) fun σ3 F3 er3 f3 a3 => ⟨wipe_agree a3 sv, ρ3, F3, er3, ?_⟩
        have f3' : ∀ j, Sub (F3 j) (F2 j) := fun j a h => (f3 j a h).resolve_right id
        have s2 : Aft [] H1 F2 H2 F3 := ⟨fun a o e _ => tA.keep a o e id, fun j _ => f3' j, fun j h => absurd h (by simp), tA.dom⟩
        have ga2 : Aft (S1 ++ (S2 ++ S3)) H0 F0 H2 F3 := (ga.trans s2).more (subS fun j h => absurd h (by simp))
        have hD2 : H2 Dd = some (.lst xs) := tA.keep Dd _ hD id
        have kT2 : Kp T H1 H2 := tA.kp Live.e0 Dj.e0r
        have hh2 : hold H2 := w.keep _ _ h1 (s2.s.kp0 er2)
        cases e2 : t ρ3 with
        | bad => rw [e2] at q1; exact q1
        | ex z ρ4 => rw [e2] at q1; exact q1.elim
        | ok b ρ4 =>
          rw [e2] at q1
          intro H3 F4 er4 g4
          have ga3 : Aft (S1 ++ (S2 ++ S3)) H0 F0 H3 F4 := (ga2.trans g4).more (subS fun j h => List.mem_append_left _ h)
          have hD3 : H3 Dd = some (.lst xs) := g4.keep Dd _ hD2 fun j _ h => nF j (f3' j Dd h)
          have dT3 : ∀ j, Dj T (F3 j) := fun j => (dT j).sub Sub.rfl (f3' j)
          have lT2 : Live H2 T := lT.keep kT2
          have kT3 : Kp T H2 H3 := g4.kp er3 dT3
          have dT4 : ∀ j, Dj T (F4 j) := fun j => g4.djP lT2 dT3 j
          have nF4 : ∀ j, ¬ F4 j Dd := fun j h => by
            rcases g4.back h with ⟨k, _, x⟩ | x | x
            · exact nF k (f3' k Dd x)
            · exact nF j (f3' j Dd x)
            · rw [hD2] at x; cases x
          have hh3 : hold H3 := w.keep _ _ hh2 (g4.s.kp0 er3)
          have ra3 : Reps K mg H3 acc xs T := Reps.keep acc (Reps.keep acc ra kT2) kT3
          have ew : L2.wipe σ3 vs = L2.wipe σ vs := wipe_agree a3 sv
          have wsub : ∀ {F : Nat → AS} (j : Nat), Sub ((fun j => if j ∈ vs then E0 else F j) j) (F j) := fun {F} j a h => by
            dsimp only at h
            by_cases c : j ∈ vs
            · rw [if_pos c] at h; exact h.elim
            · rw [if_neg c] at h; exact h
          cases b with
          | false =>
            rw [if_neg Bool.false_ne_true]
            dsimp only at q1
            have erw := er4.wipe (vs := vs)
            rw [ew] at erw
            have s4 : Aft [] H3 F4 H3 (fun j => if j ∈ vs then E0 else F4 j) := ⟨fun _ _ e _ => e, fun j _ => wsub j, fun j h => absurd h (by simp), fun _ e => e⟩
            exact ⟨hh3, ρ4, _, T, acc, xs, erw, hD3, ra3, lT2.keep kT3, fun j => (dT4 j).sub Sub.rfl (wsub j), nT, fun j h => nF4 j (wsub j Dd h), (ga3.trans s4).more (subS fun j h => absurd h (by simp)), newT, hD0, q1⟩
          | true =>
            rw [if_pos rfl]
            dsimp only at q1
            refine ⟨ρ4, F4, er4, ?_⟩
            cases e3 : m ρ4 with
            | bad => rw [e3] at q1; exact q1
            | ex z ρ5 => rw [e3] at q1; exact q1.elim
            | ok y ρ5 =>
              rw [e3] at q1
              intro v H4 F5 Ty er5 ry g5
              dsimp only at q1
              by_cases hb : acc.length < big
              · rw [if_pos hb] at q1
                have ga4 : Aft (S1 ++ (S2 ++ S3)) H0 F0 H4 F5 := (ga3.trans g5.toAft).more (subS fun j h => List.mem_append_right _ h)
                have hD4 : H4 Dd = some (.lst xs) := g5.toAft.keep Dd _ hD3 fun j _ h => nF4 j h
                have lT3 := lT2.keep kT3
                have kT4 : Kp T H3 H4 := g5.toAft.kp er4 dT4
                have dT5 : ∀ j, Dj T (F5 j) := fun j => g5.toAft.djP lT3 dT4 j
                have nF5 : ∀ j, ¬ F5 j Dd := fun j h => by
                  rcases g5.toAft.back h with ⟨k, _, x⟩ | x | x
                  · exact nF4 k x
                  · exact nF4 j x
                  · rw [hD3] at x; cases x
                have nTy : ¬ Ty Dd := fun h => by
                  rcases g5.new Dd h with ⟨k, _, x⟩ | x
                  · exact nF4 k x
                  · rw [hD3] at x; cases x
                have dTy : Dj T Ty := g5.djT lT3 dT4
                have kD : ∀ {A : AS}, ¬ A Dd → Kp A H4 (upd H4 Dd (.lst (xs ++ [v]))) := fun {A} n => kp_upd n hD4 trivial
                refine ⟨xs, hD4, big_lt (by rw [ra3.length]; exact hb), w.keep _ _ (w.keep _ _ hh3 (g5.toAft.s.kp0 er4)) (kD id), ρ5, (fun j => if j ∈ vs then E0 else F5 j), Un2 T Ty, acc ++ [y], xs ++ [v], ?_, upd_same, ?_, ?_, fun j => ?_, fun h => h.elim nT nTy, fun j h => nF5 j (wsub j Dd h), ?_, fun a h => ?_, hD0, q1⟩
                · have erw := er5.wipe (vs := vs)
                  rw [ew] at erw
                  refine ⟨erw.len, fun j d' e' => ?_, erw.dj, fun j => (erw.live j).keep (kD fun h => nF5 j (wsub j Dd h))⟩
                  obtain ⟨o, e4, r4⟩ := erw.get j d' e'
                  refine ⟨o, e4, ?_⟩
                  cases o with
                  | none => exact r4
                  | some v' => exact Rep.keep d' r4 (kD fun h => nF5 j (wsub j Dd h))
                · have r1 := Reps.keep acc (Reps.keep acc ra3 kT4) (kD nT)
                  have r2 : Reps K mg (upd H4 Dd (.lst (xs ++ [v]))) [y] [v] Ty := ⟨v, [], Ty, E0, rfl, Sub.rfl, Sub.e0, Dj.e0r, Rep.keep y ry (kD nTy), rfl⟩
                  exact Reps.append r1 r2 dTy (fun _ => .inl) fun _ => .inr
                · exact ((lT3.keep kT4).un g5.live).keep (kD fun h => h.elim nT nTy)
                · exact fun a h x => h.elim (fun h => dT5 j a h (wsub j a x)) fun h => g5.dj j a h (wsub j a x)
                · refine ⟨fun a o e n => ?_, fun j hj a h => ga4.same j hj a (wsub j a h), fun j hj a h => ga4.sub j hj a (wsub j a h), fun a e => ?_⟩
                  · rw [upd_ne]
                    · exact ga4.keep a o e n
                    · rintro rfl; rw [hD0] at e; cases e
                  · by_cases zz : a = Dd
                    · subst zz; exact hD0
                    · rw [upd_ne zz] at e; exact ga4.dom a e
                · rcases h with h | h
                  · exact newT a h
                  · rcases g5.new a h with ⟨k, hk, x⟩ | x
                    · rcases ga3.back x with ⟨k', hk', x⟩ | x | x
                      · exact .inl ⟨k', hk', x⟩
                      · exact .inl ⟨k, List.mem_append_right _ (List.mem_append_right _ hk), x⟩
                      · exact .inr x
                    · exact .inr (ga3.dom a x)
              · rw [if_neg hb] at q1; exact q1.elim
    · have e : i = ds.length := by omega
      subst e
      rw [List.drop_length] at q1
      refine .inl ⟨w.stop H1 h1, ?_⟩
      refine q1 (.ref Dd) H1 F2 (fun a => T a ∨ a = Dd) ?_ ⟨Dd, xs, rfl, hD, .inr rfl, ra.mono fun a h => ⟨.inl h, fun e => nT (e ▸ h)⟩⟩ ⟨ga, fun a h => h.elim (newT a) fun e => .inr (by rw [e]; exact hD0), fun j a h x => h.elim (fun h => dT j a h x) fun e => nF j (e ▸ x), fun a h => h.elim (lT a) fun e => ⟨.lst xs, by rw [e]; exact hD, trivial⟩⟩
      exact er2.unwipe
/-- [e for t in it if c] -/
theorem ve_lc {elt tg iter : Expr} {ifs : List Expr} {scope : Scope} {own : List (Str × Nat)} {it : M (List D)} {g : D → List D → Option (List D)} {gt : TG} {t : M Bool} {m : EM} (hc : X.calm = true) (hN : X.N.Nodup) (ok : BlkOk X.N X.env.scope scope own)
    (hi : VI X eC W S1 tg iter it) (hg : ∀ (s : Shared) (H : Hp) (C : Addr) (cl : List (Str × Addr)) (fp : List Addr), PG (X.blk s H scope (compEnvC scope cl C X.env) fp) tg gt) (kt : TgOk X.K X.mg SA gt g) (sv : ∀ j, j ∈ SA → j ∈ own.map (·.2))
    (ht : ∀ (s : Shared) (H : Hp) (C : Addr) (cl : List (Str × Addr)) (fp : List Addr), PTs (X.blk s H scope (compEnvC scope cl C X.env) fp) ifs (TVt X.K X.mg eC W0 S2 t))
    (he : ∀ (s : Shared) (H : Hp) (C : Addr) (cl : List (Str × Addr)) (fp : List Addr), VE (X.blk s H scope (compEnvC scope cl C X.env) fp) eC W0 S3 elt m) (hs : ∀ x, foldedSetIterable iter X.env x = pure x := by intro _; rfl) :
    VE X eC W (S1 ++ (S2 ++ S3)) (.ListComp elt [⟨tg, iter, ifs, 0⟩] scope pos) (lcM (own.map (·.2)) it g t m) := PE.imp (pe_lc hc hN hi ok hg ht he hs) fun σ H Q q => by
  obtain ⟨ρ, F, er, q⟩ := q
  refine ⟨ρ, F, er, ?_⟩
  unfold lcM at q
  cases e1 : it ρ with
  | bad => rw [e1] at q; exact q
  | ex z ρ1 => rw [e1] at q; exact fun dd H' F' er' x g => q dd H' F' er' x (g.more fun j hj => List.mem_append_left _ hj)
  | ok ds ρ1 =>
    rw [e1] at q
    exact fun J H1 F1 hold er1 ga w hh Dd nD => lc_core' (S1 := S1) kt sv w er1 hh nD ga q
theorem pts_yes {K : PySem.W.Frag} {mg : Str → Option Value} : PTs X [] (TVt K mg eC W0 [] (fun ρ => .ok true ρ)) := ⟨fun pins s σ H Q I ⟨ρ, F, er, q⟩ => pts_nil.run pins s σ H Q I (q H F er .refl)⟩
/-- y = [..] where the comprehension stores by itself -/
theorem vs_setLc {i : Nat} {y : Str} {py : Pos} {elt tg iter : Expr} {ifs : List Expr} {scope : Scope} {own : List (Str × Nat)} {spos : Pos} {it : M (List D)} {g : D → List D → Option (List D)} {gt : TG} {t : M Bool} {m : EM} {SB : List Nat} (hiy : i ∈ SB) (hc : X.calm = true) (hN : X.N.Nodup) (hy : X.N[i]? = some y) (hyl : X.env.scope.names.lookup y = some .local)
    (hsw : swapsWith (.ListComp elt [⟨tg, iter, ifs, 0⟩] scope pos) (some (.Name y py)) spos.line X.env = pure true) (ok : BlkOk X.N X.env.scope scope own)
    (hi : VI X eC W S1 tg iter it) (hg : ∀ (s : Shared) (H : Hp) (C : Addr) (cl : List (Str × Addr)) (fp : List Addr), PG (X.blk s H scope (compEnvC scope cl C X.env) fp) tg gt) (kt : TgOk X.K X.mg SA gt g) (sv : ∀ j, j ∈ SA → j ∈ own.map (·.2))
    (ht : ∀ (s : Shared) (H : Hp) (C : Addr) (cl : List (Str × Addr)) (fp : List Addr), PTs (X.blk s H scope (compEnvC scope cl C X.env) fp) ifs (TVt X.K X.mg eC W0 S2 t))
    (he : ∀ (s : Shared) (H : Hp) (C : Addr) (cl : List (Str × Addr)) (fp : List Addr), VE (X.blk s H scope (compEnvC scope cl C X.env) fp) eC W0 S3 elt m) (hs : ∀ x, foldedSetIterable iter X.env x = pure x := by intro _; rfl) :
    VS X eC W SB (.Assign [.Name y py] (.ListComp elt [⟨tg, iter, ifs, 0⟩] scope pos) spos) (setM i (lcM (own.map (·.2)) it g t m)) := PS.imp (ps_setLc hc hN hy hyl hsw hi ok hg ht he hs) fun E σ H q => by
  have q2 := tv_s (S := S1 ++ (S2 ++ S3)) (Q := fun v H1 => gName i v σ H1 E.nx) q fun d ρ1 v H1 F1 T er1 r dj l _ ⟨F0, H0, q, g, new⟩ => by
    split at q
    · rename_i lt
      obtain ⟨er2, q2⟩ := CS.store (i := i) q g er1 r dj l new hiy lt
      exact q2 _ H1 _ er2 .refl .refl
    · exact q.elim
  obtain ⟨ρ, F, er, q⟩ := q2
  refine ⟨ρ, F, er, ?_⟩
  unfold lcM at q
  cases e1 : it ρ with
  | bad => rw [e1] at q; exact q
  | ex z ρ1 => rw [e1] at q; exact fun dd H' F' er' x g => q dd H' F' er' x (g.more fun j hj => List.mem_append_left _ hj)
  | ok ds ρ1 =>
    rw [e1] at q
    exact fun J H1 F1 hold er1 ga w hh Dd nD => lc_core' (S1 := S1) (Q := fun v H1 => gName i v σ H1 E.nx) kt sv w er1 hh nD ga q
end
end VS
set_option Elab.async false
set_option linter.all false
set_option maxRecDepth 100000
set_option maxHeartbeats 4000000
/-! VS16: append, extend, pop; stores into lists' items. -/
namespace VS
open PySem PySem.Spec PyProof.Rows L2
def rExtF : V → List V → Hp → VK → Prop := fun x vs H Q => ∃ l b xs zs, x = .ref l ∧ vs = [.ref b] ∧ H l = some (.lst xs) ∧ LstAt H b zs ∧ xs.length + zs.length ≤ sizeLine ∧ Q .non (upd H l (.lst (xs ++ zs)))
theorem mt_extF {X : Cx} : MtM X "list.extend" rExtF := by
  intro pins s σ H x vs v us Q I rx rv h
  obtain ⟨l, b, xs, zs, rfl, rfl, hH, hB, hz, q⟩ := h
  cases rx
  obtain ⟨u, rfl, ru⟩ := rv.one
  cases ru
  obtain ⟨z, its, n, r, hl, e⟩ := I.lstM hH
  obtain ⟨z2, its2, n2, r2, hl2, e2⟩ := hB.obj I
  have hsz : its.toArray.size + its2.toArray.size ≤ sizeLine := by rw [List.size_toArray, List.size_toArray]; omega
  have hlong : ¬ (!its.toArray.isEmpty && Builtin.List.listTooLong (its.toArray.size + its2.toArray.size)) = true := by
    rw [notLongL hsz, Bool.and_false]
    exact Bool.false_ne_true
  refine call_meets PySem.F.slot_list_extend ⟨_, e, rfl⟩ PySem.F.entry_list_extend (PySem.F.args_list_extend_2 _ _)
    (PySem.AutoSeq1.list_extend_list_list_0 l its.toArray n b its2.toArray n2 hlong (by rw [List.size_toArray]; omega) (by omega)) ⟨e, e2, ?_⟩
  refine ⟨.non, _, I.lset (its' := its ++ its2) hH e (by simp) (r.append r2) ?_, rfl, q⟩
  rw [List.length_append]
  omega
def appF : List D → List D → Option (D × List D)
  | ds, [d] => if ds.length < big then some (.non, ds ++ [d]) else none
  | _, _ => none
def extF : List D → List D → Option (D × List D)
  | ds, [.lst _ es] => if ds.length + es.length ≤ big then some (.non, ds ++ es) else none
  | _, _ => none
def popF : List D → List D → Option (D × List D)
  | ds, [] => match ds[ds.length - 1]? with
    | some d => some (d, ds.dropLast)
    | none => none
  | _, _ => none
section
variable {K : PySem.W.Frag} {mg : Str → Option Value} {H H' : Hp}
theorem Reps.one' {d : D} {vs : List V} {A : AS} (r : Reps K mg H [d] vs A) : ∃ v, vs = [v] ∧ Rep K mg H d v A := by
  obtain ⟨x, ys, A1, A2, e, s1, s2, dj, r1, r2⟩ := r
  cases r2
  exact ⟨x, e, r1.mono s1⟩
theorem Reps.sing {d : D} {v : V} {A : AS} (r : Rep K mg H d v A) : Reps K mg H [d] [v] A := ⟨v, [], A, E0, rfl, Sub.rfl, Sub.e0, Dj.e0r, r, rfl⟩
theorem kpU {A : AS} {a : Addr} {o : HO} {xs : List V} (n : ¬ A a) (e : H a = some (.lst xs)) : Kp A H (upd H a o) := kp_upd n e trivial
theorem vlm_app : VLm K mg rAppend appF := by
  intro ds as d ds' a xs vs A T H Q h e rs rv nA nT dAT lA lT q
  unfold appF at h
  split at h
  · rename_i c
    split at h
    · cases h
      obtain ⟨v, rfl, rc⟩ := rv.one'
      refine ⟨a, xs, v, rfl, rfl, e, by rw [rs.length]; exact big_lt (by assumption), ?_⟩
      refine q .non (xs ++ [v]) E0 (Un2 A T) rfl ?_ Dj.e0 Sub.e0 Sub.rfl
      exact Reps.append (Reps.keep _ rs (kpU nA e)) (Reps.sing (Rep.keep _ rc (kpU nT e))) dAT (fun _ => .inl) fun _ => .inr
    · cases h
  · cases h
theorem vlm_ext : VLm K mg rExtF extF := by
  intro ds as d ds' a xs vs A T H Q h e rs rv nA nT dAT lA lT q
  unfold extF at h
  split at h
  · rename_i m es
    split at h
    · rename_i hz
      cases h
      obtain ⟨v, rfl, rc⟩ := rv.one'
      obtain ⟨b, zs, rfl, hb, rz⟩ := rc.lstAt
      refine ⟨a, b, xs, zs, rfl, rfl, e, hb, by rw [rs.length, rz.length]; exact big_line hz, ?_⟩
      refine q .non (xs ++ zs) E0 (Un2 A T) rfl ?_ Dj.e0 Sub.e0 Sub.rfl
      exact Reps.append (Reps.keep _ rs (kpU nA e)) (Reps.keep _ rz (kpU nT e)) dAT (fun _ => .inl) fun _ => .inr
    · cases h
  · cases h
end
section
variable {X : Cx} {eC : Addr} {W : WX} {S S1 S2 SA : List Nat} {pos apos cpos : Pos} {o e : Expr} {i : Nat} {ps : Path} {ms : M (List D)}
theorem ve_append (hO : VP X o i ps) (h : VA X eC W S [e] ms) (hi : i ∉ S)
    (hbase : attributeBase o "append" X.env (eval o X.env) = eval o X.env := by rfl)
    (hfew : ((backTo cpos (starEach [e] X.env)).all (fun x => !x.1) && (backToKw cpos (keywordEach [] X.env)).all (fun x => x.1.isSome)
      && decide ([e].length + ([] : List Keyword).length + (if ([] : List Keyword).isEmpty then 0 else 1) < 30)) = true := by rfl)
    (hline : (apos.endLine == cpos.line) = true := by rfl) (hs : starEach [e] X.env = (false, eval e X.env) :: starEach [] X.env := by rfl) (hplain : (backTo cpos (starEach [] X.env)).any (·.1) = false := by rfl) :
    VE X eC W (S ++ [i]) (.Call (.Attribute o "append" apos) [e] [] cpos) (lmM i ps appF ms) :=
  PE.imp (pe_bm PySem.F.plainAttrs_list PySem.F.slot_list_append PySem.F.type_list_append mt_append hO h hbase hfew hline hs hplain) fun σ H Q q => tv_lm (K := X.K) (mg := X.mg) vlm_app hi (fun Q h => h) q
theorem ve_extend (hO : VP X o i ps) (h : VA X eC W S [e] ms) (hi : i ∉ S)
    (hbase : attributeBase o "extend" X.env (eval o X.env) = eval o X.env := by rfl)
    (hfew : ((backTo cpos (starEach [e] X.env)).all (fun x => !x.1) && (backToKw cpos (keywordEach [] X.env)).all (fun x => x.1.isSome)
      && decide ([e].length + ([] : List Keyword).length + (if ([] : List Keyword).isEmpty then 0 else 1) < 30)) = true := by rfl)
    (hline : (apos.endLine == cpos.line) = true := by rfl) (hs : starEach [e] X.env = (false, eval e X.env) :: starEach [] X.env := by rfl) (hplain : (backTo cpos (starEach [] X.env)).any (·.1) = false := by rfl) :
    VE X eC W (S ++ [i]) (.Call (.Attribute o "extend" apos) [e] [] cpos) (lmM i ps extF ms) :=
  PE.imp (pe_bm PySem.F.plainAttrs_list PySem.F.slot_list_extend PySem.F.type_list_extend mt_extF hO h hbase hfew hline hs hplain) fun σ H Q q => tv_lm (K := X.K) (mg := X.mg) vlm_ext hi (fun Q h => h) q
end
/-! ### place[e2] = e1 -/
def ixSt (i : Nat) (ps : Path) (m1 m2 : EM) : SM := fun ρ => (m1 ρ).bind fun d ρ1 => match lstP i ps ρ1 with
  | some _ => (m2 ρ1).bind fun k ρ2 => (match k, lstP i ps ρ2 with
    | .int k, some (d0, ds) => (match ixN ds.length k with
      | some j => .ok .nx (ρ2.set i (putP d0 ps (.lst true (ds.set j d))))
      | none => .bad)
    | _, _ => .bad)
  | none => .bad
section
variable {K : PySem.W.Frag} {mg : Str → Option Value} {H H' : Hp}
theorem Reps.setN {y : V} {d : D} {T : AS} (rd : Rep K mg H d y T) : ∀ {ds : List D} {xs : List V} {A : AS} (j : Nat), Reps K mg H ds xs A → Dj A T → Reps K mg H (ds.set j d) (xs.set j y) (Un2 A T)
  | [], _, _, j, r, dj => by cases r; exact rfl
  | c :: ds, _, A, j, ⟨x, ys, A1, A2, e, s1, s2, d12, r1, r2⟩, dj => by
    cases e
    cases j with
    | zero => exact ⟨y, ys, T, A2, rfl, fun _ => .inr, fun a h => .inl (s2 a h), fun a h g => dj a (s2 a g) h, rd, r2⟩
    | succ j => exact ⟨x, _, A1, Un2 A2 T, rfl, fun a h => .inl (s1 a h), fun a h => h.imp (s2 a) id, fun a h g => g.elim (d12 a h) (dj a (s1 a h)), r1, Reps.setN rd j r2 (dj.sub s2 Sub.rfl)⟩
end
section
variable {X : Cx} {eC : Addr} {W : WX} {S S1 S2 SA : List Nat} {pos : Pos}
theorem vs_ix {o e ix : Expr} {i : Nat} {ps : Path} {m m2 : EM} {pos' : Pos} (hO : VP X o i ps) (h : VE X eC W S1 e m) (h2 : VE X eC W S2 ix m2) (hi : i ∉ S2)
    (hs : swapsWithSole [.Subscript o ix pos'] e pos.line X.env = pure false := by rfl) (hw : swappedStores [.Subscript o ix pos'] e X.env = pure none := by rfl)
    (h1 : (assignEach [.Subscript o ix pos'] X.env).map (·.2) = [assign (.Subscript o ix pos') X.env] := by rfl)
    (ha : ∀ v, assign (.Subscript o ix pos') X.env v = (do
      let ov ← holding [v] (eval o X.env)
      let iv ← holding [v, ov] (eval ix X.env)
      standAt pos'
      holding [v, ov, iv] (setItem ov iv v)
      release [v, ov, iv] []) := by intro _; rfl) : VS X eC W SA (.Assign [.Subscript o ix pos'] e pos) (ixSt i ps m m2) := PS.imp (ps_asg h (pg_sub hO h2 set_list ha) hs hw h1) fun E σ H q => by
  refine tv_s q fun d ρ1 v H1 F1 T er1 r dj l _ ⟨F0, H0, q, g, new⟩ => ?_
  cases e0 : lstP i ps ρ1 with
  | none => rw [e0] at q; exact q.elim
  | some p =>
    obtain ⟨d0, ds⟩ := p
    rw [e0] at q
    dsimp only at q
    obtain ⟨e1, e2⟩ := lstP_some e0
    obtain ⟨o, e3, rr⟩ := er1.get i d0 e1
    obtain ⟨v0, rfl, rr⟩ := has_root e2 rfl rr
    obtain ⟨x, A1, A2, at1, s1, s2, dj12, r1, r2, kp⟩ := rr.path e2
    obtain ⟨b, xs, rfl, z, iA, _⟩ := id r1
    refine ⟨.ref b, ⟨v0, e3, at1⟩, ρ1, F1, er1, ?_⟩
    cases e4 : m2 ρ1 with
    | bad => rw [e4] at q; exact q
    | ex z ρ2 => rw [e4] at q; exact fun dd H' F' er' x g2 => q dd σ H' F' er' x (g.trans g2.s) .refl
    | ok k ρ2 =>
      rw [e4] at q
      intro u H2 F2 T2 er2 ru g2
      simp only [Res.bind_ok] at q
      split at q
      · rename_i k d1 ds1 e5
        obtain ⟨e6, e7⟩ := lstP_some e5
        cases e8 : ixN ds1.length k with
        | none => rw [e8] at q; exact q.elim
        | some j =>
          rw [e8] at q
          dsimp only at q
          have dT2 : ∀ j, Dj T (F2 j) := fun j => g2.toAft.djP l dj j
          have kT : Kp T H1 H2 := g2.toAft.kp er1 dj
          have lT2 : Live H2 T := l.keep kT
          obtain ⟨y, B1, ⟨v1, e9, at2⟩, r3, t1, kk⟩ := plc_set er2 e6 e7 rfl
          rw [e3] at e9; cases e9
          have at3 := kp H2 ((g2.toAft.kpSlot er1 hi).sub s2)
          obtain ⟨o', e10, rr'⟩ := er2.get i d1 e6
          rw [e3] at e10; cases e10
          have ey : y = .ref b := PathAt.inj (show Rep X.K X.mg H2 d1 v0 (F2 i) from rr') e7 at2 at3
          subst ey
          obtain ⟨b', xs1, eb, z1, iB, rs1⟩ := id r3
          cases eb
          have eu : u = .int k := ru
          subst eu
          refine ⟨b, xs1, k, j, rfl, rfl, z1, by rw [rs1.length]; exact e8, ?_⟩
          have nT : ¬ T b := fun x => dT2 i b x (t1 b iB)
          have lB : Live H2 B1 := (er2.live i).sub t1
          have rl : Rep X.K X.mg (upd H2 b (.lst (xs1.set j v))) (.lst true (ds1.set j d)) (.ref b) (Un2 B1 T) := by
            refine ⟨b, _, rfl, upd_same, .inl iB, ?_⟩
            have := Reps.setN (Rep.keep d (Rep.keep d r kT) (kpU nT z1)) j (Reps.keep ds1 rs1 (kpU (o := .lst (xs1.set j v)) (fun x => x.2 rfl) z1)) fun a x y => dT2 i a y (t1 a x.1)
            exact this.mono fun a x => x.elim (fun x => ⟨.inl x.1, x.2⟩) fun x => ⟨.inr x, fun e => nT (e ▸ x)⟩
          obtain ⟨F', er', f', _⟩ := kk T dT2 lT2 _ (Un2 B1 T) (.lst true (ds1.set j d)) (.upd (o := .lst (xs1.set j v)) (.inl iB) trivial (lB.un lT2) Sub.rfl) rl
          have g3 := g.trans g2.s.toAftS
          refine q σ _ F' er' ⟨fun a o e n => ?_, fun j a h => ?_, fun a e => g3.dom a ?_⟩ .refl
          · have := g3.keep a o e n
            rw [upd_ne]
            · exact this
            · rintro rfl
              rcases g3.sub i a (t1 a iB) with ⟨k, x⟩ | x
              · exact n k x
              · rw [e] at x; cases x
          · rcases f' j a h with h | h | h
            · exact g3.sub j a h.1
            · exact g3.sub i a (t1 a h)
            · exact new a h
          · by_cases zz : a = b
            · subst zz; rw [upd_same] at e; cases e
            · rw [upd_ne zz] at e; exact e
      · exact q.elim
end
end VS
set_option Elab.async false
set_option linter.all false
set_option maxRecDepth 100000
set_option maxHeartbeats 4000000
/-! VS17: DragError, made and raised: its __init__ says super().__init__(reason), then self.reason = reason. -/
namespace VS
open PySem PySem.W PySem.Calls PySem.Spec PyProof.Rows PySem.HandSPX L2
def dgA (p1 p2 : Pos) : Arguments := { posonlyargs := [], args := [{ arg := "self", annotation := none, pos := p1 }, { arg := "reason", annotation := none, pos := p2 }], vararg := none, kwonlyargs := [], kw_defaults := [], kwarg := none, defaults := [] }
def dgCall (l : Nat) : Expr := .Call (.Attribute (.Call (.Name "super" ⟨l, 8, l, 13⟩) [] [] ⟨l, 8, l, 15⟩) "__init__" ⟨l, 8, l, 24⟩) [.Name "reason" ⟨l, 25, l, 31⟩] [] ⟨l, 8, l, 32⟩
def dgB (l : Nat) (q7 q8 q9 q10 : Pos) : List Stmt := [.Expr (dgCall l) ⟨l, 8, l, 32⟩, .Assign [.Attribute (.Name "self" q7) "reason" q8] (.Name "reason" q9) q10]
theorem dg_he {l : Nat} (hl : l = 5 ∨ l = 8) (env : Env) : ∃ pl, eval (dgCall l) env = (do
    let ov ← attributeBase (.Call (.Name "super" ⟨l, 8, l, 13⟩) [] [] ⟨l, 8, l, 15⟩) "__init__" env (eval (.Call (.Name "super" ⟨l, 8, l, 13⟩) [] [] ⟨l, 8, l, 15⟩) env)
    standAt (⟨l, 8, l, 24⟩ : Pos).atName
    let (f, first) ← holding [ov] (getMethod ov "__init__" pl)
    callWith ⟨l, 8, l, 32⟩ f first (backTo ⟨l, 8, l, 32⟩ (starEach [.Name "reason" ⟨l, 25, l, 31⟩] env)) []) := by
  rcases hl with rfl | rfl <;> exact ⟨_, rfl⟩
def dgS : Scope := { kind := .function, names := [(PySem.Str.ofString "self", .local), (PySem.Str.ofString "reason", .local), (PySem.Str.ofString "__class__", .free), (PySem.Str.ofString "super", .globalImplicit)], isGenerator := false, isCoroutine := false, more := [] }
/-- what the written part says of DragError, at C, and of its __init__, at fI -/
structure DgTxt (P : Program) (K : Frag) (mg : Str → Option Value) (C fI : Addr) : Prop where
  gC : mg "DragError" = some (.ref C)
  gS : mg "super" = none
  top : (P.main.scope.names.lookup ("super" : Str)).isSome = false
  opq : nsIn K cStatics "thirdparty.any" = some none
  cls : ∃ nm q N bs bm sn sub ab col dd k0 k1 k2 k3 k5, K.lookup C = some (excClassObj nm q C N bs bm true sn sub ab col dd k0 k1 k2 k3 k5 "ValueError.__new__") ∧ refsVE bm = true
  sup : ks_superIn K C C "__init__" = some (some (.builtin "ValueError.__init__"))
  veC : subIn K (.ref C) (.type "ValueError") = some true
  mC : mroIn K C (.ref C) = some true
  sa : findIn K (.ref C) "__setattr__" = some (some (.builtin "object.__setattr__"))
  ga : findIn K (.ref C) "__getattribute__" = some (some (.builtin "BaseException.__getattribute__"))
  gg : findIn K (.ref C) "__getattr__" = some none
  noN : findIn K (.ref C) "reason" = some none
  iC : findIn K (.ref C) "__init__" = some (some (.ref fI))
  tC : typeIn K (.ref fI) = some (.type "function")
  kC : keepIn K (.ref C) = true
  exC : subIn K (.ref C) (.type "BaseException") = some true
  tyC : typeIn K (.ref C) = some (.type "type")
  hdC : hasDictIn K C = true
  te : exmOne K (.ref C) (.ref C) = some true
  fn : ∃ (oc : Value) (od : Option Addr) (doc pm : Value) (an : Option Addr) (cda cc : Addr) (ct : Value) (osl : Array (Option Value)) (l : Nat) (p1 p2 q7 q8 q9 q10 : Pos) (ccl cl : Value) (cdd cld : Option Addr) (ccs csl : Array (Option Value)) (vs : Array Value) (file : Str) (tf : Tok),
    K.lookup fI = some ⟨oc, od, .func (ksFn "__init__" "DragError.__init__" (dgA p1 p2) (dgB l q7 q8 q9 q10) dgS .none .none doc pm an (.ref cda) ct cc), osl⟩ ∧ codeIn K (.ref cda) "DragError.__init__" = true ∧
    K.lookup cda = some ⟨ccl, cdd, .fields vs, ccs⟩ ∧ vs[2]? = some (.str file tf) ∧ ((P.main.file : Str) == file) = true ∧ K.lookup cc = some ⟨cl, cld, .cell (some (.ref C)), csl⟩ ∧ (l = 5 ∨ l = 8)
section
variable {prog : Program} {w : World} {A : Around} {E : Value → Shared → Prop} {R : Result → Shared → Prop} {s : Shared} {K : Frag} {mg mb : Str → Option Value} {C fI : Addr}
theorem dg_super {u x t0 : Addr} {rest : List Value} {nm q : Str} {N : Addr} {bs bm : List Value} {hdct : Bool} {sn : List Str} {sub : List Value} {ab : Bool} {col : Option Bool} {dd : Option Addr} {k0 k1 k2 k3 k5 : Option Value} {Q : Value → Shared → Prop}
    (hC : s.heap.get? C = some (excClassObj nm q C N bs bm hdct sn sub ab col dd k0 k1 k2 k3 k5 "ValueError.__new__")) (hx : s.heap.get? x = some (excO C t0)) (hu : s.heap.get? u = some (kxs_mw "ValueError.__init__" x)) (hz : rest.length ≤ sizeLine)
    (hq : ∀ h' t1, (∀ b o, b ≠ x → s.heap.get? b = some o → h'.get? b = some o) → h'.get? x = some (excO C t1) → Q .none { s with heap := h' }) : wpAny (model prog w) A (call (.ref u) rest) Q E s := by
  obtain ⟨hh, g, d, tk, os⟩ := s
  refine wpAny_call (codeAny_of_tree ?_)
  show wpAny _ A.in1 (callAny (.ref u) ⟨rest, []⟩) _ _ _
  simp only [callAny]
  refine wpAny_bind (wpAny_load hu ?_)
  simp only [kxs_mw, show (Value.type "method-wrapper" == Value.type "method" || Value.type "method-wrapper" == Value.type "builtin_function_or_method" || Value.type "method-wrapper" == Value.type "method-wrapper") = true by decide, if_true]
  refine KFB.if_so (by decide) ?_
  refine wpAny_bind (check_bound_init PySem.F.excBase_ValueError.toExcCallFacts hC hx rfl ?_)
  refine wpAny_bind (wpAny_pure (wpAny_pure ?_))
  refine ⟨plainId_quiet PySem.F.excBase_ValueError.init.plain _, codeAny_builtin PySem.F.excBase_ValueError.initEntry ?_⟩
  exact exc_init_tree (cls := .ref C) (t0 := t0) (dv := none) (c2 := .none) (c3 := .none) (b4 := .bool false) hx hz fun h' k e _ => hq h' _ k e
/-- what __init__ leaves of a fresh exception at x -/
structure DgEnd (h h' : Heap) (x C dx t1 : Addr) (v : Value) : Prop where
  keep : ∀ b o, b ≠ x → h.get? b = some o → h'.get? b = some o
  obj : h'.get? x = some { cls := .ref C, dict := some dx, data := .fields #[.ref t1, .none, .none, .none, .bool false, .none] }
  dbig : h.objs.size ≤ dx
  dne : dx ≠ x
  ns : h'.Ns1 dx (fun y => if y = "reason" then some v else none)
theorem dg_init (T : DgTxt prog K mg C fI) {x t0 : Addr} {v : Value} (X : K.In s.heap) (hlim : s.heap.NoLimit) (hg : s.heap.Ns mainGlobals mg) (hb : s.heap.Ns builtinsNs mb) (hmb : mb "super" = some (.type "super")) (hx : s.heap.get? x = some (excO C t0)) (hnx : K.lookup x = none) (hroom : A.depth < recursionLimit)
    (hq : ∀ h' tk dx t1, DgEnd s.heap h' x C dx t1 v → R (.ok (.ret .none)) { s with heap := h', toks := tk }) :
    codeAny (model prog w) A (.call (.ref fI) ⟨[.ref x, v], []⟩) R s := by
  obtain ⟨oc, od, doc, pm, an, cda, cc, ct, osl, l, p1, p2, q7, q8, q9, q10, ccl, cl, cdd, cld, ccs, csl, vs, file, tf, ho, hcd, hcda, hvs, hfile, hcc, hl⟩ := T.fn
  obtain ⟨nm, q, N, bs, bm, sn, sub, ab, col, dd, k0, k1, k2, k3, k5, hC, hbm⟩ := T.cls
  have hcl : clsIn K C = some { name := nm, bases := bs, mro := .ref C :: bm, ns := N, qualname := q, hasDict := true, slotNames := sn, subclasses := sub, abstract := ab, collection := col, hasDel := false } := by unfold clsIn; rw [hC] <;> rfl
  refine ks_codeAny_call_defAt (fd := ksFn "__init__" "DragError.__init__" (dgA p1 p2) (dgB l q7 q8 q9 q10) dgS .none .none doc pm an (.ref cda) ct cc) (body := dgB l q7 q8 q9 q10) (binds := [("self", .ref x), ("reason", v)]) hroom (X _ _ ho) rfl hlim (codeRec_of X hcd) rfl
    (BindsTo.of_eq (by first | rfl | with_unfolding_all rfl)) (show ∀ y ∈ dgS.names, y.2 ≠ .cell by decide) (fun y hy => by
      rcases List.mem_cons.mp hy with rfl | hy
      · rfl
      · rcases List.mem_cons.mp hy with rfl | hy
        · rfl
        · cases hy) (fun h₁ hns k => ?_) rfl rfl rfl
  have X₁ : K.In h₁ := X.keeps k
  have hx₁ := k _ _ hx
  have hg₁ := hg.keeps k
  have hb₁ := hb.keeps k
  have hloc : ∀ {h' : Heap}, (∀ b o, h₁.get? b = some o → h'.get? b = some o) → h'.Ns s.heap.objs.size (fun y => ([("self", .ref x), ("reason", v)] : List (Str × Value)).reverse.lookup y) := fun k => hns.keeps k
  have hnC : x ≠ C := fun z => by rw [z, hC] at hnx; cases hnx
  obtain ⟨oD, hD1, hD2⟩ : ∃ oD, h₁.get? C = some oD ∧ oD.data = .cls { name := nm, bases := bs, mro := .ref C :: bm, ns := N, qualname := q, hasDict := true, slotNames := sn, subclasses := sub, abstract := ab, collection := col, hasDel := false } := ⟨_, X₁ _ _ hC, rfl⟩
  have hf₁ := X₁ _ _ ho
  have hcda₁ := X₁ _ _ hcda
  have hcc₁ := X₁ _ _ hcc
  -- super().__init__(reason)
  show _root_.PySem.wpAt _ (A.deeper (ksEnv "DragError.__init__" dgS s.heap.objs.size fI (.ref cda) cc)) (.func (dgB l q7 q8 q9 q10) (ksEnv "DragError.__init__" dgS s.heap.objs.size fI (.ref cda) cc))
    (execs (.Expr (dgCall l) ⟨l, 8, l, 32⟩ :: [.Assign [.Attribute (.Name "self" q7) "reason" q8] (.Name "reason" q9) q10]) (ksEnv "DragError.__init__" dgS s.heap.objs.size fI (.ref cda) cc)) _ _ _
  refine ks_wpAt_execs_cons ?_
  refine ks_wpAt_Expr_any ?_ (by rfl) (by rfl)
  obtain ⟨pl, hpl⟩ := dg_he hl (ksEnv "DragError.__init__" dgS s.heap.objs.size fI (.ref cda) cc)
  refine ks_wpAt_MethodCall ?_ hpl
  refine ks_wpAt_super_base (s := { s with heap := h₁, toks := s.toks + 2 }) (attr := "__init__") (f := fI) (cc := cda) (oc := { cls := ccl, dict := cdd, data := .fields vs, slots := ccs }) (of := { cls := oc, dict := od, data := .func (ksFn "__init__" "DragError.__init__" (dgA p1 p2) (dgB l q7 q8 q9 q10) dgS .none .none doc pm an (.ref cda) ct cc), slots := osl }) (ar := { arg := "self", annotation := none, pos := p1 }) (env := ksEnv "DragError.__init__" dgS s.heap.objs.size fI (.ref cda) cc) (by first | rfl | kernel_rfl) (by first | rfl | kernel_rfl) (by decide) rfl hf₁ rfl rfl rfl hcda₁ rfl hvs hfile T.top ?_
  refine ks_loadName_global rfl (by first | rfl | kernel_rfl) (loadGlobal_builtin (env := ksEnv "DragError.__init__" dgS s.heap.objs.size fI (.ref cda) cc) hg₁ T.gS hb₁ hmb ⟨rfl, ?_⟩)
  refine wpAny_loadName_free rfl (by first | rfl | kernel_rfl) rfl ⟨_, hcc₁, rfl⟩ ?_
  refine wpAny_loadName_local rfl (by first | rfl | kernel_rfl) hns (by first | rfl | with_unfolding_all rfl | kernel_rfl) ?_
  refine ks_wpAny_isType_cls hD1 hD2 ⟨rfl, ?_⟩
  refine ks_wpAny_call_super hD1 hD2 hx₁ rfl (fun c e => by cases e) (looks_mroIn X₁ T.mC) (fun h₂ e₂ k₂ => ?_)
  have X₂ : K.In h₂ := X₁.keeps k₂
  have hx₂ := k₂ _ _ hx₁
  have I₂ : InstAt h₂ x (excO C t0) C none := ⟨hx₂, rfl, rfl, trivial⟩
  refine kxs_getMethod kxs_ValueError e₂ (looks_opaque X₂ T.opq) (l₀ := .ref C :: bm) ((looks_clsIn X₂ hcl).andThen .now) rfl X₂ (by have := T.sup; unfold ks_superIn at this; rw [hcl] at this; exact this) (I₂.type.andThen (looks_subIn X₂ T.veC)) hnC (by decide) ?_
  have k₃ : ∀ b o, h₂.get? b = some o → (h₂.push (kxs_mw "ValueError.__init__" x)).get? b = some o := fun b o e => Heap.get?_push_of_some _ e
  have hu₃ : (h₂.push (kxs_mw "ValueError.__init__" x)).get? h₂.objs.size = some (kxs_mw "ValueError.__init__" x) := Heap.get?_push_at rfl rfl
  have hs₃ := hloc fun b o e => k₃ b o (k₂ b o e)
  generalize h₂.push (kxs_mw "ValueError.__init__" x) = h₃ at *
  refine kxs_callWith (i := "ValueError.__init__") (x := x) rfl (evalArgs_plain (Calls.spliced_cons (wpAny_Name (wpAny_loadName_local rfl (by first | rfl | kernel_rfl) hs₃ (by first | rfl | with_unfolding_all rfl | kernel_rfl) ?_) (by decide))))
  refine Calls.spliced_nil ⟨hu₃, ?_⟩
  have X₃ : K.In h₃ := X₂.keeps k₃
  refine dg_super (X₃ _ _ hC) (k₃ _ _ hx₂) hu₃ (by show [v].length ≤ _; rw [sizeLine_eq]; exact (by decide : 1 ≤ 16777216)) fun h₄ t1 k₄ hx₄ => ?_
  -- self.reason = reason
  have K₄ : ∀ b o, b ≠ x → s.heap.get? b = some o → h₄.get? b = some o := fun b o n e => k₄ b o n (k₃ b o (k₂ b o (k b o e)))
  have X₄ : K.In h₄ := fun a o e => k₄ a o (fun z => by rw [z, hnx] at e; cases e) (X₃ a o e)
  have hLx : s.heap.objs.size ≠ x := Nat.ne_of_gt (Heap.lt_size hx)
  have hs₄ : h₄.Ns s.heap.objs.size (fun y => ([("self", .ref x), ("reason", v)] : List (Str × Value)).reverse.lookup y) := by
    obtain ⟨oL, es, ep, hL, r⟩ := hs₃
    exact ⟨oL, es, ep, k₄ _ _ hLx hL, r⟩
  have z₄ : s.heap.objs.size < h₄.objs.size := hs₄.lt
  refine PySem.wpAt_of_wpAny ?_
  refine wpAny_execs_cons (plainObj_wpAny_Assign_Attribute (wpAny_Name (wpAny_loadName_local rfl (by first | rfl | kernel_rfl) hs₄ (by first | rfl | with_unfolding_all rfl | kernel_rfl) (wpAny_Name (wpAny_loadName_local rfl (by first | rfl | kernel_rfl) hs₄ (by first | rfl | with_unfolding_all rfl | kernel_rfl) ?_) (by decide))) (by decide)))
  refine set_plain X₄ (ox := excO C t1) (od := none) ⟨hx₄, rfl, rfl, trivial⟩ T.sa ?_
  refine exc_osa X₄ hx₄ hcl (show refsVE (.ref C :: bm) = true from hbm) rfl T.noN (fun h₅ tk₅ dx k₅ dn dne hx₅ hn₅ => ?_)
  exact wpAny_execs_nil (hq h₅ tk₅ dx t1 ⟨fun b o hb e => k₅ b o hb (K₄ b o hb e), hx₅, Nat.le_of_lt (Nat.lt_of_lt_of_le z₄ dn), dne, hn₅⟩)
/-- a made DragError -/
structure DgMade (h h' : Heap) (e C d : Addr) (v : Value) : Prop where
  keep : ∀ b o, h.get? b = some o → h'.get? b = some o
  new : h.objs.size ≤ e
  obj : ∃ oe vs, h'.get? e = some oe ∧ oe.cls = .ref C ∧ oe.dict = some d ∧ oe.data = .fields vs ∧ vs[1]? = some .none
  dbig : h.objs.size ≤ d
  dne : d ≠ e
  ns : h'.Ns1 d (fun y => if y = "reason" then some v else none)
theorem dg_made (T : DgTxt prog K mg C fI) {v : Value} (X : K.In s.heap) (hlim : s.heap.NoLimit) (hg : s.heap.Ns mainGlobals mg) (hb : s.heap.Ns builtinsNs mb) (hmb : mb "super" = some (.type "super")) (hroom : A.depth + 1 < recursionLimit)
    (hq : ∀ h' tk e d, DgMade s.heap h' e C d v → R (.ok (.ret (.ref e))) { s with heap := h', toks := tk }) :
    codeAny (model prog w) A (.call (.ref C) ⟨[v], []⟩) R s := by
  obtain ⟨nm, q, N, bs, bm, sn, sub, ab, col, dd, k0, k1, k2, k3, k5, hC, hbm⟩ := T.cls
  obtain ⟨hp, g, dr, tk, os⟩ := s
  have k : ∀ b o, hp.get? b = some o → ((hp.push (kdv_tup [v])).push (excO C hp.objs.size)).get? b = some o := fun b o e => Heap.get?_push_of_some _ (Heap.get?_push_of_some _ e)
  have hget : ((hp.push (kdv_tup [v])).push (excO C hp.objs.size)).get? (hp.objs.size + 1) = some (excO C hp.objs.size) := by heap_get
  have hnx : K.lookup (hp.objs.size + 1) = none := by
    cases e : K.lookup (hp.objs.size + 1) with
    | none => rfl
    | some o =>
      have z : hp.get? (hp.objs.size + 1) = some o := X _ _ e
      exact absurd (Nat.lt_of_succ_lt (Heap.lt_size z)) (Nat.lt_irrefl _)
  have one : [v].length ≤ sizeLine := by rw [sizeLine_eq]; exact (by decide : 1 ≤ 16777216)
  refine call_own PySem.F.excBase_ValueError (fun X => refsVE_contains X bm hbm) (X _ _ hC) (looks_findIn X T.iC) (fun self => bind_fn X self T.tC) one ?_
  refine dg_init (s := ⟨(hp.push (kdv_tup [v])).push (excO C hp.objs.size), g, dr, tk, os⟩) T (X.keeps k) (hlim.keeps k) (hg.keeps k) (hb.keeps k) hmb hget hnx ?_ fun h' tk' dx t1 ⟨k', hx, dn, dne, hns⟩ => ?_
  · show A.depth + 1 < recursionLimit
    exact hroom
  · have old : ∀ b o, hp.get? b = some o → h'.get? b = some o := fun b o e => k' b o (Nat.ne_of_lt (Nat.lt_succ_of_lt (Heap.lt_size e))) (k b o e)
    have z : hp.objs.size + 1 + 1 ≤ dx := by
      first
        | (simpa only [Heap.size_push] using dn)
        | exact dn
        | (have q := dn; rw [Heap.size_push, Heap.size_push] at q; exact q)
    exact ⟨rfl, hq h' tk' (hp.objs.size + 1) dx ⟨old, Nat.le_succ _, ⟨_, _, hx, rfl, rfl, rfl, rfl⟩, Nat.le_trans (Nat.le_trans (Nat.le_succ _) (Nat.le_succ _)) z, dne, hns⟩⟩
end
theorem relO_dg {v : V} {v' : Value} (r : RelV v v') (f : Str) : RelO (List.lookup f [(("reason" : Str), v)]) (if f = "reason" then some v' else none) := by
  by_cases hw : f = "reason"
  · subst hw
    rw [if_pos rfl]
    have q : List.lookup ("reason" : Str) [(("reason" : Str), v)] = some v := by simp [List.lookup]
    rw [q]
    exact r
  · rw [if_neg hw]
    have qw : (f == ("reason" : Str)) = false := by simpa using hw
    have q2 : List.lookup f [(("reason" : Str), v)] = none := by simp [List.lookup, qw]
    rw [q2]
    trivial
section
variable {X : Cx} {C fI : Addr}
/-- DragError(e) -/
def tMkDg (C : Addr) (ta : TA) : L2.St → Hp → XK → Prop := fun σ H Q => ta σ H fun vs H1 => ∃ v, vs = [v] ∧ ∀ d, H1 d = none → Q (.ref C) (some d) (upd H1 d (.xd [(("reason" : Str), v)]))
theorem pmk_dg {a : Expr} {ta : TA} {p pos : Pos} {k : Nat} (T : DgTxt X.prog X.K X.mg C fI) (hr : Room k X.A) (ha : PA X [a] ta) (hg : Gl X "DragError" := by rfl)
    (he : starEach (a :: []) X.env = (false, eval a X.env) :: starEach [] X.env := by rfl) (hpl : (backTo pos (starEach [] X.env)).any (·.1) = false := by rfl) :
    PMk X (.Call (.Name "DragError" p) [a] [] pos) (tMkDg C ta) := by
  intro pins s σ H Q I h
  refine wpAny_Call_Name_kw (ld_glob I hg T.gC ?_)
  refine PySem.W.callWith_K (h₀ := X.base) I.ok.mod.kin T.kC (thn (ha.run pos pins s σ H _ I h) fun us s1 hh => ?_) he hpl
  obtain ⟨vs, H1, I1, r1, v, ev, q1⟩ := hh
  subst ev
  refine ⟨I1.kIn, ?_⟩
  cases r1 with
  | cons rv rn =>
    rename_i v' us'
    cases rn
    show wpAny _ _ (call (.ref C) [v']) _ _ _
    have hlim := I1.nolimit
    obtain ⟨mb, b1, b2⟩ := I1.mod.blt
    have hgl := I1.mod.glob.keeps I1.bk
    have hbl := b1.keeps I1.bk
    have hmb : mb "super" = some (.type "super") := (b2 "super" (by decide)).trans Boot.«super»
    obtain ⟨hp, g, dr, tk, os⟩ := s1
    refine wpAny_call (dg_made T I1.kIn hlim hgl hbl hmb (by have := hr.dp; omega) fun h' tk' e d M => ?_)
    show MkP X pins σ Q (.ref e) ⟨h', g, dr, tk', os⟩
    obtain ⟨oe, fv, hoe, hc, hd, hdat, h1⟩ := M.obj
    have hns := M.ns
    obtain ⟨G', g1, g2⟩ := restrict h' fun b => decide (b ≠ e)
    have gk : ∀ b, b ≠ e → G'.get? b = h'.get? b := fun b hb => g1 b (decide_eq_true hb)
    have ge : G'.get? e = none := g2 e (by simp)
    have old : ∀ b o, hp.get? b = some o → G'.get? b = some o := fun b o q => (gk b (Nat.ne_of_lt (Nat.lt_of_lt_of_le (Heap.lt_size q) M.new))).trans (M.keep b o q)
    have ob : ObjOk X.prog X.w (upd H1 d (.xd [(("reason" : Str), v)])) G' d (.xd [(("reason" : Str), v)]) :=
      ⟨_, hns.at (fun o q => (gk d M.dne).trans q), fun f => relO_dg rv f⟩
    have J : Inv X pins σ (upd H1 d (.xd [(("reason" : Str), v)])) ⟨G', g, dr, tk', os⟩ := I1.laid (t' := tk') old M.dbig ob
    refine ⟨e, oe, fv, ⟨G', g, dr, tk', os⟩, _, .ref C, some d, rfl, J, fun b o q => ?_, ge, hoe, ⟨hc, hd⟩, hdat, h1, ?_, rfl, I1.bare, raises_own T.exC T.tyC, q1 d (I1.hok.fresh M.dbig)⟩
    · by_cases hb : b = e
      · have q' : G'.get? b = some o := q
        rw [hb, ge] at q'; cases q'
      · exact (gk b hb).symm.trans q
    · rw [upd_ne (Ne.symm M.dne)]
      exact I1.hok.fresh M.new
end
/-! ### raise DragError(e) -/
def raiseM (m : EM) : SM := fun ρ => (m ρ).bind fun d ρ1 => match d with
  | .str z => .ex z ρ1
  | _ => .bad
section
variable {X : Cx} {W : WX} {S S1 S2 SA : List Nat} {C fI : Addr}
theorem vs_raise {a : Expr} {m : EM} {p pos pos2 : Pos} {k : Nat} (hc : X.calm = true) (T : DgTxt X.prog X.K X.mg C fI) (hr : Room k X.A) (tk : Takes X W) (h : VE X C W S a m) (hg : Gl X "DragError" := by rfl)
    (hs : starEach (a :: []) X.env = (false, eval a X.env) :: starEach [] X.env := by rfl) (hpl : (backTo pos (starEach [] X.env)).any (·.1) = false := by rfl) :
    VS X C W SA (.Raise (some (.Call (.Name "DragError" p) [a] [] pos)) none pos2) (raiseM m) := PS.imp (ps_raise hc tk (pmk_dg T hr (pa_cons h pa_nil hs) hg hs hpl)) fun E σ H q =>
  tv_s q fun d ρ1 v H1 F1 T er1 r dj l _ ⟨F0, H0, q, g, new⟩ => ⟨v, rfl, fun dd nD => by
    cases d with
    | str z =>
      have ev : v = .str z := r
      subst ev
      have t0 : AftT E0 H1 (upd H1 dd (.xd [(("reason" : Str), .str z)])) E0 := ⟨fun a o e _ => by rw [upd_ne (by rintro rfl; rw [nD] at e; cases e)]; exact e, fun _ h => h.elim, fun _ h => h.elim, fun a e => by
        by_cases z : a = dd
        · subst z; exact nD
        · rw [upd_ne z] at e; exact e⟩
      have er2 := er1.step Live.e0 (fun _ => Dj.e0) t0
      exact q dd σ _ F1 er2 upd_same ⟨fun a o e n => t0.keep a o (g.keep a o e n) id, g.sub, fun a e => g.dom a (t0.dom a e)⟩ .refl
    | _ => exact q.elim⟩
end
end VS
set_option Elab.async false
set_option linter.all false
set_option maxRecDepth 100000
set_option maxHeartbeats 4000000
/-! VS18: try: .. except DragError as e: return e.reason. -/
namespace VS
open PySem PySem.W PySem.Calls PySem.Spec PyProof.Rows PySem.HandSPX L2
section
variable {X : Cx} {C fI : Addr}
/-- e.reason, e the exception that the suite holds (at a; its class cls, its dict d) -/
def tReason (C : Addr) (a : Addr) (cls : Value) (d : Option Addr) (te : TE) : TE := fun σ H Q => te σ H fun x H1 => x = .ref a ∧ cls = .ref C ∧ ∃ (dd : Addr) (v : V), d = some dd ∧ H1 dd = some (.xd [(("reason" : Str), v)]) ∧ Q v H1
theorem pe_reason {a : Addr} {oe : Obj} {cls : Value} {d : Option Addr} {pn : List (Addr × Obj)} {e : Expr} {te : TE} {pos : Pos} (T : DgTxt X.prog X.K X.mg C fI) (hz : Zc cls d oe) (hf : ∃ vs, oe.data = .fields vs) (he : PE (X.suite a ((a, oe) :: pn)) e te)
    (hb : attributeBase e "reason" X.env (eval e X.env) = eval e X.env := by rfl) :
    PE (X.suite a ((a, oe) :: pn)) (.Attribute e "reason" pos) (tReason C a cls d te) := by
  refine ⟨fun pins s σ H Q I h => ?_⟩
  refine attr_of hb (thn (he.run pins s σ H _ I h) fun u s1 hh => ?_)
  obtain ⟨x, H1, I1, rx, ex, ec, dd, v, ed, ea, q⟩ := hh
  subst ex
  obtain rfl : u = Value.ref a := rx
  subst ec
  subst ed
  obtain ⟨ha, _⟩ := I1.pin (a, oe) (List.mem_append_left _ List.mem_cons_self)
  obtain ⟨vs, hd⟩ := hf
  have hx : ObjOk X.prog X.w H1 s1.heap dd (.xd [(("reason" : Str), v)]) := I1.hok dd _ ea
  obtain ⟨mA, hns, hr⟩ := hx
  obtain ⟨od, ho, hl⟩ := lookIn_ns hns
  have l : List.lookup ("reason" : Str) [(("reason" : Str), v)] = some v := by simp [List.lookup]
  obtain ⟨u, hu, ru⟩ := RelO.some_of (v := v) (o := mA "reason") (by rw [← l]; exact hr "reason")
  have J : PySem.W.InstAt s1.heap a oe C (some od) := ⟨ha, hz.1, by unfold PySem.W.notCls; rw [hd] <;> rfl, by rw [hz.2]; exact ho⟩
  exact HandSPX.exc_get I1.kIn J T.ga T.gg T.exC (PySem.W.findObj_own T.hdC T.noN rfl (by rw [hl, hu])) (handed_of ru) ⟨v, H1, I1.tok _, ru, q⟩
end
def tryM (i : Nat) (m : SM) : SM := fun ρ => match m ρ with
  | .ex z ρ1 => if i < ρ1.length then .ok (.ret (.str z)) ρ1 else .bad
  | r => r
section
variable {X : Cx} {Wo : WX} {S S1 S2 SA : List Nat} {C fI : Addr} {n : Str} {i : Nat} {np p1 p2 p3 pos pos' : Pos} {body : List Stmt} {m : SM}
theorem vs_try (T : DgTxt X.prog X.K X.mg C fI) (hs : X.stack = X.env :: X.outer) (hf : X.env.frame = some X.env.locals) (hN : X.N.Nodup) (hi : X.N[i]? = some n) (hln : X.env.kindOf n = some .local) (hc : Names X "DragError" (.ref C)) (tk : Takes X Wo)
    (hv : ∀ a pn, PE (X.suite a pn) (.Name n p1) (tVar i))
    (hb : ∀ (W : WX) (pn : List (Addr × Obj)) (xe : Value → Shared → Prop), Takes (X.tr pn xe) W → PassesOwn (model X.prog X.w) X.A X.env xe → VSs (X.tr pn xe) C W SA body m)
    (hat : attributeBase (.Name n p1) "reason" X.env (eval (.Name n p1) X.env) = eval (.Name n p1) X.env := by rfl) :
    VS X C Wo SA (.Try body [.ExceptHandler (some (.Name "DragError" np)) (some n) [.Return (some (.Attribute (.Name n p1) "reason" p2)) p3] pos'] [] [] pos) (tryM i m) := by
  refine PS.imp (ps_try_as (i := i) (tb := fun W => TVS X.K X.mg C W SA m) (ts := fun a cls d => tRet (tReason C a cls d (tVar i))) (Wout := Wo) hs hf hN hi hln hc tk hb fun a oe cls d pn hz hf => pss_one (ps_ret (pe_reason T hz hf (hv _ _) hat))) fun E σ H ⟨ρ, F, er, q⟩ => ⟨ρ, F, er, ?_⟩
  unfold tryM at q
  cases e1 : m ρ with
  | bad => rw [e1] at q; exact q
  | ok f ρ1 =>
    rw [e1] at q
    cases f <;> exact q
  | ex z ρ1 =>
    rw [e1] at q
    intro dd σ' H' F' er' x g ag
    refine ⟨true, T.te, fun _ a hna => ?_, fun h => Bool.noConfusion h⟩
    dsimp only at q
    by_cases lt : i < ρ1.length
    · rw [if_pos lt] at q
      refine ⟨.ref a, List.getElem?_set_self (by rw [← er'.len]; exact lt), rfl, rfl, dd, .str z, rfl, x, ?_⟩
      exact q (.str z) σ' H' F' E0 er' rfl ⟨g, fun _ h => h.elim, fun _ => Dj.e0, Live.e0⟩ ag
    · rw [if_neg lt] at q; exact q.elim
end
end VS
set_option Elab.async false
set_option linter.all false
set_option maxRecDepth 100000
set_option maxHeartbeats 4000000
/-! VS19: slices, list * int, a op b op c, isinstance(x, (T, U)), global constants. -/
namespace VS
open PySem PySem.Spec PyProof.Rows L2
section
variable {K : PySem.W.Frag} {mg : Str → Option Value} {eC : Addr} {W : WX} {S S1 S2 S3 : List Nat} {σ : L2.St} {H : Hp}
theorem tvt_seq {α β : Type} {pl : M α} {ph : M β} {Q : α × β → Hp → Prop} (q : TVt K mg eC W (S1 ++ S2) (fun ρ => (pl ρ).bind fun l ρ1 => (ph ρ1).bind fun u ρ2 => .ok (l, u) ρ2) σ H Q) :
    TVt K mg eC W S1 pl σ H fun l H1 => TVt K mg eC W S2 ph σ H1 fun u H2 => Q (l, u) H2 := by
  obtain ⟨ρ, F, er, q⟩ := q
  refine ⟨ρ, F, er, ?_⟩
  dsimp only at q
  cases e1 : pl ρ with
  | bad => rw [e1] at q; exact q
  | ex z ρ1 => rw [e1] at q; exact fun dd H' F' er' x g => q dd H' F' er' x (g.more fun j hj => List.mem_append_left _ hj)
  | ok l ρ1 =>
    rw [e1] at q
    intro H1 F1 er1 g1
    refine ⟨ρ1, F1, er1, ?_⟩
    simp only [Res.bind_ok] at q
    cases e2 : ph ρ1 with
    | bad => rw [e2] at q; exact q
    | ex z ρ2 => rw [e2] at q; exact fun dd H' F' er' x g => q dd H' F' er' x (g1.trans g)
    | ok u ρ2 =>
      rw [e2] at q
      exact fun H2 F2 er2 g2 => q H2 F2 er2 (g1.trans g2)
theorem tv_then {β : Type} {m : EM} {p : M β} {f : D → β → Option D} {r : V → β → Hp → VK → Prop} {Q : VK} (h : ∀ b, VUn K mg (fun v H Q => r v b H Q) (fun d => f d b))
    (q : TV K mg eC W (S1 ++ S2) (fun ρ => (m ρ).bind fun d ρ1 => (p ρ1).bind fun b ρ2 => Res.of (f d b) ρ2) σ H Q) : TV K mg eC W S1 m σ H fun v H1 => TVt K mg eC W S2 p σ H1 fun b H2 => r v b H2 Q := by
  obtain ⟨ρ, F, er, q⟩ := q
  refine ⟨ρ, F, er, ?_⟩
  dsimp only at q
  cases e1 : m ρ with
  | bad => rw [e1] at q; exact q
  | ex z ρ1 => rw [e1] at q; exact fun dd H' F' er' x g => q dd H' F' er' x (g.more fun j hj => List.mem_append_left _ hj)
  | ok d1 ρ1 =>
    rw [e1] at q
    intro v1 H1 F1 T1 er1 r1 g1
    refine ⟨ρ1, F1, er1, ?_⟩
    simp only [Res.bind_ok] at q
    cases e2 : p ρ1 with
    | bad => rw [e2] at q; exact q
    | ex z ρ2 => rw [e2] at q; exact fun dd H' F' er' x g => q dd H' F' er' x (g1.toAft.trans g)
    | ok b ρ2 =>
      rw [e2] at q
      intro H2 F2 er2 g2
      simp only [Res.bind_ok] at q
      cases e3 : f d1 b with
      | none => rw [e3] at q; exact q.elim
      | some d =>
        rw [e3] at q
        have kp := g2.kp er1 g1.dj
        refine h b d1 d v1 T1 H2 Q e3 (Rep.keep d1 r1 kp) (g1.live.keep kp) fun v H' T rv t => ?_
        have dT : ∀ j, Dj T1 (F2 j) := fun j => g2.djP g1.live g1.dj j
        have lT : Live H2 T1 := g1.live.keep kp
        have g12 := g1.toAft.trans g2
        exact q v H' F2 T (er2.step lT dT t) rv (Got.step g12 er2 dT (fun a x => (g1.new a x).imp (fun ⟨k, hk, y⟩ => ⟨k, List.mem_append_left _ hk, y⟩) id) t)
end
/-! ### slices -/
def partM : EM → M (Option Int) := fun m ρ => (m ρ).bind fun d ρ1 => match d with
  | .int i => .ok (some i) ρ1
  | _ => .bad
abbrev VPt (X : Cx) (eC : Addr) (W : WX) (S : List Nat) (e : Option Expr) (m : M (Option Int)) : Prop := PO X e (TVt X.K X.mg eC W S m)
theorem PO.imp {X : Cx} {e : Option Expr} {t t' : TO} (h : PO X e t) (i : ∀ σ H Q, t' σ H Q → t σ H Q) : PO X e t' := ⟨fun pins s σ H Q I q => h.run pins s σ H Q I (i σ H Q q)⟩
def cutD (ds : List D) (lo hi : Option Int) : List D := (ds.drop (HT.sIx ds.length 0 lo)).take (HT.sIx ds.length ds.length hi - HT.sIx ds.length 0 lo)
def slD (d : D) (p : Option Int × Option Int) : Option D := match d with
  | .lst _ ds => some (.lst true (cutD ds p.1 p.2))
  | .rol ds => some (.lst true (cutD ds p.1 p.2))
  | .tup ds => some (.tup (cutD ds p.1 p.2))
  | _ => none
def slM (m : EM) (pl ph : M (Option Int)) : EM := fun ρ => (m ρ).bind fun d ρ1 => ((pl ρ1).bind fun l ρ2 => (ph ρ2).bind fun u ρ3 => .ok (l, u) ρ3).bind fun b ρ2 => Res.of (slD d b) ρ2
section
variable {K : PySem.W.Frag} {mg : Str → Option Value} {H : Hp}
theorem Reps.cut {ds : List D} {xs : List V} {A : AS} (lo hi : Option Int) (r : Reps K mg H ds xs A) : Reps K mg H (cutD ds lo hi) (cutV xs lo hi) A := by
  unfold cutD cutV
  rw [r.length]
  exact (r.drop _).take _
theorem vun_sl (b : Option Int × Option Int) : VUn K mg (fun v H Q => rSlL K v b.1 b.2 H Q ∨ rSlA K v b.1 b.2 H Q) (fun d => slD d b) := by
  intro d1 d v T1 H Q e r l q
  have newL : ∀ {ds : List D} {xs : List V}, Reps K mg H ds xs T1 → ∀ p, H p = none → (∀ v H' T, Rep K mg H' (.lst true (cutD ds b.1 b.2)) v T → AftT T1 H H' T → Q v H') → Q (.ref p) (upd H p (.lst (cutV xs b.1 b.2))) := fun {ds xs} r p np q =>
    q _ _ (fun a => T1 a ∨ a = p) ⟨p, _, rfl, upd_same, .inr rfl, (Reps.keep _ (r.cut b.1 b.2) (kp_new np)).mono fun a x => ⟨.inl x, not_new np l x⟩⟩ (.new np trivial l Sub.rfl)
  unfold slD at e; dsimp only at e
  split at e
  · cases e
    obtain ⟨a, xs, rfl, s, r⟩ := r.lstAt
    exact .inl ⟨a, xs, rfl, s.elim .of fun h => h.sq, fun p np => newL r p np q⟩
  · cases e
    obtain ⟨a, xs, rfl, s, r⟩ := r
    exact .inl ⟨a, xs, rfl, s.sq, fun p np => newL (r.mono Sub.e0) p np q⟩
  · cases e
    obtain ⟨a, xs, rfl, s, r⟩ := r
    refine .inr ⟨a, xs, rfl, s, fun hw => ?_, fun hw p np => ?_⟩
    · have e0 : ∀ {α : Type} (l : List α), l.length = xs.length → (l.drop (HT.sIx l.length 0 b.1)).take (HT.sIx l.length l.length b.2 - HT.sIx l.length 0 b.1) = l := fun l hl => by
        rw [hl, hw.1, hw.2, List.drop_zero, Nat.sub_zero, List.take_of_length_le (by omega)]
      refine q _ H T1 ⟨a, xs, rfl, s, ?_⟩ (.same l Sub.rfl)
      show Reps K mg H (cutD _ _ _) xs T1
      have : cutD _ b.1 b.2 = _ := e0 _ r.length.symm
      rw [this]; exact r
    · exact q _ _ T1 ⟨p, _, rfl, .of upd_same, Reps.keep _ (r.cut b.1 b.2) (kp_new np)⟩ (.newF np l Sub.rfl)
  · cases e
end
section
variable {X : Cx} {eC : Addr} {W : WX} {S S1 S2 S3 : List Nat} {pos p2 p3 p1 : Pos}
theorem vpt_none : VPt X eC W [] none (fun ρ => .ok none ρ) := PO.imp po_none fun σ H Q ⟨ρ, F, er, q⟩ => q H F er .refl
theorem vpt_some {e : Expr} {m : EM} (h : VE X eC W S e m) : VPt X eC W S (some e) (partM m) := PO.imp (po_some h) fun σ H Q ⟨ρ, F, er, q⟩ => by
  refine ⟨ρ, F, er, ?_⟩
  unfold partM at q
  cases e1 : m ρ with
  | bad => rw [e1] at q; exact q
  | ex z ρ1 => rw [e1] at q; exact q
  | ok d ρ1 =>
    rw [e1] at q
    intro v H1 F1 T er1 r g
    simp only [Res.bind_ok] at q
    cases d with
    | int i => exact ⟨i, r, q H1 F1 er1 g.toAft⟩
    | _ => exact q.elim
theorem ve_sl {e : Expr} {lo hi : Option Expr} {m : EM} {pl ph : M (Option Int)} (he : VE X eC W S1 e m) (hl : VPt X eC W S2 lo pl) (hh : VPt X eC W S3 hi ph) : VE X eC W (S1 ++ (S2 ++ S3)) (.Subscript e (.Slice lo hi none p2) pos) (slM m pl ph) :=
  PE.imp (pe_slice (sl_list.or sl_tupA) he hl hh) fun σ H Q q => by
    obtain ⟨ρ, F, er, q⟩ := tv_then (S1 := S1) (S2 := S2 ++ S3) (r := fun v (b : Option Int × Option Int) H Q => rSlL X.K v b.1 b.2 H Q ∨ rSlA X.K v b.1 b.2 H Q) (f := slD) vun_sl q
    refine ⟨ρ, F, er, ?_⟩
    cases e1 : m ρ with
    | bad => rw [e1] at q; exact q
    | ex z ρ1 => rw [e1] at q; exact q
    | ok d ρ1 =>
      rw [e1] at q
      exact fun v H1 F1 T er1 r g => tvt_seq (q v H1 F1 T er1 r g)
/-- e[::-1] of a list -/
def revD : D → Option D
  | .lst _ ds => some (.lst true ds.reverse)
  | .rol ds => some (.lst true ds.reverse)
  | _ => none
theorem Reps.reverse {K : PySem.W.Frag} {mg : Str → Option Value} {H : Hp} : ∀ {ds : List D} {xs : List V} {A : AS}, Reps K mg H ds xs A → Reps K mg H ds.reverse xs.reverse A
  | [], _, _, h => by cases h; exact rfl
  | d :: ds, _, A, ⟨x, ys, A1, A2, e, s1, s2, dj, r1, r2⟩ => by
    cases e
    rw [List.reverse_cons, List.reverse_cons]
    exact Reps.append (Reps.reverse r2) (Reps.sing r1) (fun a h g => dj a g h) s2 s1
theorem ve_rev {e : Expr} {m : EM} {k : Nat} (he : VE X eC W S e m) : VE X eC W S (.Subscript e (.Slice none none (some (.UnaryOp .USub (.Constant (.int 1) k p1) p2)) p3) pos) (unM revD m) := PE.imp (pe_revL he) fun σ H Q q => by
  refine tv_un (r := fun v H Q => ∃ a xs, v = .ref a ∧ SqL X.K H a xs ∧ ∀ p, H p = none → Q (.ref p) (upd H p (.lst xs.reverse))) (f := revD) (fun d1 d v T1 H Q e r l q => ?_) q
  have newL : ∀ {ds : List D} {xs : List V}, Reps X.K X.mg H ds xs T1 → ∀ p, H p = none → (∀ v H' T, Rep X.K X.mg H' (.lst true ds.reverse) v T → AftT T1 H H' T → Q v H') → Q (.ref p) (upd H p (.lst xs.reverse)) := fun {ds xs} r p np q =>
    q _ _ (fun a => T1 a ∨ a = p) ⟨p, _, rfl, upd_same, .inr rfl, (Reps.keep _ r.reverse (kp_new np)).mono fun a x => ⟨.inl x, not_new np l x⟩⟩ (.new np trivial l Sub.rfl)
  unfold revD at e
  split at e
  · cases e
    obtain ⟨a, xs, rfl, s, r⟩ := r.lstAt
    exact ⟨a, xs, rfl, s.elim .of fun h => h.sq, fun p np => newL r p np q⟩
  · cases e
    obtain ⟨a, xs, rfl, s, r⟩ := r
    exact ⟨a, xs, rfl, s.sq, fun p np => newL (r.mono Sub.e0) p np q⟩
  · cases e
end
end VS
set_option Elab.async false
set_option linter.all false
set_option maxRecDepth 100000
set_option maxHeartbeats 4000000
/-! VS20: list * int, a op b op c, isinstance(x, (T, U)), global constants. -/
namespace VS
open PySem PySem.Spec PyProof.Rows L2
def rRepF : R2 := fun x y H Q => ∃ l k xs, x = .ref l ∧ y = .int k ∧ LstAt H l xs ∧ -(2 ^ 63) ≤ k ∧ k < 2 ^ 63 ∧ xs.length * k.toNat ≤ sizeLine ∧
  ∀ p, H p = none → Q (.ref p) (upd H p (.lst (List.replicate k.toNat xs).flatten))
theorem op_repF {X : Cx} : OpR X (binaryOp .Mult) rRepF := by
  intro pins s σ H x y v u Q I rx ry h
  obtain ⟨l, k, xs, rfl, rfl, hH, h1, h2, hz, q⟩ := h
  cases rx
  obtain ⟨t, rfl⟩ := ry
  obtain ⟨z, its, n, r, hl, e⟩ := hH.obj I
  have hlen : its.toArray.size * k.toNat ≤ sizeLine := by rw [List.size_toArray, ← hl]; exact hz
  have hcap : ¬ its.toArray.size * k.toNat > (2 ^ 63 - 1) / 8 := by
    have : (sizeLine : Nat) ≤ (2 ^ 63 - 1) / 8 := by decide
    omega
  have hfit : ¬ (!Builtin.List.listFitsIndex k) = true := by
    rw [fitsIndex_both h1 h2]
    exact Bool.false_ne_true
  have hlong : ¬ Builtin.List.listTooLong (its.toArray.size * k.toNat) = true := by
    rw [notLongL hlen]
    exact Bool.false_ne_true
  have hnew : List.foldl (fun x1 x2 => x1 ++ x2) #[] (List.replicate (if its.toArray.isEmpty = true then 0 else k.toNat) its.toArray) = (List.replicate k.toNat its).flatten.toArray := by
    have f0 : ∀ m : Nat, List.foldl (fun x1 x2 => x1 ++ x2) #[] (List.replicate m its.toArray) = (List.replicate m its).flatten.toArray := fun m => by
      have := foldl_rep its m []
      rw [List.nil_append] at this
      exact this
    rw [f0]
    cases its with
    | nil => simp
    | cons a r' => rw [if_neg (by simp)]
  refine wpAny_binaryOp_repeat_ref (T := "list") (U := "int") (by decide) ⟨_, e, rfl⟩ (fun s' => typeIs_int s' k t) noFill_list_mul PySem.F.fills_int_mul PySem.F.slot_int_rmul repeat_list PySem.F.slot_int_index.lookup
    (call_meets PySem.F.slot_int_rmul (typeIs_int s k t) PySem.F.entry_int_rmul (PySem.F.args_int_rmul_2 _ _) (int___rmul___int_list k t l its.toArray n)
      ⟨e, rfl, ⟨_, e, rfl⟩, call_meets PySem.F.slot_list_mul ⟨_, e, rfl⟩ PySem.F.entry_list_mul (PySem.F.args_list_mul_2 _ _) (AutoListH.list___mul___list_int_3 l its.toArray n k t hfit hcap hlong) ⟨e, ?_⟩⟩)
  rw [hnew]
  exact ⟨.ref _, _, I.lnew (t' := s.toks) (r.rep k.toNat) (by rw [PyProof.Rows.lm_len_rep_flat, Nat.mul_comm]; exact hz), rfl, q _ I.fresh⟩
def repD : D → D → Option D
  | .lst _ ds, .int k => if pures? ds = true ∧ -(10 ^ 6) < k ∧ k < 10 ^ 6 ∧ ds.length * k.toNat ≤ big then some (.lst true (List.replicate k.toNat ds).flatten) else none
  | _, _ => none
section
variable {K : PySem.W.Frag} {mg : Str → Option Value}
theorem Reps.fixedS {H : Hp} : ∀ {ds : List D} {xs : List V} {A : AS}, pures? ds = true → Reps K mg H ds xs A → Reps K mg H ds xs E0
  | [], _, _, _, h => h
  | d :: ds, _, A, p, ⟨x, ys, A1, A2, e, s1, s2, dj, r1, r2⟩ => by
    unfold pures? at p
    rw [Bool.and_eq_true] at p
    exact ⟨x, ys, E0, E0, e, Sub.rfl, Sub.rfl, Dj.e0, r1.fixed d p.1, Reps.fixedS p.2 r2⟩
theorem Reps.rep {H : Hp} {ds : List D} {xs : List V} (r : Reps K mg H ds xs E0) : ∀ n, Reps K mg H (List.replicate n ds).flatten (List.replicate n xs).flatten E0
  | 0 => rfl
  | n + 1 => by
    rw [List.replicate_succ, List.replicate_succ, List.flatten_cons, List.flatten_cons]
    exact Reps.append r (Reps.rep r n) Dj.e0 Sub.rfl Sub.rfl
theorem vop_rep : VOp K mg rRepF repD := by
  intro d1 d2 d v1 v2 T1 T2 H Q e r1 r2 dj l1 l2 q
  unfold repD at e
  split at e
  · split at e
    · rename_i m ds k h
      obtain ⟨hp, h1, h2, h3⟩ := h
      cases e
      cases (show v2 = .int k from r2)
      obtain ⟨a, xs, rfl, s, r⟩ := r1.lstAt
      refine ⟨a, k, xs, rfl, rfl, s, by omega, by omega, by rw [r.length]; exact big_line h3, fun p np => ?_⟩
      have r' := Reps.rep (Reps.keep _ (Reps.fixedS hp r) (kp_new (o := .lst (List.replicate k.toNat xs).flatten) np)) k.toNat
      exact q _ _ (fun a => E0 a ∨ a = p) ⟨p, _, rfl, upd_same, .inr rfl, r'.mono Sub.e0⟩ (.new np trivial Live.e0 Sub.e0)
    · cases e
  · cases e
end
/-! ### a op b op c -/
def chnM (f g : Int → Int → Bool) (ma mb mc : EM) : EM := fun ρ => (ma ρ).bind fun d1 ρ1 => (mb ρ1).bind fun d2 ρ2 => match d1, d2 with
  | .int i, .int j => if f i j = true then (mc ρ2).bind fun d3 ρ3 => match d3 with
      | .int k => .ok (.bl (g j k)) ρ3
      | _ => .bad
    else .ok (.bl false) ρ2
  | _, _ => .bad
section
variable {X : Cx} {eC : Addr} {W : WX} {S S1 S2 S3 : List Nat} {pos p2 p3 p1 : Pos}
theorem ve_chn {op op' : CmpOp} {f g : Int → Int → Bool} {a b c : Expr} {ma mb mc : EM} (ho : OpR X (compareOp op) (rI0 fun i j => .bl (f i j))) (ho' : OpR X (compareOp op') (rI0 fun i j => .bl (g i j))) (ha : VE X eC W S1 a ma) (hb : VE X eC W S2 b mb) (hc : VE X eC W S3 c mc)
    (hm : lastMarks [op, op'] [b, c] = false := by with_unfolding_all rfl) : VE X eC W (S1 ++ (S2 ++ S3)) (.Compare a [op, op'] [b, c] pos) (chnM f g ma mb mc) := PE.imp (pe_chain ho ho' ha hb hc hm) fun σ H Q ⟨ρ, F, er, q⟩ => by
  refine ⟨ρ, F, er, ?_⟩
  unfold chnM at q
  cases e1 : ma ρ with
  | bad => rw [e1] at q; exact q
  | ex z ρ1 => rw [e1] at q; exact fun dd H' F' er' x g => q dd H' F' er' x (g.more fun j hj => List.mem_append_left _ hj)
  | ok d1 ρ1 =>
    rw [e1] at q
    intro v1 H1 F1 T1 er1 r1 g1
    refine ⟨ρ1, F1, er1, ?_⟩
    simp only [Res.bind_ok] at q
    cases e2 : mb ρ1 with
    | bad => rw [e2] at q; exact q
    | ex z ρ2 => rw [e2] at q; exact fun dd H' F' er' x g => q dd H' F' er' x ((g1.toAft.trans g).more fun j hj => (List.mem_append.mp hj).elim (List.mem_append_left _) fun h => List.mem_append_right _ (List.mem_append_left _ h))
    | ok d2 ρ2 =>
      rw [e2] at q
      intro v2 H2 F2 T2 er2 r2 g2
      simp only [Res.bind_ok] at q
      cases d1 with
      | int i => cases d2 with
        | int j =>
          dsimp only at q
          cases (show v1 = .int i from r1)
          cases (show v2 = .int j from r2)
          refine ⟨i, j, rfl, rfl, f i j, rfl, ?_⟩
          have g12 := g1.toAft.trans g2.toAft
          by_cases c : f i j = true
          · rw [if_pos c] at q
            rw [if_pos c]
            refine ⟨ρ2, F2, er2, ?_⟩
            cases e3 : mc ρ2 with
            | bad => rw [e3] at q; exact q
            | ex z ρ3 => rw [e3] at q; exact fun dd H' F' er' x g => q dd H' F' er' x (by rw [← List.append_assoc]; exact g12.trans g)
            | ok d3 ρ3 =>
              rw [e3] at q
              intro v3 H3 F3 T3 er3 r3 g3
              simp only [Res.bind_ok] at q
              cases d3 with
              | int k =>
                refine ⟨j, k, rfl, r3, ?_⟩
                exact q _ H3 F3 E0 er3 rfl ⟨by rw [← List.append_assoc]; exact g12.trans g3.toAft, fun _ h => h.elim, fun _ => Dj.e0, Live.e0⟩
              | _ => exact q.elim
          · rw [if_neg c] at q
            rw [if_neg c]
            exact q _ H2 F2 E0 er2 rfl ⟨g12.more fun j hj => (List.mem_append.mp hj).elim (List.mem_append_left _) fun h => List.mem_append_right _ (List.mem_append_left _ h), fun _ h => h.elim, fun _ => Dj.e0, Live.e0⟩
        | _ => exact q.elim
      | _ => exact q.elim
/-! ### isinstance(e, (T, U)) -/
theorem ve_isi2 {e : Expr} {m : EM} {x y : Str} {Tx Ty : String} {k : Nat} {p p2 p3 p4 pos : Pos} (hTx : Tx ∈ ["bool", "int", "str", "tuple", "list"]) (hTy : Ty ∈ ["bool", "int", "str", "tuple", "list"]) (hx : X.mg x = none) (hgx : Gl X x) (hvx : bootBuiltins x = some (.type Tx)) (hy : X.mg y = none) (hgy : Gl X y) (hvy : bootBuiltins y = some (.type Ty))
    (hg2 : Gl X "isinstance") (hm2 : X.mg "isinstance" = none) (hv2 : bootBuiltins "isinstance" = some (.builtin "isinstance")) (he : VE X eC W S e m) (hnx : x ≠ "__name__") (hny : y ≠ "__name__") (hdx : (x == ("__debug__" : Str)) = false) (hdy : (y == ("__debug__" : Str)) = false)
    (hb : PE X (.Call (.Name "isinstance" p) [e, .Tuple [.Name x p2, .Name y p3] k p4] [] pos) (tCB (rIsiT X.K) (tCons (TV X.K X.mg eC W S m) (tCons (tTup (tCons (tC (.ty Tx)) (tCons (tC (.ty Ty)) tNil))) tNil))) := by
      exact pe_callB call_isiT hg2 hm2 hv2 (pa_cons he (pa_cons (pe_tup (pa_cons (pe_bltn hgx hx hvx rfl hnx hdx) (pa_cons (pe_bltn hgy hy hvy rfl hny hdy) pa_nil))) pa_nil))) :
    VE X eC W S (.Call (.Name "isinstance" p) [e, .Tuple [.Name x p2, .Name y p3] k p4] [] pos) (unM (isiD [Tx, Ty]) m) := PE.imp hb fun σ H Q q => by
  refine tv_un (r := fun v H Q => [V.ty Tx, V.ty Ty].length ≤ sizeLine ∧ ∀ p, H p = none → rIsiT X.K [v, .ref p] (upd H p (.tup [.ty Tx, .ty Ty])) Q) (f := isiD [Tx, Ty]) (fun d1 d v T1 H Q e r l q => ?_) q
  simp only [isiD, Option.map_eq_some_iff] at e
  obtain ⟨n, e, rfl⟩ := e
  refine ⟨by rw [sizeLine_eq]; exact (by decide : 2 ≤ 16777216), fun p np => ⟨v, p, _, .type n, [.type Tx, .type Ty], _, rfl, upd_same, .cons (.ty Tx) (.cons (.ty Ty) .nil), (Rep.keep d1 r (kp_new np)).tyx e, kitAny_of (tyD_mem e) [Tx, Ty] (fun T h => ?_), ?_⟩⟩
  · rcases List.mem_cons.mp h with rfl | h
    · exact hTx
    · rcases List.mem_cons.mp h with rfl | h
      · exact hTy
      · cases h
  · exact q _ _ E0 rfl (.newF np Live.e0 Sub.e0)
/-! ### global constants -/
def cM (d : D) : EM := fun ρ => .ok d ρ
/-- what a value of the written part stands for -/
inductive KRep (K : PySem.W.Frag) : D → V → Value → Prop where
  | non : KRep K .non .non .none
  | bl (b : Bool) : KRep K (.bl b) (.bl b) (.bool b)
  | int (i : Int) (t : Tok) : KRep K (.int i) (.int i) (.int i t)
  | str (z : Str) (t : Tok) : KRep K (.str z) (.str z) (.str z t)
  | tup {a : Addr} {ds : List D} {xs : List V} : (∀ H : Hp, SqT K H a xs) → (∀ H : Hp, ∀ mg, Reps K mg H ds xs E0) → KRep K (.tup ds) (.ref a) (.ref a)
theorem KRep.rep {K : PySem.W.Frag} {mg : Str → Option Value} {H : Hp} {d : D} {v : V} {u : Value} (h : KRep K d v u) : Rep K mg H d v E0 := by
  cases h with
  | non => rfl
  | bl b => rfl
  | int i t => rfl
  | str z t => rfl
  | tup h1 h2 => exact ⟨_, _, rfl, h1 H, h2 H mg⟩
theorem KRep.rel {K : PySem.W.Frag} {d : D} {v : V} {u : Value} (h : KRep K d v u) : RelV v u := by
  cases h with
  | non => rfl
  | bl b => rfl
  | int i t => exact ⟨t, rfl⟩
  | str z t => exact ⟨t, rfl⟩
  | tup h1 h2 => rfl
theorem ve_glob {x : Str} {d : D} {v : V} {u : Value} (hg : Gl X x) (hm : X.mg x = some u) (r : KRep X.K d v u) (hd : (x == ("__debug__" : Str)) = false := by decide) : VE X eC W [] (.Name x pos) (cM d) :=
  PE.imp (pe_glob hg hm r.rel hd) fun σ H Q ⟨ρ, F, er, q⟩ => q v H F E0 er r.rep .refl
end
end VS
set_option Elab.async false
set_option linter.all false
set_option maxRecDepth 100000
set_option maxHeartbeats 4000000
/-! VS21: is None; rules with their usual parts, for gen.py. -/
namespace VS
open PySem PySem.Spec PyProof.Rows L2
def nonM : EM := fun ρ => .ok .non ρ
def intM (i : Int) : EM := fun ρ => .ok (.int i) ρ
def blM (b : Bool) : EM := fun ρ => .ok (.bl b) ρ
def strM (z : Str) : EM := fun ρ => .ok (.str z) ρ
section
variable {X : Cx} {eC : Addr} {W : WX} {S S1 S2 SA : List Nat} {pos p2 : Pos}
theorem ve_isN {a : Expr} {k : Nat} {m : EM} (ha : VE X eC W S a m) : VE X eC W S (.Compare a [.Is] [.Constant .none k p2] pos) (unM (isN false) m) :=
  PE.imp (pe_cmpR op_isN ha pe_non (by rfl)) fun σ H Q q => tv_un (r := fun v H Q => V.non = V.non ∧ Q (.bl (decide (v = .non))) H) (f := isN false) (fun d1 d v1 T1 H Q e r l q => ⟨rfl, vun_isN d1 d v1 T1 H Q e r l q⟩) q
theorem ve_isNotN {a : Expr} {k : Nat} {m : EM} (ha : VE X eC W S a m) : VE X eC W S (.Compare a [.IsNot] [.Constant .none k p2] pos) (unM (isN true) m) :=
  PE.imp (pe_cmpR op_notN ha pe_non (by rfl)) fun σ H Q q => tv_un (r := fun v H Q => V.non = V.non ∧ Q (.bl (!decide (v = .non))) H) (f := isN true) (fun d1 d v1 T1 H Q e r l q => ⟨rfl, vun_notN d1 d v1 T1 H Q e r l q⟩) q
theorem vt_isN {a : Expr} {k : Nat} {m : EM} (ha : VE X eC W S a m) : VT X eC W S (.Compare a [.Is] [.Constant .none k p2] pos) (testM (unM (isN false) m)) :=
  PT.imp (pt_cmpR op_isN ha pe_non (by rfl)) fun σ H Q q => tv_un (Q := fun x H1 => ∃ c, x = .bl c ∧ Q c H1) (r := fun v H Q => V.non = V.non ∧ Q (.bl (decide (v = .non))) H) (f := isN false) (fun d1 d v1 T1 H Q e r l q => ⟨rfl, vun_isN d1 d v1 T1 H Q e r l q⟩) (tv_test q)
theorem vt_isNotN {a : Expr} {k : Nat} {m : EM} (ha : VE X eC W S a m) : VT X eC W S (.Compare a [.IsNot] [.Constant .none k p2] pos) (testM (unM (isN true) m)) :=
  PT.imp (pt_cmpR op_notN ha pe_non (by rfl)) fun σ H Q q => tv_un (Q := fun x H1 => ∃ c, x = .bl c ∧ Q c H1) (r := fun v H Q => V.non = V.non ∧ Q (.bl (!decide (v = .non))) H) (f := isN true) (fun d1 d v1 T1 H Q e r l q => ⟨rfl, vun_notN d1 d v1 T1 H Q e r l q⟩) (tv_test q)
theorem hu65 {A : Around} {k : Nat} (hr : Room k A) : A.units + 65 < cLine := by have := hr.un; omega
theorem hu64 {A : Around} {k : Nat} (hr : Room k A) : A.units + 64 < cLine := by have := hr.un; omega
/-- == , != , in, not in -/
theorem ve_eq {a b : Expr} {ma mb : EM} {k : Nat} (hr : Room k X.A) (ha : VE X eC W S1 a ma) (hb : VE X eC W S2 b mb) (hm : behindInMarks .Eq b = false := by rfl) : VE X eC W (S1 ++ S2) (.Compare a [.Eq] [b] pos) (opM (eqP false) ma mb) := ve_cmp (op_eqD (hu64 hr)) vop_eq ha hb hm
theorem ve_ne {a b : Expr} {ma mb : EM} {k : Nat} (hr : Room k X.A) (ha : VE X eC W S1 a ma) (hb : VE X eC W S2 b mb) (hm : behindInMarks .NotEq b = false := by rfl) : VE X eC W (S1 ++ S2) (.Compare a [.NotEq] [b] pos) (opM (eqP true) ma mb) := ve_cmp (op_neD (hu64 hr)) vop_ne ha hb hm
theorem ve_in {a b : Expr} {ma mb : EM} {k : Nat} (hr : Room k X.A) (ha : VE X eC W S1 a ma) (hb : VE X eC W S2 b mb) (hm : behindInMarks .In b = false := by with_unfolding_all rfl) : VE X eC W (S1 ++ S2) (.Compare a [.In] [b] pos) (opM (inP false) ma mb) := ve_cmp (op_inP (hu65 hr)) vop_in ha hb hm
theorem ve_notin {a b : Expr} {ma mb : EM} {k : Nat} (hr : Room k X.A) (ha : VE X eC W S1 a ma) (hb : VE X eC W S2 b mb) (hm : behindInMarks .NotIn b = false := by with_unfolding_all rfl) : VE X eC W (S1 ++ S2) (.Compare a [.NotIn] [b] pos) (opM (inP true) ma mb) := ve_cmp (op_notInP (hu65 hr)) vop_in ha hb hm
theorem vt_eq {a b : Expr} {ma mb : EM} {k : Nat} (hr : Room k X.A) (ha : VE X eC W S1 a ma) (hb : VE X eC W S2 b mb) (hm : behindInMarks .Eq b = false := by rfl) : VT X eC W (S1 ++ S2) (.Compare a [.Eq] [b] pos) (testM (opM (eqP false) ma mb)) := vt_cmp (op_eqD (hu64 hr)) vop_eq ha hb hm
theorem vt_ne {a b : Expr} {ma mb : EM} {k : Nat} (hr : Room k X.A) (ha : VE X eC W S1 a ma) (hb : VE X eC W S2 b mb) (hm : behindInMarks .NotEq b = false := by rfl) : VT X eC W (S1 ++ S2) (.Compare a [.NotEq] [b] pos) (testM (opM (eqP true) ma mb)) := vt_cmp (op_neD (hu64 hr)) vop_ne ha hb hm
theorem vt_in {a b : Expr} {ma mb : EM} {k : Nat} (hr : Room k X.A) (ha : VE X eC W S1 a ma) (hb : VE X eC W S2 b mb) (hm : behindInMarks .In b = false := by with_unfolding_all rfl) : VT X eC W (S1 ++ S2) (.Compare a [.In] [b] pos) (testM (opM (inP false) ma mb)) := vt_cmp (op_inP (hu65 hr)) vop_in ha hb hm
theorem vt_notin {a b : Expr} {ma mb : EM} {k : Nat} (hr : Room k X.A) (ha : VE X eC W S1 a ma) (hb : VE X eC W S2 b mb) (hm : behindInMarks .NotIn b = false := by with_unfolding_all rfl) : VT X eC W (S1 ++ S2) (.Compare a [.NotIn] [b] pos) (testM (opM (inP true) ma mb)) := vt_cmp (op_notInP (hu65 hr)) vop_in ha hb hm
/-- constants under their names -/
theorem vc_int {i : Int} {j : Nat} : VE X eC W [] (.Constant (.int i) j pos) (intM i) := ve_int
theorem vc_bl {b : Bool} {j : Nat} : VE X eC W [] (.Constant (.bool b) j pos) (blM b) := ve_bl
theorem vc_non {j : Nat} : VE X eC W [] (.Constant .none j pos) nonM := ve_non
theorem vc_str {z : Str} {j : Nat} : VE X eC W [] (.Constant (.str z) j pos) (strM z) := ve_str
/-- the test that a comprehension has none of -/
def yesM : M Bool := fun ρ => .ok true ρ
theorem pts_yes' : PTs X [] (TVt X.K X.mg eC W0 [] yesM) := pts_yes
theorem pts_one' {c : Expr} {t : M Bool} (h : VT X eC W0 S c t) : PTs X [c] (TVt X.K X.mg eC W0 S t) := pts_one h
end
/-- len of the list that stands at a place -/
def lenP (i : Nat) (ps : Path) : EM := fun ρ => match (ρ[i]?).bind (getP · ps) with
  | some d => if has? d = true then Res.of (lenD d) ρ else .bad
  | none => .bad
theorem Rep.lenV {K : PySem.W.Frag} {mg : Str → Option Value} {H : Hp} {d1 d : D} {v : V} {A : AS} (r : Rep K mg H d1 v A) (e : lenD d1 = some d) : ∃ n : Nat, d = .int n ∧ LenV K v H n := by
  cases d1 with
  | str x =>
    cases (show v = .str x from r)
    simp only [lenD] at e
    split at e
    · rename_i h
      cases e
      exact ⟨_, rfl, big_line h, rfl⟩
    · cases e
  | tup ds => cases e; obtain ⟨a, xs, rfl, s, r⟩ := r; exact ⟨_, rfl, by rw [← r.length]; exact .inr ⟨xs, s, rfl⟩⟩
  | rol ds => cases e; obtain ⟨a, xs, rfl, s, r⟩ := r; exact ⟨_, rfl, by rw [← r.length]; exact .inl ⟨xs, s.sq, rfl⟩⟩
  | lst m ds =>
    cases e
    obtain ⟨a, xs, rfl, s, r⟩ := r.lstAt
    exact ⟨_, rfl, by rw [← r.length]; exact .inl ⟨xs, s.elim .of fun h => h.sq, rfl⟩⟩
  | _ => cases e
section
variable {X : Cx} {eC : Addr} {W : WX} {S : List Nat} {p pos : Pos}
theorem ve_lenP {e : Expr} {i : Nat} {ps : Path} (hO : VP X e i ps) (hg : Gl X "len") (hm : X.mg "len" = none) (hst : starEach [e] X.env = (false, eval e X.env) :: starEach [] X.env := by rfl)
    (hb : PE X (.Call (.Name "len" p) [e] [] pos) (tCB (fun xs H Q => ∃ x n, xs = [x] ∧ LenV X.K x H n ∧ Q (.int n) H) (tCons (fun σ H Q => ∃ v, PlcAt X.K X.mg H σ i ps v ∧ Q v H) tNil)) := by exact pe_callB call_len hg hm PyProof.Rows.Boot.«len» (pa_cons hO pa_nil hst)) :
    VE X eC W [] (.Call (.Name "len" p) [e] [] pos) (lenP i ps) := PE.imp hb fun σ H Q ⟨ρ, F, er, q⟩ => by
  unfold lenP at q
  cases e1 : ρ[i]? with
  | none => rw [e1] at q; exact q.elim
  | some d0 =>
    rw [e1] at q
    simp only [Option.bind_some] at q
    cases e2 : getP d0 ps with
    | none => rw [e2] at q; exact q.elim
    | some d =>
      rw [e2] at q
      dsimp only at q
      by_cases c : has? d = true
      · rw [if_pos c] at q
        obtain ⟨o, e3, r⟩ := er.get i d0 e1
        obtain ⟨v0, rfl, r⟩ := has_root e2 c r
        obtain ⟨x, A1, A2, a, s1, s2, dj, r1, r2, _⟩ := r.path e2
        cases e4 : lenD d with
        | none => rw [e4] at q; exact q.elim
        | some d' =>
          rw [e4] at q
          obtain ⟨n, rfl, l⟩ := r1.lenV e4
          exact ⟨x, ⟨v0, e3, a⟩, x, n, rfl, l, q (.int n) H F E0 er rfl .refl⟩
      · rw [if_neg c] at q; exact q.elim
end
section
variable {X : Cx} {eC : Addr} {W : WX} {S : List Nat} {p p2 p3 p4 pos : Pos}
/-- calls of built-ins, with their side conditions told apart -/
theorem vc_B {e : Expr} {es : List Expr} {x : Str} {id : String} {r : List V → Hp → VK → Prop} {f : List D → Option D} {ms : M (List D)} (hc : CallR X (.builtin id) r) (h : VCl X.K X.mg r f)
    (hg : Gl X x) (hm : X.mg x = none) (hv : bootBuiltins x = some (.builtin id)) (ha : VA X eC W S (e :: es) ms) (hn : x ≠ "__name__" := by decide) (hdb : (x == ("__debug__" : Str)) = false := by decide)
    (he : starEach (e :: es) X.env = (false, eval e X.env) :: starEach es X.env := by rfl) (hpl : (backTo pos (starEach es X.env)).any (·.1) = false := by rfl) : VE X eC W S (.Call (.Name x p) (e :: es) [] pos) (clM f ms) :=
  ve_callB hc h hg hm hv ha (pe_callB hc hg hm hv ha hn hdb he hpl)
theorem vc_Ty {e : Expr} {es : List Expr} {x : Str} {T : String} {r : List V → Hp → VK → Prop} {f : List D → Option D} {ms : M (List D)} (hc : CallR X (.type T) r) (h : VCl X.K X.mg r f)
    (hg : Gl X x) (hm : X.mg x = none) (hv : bootBuiltins x = some (.type T)) (ha : VA X eC W S (e :: es) ms) (hn : x ≠ "__name__" := by decide) (hdb : (x == ("__debug__" : Str)) = false := by decide)
    (he : starEach (e :: es) X.env = (false, eval e X.env) :: starEach es X.env := by rfl) (hpl : (backTo pos (starEach es X.env)).any (·.1) = false := by rfl) : VE X eC W S (.Call (.Name x p) (e :: es) [] pos) (clM f ms) :=
  ve_callTy hc h hg hm hv ha (pe_callTy hc hg hm hv ha hn hdb he hpl)
theorem vc_isi {e : Expr} {m : EM} {x : Str} {Ts : String} (hT : Ts ∈ ["bool", "int", "str", "tuple", "list"]) (hx : X.mg x = none) (hg : Gl X x) (hv : bootBuiltins x = some (.type Ts))
    (hg2 : Gl X "isinstance") (hm2 : X.mg "isinstance" = none) (he : VE X eC W S e m) (hn : x ≠ "__name__" := by decide) (hd : (x == ("__debug__" : Str)) = false := by decide)
    (hs : starEach [e, .Name x p2] X.env = (false, eval e X.env) :: starEach [.Name x p2] X.env := by rfl) (hs2 : starEach [.Name x p2] X.env = (false, eval (.Name x p2) X.env) :: starEach [] X.env := by rfl)
    (hpl : (backTo pos (starEach [.Name x p2] X.env)).any (·.1) = false := by rfl) : VE X eC W S (.Call (.Name "isinstance" p) [e, .Name x p2] [] pos) (unM (isiD [Ts]) m) :=
  ve_isi (T := "") hT hx hg hv hg2 hm2 PyProof.Rows.Boot.«isinstance» he hn hd hs hs2 (pe_callB call_isi hg2 hm2 PyProof.Rows.Boot.«isinstance» (pa_cons he (pa_cons (pe_bltn hg hx hv rfl hn hd) pa_nil hs2) hs) (by decide) (by decide) hs hpl)
theorem vc_isi2 {e : Expr} {m : EM} {x y : Str} {Tx Ty : String} {k : Nat} (hTx : Tx ∈ ["bool", "int", "str", "tuple", "list"]) (hTy : Ty ∈ ["bool", "int", "str", "tuple", "list"]) (hx : X.mg x = none) (hgx : Gl X x) (hvx : bootBuiltins x = some (.type Tx)) (hy : X.mg y = none) (hgy : Gl X y) (hvy : bootBuiltins y = some (.type Ty))
    (hg2 : Gl X "isinstance") (hm2 : X.mg "isinstance" = none) (he : VE X eC W S e m) (hnx : x ≠ "__name__" := by decide) (hny : y ≠ "__name__" := by decide) (hdx : (x == ("__debug__" : Str)) = false := by decide) (hdy : (y == ("__debug__" : Str)) = false := by decide)
    (hs : starEach [e, .Tuple [.Name x p2, .Name y p3] k p4] X.env = (false, eval e X.env) :: starEach [.Tuple [.Name x p2, .Name y p3] k p4] X.env := by rfl) (hs2 : starEach [.Tuple [.Name x p2, .Name y p3] k p4] X.env = (false, eval (.Tuple [.Name x p2, .Name y p3] k p4) X.env) :: starEach [] X.env := by rfl)
    (hs3 : starEach [.Name x p2, .Name y p3] X.env = (false, eval (.Name x p2) X.env) :: starEach [.Name y p3] X.env := by rfl) (hs4 : starEach [.Name y p3] X.env = (false, eval (.Name y p3) X.env) :: starEach [] X.env := by rfl)
    (hpl : (backTo pos (starEach [.Tuple [.Name x p2, .Name y p3] k p4] X.env)).any (·.1) = false := by rfl) :
    VE X eC W S (.Call (.Name "isinstance" p) [e, .Tuple [.Name x p2, .Name y p3] k p4] [] pos) (unM (isiD [Tx, Ty]) m) :=
  ve_isi2 hTx hTy hx hgx hvx hy hgy hvy hg2 hm2 PyProof.Rows.Boot.«isinstance» he hnx hny hdx hdy (pe_callB call_isiT hg2 hm2 PyProof.Rows.Boot.«isinstance» (pa_cons he (pa_cons (pe_tup (pa_cons (pe_bltn hgx hx hvx rfl hnx hdx) (pa_cons (pe_bltn hgy hy hvy rfl hny hdy) pa_nil hs4) hs3)) pa_nil hs2) hs) (by decide) (by decide) hs hpl)
theorem vc_lenP {e : Expr} {i : Nat} {ps : Path} (hO : VP X e i ps) (hg : Gl X "len") (hm : X.mg "len" = none) (hst : starEach [e] X.env = (false, eval e X.env) :: starEach [] X.env := by rfl) (hpl : (backTo pos (starEach [] X.env)).any (·.1) = false := by rfl) :
    VE X eC W [] (.Call (.Name "len" p) [e] [] pos) (lenP i ps) := ve_lenP hO hg hm hst (pe_callB call_len hg hm PyProof.Rows.Boot.«len» (pa_cons hO pa_nil hst) (by decide) (by decide) hst hpl)
end
section
variable {X : Cx} {eC : Addr} {W : WX} {S : List Nat} {k n : Nat} {f C fI : Addr} {fd : FuncData} {ps : List Str} {fm : FM} {x c : Str} {p pos : Pos} {e : Expr} {es : List Expr} {ks : List AK} {ms : M (List D)}
theorem vc_call (F : Df X.prog X.w X.K X.mg X.base eC k f fd ps fm) (hr : Room k X.A) (tk : Takes X W) (hm : X.mg x = some (.ref f)) (hg : Gl X x) (ha : VR X eC W S ks (e :: es) ms) (hn : ps.length = n := by rfl) (nd : (roots ks).Nodup := by decide)
    (hdb : (x == ("__debug__" : Str)) = false := by decide) (he : starEach (e :: es) X.env = (false, eval e X.env) :: starEach es X.env := by rfl) (hpl : (backTo pos (starEach es X.env)).any (·.1) = false := by rfl) :
    VE X eC W (S ++ roots ks) (.Call (.Name x p) (e :: es) [] pos) (callM n ks fm ms) := by subst hn; exact ve_call F hr tk hm hg ha nd hdb he hpl
theorem vc_call0 (F : Df X.prog X.w X.K X.mg X.base eC k f fd ps fm) (hr : Room k X.A) (tk : Takes X W) (hm : X.mg x = some (.ref f)) (hg : Gl X x) (hn : ps.length = n := by rfl) (hdb : (x == ("__debug__" : Str)) = false := by decide) :
    VE X eC W [] (.Call (.Name x p) [] [] pos) (callM n [] fm nilM) := by subst hn; exact ve_call0 F hr tk hm hg hdb
theorem vc_new (Mk' : Mk X.K C fI) (F : Df X.prog X.w X.K X.mg X.base eC k fI fd ps fm) (hr : Room (k + 1) X.A) (tk : Takes X W) (hC : X.mg c = some (.ref C)) (hg : Gl X c) (ha : VR X eC W S ks (e :: es) ms) (hn : ps.length = n := by rfl) (nd : (roots ks).Nodup := by decide)
    (hdb : (c == ("__debug__" : Str)) = false := by decide) (he : starEach (e :: es) X.env = (false, eval e X.env) :: starEach es X.env := by rfl) (hpl : (backTo pos (starEach es X.env)).any (·.1) = false := by rfl) :
    VE X eC W (S ++ roots ks) (.Call (.Name c p) (e :: es) [] pos) (newM n c ks fm ms) := by subst hn; exact ve_new Mk' F hr tk hC hg ha nd hdb he hpl
end
end VS
set_option Elab.async false
set_option linter.all false
set_option maxRecDepth 100000
set_option maxHeartbeats 4000000
/-! VS22: dicts whose keys are ints and texts, whose values can't be changed: {k: v for ..}, len. -/
namespace VS
open PySem PySem.Spec PyProof.Rows L2
def keyD : Key → D
  | .inl i => .int i
  | .inr x => .str x
def keyOf : D → Option Key
  | .int i => some (.inl i)
  | .str x => some (.inr x)
  | _ => none
def putKD (acc : List (Key × D)) (k : Key) (z : D) : List (Key × D) := if (acc.any fun kv => decide (kv.1 = k)) = true then acc.map (fun kv => if kv.1 = k then (kv.1, z) else kv) else acc ++ [(k, z)]
section
variable {K : PySem.W.Frag} {mg : Str → Option Value} {H H' : Hp}
theorem keyOf_rep {d : D} {k : Key} {v : V} {A : AS} (e : keyOf d = some k) (r : Rep K mg H d v A) : v = kV k ∧ d = keyD k := by
  cases d with
  | int i => cases e; exact ⟨r, rfl⟩
  | str i => cases e; exact ⟨r, rfl⟩
  | _ => cases e
/-- the pairs of a dict: its values can't be changed -/
def KRs (K : PySem.W.Frag) (mg : Str → Option Value) (H : Hp) : List (Key × D) → List (Key × V) → Prop
  | [], kvs => kvs = []
  | p :: acc, kvs => ∃ v r, kvs = (p.1, v) :: r ∧ Rep K mg H p.2 v E0 ∧ KRs K mg H acc r
theorem KRs.keep (k : Kp E0 H H') : ∀ {acc : List (Key × D)} {kvs : List (Key × V)}, KRs K mg H acc kvs → KRs K mg H' acc kvs
  | [], _, h => h
  | p :: acc, _, ⟨v, r, e, h1, h2⟩ => ⟨v, r, e, Rep.keep _ h1 k, KRs.keep k h2⟩
theorem KRs.length : ∀ {acc : List (Key × D)} {kvs : List (Key × V)}, KRs K mg H acc kvs → kvs.length = acc.length
  | [], _, h => by cases h; rfl
  | p :: acc, _, ⟨v, r, e, h1, h2⟩ => by rw [e, List.length_cons, List.length_cons, KRs.length h2]
theorem KRs.any {k : Key} : ∀ {acc : List (Key × D)} {kvs : List (Key × V)}, KRs K mg H acc kvs → (kvs.any fun kv => decide (kv.1 = k)) = acc.any fun kv => decide (kv.1 = k)
  | [], _, h => by cases h; rfl
  | p :: acc, _, ⟨v, r, e, h1, h2⟩ => by rw [e, List.any_cons, List.any_cons, KRs.any h2]
theorem KRs.app {acc2 : List (Key × D)} {kvs2 : List (Key × V)} (h' : KRs K mg H acc2 kvs2) : ∀ {acc : List (Key × D)} {kvs : List (Key × V)}, KRs K mg H acc kvs → KRs K mg H (acc ++ acc2) (kvs ++ kvs2)
  | [], _, h => by cases h; exact h'
  | p :: acc, _, ⟨v, r, e, h1, h2⟩ => by subst e; exact ⟨v, _, rfl, h1, KRs.app h' h2⟩
theorem KRs.map {k : Key} {z : D} {x : V} (rz : Rep K mg H z x E0) : ∀ {acc : List (Key × D)} {kvs : List (Key × V)}, KRs K mg H acc kvs → KRs K mg H (acc.map fun kv => if kv.1 = k then (kv.1, z) else kv) (kvs.map fun kv => if kv.1 = k then (kv.1, x) else kv)
  | [], _, h => by cases h; exact rfl
  | p :: acc, _, ⟨v, r, e, h1, h2⟩ => by
    subst e
    rw [List.map_cons, List.map_cons]
    by_cases c : p.1 = k
    · rw [if_pos c, if_pos c]
      exact ⟨x, _, rfl, rz, KRs.map rz h2⟩
    · rw [if_neg c, if_neg c]
      exact ⟨v, _, rfl, h1, KRs.map rz h2⟩
theorem KRs.put {k : Key} {z : D} {x : V} (rz : Rep K mg H z x E0) {acc : List (Key × D)} {kvs : List (Key × V)} (h : KRs K mg H acc kvs) : KRs K mg H (putKD acc k z) (L2.putK kvs k x) := by
  unfold putKD L2.putK
  rw [h.any]
  split
  · exact h.map rz
  · exact KRs.app (acc2 := [(k, z)]) (kvs2 := [(k, x)]) (show KRs K mg H [(k, z)] [(k, x)] from ⟨x, [], rfl, rz, rfl⟩) h
theorem KRs.reps : ∀ {acc : List (Key × D)} {kvs : List (Key × V)}, KRs K mg H acc kvs → Reps K mg H (acc.map fun p => keyD p.1) (kvs.map fun p => kV p.1) E0 ∧ Reps K mg H (acc.map (·.2)) (kvs.map (·.2)) E0
  | [], _, h => by cases h; exact ⟨rfl, rfl⟩
  | p :: acc, _, ⟨v, r, e, h1, h2⟩ => by
    subst e
    obtain ⟨a, b⟩ := KRs.reps h2
    refine ⟨⟨_, _, E0, E0, rfl, Sub.rfl, Sub.rfl, Dj.e0, ?_, a⟩, _, _, E0, E0, rfl, Sub.rfl, Sub.rfl, Dj.e0, h1, b⟩
    obtain ⟨k, d⟩ := p
    cases k <;> exact rfl
def dicOf (m : Bool) (acc : List (Key × D)) : D := .dic m (acc.map fun p => keyD p.1) (acc.map (·.2))
theorem KRs.dic {acc : List (Key × D)} {kvs : List (Key × V)} (h : KRs K mg H acc kvs) {a : Addr} {A : AS} (e : H a = some (.dK kvs)) (i : A a) : Rep K mg H (dicOf true acc) (.ref a) A :=
  ⟨a, _, _, _, rfl, e, ⟨kvs, rfl, rfl, rfl⟩, i, h.reps.1, h.reps.2.mono Sub.e0⟩
end
def dcLoop (vs : List Nat) (g : D → List D → Option (List D)) (t : M Bool) (mk mz : EM) : List D → List (Key × D) → M (List (Key × D))
  | [], acc, ρ => .ok acc ρ
  | d :: ds, acc, ρ => match g d ρ with
    | none => .bad
    | some ρ1 => match t ρ1 with
      | .ok true ρ2 => (match mk ρ2 with
        | .ok y ρ3 => (match mz ρ3 with
          | .ok z ρ4 => (match keyOf y with
            | some k => if acc.length < big ∧ pure? z = true then dcLoop vs g t mk mz ds (putKD acc k z) (wipeD vs ρ4) else .bad
            | none => .bad)
          | _ => .bad)
        | _ => .bad)
      | .ok false ρ2 => dcLoop vs g t mk mz ds acc (wipeD vs ρ2)
      | _ => .bad
def dcM (vs : List Nat) (it : M (List D)) (g : D → List D → Option (List D)) (t : M Bool) (mk mz : EM) : EM := fun ρ => (it ρ).bind fun ds ρ1 => (dcLoop vs g t mk mz ds [] (wipeD vs ρ1)).bind fun acc ρ2 => .ok (dicOf true acc) ρ2
section
variable {X : Cx} {eC : Addr} {W : WX} {S S1 S2 S3 S4 SA : List Nat} {pos : Pos}
theorem dc_core' {K : PySem.W.Frag} {mg : Str → Option Value} {σ : L2.St} {H0 H : Hp} {F0 F : Nat → AS} {J : It} {hold : Hp → Prop} {vs : List Nat} {ds : List D} {g : D → List D → Option (List D)} {t : M Bool} {mk mz : EM} {gt : TG} {Dd : Addr} {Q : VK} {ρ1 : List D}
    (kt : TgOk K mg SA gt g) (sv : ∀ j, j ∈ SA → j ∈ vs) (w : Walk K mg J hold ds) (er : ER K mg H ρ1 σ F) (hh : hold H) (nD : H Dd = none) (g0 : Aft S1 H0 F0 H F)
    (q : CV K mg eC W (S1 ++ (S2 ++ (S3 ++ S4))) σ H0 F0 ((dcLoop vs g t mk mz ds [] (wipeD vs ρ1)).bind fun acc ρ2 => .ok (dicOf true acc) ρ2) Q) :
    ∃ Wi : Nat → Nat → Hp → Prop, (∃ n, Wi 0 n (upd H Dd (.dK []))) ∧ ∀ i n H, Wi i n H →
      (J.stop i H ∧ Q (.ref Dd) H) ∨ (J.go i H ∧ ∃ Nx : Hp → Prop, (∀ H', Nx H' → ∃ n', n' < n ∧ Wi (i + 1) n' H') ∧ ∀ x H', J.yld i H x H' → gt x (wipe σ vs) H' fun σ2 H2 => wipe σ2 vs = wipe σ vs ∧ TVt K mg eC W0 S2 t σ2 H2 fun b H3 =>
        if b = true then TV K mg eC W0 S3 mk σ2 H3 fun y H4 => TV K mg eC W0 S4 mz σ2 H4 fun z H5 => ∃ kvs k, y = kV k ∧ H5 Dd = some (.dK kvs) ∧ kvs.length < sizeLine ∧ Nx (upd H5 Dd (.dK (L2.putK kvs k z))) else Nx H3) := by
  let St (H1 : Hp) (ds' : List D) : Prop := hold H1 ∧ ∃ ρ2 F2 acc kvs, ER K mg H1 (wipeD vs ρ2) (wipe σ vs) F2 ∧ H1 Dd = some (.dK kvs) ∧ KRs K mg H1 acc kvs ∧ (∀ j, ¬ F2 j Dd) ∧
    Aft (S1 ++ (S2 ++ (S3 ++ S4))) H0 F0 H1 F2 ∧ H0 Dd = none ∧
    CV K mg eC W (S1 ++ (S2 ++ (S3 ++ S4))) σ H0 F0 ((dcLoop vs g t mk mz ds' acc (wipeD vs ρ2)).bind fun acc ρ2 => .ok (dicOf true acc) ρ2) Q
  have subS : ∀ {S' : List Nat}, (∀ j, j ∈ S' → j ∈ S2 ++ (S3 ++ S4)) → ∀ j, j ∈ (S1 ++ (S2 ++ (S3 ++ S4))) ++ S' → j ∈ S1 ++ (S2 ++ (S3 ++ S4)) := fun {S'} h j hj => (List.mem_append.mp hj).elim id fun x => List.mem_append_right _ (h j x)
  have wsub : ∀ {F : Nat → AS} (j : Nat), Sub ((fun j => if j ∈ vs then E0 else F j) j) (F j) := fun {F} j a h => by
    dsimp only at h
    by_cases c : j ∈ vs
    · rw [if_pos c] at h; exact h.elim
    · rw [if_neg c] at h; exact h
  refine ⟨fun i n H1 => n = ds.length - i ∧ i ≤ ds.length ∧ St H1 (ds.drop i), ⟨ds.length, rfl, Nat.zero_le _, ?_⟩, ?_⟩
  · have t0 : AftT E0 H (upd H Dd (.dK [])) (fun a => E0 a ∨ a = Dd) := .new nD trivial Live.e0 Sub.rfl
    have er1 := er.step Live.e0 (fun _ => Dj.e0) t0
    have nF : ∀ j, ¬ F j Dd := fun j x => by
      obtain ⟨u, e, _⟩ := er.live j Dd x
      rw [nD] at e; cases e
    refine ⟨w.keep _ _ hh (kp_new nD), ρ1, _, [], [], er1.wipe, upd_same, rfl, fun j h => nF j (wsub j Dd h), ?_, g0.dom Dd nD, by rw [List.drop_zero]; exact q⟩
    have s1 : Aft [] H F (upd H Dd (.dK [])) (fun j => if j ∈ vs then E0 else F j) := ⟨fun a o e _ => t0.keep a o e id, fun j _ => wsub j, fun j h => absurd h (by simp), t0.dom⟩
    exact (g0.trans s1).more fun j hj => List.mem_append_left _ (by simpa using hj)
  · rintro i n H1 ⟨rfl, hi, h1, ρ2, F2, acc, kvs, er2, hD, ra, nF, ga, hD0, q1⟩
    by_cases hlt : i < ds.length
    · refine .inr ⟨w.go i H1 h1 hlt, fun H2 => St H2 (ds.drop (i + 1)), fun H2 h2 => ⟨ds.length - (i + 1), by omega, rfl, hlt, h2⟩, fun x H2 y => ?_⟩
      obtain ⟨⟨d, e, r⟩, tA⟩ := w.yld i H1 x H2 h1 hlt y
      have ed : ds.drop i = d :: ds.drop (i + 1) := by
        rw [List.drop_eq_getElem_cons hlt]
        have : ds[i] = d := by
          have := List.getElem?_eq_getElem hlt
          rw [e] at this; exact (Option.some.inj this).symm
        rw [this]
      rw [ed] at q1
      unfold dcLoop at q1
      cases e1 : g d (wipeD vs ρ2) with
      | none => rw [e1] at q1; exact q1.elim
      | some ρ3 =>
        rw [e1] at q1
        dsimp only at q1
        have er2' := er2.step Live.e0 (fun _ => Dj.e0) tA
        refine kt d x E0 (wipeD vs ρ2) ρ3 F2 (L2.wipe σ vs) H2 _ e1 er2' r Live.e0 (fun _ => Dj.e0) fun σ3 F3 er3 f3 a3 => ⟨wipe_agree a3 sv, ρ3, F3, er3, ?_⟩
        have f3' : ∀ j, Sub (F3 j) (F2 j) := fun j a h => (f3 j a h).resolve_right id
        have s2 : Aft [] H1 F2 H2 F3 := ⟨fun a o e _ => tA.keep a o e id, fun j _ => f3' j, fun j h => absurd h (by simp), tA.dom⟩
        have ga2 : Aft (S1 ++ (S2 ++ (S3 ++ S4))) H0 F0 H2 F3 := (ga.trans s2).more (subS fun j h => absurd h (by simp))
        have hD2 : H2 Dd = some (.dK kvs) := tA.keep Dd _ hD id
        have hh2 : hold H2 := w.keep _ _ h1 (s2.s.kp0 er2)
        have ra2 := KRs.keep (s2.s.kp0 er2) ra
        cases e2 : t ρ3 with
        | bad => rw [e2] at q1; exact q1
        | ex z ρ4 => rw [e2] at q1; exact q1.elim
        | ok b ρ4 =>
          rw [e2] at q1
          intro H3 F4 er4 g4
          have ga3 : Aft (S1 ++ (S2 ++ (S3 ++ S4))) H0 F0 H3 F4 := (ga2.trans g4).more (subS fun j h => List.mem_append_left _ h)
          have hD3 : H3 Dd = some (.dK kvs) := g4.keep Dd _ hD2 fun j _ h => nF j (f3' j Dd h)
          have nF4 : ∀ j, ¬ F4 j Dd := fun j h => by
            rcases g4.back h with ⟨k, _, x⟩ | x | x
            · exact nF k (f3' k Dd x)
            · exact nF j (f3' j Dd x)
            · rw [hD2] at x; cases x
          have hh3 : hold H3 := w.keep _ _ hh2 (g4.s.kp0 er3)
          have ra3 := KRs.keep (g4.s.kp0 er3) ra2
          have ew : L2.wipe σ3 vs = L2.wipe σ vs := wipe_agree a3 sv
          cases b with
          | false =>
            rw [if_neg Bool.false_ne_true]
            dsimp only at q1
            have erw := er4.wipe (vs := vs)
            rw [ew] at erw
            have s4 : Aft [] H3 F4 H3 (fun j => if j ∈ vs then E0 else F4 j) := ⟨fun _ _ e _ => e, fun j _ => wsub j, fun j h => absurd h (by simp), fun _ e => e⟩
            exact ⟨hh3, ρ4, _, acc, kvs, erw, hD3, ra3, fun j h => nF4 j (wsub j Dd h), (ga3.trans s4).more (subS fun j h => absurd h (by simp)), hD0, q1⟩
          | true =>
            rw [if_pos rfl]
            dsimp only at q1
            refine ⟨ρ4, F4, er4, ?_⟩
            cases e3 : mk ρ4 with
            | bad => rw [e3] at q1; exact q1
            | ex z ρ5 => rw [e3] at q1; exact q1.elim
            | ok y ρ5 =>
              rw [e3] at q1
              intro v H4 F5 Ty er5 ry g5
              dsimp only at q1
              refine ⟨ρ5, F5, er5, ?_⟩
              cases e4 : mz ρ5 with
              | bad => rw [e4] at q1; exact q1
              | ex z ρ6 => rw [e4] at q1; exact q1.elim
              | ok z ρ6 =>
                rw [e4] at q1
                intro u H5 F6 Tz er6 rz g6
                dsimp only at q1
                cases e5 : keyOf y with
                | none => rw [e5] at q1; exact q1.elim
                | some k =>
                  rw [e5] at q1
                  dsimp only at q1
                  by_cases hb : acc.length < big ∧ pure? z = true
                  · rw [if_pos hb] at q1
                    have ga4 : Aft (S1 ++ (S2 ++ (S3 ++ S4))) H0 F0 H4 F5 := (ga3.trans g5.toAft).more (subS fun j h => List.mem_append_right _ (List.mem_append_left _ h))
                    have ga5 : Aft (S1 ++ (S2 ++ (S3 ++ S4))) H0 F0 H5 F6 := (ga4.trans g6.toAft).more (subS fun j h => List.mem_append_right _ (List.mem_append_right _ h))
                    have hD4 : H4 Dd = some (.dK kvs) := g5.toAft.keep Dd _ hD3 fun j _ h => nF4 j h
                    have nF5 : ∀ j, ¬ F5 j Dd := fun j h => by
                      rcases g5.toAft.back h with ⟨k, _, x⟩ | x | x
                      · exact nF4 k x
                      · exact nF4 j x
                      · rw [hD3] at x; cases x
                    have hD5 : H5 Dd = some (.dK kvs) := g6.toAft.keep Dd _ hD4 fun j _ h => nF5 j h
                    have nF6 : ∀ j, ¬ F6 j Dd := fun j h => by
                      rcases g6.toAft.back h with ⟨k, _, x⟩ | x | x
                      · exact nF5 k x
                      · exact nF5 j x
                      · rw [hD4] at x; cases x
                    have kD : ∀ {A : AS} {o : HO}, ¬ A Dd → Kp A H5 (upd H5 Dd o) := fun {A o} n => kp_upd n hD5 trivial
                    have hh5 : hold H5 := w.keep _ _ (w.keep _ _ hh3 (g5.toAft.s.kp0 er4)) (g6.toAft.s.kp0 er5)
                    have ra5 := KRs.keep (g6.toAft.s.kp0 er5) (KRs.keep (g5.toAft.s.kp0 er4) ra3)
                    refine ⟨kvs, k, (keyOf_rep e5 ry).1, hD5, big_lt (by rw [ra3.length]; exact hb.1), w.keep _ _ hh5 (kD id), ρ6, (fun j => if j ∈ vs then E0 else F6 j), putKD acc k z, L2.putK kvs k u, ?_, upd_same, KRs.keep (kD id) (KRs.put (Rep.fixed z hb.2 rz) ra5), fun j h => nF6 j (wsub j Dd h), ?_, hD0, q1⟩
                    · have erw := er6.wipe (vs := vs)
                      rw [ew] at erw
                      refine ⟨erw.len, fun j d' e' => ?_, erw.dj, fun j => (erw.live j).keep (kD fun h => nF6 j (wsub j Dd h))⟩
                      obtain ⟨o, e4, r4⟩ := erw.get j d' e'
                      refine ⟨o, e4, ?_⟩
                      cases o with
                      | none => exact r4
                      | some v' => exact Rep.keep d' r4 (kD fun h => nF6 j (wsub j Dd h))
                    · refine ⟨fun a o e n => ?_, fun j hj a h => ga5.same j hj a (wsub j a h), fun j hj a h => ga5.sub j hj a (wsub j a h), fun a e => ?_⟩
                      · rw [upd_ne]
                        · exact ga5.keep a o e n
                        · rintro rfl; rw [hD0] at e; cases e
                      · by_cases zz : a = Dd
                        · subst zz; exact hD0
                        · rw [upd_ne zz] at e; exact ga5.dom a e
                  · rw [if_neg hb] at q1; exact q1.elim
    · have e : i = ds.length := by omega
      subst e
      rw [List.drop_length] at q1
      refine .inl ⟨w.stop H1 h1, ?_⟩
      refine q1 (.ref Dd) H1 F2 (fun a => a = Dd) ?_ (ra.dic hD rfl) ⟨ga, fun a h => .inr (by rw [show a = Dd from h]; exact hD0), fun j a h x => nF j ((show a = Dd from h) ▸ x), fun a h => ⟨.dK kvs, by rw [show a = Dd from h]; exact hD, trivial⟩⟩
      exact er2.unwipe
theorem ve_dc {kx vx tg iter : Expr} {ifs : List Expr} {scope : Scope} {own : List (Str × Nat)} {it : M (List D)} {g : D → List D → Option (List D)} {gt : TG} {t : M Bool} {mk mz : EM} (hc : X.calm = true) (hN : X.N.Nodup) (ok : BlkOk X.N X.env.scope scope own)
    (hi : VI X eC W S1 tg iter it) (hg : ∀ (s : Shared) (H : Hp) (C : Addr) (cl : List (Str × Addr)) (fp : List Addr), PG (X.blk s H scope (compEnvC scope cl C X.env) fp) tg gt) (kt : TgOk X.K X.mg SA gt g) (sv : ∀ j, j ∈ SA → j ∈ own.map (·.2))
    (ht : ∀ (s : Shared) (H : Hp) (C : Addr) (cl : List (Str × Addr)) (fp : List Addr), PTs (X.blk s H scope (compEnvC scope cl C X.env) fp) ifs (TVt X.K X.mg eC W0 S2 t))
    (hk : ∀ (s : Shared) (H : Hp) (C : Addr) (cl : List (Str × Addr)) (fp : List Addr), VE (X.blk s H scope (compEnvC scope cl C X.env) fp) eC W0 S3 kx mk)
    (he : ∀ (s : Shared) (H : Hp) (C : Addr) (cl : List (Str × Addr)) (fp : List Addr), VE (X.blk s H scope (compEnvC scope cl C X.env) fp) eC W0 S4 vx mz) (hs : ∀ x, foldedSetIterable iter X.env x = pure x := by intro _; rfl) :
    VE X eC W (S1 ++ (S2 ++ (S3 ++ S4))) (.DictComp kx vx [⟨tg, iter, ifs, 0⟩] scope pos) (dcM (own.map (·.2)) it g t mk mz) := PE.imp (pe_dc (tk := TV X.K X.mg eC W0 S3 mk) (tv := TV X.K X.mg eC W0 S4 mz) hc hN hi ok hg ht hk he hs) fun σ H Q q => by
  obtain ⟨ρ, F, er, q⟩ := q
  refine ⟨ρ, F, er, ?_⟩
  unfold dcM at q
  cases e1 : it ρ with
  | bad => rw [e1] at q; exact q
  | ex z ρ1 => rw [e1] at q; exact fun dd H' F' er' x g => q dd H' F' er' x (g.more fun j hj => List.mem_append_left _ hj)
  | ok ds ρ1 =>
    rw [e1] at q
    exact fun J H1 F1 hold er1 ga w hh Dd nD => dc_core' (S1 := S1) kt sv w er1 hh nD ga q
/-- len of a dict of one's own -/
def lenDic : D → Option D
  | .dic true ks _ => some (.int ks.length)
  | _ => none
theorem vcl_lenDic {K : PySem.W.Frag} {mg : Str → Option Value} : VCl K mg (fun xs H Q => ∃ a kvs, xs = [V.ref a] ∧ H a = some (.dK kvs) ∧ Q (.int kvs.length) H) (one lenDic) := vcl_one fun d1 d v T H Q e r l q => by
  unfold lenDic at e
  split at e
  · rename_i ks ds
    cases e
    obtain ⟨a, o, kx, xs, rfl, h, ⟨kvs, rfl, rfl, rfl⟩, i, r1, r2⟩ := r
    refine ⟨a, kvs, rfl, h, q _ H E0 ?_ .refl⟩
    have := r1.length
    rw [List.length_map] at this
    rw [this]; exact rfl
  · cases e
end
end VS
set_option Elab.async false
set_option linter.all false
set_option maxRecDepth 100000
set_option maxHeartbeats 4000000
/-! VS23: d[k], {k: v, ..}. -/
namespace VS
open PySem PySem.Spec PyProof.Rows L2
def dicPairs : List D → List D → Option (List (Key × D))
  | [], [] => some []
  | y :: ks, d :: ds => (keyOf y).bind fun k => (dicPairs ks ds).map fun r => (k, d) :: r
  | _, _ => none
def valD (acc : List (Key × D)) (k : Key) : Option D := (acc.find? fun kv => decide (kv.1 = k)).map (·.2)
def dgetD : D → D → Option D
  | .dic _ ks ds, y => (dicPairs ks ds).bind fun acc => (keyOf y).bind fun k => valD acc k
  | _, _ => none
section
variable {K : PySem.W.Frag} {mg : Str → Option Value} {H H' : Hp}
theorem kV_inj {a b : Key} (h : kV a = kV b) : a = b := by
  cases a <;> cases b <;> simp [kV] at h <;> first | (rw [h]) | skip
theorem valD_ok {k : Key} {d : D} : ∀ {ks ds : List D} {acc : List (Key × D)} {kvs : List (Key × V)} {B A : AS}, dicPairs ks ds = some acc → Reps K mg H ks (kvs.map fun p => kV p.1) B → Reps K mg H ds (kvs.map (·.2)) A → valD acc k = some d →
    ∃ v, valV kvs k = some v ∧ Rep K mg H d v A
  | [], [], _, _, _, _, e, _, _, h => by cases e; simp [valD] at h
  | [], _ :: _, _, _, _, _, e, _, _, h => by cases e
  | _ :: _, [], _, _, _, _, e, _, _, h => by cases e
  | y :: ks, c :: ds, acc, kvs, B, A, e, ⟨x, ys, B1, B2, e1, _, _, _, r1, r2⟩, ⟨u, us, A1, A2, e2, s1, s2, _, r3, r4⟩, h => by
    cases kvs with
    | nil => cases e1
    | cons p kvs =>
      rw [List.map_cons] at e1 e2
      injection e1 with e11 e12
      injection e2 with e21 e22
      subst e11 e12 e21 e22
      unfold dicPairs at e
      simp only [Option.bind_eq_some_iff, Option.map_eq_some_iff] at e
      obtain ⟨k', ek, r, er, rfl⟩ := e
      have hk := kV_inj (keyOf_rep ek r1).1
      subst hk
      by_cases c1 : p.1 = k
      · have : d = c := by
          unfold valD at h
          rw [List.find?_cons_of_pos (by simpa using c1)] at h
          exact (Option.some.inj h).symm
        subst this
        exact ⟨p.2, valV_pos c1, r3.mono s1⟩
      · unfold valD at h
        rw [List.find?_cons_of_neg (by simpa using c1)] at h
        obtain ⟨v, h1, h2⟩ := valD_ok er r2 r4 h
        exact ⟨v, by rw [valV_neg c1]; exact h1, h2.mono s2⟩
theorem vop_dget : VOp K mg (fun x y H Q => ∃ a v, x = .ref a ∧ DGet H a y (some v) ∧ Q v H) dgetD := by
  intro d1 d2 d v1 v2 T1 T2 H Q e r1 r2 dj l1 l2 q
  unfold dgetD at e
  split at e
  · rename_i m ks ds
    simp only [Option.bind_eq_some_iff] at e
    obtain ⟨acc, e1, k, e2, e3⟩ := e
    have hv2 := (keyOf_rep e2 r2).1
    have key : ∀ {a : Addr} {kvs : List (Key × V)} {A : AS}, Rd H a (.dK kvs) → Reps K mg H ks (kvs.map fun p => kV p.1) E0 → Reps K mg H ds (kvs.map (·.2)) A → Sub A T1 → ∃ a' v, V.ref a = .ref a' ∧ DGet H a' v2 (some v) ∧ Q v H := fun {a kvs A} hr ra rb s => by
      obtain ⟨v, h1, h2⟩ := valD_ok e1 ra rb e3
      exact ⟨a, v, rfl, .inl ⟨kvs, k, hr, hv2, h1.symm⟩, q v H A h2 (.same (l1.sub s) fun x h => .inl (s x h))⟩
    cases m with
    | true =>
      obtain ⟨a, o, kx, xs, rfl, h, ⟨kvs, rfl, rfl, rfl⟩, i, ra, rb⟩ := r1
      exact key (.inl h) ra rb fun _ h => h.1
    | false =>
      obtain ⟨a, ob, o, kx, xs, rfl, h, ⟨kvs, rfl, rfl, rfl⟩, ra, rb⟩ := r1
      exact key (.inr ⟨ob, h⟩) ra rb Sub.e0
  · cases e
end
section
variable {X : Cx} {eC : Addr} {W : WX} {S S1 S2 S3 : List Nat} {pos : Pos}
theorem ve_dget {a b : Expr} {ma mb : EM} {k : Nat} (hr : Room k X.A) (ha : VE X eC W S1 a ma) (hb : VE X eC W S2 b mb) (hs : NoSl b := by exact fun _ _ => rfl) : VE X eC W (S1 ++ S2) (.Subscript a b pos) (opM dgetD ma mb) :=
  PE.imp (pe_dget (by have := hr.un; omega) ha hb hs) fun σ H Q q => tv_op vop_dget q
/-- the pairs of a display -/
def pairsM : List (EM × EM) → M (List (Key × D))
  | [], ρ => .ok [] ρ
  | (mk, mz) :: r, ρ => (mk ρ).bind fun y ρ1 => (mz ρ1).bind fun z ρ2 => match keyOf y with
    | some k => if pure? z = true then (pairsM r ρ2).bind fun ps ρ3 => .ok ((k, z) :: ps) ρ3 else .bad
    | none => .bad
def dspM (ms : List (EM × EM)) : EM := fun ρ => (pairsM ms ρ).bind fun ps ρ1 => if ps.length ≤ 15 then .ok (dicOf true (ps.foldl (fun acc kv => putKD acc kv.1 kv.2) [])) ρ1 else .bad
/-- keys and values of a display, with their readings -/
def VPs (X : Cx) (eC : Addr) (W : WX) (S : List Nat) (pos : Pos) (keys : List (Option Expr)) (values : List Expr) (ms : List (EM × EM)) : Prop :=
  ∃ trs, PPs X pos keys values trs ∧ ∀ σ H (Q : List (V × V) → Hp → Prop), (∃ ρ F, ER X.K X.mg H ρ σ F ∧ match pairsM ms ρ with
    | .ok ps ρ' => ∀ kvs H' F', ER X.K X.mg H' ρ' σ F' → KRs X.K X.mg H' ps kvs → Aft S H F H' F' → Q (kvs.map fun kv => (kV kv.1, kv.2)) H'
    | .ex z ρ' => ∀ dd H' F', ER X.K X.mg H' ρ' σ F' → H' dd = some (.xd [("reason", .str z)]) → Aft S H F H' F' → W (.ref eC) (some dd) σ H'
    | .bad => False) → tPairs trs σ H Q
theorem vps_nil : VPs X eC W [] pos [] [] [] := ⟨[], pps_nil, fun σ H Q ⟨ρ, F, er, q⟩ => q [] H F er rfl .refl⟩
theorem vps_cons {k v : Expr} {ks : List (Option Expr)} {vs : List Expr} {mk mz : EM} {ms : List (EM × EM)} (hk : VE X eC W S1 k mk) (hv : VE X eC W S2 v mz) (hr : VPs X eC W S3 pos ks vs ms) : VPs X eC W (S1 ++ (S2 ++ S3)) pos (some k :: ks) (v :: vs) ((mk, mz) :: ms) := by
  obtain ⟨trs, pp, h⟩ := hr
  refine ⟨_, pps_cons hk hv pp, fun σ H Q ⟨ρ, F, er, q⟩ => ?_⟩
  refine ⟨ρ, F, er, ?_⟩
  unfold pairsM at q
  have sub2 : ∀ j, j ∈ S1 ++ S2 → j ∈ S1 ++ (S2 ++ S3) := fun j hj => (List.mem_append.mp hj).elim (List.mem_append_left _) fun h => List.mem_append_right _ (List.mem_append_left _ h)
  cases e1 : mk ρ with
  | bad => rw [e1] at q; exact q
  | ex z ρ1 => rw [e1] at q; exact fun dd H' F' er' x g => q dd H' F' er' x (g.more fun j hj => List.mem_append_left _ hj)
  | ok y ρ1 =>
    rw [e1] at q
    intro v1 H1 F1 T1 er1 r1 g1
    refine ⟨ρ1, F1, er1, ?_⟩
    simp only [Res.bind_ok] at q
    cases e2 : mz ρ1 with
    | bad => rw [e2] at q; exact q
    | ex z ρ2 => rw [e2] at q; exact fun dd H' F' er' x g => q dd H' F' er' x ((g1.toAft.trans g).more sub2)
    | ok z ρ2 =>
      rw [e2] at q
      intro v2 H2 F2 T2 er2 r2 g2
      simp only [Res.bind_ok] at q
      cases e3 : keyOf y with
      | none => rw [e3] at q; exact q.elim
      | some k =>
        rw [e3] at q
        dsimp only at q
        by_cases c : pure? z = true
        · rw [if_pos c] at q
          have g12 := g1.toAft.trans g2.toAft
          refine h σ H2 _ ⟨ρ2, F2, er2, ?_⟩
          cases e4 : pairsM ms ρ2 with
          | bad => rw [e4] at q; exact q
          | ex z ρ3 => rw [e4] at q; exact fun dd H' F' er' x g => q dd H' F' er' x (by rw [← List.append_assoc]; exact g12.trans g)
          | ok ps ρ3 =>
            rw [e4] at q
            intro kvs H3 F3 er3 rk g3
            have hv1 := (keyOf_rep e3 r1).1
            subst hv1
            have rz : Rep X.K X.mg H3 z v2 E0 := Rep.keep z (Rep.fixed z c r2) (g3.s.kp0 er2)
            exact q ((k, v2) :: kvs) H3 F3 er3 ⟨v2, kvs, rfl, rz, rk⟩ (by rw [← List.append_assoc]; exact g12.trans g3)
        · rw [if_neg c] at q; exact q.elim
theorem KRs.merge {K : PySem.W.Frag} {mg : Str → Option Value} {H : Hp} : ∀ (ps : List (Key × D)) (kvs : List (Key × V)) (acc : List (Key × D)) (kva : List (Key × V)), KRs K mg H ps kvs → KRs K mg H acc kva → KRs K mg H (ps.foldl (fun acc kv => putKD acc kv.1 kv.2) acc) (mergeK kva kvs)
  | [], _, _, _, h, h' => by cases h; exact h'
  | p :: ps, _, acc, kva, ⟨v, r, e, h1, h2⟩, h' => by
    subst e
    exact KRs.merge ps r _ _ h2 (KRs.put h1 h')
theorem ve_dsp {keys : List (Option Expr)} {values : List Expr} {ms : List (EM × EM)} (h : VPs X eC W S pos keys values ms) (hall : keys.all (·.isSome) = true := by rfl) (hl : keys.length = values.length := by rfl) (h0 : keys ≠ [] := by simp)
    (h15 : keys.length ≤ 15 := by decide) : VE X eC W S (.Dict keys values pos) (dspM ms) := by
  obtain ⟨trs, pp, h⟩ := h
  refine PE.imp (pe_disp pp hall hl h0 h15) fun σ H Q ⟨ρ, F, er, q⟩ => fun p np => h σ _ _ ?_
  have t0 : AftT E0 H (upd H p (.dK [])) E0 := ⟨fun a o e _ => by rw [upd_ne (by rintro rfl; rw [np] at e; cases e)]; exact e, fun _ h => h.elim, fun _ h => h.elim, fun a e => by
    by_cases z : a = p
    · subst z; exact np
    · rw [upd_ne z] at e; exact e⟩
  have nF : ∀ j, ¬ F j p := fun j x => by
    obtain ⟨u, e, _⟩ := er.live j p x
    rw [np] at e; cases e
  have er1 := er.step Live.e0 (fun _ => Dj.e0) t0
  refine ⟨ρ, F, er1, ?_⟩
  have g0 : Aft [] H F (upd H p (.dK [])) F := ⟨fun a o e _ => t0.keep a o e id, fun j _ => Sub.rfl, fun j h => absurd h (by simp), t0.dom⟩
  unfold dspM at q
  cases e1 : pairsM ms ρ with
  | bad => rw [e1] at q; exact q
  | ex z ρ1 => rw [e1] at q; exact fun dd H' F' er' x g => q dd H' F' er' x (by simpa using g0.trans g)
  | ok ps ρ1 =>
    rw [e1] at q
    intro kvs H1 F1 e2 rk g
    simp only [Res.bind_ok] at q
    by_cases c : ps.length ≤ 15
    · rw [if_pos c] at q
      have hp : H1 p = some (.dK []) := g.keep p _ upd_same fun j _ => nF j
      refine ⟨hp, kvs, rfl, by rw [rk.length]; exact c, ?_⟩
      have nF1 : ∀ j, ¬ F1 j p := fun j h => by
        rcases g.back h with ⟨k, _, x⟩ | x | x
        · exact nF k x
        · exact nF j x
        · rw [upd_same] at x; cases x
      have kD : ∀ {A : AS} {o : HO}, ¬ A p → Kp A H1 (upd H1 p o) := fun {A o} n => kp_upd n hp trivial
      have g1 : Aft S H F H1 F1 := by simpa using g0.trans g
      refine q (.ref p) _ F1 (fun a => a = p) ⟨e2.len, fun j d' e' => ?_, e2.dj, fun j => (e2.live j).keep (kD (nF1 j))⟩ (KRs.dic (KRs.merge ps kvs [] [] (KRs.keep (kD id) rk) rfl) upd_same rfl) ⟨⟨fun a o e n => ?_, g1.same, g1.sub, fun a e => ?_⟩, fun a h => .inr (by rw [show a = p from h]; exact np), fun j a h x => nF1 j ((show a = p from h) ▸ x), fun a h => ⟨.dK (mergeK [] kvs), by rw [show a = p from h]; exact upd_same, trivial⟩⟩
      · obtain ⟨o, e4, r4⟩ := e2.get j d' e'
        refine ⟨o, e4, ?_⟩
        cases o with
        | none => exact r4
        | some v' => exact Rep.keep d' r4 (kD (nF1 j))
      · rw [upd_ne (by rintro rfl; rw [np] at e; cases e)]; exact g1.keep a o e n
      · by_cases zz : a = p
        · subst zz; exact np
        · rw [upd_ne zz] at e; exact g1.dom a e
    · rw [if_neg c] at q; exact q.elim
end
end VS
set_option Elab.async false
set_option linter.all false
set_option maxRecDepth 100000
set_option maxHeartbeats 4000000
/-! VS24: list(range(..)), a module's dict of constants. -/
namespace VS
open PySem PySem.Spec PyProof.Rows L2
def rgLD : D → D → Option D
  | .int i, .int j => if -1000000 ≤ i ∧ i ≤ 1000000 ∧ -1000000 ≤ j ∧ j ≤ 1000000 then some (.lst true (rangeD i (j - i).toNat)) else none
  | _, _ => none
section
variable {K : PySem.W.Frag} {mg : Str → Option Value} {H : Hp}
theorem reps_rg (i j : Int) : Reps K mg H (rangeD i (j - i).toNat) (rgV i j) E0 := by
  have := reps_ints (K := K) (mg := mg) (H := H) ((List.range (j - i).toNat).map fun k => i + (k : Nat))
  rw [List.map_map, List.map_map] at this
  exact this
theorem rg_ok {i j : Int} {d : D} {Q : VK} {A : AS} (l : Live H A) (e : rgLD (.int i) (.int j) = some d) (q : ∀ v H' T, Rep K mg H' d v T → AftT A H H' T → Q v H') : RgOk i j ∧ ∀ p, H p = none → Q (.ref p) (upd H p (.lst (rgV i j))) := by
  have e' : (if -1000000 ≤ i ∧ i ≤ 1000000 ∧ -1000000 ≤ j ∧ j ≤ 1000000 then some (D.lst true (rangeD i (j - i).toNat)) else none) = some d := e
  split at e'
  · rename_i h
    cases e'
    refine ⟨⟨by omega, by omega, by omega, by omega, by omega⟩, fun p np => ?_⟩
    exact q _ _ (fun a => E0 a ∨ a = p) ⟨p, _, rfl, upd_same, .inr rfl, (reps_rg i j).mono Sub.e0⟩ (.new np trivial Live.e0 Sub.e0)
  · cases e'
theorem vop_rgL : VOp K mg (fun x y H Q => ∃ i j, x = .int i ∧ y = .int j ∧ (RgOk i j ∧ ∀ p, H p = none → Q (.ref p) (upd H p (.lst (rgV i j))))) rgLD := by
  intro d1 d2 d v1 v2 T1 T2 H Q e r1 r2 dj l1 l2 q
  cases d1 with
  | int i => cases d2 with
    | int j => exact ⟨i, j, r1, r2, rg_ok (l1.un l2) e q⟩
    | _ => cases e
  | _ => cases e
theorem vun_rgL : VUn K mg (fun x H Q => ∃ n, x = .int n ∧ (RgOk 0 n ∧ ∀ p, H p = none → Q (.ref p) (upd H p (.lst (rgV 0 n))))) (rgLD (.int 0)) := by
  intro d1 d v1 T1 H Q e r l q
  cases d1 with
  | int j => exact ⟨j, r, rg_ok l e q⟩
  | _ => cases e
end
section
variable {X : Cx} {eC : Addr} {W : WX} {S S1 S2 : List Nat} {p p1 pos pos1 : Pos}
theorem ve_lrng1 {a : Expr} {m : EM} (hc : X.calm = true) (hg : Gl X "list") (hm : X.mg "list" = none) (hg1 : Gl X "range") (hm1 : X.mg "range" = none) (ha : VE X eC W S a m)
    (na : starEach [a] X.env = (false, eval a X.env) :: starEach [] X.env := by rfl)
    (nb : starEach [.Call (.Name "range" p1) [a] [] pos1] X.env = (false, eval (.Call (.Name "range" p1) [a] [] pos1) X.env) :: starEach [] X.env := by rfl) :
    VE X eC W S (.Call (.Name "list" p) [.Call (.Name "range" p1) [a] [] pos1] [] pos) (unM (rgLD (.int 0)) m) := PE.imp (pe_listRg hc hg hm (prg_1 hg1 hm1 ha na) nb) fun σ H Q q => tv_un vun_rgL q
theorem ve_lrng2 {a b : Expr} {ma mb : EM} (hc : X.calm = true) (hg : Gl X "list") (hm : X.mg "list" = none) (hg1 : Gl X "range") (hm1 : X.mg "range" = none) (ha : VE X eC W S1 a ma) (hb : VE X eC W S2 b mb)
    (na : starEach [a, b] X.env = (false, eval a X.env) :: starEach [b] X.env := by rfl) (na2 : starEach [b] X.env = (false, eval b X.env) :: starEach [] X.env := by rfl) (hp : (backTo pos1 (starEach [b] X.env)).any (·.1) = false := by rfl)
    (nb : starEach [.Call (.Name "range" p1) [a, b] [] pos1] X.env = (false, eval (.Call (.Name "range" p1) [a, b] [] pos1) X.env) :: starEach [] X.env := by rfl) :
    VE X eC W (S1 ++ S2) (.Call (.Name "list" p) [.Call (.Name "range" p1) [a, b] [] pos1] [] pos) (opM rgLD ma mb) := PE.imp (pe_listRg hc hg hm (prg_2 hg1 hm1 ha hb na na2 hp) nb) fun σ H Q q => tv_op vop_rgL q
/-! ### a dict of constants that the module holds -/
def KDs (K : PySem.W.Frag) (w : World) (mg : Str → Option Value) (x : Str) (tbl : List (Str × D)) : Prop := ∃ a, mg x = some (.ref a) ∧ ∀ z d, tbl.lookup z = some d → ∃ v, KDct K w a z v ∧ ∀ H, Rep K mg H d v E0
def kdM (tbl : List (Str × D)) (m : EM) : EM := fun ρ => (m ρ).bind fun d ρ1 => match d with
  | .str z => Res.of (tbl.lookup z) ρ1
  | _ => .bad
def kdD (tbl : List (Str × D)) : D → Option D
  | .str z => tbl.lookup z
  | _ => none
theorem ve_kd {x : Str} {b : Expr} {mb : EM} {tbl : List (Str × D)} (hg : Gl X x) (h : KDs X.K X.w X.mg x tbl) (hb : VE X eC W S b mb) (hs : PlainIx b := by exact fun _ _ => rfl) (hd : (x == ("__debug__" : Str)) = false := by decide) :
    VE X eC W S (.Subscript (.Name x p) b pos) (unM (kdD tbl) mb) := by
  obtain ⟨a, hm, h⟩ := h
  refine PE.imp (pe_ix ix_kdict (pe_glob (v := .ref a) hg hm rfl hd) hb hs) fun σ H Q q => ?_
  refine tv_un (r := fun v H Q => rIxD X.K X.w (.ref a) v H Q) (f := kdD tbl) (fun d1 d v T1 H Q e r l q => ?_) q
  cases d1 with
  | str z =>
    obtain ⟨v', k, rv⟩ := h z d e
    exact ⟨a, z, v', rfl, r, k, q v' H E0 (rv H) .refl⟩
  | _ => cases e
end
end VS
set_option Elab.async false
set_option linter.all false
set_option maxRecDepth 100000
set_option maxHeartbeats 4000000
/-! VS25: the end: a law whose mirror answers True at every script. -/
namespace VS
open PySem PySem.Spec PyProof.Rows L2
/-- the law's promise, at a script of ints -/
def spL (n : Nat) (K : PySem.W.Frag) : Sp := fun vs H Q E => ∃ (a : Addr) (ns : List Int), vs = [.ref a] ∧ SqL K H a (ns.map V.int) ∧ Only H ∧ ns.length ≤ n ∧ ∀ H', Q (.bl true) H'
theorem rol_of {K : PySem.W.Frag} {mg : Str → Option Value} {H : Hp} {a : Addr} {ns : List Int} (hO : Only H) (h : SqL K H a (ns.map V.int)) : Rep K mg H (.rol (ns.map D.int)) (.ref a) E0 := by
  refine ⟨a, ns.map V.int, rfl, ?_, reps_ints ns⟩
  rcases h with (h | h) | h
  · rcases hO a with e | ⟨o, xs, e⟩
    · rw [e] at h; cases h
    · rw [e] at h; cases h
  · exact .inl h
  · exact .inr h
theorem fnOk_law {P : Program} {w : World} {K : PySem.W.Frag} {mg : Str → Option Value} {base : Heap} {eC f : Addr} {fd : FuncData} {x : Str} {k n : Nat} {fm : FM} (F : Df P w K mg base eC k f fd [x] fm)
    (hl : ∀ ns : List Int, ns.length ≤ n → ∃ es, fm [.rol (ns.map D.int)] = .ok (.bl true) es) : FnOk P w K mg base (L2.CX P w) k f fd [x] (spL n K) :=
  F.ok.imp fun vs H Q E ⟨a, ns, e, hs, hO, hn, q⟩ => by
    subst e
    obtain ⟨es, e⟩ := hl ns hn
    refine ⟨[.rol (ns.map D.int)], E0, rfl, Reps.sing (rol_of hO hs), Live.e0, ?_⟩
    rw [e]
    intro v H' T1 T2 rv _ _ _
    have ev : v = .bl true := rv
    subst ev
    exact q H'
theorem walkV {l : PySem.W.OpenLaw} {n k : Nat} {q : Program} {loose : List Str} {XP : (Str → Option Value) → Heap → Prop} {YP : World → Heap → Prop} {d : DefRec} {K : Params → PySem.W.Frag} {x : Str} (hn : l.most = some n) (hn2 : n ≤ sizeLine) (hdf : d.params.defaults = []) (hr : Room k callerA)
    (hY : ∀ (w : World) (h : Heap), YP w h → (K w.params).In h)
    (F : ∀ (w : World) (mg : Str → Option Value) (fa : Addr) (h : Heap), (K w.params).In h → h.Ns mainGlobals mg → mg d.name = some (.ref fa) →
      ∃ fd : FuncData, (∀ (s : Shared) (u : Value), BindsTo s fd ⟨[u], []⟩ [(x, u)]) ∧ ∀ base : Heap, (K w.params).In base → base.Ns mainGlobals mg → FnOk l.prog w (K w.params) mg base (L2.CX l.prog w) k fa fd [x] (spL n (K w.params))) :
    PySem.W.WalkO q loose XP YP l.row.toRowW d [] (fun f vs => PySem.call f vs) :=
  L2.walk_of (n := n) (k := k) (x := x) (CX := fun w => L2.CX l.prog w) (sp := fun w => spL n (K w.params)) hn hn2 hdf hr hY F (fun _ _ a ns hl hO hS => ⟨a, ns, rfl, hS, hO, hl, fun _ => rfl⟩) fun w H s e s' z => by
    obtain ⟨_, _, _, _, _, _, _, _, _, _, _, _, z⟩ := z
    exact z
end VS
set_option Elab.async false
set_option linter.all false
set_option maxRecDepth 100000
set_option maxHeartbeats 4000000
/-! VS26: facts of the module's constants. -/
namespace VS
open PySem PySem.Spec PyProof.Rows L2
section
variable {K : PySem.W.Frag} {a : Addr}
/-- the items of a tuple of the written part -/
inductive KReps (K : PySem.W.Frag) : List D → List V → List Value → Prop where
  | nil : KReps K [] [] []
  | cons {d : D} {v : V} {u : Value} {ds : List D} {vs : List V} {us : List Value} : KRep K d v u → KReps K ds vs us → KReps K (d :: ds) (v :: vs) (u :: us)
theorem KReps.vals : ∀ {ds : List D} {vs : List V} {us : List Value}, KReps K ds vs us → Vals vs us
  | _, _, _, .nil => .nil
  | _, _, _, .cons h t => .cons h.rel t.vals
theorem KReps.reps {mg : Str → Option Value} {H : Hp} : ∀ {ds : List D} {vs : List V} {us : List Value}, KReps K ds vs us → Reps K mg H ds vs E0
  | _, _, _, .nil => rfl
  | _, _, _, .cons h t => ⟨_, _, E0, E0, rfl, Sub.rfl, Sub.rfl, Dj.e0, h.rep, t.reps⟩
theorem krep_tup {ds : List D} {vs : List V} {us : List Value} {o : Obj} {its : Array Value} {n : Nat} (l : K.lookup a = some o) (hc : o.cls = .type "tuple") (hdat : o.data = .seq its n) (hi : its.toList = us) (hz : its.size ≤ sizeLine) (h : KReps K ds vs us) : KRep K (.tup ds) (.ref a) (.ref a) :=
  .tup (xs := vs) (fun H => by
    subst hi
    exact .inr ⟨o, its, n, l, hc, hdat, hz, h.vals⟩) fun H mg => h.reps
end
end VS
set_option Elab.async false
set_option linter.all false
set_option maxRecDepth 100000
set_option maxHeartbeats 4000000
/-! VS27: DragError's facts from the written part, each closed by k_is. -/
namespace VS
open PySem PySem.W PySem.Calls PySem.Spec PyProof.Rows PySem.HandSPX L2
theorem exm_self {K : Frag} {S : Addr} (h1 : subIn K (.ref S) (.type "BaseException") = some true) (h2 : isClsIn K S = true) (h3 : typeIn K (.ref S) = some (.type "type")) (h4 : subIn K (.ref S) (.ref S) = some true) : exmOne K (.ref S) (.ref S) = some true := by
  have e1 : (subIn K (.ref S) (.type "BaseException") == some true) = true := by rw [h1] <;> rfl
  have e2 : ((clsIn K S).isSome && typeIn K (.ref S) == some (.type "type")) = true := by
    have h2' : (clsIn K S).isSome = true := h2
    rw [h2', h3] <;> rfl
  show (if (subIn K (.ref S) (.type "BaseException") == some true) = true then (if ((clsIn K S).isSome && typeIn K (.ref S) == some (.type "type")) = true then subIn K (.ref S) (.ref S) else none) else none) = some true
  rw [if_pos e1, if_pos e2]
  exact h4
theorem along_ve (K : Frag) : alongIn K "__init__" [.type "ValueError", .type "Exception", .type "BaseException", .type "object"] = some (some (.builtin "ValueError.__init__")) := by kernel_rfl
theorem dg_mk {P : Program} {K : Frag} {h : Heap} {mg : Str → Option Value} {C fI : Addr} (X : K.In h) (G : h.Ns mainGlobals mg) (top : (P.main.scope.names.lookup ("super" : Str)).isSome = false)
    (aC : nsIn K mainGlobals "DragError" = some (some (.ref C))) (aS : nsIn K mainGlobals "super" = some none) (opq : nsIn K cStatics "thirdparty.any" = some none)
    {nm q : Str} {N : Addr} {bs : List Value} {sn : List Str} {sub : List Value} {ab : Bool} {col : Option Bool} {dd : Option Addr} {m0 m1 m2 m3 m5 : Option Value}
    (xL : K.lookup C = some (excClassObj nm q C N bs [.type "ValueError", .type "Exception", .type "BaseException", .type "object"] true sn sub ab col dd m0 m1 m2 m3 m5 "ValueError.__new__"))
    (al : alongIn K "__init__" [.type "ValueError", .type "Exception", .type "BaseException", .type "object"] = some (some (.builtin "ValueError.__init__")))
    (veC : subIn K (.ref C) (.type "ValueError") = some true)
    (sa : findIn K (.ref C) "__setattr__" = some (some (.builtin "object.__setattr__"))) (ga : findIn K (.ref C) "__getattribute__" = some (some (.builtin "BaseException.__getattribute__"))) (gg : findIn K (.ref C) "__getattr__" = some none) (noN : findIn K (.ref C) "reason" = some none)
    (iC : findIn K (.ref C) "__init__" = some (some (.ref fI))) (tC : typeIn K (.ref fI) = some (.type "function")) (kC : keepIn K (.ref C) = true) (exC : subIn K (.ref C) (.type "BaseException") = some true) (tyC : typeIn K (.ref C) = some (.type "type")) (hdC : hasDictIn K C = true) (icC : isClsIn K C = true) (scC : subIn K (.ref C) (.ref C) = some true)
    {oc : Value} {od : Option Addr} {doc pm : Value} {an : Option Addr} {cda cc : Addr} {ct : Value} {osl : Array (Option Value)} {p1 p2 q7 q8 q9 q10 : Pos} {ccl cl : Value} {cdd cld : Option Addr} {ccs csl : Array (Option Value)} {vs : Array Value} {file : Str} {tf : Tok} {l : Nat}
    (hlf : K.lookup fI = some ⟨oc, od, .func (ksFn "__init__" "DragError.__init__" (dgA p1 p2) (dgB l q7 q8 q9 q10) dgS .none .none doc pm an (.ref cda) ct cc), osl⟩) (hcd : codeIn K (.ref cda) "DragError.__init__" = true)
    (hcda : K.lookup cda = some ⟨ccl, cdd, .fields vs, ccs⟩) (hvs : vs[2]? = some (.str file tf)) (hfile : ((P.main.file : Str) == file) = true) (hcc : K.lookup cc = some ⟨cl, cld, .cell (some (.ref C)), csl⟩) (h58 : l = 5 ∨ l = 8) : DgTxt P K mg C fI where
  gC := mg_of X G aC
  gS := mg_none_of X G aS
  top := top
  opq := opq
  cls := ⟨nm, q, N, bs, _, sn, sub, ab, col, dd, m0, m1, m2, m3, m5, xL, by decide +kernel⟩
  sup := by
    have hcl : clsIn K C = some { name := nm, bases := bs, mro := .ref C :: [.type "ValueError", .type "Exception", .type "BaseException", .type "object"], ns := N, qualname := q, hasDict := true, slotNames := sn, subclasses := sub, abstract := ab, collection := col, hasDel := false } := by unfold clsIn; rw [xL] <;> rfl
    unfold ks_superIn
    rw [hcl]
    have e : ((Value.ref C :: [.type "ValueError", .type "Exception", .type "BaseException", .type "object"]).dropWhile (· != .ref C)).drop 1 = [.type "ValueError", .type "Exception", .type "BaseException", .type "object"] := by simp [List.dropWhile_cons]
    show alongIn K "__init__" (((Value.ref C :: [.type "ValueError", .type "Exception", .type "BaseException", .type "object"]).dropWhile (· != .ref C)).drop 1) = _
    rw [e]
    exact al
  veC := veC
  mC := by
    have hcl : clsIn K C = some { name := nm, bases := bs, mro := .ref C :: [.type "ValueError", .type "Exception", .type "BaseException", .type "object"], ns := N, qualname := q, hasDict := true, slotNames := sn, subclasses := sub, abstract := ab, collection := col, hasDel := false } := by unfold clsIn; rw [xL] <;> rfl
    unfold mroIn
    rw [hcl]
    simp
  sa := sa
  ga := ga
  gg := gg
  noN := noN
  iC := iC
  tC := tC
  kC := kC
  exC := exC
  tyC := tyC
  hdC := hdC
  te := exm_self exC icC tyC scC
  fn := ⟨oc, od, doc, pm, an, cda, cc, ct, osl, l, p1, p2, q7, q8, q9, q10, ccl, cl, cdd, cld, ccs, csl, vs, file, tf, hlf, hcd, hcda, hvs, hfile, hcc, h58⟩
end VS
set_option Elab.async false
set_option linter.all false
set_option maxRecDepth 100000
set_option maxHeartbeats 4000000
/-! VS28: a module's dict of constants, from the written part. -/
namespace VS
open PySem PySem.Spec PyProof.Rows L2
inductive KTbl (K : PySem.W.Frag) (a : Addr) : List (Str × D) → Prop where
  | nil : KTbl K a []
  | cons {z : Str} {u : Value} {d : D} {v : V} {tbl : List (Str × D)} : PySem.W.nsIn K a z = some (some u) → KRep K d v u → KTbl K a tbl → KTbl K a ((z, d) :: tbl)
theorem kds_of {K : PySem.W.Frag} {w : World} {mg : Str → Option Value} {a : Addr} {es : Array DictEntry} {n : Nat} (hl : K.lookup a = some ⟨.type "dict", none, .dict es n, #[]⟩) (hk : PySem.W.KeysLit w.params es.toList) : ∀ {tbl : List (Str × D)}, KTbl K a tbl →
    ∀ z d, tbl.lookup z = some d → ∃ v, KDct K w a z v ∧ ∀ H, Rep K mg H d v E0
  | _, .nil, z, d, h => by simp at h
  | _, .cons (z := z0) (u := u) (d := d0) (v := v) e r t, z, d, h => by
    by_cases c : z = z0
    · subst c
      simp [List.lookup] at h
      subst h
      exact ⟨v, ⟨es, n, u, hl, hk, e, r.rel⟩, fun H => r.rep⟩
    · have c' : (z == z0) = false := by simpa using c
      simp [List.lookup, c'] at h
      exact kds_of hl hk t z d h
end VS
set_option Elab.async false
set_option linter.all false
set_option maxRecDepth 100000
set_option maxHeartbeats 4000000
/-! VS29: sorted of data of any kind, any length. -/
namespace VS
open PySem PySem.Spec PyProof.Rows L2
def tP (d : D) : PyData := (toP d).getD .none
def ltS (a b : D) : Bool := PySem.W.dataLt (tP a) (tP b)
def sortDs (ds : List D) : List D := ds.mergeSort (fun a b => !ltS b a)
def tupNE : D → Bool
  | .tup (_ :: _) => true
  | _ => false
def notNT : D → Bool
  | .tup _ => false
  | .non => false
  | _ => true
def sortOk (ds : List D) : Bool := pures? ds && (toPs ds).isSome && ds.all (fun a => decide ((tP a).depth ≤ 60) && ds.all fun b => PySem.W.alike (tP a) (tP b)) && (ds.all tupNE || ds.all notNT)
def sortedG : D → Option D := fun d => (isLst d).bind fun ds => if sortOk ds then some (.lst true (sortDs ds)) else none
section
variable {K : PySem.W.Frag} {mg : Str → Option Value} {H H' : Hp}
theorem toPs_each : ∀ {ds : List D} {ps : List PyData}, toPs ds = some ps → ∀ d ∈ ds, toP d = some (tP d)
  | [], _, _, d, h => by cases h
  | c :: ds, ps, e, d, h => by
    unfold toPs at e
    rw [Option.bind_eq_some_iff] at e
    obtain ⟨p, e1, e⟩ := e
    rw [Option.map_eq_some_iff] at e
    obtain ⟨qs, e2, _⟩ := e
    rcases List.mem_cons.mp h with rfl | h
    · unfold tP; rw [e1]; rfl
    · exact toPs_each e2 d h
theorem tP_tup {d : D} (h : toP d = some (tP d)) (t : tupNE d = true) : ∃ x r, tP d = .tuple (x :: r) := by
  unfold tupNE at t
  split at t
  · rename_i a ds
    unfold toP at h
    rw [Option.map_eq_some_iff] at h
    obtain ⟨ps, e, h⟩ := h
    unfold toPs at e
    rw [Option.bind_eq_some_iff] at e
    obtain ⟨p, e1, e⟩ := e
    rw [Option.map_eq_some_iff] at e
    obtain ⟨qs, e2, rfl⟩ := e
    exact ⟨p, qs, h.symm⟩
  · cases t
theorem tP_not {d : D} (h : toP d = some (tP d)) (t : notNT d = true) : tP d ≠ .none ∧ ∀ xs, tP d ≠ .tuple xs := by
  cases d with
  | tup => cases t
  | non => cases t
  | un => simp [toP] at h
  | bl b => simp [tP, toP]
  | int i => simp [tP, toP]
  | str x => simp [tP, toP]
  | dic => simp [toP] at h
  | obj => simp [toP] at h
  | lst m ds =>
    simp only [toP, Option.map_eq_some_iff] at h
    obtain ⟨ps, _, h⟩ := h
    rw [← h]; simp
  | rol ds =>
    simp only [toP, Option.map_eq_some_iff] at h
    obtain ⟨ps, _, h⟩ := h
    rw [← h]; simp
def rSortG (K : PySem.W.Frag) (mg : Str → Option Value) : List V → Hp → VK → Prop := fun vs H Q => ∃ (a : Addr) (xs : List V) (ds : List D), vs = [V.ref a] ∧ SqL K H a xs ∧ Reps K mg H ds xs E0 ∧ sortOk ds = true ∧
  ∀ (ys : List V) (p : Addr), Reps K mg H (sortDs ds) ys E0 → H p = none → Q (.ref p) (upd H p (.lst ys))
theorem vals_each {X : Cx} {pins : List (Addr × Obj)} {σ : L2.St} {s : Shared} (I : Inv X pins σ H s) : ∀ {ds : List D} {xs : List V} {us : List Value}, Reps X.K X.mg H ds xs E0 → Vals xs us → (∀ d ∈ ds, toP d = some (tP d)) →
    PySem.W.EachIs (fun (u : Value) (b : V × D) => RelV b.1 u ∧ Rep X.K X.mg H b.2 b.1 E0) us (xs.zip ds) ∧ PySem.W.EachIs (fun (u : Value) (b : V × D) => ∃ as, Reads s.heap u (tP b.2) as) us (xs.zip ds) ∧ xs.length = ds.length
  | [], _, _, r, v, _ => by
    cases r
    cases v
    exact ⟨.nil, .nil, rfl⟩
  | d :: ds, _, us, r, v, h => by
    obtain ⟨x, ys, A1, A2, rfl, s1, s2, _, r1, r2⟩ := r
    cases v with
    | cons rv vs =>
      obtain ⟨h1, h2, h3⟩ := vals_each I (r2.mono s2) vs fun d hd => h d (List.mem_cons_of_mem _ hd)
      have hd := h d (List.mem_cons_self)
      exact ⟨.cons ⟨rv, r1.mono s1⟩ h1, .cons (Dp.reads I _ _ _ (Rep.dp d r1 hd) rv) h2, by simp [h3]⟩
theorem each_out : ∀ {bs : List (V × D)} {out : List Value}, PySem.W.EachIs (fun (u : Value) (b : V × D) => RelV b.1 u ∧ Rep K mg H b.2 b.1 E0) out bs → Vals (bs.map (·.1)) out ∧ Reps K mg H (bs.map (·.2)) (bs.map (·.1)) E0
  | _, _, .nil => ⟨.nil, rfl⟩
  | _, _, .cons h t => by
    obtain ⟨h1, h2⟩ := each_out t
    exact ⟨.cons h.1 h1, _, _, E0, E0, rfl, Sub.rfl, Sub.rfl, Dj.e0, h.2, h2⟩
theorem cr_sortG {X : Cx} (hu : X.A.units + 65 < cLine) : CallR X (.builtin "sorted") (rSortG X.K X.mg) := by
  intro pins s σ H vs us Q I r h
  obtain ⟨a, xs, ds, rfl, hs, hr, ok, q⟩ := h
  obtain ⟨its, rv, hl, hz⟩ := I.list hs
  obtain ⟨u, rfl, ru⟩ := vals1 r
  obtain rfl : u = Value.ref a := ru
  unfold sortOk at ok
  simp only [Bool.and_eq_true, List.all_eq_true, Bool.or_eq_true, decide_eq_true_eq] at ok
  obtain ⟨⟨⟨_, h1⟩, h2⟩, h3⟩ := ok
  obtain ⟨ps, h1⟩ := Option.isSome_iff_exists.mp h1
  have ht := toPs_each h1
  obtain ⟨e1, e2, el⟩ := vals_each I hr rv ht
  have hzip : (xs.zip ds).map (·.2) = ds := by rw [List.map_snd_zip]; omega
  have mem2 : ∀ b ∈ xs.zip ds, b.2 ∈ ds := fun b hb => (List.of_mem_zip (a := b.1) (b := b.2) hb).2
  refine PySem.W.sorted_data (enc := fun b : V × D => tP b.2) hl.isList e1 e2 ?_ ?_ ?_ ?_ fun out ol eo => ?_
  · intro p hp p' hp'
    obtain ⟨b, hb, rfl⟩ := List.mem_map.mp hp
    obtain ⟨b', hb', rfl⟩ := List.mem_map.mp hp'
    exact (h2 _ (mem2 b hb)).2 _ (mem2 b' hb')
  · rcases h3 with h3 | h3
    · exact .inl fun p hp => by
        obtain ⟨b, hb, rfl⟩ := List.mem_map.mp hp
        exact tP_tup (ht _ (mem2 b hb)) (h3 _ (mem2 b hb))
    · exact .inr fun p hp => by
        obtain ⟨b, hb, rfl⟩ := List.mem_map.mp hp
        exact tP_not (ht _ (mem2 b hb)) (h3 _ (mem2 b hb))
  · rw [List.length_zip]
    have := hz
    omega
  · intro b hb
    have := (h2 _ (mem2 b hb)).1
    omega
  · obtain ⟨v1, r1⟩ := each_out eo
    have em : ((xs.zip ds).mergeSort (PySem.W.dataLe false fun b : V × D => tP b.2)).map (·.2) = sortDs ds := by
      unfold sortDs
      rw [List.map_mergeSort (r := PySem.W.dataLe false fun b : V × D => tP b.2) (s := fun a b => !ltS b a) (f := fun b : V × D => b.2) (fun _ _ _ _ => rfl), hzip]
    rw [em] at r1
    obtain ⟨ep, he'⟩ := PyProof.Rows.sortedAll_at s.heap its out.toArray
    have hlen : (((xs.zip ds).mergeSort (PySem.W.dataLe false fun b : V × D => tP b.2)).map (·.1)).length ≤ sizeLine := by
      rw [List.length_map, List.length_mergeSort, List.length_zip]
      omega
    exact ⟨.ref _, upd H (s.heap.objs.size + 1) (.lst (((xs.zip ds).mergeSort (PySem.W.dataLe false fun b : V × D => tP b.2)).map (·.1))), I.laid (t' := s.toks) (fun _ _ => PyProof.Rows.sortedAll_old) (Nat.le_succ _) ⟨hlen, out, ep, v1, he'⟩, rfl, q _ _ r1 (I.hok.fresh (Nat.le_succ _))⟩
theorem vcl_sortG : VCl K mg (rSortG K mg) (one sortedG) := vcl_one fun d1 d v T H Q e r l q => by
  simp only [sortedG, Option.bind_eq_some_iff] at e
  obtain ⟨ds, e1, e⟩ := e
  split at e
  · rename_i h
    cases e
    obtain ⟨a, xs, rfl, s, r⟩ := r.lsts e1
    have hp : pures? ds = true := by
      have h' := h
      unfold sortOk at h'
      simp only [Bool.and_eq_true] at h'
      exact h'.1.1.1
    refine ⟨a, xs, ds, rfl, s, Reps.fixed ds hp r, h, fun ys p ry np => ?_⟩
    exact q _ _ (fun a => E0 a ∨ a = p) ⟨p, _, rfl, upd_same, .inr rfl, (Reps.keep _ ry (kp_new np)).mono Sub.e0⟩ (.new np trivial Live.e0 Sub.e0)
  · cases e
end
end VS
set_option Elab.async false
set_option linter.all false
set_option maxRecDepth 100000
set_option maxHeartbeats 4000000
/-! VS30: list.insert, o.f += e, targets that are fields, is True, name += e. -/
namespace VS
open PySem PySem.Spec PyProof.Rows L2
/-! ### insert -/
def rIns : V → List V → Hp → VK → Prop := fun x vs H Q => ∃ (l : Addr) (xs : List V) (i : Int) (y : V), x = .ref l ∧ vs = [.int i, y] ∧ H l = some (.lst xs) ∧ xs.length < sizeLine ∧ 0 ≤ i ∧ i < 2 ^ 63 ∧
    Q .non (upd H l (.lst (xs.take i.toNat ++ [y] ++ xs.drop i.toNat)))
def insF : List D → List D → Option (D × List D)
  | ds, [.int i, d] => if 0 ≤ i ∧ i < 1000000 ∧ ds.length < big then some (.non, ds.take i.toNat ++ [d] ++ ds.drop i.toNat) else none
  | _, _ => none
section
variable {K : PySem.W.Frag} {mg : Str → Option Value} {H H' : Hp}
theorem Reps.split2 : ∀ {ds : List D} {xs : List V} {A : AS} (n : Nat), Reps K mg H ds xs A → ∃ A1 A2, Sub A1 A ∧ Sub A2 A ∧ Dj A1 A2 ∧ Reps K mg H (ds.take n) (xs.take n) A1 ∧ Reps K mg H (ds.drop n) (xs.drop n) A2
  | ds, xs, A, 0, r => ⟨E0, A, Sub.e0, Sub.rfl, Dj.e0, by rw [List.take_zero, List.take_zero]; rfl, r⟩
  | [], _, A, n + 1, r => by cases r; exact ⟨E0, E0, Sub.e0, Sub.e0, Dj.e0, rfl, rfl⟩
  | d :: ds, _, A, n + 1, ⟨x, ys, A1, A2, e, s1, s2, dj, r1, r2⟩ => by
    cases e
    obtain ⟨B1, B2, t1, t2, dj', q1, q2⟩ := Reps.split2 n r2
    exact ⟨Un2 A1 B1, B2, fun a h => h.elim (s1 a) fun h => s2 a (t1 a h), fun a h => s2 a (t2 a h), fun a h g => h.elim (fun h => dj a h (t2 a g)) fun h => dj' a h g,
      ⟨x, _, A1, B1, rfl, fun _ => .inl, fun _ => .inr, fun a h g => dj a h (t1 a g), r1, q1⟩, q2⟩
theorem vlm_ins : VLm K mg rIns insF := by
  intro ds as d ds' a xs vs A T H Q h e rs rv nA nT dAT lA lT q
  unfold insF at h
  split at h
  · rename_i i c
    split at h
    · rename_i hh
      obtain ⟨h0, h1, h2⟩ := hh
      cases h
      obtain ⟨x, y, rfl, rx, ry⟩ := Reps.two rv
      cases rx
      refine ⟨a, xs, i, y, rfl, rfl, e, by rw [rs.length]; exact big_lt h2, h0, by omega, ?_⟩
      obtain ⟨A1, A2, s1, s2, dj, r1, r2⟩ := Reps.split2 i.toNat rs
      refine q .non _ E0 (Un2 A T) rfl ?_ Dj.e0 Sub.e0 Sub.rfl
      have k1 : ∀ {o : HO}, Kp A1 H (upd H a o) := fun {o} => kp_upd (fun h => nA (s1 a h)) e trivial
      have k2 : ∀ {o : HO}, Kp A2 H (upd H a o) := fun {o} => kp_upd (fun h => nA (s2 a h)) e trivial
      have k3 : ∀ {o : HO}, Kp T H (upd H a o) := fun {o} => kp_upd nT e trivial
      refine Reps.append (B := A2) (A := Un2 A1 T) (Reps.append (Reps.keep _ r1 k1) (Reps.sing (Rep.keep _ ry k3)) (fun b h g => dAT b (s1 b h) g) (fun _ => .inl) fun _ => .inr) (Reps.keep _ r2 k2) ?_ ?_ ?_
      · exact fun b h g => h.elim (fun h => dj b h g) fun h => dAT b (s2 b g) h
      · exact fun b h => h.imp (s1 b) id
      · exact fun b h => .inl (s2 b h)
    · cases h
  · cases h
end
section
variable {X : Cx} {eC : Addr} {W : WX} {S S1 S2 SA : List Nat} {pos apos cpos : Pos} {o e e2 : Expr} {i : Nat} {ps : Path} {ms : M (List D)}
theorem ve_insert (hO : VP X o i ps) (h : VA X eC W S [e, e2] ms) (hi : i ∉ S)
    (hbase : attributeBase o "insert" X.env (eval o X.env) = eval o X.env := by rfl)
    (hfew : ((backTo cpos (starEach [e, e2] X.env)).all (fun x => !x.1) && (backToKw cpos (keywordEach [] X.env)).all (fun x => x.1.isSome)
      && decide ([e, e2].length + ([] : List Keyword).length + (if ([] : List Keyword).isEmpty then 0 else 1) < 30)) = true := by rfl)
    (hline : (apos.endLine == cpos.line) = true := by rfl) (hs : starEach [e, e2] X.env = (false, eval e X.env) :: starEach [e2] X.env := by rfl) (hplain : (backTo cpos (starEach [e2] X.env)).any (·.1) = false := by rfl) :
    VE X eC W (S ++ [i]) (.Call (.Attribute o "insert" apos) [e, e2] [] cpos) (lmM i ps insF ms) :=
  PE.imp (pe_bm PySem.F.plainAttrs_list PySem.F.slot_list_insert PySem.F.type_list_insert mt_insert hO h hbase hfew hline hs hplain) fun σ H Q q => tv_lm (K := X.K) (mg := X.mg) (r := rIns) vlm_ins hi (fun Q h => h) q
end
/-! ### is True -/
def isBD (neg : Bool) : D → D → Option D
  | .bl a, .bl b => some (.bl (if neg then !decide (a = b) else decide (a = b)))
  | _, _ => none
section
variable {K : PySem.W.Frag} {mg : Str → Option Value} {H H' : Hp}
theorem vop_isB : VOp K mg rIsB (isBD false) := by
  intro d1 d2 d v1 v2 T1 T2 H Q e r1 r2 dj l1 l2 q
  cases d1 <;> cases d2 <;> simp [isBD] at e
  subst e
  exact ⟨_, _, r1, r2, q _ H E0 rfl .refl⟩
theorem vop_notB : VOp K mg rNotB (isBD true) := by
  intro d1 d2 d v1 v2 T1 T2 H Q e r1 r2 dj l1 l2 q
  cases d1 <;> cases d2 <;> simp [isBD] at e
  subst e
  exact ⟨_, _, r1, r2, q _ H E0 rfl .refl⟩
end
/-! ### targets that may change memory; what is stored is pure -/
section
variable (K : PySem.W.Frag) (mg : Str → Option Value) (SA : List Nat)
def TgX (t : TG) (g : D → List D → Option (List D)) : Prop :=
  ∀ d v ρ ρ' F σ H Q, g d ρ = some ρ' → ER K mg H ρ σ F → Rep K mg H d v E0 →
    (∀ σ' H' F', ER K mg H' ρ' σ' F' → AftS H F H' F' → Agree SA σ σ' → Q σ' H') → t v σ H Q
def TgsX (t : TGs) (g : List D → List D → Option (List D)) : Prop :=
  ∀ ds vs ρ ρ' F σ H Q, g ds ρ = some ρ' → ER K mg H ρ σ F → Reps K mg H ds vs E0 →
    (∀ σ' H' F', ER K mg H' ρ' σ' F' → AftS H F H' F' → Agree SA σ σ' → Q σ' H') → t vs σ H Q
end
section
variable {K : PySem.W.Frag} {mg : Str → Option Value} {SA : List Nat}
theorem TgOk.x {t : TG} {g : D → List D → Option (List D)} (k : TgOk K mg SA t g) : TgX K mg SA t g := fun d v ρ ρ' F σ H Q e er r q =>
  k d v E0 ρ ρ' F σ H Q e er r Live.e0 (fun _ => Dj.e0) fun σ' F' er' f a => q σ' H F' er' ⟨fun _ _ e _ => e, fun j a h => (f j a h).elim (fun h => .inl ⟨j, h⟩) False.elim, fun _ e => e⟩ a
theorem tgsX_nil : TgsX K mg SA gNil tgNil := fun ds vs ρ ρ' F σ H Q e er r q => by
  cases ds with
  | nil => cases e; cases r; exact ⟨rfl, q σ H F er .refl .refl⟩
  | cons => cases e
theorem tgsX_cons {t : TG} {ts : TGs} {g : D → List D → Option (List D)} {gs : List D → List D → Option (List D)} (k1 : TgX K mg SA t g) (k2 : TgsX K mg SA ts gs) : TgsX K mg SA (gCons t ts) (tgCons g gs) := fun ds vs ρ ρ' F σ H Q e er r k => by
  cases ds with
  | nil => cases e
  | cons d ds =>
    simp only [tgCons, Option.bind_eq_some_iff] at e
    obtain ⟨ρ1, e1, e2⟩ := e
    obtain ⟨x, ys, A1, A2, rfl, s1, s2, d12, r1, r2⟩ := r
    refine ⟨x, ys, rfl, k1 d x ρ ρ1 F σ H _ e1 er (r1.mono s1) fun σ1 H1 F1 er1 f1 a1 => ?_⟩
    exact k2 ds ys ρ1 ρ' F1 σ1 H1 _ e2 er1 (Reps.keep _ (r2.mono s2) (f1.kp0 er)) fun σ2 H2 F2 er2 f2 a2 => k σ2 H2 F2 er2 (f1.trans f2) (a1.trans a2)
end
/-- (a, b, ..) = a tuple of pure items -/
def tgTupX (n : Nat) (gs : List D → List D → Option (List D)) : D → List D → Option (List D)
  | .tup ds, ρ => if ds.length = n then gs ds ρ else none
  | _, _ => none
theorem tgX_tup {K : PySem.W.Frag} {mg : Str → Option Value} {SA : List Nat} {ts : TGs} {gs : List D → List D → Option (List D)} {n : Nat} (kk : TgsX K mg SA ts gs) : TgX K mg SA (gTup K n ts) (tgTupX n gs) := fun d v ρ ρ' F σ H Q e er r q => by
  unfold tgTupX at e
  split at e
  · split at e
    · rename_i hl
      obtain ⟨a, xs, rfl, s, r⟩ := r
      exact ⟨a, xs, rfl, s, by rw [r.length]; exact hl, kk _ xs ρ ρ' F σ H Q e er r q⟩
    · cases e
  · cases e
/-- o.f as a target -/
def gFld (K : PySem.W.Frag) (to : TE) (f : Str) : TG := fun y σ H Q => to σ H fun x H2 => ∃ a C dx fs, x = .ref a ∧ H2 a = some (.ins C dx fs) ∧ Cls K C ∧ NoAttr K C f ∧ fs.length < 1000 ∧ Q σ (upd H2 a (.ins C dx (putF f y fs)))
theorem pg_fld {X : Cx} {o : Expr} {f : Str} {pos : Pos} {to : TE} (ho : PE X o to) : PG X (.Attribute o f pos) (gFld X.K to f) := by
  refine ⟨fun pins s σ H v u Q I r h => ?_⟩
  refine PySem.W.kas_attr (thn (ho.run pins s σ H _ I h) fun ov s2 ⟨x, H2, I2, rx, a, C, dx, fs, ex, ea, c, n, l, q2⟩ => ?_)
  subst ex
  obtain rfl : ov = Value.ref a := rx
  exact setattr_ok I2 ea c n l r fun s3 I3 => ⟨σ, _, I3, q2⟩
def tgF (i : Nat) (ps : Path) (c f : Str) : D → List D → Option (List D) := fun d ρ => match ρ[i]? with
  | some d0 => (match getP d0 ps with
    | some (.obj true c' ns ds) => if c' = c ∧ ns.length < 1000 then some (ρ.set i (putP d0 ps (.obj true c (fldPut f d ns ds).1 (fldPut f d ns ds).2))) else none
    | _ => none)
  | none => none
section
variable {X : Cx} {eC : Addr} {W : WX} {S S1 S2 SA : List Nat} {pos : Pos}
theorem tgX_fld {i : Nat} {ps : Path} {c f : Str} {to : TE} (ho : ∀ σ H (Q : VK), (∃ v, PlcAt X.K X.mg H σ i ps v ∧ Q v H) → to σ H Q) (hc : ∀ C, X.mg c = some (.ref C) → Cls X.K C ∧ NoAttr X.K C f) : TgX X.K X.mg SA (gFld X.K to f) (tgF i ps c f) := fun d v ρ1 ρ' F1 σ H1 Q q er1 r k0 => by
  unfold tgF at q
  cases e1 : ρ1[i]? with
  | none => rw [e1] at q; cases q
  | some d0 =>
    rw [e1] at q
    dsimp only at q
    split at q
    · rename_i c' ns ds e2
      split at q
      · rename_i hh
        obtain ⟨rfl, hl⟩ := hh
        cases q
        obtain ⟨x, A1, at1, r1, s1, k⟩ := plc_set er1 e1 e2 rfl
        obtain ⟨b, C, dx, fs, rfl, mC, z, iA, en, rs⟩ := r1
        obtain ⟨cl, na⟩ := hc C mC
        refine ho σ H1 _ ⟨.ref b, at1, b, C, dx, fs, rfl, z, cl, na, by rw [← en, List.length_map] at hl; exact hl, ?_⟩
        subst en
        have kpT : Kp E0 H1 (upd H1 b (.ins C dx (putF f v fs))) := kp_upd (fun h => h) z trivial
        have kpA : Kp (But A1 b) H1 (upd H1 b (.ins C dx (putF f v fs))) := kp_upd (fun x => x.2 rfl) z trivial
        obtain ⟨en2, rs2⟩ := fldPut_ok (f := f) (Rep.keep d r kpT) (Reps.keep ds rs kpA) Dj.e0r
        have lA1 : Live H1 A1 := (er1.live i).sub s1
        obtain ⟨F', er', f', _⟩ := k E0 (fun _ => Dj.e0) Live.e0 _ (Un2 A1 E0) (.obj true c' _ _) (.upd (o := .ins C dx (putF f v fs)) (.inl iA) trivial (lA1.un Live.e0) Sub.rfl)
          ⟨b, C, dx, _, rfl, mC, upd_same, .inl iA, en2, rs2.mono fun a x => x.elim (fun x => ⟨.inl x.1, x.2⟩) False.elim⟩
        refine k0 σ _ F' er' ⟨fun a o e n => ?_, fun j a h => ?_, fun a e => ?_⟩ .refl
        · rw [upd_ne]
          · exact e
          · rintro rfl
            exact n i (s1 a iA)
        · rcases f' j a h with h | h | h
          · exact .inl ⟨j, h.1⟩
          · exact .inl ⟨i, s1 a h⟩
          · exact h.elim
        · by_cases zz : a = b
          · subst zz; rw [upd_same] at e; cases e
          · rw [upd_ne zz] at e; exact e
      · cases q
    · cases q
def VGX (X : Cx) (SA : List Nat) (tg : Expr) (g : D → List D → Option (List D)) : Prop := ∃ t : TG, PG X tg t ∧ TgX X.K X.mg SA t g
def VGsX (X : Cx) (SA : List Nat) (ts : List Expr) (g : List D → List D → Option (List D)) : Prop := ∃ t : TGs, PGs X ts t ∧ TgsX X.K X.mg SA t g
theorem vgx_of {tg : Expr} {g : D → List D → Option (List D)} (h : VG X SA tg g) : VGX X SA tg g := let ⟨t, p, k⟩ := h; ⟨t, p, k.x⟩
theorem vgx_fld {o : Expr} {i : Nat} {ps : Path} {c f : Str} (hO : VP X o i ps) (hc : ∀ C, X.mg c = some (.ref C) → Cls X.K C ∧ NoAttr X.K C f) : VGX X SA (.Attribute o f pos) (tgF i ps c f) := ⟨_, pg_fld hO, tgX_fld (fun _ _ _ h => h) hc⟩
theorem vgsx_nil : VGsX X SA [] tgNil := ⟨_, pgs_nil, tgsX_nil⟩
theorem vgsx_cons {e : Expr} {es : List Expr} {g : D → List D → Option (List D)} {gs : List D → List D → Option (List D)} (h1 : VGX X SA e g) (h2 : VGsX X SA es gs)
    (hs : (assignEach (e :: es) X.env).map (·.2) = assign e X.env :: (assignEach es X.env).map (·.2) := by rfl) : VGsX X SA (e :: es) (tgCons g gs) := by
  obtain ⟨t1, p1, k1⟩ := h1
  obtain ⟨t2, p2, k2⟩ := h2
  exact ⟨_, pgs_cons p1 p2 hs, tgsX_cons k1 k2⟩
theorem vgx_tup {es : List Expr} {k : Nat} {gs : List D → List D → Option (List D)} {n : Nat} (hc : X.calm = true) (h : VGsX X SA es gs)
    (hn : (assignEach es X.env).length = n := by rfl) (hst : (assignEach es X.env).findIdx? (·.1) = none := by rfl) : VGX X SA (.Tuple es k pos) (tgTupX n gs) := by
  obtain ⟨t, p, kk⟩ := h
  exact ⟨_, pg_tup hc p hn hst, tgX_tup kk⟩
/-- targets = pure data -/
def asgX (g : D → List D → Option (List D)) (m : EM) : SM := fun ρ => (m ρ).bind fun d ρ1 => if pure? d = true then (Res.of (g d ρ1) ρ1).bind fun ρ2 _ => .ok .nx ρ2 else .bad
theorem vs_asgX {tg e : Expr} {g : D → List D → Option (List D)} {m : EM} (h : VE X eC W S e m) (hg : VGX X SA tg g) (hs : swapsWithSole [tg] e pos.line X.env = pure false := by rfl) (hw : swappedStores [tg] e X.env = pure none := by rfl)
    (h1 : (assignEach [tg] X.env).map (·.2) = [assign tg X.env] := by rfl) : VS X eC W SA (.Assign [tg] e pos) (asgX g m) := by
  obtain ⟨gt, pg, kt⟩ := hg
  exact PS.imp (ps_asg h pg hs hw h1) fun E σ H q => tv_s q fun d ρ1 v H1 F1 T er1 r dj l _ ⟨F0, H0, q, ga, new⟩ => by
    by_cases hp : pure? d = true
    · rw [if_pos hp] at q
      cases e1 : g d ρ1 with
      | none => rw [e1] at q; exact q.elim
      | some ρ2 =>
        rw [e1] at q
        exact kt d v ρ1 ρ2 F1 σ H1 _ e1 er1 (Rep.fixed d hp r) fun σ2 H2 F2 er2 g2 a2 => q σ2 H2 F2 er2 (ga.trans g2) a2
    · rw [if_neg hp] at q; exact q.elim
end
end VS
set_option Elab.async false
set_option linter.all false
set_option maxRecDepth 100000
set_option maxHeartbeats 4000000
/-! VS31: name += e, o.f += a written int. -/
namespace VS
open PySem PySem.Spec PyProof.Rows L2
section
variable {X : Cx} {eC : Addr} {W : WX} {S S1 S2 SA : List Nat} {pos : Pos}
def addI : D → D → Option D := int2 fun i j => some (.int (i + j))
theorem addI_some {a b d : D} (e : addI a b = some d) : ∃ i j, a = .int i ∧ b = .int j ∧ d = .int (i + j) := by
  unfold addI int2 at e
  split at e
  · cases e; exact ⟨_, _, rfl, rfl, rfl⟩
  · cases e
theorem vs_aug {i : Nat} {x : Str} {e : Expr} {m : EM} {pos' : Pos} (hi : i ∈ SA) (h : VE X eC W S e m) (hN : X.N.Nodup) (hx : X.N[i]? = some x) (hl : Loc X.env.scope x)
    (hf : X.fn x = true ∨ X.env.scope.names.lookup x = some .local := by first | exact .inl rfl | exact .inr rfl) : VS X eC W SA (.AugAssign (.Name x pos') .Add e pos) (setM i (opM addI (rd i) m)) := PS.imp (ps_aug hN hx hl h ip_add hf) fun E σ H q => by
  obtain ⟨ρ, F, er, q⟩ := q
  unfold setM opM rd at q
  cases e1 : ρ[i]? with
  | none => rw [e1] at q; exact q.elim
  | some d0 =>
    rw [e1] at q
    dsimp only at q
    by_cases c : (has? d0 && pure? d0) = true
    · rw [if_pos c] at q
      simp only [Res.bind_ok] at q
      obtain ⟨o, e2, r⟩ := er.get i d0 e1
      simp only [Bool.and_eq_true] at c
      obtain ⟨v, rfl, r⟩ := has_of c.1 r
      refine ⟨v, e2, ?_⟩
      have q2 : TVS X.K X.mg eC W SA (fun ρ => (m ρ).bind fun d2 ρ2 => (Res.of (addI d0 d2) ρ2).bind fun d ρ1 => if i < ρ1.length then .ok .nx (ρ1.set i d) else .bad) E σ H := by
        refine ⟨ρ, F, er, ?_⟩
        cases em : m ρ with
        | bad => rw [em] at q; exact q.elim
        | ex z ρ1 => rw [em] at q; dsimp only; rw [em]; exact q
        | ok d2 ρ1 => rw [em] at q; dsimp only; rw [em]; exact q
      refine tv_s q2 fun d2 ρ1 y H1 F1 T er1 r1 dj l _ ⟨F0, H0, q, g, new⟩ => ?_
      cases ea : addI d0 d2 with
      | none => rw [ea] at q; exact q.elim
      | some d =>
        rw [ea] at q
        obtain ⟨a, b, rfl, rfl, rfl⟩ := addI_some ea
        cases r
        cases r1
        simp only [Res.of_some, Res.bind_ok] at q
        split at q
        · rename_i lt
          refine ⟨a, b, rfl, rfl, ?_⟩
          obtain ⟨er2, q2⟩ := CS.store (i := i) (d := .int (a + b)) (v := .int (a + b)) (T := E0) q g er1 rfl (fun _ => Dj.e0) Live.e0 (fun _ h => h.elim) hi lt
          exact q2 _ H1 _ er2 .refl .refl
        · exact q.elim
    · rw [if_neg c] at q; exact q.elim
theorem getP_snoc : ∀ {ps : Path} {d : D} {p : Stp}, getP d (ps ++ [p]) = (getP d ps).bind fun c => getP c [p]
  | [], d, p => rfl
  | q :: ps, d, p => by
    rw [List.cons_append, getP, getP]
    cases kidN d q with
    | none => rfl
    | some k =>
      dsimp only [Option.bind]
      cases (kids d)[k]? with
      | none => rfl
      | some c => exact getP_snoc
theorem vs_finc {o : Expr} {i : Nat} {ps : Path} {c f : Str} {k : Int} {j : Nat} {tpos kpos : Pos} (hO : VP X o i ps) (hc : ∀ C, X.mg c = some (.ref C) → Cls X.K C ∧ NoAttr X.K C f) :
    VS X eC W SA (.AugAssign (.Attribute o f tpos) .Add (.Constant (.int k) j kpos) pos) (stFld i ps c f (opM addI (rdP i (ps ++ [.fld c f])) (intM k))) := PS.imp (ps_fldaug hO pe_int in_add) fun E σ H q => by
  obtain ⟨ρ1, F1, er1, q⟩ := q
  unfold stFld opM rdP intM at q
  cases e1 : ρ1[i]? with
  | none => rw [e1] at q; exact q.elim
  | some d0 =>
    rw [e1] at q
    dsimp only [Option.bind] at q
    rw [getP_snoc] at q
    cases e2 : getP d0 ps with
    | none => rw [e2] at q; exact q.elim
    | some co =>
      rw [e2] at q
      dsimp only [Option.bind] at q
      cases e3 : getP co [.fld c f] with
      | none => rw [e3] at q; exact q.elim
      | some dv =>
        rw [e3] at q
        dsimp only at q
        by_cases cc : (has? dv && pure? dv) = true
        · rw [if_pos cc] at q
          simp only [Res.bind_ok] at q
          cases ea : addI dv (.int k) with
          | none => rw [ea] at q; exact q.elim
          | some d =>
            rw [ea] at q
            obtain ⟨a, b, rfl, eb, rfl⟩ := addI_some ea
            cases eb
            simp only [Res.of_some, Res.bind_ok] at q
            rw [e1] at q
            try dsimp only at q
            rw [e2] at q
            try dsimp only at q
            split at q
            · rename_i c' ns ds eo
              cases eo
              split at q
              · rename_i hh
                obtain ⟨rfl, hl⟩ := hh
                obtain ⟨x, A1, at1, r1, s1, kk⟩ := plc_set er1 e1 e2 rfl
                obtain ⟨b, C, dx, fs, rfl, mC, z, iA, en, rs⟩ := r1
                obtain ⟨cl, na⟩ := hc C mC
                have el : fs.lookup f = some (.int a) := by
                  unfold getP at e3
                  rw [Option.bind_eq_some_iff] at e3
                  obtain ⟨n, e4, e3⟩ := e3
                  rw [Option.bind_eq_some_iff] at e3
                  obtain ⟨d5, e5, e3⟩ := e3
                  have e6 : getP d5 [] = some d5 := rfl
                  rw [e6] at e3
                  cases e3
                  replace e4 : ns.idxOf? f = some n := by
                    have e8 : (if c' = c' then ns.idxOf? f else none) = some n := e4
                    rw [if_pos rfl] at e8
                    exact e8
                  subst en
                  obtain ⟨v, e7, r7⟩ := Reps.get rs (show ds[n]? = some (.int a) from e5)
                  cases r7
                  exact lookup_idx e4 e7
                refine ⟨.ref b, at1, b, C, dx, fs, .int a, rfl, z, cl, na, el, a, k, rfl, rfl, dx, fs, z, by rw [← en, List.length_map] at hl; exact hl, ?_⟩
                subst en
                have kpT : Kp E0 H (upd H b (.ins C dx (putF f (.int (a + k)) fs))) := kp_upd (fun h => h) z trivial
                have kpA : Kp (But A1 b) H (upd H b (.ins C dx (putF f (.int (a + k)) fs))) := kp_upd (fun x => x.2 rfl) z trivial
                obtain ⟨en2, rs2⟩ := fldPut_ok (mg := X.mg) (K := X.K) (f := f) (d := .int (a + k)) (y := .int (a + k)) (T := E0) (H := upd H b (.ins C dx (putF f (.int (a + k)) fs))) rfl (Reps.keep ds rs kpA) Dj.e0r
                have lA1 : Live H A1 := (er1.live i).sub s1
                obtain ⟨F', er', f', _⟩ := kk E0 (fun _ => Dj.e0) Live.e0 _ (Un2 A1 E0) (.obj true c' _ _) (.upd (o := .ins C dx (putF f (.int (a + k)) fs)) (.inl iA) trivial (lA1.un Live.e0) Sub.rfl)
                  ⟨b, C, dx, _, rfl, mC, upd_same, .inl iA, en2, rs2.mono fun a x => x.elim (fun x => ⟨.inl x.1, x.2⟩) False.elim⟩
                refine q σ _ F' er' ⟨fun a o e n => ?_, fun j a h => ?_, fun a e => ?_⟩ .refl
                · rw [upd_ne]
                  · exact e
                  · rintro rfl
                    exact n i (s1 a iA)
                · rcases f' j a h with h | h | h
                  · exact .inl ⟨j, h.1⟩
                  · exact .inl ⟨i, s1 a h⟩
                  · exact h.elim
                · by_cases zz : a = b
                  · subst zz; rw [upd_same] at e; cases e
                  · rw [upd_ne zz] at e; exact e
              · exact q.elim
            · exact q.elim
        · rw [if_neg cc] at q; exact q.elim
end
end VS
set_option Elab.async false
set_option linter.all false
set_option maxRecDepth 100000
set_option maxHeartbeats 4000000
/-! VS32: method calls, sorted, pop, is True: with their side conditions told apart (for gen.py). -/
namespace VS
open PySem PySem.Spec PyProof.Rows L2
section
variable {X : Cx} {eC : Addr} {W : WX} {S S1 S2 SA : List Nat} {pos apos p2 p cpos : Pos} {f C : Addr} {fd : FuncData} {ps : List Str} {fm : FM} {k n : Nat} {o e : Expr} {es : List Expr} {c m : Str} {i : Nat} {ps' : Path} {ks : List AK} {ms : M (List D)}
theorem vc_meth {pl : Sem Bool} (ho : VP X o i ps') (F : Df X.prog X.w X.K X.mg X.base eC k f fd ps fm) (hr : Room k X.A) (tk : Takes X W) (hC : X.mg c = some (.ref C)) (cl : Cls X.K C) (hm : Meth X.K C m f) (ha : VR X eC W S ks (e :: es) ms) (hn : ps.length = n := by rfl)
    (nS : i ∉ S := by decide) (nd : (roots (.plc i ps' :: ks)).Nodup := by decide)
    (hst : starEach (e :: es) X.env = (false, eval e X.env) :: starEach es X.env := by rfl) (hpl : (backTo pos (starEach es X.env)).any (·.1) = false := by rfl)
    (ht : eval (.Call (.Attribute o m apos) (e :: es) [] pos) X.env = (do
      let ov ← eval o X.env
      standAt apos.atName
      let (f, first) ← holding [ov] (getMethod ov m pl)
      callWith pos f first (backTo pos (starEach (e :: es) X.env)) (backToKw pos (keywordEach [] X.env))) := by rfl) :
    VE X eC W (S ++ roots (.plc i ps' :: ks)) (.Call (.Attribute o m apos) (e :: es) [] pos) (methM n c m i ps' ks fm ms) := by subst hn; exact ve_meth ho F hr tk hC cl hm ha nS nd hst hpl ht
theorem vc_meth0 {pl : Sem Bool} (ho : VP X o i ps') (F : Df X.prog X.w X.K X.mg X.base eC k f fd ps fm) (hr : Room k X.A) (tk : Takes X W) (hC : X.mg c = some (.ref C)) (cl : Cls X.K C) (hm : Meth X.K C m f) (hn : ps.length = n := by rfl)
    (ht : eval (.Call (.Attribute o m apos) [] [] pos) X.env = (do
      let ov ← eval o X.env
      standAt apos.atName
      let (f, first) ← holding [ov] (getMethod ov m pl)
      callWith pos f first (backTo pos (starEach [] X.env)) (backToKw pos (keywordEach [] X.env))) := by rfl) :
    VE X eC W ([] ++ roots [.plc i ps']) (.Call (.Attribute o m apos) [] [] pos) (methM n c m i ps' [] fm nilM) := by subst hn; exact ve_meth0 ho F hr tk hC cl hm ht
theorem vc_sorted {x : Str} (hr : Room k X.A) (hg : Gl X x) (hm : X.mg x = none) (hv : bootBuiltins x = some (.builtin "sorted")) (ha : VA X eC W S (e :: es) ms) (hn : x ≠ "__name__" := by decide) (hdb : (x == ("__debug__" : Str)) = false := by decide)
    (he : starEach (e :: es) X.env = (false, eval e X.env) :: starEach es X.env := by rfl) (hpl : (backTo pos (starEach es X.env)).any (·.1) = false := by rfl) : VE X eC W S (.Call (.Name x p) (e :: es) [] pos) (clM (one sortedG) ms) :=
  vc_B (cr_sortG (hu65 hr)) vcl_sortG hg hm hv ha hn hdb he hpl
end
end VS
set_option Elab.async false
set_option linter.all false
set_option maxRecDepth 100000
set_option maxHeartbeats 4000000
/-! VS33: what stands at a place is looked at, and not kept: list(place), tuple(place), place[e], e in place. -/
namespace VS
open PySem PySem.Spec PyProof.Rows L2
def pkD (i : Nat) (ps : Path) (ρ : List D) : Option D := match (ρ[i]?).bind (getP · ps) with
  | some d => if has? d = true then some d else none
  | none => none
section
variable {K : PySem.W.Frag} {mg : Str → Option Value} {H H' : Hp} {ρ : List D} {σ : L2.St} {F : Nat → AS} {i : Nat} {ps : Path} {d : D}
theorem peek (er : ER K mg H ρ σ F) (e : pkD i ps ρ = some d) : ∃ x A1, PlcAt K mg H σ i ps x ∧ Rep K mg H d x A1 ∧ Sub A1 (F i) := by
  unfold pkD at e
  cases e1 : ρ[i]? with
  | none => rw [e1] at e; cases e
  | some d0 =>
    rw [e1] at e
    simp only [Option.bind_some] at e
    cases e2 : getP d0 ps with
    | none => rw [e2] at e; cases e
    | some c =>
      rw [e2] at e
      dsimp only at e
      split at e
      · rename_i hc
        cases e
        obtain ⟨o, e3, r⟩ := er.get i d0 e1
        obtain ⟨v0, rfl, r⟩ := has_root e2 hc r
        obtain ⟨x, A1, A2, a, s1, s2, dj, r1, r2, _⟩ := r.path e2
        exact ⟨x, A1, ⟨v0, e3, a⟩, r1, s1⟩
      · cases e
end
def VPk (K : PySem.W.Frag) (mg : Str → Option Value) (r : List V → Hp → VK → Prop) (f : D → Option D) : Prop :=
  ∀ d d' x A H Q, f d = some d' → Rep K mg H d x A → (∀ v H' T, Rep K mg H' d' v T → AftT E0 H H' T → Q v H') → r [x] H Q
def pkM (f : D → Option D) (i : Nat) (ps : Path) : EM := fun ρ => Res.of ((pkD i ps ρ).bind f) ρ
def pkL : D → Option D := fun d => (items d).bind fun ds => if pures? ds = true then some (.lst true ds) else none
def pkT : D → Option D := fun d => (items d).bind fun ds => if pures? ds = true then some (.tup ds) else none
section
variable {K : PySem.W.Frag} {mg : Str → Option Value}
theorem vpk_list : VPk K mg (fun xs H Q => ∃ p ys, xs = [V.ref p] ∧ (SqL K H p ys ∨ SqT K H p ys) ∧ ∀ l, H l = none → Q (.ref l) (upd H l (.lst ys))) pkL := fun d d' x A H Q e r q => by
  simp only [pkL, Option.bind_eq_some_iff] at e
  obtain ⟨ds, e, h⟩ := e
  split at h
  · rename_i hp
    cases h
    obtain ⟨a, xs, rfl, s, r⟩ := r.seq e
    have r := Reps.fixed ds hp r
    exact ⟨a, xs, rfl, s, fun p np => q _ _ (fun a => E0 a ∨ a = p) ⟨p, xs, rfl, upd_same, .inr rfl, (Reps.keep ds r (kp_new np)).mono Sub.e0⟩ (.new np trivial Live.e0 Sub.rfl)⟩
  · cases h
theorem vpk_tuple : VPk K mg (fun xs H Q => ∃ p ys, xs = [V.ref p] ∧ ((SqL K H p ys ∧ ∀ l, H l = none → Q (.ref l) (upd H l (.tup ys))) ∨ (SqT K H p ys ∧ Q (.ref p) H))) pkT := fun d d' x A H Q e r q => by
  simp only [pkT, Option.bind_eq_some_iff] at e
  obtain ⟨ds, e, h⟩ := e
  split at h
  · rename_i hp
    cases h
    obtain ⟨a, xs, rfl, s, r⟩ := r.seq e
    have r := Reps.fixed ds hp r
    refine ⟨a, xs, rfl, s.imp (fun s => ⟨s, fun p np => ?_⟩) fun s => ⟨s, ?_⟩⟩
    · exact q _ _ E0 ⟨p, xs, rfl, .of upd_same, Reps.keep ds r (kp_new np)⟩ (.newF np Live.e0 Sub.rfl)
    · exact q _ H E0 ⟨a, xs, rfl, s, r⟩ (.same Live.e0 Sub.rfl)
  · cases h
end
section
variable {X : Cx} {eC : Addr} {W : WX} {S S1 S2 SA : List Nat} {pos p : Pos} {e a b : Expr} {i : Nat} {ps : Path} {m : EM}
/-- nothing but new objects -/
theorem got_new {H H' : Hp} {ρ : List D} {σ : L2.St} {F : Nat → AS} {T : AS} (er : ER X.K X.mg H ρ σ F) (t : AftT E0 H H' T) : ER X.K X.mg H' ρ σ F ∧ Got [] H F H' F T := by
  have kp : ∀ j, Kp (F j) H H' := fun j a o e h => t.keep a o e fun h => h
  refine ⟨⟨er.len, fun j d e => ?_, er.dj, fun j => (er.live j).keep (kp j)⟩, ⟨⟨fun a o e n => t.keep a o e fun h => h, fun j _ => Sub.rfl, fun j hj => (by cases hj), t.dom⟩, fun a h => ?_, fun j a h x => ?_, t.live⟩⟩
  · obtain ⟨o, e1, r⟩ := er.get j d e
    refine ⟨o, e1, ?_⟩
    cases o with
    | none => exact r
    | some v => exact Rep.keep d r (kp j)
  · exact (t.sub a h).elim False.elim .inr
  · rcases t.sub a h with h | h
    · exact h
    · obtain ⟨u, e, _⟩ := er.live j a x
      rw [h] at e; cases e
theorem vc_pkTy {x : Str} {T : String} {r : List V → Hp → VK → Prop} {f : D → Option D} (hc : CallR X (.type T) r) (h : VPk X.K X.mg r f) (hO : VP X e i ps)
    (hg : Gl X x) (hm : X.mg x = none) (hv : bootBuiltins x = some (.type T)) (hn : x ≠ "__name__" := by decide) (hdb : (x == ("__debug__" : Str)) = false := by decide)
    (he : starEach [e] X.env = (false, eval e X.env) :: starEach [] X.env := by rfl) (hpl : (backTo pos (starEach [] X.env)).any (·.1) = false := by rfl) : VE X eC W [] (.Call (.Name x p) [e] [] pos) (pkM f i ps) :=
  PE.imp (pe_callTy hc hg hm hv (pa_cons hO pa_nil he) hn hdb he hpl) fun σ H Q ⟨ρ, F, er, q⟩ => by
    unfold pkM at q
    cases e1 : pkD i ps ρ with
    | none => rw [e1] at q; exact q.elim
    | some d =>
      rw [e1] at q
      dsimp only [Option.bind] at q
      cases e2 : f d with
      | none => rw [e2] at q; exact q.elim
      | some d' =>
        rw [e2] at q
        obtain ⟨v, A1, at1, r1, s1⟩ := peek er e1
        exact ⟨v, at1, h d d' v A1 H Q e2 r1 fun v' H' T r t => let ⟨er', g⟩ := got_new er t; q v' H' F T er' r g⟩
def ixPM (i : Nat) (ps : Path) (m : EM) : EM := fun ρ => match pkD i ps ρ with
  | some d => (m ρ).bind fun k ρ1 => Res.of ((ixD d k).bind fun z => if pure? z = true then some z else none) ρ1
  | none => .bad
theorem ve_ixP (hO : VP X a i ps) (hb : VE X eC W [] b m) (hs : PlainIx b := by exact fun _ _ => rfl) : VE X eC W [] (.Subscript a b pos) (ixPM i ps m) :=
  PE.imp (pe_ix ix_lt hO hb hs) fun σ H Q ⟨ρ, F, er, q⟩ => by
    unfold ixPM at q
    cases e1 : pkD i ps ρ with
    | none => rw [e1] at q; exact q.elim
    | some d =>
      rw [e1] at q
      dsimp only at q
      obtain ⟨x, A1, at1, r1, s1⟩ := peek er e1
      refine ⟨x, at1, ρ, F, er, ?_⟩
      cases e2 : m ρ with
      | bad => rw [e2] at q; exact q
      | ex z ρ1 => rw [e2] at q; exact q
      | ok k ρ1 =>
        rw [e2] at q
        simp only [Res.bind_ok] at q
        intro v H' F' T er' r g
        cases e3 : ixD d k with
        | none => rw [e3] at q; exact q.elim
        | some z =>
          rw [e3] at q
          by_cases hz : pure? z = true
          · simp only [Option.bind_some, if_pos hz, Res.of_some] at q
            have kp : Kp A1 H H' := fun a o e _ => g.keep a o e fun j hj => (by cases hj)
            have r2 := Rep.keep d r1 kp
            unfold ixD at e3
            split at e3
            · rename_i kk
              simp only [Option.bind_eq_some_iff] at e3
              obtain ⟨ds, e4, e5⟩ := e3
              cases (show v = .int kk from r)
              obtain ⟨a, xs, rfl, s, r3⟩ := r2.seq e4
              obtain ⟨w, e6, rv⟩ := r3.atI e5
              have fin := q w H' F' E0 er' (Rep.fixed z hz rv) ⟨g.toAft, fun a h => h.elim, fun j => Dj.e0, Live.e0⟩
              exact s.imp (fun s => ⟨a, xs, kk, w, rfl, rfl, s, e6, fin⟩) fun s => ⟨a, xs, kk, w, rfl, rfl, s, e6, fin⟩
            · cases e3
          · simp only [Option.bind_some, if_neg hz, Res.of_none] at q
def inPM (neg : Bool) (m : EM) (i : Nat) (ps : Path) : EM := fun ρ => (m ρ).bind fun d1 ρ1 => Res.of ((pkD i ps ρ1).bind fun d => inP neg d1 d) ρ1
theorem tv_inP {neg : Bool} {σ : L2.St} {H : Hp} {Q : VK} {tb : TE} (hO : ∀ σ H (Q : VK), (∃ v, PlcAt X.K X.mg H σ i ps v ∧ Q v H) → tb σ H Q) (q : TV X.K X.mg eC W S (inPM neg m i ps) σ H Q) :
    TV X.K X.mg eC W S m σ H (fun x H1 => tb σ H1 fun y H2 => rInP X.K neg x y H2 Q) := by
  obtain ⟨ρ, F, er, q⟩ := q
  refine ⟨ρ, F, er, ?_⟩
  unfold inPM at q
  cases e1 : m ρ with
  | bad => rw [e1] at q; exact q
  | ex z ρ1 => rw [e1] at q; exact q
  | ok d1 ρ1 =>
    rw [e1] at q
    simp only [Res.bind_ok] at q
    intro v1 H1 F1 T1 er1 r1 g1
    cases e2 : pkD i ps ρ1 with
    | none => rw [e2] at q; exact q.elim
    | some d =>
      rw [e2] at q
      dsimp only [Option.bind] at q
      cases e3 : inP neg d1 d with
      | none => rw [e3] at q; exact q.elim
      | some dr =>
        rw [e3] at q
        obtain ⟨x, A1, at1, r2, s1⟩ := peek er1 e2
        refine hO σ H1 _ ⟨x, at1, ?_⟩
        have fin : ∀ b, dr = .bl b → Q (.bl b) H1 := fun b eb => by
          subst eb
          exact q (.bl b) H1 F1 E0 er1 rfl ⟨g1.toAft, fun a h => h.elim, fun j => Dj.e0, Live.e0⟩
        unfold inP at e3
        simp only [Option.bind_eq_some_iff] at e3
        obtain ⟨p, e4, ds, e5, ps', e6, e7⟩ := e3
        split at e7
        · rename_i h
          simp only [Bool.and_eq_true] at h
          cases e7
          exact ⟨p, ps', Rep.dp d1 r1 e4, (toP_items e5 e6).imp (Rep.dp d r2) (Rep.dp d r2), h.1, h.2, fin _ rfl⟩
        · cases e7
theorem ve_inP {k : Nat} (hr : Room k X.A) (ha : VE X eC W S a m) (hO : VP X b i ps) (hm : behindInMarks .In b = false := by with_unfolding_all rfl) : VE X eC W S (.Compare a [.In] [b] pos) (inPM false m i ps) :=
  PE.imp (pe_cmpR (op_inP (hu65 hr)) ha hO hm) fun σ H Q q => tv_inP (tb := fun σ H Q => ∃ v, PlcAt X.K X.mg H σ i ps v ∧ Q v H) (fun _ _ _ h => h) q
theorem ve_notinP {k : Nat} (hr : Room k X.A) (ha : VE X eC W S a m) (hO : VP X b i ps) (hm : behindInMarks .NotIn b = false := by with_unfolding_all rfl) : VE X eC W S (.Compare a [.NotIn] [b] pos) (inPM true m i ps) :=
  PE.imp (pe_cmpR (op_notInP (hu65 hr)) ha hO hm) fun σ H Q q => tv_inP (tb := fun σ H Q => ∃ v, PlcAt X.K X.mg H σ i ps v ∧ Q v H) (fun _ _ _ h => h) q
theorem vt_inP {k : Nat} (hr : Room k X.A) (ha : VE X eC W S a m) (hO : VP X b i ps) (hm : behindInMarks .In b = false := by with_unfolding_all rfl) : VT X eC W S (.Compare a [.In] [b] pos) (testM (inPM false m i ps)) :=
  PT.imp (pt_cmpR (op_inP (hu65 hr)) ha hO hm) fun σ H Q q => tv_inP (Q := fun x H1 => ∃ c, x = .bl c ∧ Q c H1) (tb := fun σ H Q => ∃ v, PlcAt X.K X.mg H σ i ps v ∧ Q v H) (fun _ _ _ h => h) (tv_test q)
theorem vt_notinP {k : Nat} (hr : Room k X.A) (ha : VE X eC W S a m) (hO : VP X b i ps) (hm : behindInMarks .NotIn b = false := by with_unfolding_all rfl) : VT X eC W S (.Compare a [.NotIn] [b] pos) (testM (inPM true m i ps)) :=
  PT.imp (pt_cmpR (op_notInP (hu65 hr)) ha hO hm) fun σ H Q q => tv_inP (Q := fun x H1 => ∃ c, x = .bl c ∧ Q c H1) (tb := fun σ H Q => ∃ v, PlcAt X.K X.mg H σ i ps v ∧ Q v H) (fun _ _ _ h => h) (tv_test q)
end
end VS
set_option Elab.async false
set_option linter.all false
set_option maxRecDepth 100000
set_option maxHeartbeats 4000000
/-! VS34: places in dicts: d["word"] as a place, and place["word"] = e. -/
namespace VS
open PySem PySem.Spec PyProof.Rows L2
section
variable {X : Cx} {eC : Addr} {W : WX} {S S1 S2 SA : List Nat} {pos : Pos}
theorem vp_ky {e : Expr} {i : Nat} {ps : Path} {f : Str} {n : Nat} {kk : _} {p2 : Pos} (hr : Room n X.A) (h : VP X e i ps) (hs : NoSl (.Constant (.str f) kk p2) := by exact fun _ _ => rfl) : VP X (.Subscript e (.Constant (.str f) kk p2) pos) i (ps ++ [.ky f]) :=
  PE.imp (pe_dget (by have := hr.un; omega) h pe_str hs) fun σ H Q ⟨x, ⟨v0, e0, a⟩, q⟩ => by
    obtain ⟨y, a1, b, kvs, rfl, z, hv⟩ := a.last
    exact ⟨_, ⟨v0, e0, a1⟩, b, x, rfl, .inl ⟨kvs, .inr f, z, rfl, hv.symm⟩, q⟩
end
/-- each key a word or a number, this word once -/
def kyOne (ks : List D) (f : Str) : Bool := ks.all keyLike && decide ((ks.filter fun d => isKy d f).length = 1)
section
variable {K : PySem.W.Frag} {mg : Str → Option Value} {H H' : Hp}
theorem isKy_key {d : D} {f : Str} {p : Key} {A : AS} (hl : keyLike d = true) (r : Rep K mg H d (kV p) A) : isKy d f = true ↔ p = (Sum.inr f : Key) := by
  cases d with
  | str g =>
    have r : kV p = .str g := r
    cases p with
    | inl i => simp [kV] at r
    | inr z =>
      simp [kV] at r
      subst r
      simp [isKy]
  | int i =>
    have r : kV p = .int i := r
    cases p with
    | inl i => simp [isKy]
    | inr z => simp [kV] at r
  | _ => cases hl
theorem map_none {f : Str} {v : V} : ∀ {ks : List D} {kvs : List (Key × V)} {A : AS}, ks.all keyLike = true → (ks.filter fun d => isKy d f).length = 0 → Reps K mg H ks (kvs.map fun p => kV p.1) A → kvs.map (fun kv => if kv.1 = (Sum.inr f : Key) then (kv.1, v) else kv) = kvs
  | [], [], _, _, _, _ => rfl
  | [], _ :: _, _, _, _, h => by cases h
  | d :: ks, [], _, _, _, ⟨_, _, _, _, e1, _⟩ => by cases e1
  | d :: ks, p :: kvs, A, hl, hn, ⟨y, ys, B1, B2, e1, _, _, _, r1, r2⟩ => by
    rw [List.map_cons] at e1
    injection e1 with e11 e12
    subst e11 e12
    simp only [List.all_cons, Bool.and_eq_true] at hl
    by_cases h : isKy d f = true
    · rw [List.filter_cons_of_pos (p := fun d => isKy d f) h] at hn
      simp at hn
    · rw [List.filter_cons_of_neg (p := fun d => isKy d f) h] at hn
      have hp : ¬ p.1 = (Sum.inr f : Key) := fun hp => h ((isKy_key hl.1 r1).mpr hp)
      rw [List.map_cons, if_neg hp, map_none hl.2 hn r2]
theorem putK_set {f : Str} {v : V} : ∀ {ks : List D} {kvs : List (Key × V)} {k : Nat} {A : AS}, ks.all keyLike = true → (ks.filter fun d => isKy d f).length = 1 → kyN ks f = some k → Reps K mg H ks (kvs.map fun p => kV p.1) A →
    (kvs.map (fun kv => if kv.1 = (Sum.inr f : Key) then (kv.1, v) else kv)).map (·.2) = (kvs.map (·.2)).set k v ∧ (kvs.any fun kv => decide (kv.1 = (Sum.inr f : Key))) = true
  | [], _, _, _, _, _, e, _ => by cases e
  | d :: ks, [], _, _, _, _, _, ⟨_, _, _, _, e1, _⟩ => by cases e1
  | d :: ks, p :: kvs, k, A, hl, hn, e, ⟨y, ys, B1, B2, e1, _, _, _, r1, r2⟩ => by
    rw [List.map_cons] at e1
    injection e1 with e11 e12
    subst e11 e12
    simp only [List.all_cons, Bool.and_eq_true] at hl
    unfold kyN at e
    by_cases h : isKy d f = true
    · rw [if_pos h] at e
      cases e
      rw [List.filter_cons_of_pos (p := fun d => isKy d f) h] at hn
      have hp := (isKy_key hl.1 r1).mp h
      have h0 : (ks.filter fun d => isKy d f).length = 0 := by simpa using hn
      rw [List.map_cons, if_pos hp, map_none hl.2 h0 r2]
      simp [hp]
    · rw [if_neg h, if_pos hl.1, Option.map_eq_some_iff] at e
      obtain ⟨j, e, rfl⟩ := e
      rw [List.filter_cons_of_neg (p := fun d => isKy d f) h] at hn
      have hp : ¬ p.1 = (Sum.inr f : Key) := fun hp => h ((isKy_key hl.1 r1).mpr hp)
      obtain ⟨g1, g2⟩ := putK_set (v := v) hl.2 hn e r2
      rw [List.map_cons, if_neg hp, List.map_cons, g1, List.any_cons, g2]
      simp
theorem putK_keys {f : Str} {v : V} (kvs : List (Key × V)) : (kvs.map (fun kv => if kv.1 = (Sum.inr f : Key) then (kv.1, v) else kv)).map (fun p => kV p.1) = kvs.map fun p => kV p.1 := by
  rw [List.map_map]
  refine List.map_congr_left fun p _ => ?_
  dsimp only [Function.comp]
  split <;> rfl
end
def dicP (i : Nat) (ps : Path) (ρ : List D) : Option (D × List D × List D) := match ρ[i]? with
  | some d0 => match getP d0 ps with
    | some (.dic true ks ds) => some (d0, ks, ds)
    | _ => none
  | none => none
def dcSt (i : Nat) (ps : Path) (f : Str) (m : EM) : SM := fun ρ => (m ρ).bind fun d ρ1 => match dicP i ps ρ1 with
  | some (d0, ks, ds) => match kyN ks f with
    | some k => if (kyOne ks f && decide (ks.length < big)) = true then .ok .nx (ρ1.set i (putP d0 ps (.dic true ks (ds.set k d)))) else .bad
    | none => .bad
  | none => .bad
theorem dicP_some {i : Nat} {ps : Path} {ρ : List D} {d0 : D} {ks ds : List D} (e : dicP i ps ρ = some (d0, ks, ds)) : ρ[i]? = some d0 ∧ getP d0 ps = some (.dic true ks ds) := by
  unfold dicP at e
  split at e
  · rename_i d e1
    split at e
    · rename_i e2
      cases e
      exact ⟨e1, e2⟩
    · cases e
  · cases e
section
variable {X : Cx} {eC : Addr} {W : WX} {S S1 S2 SA : List Nat} {pos : Pos}
theorem vs_dc {o e : Expr} {i : Nat} {ps : Path} {m : EM} {pos' p2 : Pos} {kk : _} {f : Str} {n : Nat} (hr : Room n X.A) (hO : VP X o i ps) (h : VE X eC W S1 e m)
    (hs : swapsWith e (some (.Subscript o (.Constant (.str f) kk p2) pos')) pos.line X.env = pure false := by rfl) : VS X eC W SA (.Assign [.Subscript o (.Constant (.str f) kk p2) pos'] e pos) (dcSt i ps f m) :=
  PS.imp (ps_dput (by have := hr.un; omega) hO pe_str h hs) fun E σ H q => by
  refine tv_s q fun d ρ1 v H1 F1 T er1 r dj l _ ⟨F0, H0, q, g, new⟩ => ?_
  cases e0 : dicP i ps ρ1 with
  | none => rw [e0] at q; exact q.elim
  | some p =>
    obtain ⟨d0, ks, ds⟩ := p
    rw [e0] at q
    dsimp only at q
    obtain ⟨e1, e2⟩ := dicP_some e0
    cases e8 : kyN ks f with
    | none => rw [e8] at q; exact q.elim
    | some k =>
      rw [e8] at q
      dsimp only at q
      split at q
      · rename_i hc
        simp only [Bool.and_eq_true, kyOne, decide_eq_true_eq] at hc
        obtain ⟨⟨hl, hn⟩, hz⟩ := hc
        obtain ⟨y, B1, ⟨v1, e9, at2⟩, r3, t1, kk⟩ := plc_set er1 e1 e2 rfl
        obtain ⟨b, o', kx, xs1, rfl, z1, ⟨kvs, rfl, rfl, rfl⟩, iB, rk, rs1⟩ := id r3
        have nT : ¬ T b := fun x => dj i b x (t1 b iB)
        have lB : Live H1 B1 := (er1.live i).sub t1
        obtain ⟨g1, g2⟩ := putK_set (v := v) hl hn e8 rk
        have ep : L2.putK kvs (Sum.inr f : Key) v = kvs.map (fun kv => if kv.1 = (Sum.inr f : Key) then (kv.1, v) else kv) := by
          unfold L2.putK
          rw [if_pos g2]
        refine ⟨.ref b, ⟨v1, e9, at2⟩, b, upd H1 b (.dK (L2.putK kvs (.inr f) v)), rfl, .inl ⟨kvs, .inr f, z1, rfl, ?_, rfl⟩, ?_⟩
        · have := rk.length
          rw [List.length_map] at this
          rw [this]
          exact big_line (n := ks.length + 1) hz
        · have rl : Rep X.K X.mg (upd H1 b (.dK (L2.putK kvs (.inr f) v))) (.dic true ks (ds.set k d)) (.ref b) (Un2 B1 T) := by
            refine ⟨b, _, _, _, rfl, upd_same, ⟨_, rfl, rfl, rfl⟩, .inl iB, ?_, ?_⟩
            · have hk := Reps.keep ks rk (kp_upd (o := .dK (L2.putK kvs (.inr f) v)) (fun x : E0 b => x) z1 trivial)
              rw [← putK_keys (f := f) (v := v), ← ep] at hk
              exact hk
            · have := Reps.setN (Rep.keep d r (kp_upd (o := .dK (L2.putK kvs (.inr f) v)) nT z1 trivial)) k (Reps.keep ds rs1 (kp_upd (o := .dK (L2.putK kvs (.inr f) v)) (fun x => x.2 rfl) z1 trivial)) fun a x y => dj i a y (t1 a x.1)
              rw [← g1, ← ep] at this
              exact this.mono fun a x => x.elim (fun x => ⟨.inl x.1, x.2⟩) fun x => ⟨.inr x, fun e => nT (e ▸ x)⟩
          obtain ⟨F', er', f', _⟩ := kk T dj l _ (Un2 B1 T) (.dic true ks (ds.set k d)) (.upd (o := .dK (L2.putK kvs (.inr f) v)) (.inl iB) trivial (lB.un l) Sub.rfl) rl
          refine q σ _ F' er' ⟨fun a o e n => ?_, fun j a h => ?_, fun a e => g.dom a ?_⟩ .refl
          · have := g.keep a o e n
            rw [upd_ne]
            · exact this
            · rintro rfl
              rcases g.sub i a (t1 a iB) with ⟨k, x⟩ | x
              · exact n k x
              · rw [e] at x; cases x
          · rcases f' j a h with h | h | h
            · exact g.sub j a h.1
            · exact g.sub i a (t1 a h)
            · exact new a h
          · by_cases zz : a = b
            · subst zz; rw [upd_same] at e; cases e
            · rw [upd_ne zz] at e; exact e
      · exact q.elim
end
end VS
set_option Elab.async false
set_option linter.all false
set_option maxRecDepth 100000
set_option maxHeartbeats 4000000
/-! VS35: {"word": e, ..} whose values stay one's own. -/
namespace VS
open PySem PySem.Spec PyProof.Rows L2
theorem mergeK_new : ∀ (kvs acc : List (Key × V)), (∀ p ∈ kvs, valV acc p.1 = none) → (kvs.map (·.1)).Nodup → mergeK acc kvs = acc ++ kvs
  | [], acc, _, _ => by simp [mergeK]
  | p :: kvs, acc, h, n => by
    have e : mergeK acc (p :: kvs) = mergeK (L2.putK acc p.1 p.2) kvs := rfl
    rw [List.map_cons, List.nodup_cons] at n
    rw [e, putK_new _ (h p (by simp)), mergeK_new kvs _ ?_ n.2, List.append_assoc]
    · rfl
    · intro q hq
      have hne : ¬ q.1 = p.1 := fun e => n.1 (e ▸ List.mem_map_of_mem hq)
      rw [valV_snoc p.1 q.1 p.2 acc (h p (by simp)), if_neg hne]
      exact h q (List.mem_cons_of_mem _ hq)
/-- words and values -/
def kPairs (fs : List Str) (vs : List V) : List (Key × V) := (fs.zip vs).map fun p => (Sum.inr p.1, p.2)
def dkM (fs : List Str) (ms : M (List D)) : EM := fun ρ => (ms ρ).bind fun ds ρ1 => if ds.length = fs.length then .ok (.dic true (fs.map D.str) ds) ρ1 else .bad
section
variable {X : Cx} {eC : Addr} {W : WX} {S S1 S2 : List Nat} {pos : Pos}
def VKs (X : Cx) (eC : Addr) (W : WX) (S : List Nat) (pos : Pos) (fs : List Str) (keys : List (Option Expr)) (values : List Expr) (ms : M (List D)) : Prop :=
  ∃ trs, PPs X pos keys values trs ∧ ∀ σ H (Q : List (V × V) → Hp → Prop), TVs X.K X.mg eC W S ms σ H (fun vs H1 => vs.length = fs.length → Q ((fs.map V.str).zip vs) H1) → tPairs trs σ H Q
theorem vk_nil : VKs X eC W [] pos [] [] [] nilM := ⟨[], pps_nil, fun σ H Q ⟨ρ, F, er, q⟩ => q [] H F E0 er rfl .refl rfl⟩
theorem vk_cons {f : Str} {kk : _} {p2 : Pos} {v : Expr} {fs : List Str} {ks : List (Option Expr)} {vs : List Expr} {m : EM} {ms : M (List D)} (hv : VE X eC W S1 v m) (hr : VKs X eC W S2 pos fs ks vs ms) :
    VKs X eC W (S1 ++ S2) pos (f :: fs) (some (.Constant (.str f) kk p2) :: ks) (v :: vs) (consM m ms) := by
  obtain ⟨trs, pp, h⟩ := hr
  refine ⟨_, pps_cons pe_str hv pp, fun σ H Q ⟨ρ, F, er, q⟩ => ?_⟩
  refine ⟨ρ, F, er, ?_⟩
  unfold consM at q
  cases e1 : m ρ with
  | bad => rw [e1] at q; exact q
  | ex z ρ1 => rw [e1] at q; exact fun dd H' F' er' x g => q dd H' F' er' x (g.more fun j hj => List.mem_append_left _ hj)
  | ok d1 ρ1 =>
    rw [e1] at q
    intro v1 H1 F1 T1 er1 r1 g1
    refine h σ H1 _ ⟨ρ1, F1, er1, ?_⟩
    simp only [Res.bind_ok] at q
    cases e2 : ms ρ1 with
    | bad => rw [e2] at q; exact q
    | ex z ρ2 => rw [e2] at q; exact fun dd H' F' er' x g => q dd H' F' er' x (g1.toAft.trans g)
    | ok ds ρ2 =>
      rw [e2] at q
      intro vs H2 F2 T2 er2 r2 g2 hl
      simp only [Res.bind_ok] at q
      have kp := g2.toAft.kp er1 g1.dj
      have g12 := Got.trans g1.toAft g2
      refine q (v1 :: vs) H2 F2 (Un2 T1 T2) er2 ⟨v1, vs, T1, T2, rfl, fun _ => .inl, fun _ => .inr, g2.djT g1.live g1.dj, Rep.keep d1 r1 kp, r2⟩ ⟨g12.toAft, fun a x => ?_, fun j a x y => ?_, fun a x => ?_⟩ (by rw [List.length_cons, List.length_cons, hl])
      · rcases x with x | x
        · exact (g1.new a x).imp (fun ⟨k, hk, y⟩ => ⟨k, List.mem_append_left _ hk, y⟩) id
        · exact g12.new a x
      · exact x.elim (fun x => g2.toAft.djP g1.live g1.dj j a x y) fun x => g2.dj j a x y
      · exact x.elim (g1.live.keep kp a) (g2.live a)
theorem kPairs_zip {fs : List Str} : ∀ {vs : List V}, (fs.map V.str).zip vs = (kPairs fs vs).map fun kv => (kV kv.1, kv.2) := by
  induction fs with
  | nil => intro vs; rfl
  | cons f fs ih =>
    intro vs
    cases vs with
    | nil => rfl
    | cons v vs =>
      simp only [List.map_cons, List.zip_cons_cons, kPairs]
      rw [ih]
      rfl
theorem kPairs_fst {fs : List Str} : ∀ {vs : List V}, vs.length = fs.length → (kPairs fs vs).map (·.1) = fs.map (fun f => (Sum.inr f : Key)) ∧ (kPairs fs vs).map (·.2) = vs := by
  induction fs with
  | nil => intro vs h; cases vs with | nil => exact ⟨rfl, rfl⟩ | cons => cases h
  | cons f fs ih =>
    intro vs h
    cases vs with
    | nil => cases h
    | cons v vs =>
      have := ih (vs := vs) (by simpa using h)
      simp only [kPairs, List.zip_cons_cons, List.map_cons]
      exact ⟨by rw [show (fs.zip vs).map (fun p => ((Sum.inr p.1 : Key), p.2)) = kPairs fs vs from rfl, this.1], by rw [show (fs.zip vs).map (fun p => ((Sum.inr p.1 : Key), p.2)) = kPairs fs vs from rfl, this.2]⟩
theorem reps_words {K : PySem.W.Frag} {mg : Str → Option Value} {H : Hp} : ∀ (fs : List Str), Reps K mg H (fs.map D.str) (fs.map V.str) E0
  | [] => rfl
  | f :: fs => ⟨.str f, fs.map V.str, E0, E0, rfl, Sub.rfl, Sub.rfl, Dj.e0, rfl, reps_words fs⟩
theorem ve_dk {fs : List Str} {keys : List (Option Expr)} {values : List Expr} {ms : M (List D)} (h : VKs X eC W S pos fs keys values ms) (hn : fs.Nodup) (hall : keys.all (·.isSome) = true := by rfl) (hl : keys.length = values.length := by rfl) (h0 : keys ≠ [] := by simp)
    (h15 : keys.length ≤ 15 := by decide) (hf : fs.length ≤ 15 := by decide) : VE X eC W S (.Dict keys values pos) (dkM fs ms) := by
  obtain ⟨trs, pp, h⟩ := h
  refine PE.imp (pe_disp pp hall hl h0 h15) fun σ H Q ⟨ρ, F, er, q⟩ => fun p np => h σ _ _ ?_
  have t0 : AftT E0 H (upd H p (.dK [])) E0 := ⟨fun a o e _ => by rw [upd_ne (by rintro rfl; rw [np] at e; cases e)]; exact e, fun _ h => h.elim, fun _ h => h.elim, fun a e => by
    by_cases z : a = p
    · subst z; exact np
    · rw [upd_ne z] at e; exact e⟩
  have nF : ∀ j, ¬ F j p := fun j x => by
    obtain ⟨u, e, _⟩ := er.live j p x
    rw [np] at e; cases e
  have er1 := er.step Live.e0 (fun _ => Dj.e0) t0
  refine ⟨ρ, F, er1, ?_⟩
  have g0 : Aft [] H F (upd H p (.dK [])) F := ⟨fun a o e _ => t0.keep a o e id, fun j _ => Sub.rfl, fun j h => absurd h (by simp), t0.dom⟩
  unfold dkM at q
  cases e1 : ms ρ with
  | bad => rw [e1] at q; exact q
  | ex z ρ1 => rw [e1] at q; exact fun dd H' F' er' x g => q dd H' F' er' x (by simpa using g0.trans g)
  | ok ds ρ1 =>
    rw [e1] at q
    intro vs H1 F1 T e2 rk g hlen
    simp only [Res.bind_ok] at q
    by_cases c : ds.length = fs.length
    · rw [if_pos c] at q
      have hp : H1 p = some (.dK []) := g.toAft.keep p _ upd_same fun j _ => nF j
      obtain ⟨kf, ks⟩ := kPairs_fst (fs := fs) (vs := vs) hlen
      have em : mergeK [] (kPairs fs vs) = kPairs fs vs := by
        rw [mergeK_new _ [] (fun _ _ => rfl) (by rw [kf]; exact List.pairwise_map.mpr (List.Pairwise.imp (fun e e' => e (Sum.inr.inj e')) hn)), List.nil_append]
      refine ⟨hp, kPairs fs vs, kPairs_zip, ?_, ?_⟩
      · have := congrArg List.length kf
        rw [List.length_map, List.length_map] at this
        rw [this]; exact hf
      rw [em]
      have nF1 : ∀ j, ¬ F1 j p := fun j h => by
        rcases g.toAft.back h with ⟨k, _, x⟩ | x | x
        · exact nF k x
        · exact nF j x
        · rw [upd_same] at x; cases x
      have nT : ¬ T p := fun h => by
        rcases g.new p h with ⟨k, _, x⟩ | x
        · exact nF k x
        · rw [upd_same] at x; cases x
      have kD : ∀ {A : AS} {o : HO}, ¬ A p → Kp A H1 (upd H1 p o) := fun {A o} n => kp_upd n hp trivial
      have g1 : Aft S H F H1 F1 := by simpa using g0.trans g.toAft
      have rl : Rep X.K X.mg (upd H1 p (.dK (kPairs fs vs))) (.dic true (fs.map D.str) ds) (.ref p) (fun a => T a ∨ a = p) := by
        refine ⟨p, _, _, _, rfl, upd_same, ⟨_, rfl, rfl, rfl⟩, .inr rfl, ?_, ?_⟩
        · have e : (kPairs fs vs).map (fun p => kV p.1) = fs.map V.str := by
            have := congrArg (List.map kV) kf
            rw [List.map_map, List.map_map] at this
            exact this
          rw [e]; exact reps_words fs
        · rw [ks]
          exact (Reps.keep ds rk (kD nT)).mono fun a h => ⟨.inl h, fun e => nT (e ▸ h)⟩
      refine q (.ref p) _ F1 (fun a => T a ∨ a = p) ⟨e2.len, fun j d' e' => ?_, e2.dj, fun j => (e2.live j).keep (kD (nF1 j))⟩ rl ⟨⟨fun a o e n => ?_, g1.same, g1.sub, fun a e => ?_⟩, fun a h => ?_, fun j a h x => ?_, fun a h => ?_⟩
      · obtain ⟨o, e4, r4⟩ := e2.get j d' e'
        refine ⟨o, e4, ?_⟩
        cases o with
        | none => exact r4
        | some v' => exact Rep.keep d' r4 (kD (nF1 j))
      · rw [upd_ne (by rintro rfl; rw [np] at e; cases e)]; exact g1.keep a o e n
      · by_cases zz : a = p
        · subst zz; exact np
        · rw [upd_ne zz] at e; exact g1.dom a e
      · rcases h with h | rfl
        · rcases g.new a h with x | x
          · exact .inl x
          · exact .inr (t0.dom a x)
        · exact .inr np
      · rcases h with h | rfl
        · exact g.dj j a h x
        · exact nF1 j x
      · rcases h with h | rfl
        · exact g.live.keep (kD nT) a h
        · exact ⟨_, upd_same, trivial⟩
    · rw [if_neg c] at q; exact q.elim
end
end VS
set_option Elab.async false
set_option linter.all false
set_option maxRecDepth 100000
set_option maxHeartbeats 4000000
/-! VS36: texts: split, join, int of a text, a sign in a text, cuts of a text. -/
namespace VS
open PySem PySem.Spec PyProof.Rows L2
def isStrD : D → Bool
  | .str _ => true
  | _ => false
def smM (f : D → D → Option D) (ma mb : EM) : EM := fun ρ => (ma ρ).bind fun d1 ρ1 => if isStrD d1 = true then (mb ρ1).bind fun d2 ρ2 => Res.of (f d1 d2) ρ2 else .bad
section
variable {X : Cx} {eC : Addr} {W : WX} {S S1 S2 : List Nat} {σ : L2.St} {H : Hp} {Q : VK}
theorem tv_sm {K : PySem.W.Frag} {mg : Str → Option Value} {r : V → List V → Hp → VK → Prop} {f : D → D → Option D} {ma mb : EM} (h : VOp K mg (fun x y H Q => r x [y] H Q) f) (q : TV K mg eC W (S1 ++ S2) (smM f ma mb) σ H Q) : tM1 r (TV K mg eC W S1 ma) (TV K mg eC W S2 mb) σ H Q := by
  obtain ⟨ρ, F, er, q⟩ := q
  refine ⟨ρ, F, er, ?_⟩
  unfold smM at q
  cases e1 : ma ρ with
  | bad => rw [e1] at q; exact q
  | ex z ρ1 => rw [e1] at q; exact fun dd H' F' er' x g => q dd H' F' er' x (g.more fun j hj => List.mem_append_left _ hj)
  | ok d1 ρ1 =>
    rw [e1] at q
    intro v1 H1 F1 T1 er1 r1 g1
    simp only [Res.bind_ok] at q
    by_cases c : isStrD d1 = true
    · rw [if_pos c] at q
      have hv : ∃ a, v1 = .str a := by
        cases d1 with
        | str x => exact ⟨x, r1⟩
        | _ => cases c
      refine ⟨hv, ρ1, F1, er1, ?_⟩
      cases e2 : mb ρ1 with
      | bad => rw [e2] at q; exact q
      | ex z ρ2 => rw [e2] at q; exact fun dd H' F' er' x g => q dd H' F' er' x (g1.toAft.trans g)
      | ok d2 ρ2 =>
        rw [e2] at q
        intro v2 H2 F2 T2 er2 r2 g2
        simp only [Res.bind_ok] at q
        cases e3 : f d1 d2 with
        | none => rw [e3] at q; exact q.elim
        | some d =>
          rw [e3] at q
          have kp := g2.toAft.kp er1 g1.dj
          refine h d1 d2 d v1 v2 T1 T2 H2 Q e3 (Rep.keep d1 r1 kp) r2 (g2.djT g1.live g1.dj) (g1.live.keep kp) g2.live fun v H' T rv t => ?_
          have dT : ∀ j, Dj (Un2 T1 T2) (F2 j) := fun j a x y => x.elim (fun x => g2.toAft.djP g1.live g1.dj j a x y) fun x => g2.dj j a x y
          have lT : Live H2 (Un2 T1 T2) := fun a x => x.elim (g1.live.keep kp a) (g2.live a)
          have g12 := Got.trans g1.toAft g2
          refine q v H' F2 T (er2.step lT dT t) rv (Got.step g12.toAft er2 dT (fun a x => ?_) t)
          rcases x with x | x
          · exact (g1.new a x).imp (fun ⟨k, hk, y⟩ => ⟨k, List.mem_append_left _ hk, y⟩) id
          · exact g12.new a x
    · rw [if_neg c] at q; exact q.elim
theorem reps_strs {K : PySem.W.Frag} {mg : Str → Option Value} {H : Hp} {A : AS} : ∀ (ys : List Str), Reps K mg H (ys.map D.str) (ys.map V.str) A
  | [] => rfl
  | y :: ys => ⟨.str y, ys.map V.str, E0, A, rfl, Sub.e0, Sub.rfl, Dj.e0, rfl, reps_strs ys⟩
def splitD : D → D → Option D
  | .str a, .str b => if b.length ≠ 0 ∧ a.length + 2 ≤ big then some (.lst true ((Txt.split a b).map D.str)) else none
  | _, _ => none
theorem vop_split {K : PySem.W.Frag} {mg : Str → Option Value} : VOp K mg (fun x y H Q => ∃ a b, x = .str a ∧ [y] = [V.str b] ∧ (b.length == 0) = false ∧ a.length + 2 ≤ sizeLine ∧ rNewStrs (Txt.split a b) H Q) splitD := by
  intro d1 d2 d v1 v2 T1 T2 H Q e r1 r2 dj l1 l2 q
  unfold splitD at e
  split at e
  · rename_i a b
    split at e
    · rename_i c
      cases e
      cases (show v1 = .str a from r1)
      cases (show v2 = .str b from r2)
      refine ⟨a, b, rfl, rfl, by simpa using c.1, big_line c.2, fun p np => q (.ref p) _ (fun x => E0 x ∨ x = p) ?_ (AftT.new np trivial Live.e0 Sub.e0)⟩
      exact ⟨p, _, rfl, upd_same, .inr rfl, reps_strs _⟩
    · cases e
  · cases e
/-- the words of a list -/
def wordsD : List D → Option (List Str)
  | [] => some []
  | d :: ds => (match d with
    | .str x => (wordsD ds).map fun r => x :: r
    | _ => none)
theorem wordsD_reps {K : PySem.W.Frag} {mg : Str → Option Value} {H : Hp} : ∀ {ds : List D} {ys : List Str} {xs : List V} {A : AS}, wordsD ds = some ys → Reps K mg H ds xs A → xs = ys.map V.str
  | [], _, _, _, e, r => by cases e; exact r
  | d :: ds, ys, xs, A, e, ⟨y, zs, A1, A2, e1, _, _, _, r1, r2⟩ => by
    subst e1
    unfold wordsD at e
    cases d with
    | str x =>
      dsimp only at e
      rw [Option.map_eq_some_iff] at e
      obtain ⟨r, e, rfl⟩ := e
      rw [wordsD_reps e r2, show y = V.str x from r1]
      rfl
    | _ => cases e
def joinD : D → D → Option D
  | .str a, c => (items c).bind fun ds => (wordsD ds).bind fun ys => if (ys.map (·.length)).sum + ys.length * a.length ≤ 16777216 then some (.str (Txt.join a ys)) else none
  | _, _ => none
theorem vop_join {K : PySem.W.Frag} {mg : Str → Option Value} : VOp K mg (fun x y H Q => ∃ a p, ∃ ys : List Str, x = .str a ∧ [y] = [V.ref p] ∧ (SqL K H p (ys.map V.str) ∨ SqT K H p (ys.map V.str)) ∧
      (ys.map (·.length)).sum + ys.length * a.length ≤ 16777216 ∧ Q (.str (Txt.join a ys)) H) joinD := by
  intro d1 d2 d v1 v2 T1 T2 H Q e r1 r2 dj l1 l2 q
  unfold joinD at e
  split at e
  · rename_i a
    cases (show v1 = .str a from r1)
    simp only [Option.bind_eq_some_iff] at e
    obtain ⟨ds, e1, ys, e2, e3⟩ := e
    split at e3
    · rename_i c
      cases e3
      obtain ⟨p, xs, rfl, sq, rs⟩ := r2.seq e1
      have hx := wordsD_reps e2 rs
      subst hx
      exact ⟨a, p, ys, rfl, rfl, sq, c, q _ H E0 rfl .refl⟩
    · cases e3
  · cases e
theorem ve_split {o e : Expr} {ma mb : EM} {apos pos : Pos} (ho : VE X eC W S1 o ma) (he : VE X eC W S2 e mb) (hs : starEach [e] X.env = [(false, eval e X.env)] := by rfl) (hbase : attributeBase o "split" X.env (eval o X.env) = eval o X.env := by rfl) (hline : (apos.endLine == pos.line) = true := by rfl) :
    VE X eC W (S1 ++ S2) (.Call (.Attribute o "split" apos) [e] [] pos) (smM splitD ma mb) := PE.imp (pe_split ho he hs hbase hline) fun _ _ _ q => tv_sm vop_split q
theorem ve_join {o e : Expr} {ma mb : EM} {apos pos : Pos} (ho : VE X eC W S1 o ma) (he : VE X eC W S2 e mb) (hs : starEach [e] X.env = [(false, eval e X.env)] := by rfl) (hbase : attributeBase o "join" X.env (eval o X.env) = eval o X.env := by rfl) (hline : (apos.endLine == pos.line) = true := by rfl) :
    VE X eC W (S1 ++ S2) (.Call (.Attribute o "join" apos) [e] [] pos) (smM joinD ma mb) := PE.imp (pe_join ho he hs hbase hline) fun _ _ _ q => tv_sm vop_join q
/-- int of a whole number, a truth value, a text of digits -/
def intSD : D → Option D
  | .str a => if a.length ≤ 640 then (PySem.intText? a).map D.int else none
  | _ => none
theorem vcl_intS {K : PySem.W.Frag} {mg : Str → Option Value} : VCl K mg (fun xs H Q => ∃ a n, xs = [V.str a] ∧ PySem.intText? a = some n ∧ a.length ≤ 640 ∧ Q (.int n) H) (one intSD) := vcl_one fun d1 d v T H Q e r l q => by
  unfold intSD at e
  split at e
  · rename_i a
    split at e
    · rename_i c
      rw [Option.map_eq_some_iff] at e
      obtain ⟨n, e1, rfl⟩ := e
      cases (show v = .str a from r)
      exact ⟨a, n, rfl, e1, c, q _ H E0 rfl .refl⟩
    · cases e
  · cases e
/-- a sign in a text -/
def inSD (neg : Bool) : D → D → Option D
  | .str x, .str z => if x.cps.size = 1 then some (.bl (neg != decide (x.cps.getD 0 0 ∈ z.cps.toList))) else none
  | _, _ => none
theorem one_sign {x : Str} (h : x.cps.size = 1) : x = ⟨#[x.cps.getD 0 0]⟩ := by
  cases x with
  | mk a =>
    congr 1
    cases a with
    | mk l =>
      cases l with
      | nil => cases h
      | cons c l =>
        cases l with
        | nil => rfl
        | cons => simp at h
theorem vop_inS {K : PySem.W.Frag} {mg : Str → Option Value} : VOp K mg (fun x y H Q => ∃ (c : Nat) (z : Str), x = .str ⟨#[c]⟩ ∧ y = .str z ∧ Q (.bl (decide (c ∈ z.cps.toList))) H) (inSD false) := by
  intro d1 d2 d v1 v2 T1 T2 H Q e r1 r2 dj l1 l2 q
  unfold inSD at e
  split at e
  · rename_i x z
    split at e
    · rename_i c
      cases e
      cases (show v1 = .str x from r1)
      cases (show v2 = .str z from r2)
      refine ⟨x.cps.getD 0 0, z, by rw [← one_sign c], rfl, ?_⟩
      have := q (.bl (false != decide (x.cps.getD 0 0 ∈ z.cps.toList))) H E0 rfl .refl
      simpa using this
    · cases e
  · cases e
theorem vop_notInS {K : PySem.W.Frag} {mg : Str → Option Value} : VOp K mg (fun x y H Q => ∃ (c : Nat) (z : Str), x = .str ⟨#[c]⟩ ∧ y = .str z ∧ Q (.bl (!decide (c ∈ z.cps.toList))) H) (inSD true) := by
  intro d1 d2 d v1 v2 T1 T2 H Q e r1 r2 dj l1 l2 q
  unfold inSD at e
  split at e
  · rename_i x z
    split at e
    · rename_i c
      cases e
      cases (show v1 = .str x from r1)
      cases (show v2 = .str z from r2)
      refine ⟨x.cps.getD 0 0, z, by rw [← one_sign c], rfl, ?_⟩
      have := q (.bl (true != decide (x.cps.getD 0 0 ∈ z.cps.toList))) H E0 rfl .refl
      simpa using this
    · cases e
  · cases e
end
end VS
set_option Elab.async false
set_option linter.all false
set_option maxRecDepth 100000
set_option maxHeartbeats 4000000
/-! VS37: signs of a text: by place, cut, one by one; int and str of texts too. -/
namespace VS
open PySem PySem.Spec PyProof.Rows L2
def ixSD : D → D → Option D
  | .str z, .int k => if z.length ≤ big then (atI z.cps.toList k).map fun c => .str ⟨#[c]⟩ else none
  | _, _ => none
def cutSD (d : D) (p : Option Int × Option Int) : Option D := match d with
  | .str z => if z.length ≤ big then some (.str (cutS z p.1 p.2)) else none
  | _ => none
def slSM (m : EM) (pl ph : M (Option Int)) : EM := fun ρ => (m ρ).bind fun d ρ1 => ((pl ρ1).bind fun l ρ2 => (ph ρ2).bind fun u ρ3 => .ok (l, u) ρ3).bind fun b ρ2 => Res.of (cutSD d b) ρ2
def signsD (x : Str) : List D := x.cps.toList.map fun c => .str ⟨#[c]⟩
def itSM (m : EM) : M (List D) := fun ρ => (m ρ).bind fun d ρ1 => match d with
  | .str x => .ok (signsD x) ρ1
  | _ => .bad
def intX (d : D) : Option D := match d with
  | .str a => if a.length ≤ 640 then (PySem.intText? a).map D.int else none
  | .int i => some (.int i)
  | .bl b => some (.int (if b then 1 else 0))
  | _ => none
def strX (d : D) : Option D := match d with
  | .int i => if i.natAbs.log2 < 1920 then some (.str (toString i)) else none
  | .str a => some (.str a)
  | _ => none
section
variable {K : PySem.W.Frag} {mg : Str → Option Value} {H : Hp}
theorem vop_ixS : VOp K mg rIxS ixSD := by
  intro d1 d2 d v1 v2 T1 T2 H Q e r1 r2 dj l1 l2 q
  unfold ixSD at e
  split at e
  · rename_i z k
    split at e
    · rename_i c
      rw [Option.map_eq_some_iff] at e
      obtain ⟨s, e1, rfl⟩ := e
      cases (show v1 = .str z from r1)
      cases (show v2 = .int k from r2)
      exact ⟨z, k, s, rfl, rfl, big_line c, e1, q _ H E0 rfl .refl⟩
    · cases e
  · cases e
theorem vun_slS (b : Option Int × Option Int) : VUn K mg (fun v H Q => rSlS v b.1 b.2 H Q) (fun d => cutSD d b) := by
  intro d1 d v T1 H Q e r l q
  unfold cutSD at e; dsimp only at e
  split at e
  · rename_i z
    split at e
    · rename_i c
      cases e
      cases (show v = .str z from r)
      exact ⟨z, rfl, big_line c, q _ H E0 rfl .refl⟩
    · cases e
  · cases e
theorem walk_str {x : Str} : Walk K mg (Its x) (fun _ => True) (signsD x) where
  keep := fun _ _ _ _ => trivial
  go := fun i H h lt => by
    have h2 : i < x.cps.size := by simpa [signsD] using lt
    exact h2
  yld := fun i H v H' h lt y => by
    obtain ⟨rfl, c, e, rfl⟩ := y
    refine ⟨⟨.str ⟨#[c]⟩, ?_, rfl⟩, .refl⟩
    have e' : x.cps.toList[i]? = some c := by rw [Array.getElem?_toList]; exact e
    simp only [signsD, List.getElem?_map, e', Option.map_some]
  stop := fun H h => by show x.cps.size ≤ (signsD x).length; simp [signsD]
theorem vcl_intX : VCl K mg (fun xs H Q => ((∃ i, xs = [V.int i] ∧ Q (.int i) H) ∨ ∃ k, xs = [V.bl k] ∧ Q (.int (if k then 1 else 0)) H) ∨ ∃ a n, xs = [V.str a] ∧ PySem.intText? a = some n ∧ a.length ≤ 640 ∧ Q (.int n) H) (one intX) := vcl_one fun d1 d v T H Q e r l q => by
  cases d1 with
  | int i => cases e; cases (show v = .int i from r); exact .inl (.inl ⟨i, rfl, q _ H E0 rfl .refl⟩)
  | bl b => cases e; cases (show v = .bl b from r); exact .inl (.inr ⟨b, rfl, q _ H E0 rfl .refl⟩)
  | str a =>
    simp only [intX] at e
    split at e
    · rename_i c
      rw [Option.map_eq_some_iff] at e
      obtain ⟨n, e1, rfl⟩ := e
      cases (show v = .str a from r)
      exact .inr ⟨a, n, rfl, e1, c, q _ H E0 rfl .refl⟩
    · cases e
  | _ => cases e
theorem vcl_strX : VCl K mg (fun xs H Q => (∃ i, xs = [V.int i] ∧ i.natAbs.log2 < 1920 ∧ Q (.str (toString i)) H) ∨ ∃ a, xs = [V.str a] ∧ Q (.str a) H) (one strX) := vcl_one fun d1 d v T H Q e r l q => by
  cases d1 with
  | int i =>
    simp only [strX] at e
    split at e
    · rename_i c
      cases e
      cases (show v = .int i from r)
      exact .inl ⟨i, rfl, c, q _ H E0 rfl .refl⟩
    · cases e
  | str a => cases e; cases (show v = .str a from r); exact .inr ⟨a, rfl, q _ H E0 rfl .refl⟩
  | _ => cases e
end
section
variable {X : Cx} {eC : Addr} {W : WX} {S S1 S2 S3 : List Nat} {tg : Expr} {pos p2 : Pos}
theorem call_intX : CallR X (.type "int") (fun xs H Q => ((∃ i, xs = [V.int i] ∧ Q (.int i) H) ∨ ∃ k, xs = [V.bl k] ∧ Q (.int (if k then 1 else 0)) H) ∨ ∃ a n, xs = [V.str a] ∧ PySem.intText? a = some n ∧ a.length ≤ 640 ∧ Q (.int n) H) := call_int1.or call_int_str
theorem call_strX : CallR X (.type "str") (fun xs H Q => (∃ i, xs = [V.int i] ∧ i.natAbs.log2 < 1920 ∧ Q (.str (toString i)) H) ∨ ∃ a, xs = [V.str a] ∧ Q (.str a) H) := call_str_int.or SkE.call_str_str
theorem ve_slS {e : Expr} {lo hi : Option Expr} {m : EM} {pl ph : M (Option Int)} (he : VE X eC W S1 e m) (hl : VPt X eC W S2 lo pl) (hh : VPt X eC W S3 hi ph) : VE X eC W (S1 ++ (S2 ++ S3)) (.Subscript e (.Slice lo hi none p2) pos) (slSM m pl ph) :=
  PE.imp (pe_slice sl_str he hl hh) fun σ H Q q => by
    obtain ⟨ρ, F, er, q⟩ := tv_then (S1 := S1) (S2 := S2 ++ S3) (r := fun v (b : Option Int × Option Int) H Q => rSlS v b.1 b.2 H Q) (f := cutSD) vun_slS q
    refine ⟨ρ, F, er, ?_⟩
    cases e1 : m ρ with
    | bad => rw [e1] at q; exact q
    | ex z ρ1 => rw [e1] at q; exact q
    | ok d ρ1 =>
      rw [e1] at q
      exact fun v H1 F1 T er1 r g => tvt_seq (q v H1 F1 T er1 r g)
theorem vi_str {e : Expr} {m : EM} (h : VE X eC W S e m) : VI X eC W S tg e (itSM m) := PI.imp (pi_str h) fun σ H R q => by
  obtain ⟨ρ, F, er, q⟩ := q
  refine ⟨ρ, F, er, ?_⟩
  unfold itSM at q
  cases e1 : m ρ with
  | bad => rw [e1] at q; exact q.elim
  | ex z ρ1 => rw [e1] at q; exact q
  | ok d ρ1 =>
    rw [e1] at q
    intro v H1 F1 T er1 r g
    simp only [Res.bind_ok] at q
    cases d with
    | str x =>
      cases (show v = .str x from r)
      exact ⟨x, rfl, q _ H1 F1 _ er1 g.toAft walk_str trivial⟩
    | _ => exact q.elim
end
end VS
set_option Elab.async false
set_option linter.all false
set_option maxRecDepth 100000
set_option maxHeartbeats 4000000
/-! VS38: a word in a dict of constants; C() . -/
namespace VS
open PySem PySem.Spec PyProof.Rows L2
/-- the module's dict of constants, all its words -/
def KDf (K : PySem.W.Frag) (w : World) (mg : Str → Option Value) (x : Str) (tbl : List (Str × D)) : Prop :=
  ∃ a es n, mg x = some (.ref a) ∧ K.lookup a = some ⟨.type "dict", none, .dict es n, #[]⟩ ∧ PySem.W.KeysLit w.params es.toList ∧ (a == sysModules) = false ∧ ∀ z, (findBy Value.isStrOf es z).isSome = (tbl.lookup z).isSome
def inKD (tbl : List (Str × D)) : D → Option D
  | .str z => some (.bl (tbl.lookup z).isSome)
  | _ => none
def rInK (K : PySem.W.Frag) (w : World) (a : Addr) : V → Hp → VK → Prop := fun x H Q => ∃ z es n, x = .str z ∧ K.lookup a = some ⟨.type "dict", none, .dict es n, #[]⟩ ∧ PySem.W.KeysLit w.params es.toList ∧ (a == sysModules) = false ∧ Q (.bl (findBy Value.isStrOf es z).isSome) H
section
variable {X : Cx}
theorem op_inK {a : Addr} : OpR X (compareOp .In) (fun x y H Q => y = .ref a ∧ rInK X.K X.w a x H Q) := by
  intro pins s σ H x y v u Q I rx ry h
  obtain ⟨rfl, z, es, n, rfl, hl, hk, hd, q⟩ := h
  obtain ⟨t, rfl⟩ := rx
  obtain rfl : u = Value.ref a := ry
  exact wpAny_in_of (strKind_is X.prog X.w z t) hd (PySem.W.mapOf_K (prog := X.prog) (w := X.w) I.kIn hl hk) ⟨.bl _, H, I.tok _, rfl, q⟩
variable {eC : Addr} {W : WX} {S : List Nat} {p pos : Pos}
theorem ve_inK {x : Str} {e : Expr} {m : EM} {tbl : List (Str × D)} (hg : Gl X x) (h : KDf X.K X.w X.mg x tbl) (he : VE X eC W S e m) (hd : (x == ("__debug__" : Str)) = false := by decide) (hm : behindInMarks .In (.Name x p) = false := by with_unfolding_all rfl) :
    VE X eC W S (.Compare e [.In] [.Name x p] pos) (unM (inKD tbl) m) := by
  obtain ⟨a, es, n, hmg, hl, hk, hs, hf⟩ := h
  refine PE.imp (pe_cmpR (op_inK (a := a)) he (pe_glob (v := .ref a) hg hmg rfl hd) hm) fun σ H Q q => ?_
  refine tv_un (r := fun v H Q => V.ref a = .ref a ∧ rInK X.K X.w a v H Q) (f := inKD tbl) (fun d1 d v T1 H Q e r l q => ?_) q
  cases d1 with
  | str z =>
    cases e
    refine ⟨rfl, z, es, n, r, hl, hk, hs, ?_⟩
    rw [hf z]
    exact q _ H E0 rfl .refl
  | _ => cases e
theorem vt_inK {x : Str} {e : Expr} {m : EM} {tbl : List (Str × D)} (hg : Gl X x) (h : KDf X.K X.w X.mg x tbl) (he : VE X eC W S e m) (hd : (x == ("__debug__" : Str)) = false := by decide) (hm : behindInMarks .In (.Name x p) = false := by with_unfolding_all rfl) :
    VT X eC W S (.Compare e [.In] [.Name x p] pos) (testM (unM (inKD tbl) m)) := by
  obtain ⟨a, es, n, hmg, hl, hk, hs, hf⟩ := h
  refine PT.imp (pt_cmpR (op_inK (a := a)) he (pe_glob (v := .ref a) hg hmg rfl hd) hm) fun σ H Q q => ?_
  refine tv_un (r := fun v H Q' => V.ref a = .ref a ∧ rInK X.K X.w a v H Q') (f := inKD tbl) (fun d1 d v T1 H Q e r l q => ?_) (tv_test q)
  cases d1 with
  | str z =>
    cases e
    refine ⟨rfl, z, es, n, r, hl, hk, hs, ?_⟩
    rw [hf z]
    exact q _ H E0 rfl .refl
  | _ => cases e
end
section
variable {X : Cx} {eC : Addr} {W : WX} {k n : Nat} {C fI : Addr} {fd : FuncData} {ps : List Str} {fm : FM} {c : Str} {p pos : Pos}
theorem vc_new0 (Mk' : Mk X.K C fI) (F : Df X.prog X.w X.K X.mg X.base eC k fI fd ps fm) (hr : Room (k + 1) X.A) (tk : Takes X W) (hC : X.mg c = some (.ref C)) (hg : Gl X c) (hn : ps.length = n := by rfl)
    (hdb : (c == ("__debug__" : Str)) = false := by decide) : VE X eC W [] (.Call (.Name c p) [] [] pos) (newM n c [] fm nilM) := by subst hn; exact ve_new0 Mk' F hr tk hC hg hdb
end
end VS
set_option Elab.async false
set_option linter.all false
set_option maxRecDepth 100000
set_option maxHeartbeats 4000000
/-! VS39: which words a dict of two words has. -/
namespace VS
open PySem PySem.Spec PyProof.Rows L2
theorem kf_two {a b z : Str} {d e : D} {h k : Int} {t u : Tok} {v w : Value} : (findBy Value.isStrOf #[{ hash := h, key := .str a t, val := v }, { hash := k, key := .str b u, val := w }] z).isSome = (List.lookup z [(a, d), (b, e)]).isSome := by
  have hz : ∀ (x y : Str) (t : Tok), Value.isStrOf x (.str y t) = (y == x) := fun _ _ _ => rfl
  have c1 : (a == z) = (z == a) := by
    by_cases h : z = a
    · subst h; rfl
    · rw [beq_eq_false_iff_ne.mpr h, beq_eq_false_iff_ne.mpr (fun e => h e.symm)]
  have c2 : (b == z) = (z == b) := by
    by_cases h : z = b
    · subst h; rfl
    · rw [beq_eq_false_iff_ne.mpr h, beq_eq_false_iff_ne.mpr (fun e => h e.symm)]
  simp only [findBy, List.find?_toArray, List.find?_cons, List.find?_nil, hz, List.lookup, c1, c2]
  cases z == a with
  | true => rfl
  | false =>
    cases z == b with
    | true => rfl
    | false => rfl
end VS
set_option Elab.async false
set_option linter.all false
set_option maxRecDepth 100000
set_option maxHeartbeats 4000000
/-! VS40: a place is read, and what it holds is frozen. -/
namespace VS
open PySem PySem.Spec PyProof.Rows L2
def fzP (i : Nat) (ps : Path) : EM := fun ρ => match ρ[i]? with
  | some d0 => match getP d0 ps with
    | some d => if has? d = true then .ok (fz d) (ρ.set i (putP d0 ps (fz d))) else .bad
    | none => .bad
  | none => .bad
section
variable {X : Cx} {eC : Addr} {W : WX}
theorem ve_fzP {e : Expr} {i : Nat} {ps : Path} (h : VP X e i ps) : VE X eC W [i] e (fzP i ps) := PE.imp (PE.frz h) fun σ H Q ⟨ρ, F, er, q⟩ => by
  unfold fzP at q
  cases e1 : ρ[i]? with
  | none => rw [e1] at q; exact q.elim
  | some d0 =>
    rw [e1] at q
    dsimp only at q
    cases e2 : getP d0 ps with
    | none => rw [e2] at q; exact q.elim
    | some d =>
      rw [e2] at q
      dsimp only at q
      by_cases c : has? d = true
      · rw [if_pos c] at q
        obtain ⟨x, A1, at1, r1, t1, kk⟩ := plc_set er e1 e2 c
        have lA : Live H A1 := (er.live i).sub t1
        refine ⟨x, at1, A1, fun H2 f => ?_⟩
        have rf := Rep.frz f d r1 Sub.rfl
        have t : AftT (Un2 A1 E0) H H2 E0 := ⟨fun a o e n => (f.out a fun x => n (.inl x)).trans e, fun _ h => h.elim, Live.e0, fun a e => by
          by_cases x : A1 a
          · obtain ⟨u, e', m⟩ := lA a x
            obtain ⟨o, e3⟩ := f.inn a u x e' m
            rw [e] at e3; cases e3
          · rw [f.out a x] at e; exact e⟩
        obtain ⟨F', er', f', _⟩ := kk E0 (fun j => Dj.e0) Live.e0 H2 E0 (fz d) t rf
        have back : ∀ j a, F' j a → F j a := fun j a h => (f' j a h).elim (fun h => h.1) fun h => h.elim
        exact q x H2 F' E0 er' rf ⟨⟨fun a o e n => (f.out a fun y => n i (List.mem_singleton.mpr rfl) (t1 a y)).trans e, fun j _ a h => back j a h, fun j hj a h => .inl ⟨j, hj, back j a h⟩, t.dom⟩, fun a h => h.elim, fun j => Dj.e0, Live.e0⟩
      · rw [if_neg c] at q; exact q.elim
end
end VS
set_option Elab.async false
set_option linter.all false
set_option maxRecDepth 100000
set_option maxHeartbeats 8000000
/-! printed by gen.py -/
namespace VS
open PySem PySem.Spec PyProof.Rows L2
namespace G
def top (i : Nat) : Stmt := PySem.Challenge.pw_dragtold_k19_texts.main.body.getD i (.Pass ⟨0, 0, 0, 0⟩)
def inCls (s : Stmt) (j : Nat) : Stmt := match s with
  | .ClassDef _ _ _ b _ _ _ _ _ _ _ => b.getD j (.Pass ⟨0, 0, 0, 0⟩)
  | _ => .Pass ⟨0, 0, 0, 0⟩

structure NoB (mg : Str → Option Value) : Prop where
  isinstance_ : mg "isinstance" = none
  len_ : mg "len" = none
  abs_ : mg "abs" = none
  int_ : mg "int" = none
  tuple_ : mg "tuple" = none
  list_ : mg "list" = none
  all_ : mg "all" = none
  any_ : mg "any" = none
  sorted_ : mg "sorted" = none
  sum_ : mg "sum" = none
  bool_ : mg "bool" = none
  str_ : mg "str" = none
  range_ : mg "range" = none
  zip_ : mg "zip" = none
  enumerate_ : mg "enumerate" = none
def GK (K : PySem.W.Frag) (mg : Str → Option Value) (x : Str) (d : D) : Prop := ∃ v u, mg x = some u ∧ KRep K d v u
theorem ve_gk {X : Cx} {eC : Addr} {W : WX} {x : Str} {d : D} {pos : Pos} (hg : Gl X x) (h : GK X.K X.mg x d) (hd : (x == ("__debug__" : Str)) = false := by decide) : VE X eC W [] (.Name x pos) (cM d) :=
  let ⟨_, _, hm, r⟩ := h
  ve_glob hg hm r hd
abbrev c_KINDS : D := .tup [.str "enter", .str "leave", .str "over", .str "drop", .str "end"]
abbrev c_SIGHTS : D := .tup [.str "own", .str "same", .str "related"]
abbrev c_PLACES : D := .tup [.str "zone", .str "root", .str "capture"]
abbrev c_SIDES : D := .tup [.str "outside", .str "inside", .str "zone"]
abbrev c_RELATED : D := .tup [.str "none", .str "outside", .str "inside"]
abbrev c_MOST_STATES : D := .int 60
abbrev c_MOST_RULES : D := .int 1200
abbrev c_FLAGS : List (Str × D) := [("yes", .bl true), ("no", .bl false)]
section
variable {P : Program} {w : World} {K : PySem.W.Frag} {mg : Str → Option Value} {base : Heap} {eC fI : Addr}
/-! ### is_number -/
namespace N_is_number
abbrev st : Stmt := (top 10)
abbrev N : List Str := ["thing", "most"]
theorem sc : FnScope N ["thing", "most"] (defScope st) := ⟨rfl, rfl, rfl, by decide +kernel, rfl, by decide +kernel, by decide +kernel⟩
def m : SM := (retM (andV (unM (isiD ["int"]) (rd 0)) (andV (notV (unM (isiD ["bool"]) (rd 0))) (chnM (fun i j => decide (i ≤ j)) (fun i j => decide (i ≤ j)) (intM 0) (rd 0) (rd 1)))))
end N_is_number
def f_is_number : FM := fnM 2 2 [] N_is_number.m
open N_is_number in
theorem d_is_number {f : Addr} {fd : FuncData} (F : Fun K "is_number" "is_number" N_is_number.st f fd) (hb : Binds K fd ["thing", "most"] []) (nb : NoB mg) :
    Df P w K mg base eC 1 f fd ["thing", "most"] f_is_number := df_of F sc hb fun cdv A outer s H E hr => by
  have hr : Room 0 (A.deeper (envOfC "is_number" (defScope N_is_number.st) s.heap.objs.size f cdv)) := hr
  exact (vss_one (vs_ret (ve_and (vc_isi (Ts := "int") (by decide) nb.int_ rfl Boot.«int» rfl nb.isinstance_ (ve_rd (pv 0))) (ve_and (ve_not (vc_isi (Ts := "bool") (by decide) nb.bool_ rfl Boot.«bool» rfl nb.isinstance_ (ve_rd (pv 0)))) (ve_one (ve_chn op_le op_le vc_int (ve_rd (pv 0)) (ve_rd (pv 1))))))))
/-! ### _is_part -/
namespace N__is_part
abbrev st : Stmt := (top 13)
abbrev N : List Str := ["thing", "words"]
theorem sc : FnScope N ["thing", "words"] (defScope st) := ⟨rfl, rfl, rfl, by decide +kernel, rfl, by decide +kernel, by decide +kernel⟩
def m : SM := (retM (orV (unM (isN false) (rd 0)) (andV (unM (isiD ["str"]) (rd 0)) (opM (inP false) (rd 0) (rd 1)))))
end N__is_part
def f__is_part : FM := fnM 2 2 [] N__is_part.m
open N__is_part in
theorem d__is_part {f : Addr} {fd : FuncData} (F : Fun K "_is_part" "_is_part" N__is_part.st f fd) (hb : Binds K fd ["thing", "words"] []) (nb : NoB mg) :
    Df P w K mg base eC 1 f fd ["thing", "words"] f__is_part := df_of F sc hb fun cdv A outer s H E hr => by
  have hr : Room 0 (A.deeper (envOfC "_is_part" (defScope N__is_part.st) s.heap.objs.size f cdv)) := hr
  exact (vss_one (vs_ret (ve_or (ve_isN (ve_rd (pv 0))) (ve_one (ve_and (vc_isi (Ts := "str") (by decide) nb.str_ rfl Boot.«str» rfl nb.isinstance_ (ve_rd (pv 0))) (ve_one (ve_in hr (ve_rd (pv 0)) (ve_rd (pv 1)))))))))
/-! ### _is_rule -/
namespace N__is_rule
abbrev st : Stmt := (top 14)
abbrev N : List Str := ["thing", "states", "source", "kind", "side", "same", "related", "after"]
theorem sc : FnScope N ["thing", "states"] (defScope st) := ⟨rfl, rfl, rfl, by decide +kernel, rfl, by decide +kernel, by decide +kernel⟩
def m : SM := (seqM (iteM (orM (notM (testM (unM (isiD ["tuple"]) (rd 0)))) (testM (opM (eqP true) (clM (one lenD) (consM (rd 0) nilM)) (intM 6)))) (retM (blM false)) skipM)
  (seqM (asgM (tgTup 6 (tgCons (tgN 2) (tgCons (tgN 3) (tgCons (tgN 4) (tgCons (tgN 5) (tgCons (tgN 6) (tgCons (tgN 7) tgNil))))))) (rd 0))
  (seqM (iteM (orM (notM (orM (testM (unM (isN false) (rd 2))) (testM (callM 2 [.tmp, .tmp] f_is_number (consM (rd 2) (consM (opM subD (rd 1) (intM 1)) nilM)))))) (notM (testM (callM 2 [.tmp, .tmp] f_is_number (consM (rd 7) (consM (opM subD (rd 1) (intM 1)) nilM)))))) (retM (blM false)) skipM)
  (seqM (iteM (orM (notM (testM (callM 2 [.tmp, .tmp] f__is_part (consM (rd 3) (consM (cM c_KINDS) nilM))))) (orM (notM (testM (callM 2 [.tmp, .tmp] f__is_part (consM (rd 4) (consM (cM c_SIDES) nilM))))) (notM (testM (callM 2 [.tmp, .tmp] f__is_part (consM (rd 6) (consM (cM c_RELATED) nilM))))))) (retM (blM false)) skipM)
  (retM (orV (unM (isN false) (rd 5)) (unM (isiD ["bool"]) (rd 5))))))))
end N__is_rule
def f__is_rule : FM := fnM 2 8 [2, 3, 4, 5, 6, 7] N__is_rule.m
open N__is_rule in
theorem d__is_rule {f : Addr} {fd : FuncData} (F : Fun K "_is_rule" "_is_rule" N__is_rule.st f fd) (hb : Binds K fd ["thing", "states"] []) (nb : NoB mg)
    (g_KINDS : GK K mg "KINDS" c_KINDS)
    (g_SIDES : GK K mg "SIDES" c_SIDES)
    (g_RELATED : GK K mg "RELATED" c_RELATED)
    {a_is_number : Addr} {fd_is_number : FuncData} (g_is_number : mg "is_number" = some (.ref a_is_number)) (D_is_number : Df P w K mg base eC 1 a_is_number fd_is_number ["thing", "most"] f_is_number)
    {a__is_part : Addr} {fd__is_part : FuncData} (g__is_part : mg "_is_part" = some (.ref a__is_part)) (D__is_part : Df P w K mg base eC 1 a__is_part fd__is_part ["thing", "words"] f__is_part) :
    Df P w K mg base eC 2 f fd ["thing", "states"] f__is_rule := df_of F sc hb fun cdv A outer s H E hr => by
  have hr : Room 1 (A.deeper (envOfC "_is_rule" (defScope N__is_rule.st) s.heap.objs.size f cdv)) := hr
  exact (vss_cons (vs_if (vt_w (vw_or (vt_not (vt_val (vc_isi (Ts := "tuple") (by decide) nb.tuple_ rfl Boot.«tuple» rfl nb.isinstance_ (ve_rd (pv 0))))) (vw_or1 (vt_ne hr (vc_B call_len vcl_len rfl nb.len_ Boot.«len» (va_cons (ve_rd (pv 0)) va_nil)) vc_int)))) (vss_one (vs_ret vc_bl)) vss_nil)
      (vss_cons (vs_asg (ve_rd (pv 0)) (vg_tup rfl (vgs_cons (vg_name (i := 2) (by decide) sc.nd rfl (by first | exact Or.inl rfl | exact Or.inr rfl)) (vgs_cons (vg_name (i := 3) (by decide) sc.nd rfl (by first | exact Or.inl rfl | exact Or.inr rfl)) (vgs_cons (vg_name (i := 4) (by decide) sc.nd rfl (by first | exact Or.inl rfl | exact Or.inr rfl)) (vgs_cons (vg_name (i := 5) (by decide) sc.nd rfl (by first | exact Or.inl rfl | exact Or.inr rfl)) (vgs_cons (vg_name (i := 6) (by decide) sc.nd rfl (by first | exact Or.inl rfl | exact Or.inr rfl)) (vgs_cons (vg_name (i := 7) (by decide) sc.nd rfl (by first | exact Or.inl rfl | exact Or.inr rfl)) vgs_nil))))))))
      (vss_cons (vs_if (vt_w (vw_or (vt_not (vt_w (vw_or (vt_isN (ve_rd (pv 2))) (vw_or1 (vt_val (vc_call D_is_number (hr.mono (by decide)) (takes_of rfl rfl rfl rfl) g_is_number (by rfl) (vr_cons (ve_rd (pv 2)) (vr_cons (ve_op op_sub vop_i0 (ve_rd (pv 1)) vc_int) vr_nil)))))))) (vw_or1 (vt_not (vt_val (vc_call D_is_number (hr.mono (by decide)) (takes_of rfl rfl rfl rfl) g_is_number (by rfl) (vr_cons (ve_rd (pv 7)) (vr_cons (ve_op op_sub vop_i0 (ve_rd (pv 1)) vc_int) vr_nil)))))))) (vss_one (vs_ret vc_bl)) vss_nil)
      (vss_cons (vs_if (vt_w (vw_or (vt_not (vt_val (vc_call D__is_part (hr.mono (by decide)) (takes_of rfl rfl rfl rfl) g__is_part (by rfl) (vr_cons (ve_rd (pv 3)) (vr_cons (ve_gk (by rfl) g_KINDS) vr_nil))))) (vw_or (vt_not (vt_val (vc_call D__is_part (hr.mono (by decide)) (takes_of rfl rfl rfl rfl) g__is_part (by rfl) (vr_cons (ve_rd (pv 4)) (vr_cons (ve_gk (by rfl) g_SIDES) vr_nil))))) (vw_or1 (vt_not (vt_val (vc_call D__is_part (hr.mono (by decide)) (takes_of rfl rfl rfl rfl) g__is_part (by rfl) (vr_cons (ve_rd (pv 6)) (vr_cons (ve_gk (by rfl) g_RELATED) vr_nil))))))))) (vss_one (vs_ret vc_bl)) vss_nil)
      (vss_one (vs_ret (ve_or (ve_isN (ve_rd (pv 5))) (ve_one (vc_isi (Ts := "bool") (by decide) nb.bool_ rfl Boot.«bool» rfl nb.isinstance_ (ve_rd (pv 5)))))))))))
/-! ### _are_states -/
namespace N__are_states
abbrev st : Stmt := (top 15)
abbrev N : List Str := ["thing", "states", "state"]
theorem sc : FnScope N ["thing", "states"] (defScope st) := ⟨rfl, rfl, rfl, by decide +kernel, rfl, by decide +kernel, by decide +kernel⟩
def m : SM := (seqM (iteM (orM (notM (testM (unM (isiD ["list"]) (rd 0)))) (notM (testM (clM (one allD) (consM (lcM [2] (itM (rd 0)) (tgN 2) yesM (callM 2 [.tmp, .tmp] f_is_number (consM (rd 2) (consM (opM subD (rd 1) (intM 1)) nilM)))) nilM))))) (retM (blM false)) skipM)
  (retM (opM (eqP false) (clM (one lenDic) (consM (dcM [2] (itM (rd 0)) (tgN 2) yesM (rd 2) (blM true)) nilM)) (clM (one lenD) (consM (rd 0) nilM)))))
end N__are_states
def f__are_states : FM := fnM 2 3 [] N__are_states.m
open N__are_states in
theorem d__are_states {f : Addr} {fd : FuncData} (F : Fun K "_are_states" "_are_states" N__are_states.st f fd) (hb : Binds K fd ["thing", "states"] []) (nb : NoB mg)
    {a_is_number : Addr} {fd_is_number : FuncData} (g_is_number : mg "is_number" = some (.ref a_is_number)) (D_is_number : Df P w K mg base eC 1 a_is_number fd_is_number ["thing", "most"] f_is_number) :
    Df P w K mg base eC 2 f fd ["thing", "states"] f__are_states := df_of F sc hb fun cdv A outer s H E hr => by
  have hr : Room 1 (A.deeper (envOfC "_are_states" (defScope N__are_states.st) s.heap.objs.size f cdv)) := hr
  exact (vss_cons (vs_if (vt_w (vw_or (vt_not (vt_val (vc_isi (Ts := "list") (by decide) nb.list_ rfl Boot.«list» rfl nb.isinstance_ (ve_rd (pv 0))))) (vw_or1 (vt_not (vt_val (vc_B (cr_all rfl) vcl_all rfl nb.all_ Boot.«all» (va_cons (ve_lc (own := [("state", 2)]) (SA := [2]) (g := tgN 2) rfl sc.nd (blkOk_by (own := [("state", 2)]) (N := N) (sc := defScope st) (by decide +kernel)) (vi_seq (ve_rd (pv 0))) (fun _ _ _ _ _ => pg_name (i := 2) sc.nd rfl (Or.inl rfl)) (tk_name (by decide)) (by decide) (fun _ _ _ _ _ => pts_yes') (fun _ _ _ _ _ => (vc_call D_is_number (hr.mono (by decide)) takes0 g_is_number (by rfl) (vr_cons (ve_rd (pv 2)) (vr_cons (ve_op op_sub vop_i0 (ve_rd (pv 1)) vc_int) vr_nil))))) va_nil))))))) (vss_one (vs_ret vc_bl)) vss_nil)
      (vss_one (vs_ret (ve_eq hr (vc_B call_lenD vcl_lenDic rfl nb.len_ Boot.«len» (va_cons (ve_dc (own := [("state", 2)]) (SA := [2]) (g := tgN 2) rfl sc.nd (blkOk_by (own := [("state", 2)]) (N := N) (sc := defScope st) (by decide +kernel)) (vi_seq (ve_rd (pv 0))) (fun _ _ _ _ _ => pg_name (i := 2) sc.nd rfl (Or.inl rfl)) (tk_name (by decide)) (by decide) (fun _ _ _ _ _ => pts_yes') (fun _ _ _ _ _ => (ve_rd (pv 2))) (fun _ _ _ _ _ => vc_bl)) va_nil)) (vc_B call_len vcl_len rfl nb.len_ Boot.«len» (va_cons (ve_rd (pv 0)) va_nil))))))
/-! ### _is_listener -/
namespace N__is_listener
abbrev st : Stmt := (top 16)
abbrev N : List Str := ["states", "on", "rules", "rule"]
theorem sc : FnScope N ["states", "on", "rules"] (defScope st) := ⟨rfl, rfl, rfl, by decide +kernel, rfl, by decide +kernel, by decide +kernel⟩
def m : SM := (seqM (iteM (orM (notM (testM (callM 2 [.tmp, .tmp] f_is_number (consM (rd 0) (consM (cM c_MOST_STATES) nilM))))) (orM (testM (opM (eqP false) (rd 0) (intM 0))) (notM (testM (callM 2 [.tmp, .tmp] f__are_states (consM (rd 1) (consM (rd 0) nilM))))))) (retM (blM false)) skipM)
  (retM (andV (unM (isiD ["list"]) (rd 2)) (andV (opM leD (clM (one lenD) (consM (rd 2) nilM)) (cM c_MOST_RULES)) (clM (one allD) (consM (lcM [3] (itM (rd 2)) (tgN 3) yesM (callM 2 [.tmp, .tmp] f__is_rule (consM (rd 3) (consM (rd 0) nilM)))) nilM))))))
end N__is_listener
def f__is_listener : FM := fnM 3 4 [] N__is_listener.m
open N__is_listener in
theorem d__is_listener {f : Addr} {fd : FuncData} (F : Fun K "_is_listener" "_is_listener" N__is_listener.st f fd) (hb : Binds K fd ["states", "on", "rules"] []) (nb : NoB mg)
    (g_MOST_STATES : GK K mg "MOST_STATES" c_MOST_STATES)
    (g_MOST_RULES : GK K mg "MOST_RULES" c_MOST_RULES)
    {a_is_number : Addr} {fd_is_number : FuncData} (g_is_number : mg "is_number" = some (.ref a_is_number)) (D_is_number : Df P w K mg base eC 1 a_is_number fd_is_number ["thing", "most"] f_is_number)
    {a__are_states : Addr} {fd__are_states : FuncData} (g__are_states : mg "_are_states" = some (.ref a__are_states)) (D__are_states : Df P w K mg base eC 2 a__are_states fd__are_states ["thing", "states"] f__are_states)
    {a__is_rule : Addr} {fd__is_rule : FuncData} (g__is_rule : mg "_is_rule" = some (.ref a__is_rule)) (D__is_rule : Df P w K mg base eC 2 a__is_rule fd__is_rule ["thing", "states"] f__is_rule) :
    Df P w K mg base eC 3 f fd ["states", "on", "rules"] f__is_listener := df_of F sc hb fun cdv A outer s H E hr => by
  have hr : Room 2 (A.deeper (envOfC "_is_listener" (defScope N__is_listener.st) s.heap.objs.size f cdv)) := hr
  exact (vss_cons (vs_if (vt_w (vw_or (vt_not (vt_val (vc_call D_is_number (hr.mono (by decide)) (takes_of rfl rfl rfl rfl) g_is_number (by rfl) (vr_cons (ve_rd (pv 0)) (vr_cons (ve_gk (by rfl) g_MOST_STATES) vr_nil))))) (vw_or (vt_eq hr (ve_rd (pv 0)) vc_int) (vw_or1 (vt_not (vt_val (vc_call D__are_states (hr.mono (by decide)) (takes_of rfl rfl rfl rfl) g__are_states (by rfl) (vr_cons (ve_rd (pv 1)) (vr_cons (ve_rd (pv 0)) vr_nil))))))))) (vss_one (vs_ret vc_bl)) vss_nil)
      (vss_one (vs_ret (ve_and (vc_isi (Ts := "list") (by decide) nb.list_ rfl Boot.«list» rfl nb.isinstance_ (ve_rd (pv 2))) (ve_and (ve_cmp op_le vop_b0 (vc_B call_len vcl_len rfl nb.len_ Boot.«len» (va_cons (ve_rd (pv 2)) va_nil)) (ve_gk (by rfl) g_MOST_RULES)) (ve_one (vc_B (cr_all rfl) vcl_all rfl nb.all_ Boot.«all» (va_cons (ve_lc (own := [("rule", 3)]) (SA := [3]) (g := tgN 3) rfl sc.nd (blkOk_by (own := [("rule", 3)]) (N := N) (sc := defScope st) (by decide +kernel)) (vi_seq (ve_rd (pv 2))) (fun _ _ _ _ _ => pg_name (i := 3) sc.nd rfl (Or.inl rfl)) (tk_name (by decide)) (by decide) (fun _ _ _ _ _ => pts_yes') (fun _ _ _ _ _ => (vc_call D__is_rule (hr.mono (by decide)) takes0 g__is_rule (by rfl) (vr_cons (ve_rd (pv 3)) (vr_cons (ve_rd (pv 0)) vr_nil))))) va_nil))))))))
/-! ### Listener.__init__ -/
namespace N_Listener___init__
abbrev st : Stmt := (inCls (top 17) 0)
abbrev N : List Str := ["self", "states", "on", "rules"]
theorem sc : FnScope N ["self", "states", "on", "rules"] (defScope st) := ⟨rfl, rfl, rfl, by decide +kernel, rfl, by decide +kernel, by decide +kernel⟩
def m : SM := (seqM (iteM (notM (testM (callM 3 [.tmp, .tmp, .tmp] f__is_listener (consM (rd 1) (consM (rd 2) (consM (rd 3) nilM)))))) (raiseM (strM "no listener")) skipM)
  (seqM (stFld 0 [] "Listener" "states" (rd 1))
  (seqM (stFld 0 [] "Listener" "on" (fzM (clM (one sortedD) (consM (rd 2) nilM))))
  (stFld 0 [] "Listener" "rules" (fzM (clM (one toLstD) (consM (rd 3) nilM)))))))
end N_Listener___init__
def f_Listener___init__ : FM := fnM 4 4 [] N_Listener___init__.m
open N_Listener___init__ in
theorem d_Listener___init__ {f : Addr} {fd : FuncData} (F : Fun K "__init__" "Listener.__init__" N_Listener___init__.st f fd) (hb : Binds K fd ["self", "states", "on", "rules"] []) (nb : NoB mg)
    (dg : DgTxt P K mg eC fI)
    (fc_Listener_on : ∀ C, mg "Listener" = some (.ref C) → Cls K C ∧ NoAttr K C "on")
    (fc_Listener_rules : ∀ C, mg "Listener" = some (.ref C) → Cls K C ∧ NoAttr K C "rules")
    (fc_Listener_states : ∀ C, mg "Listener" = some (.ref C) → Cls K C ∧ NoAttr K C "states")
    {a__is_listener : Addr} {fd__is_listener : FuncData} (g__is_listener : mg "_is_listener" = some (.ref a__is_listener)) (D__is_listener : Df P w K mg base eC 3 a__is_listener fd__is_listener ["states", "on", "rules"] f__is_listener) :
    Df P w K mg base eC 4 f fd ["self", "states", "on", "rules"] f_Listener___init__ := df_of F sc hb fun cdv A outer s H E hr => by
  have hr : Room 3 (A.deeper (envOfC "Listener.__init__" (defScope N_Listener___init__.st) s.heap.objs.size f cdv)) := hr
  exact (vss_cons (vs_if (vt_not (vt_val (vc_call D__is_listener (hr.mono (by decide)) (takes_of rfl rfl rfl rfl) g__is_listener (by rfl) (vr_cons (ve_rd (pv 1)) (vr_cons (ve_rd (pv 2)) (vr_cons (ve_rd (pv 3)) vr_nil)))))) (vss_one (vs_raise rfl dg (hr.mono (Nat.zero_le _)) (takes_of rfl rfl rfl rfl) vc_str)) vss_nil)
      (vss_cons (vs_fld (c := "Listener") (vp_var (pv 0)) (by exact (ve_rd (pv 1))) fc_Listener_states)
      (vss_cons (vs_fld (c := "Listener") (vp_var (pv 0)) (by exact (ve_fzM (vc_B cr_sorted vcl_sorted rfl nb.sorted_ Boot.«sorted» (va_cons (ve_rd (pv 2)) va_nil)))) fc_Listener_on)
      (vss_one (vs_fld (c := "Listener") (vp_var (pv 0)) (by exact (ve_fzM (vc_Ty call_list_of vcl_list rfl nb.list_ Boot.«list» (va_cons (ve_rd (pv 3)) va_nil)))) fc_Listener_rules)))))
/-! ### _shown -/
namespace N__shown
abbrev st : Stmt := (top 20)
abbrev N : List Str := ["part"]
theorem sc : FnScope N ["part"] (defScope st) := ⟨rfl, rfl, rfl, by decide +kernel, rfl, by decide +kernel, by decide +kernel⟩
def m : SM := (seqM (iteM (testM (unM (isN false) (rd 0))) (retM (strM "*")) skipM)
  (seqM (iteM (testM (unM (isiD ["bool"]) (rd 0))) (retM (ifM (truM (rd 0)) (strM "yes") (strM "no"))) skipM)
  (retM (clM (one strX) (consM (rd 0) nilM)))))
end N__shown
def f__shown : FM := fnM 1 1 [] N__shown.m
open N__shown in
theorem d__shown {f : Addr} {fd : FuncData} (F : Fun K "_shown" "_shown" N__shown.st f fd) (hb : Binds K fd ["part"] []) (nb : NoB mg) :
    Df P w K mg base eC 1 f fd ["part"] f__shown := df_of F sc hb fun cdv A outer s H E hr => by
  have hr : Room 0 (A.deeper (envOfC "_shown" (defScope N__shown.st) s.heap.objs.size f cdv)) := hr
  exact (vss_cons (vs_if (vt_isN (ve_rd (pv 0))) (vss_one (vs_ret vc_str)) vss_nil)
      (vss_cons (vs_if (vt_val (vc_isi (Ts := "bool") (by decide) nb.bool_ rfl Boot.«bool» rfl nb.isinstance_ (ve_rd (pv 0)))) (vss_one (vs_ret (ve_if (vt_truth (ve_rd (pv 0))) vc_str vc_str))) vss_nil)
      (vss_one (vs_ret (vc_Ty call_strX vcl_strX rfl nb.str_ Boot.«str» (va_cons (ve_rd (pv 0)) va_nil))))))
/-! ### text_of -/
namespace N_text_of
abbrev st : Stmt := (top 21)
abbrev N : List Str := ["listener", "lines", "rule", "line", "state", "part"]
theorem sc : FnScope N ["listener"] (defScope st) := ⟨rfl, rfl, rfl, by decide +kernel, rfl, by decide +kernel, by decide +kernel⟩
def m : SM := (seqM (setM 1 (clM lstD (consM (fzM (opM addD (strM "states ") (clM (one strX) (consM (rdP 0 [Stp.fld "Listener" "states"]) nilM)))) (consM (fzM (smM joinD (strM " ") (opM addD (clM lstD (consM (strM "on") nilM)) (lcM [4] (itM (rdP 0 [Stp.fld "Listener" "on"])) (tgN 4) yesM (clM (one strX) (consM (rd 4) nilM)))))) nilM))))
  (seqM (forS (itM (rdP 0 [Stp.fld "Listener" "rules"])) (tgN 2) (dropM (lmM 1 [] appF (consM (fzM (opM addD (opM addD (opM addD (strM "rule ") (smM joinD (strM " ") (lcM [5] (itM (slM (rd 2) (fun ρ => .ok none ρ) (partM (intM 5)))) (tgN 5) yesM (callM 1 [.tmp] f__shown (consM (rd 5) nilM))))) (strM " > ")) (clM (one strX) (consM (opM ixD (rd 2) (intM 5)) nilM)))) nilM))))
  (retM (smM joinD (strM "") (lcM [3] (itM (fzv 1)) (tgN 3) yesM (opM addD (rd 3) (strM "
")))))))
end N_text_of
def f_text_of : FM := fnM 1 6 [1, 2] N_text_of.m
open N_text_of in
theorem d_text_of {f : Addr} {fd : FuncData} (F : Fun K "text_of" "text_of" N_text_of.st f fd) (hb : Binds K fd ["listener"] []) (nb : NoB mg)
    (fc_Listener_on : ∀ C, mg "Listener" = some (.ref C) → Cls K C ∧ NoAttr K C "on")
    (fc_Listener_rules : ∀ C, mg "Listener" = some (.ref C) → Cls K C ∧ NoAttr K C "rules")
    (fc_Listener_states : ∀ C, mg "Listener" = some (.ref C) → Cls K C ∧ NoAttr K C "states")
    {a__shown : Addr} {fd__shown : FuncData} (g__shown : mg "_shown" = some (.ref a__shown)) (D__shown : Df P w K mg base eC 1 a__shown fd__shown ["part"] f__shown) :
    Df P w K mg base eC 2 f fd ["listener"] f_text_of := df_of F sc hb fun cdv A outer s H E hr => by
  have hr : Room 1 (A.deeper (envOfC "text_of" (defScope N_text_of.st) s.heap.objs.size f cdv)) := hr
  exact (vss_cons (vs_set (i := 1) (by decide) (ve_lst (va_cons (ve_fzM (ve_op op_addR vop_add vc_str (vc_Ty call_strX vcl_strX rfl nb.str_ Boot.«str» (va_cons (ve_rdP (vp_fld (c := "Listener") (vp_var (pv 0)) (fc_Listener_states))) va_nil)))) (va_cons (ve_fzM (ve_join vc_str (ve_op op_addR vop_add (ve_lst (va_cons vc_str va_nil)) (ve_lc (own := [("state", 4)]) (SA := [4]) (g := tgN 4) rfl sc.nd (blkOk_by (own := [("state", 4)]) (N := N) (sc := defScope st) (by decide +kernel)) (vi_seq (ve_rdP (vp_fld (c := "Listener") (vp_var (pv 0)) (fc_Listener_on)))) (fun _ _ _ _ _ => pg_name (i := 4) sc.nd rfl (Or.inl rfl)) (tk_name (by decide)) (by decide) (fun _ _ _ _ _ => pts_yes') (fun _ _ _ _ _ => (vc_Ty call_strX vcl_strX rfl nb.str_ Boot.«str» (va_cons (ve_rd (pv 4)) va_nil))))))) va_nil))) sc.nd rfl (by first | exact Or.inl rfl | exact Or.inr rfl))
      (vss_cons (vs_for (passes_of rfl) rfl (vi_seq (ve_rdP (vp_fld (c := "Listener") (vp_var (pv 0)) (fc_Listener_rules)))) (vg_name (i := 2) (by decide) sc.nd rfl (by first | exact Or.inl rfl | exact Or.inr rfl)) (vss_one (vs_expr (ve_append (vp_var (pv 1)) (va_cons (ve_fzM (ve_op op_addR vop_add (ve_op op_addR vop_add (ve_op op_addR vop_add vc_str (ve_join vc_str (ve_lc (own := [("part", 5)]) (SA := [5]) (g := tgN 5) rfl sc.nd (blkOk_by (own := [("part", 5)]) (N := N) (sc := defScope st) (by decide +kernel)) (vi_seq (ve_sl (ve_rd (pv 2)) vpt_none (vpt_some vc_int))) (fun _ _ _ _ _ => pg_name (i := 5) sc.nd rfl (Or.inl rfl)) (tk_name (by decide)) (by decide) (fun _ _ _ _ _ => pts_yes') (fun _ _ _ _ _ => (vc_call D__shown (hr.mono (by decide)) takes0 g__shown (by rfl) (vr_cons (ve_rd (pv 5)) vr_nil)))))) vc_str) (vc_Ty call_strX vcl_strX rfl nb.str_ Boot.«str» (va_cons (ve_ix ix_lt vop_ix (ve_rd (pv 2)) vc_int) va_nil)))) va_nil) (by decide)))))
      (vss_one (vs_ret (ve_join vc_str (ve_lc (own := [("line", 3)]) (SA := [3]) (g := tgN 3) rfl sc.nd (blkOk_by (own := [("line", 3)]) (N := N) (sc := defScope st) (by decide +kernel)) (vi_seq (ve_fz (pv 1))) (fun _ _ _ _ _ => pg_name (i := 3) sc.nd rfl (Or.inl rfl)) (tk_name (by decide)) (by decide) (fun _ _ _ _ _ => pts_yes') (fun _ _ _ _ _ => (ve_op op_addR vop_add (ve_rd (pv 3)) vc_str))))))))
/-! ### _number -/
namespace N__number
abbrev st : Stmt := (top 22)
abbrev N : List Str := ["word", "sign"]
theorem sc : FnScope N ["word"] (defScope st) := ⟨rfl, rfl, rfl, by decide +kernel, rfl, by decide +kernel, by decide +kernel⟩
def m : SM := (seqM (iteM (orM (testM (opM (eqP false) (rd 0) (strM ""))) (orM (notM (testM (clM (one allD) (consM (lcM [1] (itSM (rd 0)) (tgN 1) yesM (opM (inSD false) (rd 1) (strM "0123456789"))) nilM)))) (andM (testM (opM (eqP false) (opM ixSD (rd 0) (intM 0)) (strM "0"))) (testM (opM (eqP true) (rd 0) (strM "0")))))) (retM nonM) skipM)
  (retM (ifM (testM (opM leD (clM (one lenD) (consM (rd 0) nilM)) (intM 4))) (clM (one intX) (consM (rd 0) nilM)) (intM 10000))))
end N__number
def f__number : FM := fnM 1 2 [] N__number.m
open N__number in
theorem d__number {f : Addr} {fd : FuncData} (F : Fun K "_number" "_number" N__number.st f fd) (hb : Binds K fd ["word"] []) (nb : NoB mg) :
    Df P w K mg base eC 1 f fd ["word"] f__number := df_of F sc hb fun cdv A outer s H E hr => by
  have hr : Room 0 (A.deeper (envOfC "_number" (defScope N__number.st) s.heap.objs.size f cdv)) := hr
  exact (vss_cons (vs_if (vt_w (vw_or (vt_eq hr (ve_rd (pv 0)) vc_str) (vw_or (vt_not (vt_val (vc_B (cr_all rfl) vcl_all rfl nb.all_ Boot.«all» (va_cons (ve_lc (own := [("sign", 1)]) (SA := [1]) (g := tgN 1) rfl sc.nd (blkOk_by (own := [("sign", 1)]) (N := N) (sc := defScope st) (by decide +kernel)) (vi_str (ve_rd (pv 0))) (fun _ _ _ _ _ => pg_name (i := 1) sc.nd rfl (Or.inl rfl)) (tk_name (by decide)) (by decide) (fun _ _ _ _ _ => pts_yes') (fun _ _ _ _ _ => (ve_cmp op_in_sign vop_inS (ve_rd (pv 1)) vc_str))) va_nil)))) (vw_or1 (vt_w (vw_and (vt_eq hr (ve_ix ix_str vop_ixS (ve_rd (pv 0)) vc_int) vc_str) (vw_and1 (vt_ne hr (ve_rd (pv 0)) vc_str)))))))) (vss_one (vs_ret vc_non)) vss_nil)
      (vss_one (vs_ret (ve_if (vt_cmp op_le vop_b0 (vc_B call_len vcl_len rfl nb.len_ Boot.«len» (va_cons (ve_rd (pv 0)) va_nil)) vc_int) (vc_Ty call_intX vcl_intX rfl nb.int_ Boot.«int» (va_cons (ve_rd (pv 0)) va_nil)) vc_int))))
/-! ### _numbers -/
namespace N__numbers
abbrev st : Stmt := (top 23)
abbrev N : List Str := ["words", "found", "word"]
theorem sc : FnScope N ["words"] (defScope st) := ⟨rfl, rfl, rfl, by decide +kernel, rfl, by decide +kernel, by decide +kernel⟩
def m : SM := (seqM (setM 1 (lcM [2] (itM (rd 0)) (tgN 2) yesM (callM 1 [.tmp] f__number (consM (rd 2) nilM))))
  (retM (ifM (testM (inPM false nonM 1 [])) nonM (fzv 1))))
end N__numbers
def f__numbers : FM := fnM 1 3 [1] N__numbers.m
open N__numbers in
theorem d__numbers {f : Addr} {fd : FuncData} (F : Fun K "_numbers" "_numbers" N__numbers.st f fd) (hb : Binds K fd ["words"] []) {a__number : Addr} {fd__number : FuncData} (g__number : mg "_number" = some (.ref a__number)) (D__number : Df P w K mg base eC 1 a__number fd__number ["word"] f__number) :
    Df P w K mg base eC 2 f fd ["words"] f__numbers := df_of F sc hb fun cdv A outer s H E hr => by
  have hr : Room 1 (A.deeper (envOfC "_numbers" (defScope N__numbers.st) s.heap.objs.size f cdv)) := hr
  exact (vss_cons (vs_setLc (i := 1) (by decide) (own := [("word", 2)]) (SA := [2]) (g := tgN 2) rfl sc.nd rfl rfl (sw_true rfl rfl rfl (by decide +kernel)) (blkOk_by (own := [("word", 2)]) (N := N) (sc := defScope st) (by decide +kernel)) (vi_seq (ve_rd (pv 0))) (fun _ _ _ _ _ => pg_name (i := 2) sc.nd rfl (Or.inl rfl)) (tk_name (by decide)) (by decide) (fun _ _ _ _ _ => pts_yes') (fun _ _ _ _ _ => (vc_call D__number (hr.mono (by decide)) takes0 g__number (by rfl) (vr_cons (ve_rd (pv 2)) vr_nil))))
      (vss_one (vs_ret (ve_if (vt_inP hr vc_non (vp_var (pv 1))) vc_non (ve_fz (pv 1))))))
/-! ### _word -/
namespace N__word
abbrev st : Stmt := (top 24)
abbrev N : List Str := ["word", "words"]
theorem sc : FnScope N ["word", "words"] (defScope st) := ⟨rfl, rfl, rfl, by decide +kernel, rfl, by decide +kernel, by decide +kernel⟩
def m : SM := (seqM (iteM (testM (opM (eqP false) (rd 0) (strM "*"))) (retM (clM lstD (consM nonM nilM))) skipM)
  (retM (ifM (testM (opM (inP false) (rd 0) (rd 1))) (clM lstD (consM (rd 0) nilM)) nonM)))
end N__word
def f__word : FM := fnM 2 2 [] N__word.m
open N__word in
theorem d__word {f : Addr} {fd : FuncData} (F : Fun K "_word" "_word" N__word.st f fd) (hb : Binds K fd ["word", "words"] [])  :
    Df P w K mg base eC 1 f fd ["word", "words"] f__word := df_of F sc hb fun cdv A outer s H E hr => by
  have hr : Room 0 (A.deeper (envOfC "_word" (defScope N__word.st) s.heap.objs.size f cdv)) := hr
  exact (vss_cons (vs_if (vt_eq hr (ve_rd (pv 0)) vc_str) (vss_one (vs_ret (ve_lst (va_cons vc_non va_nil)))) vss_nil)
      (vss_one (vs_ret (ve_if (vt_in hr (ve_rd (pv 0)) (ve_rd (pv 1))) (ve_lst (va_cons (ve_rd (pv 0)) va_nil)) vc_non))))
/-! ### _flag -/
namespace N__flag
abbrev st : Stmt := (top 25)
abbrev N : List Str := ["word"]
theorem sc : FnScope N ["word"] (defScope st) := ⟨rfl, rfl, rfl, by decide +kernel, rfl, by decide +kernel, by decide +kernel⟩
def m : SM := (seqM (iteM (testM (opM (eqP false) (rd 0) (strM "*"))) (retM (clM lstD (consM nonM nilM))) skipM)
  (retM (ifM (testM (unM (inKD c_FLAGS) (rd 0))) (clM lstD (consM (unM (kdD c_FLAGS) (rd 0)) nilM)) nonM)))
end N__flag
def f__flag : FM := fnM 1 1 [] N__flag.m
open N__flag in
theorem d__flag {f : Addr} {fd : FuncData} (F : Fun K "_flag" "_flag" N__flag.st f fd) (hb : Binds K fd ["word"] []) (g_FLAGS : KDs K w mg "FLAGS" c_FLAGS)
    (h_FLAGS : KDf K w mg "FLAGS" c_FLAGS) :
    Df P w K mg base eC 1 f fd ["word"] f__flag := df_of F sc hb fun cdv A outer s H E hr => by
  have hr : Room 0 (A.deeper (envOfC "_flag" (defScope N__flag.st) s.heap.objs.size f cdv)) := hr
  exact (vss_cons (vs_if (vt_eq hr (ve_rd (pv 0)) vc_str) (vss_one (vs_ret (ve_lst (va_cons vc_non va_nil)))) vss_nil)
      (vss_one (vs_ret (ve_if (vt_inK (by rfl) h_FLAGS (ve_rd (pv 0))) (ve_lst (va_cons (ve_kd (by rfl) g_FLAGS (ve_rd (pv 0))) va_nil)) vc_non))))
/-! ### _source -/
namespace N__source
abbrev st : Stmt := (top 26)
abbrev N : List Str := ["word", "number"]
theorem sc : FnScope N ["word"] (defScope st) := ⟨rfl, rfl, rfl, by decide +kernel, rfl, by decide +kernel, by decide +kernel⟩
def m : SM := (seqM (iteM (testM (opM (eqP false) (rd 0) (strM "*"))) (retM (clM lstD (consM nonM nilM))) skipM)
  (seqM (setM 1 (fzM (callM 1 [.tmp] f__number (consM (rd 0) nilM))))
  (retM (ifM (testM (unM (isN false) (rd 1))) nonM (clM lstD (consM (rd 1) nilM))))))
end N__source
def f__source : FM := fnM 1 2 [1] N__source.m
open N__source in
theorem d__source {f : Addr} {fd : FuncData} (F : Fun K "_source" "_source" N__source.st f fd) (hb : Binds K fd ["word"] []) {a__number : Addr} {fd__number : FuncData} (g__number : mg "_number" = some (.ref a__number)) (D__number : Df P w K mg base eC 1 a__number fd__number ["word"] f__number) :
    Df P w K mg base eC 2 f fd ["word"] f__source := df_of F sc hb fun cdv A outer s H E hr => by
  have hr : Room 1 (A.deeper (envOfC "_source" (defScope N__source.st) s.heap.objs.size f cdv)) := hr
  exact (vss_cons (vs_if (vt_eq hr (ve_rd (pv 0)) vc_str) (vss_one (vs_ret (ve_lst (va_cons vc_non va_nil)))) vss_nil)
      (vss_cons (vs_set (i := 1) (by decide) (ve_fzM (vc_call D__number (hr.mono (by decide)) (takes_of rfl rfl rfl rfl) g__number (by rfl) (vr_cons (ve_rd (pv 0)) vr_nil))) sc.nd rfl (by first | exact Or.inl rfl | exact Or.inr rfl))
      (vss_one (vs_ret (ve_if (vt_isN (ve_rd (pv 1))) vc_non (ve_lst (va_cons (ve_rd (pv 1)) va_nil)))))))
/-! ### _rule -/
namespace N__rule
abbrev st : Stmt := (top 27)
abbrev N : List Str := ["words", "parts", "part"]
theorem sc : FnScope N ["words"] (defScope st) := ⟨rfl, rfl, rfl, by decide +kernel, rfl, by decide +kernel, by decide +kernel⟩
def m : SM := (seqM (iteM (orM (testM (opM (eqP true) (clM (one lenD) (consM (rd 0) nilM)) (intM 8))) (orM (testM (opM (eqP true) (opM ixD (rd 0) (intM 0)) (strM "rule"))) (orM (testM (opM (eqP true) (opM ixD (rd 0) (intM 6)) (strM ">"))) (testM (unM (isN false) (callM 1 [.tmp] f__number (consM (opM ixD (rd 0) (intM 7)) nilM))))))) (retM nonM) skipM)
  (seqM (setM 1 (clM lstD (consM (fzM (callM 1 [.tmp] f__source (consM (opM ixD (rd 0) (intM 1)) nilM))) (consM (fzM (callM 2 [.tmp, .tmp] f__word (consM (opM ixD (rd 0) (intM 2)) (consM (cM c_KINDS) nilM)))) (consM (fzM (callM 2 [.tmp, .tmp] f__word (consM (opM ixD (rd 0) (intM 3)) (consM (cM c_SIDES) nilM)))) nilM)))))
  (seqM (dropM (lmM 1 [] extF (consM (fzM (clM lstD (consM (callM 1 [.tmp] f__flag (consM (opM ixD (rd 0) (intM 4)) nilM)) (consM (callM 2 [.tmp, .tmp] f__word (consM (opM ixD (rd 0) (intM 5)) (consM (cM c_RELATED) nilM))) nilM)))) nilM)))
  (seqM (iteM (testM (inPM false nonM 1 [])) (retM nonM) skipM)
  (retM (opM addD (clM (one toTupD) (consM (lcM [2] (itM (fzv 1)) (tgN 2) yesM (opM ixD (rd 2) (intM 0))) nilM)) (clM tupD (consM (callM 1 [.tmp] f__number (consM (opM ixD (rd 0) (intM 7)) nilM)) nilM))))))))
end N__rule
def f__rule : FM := fnM 1 3 [1] N__rule.m
open N__rule in
theorem d__rule {f : Addr} {fd : FuncData} (F : Fun K "_rule" "_rule" N__rule.st f fd) (hb : Binds K fd ["words"] []) (nb : NoB mg)
    (g_KINDS : GK K mg "KINDS" c_KINDS)
    (g_SIDES : GK K mg "SIDES" c_SIDES)
    (g_RELATED : GK K mg "RELATED" c_RELATED)
    {a__number : Addr} {fd__number : FuncData} (g__number : mg "_number" = some (.ref a__number)) (D__number : Df P w K mg base eC 1 a__number fd__number ["word"] f__number)
    {a__source : Addr} {fd__source : FuncData} (g__source : mg "_source" = some (.ref a__source)) (D__source : Df P w K mg base eC 2 a__source fd__source ["word"] f__source)
    {a__word : Addr} {fd__word : FuncData} (g__word : mg "_word" = some (.ref a__word)) (D__word : Df P w K mg base eC 1 a__word fd__word ["word", "words"] f__word)
    {a__flag : Addr} {fd__flag : FuncData} (g__flag : mg "_flag" = some (.ref a__flag)) (D__flag : Df P w K mg base eC 1 a__flag fd__flag ["word"] f__flag) :
    Df P w K mg base eC 3 f fd ["words"] f__rule := df_of F sc hb fun cdv A outer s H E hr => by
  have hr : Room 2 (A.deeper (envOfC "_rule" (defScope N__rule.st) s.heap.objs.size f cdv)) := hr
  exact (vss_cons (vs_if (vt_w (vw_or (vt_ne hr (vc_B call_len vcl_len rfl nb.len_ Boot.«len» (va_cons (ve_rd (pv 0)) va_nil)) vc_int) (vw_or (vt_ne hr (ve_ix ix_lt vop_ix (ve_rd (pv 0)) vc_int) vc_str) (vw_or (vt_ne hr (ve_ix ix_lt vop_ix (ve_rd (pv 0)) vc_int) vc_str) (vw_or1 (vt_isN (vc_call D__number (hr.mono (by decide)) (takes_of rfl rfl rfl rfl) g__number (by rfl) (vr_cons (ve_ix ix_lt vop_ix (ve_rd (pv 0)) vc_int) vr_nil)))))))) (vss_one (vs_ret vc_non)) vss_nil)
      (vss_cons (vs_set (i := 1) (by decide) (ve_lst (va_cons (ve_fzM (vc_call D__source (hr.mono (by decide)) (takes_of rfl rfl rfl rfl) g__source (by rfl) (vr_cons (ve_ix ix_lt vop_ix (ve_rd (pv 0)) vc_int) vr_nil))) (va_cons (ve_fzM (vc_call D__word (hr.mono (by decide)) (takes_of rfl rfl rfl rfl) g__word (by rfl) (vr_cons (ve_ix ix_lt vop_ix (ve_rd (pv 0)) vc_int) (vr_cons (ve_gk (by rfl) g_KINDS) vr_nil)))) (va_cons (ve_fzM (vc_call D__word (hr.mono (by decide)) (takes_of rfl rfl rfl rfl) g__word (by rfl) (vr_cons (ve_ix ix_lt vop_ix (ve_rd (pv 0)) vc_int) (vr_cons (ve_gk (by rfl) g_SIDES) vr_nil)))) va_nil)))) sc.nd rfl (by first | exact Or.inl rfl | exact Or.inr rfl))
      (vss_cons (vs_expr (ve_extend (vp_var (pv 1)) (va_cons (ve_fzM (ve_lst (va_cons (vc_call D__flag (hr.mono (by decide)) (takes_of rfl rfl rfl rfl) g__flag (by rfl) (vr_cons (ve_ix ix_lt vop_ix (ve_rd (pv 0)) vc_int) vr_nil)) (va_cons (vc_call D__word (hr.mono (by decide)) (takes_of rfl rfl rfl rfl) g__word (by rfl) (vr_cons (ve_ix ix_lt vop_ix (ve_rd (pv 0)) vc_int) (vr_cons (ve_gk (by rfl) g_RELATED) vr_nil))) va_nil)))) va_nil) (by decide)))
      (vss_cons (vs_if (vt_inP hr vc_non (vp_var (pv 1))) (vss_one (vs_ret vc_non)) vss_nil)
      (vss_one (vs_ret (ve_op op_addR vop_add (vc_Ty call_tuple_of vcl_tuple rfl nb.tuple_ Boot.«tuple» (va_cons (ve_lc (own := [("part", 2)]) (SA := [2]) (g := tgN 2) rfl sc.nd (blkOk_by (own := [("part", 2)]) (N := N) (sc := defScope st) (by decide +kernel)) (vi_seq (ve_fz (pv 1))) (fun _ _ _ _ _ => pg_name (i := 2) sc.nd rfl (Or.inl rfl)) (tk_name (by decide)) (by decide) (fun _ _ _ _ _ => pts_yes') (fun _ _ _ _ _ => (ve_ix ix_lt vop_ix (ve_rd (pv 2)) vc_int))) va_nil)) (ve_tup (va_cons (vc_call D__number (hr.mono (by decide)) (takes_of rfl rfl rfl rfl) g__number (by rfl) (vr_cons (ve_ix ix_lt vop_ix (ve_rd (pv 0)) vc_int) vr_nil)) va_nil)))))))))
/-! ### Reader.__init__ -/
namespace N_Reader___init__
abbrev st : Stmt := (inCls (top 28) 0)
abbrev N : List Str := ["self"]
theorem sc : FnScope N ["self"] (defScope st) := ⟨rfl, rfl, rfl, by decide +kernel, rfl, by decide +kernel, by decide +kernel⟩
def m : SM := (seqM (stFld 0 [] "Reader" "states" nonM)
  (seqM (stFld 0 [] "Reader" "on" nonM)
  (stFld 0 [] "Reader" "rules" (clM lstD nilM))))
end N_Reader___init__
def f_Reader___init__ : FM := fnM 1 1 [] N_Reader___init__.m
open N_Reader___init__ in
theorem d_Reader___init__ {f : Addr} {fd : FuncData} (F : Fun K "__init__" "Reader.__init__" N_Reader___init__.st f fd) (hb : Binds K fd ["self"] []) (fc_Reader_on : ∀ C, mg "Reader" = some (.ref C) → Cls K C ∧ NoAttr K C "on")
    (fc_Reader_rules : ∀ C, mg "Reader" = some (.ref C) → Cls K C ∧ NoAttr K C "rules")
    (fc_Reader_states : ∀ C, mg "Reader" = some (.ref C) → Cls K C ∧ NoAttr K C "states") :
    Df P w K mg base eC 1 f fd ["self"] f_Reader___init__ := df_of F sc hb fun cdv A outer s H E hr => by
  have hr : Room 0 (A.deeper (envOfC "Reader.__init__" (defScope N_Reader___init__.st) s.heap.objs.size f cdv)) := hr
  exact (vss_cons (vs_fld (c := "Reader") (vp_var (pv 0)) (by exact vc_non) fc_Reader_states)
      (vss_cons (vs_fld (c := "Reader") (vp_var (pv 0)) (by exact vc_non) fc_Reader_on)
      (vss_one (vs_fld (c := "Reader") (vp_var (pv 0)) (by exact (ve_lst va_nil)) fc_Reader_rules))))
/-! ### Reader.take -/
namespace N_Reader_take
abbrev st : Stmt := (inCls (top 28) 1)
abbrev N : List Str := ["self", "line", "words", "rule"]
theorem sc : FnScope N ["self", "line"] (defScope st) := ⟨rfl, rfl, rfl, by decide +kernel, rfl, by decide +kernel, by decide +kernel⟩
def m : SM := (seqM (setM 2 (fzM (smM splitD (rd 1) (strM " "))))
  (seqM (iteM (testM (unM (isN false) (rdP 0 [Stp.fld "Reader" "states"]))) (seqM (stFld 0 [] "Reader" "states" (fzM (ifM (andM (testM (opM (eqP false) (clM (one lenD) (consM (rd 2) nilM)) (intM 2))) (testM (opM (eqP false) (opM ixD (rd 2) (intM 0)) (strM "states")))) (callM 1 [.tmp] f__number (consM (opM ixD (rd 2) (intM 1)) nilM)) nonM)))
  (retM (unM (isN true) (rdP 0 [Stp.fld "Reader" "states"])))) skipM)
  (seqM (iteM (testM (unM (isN false) (rdP 0 [Stp.fld "Reader" "on"]))) (seqM (stFld 0 [] "Reader" "on" (fzM (ifM (testM (opM (eqP false) (opM ixD (rd 2) (intM 0)) (strM "on"))) (callM 1 [.tmp] f__numbers (consM (fzM (slM (rd 2) (partM (intM 1)) (fun ρ => .ok none ρ))) nilM)) nonM)))
  (retM (unM (isN true) (rdP 0 [Stp.fld "Reader" "on"])))) skipM)
  (seqM (setM 3 (fzM (callM 1 [.tmp] f__rule (consM (rd 2) nilM))))
  (seqM (dropM (lmM 0 [Stp.fld "Reader" "rules"] appF (consM (rd 3) nilM)))
  (retM (unM (isN true) (rd 3))))))))
end N_Reader_take
def f_Reader_take : FM := fnM 2 4 [2, 3] N_Reader_take.m
open N_Reader_take in
theorem d_Reader_take {f : Addr} {fd : FuncData} (F : Fun K "take" "Reader.take" N_Reader_take.st f fd) (hb : Binds K fd ["self", "line"] []) (nb : NoB mg)
    (fc_Reader_on : ∀ C, mg "Reader" = some (.ref C) → Cls K C ∧ NoAttr K C "on")
    (fc_Reader_rules : ∀ C, mg "Reader" = some (.ref C) → Cls K C ∧ NoAttr K C "rules")
    (fc_Reader_states : ∀ C, mg "Reader" = some (.ref C) → Cls K C ∧ NoAttr K C "states")
    {a__number : Addr} {fd__number : FuncData} (g__number : mg "_number" = some (.ref a__number)) (D__number : Df P w K mg base eC 1 a__number fd__number ["word"] f__number)
    {a__numbers : Addr} {fd__numbers : FuncData} (g__numbers : mg "_numbers" = some (.ref a__numbers)) (D__numbers : Df P w K mg base eC 2 a__numbers fd__numbers ["words"] f__numbers)
    {a__rule : Addr} {fd__rule : FuncData} (g__rule : mg "_rule" = some (.ref a__rule)) (D__rule : Df P w K mg base eC 3 a__rule fd__rule ["words"] f__rule) :
    Df P w K mg base eC 4 f fd ["self", "line"] f_Reader_take := df_of F sc hb fun cdv A outer s H E hr => by
  have hr : Room 3 (A.deeper (envOfC "Reader.take" (defScope N_Reader_take.st) s.heap.objs.size f cdv)) := hr
  exact (vss_cons (vs_set (i := 2) (by decide) (ve_fzM (ve_split (ve_rd (pv 1)) vc_str)) sc.nd rfl (by first | exact Or.inl rfl | exact Or.inr rfl))
      (vss_cons (vs_if (vt_isN (ve_rdP (vp_fld (c := "Reader") (vp_var (pv 0)) (fc_Reader_states)))) (vss_cons (vs_fld (c := "Reader") (vp_var (pv 0)) (by exact (ve_fzM (ve_if (vt_w (vw_and (vt_eq hr (vc_B call_len vcl_len rfl nb.len_ Boot.«len» (va_cons (ve_rd (pv 2)) va_nil)) vc_int) (vw_and1 (vt_eq hr (ve_ix ix_lt vop_ix (ve_rd (pv 2)) vc_int) vc_str)))) (vc_call D__number (hr.mono (by decide)) (takes_of rfl rfl rfl rfl) g__number (by rfl) (vr_cons (ve_ix ix_lt vop_ix (ve_rd (pv 2)) vc_int) vr_nil)) vc_non))) fc_Reader_states)
      (vss_one (vs_ret (ve_isNotN (ve_rdP (vp_fld (c := "Reader") (vp_var (pv 0)) (fc_Reader_states))))))) vss_nil)
      (vss_cons (vs_if (vt_isN (ve_rdP (vp_fld (c := "Reader") (vp_var (pv 0)) (fc_Reader_on)))) (vss_cons (vs_fld (c := "Reader") (vp_var (pv 0)) (by exact (ve_fzM (ve_if (vt_eq hr (ve_ix ix_lt vop_ix (ve_rd (pv 2)) vc_int) vc_str) (vc_call D__numbers (hr.mono (by decide)) (takes_of rfl rfl rfl rfl) g__numbers (by rfl) (vr_cons (ve_fzM (ve_sl (ve_rd (pv 2)) (vpt_some vc_int) vpt_none)) vr_nil)) vc_non))) fc_Reader_on)
      (vss_one (vs_ret (ve_isNotN (ve_rdP (vp_fld (c := "Reader") (vp_var (pv 0)) (fc_Reader_on))))))) vss_nil)
      (vss_cons (vs_set (i := 3) (by decide) (ve_fzM (vc_call D__rule (hr.mono (by decide)) (takes_of rfl rfl rfl rfl) g__rule (by rfl) (vr_cons (ve_rd (pv 2)) vr_nil))) sc.nd rfl (by first | exact Or.inl rfl | exact Or.inr rfl))
      (vss_cons (vs_expr (ve_append (vp_fld (c := "Reader") (vp_var (pv 0)) (fc_Reader_rules)) (va_cons (ve_rd (pv 3)) va_nil) (by decide)))
      (vss_one (vs_ret (ve_isNotN (ve_rd (pv 3))))))))))
/-! ### read_listener -/
namespace N_read_listener
abbrev st : Stmt := (top 29)
abbrev N : List Str := ["text", "reader", "lines", "ended", "at", "line"]
theorem sc : FnScope N ["text"] (defScope st) := ⟨rfl, rfl, rfl, by decide +kernel, rfl, by decide +kernel, by decide +kernel⟩
def m : SM := (seqM (setM 1 (newM 1 "Reader" [] f_Reader___init__ nilM))
  (seqM (setM 2 (fzM (smM splitD (rd 0) (strM "
"))))
  (seqM (setM 3 (opM subD (clM (one lenD) (consM (rd 2) nilM)) (intM 1)))
  (seqM (forS (rngM enumI (consM (rd 2) nilM)) (tgTup 2 (tgCons (tgN 4) (tgCons (tgN 5) tgNil))) (iteM (andM (orM (testM (opM ltD (rd 4) (rd 3))) (testM (opM (eqP true) (rd 5) (strM "")))) (notM (testM (methM 2 "Reader" "take" 1 [] [.tmp] f_Reader_take (consM (rd 5) nilM))))) (raiseM (opM addD (strM "line ") (clM (one strX) (consM (rd 4) nilM)))) skipM))
  (seqM (iteM (orM (testM (unM (isN false) (rdP 1 [Stp.fld "Reader" "on"]))) (testM (opM (eqP true) (opM ixD (rd 2) (unM negD (intM 1))) (strM "")))) (raiseM (opM addD (strM "line ") (clM (one strX) (consM (rd 3) nilM)))) skipM)
  (seqM (iteM (testM (opM (eqP true) (rdP 1 [Stp.fld "Reader" "on"]) (clM (one sortedG) (consM (rdP 1 [Stp.fld "Reader" "on"]) nilM)))) (raiseM (strM "no listener")) skipM)
  (retM (newM 4 "Listener" [.tmp, .tmp, .tmp] f_Listener___init__ (consM (rdP 1 [Stp.fld "Reader" "states"]) (consM (rdP 1 [Stp.fld "Reader" "on"]) (consM (fzP 1 [Stp.fld "Reader" "rules"]) nilM)))))))))))
end N_read_listener
def f_read_listener : FM := fnM 1 6 [1, 2, 3, 4, 5] N_read_listener.m
open N_read_listener in
theorem d_read_listener {f : Addr} {fd : FuncData} (F : Fun K "read_listener" "read_listener" N_read_listener.st f fd) (hb : Binds K fd ["text"] []) (nb : NoB mg)
    (dg : DgTxt P K mg eC fI)
    (fc_Reader_on : ∀ C, mg "Reader" = some (.ref C) → Cls K C ∧ NoAttr K C "on")
    (fc_Reader_rules : ∀ C, mg "Reader" = some (.ref C) → Cls K C ∧ NoAttr K C "rules")
    (fc_Reader_states : ∀ C, mg "Reader" = some (.ref C) → Cls K C ∧ NoAttr K C "states")
    {a_Listener : Addr} (g_Listener : mg "Listener" = some (.ref a_Listener))
    {a_Reader : Addr} (g_Reader : mg "Reader" = some (.ref a_Reader)) (cl_Reader : Cls K a_Reader)
    {a_Reader___init__ : Addr} {fd_Reader___init__ : FuncData} (mk_Reader : Mk K a_Reader a_Reader___init__) (D_Reader___init__ : Df P w K mg base eC 1 a_Reader___init__ fd_Reader___init__ ["self"] f_Reader___init__)
    {a_Reader_take : Addr} {fd_Reader_take : FuncData} (me_Reader_take : Meth K a_Reader "take" a_Reader_take) (D_Reader_take : Df P w K mg base eC 4 a_Reader_take fd_Reader_take ["self", "line"] f_Reader_take)
    {a_Listener___init__ : Addr} {fd_Listener___init__ : FuncData} (mk_Listener : Mk K a_Listener a_Listener___init__) (D_Listener___init__ : Df P w K mg base eC 4 a_Listener___init__ fd_Listener___init__ ["self", "states", "on", "rules"] f_Listener___init__) :
    Df P w K mg base eC 6 f fd ["text"] f_read_listener := df_of F sc hb fun cdv A outer s H E hr => by
  have hr : Room 5 (A.deeper (envOfC "read_listener" (defScope N_read_listener.st) s.heap.objs.size f cdv)) := hr
  exact (vss_cons (vs_set (i := 1) (by decide) (vc_new0 mk_Reader D_Reader___init__ (hr.mono (by decide)) (takes_of rfl rfl rfl rfl) g_Reader (by rfl)) sc.nd rfl (by first | exact Or.inl rfl | exact Or.inr rfl))
      (vss_cons (vs_set (i := 2) (by decide) (ve_fzM (ve_split (ve_rd (pv 0)) vc_str)) sc.nd rfl (by first | exact Or.inl rfl | exact Or.inr rfl))
      (vss_cons (vs_set (i := 3) (by decide) (ve_op op_sub vop_i0 (vc_B call_len vcl_len rfl nb.len_ Boot.«len» (va_cons (ve_rd (pv 2)) va_nil)) vc_int) sc.nd rfl (by first | exact Or.inl rfl | exact Or.inr rfl))
      (vss_cons (vs_for (passes_of rfl) rfl (vi_enum rfl nb.enumerate_ (va_cons (ve_rd (pv 2)) va_nil)) (vg_tup rfl (vgs_cons (vg_name (i := 4) (by decide) sc.nd rfl (by first | exact Or.inl rfl | exact Or.inr rfl)) (vgs_cons (vg_name (i := 5) (by decide) sc.nd rfl (by first | exact Or.inl rfl | exact Or.inr rfl)) vgs_nil))) (vss_one (vs_if (vt_w (vw_and (vt_w (vw_or (vt_cmp op_lt vop_b0 (ve_rd (pv 4)) (ve_rd (pv 3))) (vw_or1 (vt_ne hr (ve_rd (pv 5)) vc_str)))) (vw_and1 (vt_not (vt_val (vc_meth (c := "Reader") (vp_var (pv 1)) D_Reader_take (hr.mono (by decide)) (takes_of rfl rfl rfl rfl) g_Reader cl_Reader me_Reader_take (vr_cons (ve_rd (pv 5)) vr_nil))))))) (vss_one (vs_raise rfl dg (hr.mono (Nat.zero_le _)) (takes_of rfl rfl rfl rfl) (ve_op op_addR vop_add vc_str (vc_Ty call_strX vcl_strX rfl nb.str_ Boot.«str» (va_cons (ve_rd (pv 4)) va_nil))))) vss_nil)))
      (vss_cons (vs_if (vt_w (vw_or (vt_isN (ve_rdP (vp_fld (c := "Reader") (vp_var (pv 1)) (fc_Reader_on)))) (vw_or1 (vt_ne hr (ve_ix ix_lt vop_ix (ve_rd (pv 2)) (ve_un un_neg vun_neg vc_int)) vc_str)))) (vss_one (vs_raise rfl dg (hr.mono (Nat.zero_le _)) (takes_of rfl rfl rfl rfl) (ve_op op_addR vop_add vc_str (vc_Ty call_strX vcl_strX rfl nb.str_ Boot.«str» (va_cons (ve_rd (pv 3)) va_nil))))) vss_nil)
      (vss_cons (vs_if (vt_ne hr (ve_rdP (vp_fld (c := "Reader") (vp_var (pv 1)) (fc_Reader_on))) (vc_sorted hr rfl nb.sorted_ Boot.sorted (va_cons (ve_rdP (vp_fld (c := "Reader") (vp_var (pv 1)) (fc_Reader_on))) va_nil))) (vss_one (vs_raise rfl dg (hr.mono (Nat.zero_le _)) (takes_of rfl rfl rfl rfl) vc_str)) vss_nil)
      (vss_one (vs_ret (vc_new mk_Listener D_Listener___init__ (hr.mono (by decide)) (takes_of rfl rfl rfl rfl) g_Listener (by rfl) (vr_cons (ve_rdP (vp_fld (c := "Reader") (vp_var (pv 1)) (fc_Reader_states))) (vr_cons (ve_rdP (vp_fld (c := "Reader") (vp_var (pv 1)) (fc_Reader_on))) (vr_cons (ve_fzP (vp_fld (c := "Reader") (vp_var (pv 1)) (fc_Reader_rules))) vr_nil))))))))))))
/-! ### _law_cell -/
namespace N__law_cell
abbrev st : Stmt := (top 31)
abbrev N : List Str := ["_law_script", "_law_k"]
theorem sc : FnScope N ["_law_script", "_law_k"] (defScope st) := ⟨rfl, rfl, rfl, by decide +kernel, rfl, by decide +kernel, by decide +kernel⟩
def m : SM := (seqM (iteM (testM (opM ltD (rd 1) (clM (one lenD) (consM (rd 0) nilM)))) (retM (opM ixD (rd 0) (rd 1))) skipM)
  (retM (intM 0)))
end N__law_cell
def f__law_cell : FM := fnM 2 2 [] N__law_cell.m
open N__law_cell in
theorem d__law_cell {f : Addr} {fd : FuncData} (F : Fun K "_law_cell" "_law_cell" N__law_cell.st f fd) (hb : Binds K fd ["_law_script", "_law_k"] []) (nb : NoB mg) :
    Df P w K mg base eC 1 f fd ["_law_script", "_law_k"] f__law_cell := df_of F sc hb fun cdv A outer s H E hr => by
  have hr : Room 0 (A.deeper (envOfC "_law_cell" (defScope N__law_cell.st) s.heap.objs.size f cdv)) := hr
  exact (vss_cons (vs_if (vt_cmp op_lt vop_b0 (ve_rd (pv 1)) (vc_B call_len vcl_len rfl nb.len_ Boot.«len» (va_cons (ve_rd (pv 0)) va_nil))) (vss_one (vs_ret (ve_ix ix_lt vop_ix (ve_rd (pv 0)) (ve_rd (pv 1))))) vss_nil)
      (vss_one (vs_ret vc_int)))
/-! ### _law_row -/
namespace N__law_row
abbrev st : Stmt := (top 32)
abbrev N : List Str := ["_law_script", "_law_first", "_law_last", "_law_row_here", "_law_k", "_law_cell_here", "_law_turn"]
theorem sc : FnScope N ["_law_script", "_law_first", "_law_last"] (defScope st) := ⟨rfl, rfl, rfl, by decide +kernel, rfl, by decide +kernel, by decide +kernel⟩
def m : SM := (seqM (setM 3 (clM lstD nilM))
  (seqM (forS (rngM rng2 (consM (rd 1) (consM (rd 2) nilM))) (tgN 4) (seqM (setM 5 (fzM (callM 2 [.tmp, .tmp] f__law_cell (consM (rd 0) (consM (rd 4) nilM)))))
  (seqM (setM 5 (fzM (opM addD (clM (one absD) (consM (opM mulD (intM 2) (rd 5)) nilM)) (clM (one intD) (consM (opM ltD (rd 5) (intM 0)) nilM)))))
  (iteM (testM (opM gtD (rd 5) (opM powD (intM 10) (intM 18)))) (forS (rngM rng1 (consM (intM 60) nilM)) (tgN 6) (iteM (testM (opM gtD (rd 5) (intM 0))) (seqM (dropM (lmM 3 [] appF (consM (opM modD (clM (one intD) (consM (rd 5) nilM)) (intM 840)) nilM)))
  (setM 5 (opM divD (rd 5) (intM 840)))) skipM)) (forS (rngM rng1 (consM (intM 10) nilM)) (tgN 6) (seqM (setM 5 (opM modD (clM (one intD) (consM (opM addD (opM addD (opM mulD (rd 5) (intM 69069)) (opM mulD (intM 104729) (opM addD (rd 4) (rd 6)))) (intM 1)) nilM)) (intM 4294967291)))
  (dropM (lmM 3 [] appF (consM (opM modD (clM (one intD) (consM (opM divD (rd 5) (intM 5003)) nilM)) (intM 840)) nilM)))))))))
  (retM (mv 3))))
end N__law_row
def f__law_row : FM := fnM 3 7 [3, 4, 5, 6] N__law_row.m
open N__law_row in
theorem d__law_row {f : Addr} {fd : FuncData} (F : Fun K "_law_row" "_law_row" N__law_row.st f fd) (hb : Binds K fd ["_law_script", "_law_first", "_law_last"] []) (nb : NoB mg)
    {a__law_cell : Addr} {fd__law_cell : FuncData} (g__law_cell : mg "_law_cell" = some (.ref a__law_cell)) (D__law_cell : Df P w K mg base eC 1 a__law_cell fd__law_cell ["_law_script", "_law_k"] f__law_cell) :
    Df P w K mg base eC 2 f fd ["_law_script", "_law_first", "_law_last"] f__law_row := df_of F sc hb fun cdv A outer s H E hr => by
  have hr : Room 1 (A.deeper (envOfC "_law_row" (defScope N__law_row.st) s.heap.objs.size f cdv)) := hr
  exact (vss_cons (vs_set (i := 3) (by decide) (ve_lst va_nil) sc.nd rfl (by first | exact Or.inl rfl | exact Or.inr rfl))
      (vss_cons (vs_for (passes_of rfl) rfl (vi_range2 rfl nb.range_ (va_cons (ve_rd (pv 1)) (va_cons (ve_rd (pv 2)) va_nil))) (vg_name (i := 4) (by decide) sc.nd rfl (by first | exact Or.inl rfl | exact Or.inr rfl)) (vss_cons (vs_set (i := 5) (by decide) (ve_fzM (vc_call D__law_cell (hr.mono (by decide)) (takes_of rfl rfl rfl rfl) g__law_cell (by rfl) (vr_cons (ve_rd (pv 0)) (vr_cons (ve_rd (pv 4)) vr_nil)))) sc.nd rfl (by first | exact Or.inl rfl | exact Or.inr rfl))
      (vss_cons (vs_set (i := 5) (by decide) (ve_fzM (ve_op op_addR vop_add (vc_B call_abs vcl_abs rfl nb.abs_ Boot.«abs» (va_cons (ve_op op_mul vop_i vc_int (ve_rd (pv 5))) va_nil)) (vc_Ty call_int1 vcl_int rfl nb.int_ Boot.«int» (va_cons (ve_cmp op_lt vop_b0 (ve_rd (pv 5)) vc_int) va_nil)))) sc.nd rfl (by first | exact Or.inl rfl | exact Or.inr rfl))
      (vss_one (vs_if (vt_cmp op_gt vop_b0 (ve_rd (pv 5)) (ve_op op_pow vop_i vc_int vc_int)) (vss_one (vs_for (passes_of rfl) rfl (vi_range1 rfl nb.range_ (va_cons vc_int va_nil)) (vg_name (i := 6) (by decide) sc.nd rfl (by first | exact Or.inl rfl | exact Or.inr rfl)) (vss_one (vs_if (vt_cmp op_gt vop_b0 (ve_rd (pv 5)) vc_int) (vss_cons (vs_expr (ve_append (vp_var (pv 3)) (va_cons (ve_op op_mod vop_i (vc_Ty call_int1 vcl_int rfl nb.int_ Boot.«int» (va_cons (ve_rd (pv 5)) va_nil)) vc_int) va_nil) (by decide)))
      (vss_one (vs_set (i := 5) (by decide) (ve_op op_fdiv vop_i (ve_rd (pv 5)) vc_int) sc.nd rfl (by first | exact Or.inl rfl | exact Or.inr rfl)))) vss_nil)))) (vss_one (vs_for (passes_of rfl) rfl (vi_range1 rfl nb.range_ (va_cons vc_int va_nil)) (vg_name (i := 6) (by decide) sc.nd rfl (by first | exact Or.inl rfl | exact Or.inr rfl)) (vss_cons (vs_set (i := 5) (by decide) (ve_op op_mod vop_i (vc_Ty call_int1 vcl_int rfl nb.int_ Boot.«int» (va_cons (ve_op op_addR vop_add (ve_op op_addR vop_add (ve_op op_mul vop_i (ve_rd (pv 5)) vc_int) (ve_op op_mul vop_i vc_int (ve_op op_addR vop_add (ve_rd (pv 4)) (ve_rd (pv 6))))) vc_int) va_nil)) vc_int) sc.nd rfl (by first | exact Or.inl rfl | exact Or.inr rfl))
      (vss_one (vs_expr (ve_append (vp_var (pv 3)) (va_cons (ve_op op_mod vop_i (vc_Ty call_int1 vcl_int rfl nb.int_ Boot.«int» (va_cons (ve_op op_fdiv vop_i (ve_rd (pv 5)) vc_int) va_nil)) vc_int) va_nil) (by decide))))))))))))
      (vss_one (vs_ret (ve_mv (pv 3))))))
/-! ### _law_draw -/
namespace N__law_draw
abbrev st : Stmt := (top 33)
abbrev N : List Str := ["_law_box", "_law_many", "_law_at"]
theorem sc : FnScope N ["_law_box", "_law_many"] (defScope st) := ⟨rfl, rfl, rfl, by decide +kernel, rfl, by decide +kernel, by decide +kernel⟩
def m : SM := (seqM (setM 2 (rdP 0 [Stp.ix 1]))
  (seqM (ixSt 0 [] (fzM (opM addD (rd 2) (intM 1))) (intM 1))
  (seqM (iteM (testM (opM ltD (rd 2) (lenP 0 [Stp.ix 0]))) (retM (opM modD (clM (one intD) (consM (opM ixD (rdP 0 [Stp.ix 0]) (rd 2)) nilM)) (rd 1))) skipM)
  (retM (opM modD (clM (one intD) (consM (opM addD (opM mulD (rd 2) (intM 5)) (intM 1)) nilM)) (rd 1))))))
end N__law_draw
def f__law_draw : FM := fnM 2 3 [2] N__law_draw.m
open N__law_draw in
theorem d__law_draw {f : Addr} {fd : FuncData} (F : Fun K "_law_draw" "_law_draw" N__law_draw.st f fd) (hb : Binds K fd ["_law_box", "_law_many"] []) (nb : NoB mg) :
    Df P w K mg base eC 1 f fd ["_law_box", "_law_many"] f__law_draw := df_of F sc hb fun cdv A outer s H E hr => by
  have hr : Room 0 (A.deeper (envOfC "_law_draw" (defScope N__law_draw.st) s.heap.objs.size f cdv)) := hr
  exact (vss_cons (vs_set (i := 2) (by decide) (ve_rdP (vp_ix (k := 1) (vp_var (pv 0)))) sc.nd rfl (by first | exact Or.inl rfl | exact Or.inr rfl))
      (vss_cons (vs_ix (vp_var (pv 0)) (ve_fzM (ve_op op_addR vop_add (ve_rd (pv 2)) vc_int)) vc_int (by decide))
      (vss_cons (vs_if (vt_cmp op_lt vop_b0 (ve_rd (pv 2)) (vc_lenP (vp_ix (k := 0) (vp_var (pv 0))) rfl nb.len_)) (vss_one (vs_ret (ve_op op_mod vop_i (vc_Ty call_int1 vcl_int rfl nb.int_ Boot.«int» (va_cons (ve_ix ix_lt vop_ix (ve_rdP (vp_ix (k := 0) (vp_var (pv 0)))) (ve_rd (pv 2))) va_nil)) (ve_rd (pv 1))))) vss_nil)
      (vss_one (vs_ret (ve_op op_mod vop_i (vc_Ty call_int1 vcl_int rfl nb.int_ Boot.«int» (va_cons (ve_op op_addR vop_add (ve_op op_mul vop_i (ve_rd (pv 2)) vc_int) vc_int) va_nil)) (ve_rd (pv 1))))))))
/-! ### _law_kinds -/
namespace N__law_kinds
abbrev st : Stmt := (top 35)
abbrev N : List Str := []
theorem sc : FnScope N [] (defScope st) := ⟨rfl, rfl, rfl, by decide +kernel, rfl, by decide +kernel, by decide +kernel⟩
def m : SM := (retM (clM lstD (consM (strM "enter") (consM (strM "leave") (consM (strM "over") (consM (strM "drop") (consM (strM "end") nilM)))))))
end N__law_kinds
def f__law_kinds : FM := fnM 0 0 [] N__law_kinds.m
open N__law_kinds in
theorem d__law_kinds {f : Addr} {fd : FuncData} (F : Fun K "_law_kinds" "_law_kinds" N__law_kinds.st f fd) (hb : Binds K fd [] [])  :
    Df P w K mg base eC 1 f fd [] f__law_kinds := df_of F sc hb fun cdv A outer s H E hr => by
  have hr : Room 0 (A.deeper (envOfC "_law_kinds" (defScope N__law_kinds.st) s.heap.objs.size f cdv)) := hr
  exact (vss_one (vs_ret (ve_lst (va_cons vc_str (va_cons vc_str (va_cons vc_str (va_cons vc_str (va_cons vc_str va_nil))))))))
/-! ### _law_rule -/
namespace N__law_rule
abbrev st : Stmt := (top 39)
abbrev N : List Str := ["_law_box", "_law_states", "_law_source", "_law_kind", "_law_side", "_law_same", "_law_related"]
theorem sc : FnScope N ["_law_box", "_law_states"] (defScope st) := ⟨rfl, rfl, rfl, by decide +kernel, rfl, by decide +kernel, by decide +kernel⟩
def m : SM := (seqM (setM 2 (fzM (opM ixD (clM lstD (consM nonM (consM (callM 2 [.plc 0 [], .tmp] f__law_draw (plcM 0 [] (consM (rd 1) nilM))) nilM))) (callM 2 [.plc 0 [], .tmp] f__law_draw (plcM 0 [] (consM (intM 2) nilM))))))
  (seqM (setM 3 (fzM (opM ixD (clM lstD (consM nonM (consM (opM ixD (callM 0 [] f__law_kinds nilM) (callM 2 [.plc 0 [], .tmp] f__law_draw (plcM 0 [] (consM (intM 5) nilM)))) nilM))) (clM (one intD) (consM (opM gtD (callM 2 [.plc 0 [], .tmp] f__law_draw (plcM 0 [] (consM (intM 4) nilM))) (intM 0)) nilM)))))
  (seqM (setM 4 (fzM (opM ixD (clM lstD (consM nonM (consM nonM (consM (strM "outside") (consM (strM "inside") (consM (strM "zone") nilM)))))) (callM 2 [.plc 0 [], .tmp] f__law_draw (plcM 0 [] (consM (intM 5) nilM))))))
  (seqM (setM 5 (fzM (opM ixD (clM lstD (consM nonM (consM nonM (consM (blM true) (consM (blM false) nilM))))) (callM 2 [.plc 0 [], .tmp] f__law_draw (plcM 0 [] (consM (intM 4) nilM))))))
  (seqM (setM 6 (fzM (opM ixD (clM lstD (consM nonM (consM nonM (consM nonM (consM (strM "none") (consM (strM "outside") (consM (strM "inside") nilM))))))) (callM 2 [.plc 0 [], .tmp] f__law_draw (plcM 0 [] (consM (intM 6) nilM))))))
  (retM (clM tupD (consM (rd 2) (consM (rd 3) (consM (rd 4) (consM (rd 5) (consM (rd 6) (consM (callM 2 [.plc 0 [], .tmp] f__law_draw (plcM 0 [] (consM (rd 1) nilM))) nilM)))))))))))))
end N__law_rule
def f__law_rule : FM := fnM 2 7 [2, 3, 4, 5, 6] N__law_rule.m
open N__law_rule in
theorem d__law_rule {f : Addr} {fd : FuncData} (F : Fun K "_law_rule" "_law_rule" N__law_rule.st f fd) (hb : Binds K fd ["_law_box", "_law_states"] []) (nb : NoB mg)
    {a__law_draw : Addr} {fd__law_draw : FuncData} (g__law_draw : mg "_law_draw" = some (.ref a__law_draw)) (D__law_draw : Df P w K mg base eC 1 a__law_draw fd__law_draw ["_law_box", "_law_many"] f__law_draw)
    {a__law_kinds : Addr} {fd__law_kinds : FuncData} (g__law_kinds : mg "_law_kinds" = some (.ref a__law_kinds)) (D__law_kinds : Df P w K mg base eC 1 a__law_kinds fd__law_kinds [] f__law_kinds) :
    Df P w K mg base eC 2 f fd ["_law_box", "_law_states"] f__law_rule := df_of F sc hb fun cdv A outer s H E hr => by
  have hr : Room 1 (A.deeper (envOfC "_law_rule" (defScope N__law_rule.st) s.heap.objs.size f cdv)) := hr
  exact (vss_cons (vs_set (i := 2) (by decide) (ve_fzM (ve_ix ix_lt vop_ix (ve_lst (va_cons vc_non (va_cons (vc_call D__law_draw (hr.mono (by decide)) (takes_of rfl rfl rfl rfl) g__law_draw (by rfl) (vr_plc (vp_var (pv 0)) (vr_cons (ve_rd (pv 1)) vr_nil))) va_nil))) (vc_call D__law_draw (hr.mono (by decide)) (takes_of rfl rfl rfl rfl) g__law_draw (by rfl) (vr_plc (vp_var (pv 0)) (vr_cons vc_int vr_nil))))) sc.nd rfl (by first | exact Or.inl rfl | exact Or.inr rfl))
      (vss_cons (vs_set (i := 3) (by decide) (ve_fzM (ve_ix ix_lt vop_ix (ve_lst (va_cons vc_non (va_cons (ve_ix ix_lt vop_ix (vc_call0 D__law_kinds (hr.mono (by decide)) (takes_of rfl rfl rfl rfl) g__law_kinds (by rfl)) (vc_call D__law_draw (hr.mono (by decide)) (takes_of rfl rfl rfl rfl) g__law_draw (by rfl) (vr_plc (vp_var (pv 0)) (vr_cons vc_int vr_nil)))) va_nil))) (vc_Ty call_int1 vcl_int rfl nb.int_ Boot.«int» (va_cons (ve_cmp op_gt vop_b0 (vc_call D__law_draw (hr.mono (by decide)) (takes_of rfl rfl rfl rfl) g__law_draw (by rfl) (vr_plc (vp_var (pv 0)) (vr_cons vc_int vr_nil))) vc_int) va_nil)))) sc.nd rfl (by first | exact Or.inl rfl | exact Or.inr rfl))
      (vss_cons (vs_set (i := 4) (by decide) (ve_fzM (ve_ix ix_lt vop_ix (ve_lst (va_cons vc_non (va_cons vc_non (va_cons vc_str (va_cons vc_str (va_cons vc_str va_nil)))))) (vc_call D__law_draw (hr.mono (by decide)) (takes_of rfl rfl rfl rfl) g__law_draw (by rfl) (vr_plc (vp_var (pv 0)) (vr_cons vc_int vr_nil))))) sc.nd rfl (by first | exact Or.inl rfl | exact Or.inr rfl))
      (vss_cons (vs_set (i := 5) (by decide) (ve_fzM (ve_ix ix_lt vop_ix (ve_lst (va_cons vc_non (va_cons vc_non (va_cons vc_bl (va_cons vc_bl va_nil))))) (vc_call D__law_draw (hr.mono (by decide)) (takes_of rfl rfl rfl rfl) g__law_draw (by rfl) (vr_plc (vp_var (pv 0)) (vr_cons vc_int vr_nil))))) sc.nd rfl (by first | exact Or.inl rfl | exact Or.inr rfl))
      (vss_cons (vs_set (i := 6) (by decide) (ve_fzM (ve_ix ix_lt vop_ix (ve_lst (va_cons vc_non (va_cons vc_non (va_cons vc_non (va_cons vc_str (va_cons vc_str (va_cons vc_str va_nil))))))) (vc_call D__law_draw (hr.mono (by decide)) (takes_of rfl rfl rfl rfl) g__law_draw (by rfl) (vr_plc (vp_var (pv 0)) (vr_cons vc_int vr_nil))))) sc.nd rfl (by first | exact Or.inl rfl | exact Or.inr rfl))
      (vss_one (vs_ret (ve_tup (va_cons (ve_rd (pv 2)) (va_cons (ve_rd (pv 3)) (va_cons (ve_rd (pv 4)) (va_cons (ve_rd (pv 5)) (va_cons (ve_rd (pv 6)) (va_cons (vc_call D__law_draw (hr.mono (by decide)) (takes_of rfl rfl rfl rfl) g__law_draw (by rfl) (vr_plc (vp_var (pv 0)) (vr_cons (ve_rd (pv 1)) vr_nil))) va_nil))))))))))))))
/-! ### _law_sample -/
namespace N__law_sample
abbrev st : Stmt := (top 40)
abbrev N : List Str := ["_law_name", "_law_rules", "_law_states", "_law_more"]
theorem sc : FnScope N ["_law_name"] (defScope st) := ⟨rfl, rfl, rfl, by decide +kernel, rfl, by decide +kernel, by decide +kernel⟩
def m : SM := (seqM (setM 1 (fzM (dspM [((strM "simple"), (fzM (clM lstD (consM (clM tupD (consM nonM (consM (strM "enter") (consM nonM (consM nonM (consM nonM (consM (intM 1) nilM))))))) (consM (clM tupD (consM nonM (consM (strM "leave") (consM nonM (consM nonM (consM nonM (consM (intM 0) nilM))))))) nilM))))), ((strM "counting"), (fzM (clM lstD (consM (clM tupD (consM (intM 0) (consM (strM "enter") (consM nonM (consM nonM (consM nonM (consM (intM 1) nilM))))))) (consM (clM tupD (consM (intM 1) (consM (strM "enter") (consM nonM (consM nonM (consM nonM (consM (intM 2) nilM))))))) (consM (clM tupD (consM (intM 2) (consM (strM "leave") (consM nonM (consM nonM (consM nonM (consM (intM 1) nilM))))))) (consM (clM tupD (consM (intM 1) (consM (strM "leave") (consM nonM (consM nonM (consM nonM (consM (intM 0) nilM))))))) nilM))))))), ((strM "latest"), (fzM (clM lstD (consM (clM tupD (consM nonM (consM (strM "enter") (consM (strM "outside") (consM nonM (consM nonM (consM (intM 0) nilM))))))) (consM (clM tupD (consM nonM (consM (strM "enter") (consM nonM (consM nonM (consM nonM (consM (intM 1) nilM))))))) (consM (clM tupD (consM nonM (consM (strM "leave") (consM nonM (consM (blM true) (consM nonM (consM (intM 0) nilM))))))) nilM)))))), ((strM "over"), (fzM (clM lstD (consM (clM tupD (consM nonM (consM (strM "over") (consM (strM "outside") (consM nonM (consM nonM (consM (intM 0) nilM))))))) (consM (clM tupD (consM nonM (consM (strM "over") (consM nonM (consM nonM (consM nonM (consM (intM 1) nilM))))))) (consM (clM tupD (consM nonM (consM (strM "leave") (consM nonM (consM nonM (consM nonM (consM (intM 0) nilM))))))) nilM)))))), ((strM "related"), (fzM (clM lstD (consM (clM tupD (consM nonM (consM (strM "enter") (consM nonM (consM nonM (consM nonM (consM (intM 1) nilM))))))) (consM (clM tupD (consM (intM 1) (consM (strM "leave") (consM nonM (consM nonM (consM (strM "inside") (consM (intM 1) nilM))))))) (consM (clM tupD (consM nonM (consM (strM "leave") (consM nonM (consM nonM (consM nonM (consM (intM 0) nilM))))))) nilM))))))])))
  (seqM (setM 2 (fzM (opM addD (intM 2) (clM (one intD) (consM (opM (eqP false) (rd 0) (strM "counting")) nilM)))))
  (seqM (setM 3 (fzM (clM lstD (consM (clM tupD (consM nonM (consM (strM "drop") (consM nonM (consM nonM (consM nonM (consM (intM 0) nilM))))))) (consM (clM tupD (consM nonM (consM (strM "end") (consM nonM (consM nonM (consM nonM (consM (intM 0) nilM))))))) nilM)))))
  (retM (clM lstD (consM (rd 2) (consM (opM rgLD (intM 1) (rd 2)) (consM (opM addD (opM dgetD (rd 1) (rd 0)) (rd 3)) nilM))))))))
end N__law_sample
def f__law_sample : FM := fnM 1 4 [1, 2, 3] N__law_sample.m
open N__law_sample in
theorem d__law_sample {f : Addr} {fd : FuncData} (F : Fun K "_law_sample" "_law_sample" N__law_sample.st f fd) (hb : Binds K fd ["_law_name"] []) (nb : NoB mg) :
    Df P w K mg base eC 1 f fd ["_law_name"] f__law_sample := df_of F sc hb fun cdv A outer s H E hr => by
  have hr : Room 0 (A.deeper (envOfC "_law_sample" (defScope N__law_sample.st) s.heap.objs.size f cdv)) := hr
  exact (vss_cons (vs_set (i := 1) (by decide) (ve_fzM (ve_dsp (vps_cons vc_str (ve_fzM (ve_lst (va_cons (ve_tup (va_cons vc_non (va_cons vc_str (va_cons vc_non (va_cons vc_non (va_cons vc_non (va_cons vc_int va_nil))))))) (va_cons (ve_tup (va_cons vc_non (va_cons vc_str (va_cons vc_non (va_cons vc_non (va_cons vc_non (va_cons vc_int va_nil))))))) va_nil)))) (vps_cons vc_str (ve_fzM (ve_lst (va_cons (ve_tup (va_cons vc_int (va_cons vc_str (va_cons vc_non (va_cons vc_non (va_cons vc_non (va_cons vc_int va_nil))))))) (va_cons (ve_tup (va_cons vc_int (va_cons vc_str (va_cons vc_non (va_cons vc_non (va_cons vc_non (va_cons vc_int va_nil))))))) (va_cons (ve_tup (va_cons vc_int (va_cons vc_str (va_cons vc_non (va_cons vc_non (va_cons vc_non (va_cons vc_int va_nil))))))) (va_cons (ve_tup (va_cons vc_int (va_cons vc_str (va_cons vc_non (va_cons vc_non (va_cons vc_non (va_cons vc_int va_nil))))))) va_nil)))))) (vps_cons vc_str (ve_fzM (ve_lst (va_cons (ve_tup (va_cons vc_non (va_cons vc_str (va_cons vc_str (va_cons vc_non (va_cons vc_non (va_cons vc_int va_nil))))))) (va_cons (ve_tup (va_cons vc_non (va_cons vc_str (va_cons vc_non (va_cons vc_non (va_cons vc_non (va_cons vc_int va_nil))))))) (va_cons (ve_tup (va_cons vc_non (va_cons vc_str (va_cons vc_non (va_cons vc_bl (va_cons vc_non (va_cons vc_int va_nil))))))) va_nil))))) (vps_cons vc_str (ve_fzM (ve_lst (va_cons (ve_tup (va_cons vc_non (va_cons vc_str (va_cons vc_str (va_cons vc_non (va_cons vc_non (va_cons vc_int va_nil))))))) (va_cons (ve_tup (va_cons vc_non (va_cons vc_str (va_cons vc_non (va_cons vc_non (va_cons vc_non (va_cons vc_int va_nil))))))) (va_cons (ve_tup (va_cons vc_non (va_cons vc_str (va_cons vc_non (va_cons vc_non (va_cons vc_non (va_cons vc_int va_nil))))))) va_nil))))) (vps_cons vc_str (ve_fzM (ve_lst (va_cons (ve_tup (va_cons vc_non (va_cons vc_str (va_cons vc_non (va_cons vc_non (va_cons vc_non (va_cons vc_int va_nil))))))) (va_cons (ve_tup (va_cons vc_int (va_cons vc_str (va_cons vc_non (va_cons vc_non (va_cons vc_str (va_cons vc_int va_nil))))))) (va_cons (ve_tup (va_cons vc_non (va_cons vc_str (va_cons vc_non (va_cons vc_non (va_cons vc_non (va_cons vc_int va_nil))))))) va_nil))))) vps_nil))))))) sc.nd rfl (by first | exact Or.inl rfl | exact Or.inr rfl))
      (vss_cons (vs_set (i := 2) (by decide) (ve_fzM (ve_op op_addR vop_add vc_int (vc_Ty call_int1 vcl_int rfl nb.int_ Boot.«int» (va_cons (ve_eq hr (ve_rd (pv 0)) vc_str) va_nil)))) sc.nd rfl (by first | exact Or.inl rfl | exact Or.inr rfl))
      (vss_cons (vs_set (i := 3) (by decide) (ve_fzM (ve_lst (va_cons (ve_tup (va_cons vc_non (va_cons vc_str (va_cons vc_non (va_cons vc_non (va_cons vc_non (va_cons vc_int va_nil))))))) (va_cons (ve_tup (va_cons vc_non (va_cons vc_str (va_cons vc_non (va_cons vc_non (va_cons vc_non (va_cons vc_int va_nil))))))) va_nil)))) sc.nd rfl (by first | exact Or.inl rfl | exact Or.inr rfl))
      (vss_one (vs_ret (ve_lst (va_cons (ve_rd (pv 2)) (va_cons (ve_lrng2 rfl rfl nb.list_ rfl nb.range_ vc_int (ve_rd (pv 2))) (va_cons (ve_op op_addR vop_add (ve_dget hr (ve_rd (pv 1)) (ve_rd (pv 0))) (ve_rd (pv 3))) va_nil)))))))))
/-! ### _law_listener -/
namespace N__law_listener
abbrev st : Stmt := (top 41)
abbrev N : List Str := ["_law_box", "_law_most", "_law_kind", "_law_states", "_law_told_here", "_law_s", "_law_k"]
theorem sc : FnScope N ["_law_box", "_law_most"] (defScope st) := ⟨rfl, rfl, rfl, by decide +kernel, rfl, by decide +kernel, by decide +kernel⟩
def m : SM := (seqM (setM 2 (fzM (callM 2 [.plc 0 [], .tmp] f__law_draw (plcM 0 [] (consM (intM 8) nilM)))))
  (seqM (iteM (testM (opM ltD (rd 2) (intM 5))) (seqM (setM 4 (callM 1 [.tmp] f__law_sample (consM (fzM (opM ixD (clM lstD (consM (strM "simple") (consM (strM "counting") (consM (strM "latest") (consM (strM "over") (consM (strM "related") nilM)))))) (rd 2))) nilM)))
  (seqM (iteM (testM (opM (eqP false) (callM 2 [.plc 0 [], .tmp] f__law_draw (plcM 0 [] (consM (intM 3) nilM))) (intM 0))) (ixSt 4 [Stp.ix 2] (fzM (callM 2 [.plc 0 [], .tmp] f__law_rule (plcM 0 [] (consM (rdP 4 [Stp.ix 0]) nilM)))) (callM 2 [.plc 0 [], .tmp] f__law_draw (plcM 0 [] (consM (lenP 4 [Stp.ix 2]) nilM)))) skipM)
  (retM (mv 4)))) skipM)
  (seqM (setM 3 (fzM (opM addD (intM 1) (callM 2 [.plc 0 [], .tmp] f__law_draw (plcM 0 [] (consM (rd 1) nilM))))))
  (retM (clM lstD (consM (rd 3) (consM (lcM [5] (rngM rng1 (consM (rd 3) nilM)) (tgN 5) (testM (opM (eqP false) (callM 2 [.plc 0 [], .tmp] f__law_draw (plcM 0 [] (consM (intM 2) nilM))) (intM 0))) (rd 5)) (consM (lcM [6] (rngM rng1 (consM (callM 2 [.plc 0 [], .tmp] f__law_draw (plcM 0 [] (consM (intM 8) nilM))) nilM)) (tgN 6) yesM (callM 2 [.plc 0 [], .tmp] f__law_rule (plcM 0 [] (consM (rd 3) nilM)))) nilM))))))))
end N__law_listener
def f__law_listener : FM := fnM 2 7 [2, 3, 4] N__law_listener.m
open N__law_listener in
theorem d__law_listener {f : Addr} {fd : FuncData} (F : Fun K "_law_listener" "_law_listener" N__law_listener.st f fd) (hb : Binds K fd ["_law_box", "_law_most"] []) (nb : NoB mg)
    {a__law_draw : Addr} {fd__law_draw : FuncData} (g__law_draw : mg "_law_draw" = some (.ref a__law_draw)) (D__law_draw : Df P w K mg base eC 1 a__law_draw fd__law_draw ["_law_box", "_law_many"] f__law_draw)
    {a__law_sample : Addr} {fd__law_sample : FuncData} (g__law_sample : mg "_law_sample" = some (.ref a__law_sample)) (D__law_sample : Df P w K mg base eC 1 a__law_sample fd__law_sample ["_law_name"] f__law_sample)
    {a__law_rule : Addr} {fd__law_rule : FuncData} (g__law_rule : mg "_law_rule" = some (.ref a__law_rule)) (D__law_rule : Df P w K mg base eC 2 a__law_rule fd__law_rule ["_law_box", "_law_states"] f__law_rule) :
    Df P w K mg base eC 3 f fd ["_law_box", "_law_most"] f__law_listener := df_of F sc hb fun cdv A outer s H E hr => by
  have hr : Room 2 (A.deeper (envOfC "_law_listener" (defScope N__law_listener.st) s.heap.objs.size f cdv)) := hr
  exact (vss_cons (vs_set (i := 2) (by decide) (ve_fzM (vc_call D__law_draw (hr.mono (by decide)) (takes_of rfl rfl rfl rfl) g__law_draw (by rfl) (vr_plc (vp_var (pv 0)) (vr_cons vc_int vr_nil)))) sc.nd rfl (by first | exact Or.inl rfl | exact Or.inr rfl))
      (vss_cons (vs_if (vt_cmp op_lt vop_b0 (ve_rd (pv 2)) vc_int) (vss_cons (vs_set (i := 4) (by decide) (vc_call D__law_sample (hr.mono (by decide)) (takes_of rfl rfl rfl rfl) g__law_sample (by rfl) (vr_cons (ve_fzM (ve_ix ix_lt vop_ix (ve_lst (va_cons vc_str (va_cons vc_str (va_cons vc_str (va_cons vc_str (va_cons vc_str va_nil)))))) (ve_rd (pv 2)))) vr_nil)) sc.nd rfl (by first | exact Or.inl rfl | exact Or.inr rfl))
      (vss_cons (vs_if (vt_eq hr (vc_call D__law_draw (hr.mono (by decide)) (takes_of rfl rfl rfl rfl) g__law_draw (by rfl) (vr_plc (vp_var (pv 0)) (vr_cons vc_int vr_nil))) vc_int) (vss_one (vs_ix (vp_ix (k := 2) (vp_var (pv 4))) (ve_fzM (vc_call D__law_rule (hr.mono (by decide)) (takes_of rfl rfl rfl rfl) g__law_rule (by rfl) (vr_plc (vp_var (pv 0)) (vr_cons (ve_rdP (vp_ix (k := 0) (vp_var (pv 4)))) vr_nil)))) (vc_call D__law_draw (hr.mono (by decide)) (takes_of rfl rfl rfl rfl) g__law_draw (by rfl) (vr_plc (vp_var (pv 0)) (vr_cons (vc_lenP (vp_ix (k := 2) (vp_var (pv 4))) rfl nb.len_) vr_nil))) (by decide))) vss_nil)
      (vss_one (vs_ret (ve_mv (pv 4)))))) vss_nil)
      (vss_cons (vs_set (i := 3) (by decide) (ve_fzM (ve_op op_addR vop_add vc_int (vc_call D__law_draw (hr.mono (by decide)) (takes_of rfl rfl rfl rfl) g__law_draw (by rfl) (vr_plc (vp_var (pv 0)) (vr_cons (ve_rd (pv 1)) vr_nil))))) sc.nd rfl (by first | exact Or.inl rfl | exact Or.inr rfl))
      (vss_one (vs_ret (ve_lst (va_cons (ve_rd (pv 3)) (va_cons (ve_lc (own := [("_law_s", 5)]) (SA := [5]) (g := tgN 5) rfl sc.nd (blkOk_by (own := [("_law_s", 5)]) (N := N) (sc := defScope st) (by decide +kernel)) (vi_range1 rfl nb.range_ (va_cons (ve_rd (pv 3)) va_nil)) (fun _ _ _ _ _ => pg_name (i := 5) sc.nd rfl (Or.inl rfl)) (tk_name (by decide)) (by decide) (fun _ _ _ _ _ => pts_one' (vt_eq hr (vc_call D__law_draw (hr.mono (by decide)) takes0 g__law_draw (by rfl) (vr_plc (vp_var (pv 0)) (vr_cons vc_int vr_nil))) vc_int)) (fun _ _ _ _ _ => (ve_rd (pv 5)))) (va_cons (ve_lc (own := [("_law_k", 6)]) (SA := [6]) (g := tgN 6) rfl sc.nd (blkOk_by (own := [("_law_k", 6)]) (N := N) (sc := defScope st) (by decide +kernel)) (vi_range1 rfl nb.range_ (va_cons (vc_call D__law_draw (hr.mono (by decide)) (takes_of rfl rfl rfl rfl) g__law_draw (by rfl) (vr_plc (vp_var (pv 0)) (vr_cons vc_int vr_nil))) va_nil)) (fun _ _ _ _ _ => pg_name (i := 6) sc.nd rfl (Or.inl rfl)) (tk_name (by decide)) (by decide) (fun _ _ _ _ _ => pts_yes') (fun _ _ _ _ _ => (vc_call D__law_rule (hr.mono (by decide)) takes0 g__law_rule (by rfl) (vr_plc (vp_var (pv 0)) (vr_cons (ve_rd (pv 3)) vr_nil))))) va_nil)))))))))
/-! ### _law_listening -/
namespace N__law_listening
abbrev st : Stmt := (top 44)
abbrev N : List Str := ["_law_told_here"]
theorem sc : FnScope N ["_law_told_here"] (defScope st) := ⟨rfl, rfl, rfl, by decide +kernel, rfl, by decide +kernel, by decide +kernel⟩
def m : SM := (retM (newM 4 "Listener" [.tmp, .tmp, .tmp] f_Listener___init__ (consM (opM ixD (rd 0) (intM 0)) (consM (fzM (clM (one toLstD) (consM (opM ixD (rd 0) (intM 1)) nilM))) (consM (fzM (clM (one toLstD) (consM (opM ixD (rd 0) (intM 2)) nilM))) nilM)))))
end N__law_listening
def f__law_listening : FM := fnM 1 1 [] N__law_listening.m
open N__law_listening in
theorem d__law_listening {f : Addr} {fd : FuncData} (F : Fun K "_law_listening" "_law_listening" N__law_listening.st f fd) (hb : Binds K fd ["_law_told_here"] []) (nb : NoB mg)
    {a_Listener : Addr} (g_Listener : mg "Listener" = some (.ref a_Listener))
    {a_Listener___init__ : Addr} {fd_Listener___init__ : FuncData} (mk_Listener : Mk K a_Listener a_Listener___init__) (D_Listener___init__ : Df P w K mg base eC 4 a_Listener___init__ fd_Listener___init__ ["self", "states", "on", "rules"] f_Listener___init__) :
    Df P w K mg base eC 6 f fd ["_law_told_here"] f__law_listening := df_of F sc hb fun cdv A outer s H E hr => by
  have hr : Room 5 (A.deeper (envOfC "_law_listening" (defScope N__law_listening.st) s.heap.objs.size f cdv)) := hr
  exact (vss_one (vs_ret (vc_new mk_Listener D_Listener___init__ (hr.mono (by decide)) (takes_of rfl rfl rfl rfl) g_Listener (by rfl) (vr_cons (ve_ix ix_lt vop_ix (ve_rd (pv 0)) vc_int) (vr_cons (ve_fzM (vc_Ty call_list_of vcl_list rfl nb.list_ Boot.«list» (va_cons (ve_ix ix_lt vop_ix (ve_rd (pv 0)) vc_int) va_nil))) (vr_cons (ve_fzM (vc_Ty call_list_of vcl_list rfl nb.list_ Boot.«list» (va_cons (ve_ix ix_lt vop_ix (ve_rd (pv 0)) vc_int) va_nil))) vr_nil))))))
/-! ### _law_word -/
namespace N__law_word
abbrev st : Stmt := (top 45)
abbrev N : List Str := ["_law_part_here"]
theorem sc : FnScope N ["_law_part_here"] (defScope st) := ⟨rfl, rfl, rfl, by decide +kernel, rfl, by decide +kernel, by decide +kernel⟩
def m : SM := (seqM (iteM (testM (unM (isN false) (rd 0))) (retM (strM "*")) skipM)
  (seqM (iteM (testM (unM (isiD ["bool"]) (rd 0))) (retM (opM ixD (clM lstD (consM (strM "no") (consM (strM "yes") nilM))) (clM (one intD) (consM (rd 0) nilM)))) skipM)
  (retM (clM (one strX) (consM (rd 0) nilM)))))
end N__law_word
def f__law_word : FM := fnM 1 1 [] N__law_word.m
open N__law_word in
theorem d__law_word {f : Addr} {fd : FuncData} (F : Fun K "_law_word" "_law_word" N__law_word.st f fd) (hb : Binds K fd ["_law_part_here"] []) (nb : NoB mg) :
    Df P w K mg base eC 1 f fd ["_law_part_here"] f__law_word := df_of F sc hb fun cdv A outer s H E hr => by
  have hr : Room 0 (A.deeper (envOfC "_law_word" (defScope N__law_word.st) s.heap.objs.size f cdv)) := hr
  exact (vss_cons (vs_if (vt_isN (ve_rd (pv 0))) (vss_one (vs_ret vc_str)) vss_nil)
      (vss_cons (vs_if (vt_val (vc_isi (Ts := "bool") (by decide) nb.bool_ rfl Boot.«bool» rfl nb.isinstance_ (ve_rd (pv 0)))) (vss_one (vs_ret (ve_ix ix_lt vop_ix (ve_lst (va_cons vc_str (va_cons vc_str va_nil))) (vc_Ty call_int1 vcl_int rfl nb.int_ Boot.«int» (va_cons (ve_rd (pv 0)) va_nil))))) vss_nil)
      (vss_one (vs_ret (vc_Ty call_strX vcl_strX rfl nb.str_ Boot.«str» (va_cons (ve_rd (pv 0)) va_nil))))))
/-! ### _law_text -/
namespace N__law_text
abbrev st : Stmt := (top 46)
abbrev N : List Str := ["_law_listener_here", "_law_lines", "_law_rule_here", "_law_line_here", "_law_state", "_law_part_here"]
theorem sc : FnScope N ["_law_listener_here"] (defScope st) := ⟨rfl, rfl, rfl, by decide +kernel, rfl, by decide +kernel, by decide +kernel⟩
def m : SM := (seqM (setM 1 (clM lstD (consM (fzM (opM addD (strM "states ") (clM (one strX) (consM (opM ixD (rd 0) (intM 0)) nilM)))) (consM (fzM (opM addD (strM "on") (smM joinD (strM "") (lcM [4] (itM (opM ixD (rd 0) (intM 1))) (tgN 4) yesM (opM addD (strM " ") (clM (one strX) (consM (rd 4) nilM))))))) nilM))))
  (seqM (forS (itM (opM ixD (rd 0) (intM 2))) (tgN 2) (dropM (lmM 1 [] appF (consM (fzM (opM addD (opM addD (opM addD (strM "rule ") (smM joinD (strM " ") (lcM [5] (itM (slM (rd 2) (fun ρ => .ok none ρ) (partM (intM 5)))) (tgN 5) yesM (callM 1 [.tmp] f__law_word (consM (rd 5) nilM))))) (strM " > ")) (clM (one strX) (consM (opM ixD (rd 2) (intM 5)) nilM)))) nilM))))
  (retM (smM joinD (strM "") (lcM [3] (itM (fzv 1)) (tgN 3) yesM (opM addD (rd 3) (strM "
")))))))
end N__law_text
def f__law_text : FM := fnM 1 6 [1, 2] N__law_text.m
open N__law_text in
theorem d__law_text {f : Addr} {fd : FuncData} (F : Fun K "_law_text" "_law_text" N__law_text.st f fd) (hb : Binds K fd ["_law_listener_here"] []) (nb : NoB mg)
    {a__law_word : Addr} {fd__law_word : FuncData} (g__law_word : mg "_law_word" = some (.ref a__law_word)) (D__law_word : Df P w K mg base eC 1 a__law_word fd__law_word ["_law_part_here"] f__law_word) :
    Df P w K mg base eC 2 f fd ["_law_listener_here"] f__law_text := df_of F sc hb fun cdv A outer s H E hr => by
  have hr : Room 1 (A.deeper (envOfC "_law_text" (defScope N__law_text.st) s.heap.objs.size f cdv)) := hr
  exact (vss_cons (vs_set (i := 1) (by decide) (ve_lst (va_cons (ve_fzM (ve_op op_addR vop_add vc_str (vc_Ty call_strX vcl_strX rfl nb.str_ Boot.«str» (va_cons (ve_ix ix_lt vop_ix (ve_rd (pv 0)) vc_int) va_nil)))) (va_cons (ve_fzM (ve_op op_addR vop_add vc_str (ve_join vc_str (ve_lc (own := [("_law_state", 4)]) (SA := [4]) (g := tgN 4) rfl sc.nd (blkOk_by (own := [("_law_state", 4)]) (N := N) (sc := defScope st) (by decide +kernel)) (vi_seq (ve_ix ix_lt vop_ix (ve_rd (pv 0)) vc_int)) (fun _ _ _ _ _ => pg_name (i := 4) sc.nd rfl (Or.inl rfl)) (tk_name (by decide)) (by decide) (fun _ _ _ _ _ => pts_yes') (fun _ _ _ _ _ => (ve_op op_addR vop_add vc_str (vc_Ty call_strX vcl_strX rfl nb.str_ Boot.«str» (va_cons (ve_rd (pv 4)) va_nil)))))))) va_nil))) sc.nd rfl (by first | exact Or.inl rfl | exact Or.inr rfl))
      (vss_cons (vs_for (passes_of rfl) rfl (vi_seq (ve_ix ix_lt vop_ix (ve_rd (pv 0)) vc_int)) (vg_name (i := 2) (by decide) sc.nd rfl (by first | exact Or.inl rfl | exact Or.inr rfl)) (vss_one (vs_expr (ve_append (vp_var (pv 1)) (va_cons (ve_fzM (ve_op op_addR vop_add (ve_op op_addR vop_add (ve_op op_addR vop_add vc_str (ve_join vc_str (ve_lc (own := [("_law_part_here", 5)]) (SA := [5]) (g := tgN 5) rfl sc.nd (blkOk_by (own := [("_law_part_here", 5)]) (N := N) (sc := defScope st) (by decide +kernel)) (vi_seq (ve_sl (ve_rd (pv 2)) vpt_none (vpt_some vc_int))) (fun _ _ _ _ _ => pg_name (i := 5) sc.nd rfl (Or.inl rfl)) (tk_name (by decide)) (by decide) (fun _ _ _ _ _ => pts_yes') (fun _ _ _ _ _ => (vc_call D__law_word (hr.mono (by decide)) takes0 g__law_word (by rfl) (vr_cons (ve_rd (pv 5)) vr_nil)))))) vc_str) (vc_Ty call_strX vcl_strX rfl nb.str_ Boot.«str» (va_cons (ve_ix ix_lt vop_ix (ve_rd (pv 2)) vc_int) va_nil)))) va_nil) (by decide)))))
      (vss_one (vs_ret (ve_join vc_str (ve_lc (own := [("_law_line_here", 3)]) (SA := [3]) (g := tgN 3) rfl sc.nd (blkOk_by (own := [("_law_line_here", 3)]) (N := N) (sc := defScope st) (by decide +kernel)) (vi_seq (ve_fz (pv 1))) (fun _ _ _ _ _ => pg_name (i := 3) sc.nd rfl (Or.inl rfl)) (tk_name (by decide)) (by decide) (fun _ _ _ _ _ => pts_yes') (fun _ _ _ _ _ => (ve_op op_addR vop_add (ve_rd (pv 3)) vc_str))))))))
/-! ### _law_number -/
namespace N__law_number
abbrev st : Stmt := (top 47)
abbrev N : List Str := ["_law_word_here", "_law_sign"]
theorem sc : FnScope N ["_law_word_here"] (defScope st) := ⟨rfl, rfl, rfl, by decide +kernel, rfl, by decide +kernel, by decide +kernel⟩
def m : SM := (seqM (iteM (orM (testM (opM (eqP false) (rd 0) (strM ""))) (orM (testM (opM gtD (clM (one lenD) (consM (lcM [1] (itSM (rd 0)) (tgN 1) (testM (opM (inSD true) (rd 1) (strM "0123456789"))) (rd 1)) nilM)) (intM 0))) (andM (testM (opM gtD (clM (one lenD) (consM (rd 0) nilM)) (intM 1))) (testM (opM (eqP false) (opM ixSD (rd 0) (intM 0)) (strM "0")))))) (retM nonM) skipM)
  (retM (clM (one intX) (consM (rd 0) nilM))))
end N__law_number
def f__law_number : FM := fnM 1 2 [] N__law_number.m
open N__law_number in
theorem d__law_number {f : Addr} {fd : FuncData} (F : Fun K "_law_number" "_law_number" N__law_number.st f fd) (hb : Binds K fd ["_law_word_here"] []) (nb : NoB mg) :
    Df P w K mg base eC 1 f fd ["_law_word_here"] f__law_number := df_of F sc hb fun cdv A outer s H E hr => by
  have hr : Room 0 (A.deeper (envOfC "_law_number" (defScope N__law_number.st) s.heap.objs.size f cdv)) := hr
  exact (vss_cons (vs_if (vt_w (vw_or (vt_eq hr (ve_rd (pv 0)) vc_str) (vw_or (vt_cmp op_gt vop_b0 (vc_B call_len vcl_len rfl nb.len_ Boot.«len» (va_cons (ve_lc (own := [("_law_sign", 1)]) (SA := [1]) (g := tgN 1) rfl sc.nd (blkOk_by (own := [("_law_sign", 1)]) (N := N) (sc := defScope st) (by decide +kernel)) (vi_str (ve_rd (pv 0))) (fun _ _ _ _ _ => pg_name (i := 1) sc.nd rfl (Or.inl rfl)) (tk_name (by decide)) (by decide) (fun _ _ _ _ _ => pts_one' (vt_cmp op_notIn_sign vop_notInS (ve_rd (pv 1)) vc_str)) (fun _ _ _ _ _ => (ve_rd (pv 1)))) va_nil)) vc_int) (vw_or1 (vt_w (vw_and (vt_cmp op_gt vop_b0 (vc_B call_len vcl_len rfl nb.len_ Boot.«len» (va_cons (ve_rd (pv 0)) va_nil)) vc_int) (vw_and1 (vt_eq hr (ve_ix ix_str vop_ixS (ve_rd (pv 0)) vc_int) vc_str)))))))) (vss_one (vs_ret vc_non)) vss_nil)
      (vss_one (vs_ret (vc_Ty call_intX vcl_intX rfl nb.int_ Boot.«int» (va_cons (ve_rd (pv 0)) va_nil)))))
/-! ### _law_part -/
namespace N__law_part
abbrev st : Stmt := (top 48)
abbrev N : List Str := ["_law_word_here", "_law_k", "_law_number_here"]
theorem sc : FnScope N ["_law_word_here", "_law_k"] (defScope st) := ⟨rfl, rfl, rfl, by decide +kernel, rfl, by decide +kernel, by decide +kernel⟩
def m : SM := (seqM (iteM (testM (opM (eqP false) (rd 0) (strM "*"))) (retM (clM lstD (consM nonM nilM))) skipM)
  (seqM (iteM (testM (opM (eqP false) (rd 1) (intM 0))) (retM (lcM [2] (itM (clM lstD (consM (callM 1 [.tmp] f__law_number (consM (rd 0) nilM)) nilM))) (tgN 2) (testM (unM (isN true) (rd 2))) (rd 2))) skipM)
  (seqM (iteM (testM (opM (eqP false) (rd 1) (intM 3))) (retM (opM repD (clM lstD (consM (opM ixD (clM lstD (consM (blM true) (consM (blM false) nilM))) (clM (one intD) (consM (opM (eqP false) (rd 0) (strM "no")) nilM))) nilM)) (clM (one intD) (consM (opM (inP false) (rd 0) (clM tupD (consM (strM "yes") (consM (strM "no") nilM)))) nilM)))) skipM)
  (retM (opM repD (clM lstD (consM (rd 0) nilM)) (clM (one intD) (consM (opM (inP false) (rd 0) (opM ixD (clM lstD (consM (clM lstD nilM) (consM (callM 0 [] f__law_kinds nilM) (consM (clM lstD (consM (strM "outside") (consM (strM "inside") (consM (strM "zone") nilM)))) (consM (clM lstD nilM) (consM (clM lstD (consM (strM "none") (consM (strM "outside") (consM (strM "inside") nilM)))) nilM)))))) (rd 1))) nilM)))))))
end N__law_part
def f__law_part : FM := fnM 2 3 [] N__law_part.m
open N__law_part in
theorem d__law_part {f : Addr} {fd : FuncData} (F : Fun K "_law_part" "_law_part" N__law_part.st f fd) (hb : Binds K fd ["_law_word_here", "_law_k"] []) (nb : NoB mg)
    {a__law_number : Addr} {fd__law_number : FuncData} (g__law_number : mg "_law_number" = some (.ref a__law_number)) (D__law_number : Df P w K mg base eC 1 a__law_number fd__law_number ["_law_word_here"] f__law_number)
    {a__law_kinds : Addr} {fd__law_kinds : FuncData} (g__law_kinds : mg "_law_kinds" = some (.ref a__law_kinds)) (D__law_kinds : Df P w K mg base eC 1 a__law_kinds fd__law_kinds [] f__law_kinds) :
    Df P w K mg base eC 2 f fd ["_law_word_here", "_law_k"] f__law_part := df_of F sc hb fun cdv A outer s H E hr => by
  have hr : Room 1 (A.deeper (envOfC "_law_part" (defScope N__law_part.st) s.heap.objs.size f cdv)) := hr
  exact (vss_cons (vs_if (vt_eq hr (ve_rd (pv 0)) vc_str) (vss_one (vs_ret (ve_lst (va_cons vc_non va_nil)))) vss_nil)
      (vss_cons (vs_if (vt_eq hr (ve_rd (pv 1)) vc_int) (vss_one (vs_ret (ve_lc (own := [("_law_number_here", 2)]) (SA := [2]) (g := tgN 2) rfl sc.nd (blkOk_by (own := [("_law_number_here", 2)]) (N := N) (sc := defScope st) (by decide +kernel)) (vi_seq (ve_lst (va_cons (vc_call D__law_number (hr.mono (by decide)) (takes_of rfl rfl rfl rfl) g__law_number (by rfl) (vr_cons (ve_rd (pv 0)) vr_nil)) va_nil))) (fun _ _ _ _ _ => pg_name (i := 2) sc.nd rfl (Or.inl rfl)) (tk_name (by decide)) (by decide) (fun _ _ _ _ _ => pts_one' (vt_isNotN (ve_rd (pv 2)))) (fun _ _ _ _ _ => (ve_rd (pv 2)))))) vss_nil)
      (vss_cons (vs_if (vt_eq hr (ve_rd (pv 1)) vc_int) (vss_one (vs_ret (ve_op op_repF vop_rep (ve_lst (va_cons (ve_ix ix_lt vop_ix (ve_lst (va_cons vc_bl (va_cons vc_bl va_nil))) (vc_Ty call_int1 vcl_int rfl nb.int_ Boot.«int» (va_cons (ve_eq hr (ve_rd (pv 0)) vc_str) va_nil))) va_nil)) (vc_Ty call_int1 vcl_int rfl nb.int_ Boot.«int» (va_cons (ve_in hr (ve_rd (pv 0)) (ve_tup (va_cons vc_str (va_cons vc_str va_nil)))) va_nil))))) vss_nil)
      (vss_one (vs_ret (ve_op op_repF vop_rep (ve_lst (va_cons (ve_rd (pv 0)) va_nil)) (vc_Ty call_int1 vcl_int rfl nb.int_ Boot.«int» (va_cons (ve_in hr (ve_rd (pv 0)) (ve_ix ix_lt vop_ix (ve_lst (va_cons (ve_lst va_nil) (va_cons (vc_call0 D__law_kinds (hr.mono (by decide)) (takes_of rfl rfl rfl rfl) g__law_kinds (by rfl)) (va_cons (ve_lst (va_cons vc_str (va_cons vc_str (va_cons vc_str va_nil)))) (va_cons (ve_lst va_nil) (va_cons (ve_lst (va_cons vc_str (va_cons vc_str (va_cons vc_str va_nil)))) va_nil)))))) (ve_rd (pv 1)))) va_nil))))))))
/-! ### _law_rule_of -/
namespace N__law_rule_of
abbrev st : Stmt := (top 49)
abbrev N : List Str := ["_law_line_here", "_law_words", "_law_parts", "_law_k", "_law_part_here"]
theorem sc : FnScope N ["_law_line_here"] (defScope st) := ⟨rfl, rfl, rfl, by decide +kernel, rfl, by decide +kernel, by decide +kernel⟩
def m : SM := (seqM (setM 1 (fzM (smM splitD (rd 0) (strM " "))))
  (seqM (iteM (orM (testM (opM (eqP true) (clM (one lenD) (consM (rd 1) nilM)) (intM 8))) (orM (testM (opM (eqP true) (opM ixD (rd 1) (intM 0)) (strM "rule"))) (orM (testM (opM (eqP true) (opM ixD (rd 1) (intM 6)) (strM ">"))) (testM (unM (isN false) (callM 1 [.tmp] f__law_number (consM (opM ixD (rd 1) (intM 7)) nilM))))))) (retM nonM) skipM)
  (seqM (setM 2 (lcM [3] (rngM rng1 (consM (intM 5) nilM)) (tgN 3) yesM (callM 2 [.tmp, .tmp] f__law_part (consM (opM ixD (rd 1) (opM addD (rd 3) (intM 1))) (consM (rd 3) nilM)))))
  (seqM (iteM (testM (inPM false (clM lstD nilM) 2 [])) (retM nonM) skipM)
  (retM (opM addD (clM (one toTupD) (consM (lcM [4] (itM (fzv 2)) (tgN 4) yesM (opM ixD (rd 4) (intM 0))) nilM)) (clM tupD (consM (callM 1 [.tmp] f__law_number (consM (opM ixD (rd 1) (intM 7)) nilM)) nilM))))))))
end N__law_rule_of
def f__law_rule_of : FM := fnM 1 5 [1, 2] N__law_rule_of.m
open N__law_rule_of in
theorem d__law_rule_of {f : Addr} {fd : FuncData} (F : Fun K "_law_rule_of" "_law_rule_of" N__law_rule_of.st f fd) (hb : Binds K fd ["_law_line_here"] []) (nb : NoB mg)
    {a__law_number : Addr} {fd__law_number : FuncData} (g__law_number : mg "_law_number" = some (.ref a__law_number)) (D__law_number : Df P w K mg base eC 1 a__law_number fd__law_number ["_law_word_here"] f__law_number)
    {a__law_part : Addr} {fd__law_part : FuncData} (g__law_part : mg "_law_part" = some (.ref a__law_part)) (D__law_part : Df P w K mg base eC 2 a__law_part fd__law_part ["_law_word_here", "_law_k"] f__law_part) :
    Df P w K mg base eC 3 f fd ["_law_line_here"] f__law_rule_of := df_of F sc hb fun cdv A outer s H E hr => by
  have hr : Room 2 (A.deeper (envOfC "_law_rule_of" (defScope N__law_rule_of.st) s.heap.objs.size f cdv)) := hr
  exact (vss_cons (vs_set (i := 1) (by decide) (ve_fzM (ve_split (ve_rd (pv 0)) vc_str)) sc.nd rfl (by first | exact Or.inl rfl | exact Or.inr rfl))
      (vss_cons (vs_if (vt_w (vw_or (vt_ne hr (vc_B call_len vcl_len rfl nb.len_ Boot.«len» (va_cons (ve_rd (pv 1)) va_nil)) vc_int) (vw_or (vt_ne hr (ve_ix ix_lt vop_ix (ve_rd (pv 1)) vc_int) vc_str) (vw_or (vt_ne hr (ve_ix ix_lt vop_ix (ve_rd (pv 1)) vc_int) vc_str) (vw_or1 (vt_isN (vc_call D__law_number (hr.mono (by decide)) (takes_of rfl rfl rfl rfl) g__law_number (by rfl) (vr_cons (ve_ix ix_lt vop_ix (ve_rd (pv 1)) vc_int) vr_nil)))))))) (vss_one (vs_ret vc_non)) vss_nil)
      (vss_cons (vs_setLc (i := 2) (by decide) (own := [("_law_k", 3)]) (SA := [3]) (g := tgN 3) rfl sc.nd rfl rfl (sw_true rfl rfl rfl (by decide +kernel)) (blkOk_by (own := [("_law_k", 3)]) (N := N) (sc := defScope st) (by decide +kernel)) (vi_range1 rfl nb.range_ (va_cons vc_int va_nil)) (fun _ _ _ _ _ => pg_name (i := 3) sc.nd rfl (Or.inl rfl)) (tk_name (by decide)) (by decide) (fun _ _ _ _ _ => pts_yes') (fun _ _ _ _ _ => (vc_call D__law_part (hr.mono (by decide)) takes0 g__law_part (by rfl) (vr_cons (ve_ix ix_lt vop_ix (ve_rd (pv 1)) (ve_op op_addR vop_add (ve_rd (pv 3)) vc_int)) (vr_cons (ve_rd (pv 3)) vr_nil)))))
      (vss_cons (vs_if (vt_inP hr (ve_lst va_nil) (vp_var (pv 2))) (vss_one (vs_ret vc_non)) vss_nil)
      (vss_one (vs_ret (ve_op op_addR vop_add (vc_Ty call_tuple_of vcl_tuple rfl nb.tuple_ Boot.«tuple» (va_cons (ve_lc (own := [("_law_part_here", 4)]) (SA := [4]) (g := tgN 4) rfl sc.nd (blkOk_by (own := [("_law_part_here", 4)]) (N := N) (sc := defScope st) (by decide +kernel)) (vi_seq (ve_fz (pv 2))) (fun _ _ _ _ _ => pg_name (i := 4) sc.nd rfl (Or.inl rfl)) (tk_name (by decide)) (by decide) (fun _ _ _ _ _ => pts_yes') (fun _ _ _ _ _ => (ve_ix ix_lt vop_ix (ve_rd (pv 4)) vc_int))) va_nil)) (ve_tup (va_cons (vc_call D__law_number (hr.mono (by decide)) (takes_of rfl rfl rfl rfl) g__law_number (by rfl) (vr_cons (ve_ix ix_lt vop_ix (ve_rd (pv 1)) vc_int) vr_nil)) va_nil)))))))))
/-! ### _law_line -/
namespace N__law_line
abbrev st : Stmt := (top 50)
abbrev N : List Str := ["_law_state", "_law_line_here", "_law_words", "_law_rule_here", "_law_word_here"]
theorem sc : FnScope N ["_law_state", "_law_line_here"] (defScope st) := ⟨rfl, rfl, rfl, by decide +kernel, rfl, by decide +kernel, by decide +kernel⟩
def m : SM := (seqM (setM 2 (fzM (smM splitD (rd 1) (strM " "))))
  (seqM (iteM (testM (unM (isN false) (rdP 0 [Stp.ix 0]))) (seqM (iteM (orM (testM (opM (eqP true) (clM (one lenD) (consM (rd 2) nilM)) (intM 2))) (orM (testM (opM (eqP true) (opM ixD (rd 2) (intM 0)) (strM "states"))) (testM (unM (isN false) (callM 1 [.tmp] f__law_number (consM (opM ixD (rd 2) (intM 1)) nilM)))))) (retM (blM false)) skipM)
  (seqM (ixSt 0 [] (fzM (callM 1 [.tmp] f__law_number (consM (opM ixD (rd 2) (intM 1)) nilM))) (intM 0))
  (retM (blM true)))) skipM)
  (seqM (iteM (testM (unM (isN false) (rdP 0 [Stp.ix 1]))) (seqM (iteM (orM (testM (opM (eqP true) (opM ixD (rd 2) (intM 0)) (strM "on"))) (testM (opM gtD (clM (one lenD) (consM (lcM [4] (itM (slM (rd 2) (partM (intM 1)) (fun ρ => .ok none ρ))) (tgN 4) (testM (unM (isN false) (callM 1 [.tmp] f__law_number (consM (rd 4) nilM)))) (rd 4)) nilM)) (intM 0)))) (retM (blM false)) skipM)
  (seqM (ixSt 0 [] (fzM (lcM [4] (itM (slM (rd 2) (partM (intM 1)) (fun ρ => .ok none ρ))) (tgN 4) yesM (callM 1 [.tmp] f__law_number (consM (rd 4) nilM)))) (intM 1))
  (retM (blM true)))) skipM)
  (seqM (setM 3 (fzM (callM 1 [.tmp] f__law_rule_of (consM (rd 1) nilM))))
  (seqM (iteM (testM (unM (isN true) (rd 3))) (dropM (lmM 0 [Stp.ix 2] appF (consM (rd 3) nilM))) skipM)
  (retM (unM (isN true) (rd 3))))))))
end N__law_line
def f__law_line : FM := fnM 2 5 [2, 3] N__law_line.m
open N__law_line in
theorem d__law_line {f : Addr} {fd : FuncData} (F : Fun K "_law_line" "_law_line" N__law_line.st f fd) (hb : Binds K fd ["_law_state", "_law_line_here"] []) (nb : NoB mg)
    {a__law_number : Addr} {fd__law_number : FuncData} (g__law_number : mg "_law_number" = some (.ref a__law_number)) (D__law_number : Df P w K mg base eC 1 a__law_number fd__law_number ["_law_word_here"] f__law_number)
    {a__law_rule_of : Addr} {fd__law_rule_of : FuncData} (g__law_rule_of : mg "_law_rule_of" = some (.ref a__law_rule_of)) (D__law_rule_of : Df P w K mg base eC 3 a__law_rule_of fd__law_rule_of ["_law_line_here"] f__law_rule_of) :
    Df P w K mg base eC 4 f fd ["_law_state", "_law_line_here"] f__law_line := df_of F sc hb fun cdv A outer s H E hr => by
  have hr : Room 3 (A.deeper (envOfC "_law_line" (defScope N__law_line.st) s.heap.objs.size f cdv)) := hr
  exact (vss_cons (vs_set (i := 2) (by decide) (ve_fzM (ve_split (ve_rd (pv 1)) vc_str)) sc.nd rfl (by first | exact Or.inl rfl | exact Or.inr rfl))
      (vss_cons (vs_if (vt_isN (ve_rdP (vp_ix (k := 0) (vp_var (pv 0))))) (vss_cons (vs_if (vt_w (vw_or (vt_ne hr (vc_B call_len vcl_len rfl nb.len_ Boot.«len» (va_cons (ve_rd (pv 2)) va_nil)) vc_int) (vw_or (vt_ne hr (ve_ix ix_lt vop_ix (ve_rd (pv 2)) vc_int) vc_str) (vw_or1 (vt_isN (vc_call D__law_number (hr.mono (by decide)) (takes_of rfl rfl rfl rfl) g__law_number (by rfl) (vr_cons (ve_ix ix_lt vop_ix (ve_rd (pv 2)) vc_int) vr_nil))))))) (vss_one (vs_ret vc_bl)) vss_nil)
      (vss_cons (vs_ix (vp_var (pv 0)) (ve_fzM (vc_call D__law_number (hr.mono (by decide)) (takes_of rfl rfl rfl rfl) g__law_number (by rfl) (vr_cons (ve_ix ix_lt vop_ix (ve_rd (pv 2)) vc_int) vr_nil))) vc_int (by decide))
      (vss_one (vs_ret vc_bl)))) vss_nil)
      (vss_cons (vs_if (vt_isN (ve_rdP (vp_ix (k := 1) (vp_var (pv 0))))) (vss_cons (vs_if (vt_w (vw_or (vt_ne hr (ve_ix ix_lt vop_ix (ve_rd (pv 2)) vc_int) vc_str) (vw_or1 (vt_cmp op_gt vop_b0 (vc_B call_len vcl_len rfl nb.len_ Boot.«len» (va_cons (ve_lc (own := [("_law_word_here", 4)]) (SA := [4]) (g := tgN 4) rfl sc.nd (blkOk_by (own := [("_law_word_here", 4)]) (N := N) (sc := defScope st) (by decide +kernel)) (vi_seq (ve_sl (ve_rd (pv 2)) (vpt_some vc_int) vpt_none)) (fun _ _ _ _ _ => pg_name (i := 4) sc.nd rfl (Or.inl rfl)) (tk_name (by decide)) (by decide) (fun _ _ _ _ _ => pts_one' (vt_isN (vc_call D__law_number (hr.mono (by decide)) takes0 g__law_number (by rfl) (vr_cons (ve_rd (pv 4)) vr_nil)))) (fun _ _ _ _ _ => (ve_rd (pv 4)))) va_nil)) vc_int)))) (vss_one (vs_ret vc_bl)) vss_nil)
      (vss_cons (vs_ix (vp_var (pv 0)) (ve_fzM (ve_lc (own := [("_law_word_here", 4)]) (SA := [4]) (g := tgN 4) rfl sc.nd (blkOk_by (own := [("_law_word_here", 4)]) (N := N) (sc := defScope st) (by decide +kernel)) (vi_seq (ve_sl (ve_rd (pv 2)) (vpt_some vc_int) vpt_none)) (fun _ _ _ _ _ => pg_name (i := 4) sc.nd rfl (Or.inl rfl)) (tk_name (by decide)) (by decide) (fun _ _ _ _ _ => pts_yes') (fun _ _ _ _ _ => (vc_call D__law_number (hr.mono (by decide)) takes0 g__law_number (by rfl) (vr_cons (ve_rd (pv 4)) vr_nil))))) vc_int (by decide))
      (vss_one (vs_ret vc_bl)))) vss_nil)
      (vss_cons (vs_set (i := 3) (by decide) (ve_fzM (vc_call D__law_rule_of (hr.mono (by decide)) (takes_of rfl rfl rfl rfl) g__law_rule_of (by rfl) (vr_cons (ve_rd (pv 1)) vr_nil))) sc.nd rfl (by first | exact Or.inl rfl | exact Or.inr rfl))
      (vss_cons (vs_if (vt_isNotN (ve_rd (pv 3))) (vss_one (vs_expr (ve_append (vp_ix (k := 2) (vp_var (pv 0))) (va_cons (ve_rd (pv 3)) va_nil) (by decide)))) vss_nil)
      (vss_one (vs_ret (ve_isNotN (ve_rd (pv 3))))))))))
/-! ### _law_due -/
namespace N__law_due
abbrev st : Stmt := (top 51)
abbrev N : List Str := ["_law_text_here", "_law_lines", "_law_state", "_law_k", "e"]
theorem sc : FnScope N ["_law_text_here"] (defScope st) := ⟨rfl, rfl, rfl, by decide +kernel, rfl, by decide +kernel, by decide +kernel⟩
def m : SM := (seqM (setM 1 (fzM (smM splitD (rd 0) (strM "
"))))
  (seqM (setM 2 (clM lstD (consM nonM (consM nonM (consM (clM lstD nilM) nilM)))))
  (seqM (forS (rngM rng1 (consM (clM (one lenD) (consM (rd 1) nilM)) nilM)) (tgN 3) (iteM (orM (testM (opM ltD (rd 3) (opM subD (clM (one lenD) (consM (rd 1) nilM)) (intM 1)))) (testM (opM (eqP true) (opM ixD (rd 1) (rd 3)) (strM "")))) (iteM (notM (testM (callM 2 [.plc 2 [], .tmp] f__law_line (plcM 2 [] (consM (opM ixD (rd 1) (rd 3)) nilM))))) (retM (opM addD (strM "line ") (clM (one strX) (consM (rd 3) nilM)))) skipM) skipM))
  (seqM (iteM (orM (testM (opM (eqP true) (opM ixD (rd 1) (unM negD (intM 1))) (strM ""))) (testM (unM (isN false) (rdP 2 [Stp.ix 1])))) (retM (opM addD (strM "line ") (clM (one strX) (consM (opM subD (clM (one lenD) (consM (rd 1) nilM)) (intM 1)) nilM)))) skipM)
  (seqM (iteM (testM (opM gtD (clM (one lenD) (consM (lcM [3] (rngM rng1 (consM (opM subD (lenP 2 [Stp.ix 1]) (intM 1)) nilM)) (tgN 3) (testM (opM geD (opM ixD (rdP 2 [Stp.ix 1]) (rd 3)) (opM ixD (rdP 2 [Stp.ix 1]) (opM addD (rd 3) (intM 1))))) (rd 3)) nilM)) (intM 0))) (retM (strM "no listener")) skipM)
  (seqM (tryM 4 (dropM (newM 4 "Listener" [.tmp, .tmp, .tmp] f_Listener___init__ (consM (rdP 2 [Stp.ix 0]) (consM (fzM (clM (one toLstD) (consM (rdP 2 [Stp.ix 1]) nilM))) (consM (fzM (clM (one toLstD) (consM (fzP 2 [Stp.ix 2]) nilM))) nilM))))))
  (retM (mv 2))))))))
end N__law_due
def f__law_due : FM := fnM 1 5 [1, 2, 3] N__law_due.m
open N__law_due in
theorem d__law_due {f : Addr} {fd : FuncData} (F : Fun K "_law_due" "_law_due" N__law_due.st f fd) (hb : Binds K fd ["_law_text_here"] []) (nb : NoB mg)
    (dg : DgTxt P K mg eC fI)
    {a_Listener : Addr} (g_Listener : mg "Listener" = some (.ref a_Listener))
    {a__law_line : Addr} {fd__law_line : FuncData} (g__law_line : mg "_law_line" = some (.ref a__law_line)) (D__law_line : Df P w K mg base eC 4 a__law_line fd__law_line ["_law_state", "_law_line_here"] f__law_line)
    {a_Listener___init__ : Addr} {fd_Listener___init__ : FuncData} (mk_Listener : Mk K a_Listener a_Listener___init__) (D_Listener___init__ : Df P w K mg base eC 4 a_Listener___init__ fd_Listener___init__ ["self", "states", "on", "rules"] f_Listener___init__) :
    Df P w K mg base eC 6 f fd ["_law_text_here"] f__law_due := df_of F sc hb fun cdv A outer s H E hr => by
  have hr : Room 5 (A.deeper (envOfC "_law_due" (defScope N__law_due.st) s.heap.objs.size f cdv)) := hr
  exact (vss_cons (vs_set (i := 1) (by decide) (ve_fzM (ve_split (ve_rd (pv 0)) vc_str)) sc.nd rfl (by first | exact Or.inl rfl | exact Or.inr rfl))
      (vss_cons (vs_set (i := 2) (by decide) (ve_lst (va_cons vc_non (va_cons vc_non (va_cons (ve_lst va_nil) va_nil)))) sc.nd rfl (by first | exact Or.inl rfl | exact Or.inr rfl))
      (vss_cons (vs_for (passes_of rfl) rfl (vi_range1 rfl nb.range_ (va_cons (vc_B call_len vcl_len rfl nb.len_ Boot.«len» (va_cons (ve_rd (pv 1)) va_nil)) va_nil)) (vg_name (i := 3) (by decide) sc.nd rfl (by first | exact Or.inl rfl | exact Or.inr rfl)) (vss_one (vs_if (vt_w (vw_or (vt_cmp op_lt vop_b0 (ve_rd (pv 3)) (ve_op op_sub vop_i0 (vc_B call_len vcl_len rfl nb.len_ Boot.«len» (va_cons (ve_rd (pv 1)) va_nil)) vc_int)) (vw_or1 (vt_ne hr (ve_ix ix_lt vop_ix (ve_rd (pv 1)) (ve_rd (pv 3))) vc_str)))) (vss_one (vs_if (vt_not (vt_val (vc_call D__law_line (hr.mono (by decide)) (takes_of rfl rfl rfl rfl) g__law_line (by rfl) (vr_plc (vp_var (pv 2)) (vr_cons (ve_ix ix_lt vop_ix (ve_rd (pv 1)) (ve_rd (pv 3))) vr_nil))))) (vss_one (vs_ret (ve_op op_addR vop_add vc_str (vc_Ty call_strX vcl_strX rfl nb.str_ Boot.«str» (va_cons (ve_rd (pv 3)) va_nil))))) vss_nil)) vss_nil)))
      (vss_cons (vs_if (vt_w (vw_or (vt_ne hr (ve_ix ix_lt vop_ix (ve_rd (pv 1)) (ve_un un_neg vun_neg vc_int)) vc_str) (vw_or1 (vt_isN (ve_rdP (vp_ix (k := 1) (vp_var (pv 2)))))))) (vss_one (vs_ret (ve_op op_addR vop_add vc_str (vc_Ty call_strX vcl_strX rfl nb.str_ Boot.«str» (va_cons (ve_op op_sub vop_i0 (vc_B call_len vcl_len rfl nb.len_ Boot.«len» (va_cons (ve_rd (pv 1)) va_nil)) vc_int) va_nil))))) vss_nil)
      (vss_cons (vs_if (vt_cmp op_gt vop_b0 (vc_B call_len vcl_len rfl nb.len_ Boot.«len» (va_cons (ve_lc (own := [("_law_k", 3)]) (SA := [3]) (g := tgN 3) rfl sc.nd (blkOk_by (own := [("_law_k", 3)]) (N := N) (sc := defScope st) (by decide +kernel)) (vi_range1 rfl nb.range_ (va_cons (ve_op op_sub vop_i0 (vc_lenP (vp_ix (k := 1) (vp_var (pv 2))) rfl nb.len_) vc_int) va_nil)) (fun _ _ _ _ _ => pg_name (i := 3) sc.nd rfl (Or.inl rfl)) (tk_name (by decide)) (by decide) (fun _ _ _ _ _ => pts_one' (vt_cmp op_ge vop_b0 (ve_ix ix_lt vop_ix (ve_rdP (vp_ix (k := 1) (vp_var (pv 2)))) (ve_rd (pv 3))) (ve_ix ix_lt vop_ix (ve_rdP (vp_ix (k := 1) (vp_var (pv 2)))) (ve_op op_addR vop_add (ve_rd (pv 3)) vc_int)))) (fun _ _ _ _ _ => (ve_rd (pv 3)))) va_nil)) vc_int) (vss_one (vs_ret vc_str)) vss_nil)
      (vss_cons (vs_try (i := 4) dg rfl rfl sc.nd rfl rfl ⟨rfl, by decide, Or.inl dg.gC⟩ (takes_of rfl rfl rfl rfl) (fun _ _ => pv 4) (fun W pn xe tk _ => (vss_one (vs_expr (vc_new mk_Listener D_Listener___init__ (hr.mono (by decide)) tk g_Listener (by rfl) (vr_cons (ve_rdP (vp_ix (k := 0) (vp_var (pv 2)))) (vr_cons (ve_fzM (vc_Ty call_list_of vcl_list rfl nb.list_ Boot.«list» (va_cons (ve_rdP (vp_ix (k := 1) (vp_var (pv 2)))) va_nil))) (vr_cons (ve_fzM (vc_Ty call_list_of vcl_list rfl nb.list_ Boot.«list» (va_cons (ve_fzP (vp_ix (k := 2) (vp_var (pv 2)))) va_nil))) vr_nil))))))))
      (vss_one (vs_ret (ve_mv (pv 2))))))))))
/-! ### _law_told -/
namespace N__law_told
abbrev st : Stmt := (top 52)
abbrev N : List Str := ["_law_text_here", "e", "_law_told_here"]
theorem sc : FnScope N ["_law_text_here"] (defScope st) := ⟨rfl, rfl, rfl, by decide +kernel, rfl, by decide +kernel, by decide +kernel⟩
def m : SM := (seqM (tryM 1 (setM 2 (fzM (callM 1 [.tmp] f_read_listener (consM (rd 0) nilM)))))
  (retM (clM lstD (consM (rdP 2 [Stp.fld "Listener" "states"]) (consM (rdP 2 [Stp.fld "Listener" "on"]) (consM (rdP 2 [Stp.fld "Listener" "rules"]) nilM))))))
end N__law_told
def f__law_told : FM := fnM 1 3 [2] N__law_told.m
open N__law_told in
theorem d__law_told {f : Addr} {fd : FuncData} (F : Fun K "_law_told" "_law_told" N__law_told.st f fd) (hb : Binds K fd ["_law_text_here"] []) (dg : DgTxt P K mg eC fI)
    (fc_Listener_on : ∀ C, mg "Listener" = some (.ref C) → Cls K C ∧ NoAttr K C "on")
    (fc_Listener_rules : ∀ C, mg "Listener" = some (.ref C) → Cls K C ∧ NoAttr K C "rules")
    (fc_Listener_states : ∀ C, mg "Listener" = some (.ref C) → Cls K C ∧ NoAttr K C "states")
    {a_read_listener : Addr} {fd_read_listener : FuncData} (g_read_listener : mg "read_listener" = some (.ref a_read_listener)) (D_read_listener : Df P w K mg base eC 6 a_read_listener fd_read_listener ["text"] f_read_listener) :
    Df P w K mg base eC 7 f fd ["_law_text_here"] f__law_told := df_of F sc hb fun cdv A outer s H E hr => by
  have hr : Room 6 (A.deeper (envOfC "_law_told" (defScope N__law_told.st) s.heap.objs.size f cdv)) := hr
  exact (vss_cons (vs_try (i := 1) dg rfl rfl sc.nd rfl rfl ⟨rfl, by decide, Or.inl dg.gC⟩ (takes_of rfl rfl rfl rfl) (fun _ _ => pv 1) (fun W pn xe tk _ => (vss_one (vs_set (i := 2) (by decide) (ve_fzM (vc_call D_read_listener (hr.mono (by decide)) tk g_read_listener (by rfl) (vr_cons (ve_rd (pv 0)) vr_nil))) sc.nd rfl (by first | exact Or.inl rfl | exact Or.inr rfl)))))
      (vss_one (vs_ret (ve_lst (va_cons (ve_rdP (vp_fld (c := "Listener") (vp_var (pv 2)) (fc_Listener_states))) (va_cons (ve_rdP (vp_fld (c := "Listener") (vp_var (pv 2)) (fc_Listener_on))) (va_cons (ve_rdP (vp_fld (c := "Listener") (vp_var (pv 2)) (fc_Listener_rules))) va_nil)))))))
/-! ### _law_changed -/
namespace N__law_changed
abbrev st : Stmt := (top 53)
abbrev N : List Str := ["_law_box", "_law_text_here", "_law_at", "_law_signs", "_law_sign", "_law_kind"]
theorem sc : FnScope N ["_law_box", "_law_text_here"] (defScope st) := ⟨rfl, rfl, rfl, by decide +kernel, rfl, by decide +kernel, by decide +kernel⟩
def m : SM := (seqM (setM 2 (opM modD (clM (one intD) (consM (callM 2 [.plc 0 [], .tmp] f__law_draw (plcM 0 [] (consM (intM 840) nilM))) nilM)) (opM addD (clM (one lenD) (consM (rd 1) nilM)) (intM 1))))
  (seqM (setM 3 (fzM (clM lstD (consM (strM "1") (consM (strM "0") (consM (strM " ") (consM (strM "*") (consM (strM ">") (consM (strM "
") (consM (strM "on") (consM (strM "yes") (consM (strM "no ") (consM (strM "rule ") (consM (strM "outside") (consM (strM " zone") (consM (strM "none") (consM (strM "states 2
") (consM (strM "x") (consM (strM "-") (consM (strM "7") (consM (strM "  ") (consM (strM "enter") (consM (strM "on
") nilM)))))))))))))))))))))))
  (seqM (setM 4 (opM ixD (rd 3) (callM 2 [.plc 0 [], .tmp] f__law_draw (plcM 0 [] (consM (intM 20) nilM)))))
  (seqM (setM 5 (fzM (callM 2 [.plc 0 [], .tmp] f__law_draw (plcM 0 [] (consM (intM 3) nilM)))))
  (seqM (iteM (testM (opM (eqP false) (rd 5) (intM 0))) (retM (opM addD (opM addD (slSM (rd 1) (fun ρ => .ok none ρ) (partM (rd 2))) (rd 4)) (slSM (rd 1) (partM (rd 2)) (fun ρ => .ok none ρ)))) skipM)
  (seqM (iteM (testM (opM (eqP false) (rd 5) (intM 1))) (retM (opM addD (slSM (rd 1) (fun ρ => .ok none ρ) (partM (rd 2))) (slSM (rd 1) (partM (opM addD (rd 2) (intM 1))) (fun ρ => .ok none ρ)))) skipM)
  (retM (opM addD (opM addD (slSM (rd 1) (fun ρ => .ok none ρ) (partM (rd 2))) (rd 4)) (slSM (rd 1) (partM (opM addD (rd 2) (intM 1))) (fun ρ => .ok none ρ))))))))))
end N__law_changed
def f__law_changed : FM := fnM 2 6 [2, 3, 4, 5] N__law_changed.m
open N__law_changed in
theorem d__law_changed {f : Addr} {fd : FuncData} (F : Fun K "_law_changed" "_law_changed" N__law_changed.st f fd) (hb : Binds K fd ["_law_box", "_law_text_here"] []) (nb : NoB mg)
    {a__law_draw : Addr} {fd__law_draw : FuncData} (g__law_draw : mg "_law_draw" = some (.ref a__law_draw)) (D__law_draw : Df P w K mg base eC 1 a__law_draw fd__law_draw ["_law_box", "_law_many"] f__law_draw) :
    Df P w K mg base eC 2 f fd ["_law_box", "_law_text_here"] f__law_changed := df_of F sc hb fun cdv A outer s H E hr => by
  have hr : Room 1 (A.deeper (envOfC "_law_changed" (defScope N__law_changed.st) s.heap.objs.size f cdv)) := hr
  exact (vss_cons (vs_set (i := 2) (by decide) (ve_op op_mod vop_i (vc_Ty call_int1 vcl_int rfl nb.int_ Boot.«int» (va_cons (vc_call D__law_draw (hr.mono (by decide)) (takes_of rfl rfl rfl rfl) g__law_draw (by rfl) (vr_plc (vp_var (pv 0)) (vr_cons vc_int vr_nil))) va_nil)) (ve_op op_addR vop_add (vc_B call_len vcl_len rfl nb.len_ Boot.«len» (va_cons (ve_rd (pv 1)) va_nil)) vc_int)) sc.nd rfl (by first | exact Or.inl rfl | exact Or.inr rfl))
      (vss_cons (vs_set (i := 3) (by decide) (ve_fzM (ve_lst (va_cons vc_str (va_cons vc_str (va_cons vc_str (va_cons vc_str (va_cons vc_str (va_cons vc_str (va_cons vc_str (va_cons vc_str (va_cons vc_str (va_cons vc_str (va_cons vc_str (va_cons vc_str (va_cons vc_str (va_cons vc_str (va_cons vc_str (va_cons vc_str (va_cons vc_str (va_cons vc_str (va_cons vc_str (va_cons vc_str va_nil)))))))))))))))))))))) sc.nd rfl (by first | exact Or.inl rfl | exact Or.inr rfl))
      (vss_cons (vs_set (i := 4) (by decide) (ve_ix ix_lt vop_ix (ve_rd (pv 3)) (vc_call D__law_draw (hr.mono (by decide)) (takes_of rfl rfl rfl rfl) g__law_draw (by rfl) (vr_plc (vp_var (pv 0)) (vr_cons vc_int vr_nil)))) sc.nd rfl (by first | exact Or.inl rfl | exact Or.inr rfl))
      (vss_cons (vs_set (i := 5) (by decide) (ve_fzM (vc_call D__law_draw (hr.mono (by decide)) (takes_of rfl rfl rfl rfl) g__law_draw (by rfl) (vr_plc (vp_var (pv 0)) (vr_cons vc_int vr_nil)))) sc.nd rfl (by first | exact Or.inl rfl | exact Or.inr rfl))
      (vss_cons (vs_if (vt_eq hr (ve_rd (pv 5)) vc_int) (vss_one (vs_ret (ve_op op_addR vop_add (ve_op op_addR vop_add (ve_slS (ve_rd (pv 1)) vpt_none (vpt_some (ve_rd (pv 2)))) (ve_rd (pv 4))) (ve_slS (ve_rd (pv 1)) (vpt_some (ve_rd (pv 2))) vpt_none)))) vss_nil)
      (vss_cons (vs_if (vt_eq hr (ve_rd (pv 5)) vc_int) (vss_one (vs_ret (ve_op op_addR vop_add (ve_slS (ve_rd (pv 1)) vpt_none (vpt_some (ve_rd (pv 2)))) (ve_slS (ve_rd (pv 1)) (vpt_some (ve_op op_addR vop_add (ve_rd (pv 2)) vc_int)) vpt_none)))) vss_nil)
      (vss_one (vs_ret (ve_op op_addR vop_add (ve_op op_addR vop_add (ve_slS (ve_rd (pv 1)) vpt_none (vpt_some (ve_rd (pv 2)))) (ve_rd (pv 4))) (ve_slS (ve_rd (pv 1)) (vpt_some (ve_op op_addR vop_add (ve_rd (pv 2)) vc_int)) vpt_none))))))))))
/-! ### law -/
namespace N_law
abbrev st : Stmt := (top 54)
abbrev N : List Str := ["_law_script", "_law_box", "_law_turn", "_law_listener_here", "_law_text_here", "_law_change", "_law_other"]
theorem sc : FnScope N ["_law_script"] (defScope st) := ⟨rfl, rfl, rfl, by decide +kernel, rfl, by decide +kernel, by decide +kernel⟩
def m : SM := (seqM (setM 1 (clM lstD (consM (fzM (callM 3 [.tmp, .tmp, .tmp] f__law_row (consM (rd 0) (consM (intM 0) (consM (intM 63) nilM))))) (consM (intM 0) nilM))))
  (seqM (forS (rngM rng1 (consM (intM 3) nilM)) (tgN 2) (seqM (setM 3 (fzM (callM 2 [.plc 1 [], .tmp] f__law_listener (plcM 1 [] (consM (intM 6) nilM)))))
  (seqM (setM 4 (fzM (callM 1 [.tmp] f__law_text (consM (rd 3) nilM))))
  (seqM (iteM (orM (testM (opM (eqP true) (callM 1 [.tmp] f_text_of (consM (fzM (callM 1 [.tmp] f__law_listening (consM (rd 3) nilM))) nilM)) (rd 4))) (testM (opM (eqP true) (callM 1 [.tmp] f__law_told (consM (rd 4) nilM)) (rd 3)))) (retM (blM false)) skipM)
  (forS (rngM rng1 (consM (intM 6) nilM)) (tgN 5) (seqM (setM 6 (fzM (callM 2 [.plc 1 [], .tmp] f__law_changed (plcM 1 [] (consM (rd 4) nilM)))))
  (seqM (iteM (testM (opM (eqP true) (callM 1 [.tmp] f__law_told (consM (rd 6) nilM)) (callM 1 [.tmp] f__law_due (consM (rd 6) nilM)))) (retM (blM false)) skipM)
  (iteM (testM (opM (eqP false) (callM 2 [.plc 1 [], .tmp] f__law_draw (plcM 1 [] (consM (intM 2) nilM))) (intM 0))) (setM 4 (rd 6)) skipM))))))))
  (retM (opM (eqP false) (callM 1 [.tmp] f__law_told (consM (strM "") nilM)) (strM "line 0")))))
end N_law
def f_law : FM := fnM 1 7 [1, 2, 3, 4, 5, 6] N_law.m
open N_law in
theorem d_law {f : Addr} {fd : FuncData} (F : Fun K "law" "law" N_law.st f fd) (hb : Binds K fd ["_law_script"] []) (nb : NoB mg)
    {a__law_row : Addr} {fd__law_row : FuncData} (g__law_row : mg "_law_row" = some (.ref a__law_row)) (D__law_row : Df P w K mg base eC 2 a__law_row fd__law_row ["_law_script", "_law_first", "_law_last"] f__law_row)
    {a__law_listener : Addr} {fd__law_listener : FuncData} (g__law_listener : mg "_law_listener" = some (.ref a__law_listener)) (D__law_listener : Df P w K mg base eC 3 a__law_listener fd__law_listener ["_law_box", "_law_most"] f__law_listener)
    {a__law_text : Addr} {fd__law_text : FuncData} (g__law_text : mg "_law_text" = some (.ref a__law_text)) (D__law_text : Df P w K mg base eC 2 a__law_text fd__law_text ["_law_listener_here"] f__law_text)
    {a_text_of : Addr} {fd_text_of : FuncData} (g_text_of : mg "text_of" = some (.ref a_text_of)) (D_text_of : Df P w K mg base eC 2 a_text_of fd_text_of ["listener"] f_text_of)
    {a__law_listening : Addr} {fd__law_listening : FuncData} (g__law_listening : mg "_law_listening" = some (.ref a__law_listening)) (D__law_listening : Df P w K mg base eC 6 a__law_listening fd__law_listening ["_law_told_here"] f__law_listening)
    {a__law_told : Addr} {fd__law_told : FuncData} (g__law_told : mg "_law_told" = some (.ref a__law_told)) (D__law_told : Df P w K mg base eC 7 a__law_told fd__law_told ["_law_text_here"] f__law_told)
    {a__law_changed : Addr} {fd__law_changed : FuncData} (g__law_changed : mg "_law_changed" = some (.ref a__law_changed)) (D__law_changed : Df P w K mg base eC 2 a__law_changed fd__law_changed ["_law_box", "_law_text_here"] f__law_changed)
    {a__law_due : Addr} {fd__law_due : FuncData} (g__law_due : mg "_law_due" = some (.ref a__law_due)) (D__law_due : Df P w K mg base eC 6 a__law_due fd__law_due ["_law_text_here"] f__law_due)
    {a__law_draw : Addr} {fd__law_draw : FuncData} (g__law_draw : mg "_law_draw" = some (.ref a__law_draw)) (D__law_draw : Df P w K mg base eC 1 a__law_draw fd__law_draw ["_law_box", "_law_many"] f__law_draw) :
    Df P w K mg base eC 8 f fd ["_law_script"] f_law := df_of F sc hb fun cdv A outer s H E hr => by
  have hr : Room 7 (A.deeper (envOfC "law" (defScope N_law.st) s.heap.objs.size f cdv)) := hr
  exact (vss_cons (vs_set (i := 1) (by decide) (ve_lst (va_cons (ve_fzM (vc_call D__law_row (hr.mono (by decide)) (takes_of rfl rfl rfl rfl) g__law_row (by rfl) (vr_cons (ve_rd (pv 0)) (vr_cons vc_int (vr_cons vc_int vr_nil))))) (va_cons vc_int va_nil))) sc.nd rfl (by first | exact Or.inl rfl | exact Or.inr rfl))
      (vss_cons (vs_for (passes_of rfl) rfl (vi_range1 rfl nb.range_ (va_cons vc_int va_nil)) (vg_name (i := 2) (by decide) sc.nd rfl (by first | exact Or.inl rfl | exact Or.inr rfl)) (vss_cons (vs_set (i := 3) (by decide) (ve_fzM (vc_call D__law_listener (hr.mono (by decide)) (takes_of rfl rfl rfl rfl) g__law_listener (by rfl) (vr_plc (vp_var (pv 1)) (vr_cons vc_int vr_nil)))) sc.nd rfl (by first | exact Or.inl rfl | exact Or.inr rfl))
      (vss_cons (vs_set (i := 4) (by decide) (ve_fzM (vc_call D__law_text (hr.mono (by decide)) (takes_of rfl rfl rfl rfl) g__law_text (by rfl) (vr_cons (ve_rd (pv 3)) vr_nil))) sc.nd rfl (by first | exact Or.inl rfl | exact Or.inr rfl))
      (vss_cons (vs_if (vt_w (vw_or (vt_ne hr (vc_call D_text_of (hr.mono (by decide)) (takes_of rfl rfl rfl rfl) g_text_of (by rfl) (vr_cons (ve_fzM (vc_call D__law_listening (hr.mono (by decide)) (takes_of rfl rfl rfl rfl) g__law_listening (by rfl) (vr_cons (ve_rd (pv 3)) vr_nil))) vr_nil)) (ve_rd (pv 4))) (vw_or1 (vt_ne hr (vc_call D__law_told (hr.mono (by decide)) (takes_of rfl rfl rfl rfl) g__law_told (by rfl) (vr_cons (ve_rd (pv 4)) vr_nil)) (ve_rd (pv 3)))))) (vss_one (vs_ret vc_bl)) vss_nil)
      (vss_one (vs_for (passes_of rfl) rfl (vi_range1 rfl nb.range_ (va_cons vc_int va_nil)) (vg_name (i := 5) (by decide) sc.nd rfl (by first | exact Or.inl rfl | exact Or.inr rfl)) (vss_cons (vs_set (i := 6) (by decide) (ve_fzM (vc_call D__law_changed (hr.mono (by decide)) (takes_of rfl rfl rfl rfl) g__law_changed (by rfl) (vr_plc (vp_var (pv 1)) (vr_cons (ve_rd (pv 4)) vr_nil)))) sc.nd rfl (by first | exact Or.inl rfl | exact Or.inr rfl))
      (vss_cons (vs_if (vt_ne hr (vc_call D__law_told (hr.mono (by decide)) (takes_of rfl rfl rfl rfl) g__law_told (by rfl) (vr_cons (ve_rd (pv 6)) vr_nil)) (vc_call D__law_due (hr.mono (by decide)) (takes_of rfl rfl rfl rfl) g__law_due (by rfl) (vr_cons (ve_rd (pv 6)) vr_nil))) (vss_one (vs_ret vc_bl)) vss_nil)
      (vss_one (vs_if (vt_eq hr (vc_call D__law_draw (hr.mono (by decide)) (takes_of rfl rfl rfl rfl) g__law_draw (by rfl) (vr_plc (vp_var (pv 1)) (vr_cons vc_int vr_nil))) vc_int) (vss_one (vs_set (i := 4) (by decide) (ve_rd (pv 6)) sc.nd rfl (by first | exact Or.inl rfl | exact Or.inr rfl))) vss_nil))))))))))
      (vss_one (vs_ret (ve_eq hr (vc_call D__law_told (hr.mono (by decide)) (takes_of rfl rfl rfl rfl) g__law_told (by rfl) (vr_cons vc_str vr_nil)) vc_str)))))
end
end G
end VS
set_option Elab.async false
set_option linter.all false
set_option maxRecDepth 100000
set_option maxHeartbeats 4000000
/-! PL0: how a mirror is reckoned by simp, from the left, slot by slot; the rest of the work stands as a named function. -/
namespace VS
open PySem PySem.Spec PyProof.Rows L2
/-! texts -/
theorem toNat_inj {a b : Char} (h : a.toNat = b.toNat) : a = b := Char.ext (UInt32.toNat_inj.mp h)
theorem map_toNat_inj : ∀ {xs ys : List Char}, xs.map Char.toNat = ys.map Char.toNat → xs = ys
  | [], [], _ => rfl
  | [], _ :: _, h => by simp at h
  | _ :: _, [], h => by simp at h
  | x :: xs, y :: ys, h => by
    simp at h
    rw [toNat_inj h.1, map_toNat_inj h.2]
@[simp] theorem ofString_inj {a b : String} : (Str.ofString a = Str.ofString b) ↔ a = b := by
  constructor
  · intro h
    rw [Str.ofString_eq_toList, Str.ofString_eq_toList] at h
    simp at h
    exact String.ext (map_toNat_inj h)
  · rintro rfl; rfl
@[simp] theorem ofString_beq {a b : String} : (Str.ofString a == Str.ofString b) = (a == b) := by
  by_cases h : a = b
  · simp [h]
  · rw [beq_eq_false_iff_ne.mpr h, beq_eq_false_iff_ne]
    simpa using h
@[simp] theorem strOk_of {a : String} : PyData.strOk (Str.ofString a) = true := by
  rw [Str.ofString_eq_toList]
  simp [PyData.strOk]
  intro c _
  have h := c.valid
  have e : c.toNat = c.val.toNat := rfl
  simp only [UInt32.isValidChar, Nat.isValidChar] at h
  omega
@[simp] theorem length_of {a : String} : (Str.ofString a).length = a.toList.length := by
  rw [Str.ofString_eq_toList]
  simp [Str.length]
@[simp] theorem idx_n {a : Str} : ([] : List Str).idxOf? a = none := by simp
@[simp] theorem idx_c {x a : Str} {xs : List Str} : (x :: xs).idxOf? a = if x = a then some 0 else (xs.idxOf? a).map (· + 1) := by
  rw [List.idxOf?_cons]
  by_cases h : x = a <;> simp [h]
/-! data -/
section
variable {b m : Bool} {i j : Int} {x y : Str} {ds es ks : List D} {d : D} {c : Str} {ns : List Str}
@[simp] theorem has_non : has? .non = true := by simp [has?]
@[simp] theorem has_bl : has? (.bl b) = true := by simp [has?]
@[simp] theorem has_int : has? (.int i) = true := by simp [has?]
@[simp] theorem has_str : has? (.str x) = true := by simp [has?]
@[simp] theorem has_tup : has? (.tup ds) = true := by simp [has?]
@[simp] theorem has_rol : has? (.rol ds) = true := by simp [has?]
@[simp] theorem has_lst : has? (.lst m ds) = true := by simp [has?]
@[simp] theorem has_dic : has? (.dic m ks ds) = true := by simp [has?]
@[simp] theorem has_obj : has? (.obj m c ns ds) = true := by simp [has?]
@[simp] theorem pure_non : pure? .non = true := by simp [pure?]
@[simp] theorem pure_bl : pure? (.bl b) = true := by simp [pure?]
@[simp] theorem pure_int : pure? (.int i) = true := by simp [pure?]
@[simp] theorem pure_str : pure? (.str x) = true := by simp [pure?]
@[simp] theorem pure_tup : pure? (.tup ds) = pures? ds := by simp [pure?]
@[simp] theorem pure_rol : pure? (.rol ds) = true := by simp [pure?]
@[simp] theorem pure_lst : pure? (.lst m ds) = !m := by simp [pure?]
@[simp] theorem pure_dic : pure? (.dic m ks ds) = !m := by simp [pure?]
@[simp] theorem pure_obj : pure? (.obj m c ns ds) = !m := by simp [pure?]
@[simp] theorem pures_n : pures? [] = true := by simp [pures?]
@[simp] theorem pures_c : pures? (d :: ds) = (pure? d && pures? ds) := by simp [pures?]
@[simp] theorem fz_un : fz .un = .un := by simp [fz]
@[simp] theorem fz_non : fz .non = .non := by simp [fz]
@[simp] theorem fz_bl : fz (.bl b) = .bl b := by simp [fz]
@[simp] theorem fz_int : fz (.int i) = .int i := by simp [fz]
@[simp] theorem fz_str : fz (.str x) = .str x := by simp [fz]
@[simp] theorem fz_tup : fz (.tup ds) = .tup (fzs ds) := by simp [fz]
@[simp] theorem fz_rol : fz (.rol ds) = .rol ds := by simp [fz]
@[simp] theorem fz_lst : fz (.lst m ds) = .lst false (fzs ds) := by simp [fz]
@[simp] theorem fz_dic : fz (.dic m ks ds) = .dic false ks (fzs ds) := by simp [fz]
@[simp] theorem fz_obj : fz (.obj m c ns ds) = .obj false c ns (fzs ds) := by simp [fz]
@[simp] theorem fzs_n : fzs [] = [] := by simp [fzs]
@[simp] theorem fzs_c : fzs (d :: ds) = fz d :: fzs ds := by simp [fzs]
@[simp] theorem fzs_app : fzs (ds ++ es) = fzs ds ++ fzs es := by
  induction ds with
  | nil => simp
  | cons d ds ih => simp [ih]
@[simp] theorem fzs_rev : fzs ds.reverse = (fzs ds).reverse := by
  induction ds with
  | nil => simp
  | cons d ds ih => simp [ih]
theorem fzs_map {τ : Type} {f : τ → D} (h : ∀ t, fz (f t) = f t) (ts : List τ) : fzs (ts.map f) = ts.map f := by
  induction ts with
  | nil => simp
  | cons t ts ih => simp [ih, h]
@[simp] theorem fzs_ints (ns : List Int) : fzs (ns.map D.int) = ns.map D.int := fzs_map (fun _ => fz_int) ns
@[simp] theorem fzs_strs (ns : List Str) : fzs (ns.map D.str) = ns.map D.str := fzs_map (fun _ => fz_str) ns
@[simp] theorem fzs_rep {n : Nat} : fzs (List.replicate n d) = List.replicate n (fz d) := by
  induction n with
  | zero => simp
  | succ n ih => simp [List.replicate_succ, ih]
@[simp] theorem pures_rep {n : Nat} (h : pure? d = true) : pures? (List.replicate n d) = true := by
  induction n with
  | zero => simp
  | succ n ih => simp [List.replicate_succ, ih, h]
theorem pures_map {τ : Type} {f : τ → D} (h : ∀ t, pure? (f t) = true) (ts : List τ) : pures? (ts.map f) = true := by
  induction ts with
  | nil => simp
  | cons t ts ih => simp [ih, h]
@[simp] theorem pures_ints (ns : List Int) : pures? (ns.map D.int) = true := pures_map (fun _ => pure_int) ns
@[simp] theorem pures_strs (ns : List Str) : pures? (ns.map D.str) = true := pures_map (fun _ => pure_str) ns
@[simp] theorem getP_n : getP d [] = some d := (Eq.refl _).trans rfl
@[simp] theorem putP_n {z : D} : putP d [] z = z := (Eq.refl _).trans rfl
@[simp] theorem getP_ix {k : Nat} {ps : Path} (h : k < ds.length) : getP (.lst m ds) (.ix k :: ps) = (ds[k]?).bind (getP · ps) := by simp [getP, kidN, kids, h]
@[simp] theorem putP_ix {k : Nat} {ps : Path} {z : D} (h : k < ds.length) : putP (.lst true ds) (.ix k :: ps) z = .lst true (ds.set k (putP ds[k] ps z)) := by simp [putP, kidN, kids, h, setKid]
@[simp] theorem fldPut_n {f : Str} {v : D} : fldPut f v [] ds = ([f], [v]) := (Eq.refl _).trans rfl
@[simp] theorem fldPut_c {f g : Str} {v : D} : fldPut f v (g :: ns) (d :: ds) = if g = f then (g :: ns, v :: ds) else (g :: (fldPut f v ns ds).1, d :: (fldPut f v ns ds).2) := (Eq.refl _).trans rfl
@[simp] theorem getP_fld {f : Str} {k : Nat} {ps : Path} (h : ns.idxOf? f = some k) : getP (.obj m c ns ds) (.fld c f :: ps) = (ds[k]?).bind (getP · ps) := by simp [getP, kidN, kids, h]
@[simp] theorem lstD_e (h : ds.length ≤ 1000) : lstD ds = some (.lst true ds) := if_pos h
@[simp] theorem tupD_e (h : ds.length ≤ 1000) : tupD ds = some (.tup ds) := if_pos h
@[simp] theorem items_t : items (.tup ds) = some ds := (Eq.refl _).trans rfl
@[simp] theorem items_l : items (.lst m ds) = some ds := (Eq.refl _).trans rfl
@[simp] theorem items_r : items (.rol ds) = some ds := (Eq.refl _).trans rfl
@[simp] theorem isLst_l : isLst (.lst m ds) = some ds := (Eq.refl _).trans rfl
@[simp] theorem isLst_r : isLst (.rol ds) = some ds := (Eq.refl _).trans rfl
@[simp] theorem one_e {f : D → Option D} : one f [d] = f d := (Eq.refl _).trans rfl
@[simp] theorem lenD_t : lenD (.tup ds) = some (.int ds.length) := (Eq.refl _).trans rfl
@[simp] theorem lenD_l : lenD (.lst m ds) = some (.int ds.length) := (Eq.refl _).trans rfl
@[simp] theorem lenD_r : lenD (.rol ds) = some (.int ds.length) := (Eq.refl _).trans rfl
@[simp] theorem subD_e : subD (.int i) (.int j) = some (.int (i - j)) := (Eq.refl _).trans rfl
@[simp] theorem addD_e : addD (.int i) (.int j) = some (.int (i + j)) := (Eq.refl _).trans rfl
@[simp] theorem addD_s (h : x.length + y.length ≤ big) : addD (.str x) (.str y) = some (.str (x ++ y)) := by simp [addD, h]
@[simp] theorem addD_l {m' : Bool} (h : ds.length + es.length ≤ big) : addD (.lst m ds) (.lst m' es) = some (.lst true (ds ++ es)) := by simp [addD, h]
@[simp] theorem addD_t (h : ds.length + es.length ≤ big) : addD (.tup ds) (.tup es) = some (.tup (ds ++ es)) := by simp [addD, h]
@[simp] theorem mulD_e (h : CMul i j) : mulD (.int i) (.int j) = some (.int (i * j)) := by simp [mulD, int2, h]
@[simp] theorem modD_e (h : 0 < j) : modD (.int i) (.int j) = some (.int (i % j)) := by simp [modD, int2, h]
@[simp] theorem divD_e (h : CDiv i j) : divD (.int i) (.int j) = some (.int (i / j)) := by simp [divD, int2, h]
@[simp] theorem powD_e (h : CPow i j) : powD (.int i) (.int j) = some (.int (i ^ j.toNat)) := by simp [powD, int2, h]
@[simp] theorem ltD_e : ltD (.int i) (.int j) = some (.bl (decide (i < j))) := (Eq.refl _).trans rfl
@[simp] theorem leD_e : leD (.int i) (.int j) = some (.bl (decide (i ≤ j))) := (Eq.refl _).trans rfl
@[simp] theorem gtD_e : gtD (.int i) (.int j) = some (.bl (decide (j < i))) := (Eq.refl _).trans rfl
@[simp] theorem geD_e : geD (.int i) (.int j) = some (.bl (decide (j ≤ i))) := (Eq.refl _).trans rfl
@[simp] theorem negD_e : negD (.int i) = some (.int (-i)) := (Eq.refl _).trans rfl
@[simp] theorem intD_i : intD (.int i) = some (.int i) := (Eq.refl _).trans rfl
@[simp] theorem intD_b : intD (.bl b) = some (.int (if b then 1 else 0)) := (Eq.refl _).trans rfl
@[simp] theorem absD_e : absD (.int i) = some (.int (if i < 0 then -i else i)) := (Eq.refl _).trans rfl
@[simp] theorem toLstD_e : toLstD d = (items d).map (.lst true) := (Eq.refl _).trans rfl
@[simp] theorem toTupD_e : toTupD d = (items d).map .tup := (Eq.refl _).trans rfl
@[simp] theorem ixD_e : ixD d (.int i) = (items d).bind fun ds => atI ds i := (Eq.refl _).trans rfl
@[simp] theorem isN_e {neg : Bool} (h : has? d = true) : isN neg d = some (.bl (if neg then !isNone? d else isNone? d)) := by simp [isN, h]
@[simp] theorem isNone_non : isNone? .non = true := (Eq.refl _).trans rfl
@[simp] theorem isNone_bl : isNone? (.bl b) = false := (Eq.refl _).trans rfl
@[simp] theorem isNone_int : isNone? (.int i) = false := (Eq.refl _).trans rfl
@[simp] theorem isNone_str : isNone? (.str x) = false := (Eq.refl _).trans rfl
@[simp] theorem isNone_tup : isNone? (.tup ds) = false := (Eq.refl _).trans rfl
@[simp] theorem isNone_lst : isNone? (.lst m ds) = false := (Eq.refl _).trans rfl
@[simp] theorem isNone_obj : isNone? (.obj m c ns ds) = false := (Eq.refl _).trans rfl
@[simp] theorem revD_l : revD (.lst m ds) = some (.lst true ds.reverse) := (Eq.refl _).trans rfl
@[simp] theorem tyD_non : tyD .non = some "NoneType" := (Eq.refl _).trans rfl
@[simp] theorem tyD_bl : tyD (.bl b) = some "bool" := (Eq.refl _).trans rfl
@[simp] theorem tyD_int : tyD (.int i) = some "int" := (Eq.refl _).trans rfl
@[simp] theorem tyD_str : tyD (.str x) = some "str" := (Eq.refl _).trans rfl
@[simp] theorem tyD_tup : tyD (.tup ds) = some "tuple" := (Eq.refl _).trans rfl
@[simp] theorem tyD_lst : tyD (.lst m ds) = some "list" := (Eq.refl _).trans rfl
@[simp] theorem isiD_e {Ts : List String} : isiD Ts d = (tyD d).map fun a => .bl (Ts.any fun T => subT a T) := (Eq.refl _).trans rfl
@[simp] theorem subT_e {a T : String} : subT a T = (a == T || (a == "bool" && T == "int")) := (Eq.refl _).trans rfl
@[simp] theorem sqOf_l : sqOf (.lst false ds) = some (.l ds) := (Eq.refl _).trans rfl
@[simp] theorem sqOf_r : sqOf (.rol ds) = some (.l ds) := (Eq.refl _).trans rfl
@[simp] theorem sqOf_t (h : pures? ds = true) : sqOf (.tup ds) = some (.t ds) := by simp [sqOf, h]
@[simp] theorem Sq_l : Sq.ds (.l ds) = ds := (Eq.refl _).trans rfl
@[simp] theorem Sq_t : Sq.ds (.t ds) = ds := (Eq.refl _).trans rfl
@[simp] theorem appF_e (h : ds.length < big) : appF ds [d] = some (.non, ds ++ [d]) := by simp [appF, h]
@[simp] theorem extF_e (h : ds.length + es.length ≤ big) : extF ds [.lst m es] = some (.non, ds ++ es) := by simp [extF, h]
@[simp] theorem truD_non : truD .non = some false := (Eq.refl _).trans rfl
@[simp] theorem truD_bl : truD (.bl b) = some b := (Eq.refl _).trans rfl
@[simp] theorem truD_int : truD (.int i) = some (i != 0) := (Eq.refl _).trans rfl
@[simp] theorem truD_tup : truD (.tup ds) = some (!ds.isEmpty) := (Eq.refl _).trans rfl
@[simp] theorem truD_lst : truD (.lst m ds) = some (!ds.isEmpty) := (Eq.refl _).trans rfl
@[simp] theorem toP_non : toP .non = some .none := by simp [toP]
@[simp] theorem toP_bl : toP (.bl b) = some (.bool b) := by simp [toP]
@[simp] theorem toP_int : toP (.int i) = some (.int i) := by simp [toP]
@[simp] theorem toP_str : toP (.str x) = some (.str x) := by simp [toP]
@[simp] theorem toP_tup : toP (.tup ds) = (toPs ds).map .tuple := by simp [toP]
@[simp] theorem toP_lst : toP (.lst m ds) = (toPs ds).map .list := by simp [toP]
@[simp] theorem toPs_n : toPs [] = some [] := by simp [toPs]
@[simp] theorem toPs_c : toPs (d :: ds) = (toP d).bind fun p => (toPs ds).map fun ps => p :: ps := by simp [toPs]
theorem toPs_map {τ : Type} {f : τ → D} {g : τ → PyData} (h : ∀ t, toP (f t) = some (g t)) (ts : List τ) : toPs (ts.map f) = some (ts.map g) := by
  induction ts with
  | nil => simp
  | cons t ts ih => simp [ih, h]
end
/-! ### equality, membership -/
mutual
def eqD : D → D → Bool
  | .non, .non => true
  | .bl a, .bl b => a == b
  | .bl a, .int j => (if a then 1 else 0) == j
  | .int i, .bl b => i == (if b then 1 else 0)
  | .int i, .int j => i == j
  | .str x, .str y => x == y
  | .tup xs, .tup ys => eqDs xs ys
  | .lst _ xs, .lst _ ys => eqDs xs ys
  | .lst _ xs, .rol ys => eqDs xs ys
  | .rol xs, .lst _ ys => eqDs xs ys
  | .rol xs, .rol ys => eqDs xs ys
  | _, _ => false
def eqDs : List D → List D → Bool
  | [], [] => true
  | x :: xs, y :: ys => eqD x y && eqDs xs ys
  | _, _ => false
end
mutual
/-- of a shape that == takes; at most so deep -/
def sh : Nat → D → Bool
  | _, .non => true
  | _, .bl _ => true
  | _, .int _ => true
  | _, .str x => PyData.strOk x
  | n + 1, .tup ds => shs n ds
  | n + 1, .lst _ ds => shs n ds
  | n + 1, .rol ds => shs n ds
  | _, _ => false
def shs : Nat → List D → Bool
  | _, [] => true
  | n, d :: ds => sh n d && shs n ds
end
mutual
theorem sh_toP : ∀ (d : D) (n : Nat), sh n d = true → ∃ p, toP d = some p ∧ p.canLay0 = true ∧ p.depth ≤ n
  | .un, n, h => by cases n <;> simp [sh] at h
  | .non, n, h => ⟨.none, by simp [toP], by simp [PyData.canLay0], by simp [PyData.depth]⟩
  | .bl b, n, h => ⟨.bool b, by simp [toP], by simp [PyData.canLay0], by simp [PyData.depth]⟩
  | .int i, n, h => ⟨.int i, by simp [toP], by simp [PyData.canLay0], by simp [PyData.depth]⟩
  | .str x, n, h => ⟨.str x, by simp [toP], by simp [PyData.canLay0]; cases n <;> simpa [sh] using h, by simp [PyData.depth]⟩
  | .tup ds, 0, h => by simp [sh] at h
  | .tup ds, n + 1, h => by
    obtain ⟨ps, e, h1, h2⟩ := shs_toP ds n (by simpa [sh] using h)
    exact ⟨.tuple ps, by simp [toP, e], by simpa [PyData.canLay0] using h1, by simp [PyData.depth]; omega⟩
  | .lst m ds, 0, h => by simp [sh] at h
  | .lst m ds, n + 1, h => by
    obtain ⟨ps, e, h1, h2⟩ := shs_toP ds n (by simpa [sh] using h)
    exact ⟨.list ps, by simp [toP, e], by simpa [PyData.canLay0] using h1, by simp [PyData.depth]; omega⟩
  | .rol ds, 0, h => by simp [sh] at h
  | .rol ds, n + 1, h => by
    obtain ⟨ps, e, h1, h2⟩ := shs_toP ds n (by simpa [sh] using h)
    exact ⟨.list ps, by simp [toP, e], by simpa [PyData.canLay0] using h1, by simp [PyData.depth]; omega⟩
  | .dic m ks ds, n, h => by cases n <;> simp [sh] at h
  | .obj m c ns ds, n, h => by cases n <;> simp [sh] at h
theorem shs_toP : ∀ (ds : List D) (n : Nat), shs n ds = true → ∃ ps, toPs ds = some ps ∧ PyData.canLayAll0 ps = true ∧ PyData.depthAll ps ≤ n
  | [], n, h => ⟨[], by simp [toPs], by simp [PyData.canLayAll0], by simp [PyData.depthAll]⟩
  | d :: ds, n, h => by
    simp [shs] at h
    obtain ⟨p, e, h1, h2⟩ := sh_toP d n h.1
    obtain ⟨ps, e', h1', h2'⟩ := shs_toP ds n h.2
    exact ⟨p :: ps, by simp [toPs, e, e'], by simp [PyData.canLayAll0, h1, h1'], by simp [PyData.depthAll]; omega⟩
end
theorem toPs_cons {d : D} {ds : List D} {ps : List PyData} (h : toPs (d :: ds) = some ps) : ∃ a, toP d = some a ∧ ∃ b, toPs ds = some b ∧ ps = a :: b := by
  rw [toPs_c, Option.bind_eq_some_iff] at h
  obtain ⟨a, e1, h⟩ := h
  rw [Option.map_eq_some_iff] at h
  obtain ⟨b, e2, rfl⟩ := h
  exact ⟨a, e1, b, e2, rfl⟩
mutual
theorem eqD_toP : ∀ (d e : D) {p q : PyData}, toP d = some p → toP e = some q → PyData.eqv p q = eqD d e := by
  intro d e p q hp hq
  cases d <;> cases e <;> simp [toP] at hp hq <;> subst_vars <;> first
    | (simp [PyData.eqv, eqD]; done)
    | (obtain ⟨ps, e1, rfl⟩ := hp; simp [PyData.eqv, eqD]; done)
    | (obtain ⟨ps, e1, rfl⟩ := hq; simp [PyData.eqv, eqD]; done)
    | (obtain ⟨ps, e1, rfl⟩ := hp; obtain ⟨qs, e2, rfl⟩ := hq; simp [PyData.eqv, eqD]; done)
    | (obtain ⟨ps, e1, rfl⟩ := hp; obtain ⟨qs, e2, rfl⟩ := hq; simp [PyData.eqv, eqD]; exact eqDs_toPs _ _ e1 e2)
theorem eqDs_toPs : ∀ (ds es : List D) {ps qs : List PyData}, toPs ds = some ps → toPs es = some qs → PyData.eqvAll ps qs = eqDs ds es := by
  intro ds es ps qs hp hq
  cases ds with
  | nil =>
    simp [toPs] at hp
    subst hp
    cases es with
    | nil => simp [toPs] at hq; subst hq; simp [PyData.eqvAll, eqDs]
    | cons e es =>
      obtain ⟨a, _, b, _, rfl⟩ := toPs_cons hq
      simp [PyData.eqvAll, eqDs]
  | cons d ds =>
    obtain ⟨a, e1, b, e2, rfl⟩ := toPs_cons hp
    cases es with
    | nil => simp [toPs] at hq; subst hq; simp [PyData.eqvAll, eqDs]
    | cons e es =>
      obtain ⟨c, e3, f, e4, rfl⟩ := toPs_cons hq
      simp [PyData.eqvAll, eqDs, eqD_toP d e e1 e3, eqDs_toPs ds es e2 e4]
end
section
variable {neg b m m' : Bool} {i j : Int} {x y : Str} {ds es : List D} {d e c : D} {n : Nat}
@[simp] theorem sh_non : sh n .non = true := by cases n <;> simp [sh]
@[simp] theorem sh_bl : sh n (.bl b) = true := by cases n <;> simp [sh]
@[simp] theorem sh_int : sh n (.int i) = true := by cases n <;> simp [sh]
@[simp] theorem sh_str : sh n (.str x) = PyData.strOk x := by cases n <;> simp [sh]
@[simp] theorem sh_tup : sh (n + 1) (.tup ds) = shs n ds := by simp [sh]
@[simp] theorem sh_lst : sh (n + 1) (.lst m ds) = shs n ds := by simp [sh]
@[simp] theorem sh_rol : sh (n + 1) (.rol ds) = shs n ds := by simp [sh]
@[simp] theorem shs_n : shs n [] = true := by simp [shs]
@[simp] theorem shs_c : shs n (d :: ds) = (sh n d && shs n ds) := by simp [shs]
@[simp] theorem shs_app : shs n (ds ++ es) = (shs n ds && shs n es) := by
  induction ds with
  | nil => simp
  | cons d ds ih => simp [ih, Bool.and_assoc]
theorem shs_map {τ : Type} {f : τ → D} (h : ∀ t, sh n (f t) = true) (ts : List τ) : shs n (ts.map f) = true := by
  induction ts with
  | nil => simp
  | cons t ts ih => simp [ih, h]
theorem shs_all : (∀ d ∈ ds, sh n d = true) → shs n ds = true := by
  induction ds with
  | nil => simp
  | cons t ts ih => intro h; simp at h; simp [h.1]; exact ih h.2
@[simp] theorem shs_rep {k : Nat} (h : sh n d = true) : shs n (List.replicate k d) = true := by
  induction k with
  | zero => simp
  | succ k ih => simp [List.replicate_succ, ih, h]
@[simp] theorem shs_ints (ns : List Int) : shs n (ns.map D.int) = true := shs_map (fun _ => sh_int) ns
theorem eqP_e (h1 : sh 64 d = true) (h2 : sh 64 e = true) : eqP neg d e = some (.bl (if neg then !eqD d e else eqD d e)) := by
  obtain ⟨p, e1, l1, q1⟩ := sh_toP d 64 h1
  obtain ⟨q, e2, l2, q2⟩ := sh_toP e 64 h2
  simp [eqP, e1, e2, SeqAt.shaped, l1, l2, q1, q2, eqD_toP d e e1 e2]
@[simp] theorem eqP_t (h1 : sh 64 d = true) (h2 : sh 64 e = true) : eqP true d e = some (.bl (!eqD d e)) := by simp [eqP_e h1 h2]
@[simp] theorem eqP_f (h1 : sh 64 d = true) (h2 : sh 64 e = true) : eqP false d e = some (.bl (eqD d e)) := by simp [eqP_e h1 h2]
theorem any_toPs : ∀ {ds : List D} {ps : List PyData} {p : PyData}, toPs ds = some ps → toP d = some p → ps.any (fun z => PyData.eqv z p) = ds.any (fun z => eqD z d)
  | [], ps, p, h, _ => by simp [toPs] at h; subst h; simp
  | e :: ds, ps, p, h, hp => by
    obtain ⟨a, e1, b, e2, rfl⟩ := toPs_cons h
    simp [any_toPs e2 hp, eqD_toP e d e1 hp]
theorem inP_e (hc : items c = some ds) (h1 : sh 64 d = true) (h2 : shs 63 ds = true) : inP neg d c = some (.bl (if neg then !ds.any (fun z => eqD z d) else ds.any (fun z => eqD z d))) := by
  obtain ⟨p, e1, l1, q1⟩ := sh_toP d 64 h1
  obtain ⟨ps, e2, l2, q2⟩ := shs_toP ds 63 h2
  simp [inP, hc, e1, e2, SeqAt.shaped, l1, l2, q1, PyData.canLay0, PyData.depth, any_toPs e2 e1]
  omega
@[simp] theorem inP_l (h1 : sh 64 d = true) (h2 : shs 63 ds = true) : inP neg d (.lst m ds) = some (.bl (if neg then !ds.any (fun z => eqD z d) else ds.any (fun z => eqD z d))) := inP_e rfl h1 h2
@[simp] theorem inP_t (h1 : sh 64 d = true) (h2 : shs 63 ds = true) : inP neg d (.tup ds) = some (.bl (if neg then !ds.any (fun z => eqD z d) else ds.any (fun z => eqD z d))) := inP_e rfl h1 h2
@[simp] theorem eqD_nn : eqD .non .non = true := by simp [eqD]
@[simp] theorem eqD_nb : eqD .non (.bl b) = false := by simp [eqD]
@[simp] theorem eqD_ni : eqD .non (.int i) = false := by simp [eqD]
@[simp] theorem eqD_ns : eqD .non (.str x) = false := by simp [eqD]
@[simp] theorem eqD_nt : eqD .non (.tup ds) = false := by simp [eqD]
@[simp] theorem eqD_nl : eqD .non (.lst m ds) = false := by simp [eqD]
@[simp] theorem eqD_bn : eqD (.bl b) .non = false := by simp [eqD]
@[simp] theorem eqD_in : eqD (.int i) .non = false := by simp [eqD]
@[simp] theorem eqD_sn : eqD (.str x) .non = false := by simp [eqD]
@[simp] theorem eqD_tn : eqD (.tup ds) .non = false := by simp [eqD]
@[simp] theorem eqD_ln : eqD (.lst m ds) .non = false := by simp [eqD]
@[simp] theorem eqD_bb {a : Bool} : eqD (.bl a) (.bl b) = (a == b) := by simp [eqD]
@[simp] theorem eqD_bi : eqD (.bl b) (.int j) = ((if b then 1 else 0) == j) := by simp [eqD]
@[simp] theorem eqD_ib : eqD (.int i) (.bl b) = (i == (if b then 1 else 0)) := by simp [eqD]
@[simp] theorem eqD_bs : eqD (.bl b) (.str x) = false := by simp [eqD]
@[simp] theorem eqD_sb : eqD (.str x) (.bl b) = false := by simp [eqD]
@[simp] theorem eqD_ii : eqD (.int i) (.int j) = decide (i = j) := by simp [eqD]; rfl
@[simp] theorem eqD_is : eqD (.int i) (.str x) = false := by simp [eqD]
@[simp] theorem eqD_si : eqD (.str x) (.int i) = false := by simp [eqD]
@[simp] theorem eqD_ss : eqD (.str x) (.str y) = decide (x = y) := by simp [eqD]; rfl
@[simp] theorem eqD_tt : eqD (.tup ds) (.tup es) = eqDs ds es := by simp [eqD]
@[simp] theorem eqD_ll : eqD (.lst m ds) (.lst m' es) = eqDs ds es := by simp [eqD]
@[simp] theorem eqD_st : eqD (.str x) (.tup ds) = false := by simp [eqD]
@[simp] theorem eqD_ts : eqD (.tup ds) (.str x) = false := by simp [eqD]
@[simp] theorem eqD_sl : eqD (.str x) (.lst m ds) = false := by simp [eqD]
@[simp] theorem eqD_ls : eqD (.lst m ds) (.str x) = false := by simp [eqD]
@[simp] theorem eqD_it : eqD (.int i) (.tup ds) = false := by simp [eqD]
@[simp] theorem eqD_ti : eqD (.tup ds) (.int i) = false := by simp [eqD]
@[simp] theorem eqD_tl : eqD (.tup ds) (.lst m es) = false := by simp [eqD]
@[simp] theorem eqD_lt : eqD (.lst m ds) (.tup es) = false := by simp [eqD]
@[simp] theorem eqDs_nn : eqDs [] [] = true := by simp [eqDs]
@[simp] theorem eqDs_nc : eqDs [] (d :: ds) = false := by simp [eqDs]
@[simp] theorem eqDs_cn : eqDs (d :: ds) [] = false := by simp [eqDs]
@[simp] theorem eqDs_cc : eqDs (d :: ds) (e :: es) = (eqD d e && eqDs ds es) := by simp [eqDs]
end
mutual
theorem eqD_self : ∀ (d : D) {n : Nat}, sh n d = true → eqD d d = true
  | .un, n, h => by cases n <;> simp [sh] at h
  | .non, n, h => by simp
  | .bl b, n, h => by simp
  | .int i, n, h => by simp
  | .str x, n, h => by simp
  | .tup ds, 0, h => by simp [sh] at h
  | .tup ds, n + 1, h => by simp [sh] at h; simp; exact eqDs_self ds h
  | .lst m ds, 0, h => by simp [sh] at h
  | .lst m ds, n + 1, h => by simp [sh] at h; simp; exact eqDs_self ds h
  | .rol ds, 0, h => by simp [sh] at h
  | .rol ds, n + 1, h => by simp [sh] at h; simp [eqD]; exact eqDs_self ds h
  | .dic m ks ds, n, h => by cases n <;> simp [sh] at h
  | .obj m c ns ds, n, h => by cases n <;> simp [sh] at h
theorem eqDs_self : ∀ (ds : List D) {n : Nat}, shs n ds = true → eqDs ds ds = true
  | [], n, h => by simp
  | d :: ds, n, h => by simp at h; simp [eqD_self d h.1, eqDs_self ds h.2]
end
section
variable {α β : Type} {ρ ρ' : List D} {d : D} {i n N : Nat}
@[simp] theorem skipM_e : skipM ρ = .ok .nx ρ := (Eq.refl _).trans rfl
@[simp] theorem retN_e : retN ρ = .ok (.ret .non) ρ := (Eq.refl _).trans rfl
@[simp] theorem nilM_e : nilM ρ = .ok [] ρ := (Eq.refl _).trans rfl
@[simp] theorem nonM_e : nonM ρ = .ok .non ρ := (Eq.refl _).trans rfl
@[simp] theorem intM_e {i : Int} : intM i ρ = .ok (.int i) ρ := (Eq.refl _).trans rfl
@[simp] theorem blM_e {b : Bool} : blM b ρ = .ok (.bl b) ρ := (Eq.refl _).trans rfl
@[simp] theorem strM_e {z : Str} : strM z ρ = .ok (.str z) ρ := (Eq.refl _).trans rfl
@[simp] theorem cM_e : cM d ρ = .ok d ρ := (Eq.refl _).trans rfl
@[simp] theorem yesM_e : yesM ρ = .ok true ρ := (Eq.refl _).trans rfl
/-! slots -/
def rdO (ρ : List D) : Option D → Res D
  | some d => if has? d && pure? d then .ok d ρ else .bad
  | none => .bad
@[simp] theorem rd_e : rd i ρ = rdO ρ ρ[i]? := (Eq.refl _).trans rfl
@[simp] theorem rdO_s (h1 : has? d = true) (h2 : pure? d = true) : rdO ρ (some d) = .ok d ρ := by simp [rdO, h1, h2]
@[simp] theorem rdP_e {ps : Path} : rdP i ps ρ = rdO ρ ((ρ[i]?).bind (getP · ps)) := (Eq.refl _).trans rfl
def mvO (i : Nat) (ρ : List D) : Option D → Res D
  | some d => if has? d then .ok d (ρ.set i .un) else .bad
  | none => .bad
@[simp] theorem mv_e : mv i ρ = mvO i ρ ρ[i]? := (Eq.refl _).trans rfl
@[simp] theorem mvO_s (h1 : has? d = true) : mvO i ρ (some d) = .ok d (ρ.set i .un) := by simp [mvO, h1]
def fzO (i : Nat) (ρ : List D) : Option D → Res D
  | some d => if has? d then .ok (fz d) (ρ.set i (fz d)) else .bad
  | none => .bad
@[simp] theorem fzv_e : fzv i ρ = fzO i ρ ρ[i]? := (Eq.refl _).trans rfl
@[simp] theorem fzO_s (h1 : has? d = true) : fzO i ρ (some d) = .ok (fz d) (ρ.set i (fz d)) := by simp [fzO, h1]
def lenO (ρ : List D) : Option D → Res D
  | some d => if has? d = true then Res.of (lenD d) ρ else .bad
  | none => .bad
@[simp] theorem lenP_e {ps : Path} : lenP i ps ρ = lenO ρ ((ρ[i]?).bind (getP · ps)) := (Eq.refl _).trans rfl
@[simp] theorem lenO_s (h1 : has? d = true) : lenO ρ (some d) = Res.of (lenD d) ρ := by simp [lenO, h1]
def plcO (ms : M (List D)) (ρ : List D) : Bool → Res (List D)
  | true => ms ρ
  | false => .bad
@[simp] theorem plcM_e {ps : Path} {ms : M (List D)} : plcM i ps ms ρ = plcO ms ρ (isPlc i ps ρ) := by unfold plcM plcO; cases isPlc i ps ρ <;> rfl
@[simp] theorem plcO_t {ms : M (List D)} : plcO ms ρ true = ms ρ := (Eq.refl _).trans rfl
def isO : Option D → Bool
  | some c => has? c
  | none => false
@[simp] theorem isPlc_e {ps : Path} : isPlc i ps ρ = isO ((ρ[i]?).bind (getP · ps)) := (Eq.refl _).trans rfl
@[simp] theorem isO_s : isO (some d) = has? d := (Eq.refl _).trans rfl

def seqK (b : SM) : Fl → List D → Res Fl := fun f ρ1 => match f with
  | .nx => b ρ1
  | f => .ok f ρ1
@[simp] theorem seqK_nx {b : SM} : seqK b .nx ρ = b ρ := (Eq.refl _).trans rfl
@[simp] theorem seqK_ret {b : SM} : seqK b (.ret d) ρ = .ok (.ret d) ρ := (Eq.refl _).trans rfl
@[simp] theorem seqK_bk {b : SM} : seqK b .bk ρ = .ok .bk ρ := (Eq.refl _).trans rfl
@[simp] theorem seqK_ct {b : SM} : seqK b .ct ρ = .ok .ct ρ := (Eq.refl _).trans rfl
@[simp] theorem seqM_e {a b : SM} : seqM a b ρ = (a ρ).bind (seqK b) := (Eq.refl _).trans rfl
def dropK : D → List D → Res Fl := fun _ ρ1 => .ok .nx ρ1
@[simp] theorem dropK_e : dropK d ρ = .ok .nx ρ := (Eq.refl _).trans rfl
@[simp] theorem dropM_e {m : EM} : dropM m ρ = (m ρ).bind dropK := (Eq.refl _).trans rfl
def retK : D → List D → Res Fl := fun d ρ1 => .ok (.ret d) ρ1
@[simp] theorem retK_e : retK d ρ = .ok (.ret d) ρ := (Eq.refl _).trans rfl
@[simp] theorem retM_e {m : EM} : retM m ρ = (m ρ).bind retK := (Eq.refl _).trans rfl
def iteK (a b : M α) : Bool → List D → Res α := fun c ρ1 => if c = true then a ρ1 else b ρ1
@[simp] theorem iteK_t {a b : M α} : iteK a b true ρ = a ρ := (Eq.refl _).trans rfl
@[simp] theorem iteK_f {a b : M α} : iteK a b false ρ = b ρ := (Eq.refl _).trans rfl
@[simp] theorem iteM_e {t : M Bool} {a b : SM} : iteM t a b ρ = (t ρ).bind (iteK a b) := (Eq.refl _).trans rfl
@[simp] theorem ifM_e {t : M Bool} {a b : M α} : ifM t a b ρ = (t ρ).bind (iteK a b) := (Eq.refl _).trans rfl
def setK (i : Nat) : D → List D → Res Fl := fun d ρ1 => if i < ρ1.length then .ok .nx (ρ1.set i d) else .bad
@[simp] theorem setK_e (h : i < ρ.length) : setK i d ρ = .ok .nx (ρ.set i d) := if_pos h
@[simp] theorem setM_e {m : EM} : setM i m ρ = (m ρ).bind (setK i) := (Eq.refl _).trans rfl
def asgO (ρ : List D) : Option (List D) → Res Fl
  | some ρ2 => .ok .nx ρ2
  | none => .bad
def asgK (g : D → List D → Option (List D)) : D → List D → Res Fl := fun d ρ1 => (Res.of (g d ρ1) ρ1).bind fun ρ2 _ => .ok .nx ρ2
@[simp] theorem asgK_e {g : D → List D → Option (List D)} : asgK g d ρ = asgO ρ (g d ρ) := by unfold asgK asgO; cases g d ρ <;> rfl
@[simp] theorem asgO_s : asgO ρ (some ρ') = .ok .nx ρ' := (Eq.refl _).trans rfl
@[simp] theorem asgM_e {g : D → List D → Option (List D)} {m : EM} : asgM g m ρ = (m ρ).bind (asgK g) := (Eq.refl _).trans rfl
@[simp] theorem forS_e {it : M (List D)} {g : D → List D → Option (List D)} {b : SM} : forS it g b ρ = (it ρ).bind (forM g b) := (Eq.refl _).trans rfl
def raiseK : D → List D → Res Fl := fun d ρ1 => match d with
  | .str z => .ex z ρ1
  | _ => .bad
@[simp] theorem raiseK_e {z : Str} : raiseK (.str z) ρ = .ex z ρ := (Eq.refl _).trans rfl
@[simp] theorem raiseM_e {m : EM} : raiseM m ρ = (m ρ).bind raiseK := (Eq.refl _).trans rfl
def opK2 (f : D → D → Option D) (d1 : D) : D → List D → Res D := fun d2 ρ2 => Res.of (f d1 d2) ρ2
def opK (f : D → D → Option D) (mb : EM) : D → List D → Res D := fun d1 ρ1 => (mb ρ1).bind (opK2 f d1)
@[simp] theorem opK2_e {f : D → D → Option D} {d1 d2 : D} : opK2 f d1 d2 ρ = Res.of (f d1 d2) ρ := (Eq.refl _).trans rfl
@[simp] theorem opK_e {f : D → D → Option D} {mb : EM} {d1 : D} : opK f mb d1 ρ = (mb ρ).bind (opK2 f d1) := (Eq.refl _).trans rfl
@[simp] theorem opM_e {f : D → D → Option D} {ma mb : EM} : opM f ma mb ρ = (ma ρ).bind (opK f mb) := (Eq.refl _).trans rfl
def unK (f : D → Option D) : D → List D → Res D := fun d1 ρ1 => Res.of (f d1) ρ1
@[simp] theorem unK_e {f : D → Option D} : unK f d ρ = Res.of (f d) ρ := (Eq.refl _).trans rfl
@[simp] theorem unM_e {f : D → Option D} {ma : EM} : unM f ma ρ = (ma ρ).bind (unK f) := (Eq.refl _).trans rfl
def clK (f : List D → Option D) : List D → List D → Res D := fun ds ρ1 => Res.of (f ds) ρ1
@[simp] theorem clK_e {f : List D → Option D} {ds : List D} : clK f ds ρ = Res.of (f ds) ρ := (Eq.refl _).trans rfl
@[simp] theorem clM_e {f : List D → Option D} {ms : M (List D)} : clM f ms ρ = (ms ρ).bind (clK f) := (Eq.refl _).trans rfl
def consK2 (d : D) : List D → List D → Res (List D) := fun ds ρ2 => .ok (d :: ds) ρ2
def consK (ms : M (List D)) : D → List D → Res (List D) := fun d ρ1 => (ms ρ1).bind (consK2 d)
@[simp] theorem consK2_e {ds : List D} : consK2 d ds ρ = .ok (d :: ds) ρ := (Eq.refl _).trans rfl
@[simp] theorem consK_e {ms : M (List D)} : consK ms d ρ = (ms ρ).bind (consK2 d) := (Eq.refl _).trans rfl
@[simp] theorem consM_e {m : EM} {ms : M (List D)} : consM m ms ρ = (m ρ).bind (consK ms) := (Eq.refl _).trans rfl
def andK (u : M Bool) : Bool → List D → Res Bool := fun b ρ1 => if b = true then u ρ1 else .ok false ρ1
@[simp] theorem andK_t {u : M Bool} : andK u true ρ = u ρ := (Eq.refl _).trans rfl
@[simp] theorem andK_f {u : M Bool} : andK u false ρ = .ok false ρ := (Eq.refl _).trans rfl
@[simp] theorem andM_e {t u : M Bool} : andM t u ρ = (t ρ).bind (andK u) := (Eq.refl _).trans rfl
def orK (u : M Bool) : Bool → List D → Res Bool := fun b ρ1 => if b = true then .ok true ρ1 else u ρ1
@[simp] theorem orK_t {u : M Bool} : orK u true ρ = .ok true ρ := (Eq.refl _).trans rfl
@[simp] theorem orK_f {u : M Bool} : orK u false ρ = u ρ := (Eq.refl _).trans rfl
@[simp] theorem orM_e {t u : M Bool} : orM t u ρ = (t ρ).bind (orK u) := (Eq.refl _).trans rfl
def notK : Bool → List D → Res Bool := fun b ρ1 => .ok (!b) ρ1
@[simp] theorem notK_e {b : Bool} : notK b ρ = .ok (!b) ρ := (Eq.refl _).trans rfl
@[simp] theorem notM_e {t : M Bool} : notM t ρ = (t ρ).bind notK := (Eq.refl _).trans rfl
def blO (ρ : List D) : D → Res Bool := fun d => Res.of (blOf d) ρ
@[simp] theorem blOf_e {b : Bool} : blOf (.bl b) = some b := (Eq.refl _).trans rfl
def andVK (mb : EM) : D → List D → Res D := fun d ρ1 => (Res.of (blOf d) ρ1).bind fun b ρ2 => if b = true then mb ρ2 else .ok (.bl false) ρ2
@[simp] theorem andVK_t {u : EM} : andVK u (.bl true) ρ = u ρ := (Eq.refl _).trans rfl
@[simp] theorem andVK_f {u : EM} : andVK u (.bl false) ρ = .ok (.bl false) ρ := (Eq.refl _).trans rfl
@[simp] theorem andV_e {ma mb : EM} : andV ma mb ρ = (ma ρ).bind (andVK mb) := (Eq.refl _).trans rfl
def orVK (mb : EM) : D → List D → Res D := fun d ρ1 => (Res.of (blOf d) ρ1).bind fun b ρ2 => if b = true then .ok (.bl true) ρ2 else mb ρ2
@[simp] theorem orVK_t {u : EM} : orVK u (.bl true) ρ = .ok (.bl true) ρ := (Eq.refl _).trans rfl
@[simp] theorem orVK_f {u : EM} : orVK u (.bl false) ρ = u ρ := (Eq.refl _).trans rfl
@[simp] theorem orV_e {ma mb : EM} : orV ma mb ρ = (ma ρ).bind (orVK mb) := (Eq.refl _).trans rfl
def notVK : D → List D → Res D := fun d ρ1 => (Res.of (blOf d) ρ1).bind fun b ρ2 => .ok (.bl (!b)) ρ2
@[simp] theorem notVK_e {b : Bool} : notVK (.bl b) ρ = .ok (.bl (!b)) ρ := (Eq.refl _).trans rfl
@[simp] theorem notV_e {m : EM} : notV m ρ = (m ρ).bind notVK := (Eq.refl _).trans rfl
def fzK : D → List D → Res D := fun d ρ1 => .ok (fz d) ρ1
@[simp] theorem fzK_e : fzK d ρ = .ok (fz d) ρ := (Eq.refl _).trans rfl
@[simp] theorem fzM_e {m : EM} : fzM m ρ = (m ρ).bind fzK := (Eq.refl _).trans rfl
def testK : D → List D → Res Bool := fun d ρ1 => Res.of (blOf d) ρ1
@[simp] theorem testK_e {b : Bool} : testK (.bl b) ρ = .ok b ρ := (Eq.refl _).trans rfl
@[simp] theorem testM_e {m : EM} : testM m ρ = (m ρ).bind testK := (Eq.refl _).trans rfl
def truK : D → List D → Res Bool := fun d ρ1 => Res.of (truD d) ρ1
@[simp] theorem truK_e : truK d ρ = Res.of (truD d) ρ := (Eq.refl _).trans rfl
@[simp] theorem truM_e {m : EM} : truM m ρ = (m ρ).bind truK := (Eq.refl _).trans rfl
def rngK (f : List D → Option (List D)) : List D → List D → Res (List D) := fun ds ρ1 => Res.of (f ds) ρ1
@[simp] theorem rngK_e {f : List D → Option (List D)} {ds : List D} : rngK f ds ρ = Res.of (f ds) ρ := (Eq.refl _).trans rfl
@[simp] theorem rngM_e {f : List D → Option (List D)} {ms : M (List D)} : rngM f ms ρ = (ms ρ).bind (rngK f) := (Eq.refl _).trans rfl
def itK : D → List D → Res (List D) := fun d ρ1 => Res.of ((sqOf d).map Sq.ds) ρ1
@[simp] theorem itK_e : itK d ρ = Res.of ((sqOf d).map Sq.ds) ρ := (Eq.refl _).trans rfl
@[simp] theorem itM_e {m : EM} : itM m ρ = (fzM m ρ).bind itK := (Eq.refl _).trans rfl
def lcE : List D → List D → Res D := fun acc ρ2 => .ok (.lst true acc) ρ2
def lcK (vs : List Nat) (g : D → List D → Option (List D)) (t : M Bool) (m : EM) : List D → List D → Res D := fun ds ρ1 => (lcLoop vs g t m ds [] (wipeD vs ρ1)).bind lcE
@[simp] theorem lcE_e {acc : List D} : lcE acc ρ = .ok (.lst true acc) ρ := (Eq.refl _).trans rfl
@[simp] theorem lcK_e {vs : List Nat} {g : D → List D → Option (List D)} {t : M Bool} {m : EM} {ds : List D} : lcK vs g t m ds ρ = (lcLoop vs g t m ds [] (wipeD vs ρ)).bind lcE := (Eq.refl _).trans rfl
@[simp] theorem wipeD_n : wipeD [] ρ = ρ := (Eq.refl _).trans rfl
@[simp] theorem wipeD_c {v : Nat} {vs : List Nat} : wipeD (v :: vs) ρ = (wipeD vs ρ).set v .un := (Eq.refl _).trans rfl
@[simp] theorem lcM_e {vs : List Nat} {it : M (List D)} {g : D → List D → Option (List D)} {t : M Bool} {m : EM} : lcM vs it g t m ρ = (it ρ).bind (lcK vs g t m) := (Eq.refl _).trans rfl
def dcE : List (Key × D) → List D → Res D := fun acc ρ2 => .ok (dicOf true acc) ρ2
def dcK (vs : List Nat) (g : D → List D → Option (List D)) (t : M Bool) (mk mz : EM) : List D → List D → Res D := fun ds ρ1 => (dcLoop vs g t mk mz ds [] (wipeD vs ρ1)).bind dcE
@[simp] theorem dcE_e {acc : List (Key × D)} : dcE acc ρ = .ok (dicOf true acc) ρ := (Eq.refl _).trans rfl
@[simp] theorem dcK_e {vs : List Nat} {g : D → List D → Option (List D)} {t : M Bool} {mk mz : EM} {ds : List D} : dcK vs g t mk mz ds ρ = (dcLoop vs g t mk mz ds [] (wipeD vs ρ)).bind dcE := (Eq.refl _).trans rfl
@[simp] theorem dcM_e {vs : List Nat} {it : M (List D)} {g : D → List D → Option (List D)} {t : M Bool} {mk mz : EM} : dcM vs it g t mk mz ρ = (it ρ).bind (dcK vs g t mk mz) := (Eq.refl _).trans rfl
def lstO (d0 : D) : D → Option (D × List D)
  | .lst true ds => some (d0, ds)
  | _ => none
@[simp] theorem lstP_e {ps : Path} : lstP i ps ρ = (ρ[i]?).bind fun d0 => (getP d0 ps).bind (lstO d0) := (Eq.refl _).trans rfl
@[simp] theorem lstO_e {d0 : D} {ds : List D} : lstO d0 (.lst true ds) = some (d0, ds) := (Eq.refl _).trans rfl
def lmO2 (i : Nat) (ps : Path) (ρ1 : List D) (d0 : D) : Option (D × List D) → Res D
  | some (d, ds') => .ok d (ρ1.set i (putP d0 ps (.lst true ds')))
  | none => .bad
def lmO (i : Nat) (ps : Path) (f : List D → List D → Option (D × List D)) (as ρ1 : List D) : Option (D × List D) → Res D
  | some (d0, ds) => lmO2 i ps ρ1 d0 (f ds as)
  | none => .bad
def lmK (i : Nat) (ps : Path) (f : List D → List D → Option (D × List D)) : List D → List D → Res D := fun as ρ1 => lmO i ps f as ρ1 (lstP i ps ρ1)
def lmB (i : Nat) (ps : Path) (f : List D → List D → Option (D × List D)) (ms : M (List D)) (ρ : List D) : Bool → Res D
  | true => (ms ρ).bind (lmK i ps f)
  | false => .bad
@[simp] theorem lmM_e {ps : Path} {f : List D → List D → Option (D × List D)} {ms : M (List D)} : lmM i ps f ms ρ = lmB i ps f ms ρ (lstP i ps ρ).isSome := by
  unfold lmM lmB
  cases (lstP i ps ρ).isSome with
  | false => rfl
  | true =>
    dsimp only
    rw [if_pos rfl]
    rfl
@[simp] theorem lmB_t {ps : Path} {f : List D → List D → Option (D × List D)} {ms : M (List D)} : lmB i ps f ms ρ true = (ms ρ).bind (lmK i ps f) := (Eq.refl _).trans rfl
@[simp] theorem lmK_e {ps : Path} {f : List D → List D → Option (D × List D)} {as : List D} : lmK i ps f as ρ = lmO i ps f as ρ (lstP i ps ρ) := (Eq.refl _).trans rfl
@[simp] theorem lmO_s {ps : Path} {f : List D → List D → Option (D × List D)} {as ds : List D} {d0 : D} : lmO i ps f as ρ (some (d0, ds)) = lmO2 i ps ρ d0 (f ds as) := (Eq.refl _).trans rfl
@[simp] theorem lmO2_s {ps : Path} {ds : List D} {d0 : D} : lmO2 i ps ρ d0 (some (d, ds)) = .ok d (ρ.set i (putP d0 ps (.lst true ds))) := (Eq.refl _).trans rfl
def ixO3 (i : Nat) (ps : Path) (ρ2 : List D) (d d0 : D) (ds : List D) : Option Nat → Res Fl
  | some j => .ok .nx (ρ2.set i (putP d0 ps (.lst true (ds.set j d))))
  | none => .bad
def ixO2 (i : Nat) (ps : Path) (d : D) (k : D) (ρ2 : List D) : Option (D × List D) → Res Fl
  | some (d0, ds) => (match k with
    | .int k => ixO3 i ps ρ2 d d0 ds (ixN ds.length k)
    | _ => .bad)
  | none => .bad
def ixK2 (i : Nat) (ps : Path) (d : D) : D → List D → Res Fl := fun k ρ2 => ixO2 i ps d k ρ2 (lstP i ps ρ2)
def ixO (i : Nat) (ps : Path) (m2 : EM) (d : D) (ρ1 : List D) : Option (D × List D) → Res Fl
  | some _ => (m2 ρ1).bind (ixK2 i ps d)
  | none => .bad
def ixK (i : Nat) (ps : Path) (m2 : EM) : D → List D → Res Fl := fun d ρ1 => ixO i ps m2 d ρ1 (lstP i ps ρ1)
@[simp] theorem ixSt_e {ps : Path} {m1 m2 : EM} : ixSt i ps m1 m2 ρ = (m1 ρ).bind (ixK i ps m2) := by
  unfold ixSt
  congr 1
  funext d ρ1
  unfold ixK ixO
  cases lstP i ps ρ1 with
  | none => rfl
  | some p =>
    dsimp only
    congr 1
    funext k ρ2
    unfold ixK2 ixO2
    cases lstP i ps ρ2 with
    | none => cases k <;> rfl
    | some p => cases k <;> first | rfl | (dsimp only; unfold ixO3; rfl)
@[simp] theorem ixK_e {ps : Path} {m2 : EM} : ixK i ps m2 d ρ = ixO i ps m2 d ρ (lstP i ps ρ) := (Eq.refl _).trans rfl
@[simp] theorem ixO_s {ps : Path} {m2 : EM} {p : D × List D} : ixO i ps m2 d ρ (some p) = (m2 ρ).bind (ixK2 i ps d) := (Eq.refl _).trans rfl
@[simp] theorem ixK2_e {ps : Path} {k : D} : ixK2 i ps d k ρ = ixO2 i ps d k ρ (lstP i ps ρ) := (Eq.refl _).trans rfl
@[simp] theorem ixO2_s {ps : Path} {k : Int} {d0 : D} {ds : List D} : ixO2 i ps d (.int k) ρ (some (d0, ds)) = ixO3 i ps ρ d d0 ds (ixN ds.length k) := (Eq.refl _).trans rfl
@[simp] theorem ixO3_s {ps : Path} {j : Nat} {d0 : D} {ds : List D} : ixO3 i ps ρ d d0 ds (some j) = .ok .nx (ρ.set i (putP d0 ps (.lst true (ds.set j d)))) := (Eq.refl _).trans rfl
def fldO2 (i : Nat) (ps : Path) (c f : Str) (d d0 : D) (ρ1 : List D) : Option D → Res Fl
  | some (.obj true c' ns ds) => if c' = c ∧ ns.length < 1000 then .ok .nx (ρ1.set i (putP d0 ps (.obj true c (fldPut f d ns ds).1 (fldPut f d ns ds).2))) else .bad
  | _ => .bad
def fldO (i : Nat) (ps : Path) (c f : Str) (d : D) (ρ1 : List D) : Option D → Res Fl
  | some d0 => fldO2 i ps c f d d0 ρ1 (getP d0 ps)
  | none => .bad
def fldK (i : Nat) (ps : Path) (c f : Str) : D → List D → Res Fl := fun d ρ1 => fldO i ps c f d ρ1 ρ1[i]?
@[simp] theorem stFld_e {ps : Path} {c f : Str} {m : EM} : stFld i ps c f m ρ = (m ρ).bind (fldK i ps c f) := by
  unfold stFld
  congr 1
@[simp] theorem fldK_e {ps : Path} {c f : Str} : fldK i ps c f d ρ = fldO i ps c f d ρ ρ[i]? := (Eq.refl _).trans rfl
@[simp] theorem fldO_s {ps : Path} {c f : Str} {d0 : D} : fldO i ps c f d ρ (some d0) = fldO2 i ps c f d d0 ρ (getP d0 ps) := (Eq.refl _).trans rfl
@[simp] theorem fldO2_s {ps : Path} {c f : Str} {d0 : D} {ns : List Str} {ds : List D} (h : ns.length < 1000) : fldO2 i ps c f d d0 ρ (some (.obj true c ns ds)) = .ok .nx (ρ.set i (putP d0 ps (.obj true c (fldPut f d ns ds).1 (fldPut f d ns ds).2))) := if_pos ⟨rfl, h⟩
def chnK3 (g : Int → Int → Bool) (j : Int) : D → List D → Res D := fun d3 ρ3 => match d3 with
  | .int k => .ok (.bl (g j k)) ρ3
  | _ => .bad
def chnB (g : Int → Int → Bool) (mc : EM) (j : Int) (ρ : List D) : Bool → Res D
  | true => (mc ρ).bind (chnK3 g j)
  | false => .ok (.bl false) ρ
def chnK2 (f g : Int → Int → Bool) (mc : EM) (d1 : D) : D → List D → Res D := fun d2 ρ2 => match d1, d2 with
  | .int i, .int j => chnB g mc j ρ2 (f i j)
  | _, _ => .bad
def chnK (f g : Int → Int → Bool) (mb mc : EM) : D → List D → Res D := fun d1 ρ1 => (mb ρ1).bind (chnK2 f g mc d1)
@[simp] theorem chnM_e {f g : Int → Int → Bool} {ma mb mc : EM} : chnM f g ma mb mc ρ = (ma ρ).bind (chnK f g mb mc) := by
  unfold chnM
  congr 1
  funext d1 ρ1
  unfold chnK
  congr 1
  funext d2 ρ2
  unfold chnK2
  cases d1 <;> first | rfl | (cases d2 <;> first | rfl | (dsimp only; unfold chnB; split <;> rename_i h <;> simp [h] <;> rfl))
@[simp] theorem chnK_e {f g : Int → Int → Bool} {mb mc : EM} : chnK f g mb mc d ρ = (mb ρ).bind (chnK2 f g mc d) := (Eq.refl _).trans rfl
@[simp] theorem chnK2_e {f g : Int → Int → Bool} {mc : EM} {i j : Int} : chnK2 f g mc (.int i) (.int j) ρ = chnB g mc j ρ (f i j) := (Eq.refl _).trans rfl
@[simp] theorem chnB_t {g : Int → Int → Bool} {mc : EM} {j : Int} : chnB g mc j ρ true = (mc ρ).bind (chnK3 g j) := (Eq.refl _).trans rfl
@[simp] theorem chnB_f {g : Int → Int → Bool} {mc : EM} {j : Int} : chnB g mc j ρ false = .ok (.bl false) ρ := (Eq.refl _).trans rfl
@[simp] theorem chnK3_e {g : Int → Int → Bool} {j k : Int} : chnK3 g j (.int k) ρ = .ok (.bl (g j k)) ρ := (Eq.refl _).trans rfl

def partK : D → List D → Res (Option Int) := fun d ρ1 => match d with
  | .int i => .ok (some i) ρ1
  | _ => .bad
@[simp] theorem partK_e {i : Int} : partK (.int i) ρ = .ok (some i) ρ := (Eq.refl _).trans rfl
@[simp] theorem partM_e {m : EM} : partM m ρ = (m ρ).bind partK := (Eq.refl _).trans rfl
def slK3 (l : Option Int) : Option Int → List D → Res (Option Int × Option Int) := fun u ρ3 => .ok (l, u) ρ3
def slK2 (ph : M (Option Int)) : Option Int → List D → Res (Option Int × Option Int) := fun l ρ2 => (ph ρ2).bind (slK3 l)
def slE (d : D) : Option Int × Option Int → List D → Res D := fun b ρ2 => Res.of (slD d b) ρ2
def slK (pl ph : M (Option Int)) : D → List D → Res D := fun d ρ1 => ((pl ρ1).bind (slK2 ph)).bind (slE d)
@[simp] theorem slM_e {m : EM} {pl ph : M (Option Int)} : slM m pl ph ρ = (m ρ).bind (slK pl ph) := (Eq.refl _).trans rfl
@[simp] theorem slK_e {pl ph : M (Option Int)} : slK pl ph d ρ = ((pl ρ).bind (slK2 ph)).bind (slE d) := (Eq.refl _).trans rfl
@[simp] theorem slK2_e {ph : M (Option Int)} {l : Option Int} : slK2 ph l ρ = (ph ρ).bind (slK3 l) := (Eq.refl _).trans rfl
@[simp] theorem slK3_e {l u : Option Int} : slK3 l u ρ = .ok (l, u) ρ := (Eq.refl _).trans rfl
@[simp] theorem slE_e {p : Option Int × Option Int} : slE d p ρ = Res.of (slD d p) ρ := (Eq.refl _).trans rfl
@[simp] theorem tgN_e : tgN i d ρ = if i < ρ.length then some (ρ.set i d) else none := (Eq.refl _).trans rfl
@[simp] theorem tgNil_e : tgNil [] ρ = some ρ := (Eq.refl _).trans rfl
@[simp] theorem tgCons_e {g : D → List D → Option (List D)} {gs : List D → List D → Option (List D)} {ds : List D} : tgCons g gs (d :: ds) ρ = (g d ρ).bind (gs ds) := (Eq.refl _).trans rfl
@[simp] theorem tgTup_e {gs : List D → List D → Option (List D)} {ds : List D} : tgTup n gs (.tup ds) ρ = if ds.length = n then gs ds ρ else none := (Eq.refl _).trans rfl
/-! a call -/
def post4 (ρo : Option (List D)) (f : List D → Res D) : Res D := match ρo with
  | some ρ3 => f ρ3
  | none => .bad
def post3 (ks : List AK) (ρ2 : List D) : Res D → Res D
  | .ok d es => post4 (putK ks es ρ2) (.ok d)
  | .ex z es => post4 (putK ks es ρ2) (.ex z)
  | .bad => .bad
def post2 (n : Nat) (ks : List AK) (fm : FM) : Option (List D × List D) → Res D
  | some (ds', ρ2) => if ds'.length = n then post3 ks ρ2 (fm ds') else .bad
  | none => .bad
def callK (n : Nat) (ks : List AK) (fm : FM) : List D → List D → Res D := fun ds ρ1 => post2 n ks fm (takeK ks ds ρ1)
theorem postM_e {ks : List AK} {fm : FM} {ds : List D} : postM n ks fm ds ρ = post2 n ks fm (takeK ks ds ρ) := by
  unfold postM post2 post3 post4
  cases takeK ks ds ρ with
  | none => rfl
  | some p => first
    | rfl
    | (dsimp only
       split
       · cases fm p.1 <;> rfl
       · rfl)
@[simp] theorem callM_e {ks : List AK} {fm : FM} {ms : M (List D)} : callM n ks fm ms ρ = (ms ρ).bind (callK n ks fm) := by
  rfl
@[simp] theorem callK_e {ks : List AK} {fm : FM} {ds : List D} : callK n ks fm ds ρ = post2 n ks fm (takeK ks ds ρ) := (Eq.refl _).trans rfl
@[simp] theorem post2_e {ks : List AK} {fm : FM} {ds : List D} (h : ds.length = n) : post2 n ks fm (some (ds, ρ)) = post3 ks ρ (fm ds) := if_pos h
@[simp] theorem post3_ok {ks : List AK} {es : List D} : post3 ks ρ (.ok d es) = post4 (putK ks es ρ) (.ok d) := (Eq.refl _).trans rfl
@[simp] theorem post3_ex {ks : List AK} {es : List D} {z : Str} : post3 ks ρ (.ex z es) = post4 (putK ks es ρ) (.ex z) := (Eq.refl _).trans rfl
@[simp] theorem post4_s {f : List D → Res D} : post4 (some ρ) f = f ρ := (Eq.refl _).trans rfl
@[simp] theorem takeK_n {ds : List D} : takeK [] ds ρ = some ([], ρ) := by cases ds <;> rfl
@[simp] theorem takeK_t {ks : List AK} {ds : List D} : takeK (.tmp :: ks) (d :: ds) ρ = (takeK ks ds ρ).map fun p => (d :: p.1, p.2) := (Eq.refl _).trans rfl
@[simp] theorem takeK_p {ks : List AK} {ps : Path} {ds : List D} : takeK (.plc i ps :: ks) ds ρ = (ρ[i]?).bind fun d0 => (getP d0 ps).bind fun c => if has? c then (takeK ks ds (ρ.set i (putP d0 ps .un))).map fun p => (c :: p.1, p.2) else none := by cases ds <;> rfl
@[simp] theorem putK_n {es : List D} : putK [] es ρ = some ρ := by cases es <;> rfl
@[simp] theorem putK_t {ks : List AK} {es : List D} : putK (.tmp :: ks) (d :: es) ρ = putK ks es ρ := (Eq.refl _).trans rfl
@[simp] theorem putK_p {ks : List AK} {ps : Path} {es : List D} : putK (.plc i ps :: ks) (d :: es) ρ = (putK ks es ρ).bind fun ρ' => (ρ'[i]?).bind fun d0 => if (getP d0 ps).isSome then some (ρ'.set i (putP d0 ps d)) else none := (Eq.refl _).trans rfl
/-! a new object -/
def new3 (ks : List AK) (ρ2 : List D) : Res D → Res D
  | .ok .non (d :: es) => post4 (putK ks es ρ2) (.ok d)
  | .ex z (_ :: es) => post4 (putK ks es ρ2) (.ex z)
  | _ => .bad
def new2 (n : Nat) (c : Str) (ks : List AK) (fm : FM) : Option (List D × List D) → Res D
  | some (ds', ρ2) => if ds'.length + 1 = n then new3 ks ρ2 (fm (.obj true c [] [] :: ds')) else .bad
  | none => .bad
def newK (n : Nat) (c : Str) (ks : List AK) (fm : FM) : List D → List D → Res D := fun ds ρ1 => new2 n c ks fm (takeK ks ds ρ1)
@[simp] theorem newM_e {c : Str} {ks : List AK} {fm : FM} {ms : M (List D)} : newM n c ks fm ms ρ = (ms ρ).bind (newK n c ks fm) := by
  unfold newM
  rfl
@[simp] theorem newK_e {c : Str} {ks : List AK} {fm : FM} {ds : List D} : newK n c ks fm ds ρ = new2 n c ks fm (takeK ks ds ρ) := (Eq.refl _).trans rfl
@[simp] theorem new2_e {c : Str} {ks : List AK} {fm : FM} {ds : List D} (h : ds.length + 1 = n) : new2 n c ks fm (some (ds, ρ)) = new3 ks ρ (fm (.obj true c [] [] :: ds)) := if_pos h
@[simp] theorem new3_ok {ks : List AK} {es : List D} : new3 ks ρ (.ok .non (d :: es)) = post4 (putK ks es ρ) (.ok d) := (Eq.refl _).trans rfl
@[simp] theorem new3_ex {ks : List AK} {es : List D} {z : Str} : new3 ks ρ (.ex z (d :: es)) = post4 (putK ks es ρ) (.ex z) := (Eq.refl _).trans rfl
/-! a def -/
def fnEnd (n : Nat) (SA : List Nat) : Res Fl → Res D
  | .ok (.ret d) ρ => .ok d (fin SA 0 (ρ.take n))
  | .ok .nx ρ => .ok .non (fin SA 0 (ρ.take n))
  | .ex z ρ => .ex z (fin SA 0 (ρ.take n))
  | _ => .bad
theorem fnM_e {SA : List Nat} {b : SM} {ds : List D} (h : ds.length = n) : fnM n N SA b ds = fnEnd n SA (b (ds ++ List.replicate (N - n) .un)) := by
  unfold fnM fnEnd
  rw [if_pos h] <;> rfl
@[simp] theorem fnEnd_ret {SA : List Nat} : fnEnd n SA (.ok (.ret d) ρ) = .ok d (fin SA 0 (ρ.take n)) := (Eq.refl _).trans rfl
@[simp] theorem fnEnd_nx {SA : List Nat} : fnEnd n SA (.ok .nx ρ) = .ok .non (fin SA 0 (ρ.take n)) := (Eq.refl _).trans rfl
@[simp] theorem fnEnd_ex {SA : List Nat} {z : Str} : fnEnd n SA (.ex z ρ) = .ex z (fin SA 0 (ρ.take n)) := (Eq.refl _).trans rfl
@[simp] theorem fin_n {SA : List Nat} {j : Nat} : fin SA j [] = [] := (Eq.refl _).trans rfl
@[simp] theorem fin_c {SA : List Nat} {j : Nat} {ds : List D} : fin SA j (d :: ds) = (if SA.contains j then .un else d) :: fin SA (j + 1) ds := (Eq.refl _).trans rfl
/-! try -/
def tryE (i : Nat) : Res Fl → Res Fl
  | .ex z ρ1 => if i < ρ1.length then .ok (.ret (.str z)) ρ1 else .bad
  | r => r
@[simp] theorem tryM_e {m : SM} : tryM i m ρ = tryE i (m ρ) := by unfold tryM tryE; rfl
@[simp] theorem tryE_ok {f : Fl} : tryE i (.ok f ρ) = .ok f ρ := (Eq.refl _).trans rfl
@[simp] theorem tryE_ex {z : Str} (h : i < ρ.length) : tryE i (.ex z ρ) = .ok (.ret (.str z)) ρ := if_pos h
/-! loops -/
@[simp] theorem forM_n {g : D → List D → Option (List D)} {b : SM} : forM g b [] ρ = .ok .nx ρ := (Eq.refl _).trans rfl
/-- behind a turn -/
def turnK (k : List D → Res Fl) : Fl → List D → Res Fl := fun f ρ2 => match f with
    | .nx => k ρ2
    | .ct => k ρ2
    | .bk => .ok .nx ρ2
    | .ret d => .ok (.ret d) ρ2
def forO (g : D → List D → Option (List D)) (b : SM) (ds : List D) : Option (List D) → Res Fl
  | some ρ1 => (b ρ1).bind (turnK (forM g b ds))
  | none => .bad
theorem forM_c {g : D → List D → Option (List D)} {b : SM} {ds : List D} : forM g b (d :: ds) ρ = forO g b ds (g d ρ) := by
  rw [forM]
  unfold forO
  cases g d ρ <;> rfl
@[simp] theorem forO_s {g : D → List D → Option (List D)} {b : SM} {ds : List D} : forO g b ds (some ρ) = (b ρ).bind (turnK (forM g b ds)) := (Eq.refl _).trans rfl
@[simp] theorem turnK_nx {k : List D → Res Fl} : turnK k .nx ρ = k ρ := (Eq.refl _).trans rfl
@[simp] theorem turnK_ct {k : List D → Res Fl} : turnK k .ct ρ = k ρ := (Eq.refl _).trans rfl
@[simp] theorem turnK_bk {k : List D → Res Fl} : turnK k .bk ρ = .ok .nx ρ := (Eq.refl _).trans rfl
@[simp] theorem turnK_ret {k : List D → Res Fl} : turnK k (.ret d) ρ = .ok (.ret d) ρ := (Eq.refl _).trans rfl
@[simp] theorem lcLoop_n {vs : List Nat} {g : D → List D → Option (List D)} {t : M Bool} {m : EM} {acc : List D} : lcLoop vs g t m [] acc ρ = .ok acc ρ := (Eq.refl _).trans rfl
/-- a comprehension's turn: none (left out), or the item; and the slots behind it -/
def lcY (vs : List Nat) : D → List D → Res (Option D) := fun y ρ3 => .ok (some y) (wipeD vs ρ3)
def lcT (vs : List Nat) (m : EM) : Bool → List D → Res (Option D) := fun c ρ2 => if c = true then (m ρ2).bind (lcY vs) else .ok none (wipeD vs ρ2)
def lcO (vs : List Nat) (t : M Bool) (m : EM) : Option (List D) → Res (Option D)
  | some ρ1 => (t ρ1).bind (lcT vs m)
  | none => .bad
@[simp] theorem lcY_e {vs : List Nat} : lcY vs d ρ = .ok (some d) (wipeD vs ρ) := (Eq.refl _).trans rfl
@[simp] theorem lcT_t {vs : List Nat} {m : EM} : lcT vs m true ρ = (m ρ).bind (lcY vs) := (Eq.refl _).trans rfl
@[simp] theorem lcT_f {vs : List Nat} {m : EM} : lcT vs m false ρ = .ok none (wipeD vs ρ) := (Eq.refl _).trans rfl
@[simp] theorem lcO_s {vs : List Nat} {t : M Bool} {m : EM} : lcO vs t m (some ρ) = (t ρ).bind (lcT vs m) := (Eq.refl _).trans rfl
theorem lcLoop_c {vs : List Nat} {g : D → List D → Option (List D)} {t : M Bool} {m : EM} {ds acc : List D} {o : Option D} (h : lcO vs t m (g d ρ) = .ok o ρ') (ha : acc.length < big) :
    lcLoop vs g t m (d :: ds) acc ρ = lcLoop vs g t m ds (acc ++ o.toList) ρ' := by
  rw [lcLoop]
  cases e1 : g d ρ with
  | none => rw [e1] at h; cases h
  | some ρ1 =>
    rw [e1, lcO_s] at h
    dsimp only
    cases e2 : t ρ1 with
    | bad => rw [e2] at h; cases h
    | ex z r => rw [e2] at h; cases h
    | ok c ρ2 =>
      rw [e2] at h
      simp only [Res.bind_ok] at h
      cases c with
      | false =>
        rw [lcT_f] at h
        cases h
        simp
      | true =>
        rw [lcT_t] at h
        dsimp only
        cases e3 : m ρ2 with
        | bad => rw [e3] at h; cases h
        | ex z r => rw [e3] at h; cases h
        | ok y ρ3 =>
          rw [e3] at h
          simp only [Res.bind_ok, lcY_e] at h
          cases h
          simp [ha]
end
/-! ### what is wanted of an end -/
section
variable {α β : Type} {ρ : List D} {P : α → List D → Prop}
/-- it ends well, and so -/
def Vl (r : Res α) (P : α → List D → Prop) : Prop := ∃ a ρ, r = .ok a ρ ∧ P a ρ
def GO (o : Option α) (P : α → Prop) : Prop := ∃ a, o = some a ∧ P a
@[simp] theorem Vl_ok {a : α} : Vl (.ok a ρ) P ↔ P a ρ := ⟨fun ⟨_, _, e, h⟩ => by cases e; exact h, fun h => ⟨_, _, rfl, h⟩⟩
@[simp] theorem Vl_bad : Vl (.bad : Res α) P ↔ False := ⟨fun h => (by obtain ⟨_, _, e, _⟩ := h; cases e), False.elim⟩
@[simp] theorem Vl_ex {z : Str} : Vl (.ex z ρ : Res α) P ↔ False := ⟨fun h => (by obtain ⟨_, _, e, _⟩ := h; cases e), False.elim⟩
@[simp] theorem GO_s {a : α} {P : α → Prop} : GO (some a) P ↔ P a := ⟨fun ⟨_, e, h⟩ => by cases e; exact h, fun h => ⟨_, rfl, h⟩⟩
@[simp] theorem Vl_bind {r : Res β} {f : β → List D → Res α} : Vl (r.bind f) P ↔ Vl r (fun b ρ => Vl (f b ρ) P) := by
  cases r with
  | ok b ρ' => simp
  | ex z ρ' => simp [Vl]
  | bad => simp [Vl]
theorem Vl.imp {r : Res α} {P Q : α → List D → Prop} (h : Vl r P) (i : ∀ a ρ, P a ρ → Q a ρ) : Vl r Q := by
  obtain ⟨a, ρ, e, h⟩ := h
  exact ⟨a, ρ, e, i _ _ h⟩
/-- behind a body -/
def FE (n : Nat) (SA : List Nat) (P : D → List D → Prop) : Fl → List D → Prop
  | .ret d, ρ => P d (fin SA 0 (ρ.take n))
  | .nx, ρ => P .non (fin SA 0 (ρ.take n))
  | _, _ => False
@[simp] theorem FE_ret {n : Nat} {SA : List Nat} {P : D → List D → Prop} {d : D} : FE n SA P (.ret d) ρ ↔ P d (fin SA 0 (ρ.take n)) := Iff.trans .rfl .rfl
@[simp] theorem FE_nx {n : Nat} {SA : List Nat} {P : D → List D → Prop} : FE n SA P .nx ρ ↔ P .non (fin SA 0 (ρ.take n)) := Iff.trans .rfl .rfl
@[simp] theorem Vl_fnEnd {n : Nat} {SA : List Nat} {P : D → List D → Prop} {r : Res Fl} : Vl (fnEnd n SA r) P ↔ Vl r (FE n SA P) := by
  cases r with
  | ok f ρ' => cases f <;> simp [fnEnd, FE]
  | ex z ρ' => simp
  | bad => simp [fnEnd]
theorem Vl_iteK {a b : M α} {c : Bool} (h1 : c = true → Vl (a ρ) P) (h2 : c = false → Vl (b ρ) P) : Vl (iteK a b c ρ) P := by
  cases c with
  | true => simp; exact h1 rfl
  | false => simp; exact h2 rfl
/-- a call, by what is known of the def -/
theorem Vl_call {ks : List AK} {r : Res D} {Q P : D → List D → Prop} (h : Vl r Q) (k : ∀ d es, Q d es → Vl (post4 (putK ks es ρ) (.ok d)) P) : Vl (post3 ks ρ r) P := by
  obtain ⟨d, es, rfl, h⟩ := h
  rw [post3_ok]
  exact k d es h
theorem Vl_new {ks : List AK} {r : Res D} {Q P : D → List D → Prop} (h : Vl r Q) (k : ∀ d es, Q d es → d = .non ∧ ∃ x xs, es = x :: xs ∧ Vl (post4 (putK ks xs ρ) (.ok x)) P) : Vl (new3 ks ρ r) P := by
  obtain ⟨d, es, rfl, h⟩ := h
  obtain ⟨rfl, x, xs, rfl, q⟩ := k d es h
  rw [new3_ok]
  exact q
def StP (I : List D → Prop) (P : Fl → List D → Prop) : Fl → List D → Prop
  | .nx, ρ => I ρ
  | .ct, ρ => I ρ
  | .bk, ρ => P .nx ρ
  | .ret d, ρ => P (.ret d) ρ
@[simp] theorem StP_nx {I : List D → Prop} {P : Fl → List D → Prop} : StP I P .nx ρ ↔ I ρ := .rfl
@[simp] theorem StP_ct {I : List D → Prop} {P : Fl → List D → Prop} : StP I P .ct ρ ↔ I ρ := .rfl
@[simp] theorem StP_bk {I : List D → Prop} {P : Fl → List D → Prop} : StP I P .bk ρ ↔ P .nx ρ := .rfl
@[simp] theorem StP_ret {d : D} {I : List D → Prop} {P : Fl → List D → Prop} : StP I P (.ret d) ρ ↔ P (.ret d) ρ := .rfl
theorem Vl_for {g : D → List D → Option (List D)} {b : SM} {P : Fl → List D → Prop} : ∀ {ds : List D} (I : Nat → List D → Prop) {ρ : List D}, I 0 ρ →
    (∀ i d ρ, ds[i]? = some d → I i ρ → GO (g d ρ) fun ρ1 => Vl (b ρ1) (StP (I (i + 1)) P)) → (∀ ρ, I ds.length ρ → P .nx ρ) → Vl (forM g b ds ρ) P
  | [], I, ρ, h0, _, he => ⟨_, _, rfl, he _ h0⟩
  | d :: ds, I, ρ, h0, hs, he => by
    obtain ⟨ρ1, e1, f, ρ2, e2, h⟩ := hs 0 d ρ rfl h0
    rw [forM_c, e1, forO_s, e2, Res.bind_ok]
    have hI : I 1 ρ2 → Vl (forM g b ds ρ2) P := fun h => Vl_for (fun i => I (i + 1)) h (fun i d ρ e hi => hs (i + 1) d ρ e hi) he
    cases f with
    | nx => rw [turnK_nx]; exact hI h
    | ct => rw [turnK_ct]; exact hI h
    | bk => rw [turnK_bk]; exact Vl_ok.mpr h
    | ret d => rw [turnK_ret]; exact Vl_ok.mpr h
theorem Vl_lc {vs : List Nat} {g : D → List D → Option (List D)} {t : M Bool} {m : EM} {P : List D → List D → Prop} : ∀ {ds acc : List D} (I : Nat → List D → List D → Prop) {ρ : List D}, I 0 acc ρ →
    (∀ i d acc ρ, ds[i]? = some d → I i acc ρ → acc.length < big ∧ GO (g d ρ) fun ρ1 => Vl (t ρ1) fun c ρ2 => (c = true → Vl (m ρ2) fun y ρ3 => I (i + 1) (acc ++ [y]) (wipeD vs ρ3)) ∧ (c = false → I (i + 1) acc (wipeD vs ρ2))) →
    (∀ acc ρ, I ds.length acc ρ → P acc ρ) → Vl (lcLoop vs g t m ds acc ρ) P
  | [], acc, I, ρ, h0, _, he => ⟨_, _, rfl, he _ _ h0⟩
  | d :: ds, acc, I, ρ, h0, hs, he => by
    obtain ⟨hb, ρ1, e1, c, ρ2, e2, h1, h2⟩ := hs 0 d acc ρ rfl h0
    cases c with
    | false =>
      rw [lcLoop_c (o := none) (ρ' := wipeD vs ρ2) (by rw [e1, lcO_s, e2, Res.bind_ok, lcT_f]) hb]
      simp only [Option.toList, List.append_nil]
      exact Vl_lc (fun i => I (i + 1)) (h2 rfl) (fun i d acc ρ e hi => hs (i + 1) d acc ρ e hi) he
    | true =>
      obtain ⟨y, ρ3, e3, h3⟩ := h1 rfl
      rw [lcLoop_c (o := some y) (ρ' := wipeD vs ρ3) (by rw [e1, lcO_s, e2, Res.bind_ok, lcT_t, e3, Res.bind_ok, lcY_e]) hb]
      exact Vl_lc (fun i => I (i + 1)) h3 (fun i d acc ρ e hi => hs (i + 1) d acc ρ e hi) he
/-- a comprehension that leaves the slots as they are: the items' list -/
theorem lc_map {τ : Type} {vs : List Nat} {g : D → List D → Option (List D)} {t : M Bool} {m : EM} {enc : τ → D} {p : τ → Bool} {f : τ → D} {ρ : List D}
    (h : ∀ x, lcO vs t m (g (enc x) ρ) = .ok (if p x = true then some (f x) else none) ρ) : ∀ (xs : List τ) (acc : List D), acc.length + xs.length ≤ big →
    lcLoop vs g t m (xs.map enc) acc ρ = .ok (acc ++ (xs.filter p).map f) ρ
  | [], acc, _ => by simp
  | x :: xs, acc, hb => by
    simp only [List.length_cons] at hb
    rw [List.map_cons, lcLoop_c (h x) (by omega)]
    by_cases c : p x = true
    · rw [if_pos c, lc_map h xs _ (by simp; omega)]
      simp [c]
    · rw [if_neg c, lc_map h xs _ (by simp; omega)]
      simp [c]
theorem lc_all {vs : List Nat} {g : D → List D → Option (List D)} {t : M Bool} {m : EM} {f : D → D} {ρ : List D} : ∀ {ds acc : List D}, (∀ d ∈ ds, lcO vs t m (g d ρ) = .ok (some (f d)) ρ) → acc.length + ds.length ≤ big →
    lcLoop vs g t m ds acc ρ = .ok (acc ++ ds.map f) ρ
  | [], acc, _, _ => by simp
  | d :: ds, acc, h, hb => by
    simp only [List.length_cons] at hb
    rw [lcLoop_c (h d (by simp)) (by omega), lc_all (fun d hd => h d (by simp [hd])) (by simp; omega)]
    simp
theorem hide {α : Sort _} (x : α) : ∃ y, y = x := ⟨x, rfl⟩
theorem rangeD_get {lo : Int} {n i : Nat} {d : D} (h : (rangeD lo n)[i]? = some d) : d = .int (lo + i) ∧ i < n := by
  unfold rangeD at h
  rw [List.getElem?_map] at h
  cases e : (List.range n)[i]? with
  | none => rw [e] at h; cases h
  | some k =>
    rw [e] at h
    cases h
    rw [List.getElem?_eq_some_iff] at e
    obtain ⟨h1, h2⟩ := e
    simp at h1 h2
    exact ⟨by rw [← h2], h1⟩
@[simp] theorem rangeD_len {lo : Int} {n : Nat} : (rangeD lo n).length = n := by simp [rangeD]
end
/-- a loop that carries a state -/
theorem forM_fold {σ τ : Type} {g : D → List D → Option (List D)} {b : SM} (enc : τ → D) (S : σ → List D) (step : σ → τ → σ)
    (h : ∀ s x, ∃ ρ1, g (enc x) (S s) = some ρ1 ∧ b ρ1 = .ok .nx (S (step s x))) : ∀ (xs : List τ) (s : σ), forM g b (xs.map enc) (S s) = .ok .nx (S (xs.foldl step s))
  | [], s => rfl
  | x :: xs, s => by
    obtain ⟨ρ1, e1, e2⟩ := h s x
    rw [List.map_cons, forM_c, e1, forO_s, e2]
    exact forM_fold enc S step h xs _
end VS
set_option Elab.async false
set_option linter.all false
set_option maxRecDepth 100000
set_option maxHeartbeats 4000000
/-! PL1: how methods, places looked at, field targets are reckoned. -/
namespace VS
open PySem PySem.Spec PyProof.Rows L2
section
variable {ρ : List D} {d a b : D} {i n : Nat} {ps : Path} {c m : Str} {ks : List AK} {fm : FM} {ms : M (List D)} {ns : List Str} {ds : List D} {e : EM} {mm : Bool} {x y : Int} {p q neg : Bool}
def objO (c m : Str) : Option D → Bool
  | some (.obj true c' ns _) => decide (c' = c) && !ns.contains m
  | _ => false
def methO (n : Nat) (i : Nat) (ps : Path) (ks : List AK) (fm : FM) (ms : M (List D)) (ρ : List D) : Bool → Res D
  | true => callM n (.plc i ps :: ks) fm (plcM i ps ms) ρ
  | false => .bad
theorem objAt_e : objAt i ps c m ρ = objO c m ((ρ[i]?).bind (getP · ps)) := by
  unfold objAt objO
  cases (ρ[i]?).bind (getP · ps) with
  | none => rfl
  | some d => cases d <;> first | rfl | (rename_i f _ _ _; cases f <;> rfl)
@[simp] theorem methM_e : methM n c m i ps ks fm ms ρ = methO n i ps ks fm ms ρ (objO c m ((ρ[i]?).bind (getP · ps))) := by
  rw [← objAt_e]
  unfold methM methO
  cases objAt i ps c m ρ <;> rfl
@[simp] theorem methO_t : methO n i ps ks fm ms ρ true = callM n (.plc i ps :: ks) fm (plcM i ps ms) ρ := (Eq.refl _).trans rfl
@[simp] theorem objO_s : objO c m (some (.obj true c ns ds)) = !ns.contains m := by simp [objO]
def pkO : Option D → Option D
  | some d => if has? d = true then some d else none
  | none => none
@[simp] theorem pkD_e : pkD i ps ρ = pkO ((ρ[i]?).bind (getP · ps)) := (Eq.refl _).trans rfl
@[simp] theorem pkO_s (h : has? d = true) : pkO (some d) = some d := if_pos h
@[simp] theorem pkM_e {f : D → Option D} : pkM f i ps ρ = Res.of ((pkD i ps ρ).bind f) ρ := (Eq.refl _).trans rfl
@[simp] theorem pkL_l (h : pures? ds = true) : pkL (.lst mm ds) = some (.lst true ds) := by simp [pkL, h]
@[simp] theorem pkL_t (h : pures? ds = true) : pkL (.tup ds) = some (.lst true ds) := by simp [pkL, h]
@[simp] theorem pkT_l (h : pures? ds = true) : pkT (.lst mm ds) = some (.tup ds) := by simp [pkT, h]
def ixpK (d : D) : D → List D → Res D := fun k ρ1 => Res.of ((ixD d k).bind fun z => if pure? z = true then some z else none) ρ1
def ixpO (m : EM) (ρ : List D) : Option D → Res D
  | some d => (m ρ).bind (ixpK d)
  | none => .bad
@[simp] theorem ixPM_e : ixPM i ps e ρ = ixpO e ρ (pkD i ps ρ) := by unfold ixPM ixpO; cases pkD i ps ρ <;> rfl
@[simp] theorem ixpO_s : ixpO e ρ (some d) = (e ρ).bind (ixpK d) := (Eq.refl _).trans rfl
@[simp] theorem ixpK_e : ixpK d a ρ = Res.of ((ixD d a).bind fun z => if pure? z = true then some z else none) ρ := (Eq.refl _).trans rfl
def inpK (neg : Bool) (i : Nat) (ps : Path) : D → List D → Res D := fun d1 ρ1 => Res.of ((pkD i ps ρ1).bind fun d => inP neg d1 d) ρ1
@[simp] theorem inPM_e : inPM neg e i ps ρ = (e ρ).bind (inpK neg i ps) := (Eq.refl _).trans rfl
@[simp] theorem inpK_e : inpK neg i ps d ρ = Res.of ((pkD i ps ρ).bind fun c => inP neg d c) ρ := (Eq.refl _).trans rfl
def asgXK (g : D → List D → Option (List D)) : D → List D → Res Fl := fun d ρ1 => if pure? d = true then (Res.of (g d ρ1) ρ1).bind fun ρ2 _ => .ok .nx ρ2 else .bad
@[simp] theorem asgX_e {g : D → List D → Option (List D)} : asgX g e ρ = (e ρ).bind (asgXK g) := (Eq.refl _).trans rfl
@[simp] theorem asgXK_e {g : D → List D → Option (List D)} (h : pure? d = true) : asgXK g d ρ = asgO ρ (g d ρ) := by unfold asgXK asgO; rw [if_pos h]; cases g d ρ <;> rfl
@[simp] theorem tgTupX_e {gs : List D → List D → Option (List D)} : tgTupX n gs (.tup ds) ρ = if ds.length = n then gs ds ρ else none := (Eq.refl _).trans rfl
def tgFO2 (i : Nat) (ps : Path) (c f : Str) (d d0 : D) (ρ : List D) : Option D → Option (List D)
  | some (.obj true c' ns ds) => if c' = c ∧ ns.length < 1000 then some (ρ.set i (putP d0 ps (.obj true c (fldPut f d ns ds).1 (fldPut f d ns ds).2))) else none
  | _ => none
def tgFO (i : Nat) (ps : Path) (c f : Str) (d : D) (ρ : List D) : Option D → Option (List D)
  | some d0 => tgFO2 i ps c f d d0 ρ (getP d0 ps)
  | none => none
@[simp] theorem tgF_e {f : Str} : tgF i ps c f d ρ = tgFO i ps c f d ρ ρ[i]? := by
  unfold tgF tgFO tgFO2
  cases ρ[i]? with
  | none => rfl
  | some d0 => rfl
@[simp] theorem tgFO_s {f : Str} {d0 : D} : tgFO i ps c f d ρ (some d0) = tgFO2 i ps c f d d0 ρ (getP d0 ps) := (Eq.refl _).trans rfl
@[simp] theorem tgFO2_s {f : Str} {d0 : D} (h : ns.length < 1000) : tgFO2 i ps c f d d0 ρ (some (.obj true c ns ds)) = some (ρ.set i (putP d0 ps (.obj true c (fldPut f d ns ds).1 (fldPut f d ns ds).2))) := if_pos ⟨rfl, h⟩
@[simp] theorem addI_e : addI (.int x) (.int y) = some (.int (x + y)) := (Eq.refl _).trans rfl
@[simp] theorem insF_e (h0 : 0 ≤ x) (h1 : x < 1000000) (h2 : ds.length < big) : insF ds [.int x, d] = some (.non, ds.take x.toNat ++ [d] ++ ds.drop x.toNat) := if_pos ⟨h0, h1, h2⟩
@[simp] theorem isBD_f : isBD false (.bl p) (.bl q) = some (.bl (decide (p = q))) := (Eq.refl _).trans rfl
@[simp] theorem isBD_t : isBD true (.bl p) (.bl q) = some (.bl (!decide (p = q))) := (Eq.refl _).trans rfl
@[simp] theorem shrD_e (h : 0 ≤ y) : shrD (.int x) (.int y) = some (.int (x / 2 ^ y.toNat)) := by simp [shrD, int2, h]
@[simp] theorem andD_e : andD (.int x) (.int y) = some (.int (Builtin.bitAnd x y)) := (Eq.refl _).trans rfl
@[simp] theorem sortedG_e (h : sortOk ds = true) : sortedG (.lst mm ds) = some (.lst true (sortDs ds)) := by simp [sortedG, h]
@[simp] theorem putP_fld {f : Str} {k : Nat} {z : D} (h : ns.idxOf? f = some k) (hk : k < ds.length) : putP (.obj true c ns ds) (.fld c f :: ps) z = .obj true c ns (ds.set k (putP ds[k] ps z)) := by simp [putP, kidN, kids, h, hk, setKid]
end
theorem Vl.eq {α : Type} {r : Res α} {a : α} {ρ : List D} (h : Vl r fun d es => d = a ∧ es = ρ) : r = .ok a ρ := by
  obtain ⟨d, es, rfl, rfl, rfl⟩ := h
  rfl
theorem find_first {α : Type} {p : α → Bool} : ∀ {xs : List α} {i : Nat} {x : α}, xs[i]? = some x → p x = true → (∀ y ∈ xs.take i, p y = false) → xs.find? p = some x
  | [], i, x, h, _, _ => by simp at h
  | y :: ys, 0, x, h, hp, _ => by simp at h; subst h; simp [hp]
  | y :: ys, i + 1, x, h, hp, hn => by
    simp at h
    have h1 := hn y (by simp)
    simp [h1]
    exact find_first h hp (fun z hz => hn z (by simp [hz]))
theorem find_none {α : Type} {p : α → Bool} {xs : List α} (h : ∀ y ∈ xs, p y = false) : xs.find? p = none := by
  rw [List.find?_eq_none]
  intro x hx
  simp [h x hx]
theorem pairsD_at {ds es : List D} {i : Nat} {d : D} (h : (pairsD ds es)[i]? = some d) : ∃ a b, d = .tup [a, b] ∧ (ds.zip es)[i]? = some (a, b) := by
  unfold pairsD at h
  rw [List.getElem?_map] at h
  cases e : (ds.zip es)[i]? with
  | none => rw [e] at h; cases h
  | some p => rw [e] at h; cases h; exact ⟨p.1, p.2, rfl, rfl⟩
theorem lc_mapM {τ : Type} {vs : List Nat} {g : D → List D → Option (List D)} {t : M Bool} {m : EM} {enc : τ → D} {p : τ → Bool} {f : τ → D} {ρ : List D} : ∀ (xs : List τ) (acc : List D), 
    (∀ x ∈ xs, lcO vs t m (g (enc x) ρ) = .ok (if p x = true then some (f x) else none) ρ) → acc.length + xs.length ≤ big →
    lcLoop vs g t m (xs.map enc) acc ρ = .ok (acc ++ (xs.filter p).map f) ρ
  | [], acc, _, _ => by simp
  | x :: xs, acc, h, hb => by
    simp only [List.length_cons] at hb
    rw [List.map_cons, lcLoop_c (h x (by simp)) (by omega)]
    by_cases c : p x = true
    · rw [if_pos c, lc_mapM xs _ (fun y hy => h y (by simp [hy])) (by simp; omega)]
      simp [c]
    · rw [if_neg c, lc_mapM xs _ (fun y hy => h y (by simp [hy])) (by simp; omega)]
      simp [c]
end VS
set_option Elab.async false
set_option linter.all false
set_option maxRecDepth 100000
set_option maxHeartbeats 4000000
/-! PL2: how texts are reckoned. -/
namespace VS
open PySem PySem.Spec PyProof.Rows L2
section
variable {ρ : List D} {d a b : D} {i n : Nat} {f : D → D → Option D} {ma mb m : EM} {x y z : Str} {k : Int} {tbl : List (Str × D)}
def smK2 (f : D → D → Option D) (d1 : D) : D → List D → Res D := fun d2 ρ2 => Res.of (f d1 d2) ρ2
def smK (f : D → D → Option D) (mb : EM) : D → List D → Res D := fun d1 ρ1 => if isStrD d1 = true then (mb ρ1).bind (smK2 f d1) else .bad
@[simp] theorem smM_e : smM f ma mb ρ = (ma ρ).bind (smK f mb) := (Eq.refl _).trans rfl
@[simp] theorem smK_s : smK f mb (.str x) ρ = (mb ρ).bind (smK2 f (.str x)) := (Eq.refl _).trans rfl
@[simp] theorem smK2_e : smK2 f a b ρ = Res.of (f a b) ρ := (Eq.refl _).trans rfl
@[simp] theorem splitD_e (h : y.length ≠ 0) (h2 : x.length + 2 ≤ big) : splitD (.str x) (.str y) = some (.lst true ((Txt.split x y).map D.str)) := if_pos ⟨h, h2⟩
theorem wordsD_map {ys : List Str} : wordsD (ys.map D.str) = some ys := by
  induction ys with
  | nil => rfl
  | cons y ys ih => simp [wordsD, ih]
theorem joinD_e {mm : Bool} {ys : List Str} (h : (ys.map (·.length)).sum + ys.length * x.length ≤ 16777216) : joinD (.str x) (.lst mm (ys.map D.str)) = some (.str (Txt.join x ys)) := by
  show ((items (.lst mm (ys.map D.str))).bind fun ds => (wordsD ds).bind fun ys => if (ys.map (·.length)).sum + ys.length * x.length ≤ 16777216 then some (D.str (Txt.join x ys)) else none) = _
  rw [show items (.lst mm (ys.map D.str)) = some (ys.map D.str) from rfl]
  rw [Option.bind_some, wordsD_map, Option.bind_some, if_pos h]
theorem ixSD_e {c : Nat} (h : x.length ≤ big) (h2 : atI x.cps.toList k = some c) : ixSD (.str x) (.int k) = some (.str ⟨#[c]⟩) := by simp [ixSD, h, h2]
@[simp] theorem cutSD_e {p : Option Int × Option Int} (h : x.length ≤ big) : cutSD (.str x) p = some (.str (cutS x p.1 p.2)) := if_pos h
def slSE (d : D) : Option Int × Option Int → List D → Res D := fun b ρ2 => Res.of (cutSD d b) ρ2
def slSK (pl ph : M (Option Int)) : D → List D → Res D := fun d ρ1 => ((pl ρ1).bind (slK2 ph)).bind (slSE d)
@[simp] theorem slSM_e {pl ph : M (Option Int)} : slSM m pl ph ρ = (m ρ).bind (slSK pl ph) := (Eq.refl _).trans rfl
@[simp] theorem slSK_e {pl ph : M (Option Int)} : slSK pl ph d ρ = ((pl ρ).bind (slK2 ph)).bind (slSE d) := (Eq.refl _).trans rfl
@[simp] theorem slSE_e {p : Option Int × Option Int} : slSE d p ρ = Res.of (cutSD d p) ρ := (Eq.refl _).trans rfl
def itSK : D → List D → Res (List D) := fun d ρ1 => match d with
  | .str x => .ok (signsD x) ρ1
  | _ => .bad
@[simp] theorem itSM_e : itSM m ρ = (m ρ).bind itSK := (Eq.refl _).trans rfl
@[simp] theorem itSK_s : itSK (.str x) ρ = .ok (signsD x) ρ := (Eq.refl _).trans rfl
@[simp] theorem strX_s : strX (.str x) = some (.str x) := (Eq.refl _).trans rfl
@[simp] theorem strX_i (h : k.natAbs.log2 < 1920) : strX (.int k) = some (.str (toString k)) := if_pos h
@[simp] theorem intX_i : intX (.int k) = some (.int k) := (Eq.refl _).trans rfl
@[simp] theorem intX_b {q : Bool} : intX (.bl q) = some (.int (if q then 1 else 0)) := (Eq.refl _).trans rfl
theorem intX_s (h : x.length ≤ 640) (h2 : PySem.intText? x = some k) : intX (.str x) = some (.int k) := by simp [intX, h, h2]
@[simp] theorem inKD_s : inKD tbl (.str x) = some (.bl (tbl.lookup x).isSome) := (Eq.refl _).trans rfl
end
theorem Vl_map {vs : List Nat} {g : D → List D → Option (List D)} {t : M Bool} {m : EM} {P : List D → List D → Prop} {ds : List D} {ρ : List D} (f : D → D) (hb : ds.length < big)
    (h : ∀ d ∈ ds, GO (g d ρ) fun ρ1 => Vl (t ρ1) fun c ρ2 => c = true ∧ Vl (m ρ2) fun y ρ3 => y = f d ∧ wipeD vs ρ3 = ρ) (hP : P (ds.map f) ρ) : Vl (lcLoop vs g t m ds [] ρ) P := by
  obtain ⟨I, hI⟩ := hide (fun (i : Nat) (acc ρ' : List D) => acc = (ds.take i).map f ∧ ρ' = ρ)
  refine Vl_lc I (by rw [hI]; exact ⟨by simp, rfl⟩) ?_ ?_
  · intro i d acc ρ' hd hi
    rw [hI] at hi
    obtain ⟨rfl, rfl⟩ := hi
    have hlt : i < ds.length := by
      obtain ⟨h1, _⟩ := List.getElem?_eq_some_iff.mp hd
      exact h1
    refine ⟨by simp; omega, ?_⟩
    obtain ⟨ρ1, e1, c, ρ2, e2, rfl, y, ρ3, e3, rfl, e4⟩ := h d (List.mem_of_getElem? hd)
    refine ⟨ρ1, e1, true, ρ2, e2, fun _ => ⟨_, _, e3, ?_⟩, fun h => by cases h⟩
    rw [hI]
    refine ⟨?_, e4⟩
    rw [List.take_add_one, hd]
    simp
  · intro acc ρ' hi
    rw [hI] at hi
    obtain ⟨rfl, rfl⟩ := hi
    rw [List.take_length]
    exact hP
theorem Vl_filter {vs : List Nat} {g : D → List D → Option (List D)} {t : M Bool} {m : EM} {P : List D → List D → Prop} {ds : List D} {ρ : List D} (p : D → Bool) (hb : ds.length < big)
    (h : ∀ d ∈ ds, GO (g d ρ) fun ρ1 => Vl (t ρ1) fun c ρ2 => c = p d ∧ (c = true → Vl (m ρ2) fun y ρ3 => y = d ∧ wipeD vs ρ3 = ρ) ∧ (c = false → wipeD vs ρ2 = ρ)) (hP : P (ds.filter p) ρ) : Vl (lcLoop vs g t m ds [] ρ) P := by
  obtain ⟨I, hI⟩ := hide (fun (i : Nat) (acc ρ' : List D) => acc = (ds.take i).filter p ∧ ρ' = ρ)
  refine Vl_lc I (by rw [hI]; exact ⟨by simp, rfl⟩) ?_ ?_
  · intro i d acc ρ' hd hi
    rw [hI] at hi
    obtain ⟨rfl, rfl⟩ := hi
    have hlt : i < ds.length := (List.getElem?_eq_some_iff.mp hd).1
    refine ⟨?_, ?_⟩
    · have h1 := List.length_filter_le p (ds.take i)
      have h2 : (ds.take i).length ≤ ds.length := by simp; omega
      omega
    obtain ⟨ρ1, e1, c, ρ2, e2, hc, h1, h2⟩ := h d (List.mem_of_getElem? hd)
    refine ⟨ρ1, e1, c, ρ2, e2, fun ht => ?_, fun hf => ?_⟩
    · obtain ⟨y, ρ3, e3, rfl, e4⟩ := h1 ht
      refine ⟨_, _, e3, ?_⟩
      rw [hI]
      refine ⟨?_, e4⟩
      have : p y = true := by rw [← hc]; exact ht
      rw [List.take_add_one, hd]
      simp [this]
    · rw [hI]
      refine ⟨?_, h2 hf⟩
      have : p d = false := by rw [← hc]; exact hf
      rw [List.take_add_one, hd]
      simp [this]
  · intro acc ρ' hi
    rw [hI] at hi
    obtain ⟨rfl, rfl⟩ := hi
    rw [List.take_length]
    exact hP
end VS
set_option Elab.async false
set_option linter.all false
set_option maxRecDepth 100000
set_option maxHeartbeats 4000000
/-! PL3: how a place that is frozen is reckoned. -/
namespace VS
open PySem PySem.Spec PyProof.Rows L2
section
variable {ρ : List D} {d d0 : D} {i : Nat} {ps : Path}
def fzPO2 (i : Nat) (ps : Path) (ρ : List D) (d0 : D) : Option D → Res D
  | some d => if has? d = true then .ok (fz d) (ρ.set i (putP d0 ps (fz d))) else .bad
  | none => .bad
def fzPO (i : Nat) (ps : Path) (ρ : List D) : Option D → Res D
  | some d0 => fzPO2 i ps ρ d0 (getP d0 ps)
  | none => .bad
@[simp] theorem fzP_e : fzP i ps ρ = fzPO i ps ρ ρ[i]? := by
  unfold fzP fzPO
  cases ρ[i]? with
  | none => rfl
  | some d0 =>
    dsimp only
    unfold fzPO2
    cases getP d0 ps <;> rfl
@[simp] theorem fzPO_s : fzPO i ps ρ (some d0) = fzPO2 i ps ρ d0 (getP d0 ps) := (Eq.refl _).trans rfl
@[simp] theorem fzPO2_s (h : has? d = true) : fzPO2 i ps ρ d0 (some d) = .ok (fz d) (ρ.set i (putP d0 ps (fz d))) := if_pos h
end
end VS
set_option Elab.async false
set_option linter.all false
set_option maxRecDepth 100000
set_option maxHeartbeats 4000000
namespace VS
open PySem PySem.Spec PyProof.Rows L2
namespace G
/-- the law's box: the row, and the next place -/
def bx (row : List Int) (at' : Nat) : D := .lst true [.lst false (row.map D.int), .int (at' : Nat)]
@[simp] theorem has_bx {row : List Int} {n : Nat} : has? (bx row n) = true := by simp [has?, bx]
@[simp] theorem kid_bx1 {row : List Int} {n : Nat} : getP (bx row n) [Stp.ix 1] = some (.int n) := (Eq.refl _).trans rfl
@[simp] theorem kid_bx0 {row : List Int} {n : Nat} : getP (bx row n) [Stp.ix 0] = some (.lst false (row.map D.int)) := (Eq.refl _).trans rfl
def drawV (row : List Int) (n : Nat) (many : Int) : Int := (row[n]?.getD (n * 5 + 1)) % many
theorem cm5 (i : Int) : CMul i 5 := .inr ⟨by omega, by omega⟩
theorem draw_e {row : List Int} {n : Nat} {many : Int} (h : 0 < many) : f__law_draw [bx row n, .int many] = .ok (.int (drawV row n many)) [bx row (n + 1), .int many] := by
  have hn : (0 : Int) ≤ n := Int.natCast_nonneg _
  by_cases hl : n < row.length
  · simp [f__law_draw, fnM_e, N__law_draw.m, bx, h, ixN, atI, hl, hn, drawV]
  · simp [f__law_draw, fnM_e, N__law_draw.m, bx, h, ixN, atI, hl, hn, drawV, cm5]
theorem drawV_lo {row : List Int} {n : Nat} {many : Int} (h : 0 < many) : 0 ≤ drawV row n many := Int.emod_nonneg _ (by omega)
theorem drawV_hi {row : List Int} {n : Nat} {many : Int} (h : 0 < many) : drawV row n many < many := Int.emod_lt_of_pos _ h
theorem cell_e {ns : List Int} {k : Nat} : f__law_cell [.rol (ns.map D.int), .int k] = .ok (.int (ns[k]?.getD 0)) [.rol (ns.map D.int), .int k] := by
  by_cases hl : k < ns.length
  · simp [f__law_cell, fnM_e, N__law_cell.m, ixN, atI, hl]
  · simp [f__law_cell, fnM_e, N__law_cell.m, ixN, atI, hl]
theorem cm2 (i : Int) : CMul 2 i := .inl ⟨by omega, by omega⟩
theorem cm_r (i j : Int) (h1 : -(2 ^ 64) < j) (h2 : j < 2 ^ 64) : CMul i j := .inr ⟨h1, h2⟩
theorem cm_l (i j : Int) (h1 : -(2 ^ 64) < i) (h2 : i < 2 ^ 64) : CMul i j := .inl ⟨h1, h2⟩
theorem cp18 : CPow 10 18 := ⟨by omega, by omega, by decide⟩
theorem cd840 (i : Int) : CDiv i 840 := ⟨by omega, by omega⟩
theorem cd5003 (i : Int) : CDiv i 5003 := ⟨by omega, by omega⟩
theorem row_ok {ns : List Int} {last : Nat} (hl : last ≤ 63) : Vl (f__law_row [.rol (ns.map D.int), .int 0, .int last]) fun d es => ∃ row : List Int, d = .lst true (row.map D.int) ∧ es = [.rol (ns.map D.int), .int 0, .int last] := by
  have s0 : small62 0 = true := by decide
  have sl : small62 last = true := by unfold small62; simp; omega
  have s60 : small62 60 = true := by decide
  have s10 : small62 10 = true := by decide
  obtain ⟨Q, hQ⟩ := hide (fun (d : D) (es : List D) => ∃ row : List Int, d = .lst true (row.map D.int) ∧ es = [.rol (ns.map D.int), .int 0, .int last])
  obtain ⟨I, hI⟩ := hide (fun (i : Nat) (ρ : List D) => ∃ (row : List Int) (a b c : D), ρ = [.rol (ns.map D.int), .int 0, .int last, .lst true (row.map D.int), a, b, c] ∧ row.length ≤ 60 * i)
  rw [← hQ]
  simp [f__law_row, fnM_e, N__law_row.m, rng2, s0, sl]
  refine Vl_for I (by rw [hI]; exact ⟨[], _, _, _, rfl, by simp⟩) ?_ ?_
  · intro i d ρ hd h
    rw [hI] at h
    obtain ⟨row, a, b, c, rfl, hr⟩ := h
    obtain ⟨rfl, hi⟩ := rangeD_get hd
    simp [cell_e, cm2, cp18]
    generalize (if 2 * ns[i]?.getD 0 < 0 then -(2 * ns[i]?.getD 0) else 2 * ns[i]?.getD 0) + (if ns[i]?.getD 0 < 0 then 1 else 0) = z
    obtain ⟨J, hJ⟩ := hide (fun (j : Nat) (ρ : List D) => ∃ (row : List Int) (z : Int) (c : D), ρ = [.rol (ns.map D.int), .int 0, .int last, .lst true (row.map D.int), .int i, .int z, c] ∧ row.length ≤ 60 * i + j)
    refine Vl_iteK (fun _ => ?_) (fun _ => ?_)
    · simp [rng1, s60]
      refine Vl_for J (by rw [hJ]; exact ⟨row, z, c, rfl, by omega⟩) ?_ ?_
      · intro j d ρ hd h
        rw [hJ] at h
        obtain ⟨row, z, c, rfl, hr⟩ := h
        obtain ⟨rfl, hj⟩ := rangeD_get hd
        have hb : row.length < big := by unfold big; omega
        simp
        refine Vl_iteK (fun _ => ?_) (fun _ => ?_)
        · simp [hb, cd840]
          rw [hJ]
          exact ⟨row ++ [z % 840], _, _, by simp; exact ⟨rfl, rfl⟩, by simp; omega⟩
        · simp
          rw [hJ]
          exact ⟨row, _, _, rfl, by omega⟩
      · intro ρ h
        rw [hJ] at h
        obtain ⟨row, z, c, rfl, hr⟩ := h
        simp at hr
        simp
        rw [hI]
        exact ⟨row, _, _, _, rfl, by omega⟩
    · simp [rng1, s10]
      refine Vl_for J (by rw [hJ]; exact ⟨row, z, c, rfl, by omega⟩) ?_ ?_
      · intro j d ρ hd h
        rw [hJ] at h
        obtain ⟨row, z, c, rfl, hr⟩ := h
        obtain ⟨rfl, hj⟩ := rangeD_get hd
        have hb : row.length < big := by unfold big; omega
        simp [hb, cd5003, cm_r z 69069 (by omega) (by omega), cm_l 104729 (i + j) (by omega) (by omega)]
        rw [hJ]
        exact ⟨row ++ [_], _, _, by simp; exact ⟨rfl, rfl, rfl⟩, by simp; omega⟩
      · intro ρ h
        rw [hJ] at h
        obtain ⟨row, z, c, rfl, hr⟩ := h
        simp at hr
        simp
        rw [hI]
        exact ⟨row, _, _, _, rfl, by omega⟩
  · intro ρ h
    rw [hI] at h
    obtain ⟨row, a, b, c, rfl, hr⟩ := h
    simp
    rw [hQ]
    exact ⟨row, rfl, rfl⟩
end G
end VS
set_option Elab.async false
set_option linter.all false
set_option maxRecDepth 100000
set_option maxHeartbeats 4000000
/-! T1 (k19): numbers of words. -/
namespace VS
open PySem PySem.Spec PyProof.Rows L2
theorem bools_map {τ : Type} (f : τ → Bool) : ∀ xs : List τ, bools (xs.map fun x => D.bl (f x)) = some (xs.map f)
  | [] => rfl
  | x :: xs => by simp [bools, blD, bools_map f xs]
theorem all_of {m : Bool} {ds : List D} {bs : List Bool} (h : bools ds = some bs) : allD (.lst m ds) = some (.bl (bs.all id)) := by simp [allD, isLst, h]
namespace G
def DIG : Str := "0123456789"
def digC (c : Nat) : Bool := decide (c ∈ DIG.cps.toList)
def digs (w : Str) : Bool := w.cps.toList.all digC
def head (w : Str) : Nat := w.cps.getD 0 0
def dD : D → D
  | .str x => .bl (digC (x.cps.getD 0 0))
  | _ => .un
theorem dD_signs (w : Str) : (signsD w).map dD = w.cps.toList.map fun c => D.bl (digC c) := by
  unfold signsD
  rw [List.map_map]
  rfl
/-- whether a word is a number's -/
def isNum (w : Str) : Bool := decide (w ≠ "") && digs w && !(decide ((⟨#[head w]⟩ : Str) = "0") && decide (w ≠ "0"))
theorem number_e {w : Str} {n : Int} (h : PyData.strOk w = true) (hl : w.length ≤ 640) (hn : isNum w = true → PySem.intText? w = some n) :
    f__number [.str w] = .ok (if isNum w = true then .int (if w.length ≤ 4 then n else 10000) else .non) [.str w] := by
  by_cases hne : w = ""
  · subst hne
    simp [f__number, fnM_e, N__number.m, isNum]
  apply Vl.eq
  obtain ⟨Q, hQ⟩ := hide (fun (d : D) (es : List D) => d = (if isNum w = true then .int (if w.length ≤ 4 then n else 10000) else .non) ∧ es = [.str w])
  rw [← hQ]
  have hb : w.length ≤ big := by unfold big; omega
  have hs : w.cps.size = w.length := rfl
  have hd : PyData.strOk DIG = true := by decide +kernel
  simp [f__number, fnM_e, N__number.m, h, hne]
  refine Vl_map dD (by simp [signsD]; unfold big; omega) ?_ ?_
  · intro d hd
    unfold signsD at hd
    obtain ⟨c, hc, rfl⟩ := List.mem_map.mp hd
    simp [inSD, dD, digC, DIG]
  · rw [dD_signs]
    have ea := all_of (m := true) (bools_map digC w.cps.toList)
    have dg : w.cps.all digC = digs w := by unfold digs; rw [Array.all_toList]
    have hp : 0 < w.cps.size := by
      have : w.length ≠ 0 := fun h0 => hne (by
        cases w with
        | mk a =>
          have : a = #[] := Array.eq_empty_of_size_eq_zero h0
          subst this; rfl)
      have : w.cps.size ≠ 0 := this
      omega
    have a0 : atI w.cps.toList 0 = some (head w) := by
      simp [atI, ixN, head, hp]
    have i0 : ixSD (.str w) (.int 0) = some (.str ⟨#[head w]⟩) := ixSD_e hb a0
    have s1 : PyData.strOk ⟨#[head w]⟩ = true := by
      have h0 := Array.all_eq_true.mp h 0 hp
      have e0 : head w = w.cps[0] := by simp [head, hp]
      rw [e0]
      simp [PyData.strOk] at h0 ⊢
      exact h0
    have ln : lenD (.str w) = some (.int w.length) := if_pos hb
    have iN : isNum w = (digs w && !(decide ((⟨#[head w]⟩ : Str) = "0") && decide (w ≠ "0"))) := by unfold isNum; simp [hne]
    rw [iN] at hn hQ
    simp [ea, dg]
    cases hd : digs w with
    | false =>
      simp
      rw [hQ]
      simp [hd]
    | true =>
      by_cases hz : (⟨#[head w]⟩ : Str) = "0"
      · by_cases hw : w = "0"
        · subst hw
          have e1 := hn (by simp [hd])
          simp [i0, hz, ln, intX_s hl e1]
          rw [hQ]
          simp [hd]
        · simp [i0, s1, h, hz, hw]
          rw [hQ]
          simp [hd, hz, hw]
      · have e1 := hn (by simp [hd, hz])
        by_cases h4 : w.length ≤ 4
        · have h4' : (w.length : Int) ≤ 4 := by omega
          simp [i0, s1, h, hz, ln, h4, h4', intX_s hl e1]
          rw [hQ]
          simp [hd, hz, h4]
        · have h4' : ¬ (w.length : Int) ≤ 4 := by omega
          simp [i0, s1, h, hz, ln, h4, h4']
          rw [hQ]
          simp [hd, hz, h4]
theorem lnumber_e {w : Str} {n : Int} (h : PyData.strOk w = true) (hl : w.length ≤ 640) (hn : isNum w = true → PySem.intText? w = some n) :
    f__law_number [.str w] = .ok (if isNum w = true then .int n else .non) [.str w] := by
  by_cases hne : w = ""
  · subst hne
    simp [f__law_number, fnM_e, N__law_number.m, isNum]
  apply Vl.eq
  obtain ⟨Q, hQ⟩ := hide (fun (d : D) (es : List D) => d = (if isNum w = true then .int n else .non) ∧ es = [.str w])
  rw [← hQ]
  have hb : w.length ≤ big := by unfold big; omega
  have ln : lenD (.str w) = some (.int w.length) := if_pos hb
  have hp : 0 < w.cps.size := by
    have : w.length ≠ 0 := fun h0 => hne (by
      cases w with
      | mk a =>
        have : a = #[] := Array.eq_empty_of_size_eq_zero h0
        subst this; rfl)
    have : w.cps.size ≠ 0 := this
    omega
  have a0 : atI w.cps.toList 0 = some (head w) := by
    simp [atI, ixN, head, hp]
  have i0 : ixSD (.str w) (.int 0) = some (.str ⟨#[head w]⟩) := ixSD_e hb a0
  have s1 : PyData.strOk ⟨#[head w]⟩ = true := by
    have h0 := Array.all_eq_true.mp h 0 hp
    have e0 : head w = w.cps[0] := by simp [head, hp]
    rw [e0]
    simp [PyData.strOk] at h0 ⊢
    exact h0
  have nz : ∀ d : D, dD d = .bl false → True := fun _ _ => trivial
  obtain ⟨p, hp'⟩ := hide (fun d : D => match d with | .str x => !digC (x.cps.getD 0 0) | _ => false)
  have fl : 0 < ((signsD w).filter p).length ↔ digs w = false := by
    rw [hp']
    unfold signsD digs
    rw [List.filter_map, List.length_map, List.length_pos_iff, ne_eq, List.filter_eq_nil_iff]
    rw [← Bool.not_eq_true, List.all_eq_true]
    simp [Function.comp_def]
  simp [f__law_number, fnM_e, N__law_number.m, h, hne]
  refine Vl_filter p (by have hs : w.cps.size = w.length := rfl; simp [signsD]; unfold big; omega) ?_ ?_
  · intro d hd
    unfold signsD at hd
    obtain ⟨c, hc, rfl⟩ := List.mem_map.mp hd
    rw [hp']
    simp [inSD, digC, DIG]
  · cases hd : digs w with
    | false =>
      have := fl.mpr hd
      simp [this]
      rw [hQ]
      simp [isNum, hd]
    | true =>
      have : ¬ 0 < ((signsD w).filter p).length := fun h => by rw [fl.mp h] at hd; cases hd
      by_cases h1 : 1 < w.length
      · have h1' : (1 : Int) < w.length := by omega
        have hw : w ≠ "0" := fun e => by rw [e] at h1; revert h1; decide +kernel
        by_cases hz : (⟨#[head w]⟩ : Str) = "0"
        · simp [this, ln, h1', i0, s1, hz]
          rw [hQ]
          simp [isNum, hd, hz, hw]
        · have e1 := hn (by simp [isNum, hne, hd, hz])
          simp [this, ln, h1', i0, s1, hz, intX_s hl e1]
          rw [hQ]
          simp [isNum, hne, hd, hz]
      · have h1' : ¬ (1 : Int) < w.length := by omega
        have hs : w.cps.size = w.length := rfl
        have ew := one_sign (x := w) (by omega)
        have ew : w = ⟨#[head w]⟩ := ew
        have iN : isNum w = true := by
          unfold isNum
          by_cases hz : (⟨#[head w]⟩ : Str) = "0"
          · have : w = "0" := ew.trans hz
            subst this
            simp [hd]
          · simp [hne, hd, hz]
        have e1 := hn iN
        simp [this, ln, h1', intX_s hl e1]
        rw [hQ]
        simp [iN]
end G
end VS
set_option Elab.async false
set_option linter.all false
set_option maxRecDepth 100000
set_option maxHeartbeats 4000000
/-! T2 (k19): a word of digits is a number. -/
namespace VS
open PySem PySem.Spec PyProof.Rows L2
namespace G
theorem digC_iff {c : Nat} : digC c = true ↔ 48 ≤ c ∧ c ≤ 57 := by
  have e : DIG.cps.toList = [48, 49, 50, 51, 52, 53, 54, 55, 56, 57] := by decide +kernel
  unfold digC
  rw [e]
  simp
  omega
theorem fold_ge : ∀ (r : List Nat) (a : Nat), a * 10 ^ r.length ≤ r.foldl (fun acc c => acc * 10 + (c - 48)) a
  | [], a => by simp
  | c :: r, a => by
    rw [List.foldl_cons, List.length_cons, Nat.pow_succ]
    have h := fold_ge r (a * 10 + (c - 48))
    refine Nat.le_trans ?_ h
    have : a * (10 ^ r.length * 10) = (a * 10) * 10 ^ r.length := by rw [Nat.mul_comm (10 ^ r.length) 10, Nat.mul_assoc]
    rw [this]
    exact Nat.mul_le_mul_right _ (by omega)
theorem fold_lt : ∀ (r : List Nat) (a : Nat), (∀ c ∈ r, c ≤ 57) → r.foldl (fun acc c => acc * 10 + (c - 48)) a < (a + 1) * 10 ^ r.length
  | [], a, _ => by simp
  | c :: r, a, h => by
    rw [List.foldl_cons, List.length_cons, Nat.pow_succ]
    have h1 := h c (by simp)
    have h2 := fold_lt r (a * 10 + (c - 48)) fun d hd => h d (List.mem_cons_of_mem _ hd)
    refine Nat.lt_of_lt_of_le h2 ?_
    have : (a + 1) * (10 ^ r.length * 10) = ((a + 1) * 10) * 10 ^ r.length := by rw [Nat.mul_comm (10 ^ r.length) 10, Nat.mul_assoc]
    rw [this]
    exact Nat.mul_le_mul_right _ (by omega)
theorem isNum_parts {w : Str} (h : isNum w = true) : w.cps.toList ≠ [] ∧ (∀ c ∈ w.cps.toList, 48 ≤ c ∧ c ≤ 57) ∧ ((⟨#[head w]⟩ : Str) = "0" → w = "0") := by
  unfold isNum at h
  simp only [Bool.and_eq_true, decide_eq_true_eq, Bool.not_eq_true', Bool.and_eq_false_iff, decide_eq_false_iff_not] at h
  obtain ⟨⟨hne, hd⟩, hz⟩ := h
  refine ⟨?_, fun c hc => digC_iff.mp (List.all_eq_true.mp hd c hc), fun e => ?_⟩
  · intro e
    apply hne
    cases w with
    | mk a =>
      have : a = #[] := by
        cases a with
        | mk l => simp at e; subst e; rfl
      subst this; rfl
  · rcases hz with hz | hz
    · exact absurd e hz
    · exact Classical.not_not.mp hz
theorem num_some {w : Str} (h : isNum w = true) (hl : w.length ≤ 640) : ∃ n : Int, PySem.intText? w = some n ∧ 0 ≤ n ∧ (4 < w.length → 10000 ≤ n) ∧ (w.length ≤ 4 → n < 10000) := by
  obtain ⟨h1, h2, h3⟩ := isNum_parts h
  refine ⟨_, intText_digits h2 h1 (by omega), by omega, fun h4 => ?_, fun h4 => ?_⟩
  · have hs : w.cps.toList.length = w.length := Array.length_toList
    have hh : head w = w.cps.toList.head h1 := by
      unfold head
      cases w with
      | mk a => cases a with
        | mk l => cases l with
          | nil => exact absurd rfl h1
          | cons c r => rfl
    cases hc : w.cps.toList with
    | nil => exact absurd hc h1
    | cons c r =>
      have e1 : head w = c := by rw [hh]; simp [hc]
      have c48 := h2 c (by rw [hc]; simp)
      have c49 : 49 ≤ c := by
        by_cases e : c = 48
        · have : w = "0" := h3 (by rw [e1, e]; rfl)
          rw [this] at h4
          exact absurd h4 (by decide +kernel)
        · omega
      have hr : 4 ≤ r.length := by rw [hc] at hs; simp at hs; omega
      have := fold_ge r (0 * 10 + (c - 48))
      have p4 : 10 ^ 4 ≤ 10 ^ r.length := Nat.pow_le_pow_right (by omega) hr
      have m1 : 1 * 10 ^ r.length ≤ (0 * 10 + (c - 48)) * 10 ^ r.length := Nat.mul_le_mul_right _ (by omega)
      have : 10000 ≤ PySem.NumText.digitsVal (c :: r) := by
        unfold PySem.NumText.digitsVal
        rw [List.foldl_cons]
        omega
      omega
  · have hs : w.cps.toList.length = w.length := Array.length_toList
    have := fold_lt w.cps.toList 0 fun c hc => (h2 c hc).2
    have p4 : 10 ^ w.cps.toList.length ≤ 10 ^ 4 := Nat.pow_le_pow_right (by omega) (by omega)
    have : PySem.NumText.digitsVal w.cps.toList < 10000 := by
      unfold PySem.NumText.digitsVal
      omega
    omega
end G
end VS
set_option Elab.async false
set_option linter.all false
set_option maxRecDepth 100000
set_option maxHeartbeats 4000000
/-! T3 (k19): parts of rules. -/
namespace VS
open PySem PySem.Spec PyProof.Rows L2
namespace G
def numO (w : Str) : Option Int := if isNum w = true then PySem.intText? w else none
def cap (n : Int) : Int := if n < 10000 then n else 10000
def intO : Option Int → D
  | some n => .int n
  | none => .non
/-- a word that is not too long -/
structure WOk (w : Str) : Prop where
  ok : PyData.strOk w = true
  len : w.length ≤ 640
theorem numO_nn {w : Str} {n : Int} (h : WOk w) (e : numO w = some n) : 0 ≤ n := by
  unfold numO at e
  split at e
  · rename_i hn
    obtain ⟨m, e1, h0, _⟩ := num_some hn h.len
    rw [e1] at e; cases e; exact h0
  · cases e
theorem number_o {w : Str} (h : WOk w) : f__number [.str w] = .ok (intO ((numO w).map cap)) [.str w] := by
  unfold numO
  by_cases hn : isNum w = true
  · obtain ⟨n, e, h0, h1, h2⟩ := num_some hn h.len
    rw [number_e h.ok h.len fun _ => e, if_pos hn, if_pos hn, e]
    have : (if w.length ≤ 4 then n else 10000) = cap n := by
      unfold cap
      split
      · rw [if_pos (h2 ‹_›)]
      · have := h1 (by omega); rw [if_neg (by omega)]
    rw [this]; rfl
  · rw [number_e (n := 0) h.ok h.len fun e => absurd e hn, if_neg hn, if_neg hn]; rfl
theorem lnumber_o {w : Str} (h : WOk w) : f__law_number [.str w] = .ok (intO (numO w)) [.str w] := by
  unfold numO
  by_cases hn : isNum w = true
  · obtain ⟨n, e, h0, h1, h2⟩ := num_some hn h.len
    rw [lnumber_e h.ok h.len fun _ => e, if_pos hn, if_pos hn, e]; rfl
  · rw [lnumber_e (n := 0) h.ok h.len fun e => absurd e hn, if_neg hn, if_neg hn]; rfl
def oneL : Option D → D
  | some d => .lst true [d]
  | none => .non
def srcO (w : Str) : Option D := if w = "*" then some .non else (numO w).map fun n => .int (cap n)
def wordO (w : Str) (ws : List Str) : Option D := if w = "*" then some .non else if w ∈ ws then some (.str w) else none
def flagO (w : Str) : Option D := if w = "*" then some .non else if w = "yes" then some (.bl true) else if w = "no" then some (.bl false) else none
theorem source_e {w : Str} (h : WOk w) : f__source [.str w] = .ok (oneL (srcO w)) [.str w] := by
  have hn := number_o h
  unfold srcO
  by_cases hs : w = "*"
  · subst hs
    simp [f__source, fnM_e, N__source.m, oneL]
  · cases e : numO w with
    | none =>
      rw [e] at hn
      simp [intO] at hn
      simp [f__source, fnM_e, N__source.m, oneL, h.ok, hs, hn]
    | some n =>
      rw [e] at hn
      simp [intO] at hn
      simp [f__source, fnM_e, N__source.m, oneL, h.ok, hs, hn]
theorem kdD_s {tbl : List (Str × D)} {z : Str} : kdD tbl (.str z) = tbl.lookup z := rfl
theorem flag_e {w : Str} (h : WOk w) : f__flag [.str w] = .ok (oneL (flagO w)) [.str w] := by
  unfold flagO
  by_cases hs : w = "*"
  · subst hs
    simp [f__flag, fnM_e, N__flag.m, oneL]
  · by_cases hy : w = "yes"
    · subst hy
      simp [f__flag, fnM_e, N__flag.m, oneL, c_FLAGS, List.lookup, kdD_s]
    · by_cases hno : w = "no"
      · subst hno
        simp [f__flag, fnM_e, N__flag.m, oneL, c_FLAGS, List.lookup, kdD_s]
      · have b1 : (w == Str.ofString "yes") = false := beq_eq_false_iff_ne.mpr hy
        have b2 : (w == Str.ofString "no") = false := beq_eq_false_iff_ne.mpr hno
        simp [f__flag, fnM_e, N__flag.m, oneL, c_FLAGS, List.lookup, h.ok, hs, hy, hno, b1, b2]
theorem any_mem {ks : List Str} {x : Str} : (ks.any fun z => decide (z = x)) = decide (x ∈ ks) := by
  rw [Bool.eq_iff_iff]; simp
theorem any_mem' {ks : List Str} {x : Str} : (ks.map D.str).any (fun z => eqD z (.str x)) = decide (x ∈ ks) := by
  rw [List.any_map]
  simp only [Function.comp_def, eqD_ss]
  exact any_mem
theorem word_e {w : Str} {ws : List Str} (h : WOk w) (hw : ∀ x ∈ ws, PyData.strOk x = true) : f__word [.str w, .tup (ws.map D.str)] = .ok (oneL (wordO w ws)) [.str w, .tup (ws.map D.str)] := by
  have hs' : shs 63 (ws.map D.str) = true := shs_all fun d hd => by
    obtain ⟨x, hx, rfl⟩ := List.mem_map.mp hd
    simp [hw x hx]
  have pw : pures? (ws.map D.str) = true := pures_map (fun _ => by simp) ws
  unfold wordO
  by_cases hs : w = "*"
  · subst hs
    simp [f__word, fnM_e, N__word.m, oneL, pw]
  · by_cases hm : w ∈ ws
    · simp [f__word, fnM_e, N__word.m, oneL, pw, h.ok, hs, hs', any_mem', any_mem, List.any_map, Function.comp_def, hm]
    · simp [f__word, fnM_e, N__word.m, oneL, pw, h.ok, hs, hs', any_mem', any_mem, List.any_map, Function.comp_def, hm]
end G
end VS
set_option Elab.async false
set_option linter.all false
set_option maxRecDepth 100000
set_option maxHeartbeats 4000000
/-! T4 (k19): the law's parts. -/
namespace VS
open PySem PySem.Spec PyProof.Rows L2
namespace G
def listO : Option D → D
  | some d => .lst true [d]
  | none => .lst true []
def lsrcO (w : Str) : Option D := if w = "*" then some .non else (numO w).map fun n => .int n
theorem lpart0_e {w : Str} (h : WOk w) : f__law_part [.str w, .int 0] = .ok (listO (lsrcO w)) [.str w, .int 0] := by
  have hn := lnumber_o h
  unfold lsrcO
  by_cases hs : w = "*"
  · subst hs
    simp [f__law_part, fnM_e, N__law_part.m, listO]
  · apply Vl.eq
    obtain ⟨Q, hQ⟩ := hide (fun (d : D) (es : List D) => d = listO (if w = "*" then some .non else (numO w).map fun n => .int n) ∧ es = [.str w, .int 0])
    rw [← hQ]
    have b1 : (1 : Nat) < big := by unfold big; omega
    cases e : numO w with
    | none =>
      rw [e] at hn
      simp [intO] at hn
      simp [f__law_part, fnM_e, N__law_part.m, h.ok, hs, hn]
      refine Vl_filter (fun d => !isNone? d) (by simp; exact b1) ?_ ?_
      · intro d hd
        simp at hd
        subst hd
        simp
      · simp
        rw [hQ]
        simp [hs, e, listO]
    | some n =>
      rw [e] at hn
      simp [intO] at hn
      simp [f__law_part, fnM_e, N__law_part.m, h.ok, hs, hn]
      refine Vl_filter (fun d => !isNone? d) (by simp; exact b1) ?_ ?_
      · intro d hd
        simp at hd
        subst hd
        simp
      · simp
        rw [hQ]
        simp [hs, e, listO]
theorem rep1 {m : Bool} {d : D} (h : pure? d = true) : repD (.lst m [d]) (.int 1) = some (.lst true [d]) := by
  have hb : (1 : Nat) ≤ big := by unfold big; omega
  simp [repD, h, hb]
theorem rep0 {m : Bool} {d : D} (h : pure? d = true) : repD (.lst m [d]) (.int 0) = some (.lst true []) := by
  have hb : (0 : Nat) ≤ big := Nat.zero_le _
  simp [repD, h, hb]
theorem lpart3_e {w : Str} (h : WOk w) : f__law_part [.str w, .int 3] = .ok (listO (flagO w)) [.str w, .int 3] := by
  have r1 := rep1 (m := true) (d := .bl true) (by simp)
  have r2 := rep1 (m := true) (d := .bl false) (by simp)
  have r3 := rep0 (m := true) (d := .bl true) (by simp)
  unfold flagO
  by_cases hs : w = "*"
  · subst hs
    simp [f__law_part, fnM_e, N__law_part.m, listO]
  · by_cases hy : w = "yes"
    · subst hy
      simp [f__law_part, fnM_e, N__law_part.m, listO, atI, ixN, r1]
    · by_cases hno : w = "no"
      · subst hno
        simp [f__law_part, fnM_e, N__law_part.m, listO, atI, ixN, r2]
      · have hy' : ¬ "yes" = w := fun e => hy e.symm
        have hno' : ¬ "no" = w := fun e => hno e.symm
        simp [f__law_part, fnM_e, N__law_part.m, listO, atI, ixN, r3, h.ok, hs, hy, hno, hy', hno']
abbrev KINDS : List Str := ["enter", "leave", "over", "drop", "end"]
abbrev SIDES : List Str := ["outside", "inside", "zone"]
abbrev RELATED : List Str := ["none", "outside", "inside"]
def setOf (k : Int) : List Str := if k = 1 then KINDS else if k = 2 then SIDES else RELATED
theorem kinds_e : f__law_kinds [] = .ok (.lst true (KINDS.map D.str)) [] := by simp [f__law_kinds, fnM_e, N__law_kinds.m]
theorem lpartW_e {w : Str} {k : Int} (h : WOk w) (hk : k = 1 ∨ k = 2 ∨ k = 4) : f__law_part [.str w, .int k] = .ok (listO (wordO w (setOf k))) [.str w, .int k] := by
  have r1 := rep1 (m := true) (d := .str w) (by simp)
  have r3 := rep0 (m := true) (d := .str w) (by simp)
  unfold wordO
  by_cases hs : w = "*"
  · subst hs
    rcases hk with rfl | rfl | rfl <;> simp [f__law_part, fnM_e, N__law_part.m, listO]
  · rcases hk with rfl | rfl | rfl
    · by_cases hm : w ∈ KINDS
      · have hm' := hm
        simp at hm
        rcases hm with rfl | rfl | rfl | rfl | rfl <;> simp [f__law_part, fnM_e, N__law_part.m, listO, atI, ixN, kinds_e, setOf, rep1]
      · have hm' := hm
        simp at hm
        have q : ∀ x : Str, (x = w) = (w = x) := fun x => propext ⟨Eq.symm, Eq.symm⟩
        simp [f__law_part, fnM_e, N__law_part.m, listO, atI, ixN, kinds_e, setOf, r3, h.ok, hs, hm, q]
    · by_cases hm : w ∈ SIDES
      · have hm' := hm
        simp at hm
        rcases hm with rfl | rfl | rfl <;> simp [f__law_part, fnM_e, N__law_part.m, listO, atI, ixN, kinds_e, setOf, rep1]
      · have hm' := hm
        simp at hm
        have q : ∀ x : Str, (x = w) = (w = x) := fun x => propext ⟨Eq.symm, Eq.symm⟩
        simp [f__law_part, fnM_e, N__law_part.m, listO, atI, ixN, kinds_e, setOf, r3, h.ok, hs, hm, q]
    · by_cases hm : w ∈ RELATED
      · have hm' := hm
        simp at hm
        rcases hm with rfl | rfl | rfl <;> simp [f__law_part, fnM_e, N__law_part.m, listO, atI, ixN, kinds_e, setOf, rep1]
      · have hm' := hm
        simp at hm
        have q : ∀ x : Str, (x = w) = (w = x) := fun x => propext ⟨Eq.symm, Eq.symm⟩
        simp [f__law_part, fnM_e, N__law_part.m, listO, atI, ixN, kinds_e, setOf, r3, h.ok, hs, hm, q]
end G
end VS
set_option Elab.async false
set_option linter.all false
set_option maxRecDepth 100000
set_option maxHeartbeats 4000000
/-! T5 (k19): rules of words. -/
namespace VS
open PySem PySem.Spec PyProof.Rows L2
namespace G
def nonO : Option D → D
  | some d => d
  | none => .non
def words (ws : List Str) : D := .lst false (ws.map D.str)
def allO : List (Option D) → Option (List D)
  | [] => some []
  | none :: _ => none
  | some d :: os => (allO os).map (d :: ·)
def ruleP : List Str → Option D
  | [a, b, c, d, e, f, g, h] => if a = "rule" ∧ g = ">" then (numO h).bind fun n => (allO [srcO b, wordO c KINDS, wordO d SIDES, flagO e, wordO f RELATED]).map fun ps => .tup (ps ++ [.int (cap n)]) else none
  | _ => none
def ruleL : List Str → Option D
  | [a, b, c, d, e, f, g, h] => if a = "rule" ∧ g = ">" then (numO h).bind fun n => (allO [lsrcO b, wordO c KINDS, wordO d SIDES, flagO e, wordO f RELATED]).map fun ps => .tup (ps ++ [.int n]) else none
  | _ => none
theorem rule_len {ws : List Str} (hw : ∀ w ∈ ws, WOk w) (h : ws.length ≠ 8) : f__rule [words ws] = .ok .non [words ws] := by
  have pw : pures? (ws.map D.str) = true := pures_map (fun _ => by simp) ws
  have h' : ¬ (ws.length : Int) = 8 := by omega
  simp [f__rule, fnM_e, N__rule.m, words, h', pw]
theorem ok_KINDS : ∀ w ∈ KINDS, PyData.strOk w = true := by decide +kernel
theorem ok_SIDES : ∀ w ∈ SIDES, PyData.strOk w = true := by decide +kernel
theorem ok_RELATED : ∀ w ∈ RELATED, PyData.strOk w = true := by decide +kernel
/-- a simple datum: fits in every test, has nothing of its own -/
def smp (d : D) : Bool := match d with
  | .non => true
  | .bl _ => true
  | .int _ => true
  | .str x => PyData.strOk x
  | _ => false
theorem smp_c {d : D} (h : smp d = true) : d = .non ∨ (∃ b, d = .bl b) ∨ (∃ i, d = .int i) ∨ ∃ x, d = .str x ∧ PyData.strOk x = true := by
  cases d <;> simp [smp] at h <;> simp [h]
theorem has_oneL {o : Option D} : has? (oneL o) = true := by cases o <;> simp [oneL]
theorem fz_oneL {o : Option D} (h : ∀ d, o = some d → smp d = true) : fz (oneL o) = (match o with | some d => .lst false [d] | none => .non) := by
  cases o with
  | none => simp [oneL]
  | some d =>
    rcases smp_c (h d rfl) with rfl | ⟨b, rfl⟩ | ⟨i, rfl⟩ | ⟨x, rfl, _⟩ <;> simp [oneL]
def oneF : Option D → D
  | some d => .lst false [d]
  | none => .non
theorem fz_oneL' {o : Option D} (h : ∀ d, o = some d → smp d = true) : fz (oneL o) = oneF o := by
  rw [fz_oneL h]; cases o <;> rfl
theorem srcO_s {w : Str} : ∀ d, srcO w = some d → smp d = true := by
  intro d h
  unfold srcO at h
  split at h
  · cases h; rfl
  · cases e : numO w <;> rw [e] at h <;> cases h; rfl
theorem lsrcO_s {w : Str} : ∀ d, lsrcO w = some d → smp d = true := by
  intro d h
  unfold lsrcO at h
  split at h
  · cases h; rfl
  · cases e : numO w <;> rw [e] at h <;> cases h; rfl
theorem wordO_s {w : Str} {ws : List Str} (hk : PyData.strOk w = true) : ∀ d, wordO w ws = some d → smp d = true := by
  intro d h
  unfold wordO at h
  split at h
  · cases h; rfl
  · split at h
    · cases h; exact hk
    · cases h
theorem flagO_s {w : Str} : ∀ d, flagO w = some d → smp d = true := by
  intro d h
  unfold flagO at h
  repeat' split at h
  all_goals first | (cases h; rfl) | cases h
def tailM : SM := (seqM (iteM (testM (inPM false nonM 1 [])) (retM nonM) skipM)
  (retM (opM addD (clM (one toTupD) (consM (lcM [2] (itM (fzv 1)) (tgN 2) yesM (opM ixD (rd 2) (intM 0))) nilM)) (clM tupD (consM (callM 1 [.tmp] f__number (consM (opM ixD (rd 0) (intM 7)) nilM)) nilM)))))
def unF : D → D
  | .lst _ (d :: _) => d
  | d => d
theorem sh_oneF {o : Option D} {n : Nat} (h : ∀ d, o = some d → smp d = true) : sh (n + 1) (oneF o) = true := by
  cases o with
  | none => simp [oneF]
  | some d => rcases smp_c (h d rfl) with rfl | ⟨b, rfl⟩ | ⟨i, rfl⟩ | ⟨x, rfl, hx⟩ <;> simp [oneF, *]
theorem shs_oneF {n : Nat} : ∀ {os : List (Option D)}, (∀ o ∈ os, ∀ d, o = some d → smp d = true) → shs (n + 1) (os.map oneF) = true
  | [], _ => by simp
  | o :: os, h => by
    simp at h
    simp [sh_oneF (n := n) (fun d e => h.1 d e), shs_oneF (n := n) (os := os) h.2]
theorem any_none : ∀ {os : List (Option D)}, (os.map oneF).any (fun z => eqD z .non) = (allO os).isNone
  | [] => rfl
  | none :: os => by simp [oneF, allO]
  | some d :: os => by
    simp only [List.map_cons, List.any_cons, any_none (os := os), oneF, eqD_ln, allO, Bool.false_or]
    cases allO os <;> rfl
theorem allO_some : ∀ {os : List (Option D)} {ps : List D}, allO os = some ps → os = ps.map some
  | [], ps, h => by simp [allO] at h; subst h; rfl
  | none :: os, ps, h => by simp [allO] at h
  | some d :: os, ps, h => by
    simp [allO] at h
    obtain ⟨qs, e, rfl⟩ := h
    rw [allO_some e]; rfl
theorem pure_smp {d : D} (h : smp d = true) : pure? d = true ∧ has? d = true ∧ fz d = d := by
  rcases smp_c h with rfl | ⟨b, rfl⟩ | ⟨i, rfl⟩ | ⟨x, rfl, _⟩ <;> simp
theorem pures_smp : ∀ {ds : List D}, (∀ d ∈ ds, smp d = true) → pures? ds = true ∧ fzs ds = ds
  | [], _ => by simp
  | d :: ds, h => by
    simp at h
    have := pure_smp h.1
    simp [this, pures_smp (ds := ds) h.2]
theorem tail_e {x : List D} {h : Str} {n : Int} {os : List (Option D)} (hx : pures? x = true) (x7 : atI x 7 = some (.str h)) (e7 : f__number [.str h] = .ok (.int (cap n)) [.str h]) (hl : os.length ≤ 5) (hp : ∀ o ∈ os, ∀ d, o = some d → smp d = true) :
    fnEnd 1 [1] (tailM [.lst false x, .lst true (os.map oneF), .un]) = .ok (nonO ((allO os).map fun ps => .tup (ps ++ [.int (cap n)]))) [.lst false x] := by
  have b6 : (6 : Nat) < big := by unfold big; omega
  have s := shs_oneF (n := 62) hp
  have an := any_none (os := os)
  cases e : allO os with
  | none =>
    rw [e] at an
    simp [tailM, s, an, nonO, inpK, inPM]
  | some ps =>
    have eo := allO_some e
    subst eo
    rw [e] at an
    have hs : ∀ d ∈ ps, smp d = true := fun d hd => hp (some d) (List.mem_map_of_mem hd) d rfl
    have hps := pures_smp hs
    have em : (ps.map some).map oneF = ps.map fun d => D.lst false [d] := by rw [List.map_map]; rfl
    rw [em] at s an ⊢
    have fq : fzs (ps.map fun d => D.lst false [d]) = ps.map fun d => D.lst false [d] := by
      clear e em an s hps hl hp
      induction ps with
      | nil => simp
      | cons p ps ih => simp at hs; simp [ih hs.2, (pure_smp hs.1).2.2]
    have hl' : (ps.map fun d => D.lst false [d]).length < big := by simp at hl ⊢; omega
    have hl2 : ps.length + 1 ≤ big := by simp at hl; omega
    apply Vl.eq
    obtain ⟨Q, hQ⟩ := hide (fun (d : D) (es : List D) => d = nonO (Option.map (fun ps => D.tup (ps ++ [D.int (cap n)])) (some ps)) ∧ es = [D.lst false x])
    rw [← hQ]
    simp [tailM, s, an, hx, fq, -List.any_map]
    refine Vl_map unF hl' ?_ ?_
    · intro d hd
      obtain ⟨p, hp1, rfl⟩ := List.mem_map.mp hd
      have := pure_smp (hs p hp1)
      have y : atI [p] 0 = some p := rfl
      simp [unF, this, y]
    · have em2 : (ps.map fun d => D.lst false [d]).map unF = ps := by
        rw [List.map_map]
        exact List.map_id _
      simp [em2, x7, e7, hps, hx, hl2]
      rw [hQ]
      simp [nonO]
theorem rule_me : N__rule.m = (seqM (iteM (orM (testM (opM (eqP true) (clM (one lenD) (consM (rd 0) nilM)) (intM 8))) (orM (testM (opM (eqP true) (opM ixD (rd 0) (intM 0)) (strM "rule"))) (orM (testM (opM (eqP true) (opM ixD (rd 0) (intM 6)) (strM ">"))) (testM (unM (isN false) (callM 1 [.tmp] f__number (consM (opM ixD (rd 0) (intM 7)) nilM))))))) (retM nonM) skipM)
  (seqM (setM 1 (clM lstD (consM (fzM (callM 1 [.tmp] f__source (consM (opM ixD (rd 0) (intM 1)) nilM))) (consM (fzM (callM 2 [.tmp, .tmp] f__word (consM (opM ixD (rd 0) (intM 2)) (consM (cM c_KINDS) nilM)))) (consM (fzM (callM 2 [.tmp, .tmp] f__word (consM (opM ixD (rd 0) (intM 3)) (consM (cM c_SIDES) nilM)))) nilM)))))
  (seqM (dropM (lmM 1 [] extF (consM (fzM (clM lstD (consM (callM 1 [.tmp] f__flag (consM (opM ixD (rd 0) (intM 4)) nilM)) (consM (callM 2 [.tmp, .tmp] f__word (consM (opM ixD (rd 0) (intM 5)) (consM (cM c_RELATED) nilM))) nilM)))) nilM)))
  tailM))) := rfl
theorem rule8 {a b c d e f g h : Str} (ha : WOk a) (hb : WOk b) (hc : WOk c) (hd : WOk d) (he : WOk e) (hf : WOk f) (hg : WOk g) (hh : WOk h) :
    f__rule [words [a, b, c, d, e, f, g, h]] = .ok (nonO (ruleP [a, b, c, d, e, f, g, h])) [words [a, b, c, d, e, f, g, h]] := by
  have x0 : ∀ a b c d e f g h : D, atI [a, b, c, d, e, f, g, h] 0 = some a := fun _ _ _ _ _ _ _ _ => rfl
  have x1 : ∀ a b c d e f g h : D, atI [a, b, c, d, e, f, g, h] 1 = some b := fun _ _ _ _ _ _ _ _ => rfl
  have x2 : ∀ a b c d e f g h : D, atI [a, b, c, d, e, f, g, h] 2 = some c := fun _ _ _ _ _ _ _ _ => rfl
  have x3 : ∀ a b c d e f g h : D, atI [a, b, c, d, e, f, g, h] 3 = some d := fun _ _ _ _ _ _ _ _ => rfl
  have x4 : ∀ a b c d e f g h : D, atI [a, b, c, d, e, f, g, h] 4 = some e := fun _ _ _ _ _ _ _ _ => rfl
  have x5 : ∀ a b c d e f g h : D, atI [a, b, c, d, e, f, g, h] 5 = some f := fun _ _ _ _ _ _ _ _ => rfl
  have x6 : ∀ a b c d e f g h : D, atI [a, b, c, d, e, f, g, h] 6 = some g := fun _ _ _ _ _ _ _ _ => rfl
  have x7 : ∀ a b c d e f g h : D, atI [a, b, c, d, e, f, g, h] 7 = some h := fun _ _ _ _ _ _ _ _ => rfl
  have e1 := source_e hb
  have e2 := word_e hc ok_KINDS
  have e3 := word_e hd ok_SIDES
  have e4 := flag_e he
  have e5 := word_e hf ok_RELATED
  have e7 := number_o hh
  by_cases h0 : a = "rule"
  · by_cases h6 : g = ">"
    · subst h0 h6
      cases hn : numO h with
      | none =>
        rw [hn] at e7
        simp [intO] at e7
        simp [f__rule, fnM_e, N__rule.m, words, x0, x6, x7, e7, ruleP, hn, nonO]
      | some n =>
        rw [hn] at e7
        simp [intO] at e7
        have q2 : D.tup (KINDS.map D.str) = c_KINDS := rfl
        have q3 : D.tup (SIDES.map D.str) = c_SIDES := rfl
        have q5 : D.tup (RELATED.map D.str) = c_RELATED := rfl
        rw [q2] at e2; rw [q3] at e3; rw [q5] at e5
        have s1 := fz_oneL' (o := srcO b) srcO_s
        have s2 := fz_oneL' (o := wordO c KINDS) (wordO_s hc.ok)
        have s3 := fz_oneL' (o := wordO d SIDES) (wordO_s hd.ok)
        have s4 := fz_oneL' (o := flagO e) flagO_s
        have s5 := fz_oneL' (o := wordO f RELATED) (wordO_s hf.ok)
        have p1 := srcO_s (w := b)
        have p2 := wordO_s (w := c) (ws := KINDS) hc.ok
        have p3 := wordO_s (w := d) (ws := SIDES) hd.ok
        have p4 := flagO_s (w := e)
        have p5 := wordO_s (w := f) (ws := RELATED) hf.ok
        simp only [ruleP, hn, and_self, if_true, Option.bind_some]
        generalize srcO b = o1 at e1 s1 p1 ⊢
        generalize wordO c KINDS = o2 at e2 s2 p2 ⊢
        generalize wordO d SIDES = o3 at e3 s3 p3 ⊢
        generalize flagO e = o4 at e4 s4 p4 ⊢
        generalize wordO f RELATED = o5 at e5 s5 p5 ⊢
        have b5 : 5 ≤ big := by unfold big; omega
        simp [f__rule, fnM_e, rule_me, words, x0, x1, x2, x3, x4, x5, x6, x7, e7, e1, e2, e3, e4, e5, has_oneL, s1, s2, s3, s4, s5, b5]
        have tl := tail_e (x := [D.str (Str.ofString "rule"), D.str b, D.str c, D.str d, D.str e, D.str f, D.str (Str.ofString ">"), D.str h]) (h := h) (n := n) (os := [o1, o2, o3, o4, o5]) (by simp) rfl e7 (by simp) (by
          intro o ho
          simp at ho
          rcases ho with rfl | rfl | rfl | rfl | rfl <;> assumption)
        simp at tl
        rw [tl]
    · simp [f__rule, fnM_e, N__rule.m, words, x0, x6, h0, h6, ruleP, nonO, hg.ok, ha.ok]
  · simp [f__rule, fnM_e, N__rule.m, words, x0, h0, ruleP, nonO, ha.ok]
theorem rule_e {ws : List Str} (hw : ∀ w ∈ ws, WOk w) : f__rule [words ws] = .ok (nonO (ruleP ws)) [words ws] := by
  by_cases h : ws.length = 8
  · match ws, h with
    | [a, b, c, d, e, f, g, h], _ =>
      simp at hw
      obtain ⟨ha, hb, hc, hd, he, hf, hg, hh⟩ := hw
      exact rule8 ha hb hc hd he hf hg hh
  · rw [rule_len hw h]
    have : ruleP ws = none := by
      unfold ruleP
      split
      · exact absurd rfl h
      · rfl
    rw [this]; rfl
end G
end VS
set_option Elab.async false
set_option linter.all false
set_option maxRecDepth 100000
set_option maxHeartbeats 4000000
/-! T6 (k19): the law's rules of words. -/
namespace VS
open PySem PySem.Spec PyProof.Rows L2
namespace G
def ltailM : SM := (seqM (iteM (testM (inPM false (clM lstD nilM) 2 [])) (retM nonM) skipM)
  (retM (opM addD (clM (one toTupD) (consM (lcM [4] (itM (fzv 2)) (tgN 4) yesM (opM ixD (rd 4) (intM 0))) nilM)) (clM tupD (consM (callM 1 [.tmp] f__law_number (consM (opM ixD (rd 1) (intM 7)) nilM)) nilM)))))
theorem lrule_me : N__law_rule_of.m = (seqM (setM 1 (fzM (smM splitD (rd 0) (strM " "))))
  (seqM (iteM (orM (testM (opM (eqP true) (clM (one lenD) (consM (rd 1) nilM)) (intM 8))) (orM (testM (opM (eqP true) (opM ixD (rd 1) (intM 0)) (strM "rule"))) (orM (testM (opM (eqP true) (opM ixD (rd 1) (intM 6)) (strM ">"))) (testM (unM (isN false) (callM 1 [.tmp] f__law_number (consM (opM ixD (rd 1) (intM 7)) nilM))))))) (retM nonM) skipM)
  (seqM (setM 2 (lcM [3] (rngM rng1 (consM (intM 5) nilM)) (tgN 3) yesM (callM 2 [.tmp, .tmp] f__law_part (consM (opM ixD (rd 1) (opM addD (rd 3) (intM 1))) (consM (rd 3) nilM)))))
  ltailM))) := rfl
theorem sh_listO {o : Option D} {n : Nat} (h : ∀ d, o = some d → smp d = true) : sh (n + 1) (listO o) = true := by
  cases o with
  | none => simp [listO]
  | some d => rcases smp_c (h d rfl) with rfl | ⟨b, rfl⟩ | ⟨i, rfl⟩ | ⟨x, rfl, hx⟩ <;> simp [listO, *]
theorem shs_listO {n : Nat} : ∀ {os : List (Option D)}, (∀ o ∈ os, ∀ d, o = some d → smp d = true) → shs (n + 1) (os.map listO) = true
  | [], _ => by simp
  | o :: os, h => by
    simp at h
    simp [sh_listO (n := n) (fun d e => h.1 d e), shs_listO (n := n) (os := os) h.2]
theorem any_nil : ∀ {os : List (Option D)}, (os.map listO).any (fun z => eqD z (.lst true [])) = (allO os).isNone
  | [] => rfl
  | none :: os => by simp [listO, allO]
  | some d :: os => by
    simp only [List.map_cons, List.any_cons, any_nil (os := os), listO, eqD_ll, eqDs_cn, allO, Bool.false_or]
    cases allO os <;> rfl
theorem ltail_e {x a b : D} {xs : List D} {h : Str} {n : Int} {os : List (Option D)} (hx : pures? xs = true) (x7 : atI xs 7 = some (.str h)) (e7 : f__law_number [.str h] = .ok (.int n) [.str h]) (hl : os.length ≤ 5) (hp : ∀ o ∈ os, ∀ d, o = some d → smp d = true) :
    fnEnd 1 [1, 2] (ltailM [x, .lst false xs, .lst true (os.map listO), .un, .un]) = .ok (nonO ((allO os).map fun ps => .tup (ps ++ [.int n]))) [x] := by
  have b6 : (6 : Nat) < big := by unfold big; omega
  have s := shs_listO (n := 62) hp
  have an := any_nil (os := os)
  cases e : allO os with
  | none =>
    rw [e] at an
    simp [ltailM, s, an, nonO, inpK, inPM]
  | some ps =>
    have eo := allO_some e
    subst eo
    rw [e] at an
    have hs : ∀ d ∈ ps, smp d = true := fun d hd => hp (some d) (List.mem_map_of_mem hd) d rfl
    have hps := pures_smp hs
    have em : (ps.map some).map listO = ps.map fun d => D.lst true [d] := by rw [List.map_map]; rfl
    rw [em] at s an ⊢
    have fq : fzs (ps.map fun d => D.lst true [d]) = ps.map fun d => D.lst false [d] := by
      clear e em an s hps hl hp
      induction ps with
      | nil => simp
      | cons p ps ih => simp at hs; simp [ih hs.2, (pure_smp hs.1).2.2]
    have fq2 : fzs (ps.map fun d => D.lst false [d]) = ps.map fun d => D.lst false [d] := by
      clear e em an s hps hl hp fq
      induction ps with
      | nil => simp
      | cons p ps ih => simp at hs; simp [ih hs.2, (pure_smp hs.1).2.2]
    have hl' : (ps.map fun d => D.lst false [d]).length < big := by simp at hl ⊢; omega
    have hl2 : ps.length + 1 ≤ big := by simp at hl; omega
    apply Vl.eq
    obtain ⟨Q, hQ⟩ := hide (fun (d : D) (es : List D) => d = nonO (Option.map (fun ps => D.tup (ps ++ [D.int n])) (some ps)) ∧ es = [x])
    rw [← hQ]
    simp [ltailM, s, an, hx, fq, fq2, -List.any_map]
    refine Vl_map unF hl' ?_ ?_
    · intro d hd
      obtain ⟨p, hp1, rfl⟩ := List.mem_map.mp hd
      have := pure_smp (hs p hp1)
      have y : atI [p] 0 = some p := rfl
      simp [unF, this, y]
    · have em2 : (ps.map fun d => D.lst false [d]).map unF = ps := by
        rw [List.map_map]
        exact List.map_id _
      simp [em2, x7, e7, hps, hx, hl2]
      rw [hQ]
      simp [nonO]
theorem lrule8 {x a b c d e f g h : Str} (hx : x.length + 2 ≤ big) (ok : PyData.strOk x = true) (sp : Txt.split x " " = [a, b, c, d, e, f, g, h]) (ha : WOk a) (hb : WOk b) (hc : WOk c) (hd : WOk d) (he : WOk e) (hf : WOk f) (hg : WOk g) (hh : WOk h) :
    f__law_rule_of [.str x] = .ok (nonO (ruleL [a, b, c, d, e, f, g, h])) [.str x] := by
  have x0 : ∀ a b c d e f g h : D, atI [a, b, c, d, e, f, g, h] 0 = some a := fun _ _ _ _ _ _ _ _ => rfl
  have x1 : ∀ a b c d e f g h : D, atI [a, b, c, d, e, f, g, h] 1 = some b := fun _ _ _ _ _ _ _ _ => rfl
  have x2 : ∀ a b c d e f g h : D, atI [a, b, c, d, e, f, g, h] 2 = some c := fun _ _ _ _ _ _ _ _ => rfl
  have x3 : ∀ a b c d e f g h : D, atI [a, b, c, d, e, f, g, h] 3 = some d := fun _ _ _ _ _ _ _ _ => rfl
  have x4 : ∀ a b c d e f g h : D, atI [a, b, c, d, e, f, g, h] 4 = some e := fun _ _ _ _ _ _ _ _ => rfl
  have x5 : ∀ a b c d e f g h : D, atI [a, b, c, d, e, f, g, h] 5 = some f := fun _ _ _ _ _ _ _ _ => rfl
  have x6 : ∀ a b c d e f g h : D, atI [a, b, c, d, e, f, g, h] 6 = some g := fun _ _ _ _ _ _ _ _ => rfl
  have x7 : ∀ a b c d e f g h : D, atI [a, b, c, d, e, f, g, h] 7 = some h := fun _ _ _ _ _ _ _ _ => rfl
  have sl : (" " : Str).length ≠ 0 := by decide +kernel
  have spD : splitD (.str x) (.str " ") = some (.lst true [.str a, .str b, .str c, .str d, .str e, .str f, .str g, .str h]) := by
    rw [splitD_e sl hx, sp]; rfl
  have e1 := lpart0_e hb
  have e2 := lpartW_e hc (k := 1) (by omega)
  have e3 := lpartW_e hd (k := 2) (by omega)
  have e4 := lpart3_e he
  have e5 := lpartW_e hf (k := 4) (by omega)
  have e7 := lnumber_o hh
  have s5 : small62 5 = true := by decide
  by_cases h0 : a = "rule"
  · by_cases h6 : g = ">"
    · subst h0 h6
      cases hn : numO h with
      | none =>
        rw [hn] at e7
        simp [intO] at e7
        simp [f__law_rule_of, fnM_e, lrule_me, spD, x0, x6, x7, e7, ruleL, hn, nonO]
      | some n =>
        rw [hn] at e7
        simp [intO] at e7
        have p1 := lsrcO_s (w := b)
        have p2 := wordO_s (w := c) (ws := KINDS) hc.ok
        have p3 := wordO_s (w := d) (ws := SIDES) hd.ok
        have p4 := flagO_s (w := e)
        have p5 := wordO_s (w := f) (ws := RELATED) hf.ok
        have q1 : setOf 1 = KINDS := rfl
        have q2 : setOf 2 = SIDES := rfl
        have q4 : setOf 4 = RELATED := rfl
        rw [q1] at e2; rw [q2] at e3; rw [q4] at e5
        simp only [ruleL, hn, and_self, if_true, Option.bind_some]
        generalize lsrcO b = o1 at e1 p1 ⊢
        generalize wordO c KINDS = o2 at e2 p2 ⊢
        generalize wordO d SIDES = o3 at e3 p3 ⊢
        generalize flagO e = o4 at e4 p4 ⊢
        generalize wordO f RELATED = o5 at e5 p5 ⊢
        apply Vl.eq
        obtain ⟨Q, hQ⟩ := hide (fun (dd : D) (es : List D) => dd = nonO (Option.map (fun ps => D.tup (ps ++ [D.int n])) (allO [o1, o2, o3, o4, o5])) ∧ es = [D.str x])
        rw [← hQ]
        have tl := ltail_e (x := .str x) (a := .un) (b := .un) (xs := [D.str (Str.ofString "rule"), D.str b, D.str c, D.str d, D.str e, D.str f, D.str (Str.ofString ">"), D.str h]) (h := h) (n := n) (os := [o1, o2, o3, o4, o5]) (by simp) rfl e7 (by simp) (by
          intro o ho
          simp at ho
          rcases ho with rfl | rfl | rfl | rfl | rfl <;> assumption)
        simp [f__law_rule_of, fnM_e, lrule_me, spD, x0, x6, x7, e7, s5, rng1]
        refine Vl_map (fun d => match d with | .int 0 => listO o1 | .int 1 => listO o2 | .int 2 => listO o3 | .int 3 => listO o4 | _ => listO o5) (by simp; unfold big; omega) ?_ ?_
        · intro z hz
          have hz' : z = .int 0 ∨ z = .int 1 ∨ z = .int 2 ∨ z = .int 3 ∨ z = .int 4 := by
            simpa [rangeD, List.range, List.range.loop] using hz
          have has_listO : ∀ o : Option D, has? (listO o) = true := fun o => by cases o <;> simp [listO]
          rcases hz' with rfl | rfl | rfl | rfl | rfl
          · simp [x1, e1]
          · simp [x2, e2]
          · simp [x3, e3]
          · simp [x4, e4]
          · simp [x5, e5]
        · have em : (rangeD 0 5).map (fun d : D => match d with | .int 0 => listO o1 | .int 1 => listO o2 | .int 2 => listO o3 | .int 3 => listO o4 | _ => listO o5) = [o1, o2, o3, o4, o5].map listO := rfl
          simp [em]
          rw [← Vl_fnEnd]
          exact (by rw [tl, hQ]; simp : Vl (fnEnd 1 [1, 2]
      (ltailM
        [D.str x,
          D.lst false
            [D.str (Str.ofString "rule"), D.str b, D.str c, D.str d, D.str e, D.str f, D.str (Str.ofString ">"),
              D.str h],
          D.lst true (List.map listO [o1, o2, o3, o4, o5]), D.un, D.un])) Q)
    · simp [f__law_rule_of, fnM_e, lrule_me, spD, x0, x6, h0, h6, ruleL, nonO, hg.ok, ha.ok]
  · simp [f__law_rule_of, fnM_e, lrule_me, spD, x0, h0, ruleL, nonO, ha.ok]
theorem lrule_e {x : Str} {ws : List Str} (hx : x.length + 2 ≤ big) (ok : PyData.strOk x = true) (sp : Txt.split x " " = ws) (hw : ∀ w ∈ ws, WOk w) : f__law_rule_of [.str x] = .ok (nonO (ruleL ws)) [.str x] := by
  by_cases h : ws.length = 8
  · match ws, h with
    | [a, b, c, d, e, f, g, h], _ =>
      simp at hw
      obtain ⟨ha, hb, hc, hd, he, hf, hg, hh⟩ := hw
      exact lrule8 hx ok sp ha hb hc hd he hf hg hh
  · have : ruleL ws = none := by
      unfold ruleL
      split
      · exact absurd rfl h
      · rfl
    have sl : (" " : Str).length ≠ 0 := by decide +kernel
    have spD : splitD (.str x) (.str " ") = some (.lst true (ws.map D.str)) := by rw [splitD_e sl hx, sp]
    have h' : ¬ (ws.length : Int) = 8 := by omega
    have pw : pures? (ws.map D.str) = true := pures_map (fun _ => by simp) ws
    rw [this]
    simp [f__law_rule_of, fnM_e, lrule_me, spD, nonO, h', pw]
end G
end VS
set_option Elab.async false
set_option linter.all false
set_option maxRecDepth 100000
set_option maxHeartbeats 4000000
/-! T7 (k19): lines. -/
namespace VS
open PySem PySem.Spec PyProof.Rows L2
namespace G
/-- a rule: source, four parts, next -/
structure R where
  src : Option Int
  mid : List D
  nxt : Int
def R.d (r : R) : D := .tup ([intO r.src] ++ r.mid ++ [.int r.nxt])
def R.cap (r : R) : R := ⟨r.src.map G.cap, r.mid, G.cap r.nxt⟩
def srcN (w : Str) : Option (Option Int) := if w = "*" then some none else (numO w).map some
theorem srcO_n {w : Str} : srcO w = (srcN w).map fun o => intO (o.map cap) := by
  unfold srcO srcN
  split
  · rfl
  · cases numO w <;> rfl
theorem lsrcO_n {w : Str} : lsrcO w = (srcN w).map fun o => intO o := by
  unfold lsrcO srcN
  split
  · rfl
  · cases numO w <;> rfl
def ruleO : List Str → Option R
  | [a, b, c, d, e, f, g, h] => if a = "rule" ∧ g = ">" then (numO h).bind fun n => (srcN b).bind fun s => (allO [wordO c KINDS, wordO d SIDES, flagO e, wordO f RELATED]).map fun ps => ⟨s, ps, n⟩ else none
  | _ => none
theorem ruleO_len {ws : List Str} (h : ws.length ≠ 8) : ruleO ws = none ∧ ruleL ws = none ∧ ruleP ws = none := by
  refine ⟨?_, ?_, ?_⟩
  · unfold ruleO
    split
    · exact absurd rfl h
    · rfl
  · unfold ruleL
    split
    · exact absurd rfl h
    · rfl
  · unfold ruleP
    split
    · exact absurd rfl h
    · rfl
theorem ruleL_8 {a b c d e f g h : Str} : ruleL [a, b, c, d, e, f, g, h] = (ruleO [a, b, c, d, e, f, g, h]).map R.d := by
  simp only [ruleL, ruleO]
  split
  · cases h1 : numO h with
    | none => rfl
    | some n =>
      simp only [Option.bind_some, lsrcO_n]
      cases h2 : srcN b with
      | none => simp [allO]
      | some s =>
        simp only [Option.map_some, Option.bind_some, allO, Option.map_map]
        rfl
  · rfl
theorem ruleP_8 {a b c d e f g h : Str} : ruleP [a, b, c, d, e, f, g, h] = (ruleO [a, b, c, d, e, f, g, h]).map fun r => r.cap.d := by
  simp only [ruleP, ruleO]
  split
  · cases h1 : numO h with
    | none => rfl
    | some n =>
      simp only [Option.bind_some, srcO_n]
      cases h2 : srcN b with
      | none => simp [allO]
      | some s =>
        simp only [Option.map_some, Option.bind_some, allO, Option.map_map]
        rfl
  · rfl
theorem ruleL_o {ws : List Str} : ruleL ws = (ruleO ws).map R.d := by
  by_cases h : ws.length = 8
  · match ws, h with
    | [a, b, c, d, e, f, g, h], _ => exact ruleL_8
  · obtain ⟨h1, h2, h3⟩ := ruleO_len h
    rw [h1, h2]; rfl
theorem ruleP_o {ws : List Str} : ruleP ws = (ruleO ws).map fun r => r.cap.d := by
  by_cases h : ws.length = 8
  · match ws, h with
    | [a, b, c, d, e, f, g, h], _ => exact ruleP_8
  · obtain ⟨h1, h2, h3⟩ := ruleO_len h
    rw [h1, h3]; rfl
/-- numbers of words -/
def allN : List Str → Option (List Int)
  | [] => some []
  | w :: ws => (numO w).bind fun n => (allN ws).map (n :: ·)
def numD : D → D
  | .str w => intO ((numO w).map cap)
  | d => d
def lnumD : D → D
  | .str w => intO (numO w)
  | d => d
theorem allN_any : ∀ {ws : List Str} {g : Int → Int}, (ws.map fun w => intO ((numO w).map g)).any (fun z => eqD z .non) = (allN ws).isNone
  | [], g => rfl
  | w :: ws, g => by
    simp only [List.map_cons, List.any_cons, allN_any (ws := ws), allN]
    cases numO w with
    | none => simp [intO]
    | some n => cases allN ws <;> simp [intO]
theorem allN_map : ∀ {ws : List Str} {ns : List Int} {g : Int → Int}, allN ws = some ns → (ws.map fun w => intO ((numO w).map g)) = ns.map fun n => D.int (g n)
  | [], ns, g, h => by cases h; rfl
  | w :: ws, ns, g, h => by
    unfold allN at h
    cases e : numO w with
    | none => rw [e] at h; cases h
    | some n =>
      rw [e, Option.bind_some] at h
      cases e2 : allN ws with
      | none => rw [e2] at h; cases h
      | some ms =>
        rw [e2] at h; cases h
        simp only [List.map_cons, e, Option.map_some, allN_map (g := g) e2]
        rfl
theorem sh_intO {o : Option Int} {n : Nat} : sh n (intO o) = true := by cases o <;> simp [intO]
theorem fz_intO {o : Option Int} : fz (intO o) = intO o := by cases o <;> simp [intO]
theorem has_intO {o : Option Int} : has? (intO o) = true ∧ pure? (intO o) = true := by cases o <;> simp [intO]
def lstO' (m : Bool) : Option (List Int) → D
  | some ns => .lst m (ns.map D.int)
  | none => .non
theorem numbers_e {ws : List Str} (hw : ∀ w ∈ ws, WOk w) (hl : ws.length < big) : f__numbers [words ws] = .ok (lstO' false ((allN ws).map (List.map cap))) [words ws] := by
  have pw : pures? (ws.map D.str) = true := pures_map (fun _ => by simp) ws
  apply Vl.eq
  obtain ⟨Q, hQ⟩ := hide (fun (d : D) (es : List D) => d = lstO' false ((allN ws).map (List.map cap)) ∧ es = [words ws])
  rw [← hQ]
  simp [f__numbers, fnM_e, N__numbers.m, words, pw]
  refine Vl_map numD (by simpa using hl) ?_ ?_
  · intro d hd
    obtain ⟨w, h1, rfl⟩ := List.mem_map.mp hd
    simp [number_o (hw w h1), numD]
  · have em : (ws.map D.str).map numD = ws.map fun w => intO ((numO w).map cap) := by rw [List.map_map]; rfl
    have s : shs 63 (ws.map fun w => intO ((numO w).map cap)) = true := shs_map (fun _ => sh_intO) ws
    have an := allN_any (ws := ws) (g := cap)
    have hf : fzs (ws.map fun w => intO ((numO w).map cap)) = ws.map fun w => intO ((numO w).map cap) := fzs_map (fun _ => fz_intO) ws
    cases e : allN ws with
    | none =>
      rw [e] at an
      simp [em, s, an, -List.any_map]
      rw [hQ]
      simp [words, lstO', e]
    | some ns =>
      rw [e] at an
      simp [em, s, an, hf, -List.any_map]
      rw [hQ]
      simp [words, lstO', e, allN_map (g := cap) e]
end G
end VS
set_option Elab.async false
set_option linter.all false
set_option maxRecDepth 100000
set_option maxHeartbeats 4000000
/-! T8 (k19): a line is taken, by the program and by the law. -/
namespace VS
open PySem PySem.Spec PyProof.Rows L2
namespace G
/-- what the lines tell so far -/
structure RS where
  st : Option Int
  on : Option (List Int)
  rs : List R
def step (S : RS) (ws : List Str) : Option RS :=
  match S.st with
  | none => (match ws with
    | [a, b] => if a = "states" then (numO b).map fun n => ⟨some n, S.on, S.rs⟩ else none
    | _ => none)
  | some _ => (match S.on with
    | none => (match ws with
      | a :: r => if a = "on" then (allN r).map fun l => ⟨S.st, some l, S.rs⟩ else none
      | [] => none)
    | some _ => (ruleO ws).map fun r => ⟨S.st, S.on, S.rs ++ [r]⟩)
def rdr (S : RS) : D := .obj true "Reader" ["states", "on", "rules"] [intO (S.st.map cap), lstO' false (S.on.map (List.map cap)), .lst true (S.rs.map fun r => r.cap.d)]
def lst (S : RS) : D := .lst true [intO S.st, lstO' false S.on, .lst true (S.rs.map R.d)]
theorem has_lstO {m : Bool} {o : Option (List Int)} : has? (lstO' m o) = true := by cases o <;> simp [lstO']
theorem pure_lstO {o : Option (List Int)} : pure? (lstO' false o) = true := by cases o <;> simp [lstO']
theorem fz_lstO {m : Bool} {o : Option (List Int)} : fz (lstO' m o) = lstO' false o := by cases o <;> simp [lstO']
theorem isNone_intO {o : Option Int} : isNone? (intO o) = o.isNone := by cases o <;> rfl
theorem isNone_lstO {m : Bool} {o : Option (List Int)} : isNone? (lstO' m o) = o.isNone := by cases o <;> rfl
/-- a line with its words -/
structure LOk (x : Str) (ws : List Str) : Prop where
  len : x.length + 2 ≤ big
  ok : PyData.strOk x = true
  sp : Txt.split x " " = ws
  wok : ∀ w ∈ ws, WOk w
  ne : ws ≠ []
  many : ws.length < big
theorem cut1 {d : D} {ds : List D} : cutD (d :: ds) (some 1) none = ds := by
  have h : HT.sIx (ds.length + 1) 0 (some 1) = 1 := by
    simp [HT.sIx]
  have h2 : HT.sIx (ds.length + 1) (ds.length + 1) none = ds.length + 1 := by
    simp [HT.sIx]
  unfold cutD
  rw [List.length_cons, h, h2]
  simp
theorem slD_l {m : Bool} {ds : List D} {p : Option Int × Option Int} : slD (.lst m ds) p = some (.lst true (cutD ds p.1 p.2)) := (Eq.refl _).trans rfl
@[simp] theorem fzs_ic {f : Int → Int} (ns : List Int) : fzs (ns.map (D.int ∘ f)) = ns.map (D.int ∘ f) := fzs_map (fun _ => by simp) ns
@[simp] theorem pures_ic {f : Int → Int} (ns : List Int) : pures? (ns.map (D.int ∘ f)) = true := pures_map (fun _ => by simp) ns
structure R.Ok (r : R) : Prop where
  mid : ∀ d ∈ r.mid, smp d = true
  len : r.mid.length = 4
theorem allO_ok {P : D → Prop} : ∀ {os : List (Option D)} {ps : List D}, allO os = some ps → (∀ o ∈ os, ∀ d, o = some d → P d) → (∀ d ∈ ps, P d) ∧ ps.length = os.length
  | [], ps, h, _ => by simp [allO] at h; subst h; simp
  | none :: os, ps, h, _ => by simp [allO] at h
  | some d :: os, ps, h, hp => by
    simp [allO] at h
    obtain ⟨qs, e, rfl⟩ := h
    have := allO_ok e fun o ho => hp o (List.mem_cons_of_mem _ ho)
    refine ⟨?_, by simp [this.2]⟩
    intro z hz
    rcases List.mem_cons.mp hz with rfl | hz
    · exact hp (some z) (by simp) z rfl
    · exact this.1 z hz
theorem ruleO_ok {ws : List Str} (hw : ∀ w ∈ ws, WOk w) {r : R} (h : ruleO ws = some r) : r.Ok := by
  by_cases hl : ws.length = 8
  · match ws, hl with
    | [a, b, c, d, e, f, g, i], _ =>
      simp only [ruleO] at h
      split at h
      · rw [Option.bind_eq_some_iff] at h
        obtain ⟨n, _, h⟩ := h
        rw [Option.bind_eq_some_iff] at h
        obtain ⟨s, _, h⟩ := h
        rw [Option.map_eq_some_iff] at h
        obtain ⟨ps, e1, rfl⟩ := h
        simp at hw
        have := allO_ok (P := fun d => smp d = true) e1 (by
          intro o ho
          simp at ho
          rcases ho with rfl | rfl | rfl | rfl
          · exact wordO_s hw.2.2.1.ok
          · exact wordO_s hw.2.2.2.1.ok
          · exact flagO_s
          · exact wordO_s hw.2.2.2.2.2.1.ok)
        exact ⟨this.1, this.2⟩
      · cases h
  · rw [(ruleO_len hl).1] at h; cases h
theorem R.Ok.cap {r : R} (h : r.Ok) : r.cap.Ok := ⟨h.mid, h.len⟩
theorem fzs_append' {xs ys : List D} : fzs (xs ++ ys) = fzs xs ++ fzs ys := fzs_app
theorem pures_append {xs ys : List D} : pures? (xs ++ ys) = (pures? xs && pures? ys) := by
  induction xs with
  | nil => simp
  | cons x xs ih => simp [ih, Bool.and_assoc]
theorem R.Ok.d {r : R} (h : r.Ok) : fz r.d = r.d ∧ pure? r.d = true ∧ has? r.d = true ∧ isNone? r.d = false := by
  have := pures_smp h.mid
  simp [R.d, this, pures_append, fz_intO, has_intO]
/-- behind a line that is right; behind one that is wrong -/
def TakeP (S : RS) (x : Str) (ws : List Str) (d : D) (es : List D) : Prop := match step S ws with
  | some S' => d = .bl true ∧ es = [rdr S', .str x]
  | none => d = .bl false ∧ ∃ o, es = [o, .str x] ∧ has? o = true
theorem take_ok {S : RS} {x : Str} {ws : List Str} (h : LOk x ws) (hr : S.rs.length < big) : Vl (f_Reader_take [rdr S, .str x]) (TakeP S x ws) := by
  have sl : (" " : Str).length ≠ 0 := by decide +kernel
  have spD : splitD (.str x) (.str " ") = some (.lst true (ws.map D.str)) := by rw [splitD_e sl h.len, h.sp]
  have pw : pures? (ws.map D.str) = true := pures_map (fun _ => by simp) ws
  obtain ⟨Q, hQ⟩ := hide (TakeP S x ws)
  rw [← hQ]
  obtain ⟨st, on, rs⟩ := S
  cases st with
  | none =>
    by_cases hl : ws.length = 2
    · match ws, hl with
      | [a, b], _ =>
        have x0 : atI [D.str a, .str b] 0 = some (.str a) := rfl
        have x1 : atI [D.str a, .str b] 1 = some (.str b) := rfl
        have hw := h.wok
        simp at hw
        by_cases ha : a = "states"
        · subst ha
          have e1 := number_o hw.2
          cases hn : numO b with
          | none =>
            rw [hn] at e1
            simp [intO] at e1
            simp [f_Reader_take, fnM_e, N_Reader_take.m, spD, rdr, isNone_intO, intO, x0, x1, e1]
            rw [hQ]
            simp [TakeP, step, hn]
          | some n =>
            rw [hn] at e1
            simp [intO] at e1
            simp [f_Reader_take, fnM_e, N_Reader_take.m, spD, rdr, isNone_intO, intO, x0, x1, e1]
            rw [hQ]
            simp [TakeP, step, hn, rdr, intO]
        · simp [f_Reader_take, fnM_e, N_Reader_take.m, spD, rdr, isNone_intO, intO, x0, x1, ha, hw.1.ok]
          rw [hQ]
          simp [TakeP, step, ha]
    · have hl' : ¬ (ws.length : Int) = 2 := by omega
      simp [f_Reader_take, fnM_e, N_Reader_take.m, spD, pw, rdr, isNone_intO, intO, hl']
      rw [hQ]
      have : step ⟨none, on, rs⟩ ws = none := by
        unfold step
        split
        · split
          · exact absurd rfl hl
          · rfl
        · simp_all
      simp [TakeP, this]
  | some st =>
    cases on with
    | none =>
      match ws, h.ne with
      | a :: r, _ =>
        have x0 : atI (D.str a :: r.map D.str) 0 = some (.str a) := by simp [atI, ixN]
        have hw := h.wok
        simp at hw
        have hm := h.many
        simp at hm
        have pr : pures? (r.map D.str) = true := pures_map (fun _ => by simp) r
        by_cases ha : a = "on"
        · subst ha
          have e1 := numbers_e (ws := r) hw.2 (by omega)
          simp [words] at e1
          cases hn : allN r with
          | none =>
            rw [hn] at e1
            simp [lstO'] at e1
            simp [f_Reader_take, fnM_e, N_Reader_take.m, spD, pr, rdr, isNone_intO, isNone_lstO, intO, lstO', x0, slD_l, cut1, e1]
            rw [hQ]
            simp [TakeP, step, hn]
          | some n =>
            rw [hn] at e1
            simp [lstO'] at e1
            simp [f_Reader_take, fnM_e, N_Reader_take.m, spD, pr, rdr, isNone_intO, isNone_lstO, intO, lstO', x0, slD_l, cut1, e1]
            rw [hQ]
            simp [TakeP, step, hn, rdr, intO, lstO']
        · simp [f_Reader_take, fnM_e, N_Reader_take.m, spD, pr, rdr, isNone_intO, isNone_lstO, intO, lstO', x0, ha, hw.1.ok]
          rw [hQ]
          simp [TakeP, step, ha]
    | some on =>
      have e1 := rule_e h.wok
      rw [ruleP_o] at e1
      simp only [words] at e1
      have hr' : rs.length < big := hr
      cases hn : ruleO ws with
      | none =>
        rw [hn] at e1
        simp [nonO] at e1
        simp [f_Reader_take, fnM_e, N_Reader_take.m, spD, pw, rdr, isNone_intO, isNone_lstO, intO, lstO', e1, hr']
        rw [hQ]
        simp [TakeP, step, hn]
      | some r =>
        have ro := (ruleO_ok h.wok hn).cap.d
        rw [hn] at e1
        simp [nonO] at e1
        simp [f_Reader_take, fnM_e, N_Reader_take.m, spD, pw, rdr, isNone_intO, isNone_lstO, intO, lstO', e1, hr', ro]
        rw [hQ]
        simp [TakeP, step, hn, rdr, intO, lstO']
end G
end VS
set_option Elab.async false
set_option linter.all false
set_option maxRecDepth 100000
set_option maxHeartbeats 4000000
/-! T9 (k19): a line is taken by the law. -/
namespace VS
open PySem PySem.Spec PyProof.Rows L2
namespace G
def LineP (S : RS) (x : Str) (ws : List Str) (d : D) (es : List D) : Prop := match step S ws with
  | some S' => d = .bl true ∧ es = [lst S', .str x]
  | none => d = .bl false ∧ ∃ o, es = [o, .str x] ∧ has? o = true
def filtN : D → Bool := fun d => isNone? (lnumD d)
theorem allN_filter : ∀ {ws : List Str}, (decide (0 < ((ws.map D.str).filter filtN).length)) = (allN ws).isNone
  | [] => rfl
  | w :: ws => by
    have ih := allN_filter (ws := ws)
    rw [List.map_cons, List.filter_cons]
    have e : filtN (D.str w) = (numO w).isNone := isNone_intO
    rw [e]
    unfold allN
    cases numO w with
    | none => simp
    | some n =>
      simp only [Option.isNone_some, Bool.false_eq_true, if_false, ih, Option.bind_some]
      cases allN ws <;> rfl
theorem line_ok {S : RS} {x : Str} {ws : List Str} (h : LOk x ws) (hr : S.rs.length < big) : Vl (f__law_line [lst S, .str x]) (LineP S x ws) := by
  have sl : (" " : Str).length ≠ 0 := by decide +kernel
  have spD : splitD (.str x) (.str " ") = some (.lst true (ws.map D.str)) := by rw [splitD_e sl h.len, h.sp]
  have pw : pures? (ws.map D.str) = true := pures_map (fun _ => by simp) ws
  have b3 : (0 : Nat) < big ∧ (1 : Nat) < big ∧ (2 : Nat) < big ∧ (3 : Nat) < big := by unfold big; omega
  have g0 : ixN 3 0 = some 0 := rfl
  have g1 : ixN 3 1 = some 1 := rfl
  obtain ⟨Q, hQ⟩ := hide (LineP S x ws)
  rw [← hQ]
  obtain ⟨st, on, rs⟩ := S
  cases st with
  | none =>
    by_cases hl : ws.length = 2
    · match ws, hl with
      | [a, b], _ =>
        have x0 : atI [D.str a, .str b] 0 = some (.str a) := rfl
        have x1 : atI [D.str a, .str b] 1 = some (.str b) := rfl
        have hw := h.wok
        simp at hw
        by_cases ha : a = "states"
        · subst ha
          have e1 := lnumber_o hw.2
          cases hn : numO b with
          | none =>
            rw [hn] at e1
            simp [intO] at e1
            simp [f__law_line, fnM_e, N__law_line.m, spD, lst, isNone_intO, intO, x0, x1, e1]
            rw [hQ]
            simp [LineP, step, hn]
          | some n =>
            rw [hn] at e1
            simp [intO] at e1
            simp [f__law_line, fnM_e, N__law_line.m, spD, lst, isNone_intO, intO, x0, x1, e1, g0]
            rw [hQ]
            simp [LineP, step, hn, lst, intO]
        · simp [f__law_line, fnM_e, N__law_line.m, spD, lst, isNone_intO, intO, x0, x1, ha, hw.1.ok]
          rw [hQ]
          simp [LineP, step, ha]
    · have hl' : ¬ (ws.length : Int) = 2 := by omega
      simp [f__law_line, fnM_e, N__law_line.m, spD, pw, lst, isNone_intO, intO, hl']
      rw [hQ]
      have : step ⟨none, on, rs⟩ ws = none := by
        unfold step
        split
        · split
          · exact absurd rfl hl
          · rfl
        · simp_all
      simp [LineP, this]
  | some st =>
    cases on with
    | none =>
      match ws, h.ne with
      | a :: r, _ =>
        have x0 : atI (D.str a :: r.map D.str) 0 = some (.str a) := by simp [atI, ixN]
        have hw := h.wok
        simp at hw
        have hm := h.many
        simp at hm
        have hm' : r.length < big := by omega
        have pr : pures? (r.map D.str) = true := pures_map (fun _ => by simp) r
        have af := allN_filter (ws := r)
        by_cases ha : a = "on"
        · subst ha
          simp [f__law_line, fnM_e, N__law_line.m, spD, pr, lst, isNone_intO, isNone_lstO, intO, lstO', x0, slD_l, cut1]
          refine Vl_filter filtN (by simpa using hm') ?_ ?_
          · intro d hd
            obtain ⟨w, h1, rfl⟩ := List.mem_map.mp hd
            simp [lnumber_o (hw.2 w h1), lnumD, has_intO, filtN]
          · cases hn : allN r with
            | none =>
              rw [hn] at af
              have af' : 0 < ((r.map D.str).filter filtN).length := by
                by_cases h : 0 < ((r.map D.str).filter filtN).length
                · exact h
                · simp [h] at af
              simp [af']
              rw [hQ]
              simp [LineP, step, hn]
            | some ns =>
              rw [hn] at af
              have af' : decide (0 < ((r.map D.str).filter filtN).length) = false := af
              rw [af']
              simp [slD_l, cut1, pr]
              refine Vl_map lnumD (by simpa using hm') ?_ ?_
              · intro d hd
                obtain ⟨w, h1, rfl⟩ := List.mem_map.mp hd
                simp [lnumber_o (hw.2 w h1), lnumD]
              · have em : (r.map D.str).map lnumD = ns.map D.int := by
                  have e2 := allN_map (g := id) hn
                  simp only [Option.map_id, id_eq] at e2
                  rw [← e2, List.map_map]
                  rfl
                simp [em, g1]
                rw [hQ]
                simp [LineP, step, hn, lst, intO, lstO']
        · simp [f__law_line, fnM_e, N__law_line.m, spD, pr, lst, isNone_intO, isNone_lstO, intO, lstO', x0, ha, hw.1.ok]
          rw [hQ]
          simp [LineP, step, ha]
    | some on =>
      have e1 := lrule_e h.len h.ok h.sp h.wok
      rw [ruleL_o] at e1
      have hr' : rs.length < big := hr
      cases hn : ruleO ws with
      | none =>
        rw [hn] at e1
        simp [nonO] at e1
        simp [f__law_line, fnM_e, N__law_line.m, spD, pw, lst, isNone_intO, isNone_lstO, intO, lstO', e1, hr']
        rw [hQ]
        simp [LineP, step, hn]
      | some r =>
        have ro := (ruleO_ok h.wok hn).d
        rw [hn] at e1
        simp [nonO] at e1
        simp [f__law_line, fnM_e, N__law_line.m, spD, pw, lst, isNone_intO, isNone_lstO, intO, lstO', e1, hr', ro]
        rw [hQ]
        simp [LineP, step, hn, lst, intO, lstO']
end G
end VS
set_option Elab.async false
set_option linter.all false
set_option maxRecDepth 100000
set_option maxHeartbeats 4000000
/-! T10 (k19): the parts of a text. -/
namespace VS
open PySem PySem.Spec PyProof.Rows L2 TL
namespace G
theorem spl_facts {S : List Nat} : ∀ (l : List Nat) (k : Nat) (acc : List Nat), (spl S k acc l ≠ [] ∧ (spl S k acc l).length ≤ l.length + 1) ∧ ∀ w ∈ spl S k acc l, w.length ≤ acc.length + l.length ∧ ∀ c ∈ w, c ∈ acc ∨ c ∈ l
  | [], k, acc => by
    rw [spl_nil]
    simp
  | d :: l, 0, acc => by
    unfold spl
    split
    · obtain ⟨⟨h1, h2⟩, h3⟩ := spl_facts l (S.length - 1) []
      refine ⟨⟨by simp, by simp; omega⟩, ?_⟩
      intro w hw
      rcases List.mem_cons.mp hw with rfl | hw
      · exact ⟨by omega, fun c hc => .inl hc⟩
      · obtain ⟨a, b⟩ := h3 w hw
        refine ⟨by simp at a ⊢; omega, fun c hc => ?_⟩
        rcases b c hc with h | h
        · cases h
        · exact .inr (List.mem_cons_of_mem _ h)
    · obtain ⟨⟨h1, h2⟩, h3⟩ := spl_facts l 0 (acc ++ [d])
      refine ⟨⟨h1, by simp; omega⟩, ?_⟩
      intro w hw
      obtain ⟨a, b⟩ := h3 w hw
      refine ⟨by simp at a ⊢; omega, fun c hc => ?_⟩
      rcases b c hc with h | h
      · rcases List.mem_append.mp h with h | h
        · exact .inl h
        · simp at h; subst h; exact .inr (by simp)
      · exact .inr (List.mem_cons_of_mem _ h)
  | d :: l, k + 1, acc => by
    unfold spl
    obtain ⟨⟨h1, h2⟩, h3⟩ := spl_facts l k acc
    refine ⟨⟨h1, by simp; omega⟩, ?_⟩
    intro w hw
    obtain ⟨a, b⟩ := h3 w hw
    refine ⟨by simp at a ⊢; omega, fun c hc => ?_⟩
    rcases b c hc with h | h
    · exact .inl h
    · exact .inr (List.mem_cons_of_mem _ h)
theorem strOk_tl {x : Str} : PyData.strOk x = true ↔ ∀ c ∈ tl x, c < 1114112 := by
  unfold PyData.strOk
  rw [← Array.all_toList, List.all_eq_true]
  simp [tl]
theorem split_facts {x y : Str} (hy : tl y ≠ []) (hk : y.cps.all (· < 256) = true) :
    (Txt.split x y ≠ [] ∧ (Txt.split x y).length ≤ x.length + 1) ∧ ∀ w ∈ Txt.split x y, w.length ≤ x.length ∧ ∀ c ∈ tl w, c ∈ tl x := by
  have e := split_spl x y hy (kind_ok hk)
  obtain ⟨⟨h1, h2⟩, h3⟩ := spl_facts (S := tl y) (tl x) 0 []
  rw [← e] at h1 h2 h3
  have hx := len_tl x
  refine ⟨⟨fun h => h1 (by rw [h]; rfl), by simpa [hx] using h2⟩, ?_⟩
  intro w hw
  obtain ⟨a, b⟩ := h3 (tl w) (List.mem_map_of_mem hw)
  rw [len_tl w, hx]
  refine ⟨by simpa using a, fun c hc => ?_⟩
  rcases b c hc with h | h
  · cases h
  · exact h
theorem words_ok {x : Str} (hl : x.length ≤ 640) (ok : PyData.strOk x = true) : LOk x (Txt.split x " ") := by
  obtain ⟨⟨h1, h2⟩, h3⟩ := split_facts (x := x) (y := " ") (by decide +kernel) (by decide +kernel)
  refine ⟨by unfold big; omega, ok, rfl, fun w hw => ?_, h1, by unfold big; omega⟩
  obtain ⟨a, b⟩ := h3 w hw
  exact ⟨strOk_tl.mpr fun c hc => strOk_tl.mp ok c (b c hc), by omega⟩
structure TOk (x : Str) : Prop where
  len : x.length ≤ 640
  ok : PyData.strOk x = true
abbrev lines (x : Str) : List Str := Txt.split x "\n"
theorem lines_ok {x : Str} (h : TOk x) : (lines x ≠ [] ∧ (lines x).length ≤ 641) ∧ ∀ w ∈ lines x, LOk w (Txt.split w " ") := by
  obtain ⟨⟨h1, h2⟩, h3⟩ := split_facts (x := x) (y := "\n") (by decide +kernel) (by decide +kernel)
  have := h.len
  refine ⟨⟨h1, by show (Txt.split x "\n").length ≤ 641; omega⟩, fun w hw => ?_⟩
  obtain ⟨a, b⟩ := h3 w hw
  exact words_ok (by omega) (strOk_tl.mpr fun c hc => strOk_tl.mp h.ok c (b c hc))
end G
end VS
set_option Elab.async false
set_option linter.all false
set_option maxRecDepth 100000
set_option maxHeartbeats 4000000
/-! T11 (k19): the lines of a text. -/
namespace VS
open PySem PySem.Spec PyProof.Rows L2 TL
namespace G
/-- a printed number -/
abbrev num (k : Int) : Str := Str.ofString k.repr
theorem tl_num' (n : Nat) : tl (num (n : Int)) = numL n := tl_num n
theorem num_len {k : Nat} (h : k < 10 ^ 6) : (num (k : Int)).length ≤ 6 := by
  rw [len_tl, tl_num']
  exact numL_len (by omega) h
theorem log_ok {k : Nat} (h : k < 10 ^ 6) : ((k : Int).natAbs).log2 < 1920 := by
  rw [Int.natAbs_natCast]
  by_cases h0 : k = 0
  · subst h0; decide
  · rw [Nat.log2_lt h0]
    exact Nat.lt_of_lt_of_le h (by decide)
theorem log_ok' {k : Nat} (h : k < 10 ^ 6) : Nat.log2 k < 1920 := by simpa using log_ok h
theorem strOk_num {k : Nat} : PyData.strOk (num (k : Int)) = true := strOk_of
theorem rangeD_c {lo : Int} {n : Nat} : rangeD lo (n + 1) = .int lo :: rangeD (lo + 1) n := by
  unfold rangeD
  rw [List.range_succ_eq_map]
  simp [Function.comp_def]
  intro a _
  omega
theorem rangeD_0 {lo : Int} : rangeD lo 0 = [] := (Eq.refl _).trans rfl
def es (k : Nat) (ls : List Str) : List D := pairsD (rangeD k ls.length) (ls.map D.str)
theorem es_n {k : Nat} : es k [] = [] := (Eq.refl _).trans rfl
theorem es_c {k : Nat} {l : Str} {ls : List Str} : es k (l :: ls) = .tup [.int k, .str l] :: es (k + 1) ls := by
  unfold es
  rw [List.length_cons, rangeD_c]
  simp [pairsD]
def runL (S : RS) : List Str → Nat → Nat ⊕ RS
  | [], _ => .inr S
  | l :: ls, k => if ls = [] ∧ l = "" then .inr S else match step S (Txt.split l " ") with
    | none => .inl k
    | some S' => runL S' ls (k + 1)
def bodyP : SM := (iteM (andM (orM (testM (opM ltD (rd 4) (rd 3))) (testM (opM (eqP true) (rd 5) (strM "")))) (notM (testM (methM 2 "Reader" "take" 1 [] [.tmp] f_Reader_take (consM (rd 5) nilM))))) (raiseM (opM addD (strM "line ") (clM (one strX) (consM (rd 4) nilM)))) skipM)
abbrev tgP : D → List D → Option (List D) := tgTup 2 (tgCons (tgN 4) (tgCons (tgN 5) tgNil))
theorem step_rs {S S' : RS} {ws : List Str} (h : step S ws = some S') : S'.rs.length ≤ S.rs.length + 1 := by
  obtain ⟨st, on, rs⟩ := S
  unfold step at h
  cases st with
  | none =>
    simp only at h
    split at h
    · split at h
      · rw [Option.map_eq_some_iff] at h
        obtain ⟨n, _, rfl⟩ := h
        simp
      · cases h
    · cases h
  | some st =>
    cases on with
    | none =>
      simp only at h
      split at h
      · split at h
        · rw [Option.map_eq_some_iff] at h
          obtain ⟨n, _, rfl⟩ := h
          simp
        · cases h
      · cases h
    | some on =>
      simp only at h
      rw [Option.map_eq_some_iff] at h
      obtain ⟨n, _, rfl⟩ := h
      simp
theorem ob_rdr {S : RS} : objO "Reader" "take" (some (rdr S)) = true := (Eq.refl _).trans rfl
theorem has_rdr {S : RS} : has? (rdr S) = true := by simp [rdr]
theorem getP_rdr {S : RS} : getP (rdr S) [] = some (rdr S) := (Eq.refl _).trans rfl
def skips (ls : List Str) (l : Str) : Prop := ls = [] ∧ l = ""
theorem test_e {ls : List Str} {l : Str} {k : Nat} {ended : Int} (he : ended = (k : Int) + (l :: ls).length - 1) (ok : PyData.strOk l = true) {i j q : Nat} {ρ : List D} (h3 : ρ[i]? = some (.int ended)) (h4 : ρ[j]? = some (.int k)) (h5 : ρ[q]? = some (.str l)) :
    (orM (testM (opM ltD (rd j) (rd i))) (testM (opM (eqP true) (rd q) (strM "")))) ρ = .ok (!decide (ls = [] ∧ l = "")) ρ := by
  simp at he
  by_cases h1 : (k : Int) < ended
  · have : ls ≠ [] := fun h => by subst h; simp at he; omega
    simp [h3, h4, h1, this]
  · have : ls = [] := by
      rcases ls with _ | ⟨a, ls⟩
      · rfl
      · simp at he; omega
    by_cases h2 : l = "" <;> simp [h3, h4, h5, h1, h2, this, ok]
theorem bodyP_skip {x l : Str} {L : D} {ended : Int} {S : RS} {k : Nat} {ls : List Str} (he : ended = (k : Int) + (l :: ls).length - 1) (ok : PyData.strOk l = true) (hc : ls = [] ∧ l = "") :
    bodyP [.str x, rdr S, L, .int ended, .int k, .str l] = .ok .nx [.str x, rdr S, L, .int ended, .int k, .str l] := by
  have e := test_e (ls := ls) he ok (i := 3) (j := 4) (q := 5) (ρ := [.str x, rdr S, L, .int ended, .int k, .str l]) rfl rfl rfl
  simp only [bodyP, iteM_e, andM_e, e]
  simp [hc]
theorem bodyP_ok {x l : Str} {L : D} {ended : Int} {S S' : RS} {k : Nat} {ls : List Str} (he : ended = (k : Int) + (l :: ls).length - 1) (lo : LOk l (Txt.split l " ")) (hr : S.rs.length < big) (hc : ¬ (ls = [] ∧ l = "")) (hs : step S (Txt.split l " ") = some S') :
    bodyP [.str x, rdr S, L, .int ended, .int k, .str l] = .ok .nx [.str x, rdr S', L, .int ended, .int k, .str l] := by
  have e := test_e (ls := ls) he lo.ok (i := 3) (j := 4) (q := 5) (ρ := [.str x, rdr S, L, .int ended, .int k, .str l]) rfl rfl rfl
  obtain ⟨d, E, e1, t⟩ := take_ok lo hr
  unfold TakeP at t
  rw [hs] at t
  obtain ⟨rfl, rfl⟩ := t
  simp only [bodyP, iteM_e, andM_e, e]
  simp [hc, ob_rdr, has_rdr, e1]
theorem bodyP_bad {x l : Str} {L : D} {ended : Int} {S : RS} {k : Nat} {ls : List Str} (hk : k < 10 ^ 6) (he : ended = (k : Int) + (l :: ls).length - 1) (lo : LOk l (Txt.split l " ")) (hr : S.rs.length < big) (hc : ¬ (ls = [] ∧ l = "")) (hs : step S (Txt.split l " ") = none) :
    ∃ o, bodyP [.str x, rdr S, L, .int ended, .int k, .str l] = .ex ("line " ++ num k) [.str x, o, L, .int ended, .int k, .str l] := by
  have e := test_e (ls := ls) he lo.ok (i := 3) (j := 4) (q := 5) (ρ := [.str x, rdr S, L, .int ended, .int k, .str l]) rfl rfl rfl
  obtain ⟨d, E, e1, t⟩ := take_ok lo hr
  unfold TakeP at t
  rw [hs] at t
  obtain ⟨rfl, o, rfl, ho⟩ := t
  have nl := num_len hk
  have lg := log_ok' hk
  have b20 : 5 + (num (k : Int)).length ≤ big := by unfold big; omega
  refine ⟨o, ?_⟩
  simp only [bodyP, iteM_e, andM_e, e]
  have ad : addD (.str "line ") (.str (num k)) = some (.str ("line " ++ num k)) := by
    refine addD_s ?_
    have : ("line " : Str).length = 5 := by decide +kernel
    omega
  simp [hc, ob_rdr, has_rdr, e1, ho, lg, ad]
theorem loopP {x : Str} {L : D} {ended : Int} (hL : has? L = true ∧ pure? L = true) : ∀ (ls : List Str) (k : Nat) (S : RS) (a4 a5 : D), (∀ l ∈ ls, LOk l (Txt.split l " ")) → S.rs.length + ls.length < big → k + ls.length < 10 ^ 6 → ended = (k : Int) + ls.length - 1 →
    match runL S ls k with
    | .inr S' => ∃ b4 b5, forM tgP bodyP (es k ls) [.str x, rdr S, L, .int ended, a4, a5] = .ok .nx [.str x, rdr S', L, .int ended, b4, b5]
    | .inl j => ∃ b1 b4 b5, forM tgP bodyP (es k ls) [.str x, rdr S, L, .int ended, a4, a5] = .ex ("line " ++ num j) [.str x, b1, L, .int ended, b4, b5]
  | [], k, S, a4, a5, _, _, _, _ => by
    simp only [runL, es_n]
    exact ⟨a4, a5, by simp⟩
  | l :: ls, k, S, a4, a5, hl, hr, hk, he => by
    have lo := hl l (by simp)
    have hr0 : S.rs.length < big := by omega
    have hk' : k < 10 ^ 6 := by simp at hk; omega
    have tg : tgP (.tup [.int k, .str l]) [.str x, rdr S, L, .int ended, a4, a5] = some [.str x, rdr S, L, .int ended, .int k, .str l] := by simp
    simp only [runL]
    rw [es_c, forM_c, tg, forO_s]
    by_cases hc : ls = [] ∧ l = ""
    · rw [if_pos hc, bodyP_skip he lo.ok hc]
      obtain ⟨rfl, rfl⟩ := hc
      exact ⟨.int k, .str "", by simp [es_n]⟩
    · rw [if_neg hc]
      cases hs : step S (Txt.split l " ") with
      | none =>
        obtain ⟨o, e⟩ := bodyP_bad (x := x) (L := L) hk' he lo hr0 hc hs
        rw [e]
        exact ⟨o, .int k, .str l, rfl⟩
      | some S' =>
        rw [bodyP_ok (x := x) (L := L) he lo hr0 hc hs, Res.bind_ok, turnK_nx]
        exact loopP hL (x := x) (ended := ended) ls (k + 1) S' (.int k) (.str l) (fun z hz => hl z (by simp [hz])) (by have := step_rs hs; simp at hr; omega) (by simp at hk; omega) (by simp at he; omega)
end G
end VS
set_option Elab.async false
set_option linter.all false
set_option maxRecDepth 100000
set_option maxHeartbeats 4000000
/-! QL (k19): listeners; from PK2..PK9. -/
namespace VS
open PySem PySem.Spec PyProof.Rows L2
theorem nodup_of_pair0 : True := trivial
namespace G
theorem take_snoc {α : Type} {xs : List α} {i : Nat} {x : α} (h : xs[i]? = some x) : xs.take (i + 1) = xs.take i ++ [x] := by
  rw [List.take_add_one, h]
  rfl
theorem atI_mem {ds : List D} {i : Int} (h0 : 0 ≤ i) (h1 : i < ds.length) : ∃ d, atI ds i = some d ∧ d ∈ ds := by
  have : i.toNat < ds.length := by omega
  exact ⟨ds[i.toNat], by simp [atI, ixN, h0, h1, this], List.getElem_mem _⟩
mutual
def sameD : D → D → Bool
  | .un, .un => true
  | .non, .non => true
  | .bl a, .bl b => a == b
  | .int i, .int j => decide (i = j)
  | .str x, .str y => decide (x = y)
  | .tup xs, .tup ys => sameDs xs ys
  | .rol xs, .rol ys => sameDs xs ys
  | .lst m xs, .lst n ys => m == n && sameDs xs ys
  | .dic m ks xs, .dic n ls ys => m == n && (sameDs ks ls && sameDs xs ys)
  | .obj m c ns xs, .obj n e ms ys => m == n && (decide (c = e) && (decide (ns = ms) && sameDs xs ys))
  | _, _ => false
def sameDs : List D → List D → Bool
  | [], [] => true
  | x :: xs, y :: ys => sameD x y && sameDs xs ys
  | _, _ => false
end
mutual
theorem same_eq : ∀ (d e : D), sameD d e = true → d = e := by
  intro d e h
  cases d <;> cases e <;> simp [sameD] at h <;> first
    | rfl
    | (subst h; rfl)
    | (rw [sames_eq _ _ h]; done)
    | (rw [h.1, sames_eq _ _ h.2]; done)
    | (rw [h.1, sames_eq _ _ h.2.1, sames_eq _ _ h.2.2]; done)
    | (rw [h.1, h.2.1, h.2.2.1, sames_eq _ _ h.2.2.2]; done)
theorem sames_eq : ∀ (ds es : List D), sameDs ds es = true → ds = es := by
  intro ds es h
  cases ds <;> cases es <;> simp [sameDs] at h
  · rfl
  · rw [same_eq _ _ h.1, sames_eq _ _ h.2]
end
def isOk (r : Res D) (d : D) (es : List D) : Bool := match r with
  | .ok d' es' => sameD d' d && sameDs es' es
  | _ => false
theorem isOk_eq {r : Res D} {d : D} {es : List D} (h : isOk r d es = true) : r = .ok d es := by
  cases r with
  | ok d' es' =>
    simp [isOk] at h
    rw [same_eq _ _ h.1, sames_eq _ _ h.2]
  | ex z es' => simp [isOk] at h
  | bad => simp [isOk] at h
def PartD (ws : List Str) (d : D) : Prop := d = .non ∨ ∃ w, w ∈ ws ∧ d = .str w
def RuleD (st : Int) (d : D) : Prop := ∃ a b c e f g, d = .tup [a, b, c, e, f, .int g] ∧ (a = .non ∨ ∃ x, a = .int x ∧ 0 ≤ x ∧ x < st) ∧ PartD KINDS b ∧ PartD SIDES c ∧ (e = .non ∨ ∃ v, e = .bl v) ∧ PartD RELATED f ∧ 0 ≤ g ∧ g < st
theorem PartD.ok {ws : List Str} {d : D} (h : PartD ws d) : has? d = true ∧ pure? d = true ∧ fz d = d := by
  rcases h with rfl | ⟨w, _, rfl⟩ <;> simp
theorem rule_ok {row : List Int} {n : Nat} {st : Int} (h0 : 0 < st) : Vl (f__law_rule [bx row n, .int st]) fun d es => RuleD st d ∧ ∃ n', es = [bx row n', .int st] := by
  obtain ⟨Q, hQ⟩ := hide (fun (d : D) (es : List D) => RuleD st d ∧ ∃ n', es = [bx row n', .int st])
  rw [← hQ]
  obtain ⟨a, ea, ha⟩ := atI_mem (ds := [.non, .int (drawV row n st)]) (drawV_lo (row := row) (n := n + 1) (many := 2) (by decide)) (drawV_hi (by decide))
  obtain ⟨b, eb, hb⟩ := atI_mem (ds := KINDS.map D.str) (drawV_lo (row := row) (n := n + 2) (many := 5) (by decide)) (drawV_hi (by decide))
  obtain ⟨c, ec, hc⟩ := atI_mem (ds := [.non, .non, .str "outside", .str "inside", .str "zone"]) (drawV_lo (row := row) (n := n + 4) (many := 5) (by decide)) (drawV_hi (by decide))
  obtain ⟨e, ee, he⟩ := atI_mem (ds := [.non, .non, .bl true, .bl false]) (drawV_lo (row := row) (n := n + 5) (many := 4) (by decide)) (drawV_hi (by decide))
  obtain ⟨f, ef, hf⟩ := atI_mem (ds := [.non, .non, .non, .str "none", .str "outside", .str "inside"]) (drawV_lo (row := row) (n := n + 6) (many := 6) (by decide)) (drawV_hi (by decide))
  have g0 := drawV_lo (row := row) (n := n + 7) h0
  have g1 := drawV_hi (row := row) (n := n + 7) h0
  have a0 := drawV_lo (row := row) (n := n) h0
  have a1 := drawV_hi (row := row) (n := n) h0
  simp at ha hb hc he hf eb
  have ha1 : has? a = true ∧ pure? a = true ∧ fz a = a := by rcases ha with rfl | rfl <;> simp
  have hb1 : has? b = true ∧ pure? b = true ∧ fz b = b := by rcases hb with rfl | rfl | rfl | rfl | rfl <;> simp
  have hc1 : has? c = true ∧ pure? c = true ∧ fz c = c := by rcases hc with rfl | rfl | rfl | rfl <;> simp
  have he1 : has? e = true ∧ pure? e = true ∧ fz e = e := by rcases he with rfl | rfl | rfl <;> simp
  have hf1 : has? f = true ∧ pure? f = true ∧ fz f = f := by rcases hf with rfl | rfl | rfl | rfl <;> simp
  have pb : PartD KINDS b := by rcases hb with rfl | rfl | rfl | rfl | rfl <;> exact .inr ⟨_, by decide +kernel, rfl⟩
  have pc : PartD SIDES c := by rcases hc with rfl | rfl | rfl | rfl <;> first | exact .inl rfl | exact .inr ⟨_, by decide +kernel, rfl⟩
  have pf : PartD RELATED f := by rcases hf with rfl | rfl | rfl | rfl <;> first | exact .inl rfl | exact .inr ⟨_, by decide +kernel, rfl⟩
  have pe : e = .non ∨ ∃ v, e = .bl v := by rcases he with rfl | rfl | rfl <;> first | exact .inl rfl | exact .inr ⟨_, rfl⟩
  have pa : a = .non ∨ ∃ x, a = .int x ∧ 0 ≤ x ∧ x < st := by rcases ha with rfl | rfl <;> first | exact .inl rfl | exact .inr ⟨_, rfl, a0, a1⟩
  have i1 : ∀ b : D, atI [D.non, b] 1 = some b := fun _ => rfl
  have i0 : ∀ b : D, atI [D.non, b] 0 = some .non := fun _ => rfl
  by_cases hz : 0 < drawV row (n + 3) 4
  · simp [f__law_rule, fnM_e, N__law_rule.m, draw_e, kinds_e, h0, ea, eb, ec, ee, ef, ha1, hb1, hc1, he1, hf1, hz, Nat.add_assoc, i1]
    rw [hQ]
    exact ⟨⟨a, b, c, e, f, _, rfl, pa, pb, pc, pe, pf, g0, g1⟩, _, rfl⟩
  · simp [f__law_rule, fnM_e, N__law_rule.m, draw_e, kinds_e, h0, ea, eb, ec, ee, ef, ha1, hb1, hc1, he1, hf1, hz, Nat.add_assoc, i0]
    rw [hQ]
    exact ⟨⟨a, .non, c, e, f, _, rfl, pa, .inl rfl, pc, pe, pf, g0, g1⟩, _, rfl⟩
theorem RuleD.ok {st : Int} {d : D} (h : RuleD st d) : has? d = true ∧ pure? d = true ∧ fz d = d := by
  obtain ⟨a, b, c, e, f, g, rfl, ha, hb, hc, he, hf, h0, h1⟩ := h
  have ha : pure? a = true ∧ fz a = a := by rcases ha with rfl | ⟨x, rfl, _⟩ <;> simp
  have he : pure? e = true ∧ fz e = e := by rcases he with rfl | ⟨x, rfl⟩ <;> simp
  simp [ha, hb.ok, hc.ok, he, hf.ok]
def LisD (d : D) (most : Int) : Prop := ∃ (st : Int) (on : List Int) (rs : List D), d = .lst false [.int st, .lst false (on.map D.int), .lst false rs] ∧ 0 < st ∧ st ≤ most ∧ on.Pairwise (· < ·) ∧ (∀ x ∈ on, 0 ≤ x ∧ x < st) ∧ (∀ r ∈ rs, RuleD st r) ∧ rs.length ≤ 8
theorem rules_fz {st : Int} {rs : List D} (h : ∀ r ∈ rs, RuleD st r) : pures? rs = true ∧ fzs rs = rs := by
  induction rs with
  | nil => simp
  | cons r rs ih =>
    simp at h
    simp [h.1.ok, ih h.2]
def nn : D := .non
def dropEnd : List D := [.tup [.non, .str "drop", .non, .non, .non, .int 0], .tup [.non, .str "end", .non, .non, .non, .int 0]]
def smpS : List (Str × Int × List Int × List D) := [
  ("simple", 2, [1], [.tup [.non, .str "enter", .non, .non, .non, .int 1], .tup [.non, .str "leave", .non, .non, .non, .int 0]] ++ dropEnd),
  ("counting", 3, [1, 2], [.tup [.int 0, .str "enter", .non, .non, .non, .int 1], .tup [.int 1, .str "enter", .non, .non, .non, .int 2], .tup [.int 2, .str "leave", .non, .non, .non, .int 1], .tup [.int 1, .str "leave", .non, .non, .non, .int 0]] ++ dropEnd),
  ("latest", 2, [1], [.tup [.non, .str "enter", .str "outside", .non, .non, .int 0], .tup [.non, .str "enter", .non, .non, .non, .int 1], .tup [.non, .str "leave", .non, .bl true, .non, .int 0]] ++ dropEnd),
  ("over", 2, [1], [.tup [.non, .str "over", .str "outside", .non, .non, .int 0], .tup [.non, .str "over", .non, .non, .non, .int 1], .tup [.non, .str "leave", .non, .non, .non, .int 0]] ++ dropEnd),
  ("related", 2, [1], [.tup [.non, .str "enter", .non, .non, .non, .int 1], .tup [.int 1, .str "leave", .non, .non, .str "inside", .int 1], .tup [.non, .str "leave", .non, .non, .non, .int 0]] ++ dropEnd)]
def lisV (m : Bool) (st : Int) (on : List Int) (rs : List D) : D := .lst m [.int st, .lst m (on.map D.int), .lst m rs]
theorem sample_k : (smpS.all fun s => isOk (f__law_sample [.str s.1]) (lisV true s.2.1 s.2.2.1 s.2.2.2) [.str s.1]) = true := by decide +kernel
def partB (ws : List Str) : D → Bool
  | .non => true
  | .str w => ws.contains w
  | _ => false
def ruleB (st : Int) : D → Bool
  | .tup [a, b, c, e, f, .int g] => (match a with | .non => true | .int x => decide (0 ≤ x) && decide (x < st) | _ => false) && (partB KINDS b && (partB SIDES c && ((match e with | .non => true | .bl _ => true | _ => false) && (partB RELATED f && (decide (0 ≤ g) && decide (g < st))))))
  | _ => false
theorem partB_ok {ws : List Str} {d : D} (h : partB ws d = true) : PartD ws d := by
  unfold partB at h
  split at h
  · exact .inl rfl
  · exact .inr ⟨_, by simpa using h, rfl⟩
  · cases h
theorem ruleB_ok {st : Int} {d : D} (h : ruleB st d = true) : RuleD st d := by
  unfold ruleB at h
  split at h
  · rename_i a b c e f g
    simp only [Bool.and_eq_true, decide_eq_true_eq] at h
    obtain ⟨ha, hb, hc, he, hf, h0, h1⟩ := h
    refine ⟨a, b, c, e, f, g, rfl, ?_, partB_ok hb, partB_ok hc, ?_, partB_ok hf, h0, h1⟩
    · split at ha
      · exact .inl rfl
      · simp at ha; exact .inr ⟨_, rfl, ha⟩
      · cases ha
    · split at he
      · exact .inl rfl
      · exact .inr ⟨_, rfl⟩
      · cases he
  · cases h
theorem sample_g : (smpS.all fun s => decide (0 < s.2.1) && decide (s.2.1 ≤ 3) && s.2.2.1.all (fun x => decide (0 ≤ x) && decide (x < s.2.1)) && s.2.2.2.all (ruleB s.2.1) && decide (s.2.2.2.length ≤ 6) && decide (0 < s.2.2.2.length) && (s.2.2.1 == [1] || s.2.2.1 == [1, 2])) = true := by decide +kernel
theorem sample_e {name : Str} (h : name ∈ smpS.map (·.1)) : ∃ st on rs, f__law_sample [.str name] = .ok (lisV true st on rs) [.str name] ∧ 0 < st ∧ st ≤ 3 ∧ on.Pairwise (· < ·) ∧ (∀ x ∈ on, 0 ≤ x ∧ x < st) ∧ (∀ r ∈ rs, RuleD st r) ∧ rs.length ≤ 6 ∧ 0 < rs.length := by
  obtain ⟨s, hs, rfl⟩ := List.mem_map.mp h
  have h1 := List.all_eq_true.mp sample_k s hs
  have h2 := List.all_eq_true.mp sample_g s hs
  simp only [Bool.and_eq_true, decide_eq_true_eq, List.all_eq_true, Bool.or_eq_true, beq_iff_eq] at h2
  obtain ⟨⟨⟨⟨⟨⟨g1, g2⟩, g3⟩, g4⟩, g5⟩, g6⟩, g7⟩ := h2
  refine ⟨_, _, _, isOk_eq h1, g1, g2, ?_, g3, fun r hr => ruleB_ok (g4 r hr), g5, g6⟩
  rcases g7 with e | e <;> rw [e] <;> decide
theorem pair_snoc {on : List Int} {i : Int} (h : on.Pairwise (· < ·)) (hb : ∀ x ∈ on, x < i) : (on ++ [i]).Pairwise (· < ·) := by
  rw [List.pairwise_append]
  exact ⟨h, by simp, fun a ha b hb' => by simp at hb'; subst hb'; exact hb a ha⟩
theorem fz_lisV {m : Bool} {st : Int} {on : List Int} {rs : List D} (h : ∀ r ∈ rs, RuleD st r) : fz (lisV m st on rs) = lisV false st on rs := by
  simp [lisV, (rules_fz h).2]
theorem listener_ok {row : List Int} {n : Nat} {most : Int} (hm : 3 ≤ most) (hm2 : most ≤ 100) : Vl (f__law_listener [bx row n, .int most]) fun d es => LisD (fz d) most ∧ ∃ n', es = [bx row n', .int most] := by
  obtain ⟨Q, hQ⟩ := hide (fun (d : D) (es : List D) => LisD (fz d) most ∧ ∃ n', es = [bx row n', .int most])
  rw [← hQ]
  have hv0 := drawV_lo (row := row) (n := n) (many := 8) (by decide)
  have hv1 := drawV_hi (row := row) (n := n) (many := 8) (by decide)
  have h0m : 0 < most := by omega
  by_cases hk : drawV row n 8 < 5
  · obtain ⟨s, es, hs⟩ := atI_mem (ds := [.str "simple", .str "counting", .str "latest", .str "over", .str "related"]) hv0 hk
    simp at hs
    have : ∃ z, s = .str z ∧ z ∈ smpS.map (·.1) := by rcases hs with rfl | rfl | rfl | rfl | rfl <;> exact ⟨_, rfl, by decide +kernel⟩
    obtain ⟨z, rfl, hz⟩ := this
    obtain ⟨st, on, rs, e, g1, g2, g3, g4, g5, g6, g7⟩ := sample_e hz
    have pr := rules_fz g5
    simp [f__law_listener, fnM_e, N__law_listener.m, draw_e, hk, es, e]
    refine Vl_iteK (fun _ => ?_) (fun _ => ?_)
    · simp [lisV]
      refine Vl_call (rule_ok g1) ?_
      rintro r _ ⟨hr, n', rfl⟩
      have hrl : (0 : Int) < rs.length := by omega
      have i0 := drawV_lo (row := row) (n := n') hrl
      have i1 := drawV_hi (row := row) (n := n') hrl
      simp [lisV, hr.ok, draw_e, hrl, g7, ixN, i0, i1]
      rw [hQ]
      have g5' : ∀ x ∈ rs.set (drawV row n' rs.length).toNat r, RuleD st x := fun x hx => (List.mem_or_eq_of_mem_set hx).elim (g5 x) (fun e => e ▸ hr)
      exact ⟨⟨st, on, _, by simp [(rules_fz g5').2], g1, by omega, g3, g4, g5', by simp; omega⟩, _, rfl⟩
    · simp [lisV]
      rw [hQ]
      exact ⟨⟨st, on, rs, by simp [pr.2], g1, by omega, g3, g4, g5, by omega⟩, _, rfl⟩
  · have st0 := drawV_lo (row := row) (n := n + 1) h0m
    have st1 := drawV_hi (row := row) (n := n + 1) h0m
    simp [f__law_listener, fnM_e, N__law_listener.m, draw_e, hk, h0m]
    generalize hst : 1 + drawV row (n + 1) most = st
    have hs1 : 0 < st := by omega
    have hs2 : st ≤ most := by omega
    have ss : small62 st = true := by unfold small62; simp; omega
    simp [rng1, ss]
    obtain ⟨I, hI⟩ := hide (fun (i : Nat) (acc ρ : List D) => ∃ (n' : Nat) (on : List Int), acc = on.map D.int ∧ ρ = [bx row n', .int most, .int (drawV row n 8), .int st, .un, .un, .un] ∧ on.Pairwise (· < ·) ∧ (∀ x ∈ on, 0 ≤ x ∧ x < i) ∧ on.length ≤ i)
    refine Vl_lc I (by rw [hI]; exact ⟨_, [], rfl, rfl, by simp, by simp, by simp⟩) ?_ ?_
    · intro i d acc ρ hd h
      rw [hI] at h
      obtain ⟨n', on, rfl, rfl, ho, hb, hl⟩ := h
      obtain ⟨rfl, hi⟩ := rangeD_get hd
      refine ⟨by unfold big; simp; omega, ?_⟩
      simp [draw_e]
      refine ⟨fun _ => ?_, fun _ => ?_⟩
      · rw [hI]
        refine ⟨_, on ++ [(i : Int)], by simp, rfl, pair_snoc ho (fun x hx => (hb x hx).2), fun x hx => ?_, by simp; omega⟩
        simp at hx
        rcases hx with hx | rfl
        · have := hb x hx; omega
        · omega
      · rw [hI]; exact ⟨_, on, rfl, rfl, ho, fun x hx => by have := hb x hx; omega, by omega⟩
    · intro acc ρ h
      rw [hI] at h
      obtain ⟨n', on, rfl, rfl, ho, hb, hl⟩ := h
      have v0 := drawV_lo (row := row) (n := n') (many := 8) (by decide)
      have v1 := drawV_hi (row := row) (n := n') (many := 8) (by decide)
      have s8 : small62 (drawV row n' 8) = true := by unfold small62; simp; omega
      simp [draw_e, s8]
      obtain ⟨J, hJ⟩ := hide (fun (i : Nat) (acc ρ : List D) => ∃ n', ρ = [bx row n', .int most, .int (drawV row n 8), .int st, .un, .un, .un] ∧ (∀ r ∈ acc, RuleD st r) ∧ acc.length ≤ i)
      refine Vl_lc J (by rw [hJ]; exact ⟨_, rfl, by simp, by simp⟩) ?_ ?_
      · intro i d acc ρ hd h
        rw [hJ] at h
        obtain ⟨n'', rfl, hr, hl⟩ := h
        obtain ⟨rfl, hi⟩ := rangeD_get hd
        refine ⟨by unfold big; omega, ?_⟩
        simp
        refine Vl_call (rule_ok hs1) ?_
        rintro r _ ⟨hr', n3, rfl⟩
        simp
        rw [hJ]
        refine ⟨_, rfl, fun x hx => ?_, by simp; omega⟩
        simp at hx
        rcases hx with hx | rfl
        · exact hr x hx
        · exact hr'
      · intro acc ρ h
        rw [hJ] at h
        obtain ⟨n'', rfl, hr, hl⟩ := h
        simp at hl hb
        simp
        rw [hQ]
        exact ⟨⟨st, on, acc, by simp [(rules_fz hr).2], hs1, hs2, ho, fun x hx => by have := hb x hx; omega, hr, by omega⟩, _, rfl⟩
theorem num_i {i m : Int} : f_is_number [.int i, .int m] = .ok (.bl (decide (0 ≤ i) && decide (i ≤ m))) [.int i, .int m] := by
  by_cases h : 0 ≤ i <;> simp [f_is_number, fnM_e, N_is_number.m, h]
theorem num_b {b : Bool} {m : Int} : f_is_number [.bl b, .int m] = .ok (.bl false) [.bl b, .int m] := by
  simp [f_is_number, fnM_e, N_is_number.m]
theorem num_s {x : Str} {m : Int} : f_is_number [.str x, .int m] = .ok (.bl false) [.str x, .int m] := by
  simp [f_is_number, fnM_e, N_is_number.m]
theorem num_n {m : Int} : f_is_number [.non, .int m] = .ok (.bl false) [.non, .int m] := by
  simp [f_is_number, fnM_e, N_is_number.m]
theorem part_n {ws : List Str} : f__is_part [.non, .tup (ws.map D.str)] = .ok (.bl true) [.non, .tup (ws.map D.str)] := by
  simp [f__is_part, fnM_e, N__is_part.m]
theorem part_s {x : Str} {ws : List Str} (hx : PyData.strOk x = true) (hw : ∀ w ∈ ws, PyData.strOk w = true) : f__is_part [.str x, .tup (ws.map D.str)] = .ok (.bl (decide (x ∈ ws))) [.str x, .tup (ws.map D.str)] := by
  have h2 : shs 63 (ws.map D.str) = true := shs_all fun d hd => by
    obtain ⟨w, h, rfl⟩ := List.mem_map.mp hd
    simp [hw w h]
  have e : (ws.any fun z => decide (z = x)) = decide (x ∈ ws) := by
    rw [Bool.eq_iff_iff]
    simp
  simp [f__is_part, fnM_e, N__is_part.m, hx, h2, List.any_map, Function.comp_def, e]
theorem part_ok {ws : List Str} {d : D} (hw : ∀ w ∈ ws, PyData.strOk w = true) (h : PartD ws d) : f__is_part [d, .tup (ws.map D.str)] = .ok (.bl true) [d, .tup (ws.map D.str)] := by
  rcases h with rfl | ⟨w, h, rfl⟩
  · exact part_n
  · rw [part_s (hw w h) hw]; simp [h]
end G
end VS
set_option Elab.async false
set_option linter.all false
set_option maxRecDepth 100000
set_option maxHeartbeats 4000000
/-! QM (k19): whether parts are a listener's. -/
namespace VS
open PySem PySem.Spec PyProof.Rows L2
namespace G
theorem nodup_of_pair {on : List Int} (h : on.Pairwise (· < ·)) : on.Nodup := h.imp fun h e => by omega
/-- the dict of a row of ints -/
def seenI (on : List Int) : List Int := on.foldl (fun acc i => if i ∈ acc then acc else acc ++ [i]) []
theorem seenI_nodup_aux : ∀ (on acc : List Int), (acc ++ on).Nodup → on.foldl (fun acc i => if i ∈ acc then acc else acc ++ [i]) acc = acc ++ on
  | [], acc, _ => by simp
  | i :: on, acc, h => by
    have : i ∉ acc := by
      intro hm
      rw [List.nodup_append] at h
      exact h.2.2 i hm i (by simp) rfl
    simp only [List.foldl_cons, if_neg this]
    rw [seenI_nodup_aux on (acc ++ [i]) (by simpa using h)]
    simp
theorem seenI_le : ∀ (on acc : List Int), (on.foldl (fun acc i => if i ∈ acc then acc else acc ++ [i]) acc).length ≤ acc.length + on.length ∧
    ((on.foldl (fun acc i => if i ∈ acc then acc else acc ++ [i]) acc).length = acc.length + on.length → (∀ x ∈ on, x ∉ acc) ∧ on.Nodup)
  | [], acc => by simp
  | i :: on, acc => by
    rw [List.foldl_cons]
    by_cases h : i ∈ acc
    · rw [if_pos h]
      have := seenI_le on acc
      refine ⟨by simp; omega, fun e => ?_⟩
      simp at e; omega
    · rw [if_neg h]
      have := seenI_le on (acc ++ [i])
      refine ⟨by simp at this ⊢; omega, fun e => ?_⟩
      have := this.2 (by simp at e ⊢; omega)
      refine ⟨?_, ?_⟩
      · intro x hx
        rcases List.mem_cons.mp hx with rfl | hx
        · exact h
        · have := this.1 x hx; simp at this; exact this.1
      · rw [List.nodup_cons]
        refine ⟨fun hm => ?_, this.2⟩
        have := this.1 i hm; simp at this
theorem seenI_iff {on : List Int} : (seenI on).length = on.length ↔ on.Nodup := by
  constructor
  · intro h
    exact ((seenI_le on []).2 (by simpa [seenI] using h)).2
  · intro h
    have := seenI_nodup_aux on [] (by simpa using h)
    show (on.foldl _ []).length = _
    rw [this]; simp
theorem putKD_len {acc : List (Key × D)} {k : Key} {z : D} : (putKD acc k z).length = if acc.any (fun kv => decide (kv.1 = k)) = true then acc.length else acc.length + 1 := by
  unfold putKD
  split <;> simp
theorem dcI (st : Int) (on0 : List Int) : ∀ (on seen : List Int), seen.length + on.length < big →
    dcLoop [2] (tgN 2) yesM (rd 2) (blM true) (on.map D.int) (seen.map fun i => (.inl i, .bl true)) [.lst false (on0.map D.int), .int st, .un]
      = .ok ((on.foldl (fun acc i => if i ∈ acc then acc else acc ++ [i]) seen).map fun i => (.inl i, .bl true)) [.lst false (on0.map D.int), .int st, .un]
  | [], seen, _ => rfl
  | i :: on, seen, hb => by
    simp only [List.length_cons] at hb
    rw [List.map_cons, dcLoop]
    simp [keyOf]
    have e : putKD (seen.map fun i => ((Sum.inl i : Key), D.bl true)) (.inl i) (.bl true) = (if i ∈ seen then seen else seen ++ [i]).map fun i => (.inl i, .bl true) := by
      unfold putKD
      by_cases h : i ∈ seen
      · rw [if_pos (by simpa using h), if_pos h]
        rw [List.map_map]
        apply List.map_congr_left
        intro j hj
        simp
      · rw [if_neg (by simpa using h), if_neg h]
        simp
    rw [if_pos (by unfold big at *; omega), e]
    have := dcI st on0 on (if i ∈ seen then seen else seen ++ [i]) (by split <;> (try simp) <;> omega)
    simpa using this
def inSt (st x : Int) : Bool := decide (0 ≤ x) && decide (x ≤ st - 1)
theorem states_g {st : Int} {on : List Int} (hb : on.length < 1000) : f__are_states [.lst false (on.map D.int), .int st] = .ok (.bl (on.all (inSt st) && decide on.Nodup)) [.lst false (on.map D.int), .int st] := by
  simp [f__are_states, fnM_e, N__are_states.m]
  rw [lc_map (enc := D.int) (p := fun _ => true) (f := fun x => .bl (inSt st x)) (ρ := [.lst false (on.map D.int), .int st, .un]) (fun x => by simp [num_i, inSt]) on [] (by unfold big; simp; omega)]
  have hf : on.filter (fun _ => true) = on := by simp
  have ha : (on.map fun x => inSt st x).all id = on.all (inSt st) := by simp [List.all_map, Function.comp_def]
  cases hc : on.all (inSt st) with
  | false => simp [hf, all_of (bools_map (fun x => inSt st x) on), ha, hc]
  | true =>
    have e := dcI st on on [] (by unfold big; simp; omega)
    simp at e
    simp [hf, all_of (bools_map (fun x => inSt st x) on), ha, hc]
    rw [e]
    simp [dicOf, lenDic, Int.natCast_inj]
    have := seenI_iff (on := on)
    unfold seenI at this
    simp [this]
/-- a rule's test -/
def ruT (st : Int) (r : R) : Bool := (match r.src with | some x => inSt st x | none => true) && inSt st r.nxt
structure R.Ok2 (r : R) : Prop where
  ex : ∃ a b c e, r.mid = [a, b, c, e] ∧ PartD KINDS a ∧ PartD SIDES b ∧ (c = .non ∨ ∃ v, c = .bl v) ∧ PartD RELATED e
theorem isrule_g {st : Int} {r : R} (h : r.Ok2) : f__is_rule [r.d, .int st] = .ok (.bl (ruT st r)) [r.d, .int st] := by
  obtain ⟨b, c, e, f, hm, hb, hc, he, hf⟩ := h
  obtain ⟨src, mid, g⟩ := r
  simp only at hm
  subst hm
  have eb : f__is_part [b, c_KINDS] = .ok (.bl true) [b, c_KINDS] := part_ok ok_KINDS hb
  have ec : f__is_part [c, c_SIDES] = .ok (.bl true) [c, c_SIDES] := part_ok ok_SIDES hc
  have ef : f__is_part [f, c_RELATED] = .ok (.bl true) [f, c_RELATED] := part_ok ok_RELATED hf
  have pb := hb.ok
  have pc := hc.ok
  have pf := hf.ok
  have q5 : has? e = true ∧ pure? e = true ∧ fz e = e := by rcases he with rfl | ⟨v, rfl⟩ <;> simp
  cases hg : inSt st g with
  | false =>
    have g1 := hg; unfold inSt at g1
    cases src with
    | none => simp [R.d, intO, f__is_rule, fnM_e, N__is_rule.m, eb, ec, ef, pb, pc, pf, q5, num_i, g1, ruT, hg]
    | some x =>
      cases hx : inSt st x with
      | false =>
        have g2 := hx; unfold inSt at g2
        simp [R.d, intO, f__is_rule, fnM_e, N__is_rule.m, eb, ec, ef, pb, pc, pf, q5, num_i, g1, g2, ruT, hg]
      | true =>
        have g2 := hx; unfold inSt at g2
        simp [R.d, intO, f__is_rule, fnM_e, N__is_rule.m, eb, ec, ef, pb, pc, pf, q5, num_i, g1, g2, ruT, hg]
  | true =>
    have g1 := hg; unfold inSt at g1
    cases src with
    | none => rcases he with rfl | ⟨v, rfl⟩ <;> simp [R.d, intO, f__is_rule, fnM_e, N__is_rule.m, eb, ec, ef, pb, pc, pf, q5, num_i, g1, ruT, hg]
    | some x =>
      cases hx : inSt st x with
      | false =>
        have g2 := hx; unfold inSt at g2
        simp [R.d, intO, f__is_rule, fnM_e, N__is_rule.m, eb, ec, ef, pb, pc, pf, q5, num_i, g1, g2, ruT, hg, hx]
      | true =>
        have g2 := hx; unfold inSt at g2
        rcases he with rfl | ⟨v, rfl⟩ <;> simp [R.d, intO, f__is_rule, fnM_e, N__is_rule.m, eb, ec, ef, pb, pc, pf, q5, num_i, g1, g2, ruT, hg, hx]
end G
end VS
set_option Elab.async false
set_option linter.all false
set_option maxRecDepth 100000
set_option maxHeartbeats 4000000
/-! QN (k19): listeners made of parts. -/
namespace VS
open PySem PySem.Spec PyProof.Rows L2
theorem sortI_of {xs ys : List Int} (hp : xs.Perm ys) (ho : xs.Pairwise (· < ·)) : sortI ys = xs := by
  unfold sortI
  apply List.Perm.eq_of_pairwise (le := fun a b : Int => a ≤ b) (fun a b _ _ h1 h2 => Int.le_antisymm h1 h2)
  · have := List.pairwise_mergeSort (le := fun a b : Int => decide (a ≤ b)) (fun a b c h1 h2 => by simp at *; omega) (fun a b => by simp; omega) ys
    exact this.imp fun h => by simpa using h
  · exact ho.imp fun h => by omega
  · exact (List.mergeSort_perm _ _).trans hp.symm
theorem lc_mem {τ : Type} {vs : List Nat} {g : D → List D → Option (List D)} {t : M Bool} {m : EM} {enc : τ → D} {f : τ → D} {ρ : List D} :
    ∀ (xs : List τ) (acc : List D), (∀ x ∈ xs, lcO vs t m (g (enc x) ρ) = .ok (some (f x)) ρ) → acc.length + xs.length ≤ big →
    lcLoop vs g t m (xs.map enc) acc ρ = .ok (acc ++ xs.map f) ρ
  | [], acc, _, _ => by simp
  | x :: xs, acc, h, hb => by
    simp only [List.length_cons] at hb
    rw [List.map_cons, lcLoop_c (h x (by simp)) (by omega), lc_mem xs _ (fun y hy => h y (by simp [hy])) (by simp; omega)]
    simp
namespace G
theorem R.Ok2.d {r : R} (h : r.Ok2) : fz r.d = r.d ∧ pure? r.d = true ∧ has? r.d = true := by
  obtain ⟨b, c, e, f, hm, hb, hc, he, hf⟩ := h
  obtain ⟨src, mid, g⟩ := r
  simp only at hm
  subst hm
  have pb := hb.ok
  have pc := hc.ok
  have pf := hf.ok
  have q5 : has? e = true ∧ pure? e = true ∧ fz e = e := by rcases he with rfl | ⟨v, rfl⟩ <;> simp
  simp [R.d, pb, pc, pf, q5, fz_intO, has_intO]
theorem R.Ok2.cap {r : R} (h : r.Ok2) : r.cap.Ok2 := ⟨h.ex⟩
theorem rd_fz {rs : List R} (h : ∀ r ∈ rs, r.Ok2) : pures? (rs.map R.d) = true ∧ fzs (rs.map R.d) = rs.map R.d := by
  induction rs with
  | nil => simp
  | cons r rs ih =>
    simp at h
    simp [h.1.d, ih h.2]
/-- whether parts are a listener's -/
def Lis (st : Int) (on : List Int) (rs : List R) : Bool := decide (0 < st) && decide (st ≤ 60) && (on.all (inSt st) && decide on.Nodup) && (decide (rs.length ≤ 1200) && rs.all (ruT st))
theorem islis_g {st : Int} {on : List Int} {rs : List R} (h0 : 0 ≤ st) (hb : on.length < 1000) (hr : ∀ r ∈ rs, r.Ok2) :
    f__is_listener [.int st, .lst false (on.map D.int), .lst false (rs.map R.d)] = .ok (.bl (Lis st on rs)) [.int st, .lst false (on.map D.int), .lst false (rs.map R.d)] := by
  have hs := states_g (st := st) (on := on) hb
  have fzr := rd_fz hr
  by_cases h60 : st ≤ 60
  · have g1 : (decide (0 ≤ st) && decide (st ≤ 60)) = true := by simp; omega
    by_cases h00 : st = 0
    · subst h00
      simp [f__is_listener, fnM_e, N__is_listener.m, num_i, g1, Lis]
    · have h1 : 0 < st := by omega
      cases hc : (on.all (inSt st) && decide on.Nodup) with
      | false =>
        rw [hc] at hs
        simp [f__is_listener, fnM_e, N__is_listener.m, num_i, g1, h00, hs, Lis, hc]
      | true =>
        rw [hc] at hs
        by_cases hl : rs.length ≤ 1200
        · have hl' : (rs.length : Int) ≤ 1200 := by omega
          simp [f__is_listener, fnM_e, N__is_listener.m, num_i, g1, h00, hs, hl, hl', fzr]
          rw [lc_mem (enc := R.d) (f := fun r => .bl (ruT st r)) (ρ := [.int st, .lst false (on.map D.int), .lst false (rs.map R.d), .un]) rs [] (fun r h => by simp [(hr r h).d, isrule_g (hr r h)]) (by unfold big; simp; omega)]
          have e : (rs.map (ruT st)).all id = rs.all (ruT st) := by simp [List.all_map, Function.comp_def]
          have q : (decide (0 < st) && decide (st ≤ 60)) = true := by simp; omega
          simp [all_of (bools_map (fun r => ruT st r) rs), e, Lis, hl]
          simp at hc
          exact fun _ => ⟨⟨h1, h60⟩, hc⟩
        · have hl' : ¬ (rs.length : Int) ≤ 1200 := by omega
          simp [f__is_listener, fnM_e, N__is_listener.m, num_i, g1, h00, hs, hl, hl', fzr, Lis]
  · have g1 : (decide (0 ≤ st) && decide (st ≤ 60)) = false := by simp; omega
    simp [f__is_listener, fnM_e, N__is_listener.m, num_i, g1, Lis, h60]
/-- the listener -/
def lisO (m : Bool) (st : Int) (on : List Int) (rs : List D) : D := .obj m "Listener" ["states", "on", "rules"] [.int st, .lst false (on.map D.int), .lst false rs]
theorem init_g {st : Int} {on : List Int} {rs : List R} (h0 : 0 ≤ st) (hb : on.length < 1000) (hr : ∀ r ∈ rs, r.Ok2) :
    f_Listener___init__ [.obj true "Listener" [] [], .int st, .lst false (on.map D.int), .lst false (rs.map R.d)] =
      if Lis st on rs = true then .ok .non [lisO true st (sortI on) (rs.map R.d), .int st, .lst false (on.map D.int), .lst false (rs.map R.d)]
      else .ex "no listener" [.obj true "Listener" [] [], .int st, .lst false (on.map D.int), .lst false (rs.map R.d)] := by
  have h := islis_g h0 hb hr
  have fzr := rd_fz hr
  cases hL : Lis st on rs with
  | true =>
    rw [hL] at h
    have hO : on.length < 64 := by
      unfold Lis at hL
      simp only [Bool.and_eq_true, decide_eq_true_eq, List.all_eq_true] at hL
      obtain ⟨⟨⟨_, h60⟩, hi, hnd⟩, _⟩ := hL
      have hsub : on ⊆ (List.range 60).map (fun n : Nat => (n : Int)) := by
        intro x hx
        have := hi x hx
        unfold inSt at this
        simp at this
        rw [List.mem_map]
        exact ⟨x.toNat, by simp; omega, by omega⟩
      have := List.Nodup.length_le_of_subset hnd hsub
      simp at this
      omega
    have e : numsD (on.map D.int) = some on := by
      clear h hO hL hb
      induction on with
      | nil => rfl
      | cons i on ih => simp [numsD, inD, ih]
    simp [f_Listener___init__, fnM_e, N_Listener___init__.m, h, sortedD, isLst, e, hO, lisO, fzr]
  | false =>
    rw [hL] at h
    simp [f_Listener___init__, fnM_e, N_Listener___init__.m, h, fzr]
theorem cap_le {n : Int} : cap n ≤ 10000 ∧ (n ≤ 60 → cap n = n) ∧ (cap n ≤ 60 → n = cap n) ∧ (0 ≤ n → 0 ≤ cap n) := by
  unfold cap
  split <;> omega
theorem cap_in {st x : Int} (h : st ≤ 60) : inSt st (cap x) = inSt st x := by
  unfold inSt
  have := @cap_le x
  rw [Bool.eq_iff_iff]
  simp only [Bool.and_eq_true, decide_eq_true_eq]
  unfold cap
  split <;> omega
theorem cap_lis {st : Int} {on : List Int} {rs : List R} : Lis (cap st) (on.map cap) (rs.map R.cap) = Lis st on rs := by
  by_cases h : st ≤ 60
  · have e1 : cap st = st := (@cap_le st).2.1 h
    have e2 : (on.map cap).all (inSt st) = on.all (inSt st) := by
      rw [List.all_map]
      congr 1
      funext x
      exact cap_in h
    have e3 : (rs.map R.cap).all (ruT st) = rs.all (ruT st) := by
      rw [List.all_map]
      congr 1
      funext r
      obtain ⟨src, mid, g⟩ := r
      cases src <;> simp [ruT, R.cap, cap_in h]
    unfold Lis
    rw [e1, e2, e3]
    cases ha : on.all (inSt st) with
    | false => simp
    | true =>
      have : on.map cap = on := by
        have : ∀ x ∈ on, cap x = x := by
          intro x hx
          have := List.all_eq_true.mp ha x hx
          unfold inSt at this
          simp at this
          exact (@cap_le x).2.1 (by omega)
        rw [List.map_congr_left (g := id) this]
        simp
      rw [this]
      simp
  · have h1 : ¬ cap st ≤ 60 := fun h' => h (by have := (@cap_le st).2.2.1 h'; omega)
    unfold Lis
    simp [h, h1]
/-- of a listener's parts nothing is cut -/
theorem lis_cap {st : Int} {on : List Int} {rs : List R} (h : Lis st on rs = true) : cap st = st ∧ on.map cap = on ∧ rs.map R.cap = rs := by
  unfold Lis at h
  simp only [Bool.and_eq_true, decide_eq_true_eq, List.all_eq_true] at h
  obtain ⟨⟨⟨h1, h60⟩, hi, hnd⟩, _, hr⟩ := h
  refine ⟨(@cap_le st).2.1 h60, ?_, ?_⟩
  · rw [List.map_congr_left (g := id)]
    · simp
    · intro x hx
      have := hi x hx
      unfold inSt at this
      simp at this
      exact (@cap_le x).2.1 (by omega)
  · rw [List.map_congr_left (g := id)]
    · simp
    · intro r hrr
      have := hr r hrr
      obtain ⟨src, mid, g⟩ := r
      unfold ruT inSt at this
      simp only [Bool.and_eq_true, decide_eq_true_eq] at this
      have hg : cap g = g := (@cap_le g).2.1 (by omega)
      cases src with
      | none => simp [R.cap, hg]
      | some x =>
        simp at this
        have hx : cap x = x := (@cap_le x).2.1 (by omega)
        simp [R.cap, hg, hx]
end G
end VS
set_option Elab.async false
set_option linter.all false
set_option maxRecDepth 100000
set_option maxHeartbeats 4000000
/-! T12 (k19): texts read, by the program and by the law. -/
namespace VS
open PySem PySem.Spec PyProof.Rows L2 TL
namespace G
theorem ruleO_ok2 {ws : List Str} {r : R} (h : ruleO ws = some r) : r.Ok2 := by
  by_cases hl : ws.length = 8
  · match ws, hl with
    | [a, b, c, d, e, f, g, i], _ =>
      simp only [ruleO] at h
      split at h
      · rw [Option.bind_eq_some_iff] at h
        obtain ⟨n, _, h⟩ := h
        rw [Option.bind_eq_some_iff] at h
        obtain ⟨s, _, h⟩ := h
        rw [Option.map_eq_some_iff] at h
        obtain ⟨ps, e1, rfl⟩ := h
        have w : ∀ {w : Str} {ws : List Str} {d : D}, wordO w ws = some d → PartD ws d := by
          intro w ws d h
          unfold wordO at h
          split at h
          · cases h; exact .inl rfl
          · split at h
            · cases h; exact .inr ⟨_, by assumption, rfl⟩
            · cases h
        have fl : ∀ {w : Str} {d : D}, flagO w = some d → d = .non ∨ ∃ v, d = .bl v := by
          intro w d h
          unfold flagO at h
          repeat' split at h
          all_goals first | (cases h; first | exact .inl rfl | exact .inr ⟨_, rfl⟩) | cases h
        have := allO_some e1
        match ps, this with
        | [p1, p2, p3, p4], q =>
          simp at q
          exact ⟨p1, p2, p3, p4, rfl, w q.1, w q.2.1, fl q.2.2.1, w q.2.2.2⟩
        | [], q => simp at q
        | [_], q => simp at q
        | [_, _], q => simp at q
        | [_, _, _], q => simp at q
        | _ :: _ :: _ :: _ :: _ :: _, q => simp at q
      · cases h
  · rw [(ruleO_len hl).1] at h; cases h
/-- what is kept by the lines -/
structure RS.Ok (S : RS) (n : Nat) : Prop where
  st : ∀ s, S.st = some s → 0 ≤ s
  on : ∀ l, S.on = some l → (∀ x ∈ l, 0 ≤ x) ∧ l.length ≤ 641
  on2 : S.on.isSome = true → S.st.isSome = true
  rs : ∀ r ∈ S.rs, r.Ok2
  len : S.rs.length ≤ n
theorem allN_len : ∀ {ws : List Str} {l : List Int}, allN ws = some l → l.length = ws.length ∧ ((∀ w ∈ ws, WOk w) → ∀ x ∈ l, 0 ≤ x)
  | [], l, h => by simp [allN] at h; subst h; simp
  | w :: ws, l, h => by
    simp only [allN, Option.bind_eq_some_iff, Option.map_eq_some_iff] at h
    obtain ⟨n, e, ms, e2, rfl⟩ := h
    obtain ⟨h1, h2⟩ := allN_len e2
    refine ⟨by simp [h1], fun hw => ?_⟩
    intro x hx
    rcases List.mem_cons.mp hx with rfl | hx
    · exact numO_nn (hw w (by simp)) e
    · exact h2 (fun w h => hw w (by simp [h])) x hx
theorem step_ok {S S' : RS} {ws : List Str} {n : Nat} (hw : ∀ w ∈ ws, WOk w) (hl : ws.length ≤ 641) (h : S.Ok n) (e : step S ws = some S') : S'.Ok (n + 1) := by
  obtain ⟨st, on, rs⟩ := S
  unfold step at e
  cases st with
  | none =>
    simp only at e
    split at e
    · split at e
      · rw [Option.map_eq_some_iff] at e
        obtain ⟨k, e1, rfl⟩ := e
        refine ⟨fun s hs => ?_, h.on, fun _ => rfl, h.rs, Nat.le_succ_of_le h.len⟩
        cases hs
        exact numO_nn (hw _ (by simp)) e1
      · cases e
    · cases e
  | some st =>
    cases on with
    | none =>
      simp only at e
      split at e
      · split at e
        · rw [Option.map_eq_some_iff] at e
          obtain ⟨l, e1, rfl⟩ := e
          refine ⟨h.st, fun s hs => ?_, fun _ => rfl, h.rs, Nat.le_succ_of_le h.len⟩
          cases hs
          obtain ⟨h1, h2⟩ := allN_len e1
          simp at hl
          exact ⟨h2 fun w hw' => hw w (by simp [hw']), by omega⟩
        · cases e
      · cases e
    | some on =>
      simp only at e
      rw [Option.map_eq_some_iff] at e
      obtain ⟨r, e1, rfl⟩ := e
      refine ⟨h.st, h.on, h.on2, fun r' hr => ?_, by simp; exact h.len⟩
      simp at hr
      rcases hr with hr | rfl
      · exact h.rs r' hr
      · exact ruleO_ok2 e1
theorem runL_ok : ∀ {ls : List Str} {S S' : RS} {k n : Nat}, (∀ l ∈ ls, LOk l (Txt.split l " ")) → (∀ l ∈ ls, (Txt.split l " ").length ≤ 641) → S.Ok n → runL S ls k = .inr S' → S'.Ok (n + ls.length)
  | [], S, S', k, n, _, _, h, e => by cases e; exact h
  | l :: ls, S, S', k, n, hl, hm, h, e => by
    simp only [runL] at e
    split at e
    · cases e; exact ⟨h.st, h.on, h.on2, h.rs, by have := h.len; simp; omega⟩
    · split at e
      · cases e
      · rename_i S1 e1
        have := runL_ok (fun z hz => hl z (by simp [hz])) (fun z hz => hm z (by simp [hz])) (step_ok (hl l (by simp)).wok (hm l (by simp)) h e1) e
        have e3 : n + (l :: ls).length = n + 1 + ls.length := by simp; omega
        rw [e3]; exact this
end G
end VS
set_option Elab.async false
set_option linter.all false
set_option maxRecDepth 100000
set_option maxHeartbeats 4000000
/-! T13 (k19): numbers sorted. -/
namespace VS
open PySem PySem.Spec PyProof.Rows L2 TL
namespace G
theorem tP_int {i : Int} : tP (.int i) = .int i := by simp [tP]
theorem ltS_ii {a b : Int} : ltS (.int a) (.int b) = decide (a < b) := by
  unfold ltS
  rw [tP_int, tP_int]
  exact PySem.W.dataLt_int a b
theorem sortOk_int (xs : List Int) : sortOk (xs.map D.int) = true := by
  have h2 : (toPs (xs.map D.int)).isSome = true := by
    induction xs with
    | nil => simp [toPs]
    | cons x xs ih =>
      obtain ⟨ps, e⟩ := Option.isSome_iff_exists.mp ih
      simp [toPs, e]
  have h5 : (xs.map D.int).all (fun a => decide ((tP a).depth ≤ 60) && (xs.map D.int).all fun b => PySem.W.alike (tP a) (tP b)) = true := by
    rw [List.all_eq_true]
    intro a ha
    obtain ⟨x, _, rfl⟩ := List.mem_map.mp ha
    rw [Bool.and_eq_true, List.all_eq_true]
    refine ⟨by simp [tP_int, PyData.depth], fun b hb => ?_⟩
    obtain ⟨y, _, rfl⟩ := List.mem_map.mp hb
    simp [tP_int, PySem.W.alike]
  have h6 : (xs.map D.int).all notNT = true := by
    rw [List.all_eq_true]
    intro a ha
    obtain ⟨x, _, rfl⟩ := List.mem_map.mp ha
    rfl
  unfold sortOk
  rw [pures_ints, h2, h5, h6]
  simp
theorem sortDs_int (xs : List Int) : sortDs (xs.map D.int) = (sortI xs).map D.int := by
  unfold sortDs sortI
  rw [List.map_mergeSort (s := fun a b => !ltS b a)]
  intro a _ b _
  rw [ltS_ii]
  by_cases h : a ≤ b
  · have : ¬ b < a := by omega
    simp [h, this]
  · have : b < a := by omega
    simp [h, this]
theorem sortedG_int {m : Bool} {xs : List Int} : sortedG (.lst m (xs.map D.int)) = some (.lst true ((sortI xs).map D.int)) := by
  unfold sortedG
  simp only [isLst_l, Option.bind_some, sortOk_int, if_true, sortDs_int]
theorem eqDs_ints : ∀ {xs ys : List Int}, eqDs (xs.map D.int) (ys.map D.int) = decide (xs = ys)
  | [], [] => by simp
  | [], _ :: _ => by simp
  | _ :: _, [] => by simp
  | x :: xs, y :: ys => by simp [eqDs_ints (xs := xs) (ys := ys)]
theorem sortI_pair {xs : List Int} : (sortI xs).Pairwise (· ≤ ·) := by
  unfold sortI
  have := List.pairwise_mergeSort (le := fun a b : Int => decide (a ≤ b)) (fun a b c h1 h2 => by simp at *; omega) (fun a b => by simp; omega) xs
  exact this.imp fun h => by simpa using h
theorem sortI_self {xs : List Int} : sortI xs = xs ↔ xs.Pairwise (· ≤ ·) := by
  constructor
  · intro h; rw [← h]; exact sortI_pair
  · intro h
    apply List.Perm.eq_of_pairwise (le := fun a b : Int => a ≤ b) (fun a b _ _ h1 h2 => Int.le_antisymm h1 h2) sortI_pair h
    exact List.mergeSort_perm _ _
end G
end VS
set_option Elab.async false
set_option linter.all false
set_option maxRecDepth 100000
set_option maxHeartbeats 4000000
/-! T14 (k19): read_listener. -/
namespace VS
open PySem PySem.Spec PyProof.Rows L2 TL
namespace G
def RS0 : RS := ⟨none, none, []⟩
/-- what a text tells: an error, or a listener -/
def dueR (x : Str) : Str ⊕ (Int × List Int × List R) := match runL RS0 (lines x) 0 with
  | .inl j => .inl ("line " ++ num j)
  | .inr S => match S.st, S.on with
    | some st, some on => if (lines x).getLast? = some ("" : Str) then (if on.Pairwise (· < ·) ∧ Lis st on S.rs = true then .inr (st, on, S.rs) else .inl "no listener") else .inl ("line " ++ num ((lines x).length - 1 : Nat))
    | _, _ => .inl ("line " ++ num ((lines x).length - 1 : Nat))
theorem getP_rd0 {a b c : D} : getP (.obj true "Reader" ["states", "on", "rules"] [a, b, c]) [Stp.fld "Reader" "states"] = some a := (Eq.refl _).trans rfl
theorem getP_rd1 {a b c : D} : getP (.obj true "Reader" ["states", "on", "rules"] [a, b, c]) [Stp.fld "Reader" "on"] = some b := (Eq.refl _).trans rfl
theorem getP_rd2 {a b c : D} : getP (.obj true "Reader" ["states", "on", "rules"] [a, b, c]) [Stp.fld "Reader" "rules"] = some c := (Eq.refl _).trans rfl
theorem atI_last {ls : List Str} {l : Str} (h : ls.getLast? = some l) : atI (ls.map D.str) (-1) = some (.str l) := by
  have hne : ls ≠ [] := fun e => by subst e; cases h
  have hl := List.length_pos_iff.mpr hne
  rw [List.getLast?_eq_getElem?] at h
  have e : ixN (ls.map D.str).length (-1) = some (ls.length - 1) := by
    unfold ixN
    simp
    omega
  unfold atI
  rw [e]
  simp [h]
theorem reader_e : f_Reader___init__ [.obj true "Reader" [] []] = .ok .non [rdr RS0] := by
  simp [f_Reader___init__, fnM_e, N_Reader___init__.m, rdr, RS0, intO, lstO']
theorem read_me : N_read_listener.m = (seqM (setM 1 (newM 1 "Reader" [] f_Reader___init__ nilM))
  (seqM (setM 2 (fzM (smM splitD (rd 0) (strM "
"))))
  (seqM (setM 3 (opM subD (clM (one lenD) (consM (rd 2) nilM)) (intM 1)))
  (seqM (forS (rngM enumI (consM (rd 2) nilM)) tgP bodyP)
  (seqM (iteM (orM (testM (unM (isN false) (rdP 1 [Stp.fld "Reader" "on"]))) (testM (opM (eqP true) (opM ixD (rd 2) (unM negD (intM 1))) (strM "")))) (raiseM (opM addD (strM "line ") (clM (one strX) (consM (rd 3) nilM)))) skipM)
  (seqM (iteM (testM (opM (eqP true) (rdP 1 [Stp.fld "Reader" "on"]) (clM (one sortedG) (consM (rdP 1 [Stp.fld "Reader" "on"]) nilM)))) (raiseM (strM "no listener")) skipM)
  (retM (newM 4 "Listener" [.tmp, .tmp, .tmp] f_Listener___init__ (consM (rdP 1 [Stp.fld "Reader" "states"]) (consM (rdP 1 [Stp.fld "Reader" "on"]) (consM (fzP 1 [Stp.fld "Reader" "rules"]) nilM))))))))))) := rfl
theorem enumI_e {ls : List Str} : enumI [.lst false (ls.map D.str)] = some (es 0 ls) := by
  simp [enumI, roOf, enumD, es]
def endR (x : Str) : Str ⊕ (Int × List Int × List R) → Res D
  | .inl z => .ex z [.str x]
  | .inr (st, on, rs) => .ok (lisO true st on (rs.map R.d)) [.str x]
theorem caps_e {rs : List R} : (rs.map fun r => r.cap.d) = (rs.map R.cap).map R.d := by rw [List.map_map]; rfl
theorem ad_line {n : Nat} (h : n < 10 ^ 6) : addD (.str "line ") (.str (num n)) = some (.str ("line " ++ num n)) := by
  refine addD_s ?_
  have := num_len h
  have : ("line " : Str).length = 5 := by decide +kernel
  unfold big
  omega
theorem read_e {x : Str} (h : TOk x) : f_read_listener [.str x] = endR x (dueR x) := by
  obtain ⟨⟨h1, h2⟩, h3⟩ := lines_ok h
  have hm : ∀ l ∈ lines x, (Txt.split l " ").length ≤ 641 := by
    intro l hl
    obtain ⟨_, q⟩ := split_facts (x := x) (y := "\n") (by decide +kernel) (by decide +kernel)
    obtain ⟨⟨_, q2⟩, _⟩ := split_facts (x := l) (y := " ") (by decide +kernel) (by decide +kernel)
    have := (q l hl).1
    have := h.len
    omega
  have sl : ("\n" : Str).length ≠ 0 := by decide +kernel
  have spD : splitD (.str x) (.str "\n") = some (.lst true ((lines x).map D.str)) := splitD_e sl (by have := h.len; unfold big; omega)
  have hen := enumI_e (ls := lines x)
  obtain ⟨n, hn⟩ : ∃ n, (lines x).length = n + 1 := ⟨(lines x).length - 1, by have := List.length_pos_iff.mpr h1; omega⟩
  have lp := loopP (x := x) (L := .lst false ((lines x).map D.str)) (ended := (n : Int)) (by simp) (lines x) 0 RS0 .un .un h3 (by simp [RS0]; unfold big; omega) (by omega) (by simp [hn])
  have hrun := fun S' => runL_ok (S := RS0) (S' := S') (k := 0) (n := 0) h3 hm ⟨by simp [RS0], by simp [RS0], by simp [RS0], by simp [RS0], by simp [RS0]⟩
  have hla := fun l => atI_last (ls := lines x) (l := l)
  have hlo : ∀ l, (lines x).getLast? = some l → PyData.strOk l = true := fun l e => (h3 l (List.mem_of_getLast? e)).ok
  have hn6 : n < 10 ^ 6 := by omega
  have lg := log_ok' hn6
  have ad := ad_line hn6
  unfold dueR
  generalize lines x = ls at *
  cases hr : runL RS0 ls 0 with
  | inl j =>
    rw [hr] at lp
    obtain ⟨b1, b4, b5, lp⟩ := lp
    simp [f_read_listener, fnM_e, read_me, reader_e, spD, hen, hn, lp, endR]
  | inr S =>
    rw [hr] at lp
    obtain ⟨b4, b5, lp⟩ := lp
    have ok := hrun _ hr
    obtain ⟨st, on, rs⟩ := S
    cases on with
    | none =>
      have : (match (⟨st, none, rs⟩ : RS).st, (⟨st, none, rs⟩ : RS).on with
        | some st, some on => if ls.getLast? = some ("" : Str) then (if on.Pairwise (· < ·) ∧ Lis st on (⟨st, none, rs⟩ : RS).rs = true then (.inr (st, on, (⟨st, none, rs⟩ : RS).rs) : Str ⊕ (Int × List Int × List R)) else .inl "no listener") else .inl ("line " ++ num (ls.length - 1 : Nat))
        | _, _ => .inl ("line " ++ num (ls.length - 1 : Nat))) = .inl ("line " ++ num n) := by
        cases st <;> simp [hn]
      have er : rdr ⟨st, none, rs⟩ = .obj true "Reader" ["states", "on", "rules"] [intO (st.map cap), .non, .lst true (rs.map fun r => r.cap.d)] := rfl
      rw [er] at lp
      simp [f_read_listener, fnM_e, read_me, reader_e, spD, hen, hn, lp, lg, ad]
      cases st <;> simp [endR]
    | some on =>
      obtain ⟨st, rfl⟩ : ∃ s, st = some s := Option.isSome_iff_exists.mp (ok.on2 rfl)
      obtain ⟨l, hl⟩ : ∃ l, ls.getLast? = some l := by
        cases e : ls.getLast? with
        | none => rw [List.getLast?_eq_none_iff] at e; exact absurd e h1
        | some l => exact ⟨l, rfl⟩
      have al := hla l hl
      have ol := hlo l hl
      have er : rdr ⟨some st, some on, rs⟩ = .obj true "Reader" ["states", "on", "rules"] [.int (cap st), .lst false ((on.map cap).map D.int), .lst true (rs.map fun r => r.cap.d)] := rfl
      rw [er] at lp
      simp only [hl]
      by_cases hz : l = ""
      · subst hz
        have so := sortedG_int (m := false) (xs := on.map cap)
        have eq1 := eqDs_ints (xs := on.map cap) (ys := sortI (on.map cap))
        have i0 := ok.st st rfl
        have i1 := ok.on on rfl
        have hini := init_g (st := cap st) (on := on.map cap) (rs := rs.map R.cap) ((@cap_le st).2.2.2 i0) (by simp; omega) (fun r hr => by
          obtain ⟨r', h', rfl⟩ := List.mem_map.mp hr
          exact (ok.rs r' h').cap)
        have fzr := rd_fz (rs := rs.map R.cap) (fun r hr => by
          obtain ⟨r', h', rfl⟩ := List.mem_map.mp hr
          exact (ok.rs r' h').cap)
        rw [cap_lis] at hini
        rw [caps_e] at lp
        have hcl := @lis_cap st on rs
        generalize hcon : on.map cap = con at so eq1 hini lp hcl
        generalize hcrs : rs.map R.cap = crs at hini lp fzr hcl
        have hsh : sh 64 (.lst false (con.map D.int)) = true ∧ ∀ ys : List Int, sh 64 (.lst true (ys.map D.int)) = true := ⟨by simp, fun ys => by simp⟩
        simp only [if_true]
        have hnd : Lis st on rs = true → on.Nodup := fun h => by
          unfold Lis at h
          simp only [Bool.and_eq_true, decide_eq_true_eq] at h
          exact h.1.2.2
        by_cases hs : con = sortI con
        · have hs1 : eqDs (con.map D.int) ((sortI con).map D.int) = true := by rw [eq1]; exact decide_eq_true hs
          cases hL : Lis st on rs with
          | true =>
            rw [hL, if_pos rfl] at hini
            obtain ⟨c1, c2, c3⟩ := hcl hL
            have hp : on.Pairwise (· < ·) := by
              have p1 : on.Pairwise (· ≤ ·) := sortI_self.mp (by rw [← c2]; exact hs.symm)
              have p2 : on.Pairwise (· ≠ ·) := hnd hL
              exact (p1.and p2).imp fun h => by omega
            simp [f_read_listener, fnM_e, read_me, reader_e, spD, hen, hn, lp, al, so, hs1, hini, fzr, hp, endR]
            rw [← hs, c1, c2, c3]
          | false =>
            rw [hL, if_neg (by decide)] at hini
            simp [f_read_listener, fnM_e, read_me, reader_e, spD, hen, hn, lp, al, so, hs1, hini, fzr, endR]
        · have hs1 : eqDs (con.map D.int) ((sortI con).map D.int) = false := by rw [eq1]; exact decide_eq_false hs
          have hno : ¬ (on.Pairwise (· < ·) ∧ Lis st on rs = true) := by
            rintro ⟨hp, hL⟩
            obtain ⟨c1, c2, c3⟩ := hcl hL
            apply hs
            rw [c2]
            exact (sortI_self.mpr (hp.imp fun h => by omega)).symm
          rw [if_neg hno]
          simp [f_read_listener, fnM_e, read_me, reader_e, spD, hen, hn, lp, al, so, hs1, endR]
      · simp [f_read_listener, fnM_e, read_me, reader_e, spD, hen, hn, lp, lg, ad, al, hz, ol, endR]
end G
end VS
set_option Elab.async false
set_option linter.all false
set_option maxRecDepth 100000
set_option maxHeartbeats 4000000
/-! T15 (k19): the law's reading. -/
namespace VS
open PySem PySem.Spec PyProof.Rows L2 TL
namespace G
def bodyL : SM := (iteM (orM (testM (opM ltD (rd 3) (opM subD (clM (one lenD) (consM (rd 1) nilM)) (intM 1)))) (testM (opM (eqP true) (opM ixD (rd 1) (rd 3)) (strM "")))) (iteM (notM (testM (callM 2 [.plc 2 [], .tmp] f__law_line (plcM 2 [] (consM (opM ixD (rd 1) (rd 3)) nilM))))) (retM (opM addD (strM "line ") (clM (one strX) (consM (rd 3) nilM)))) skipM) skipM)
theorem due_me : N__law_due.m = (seqM (setM 1 (fzM (smM splitD (rd 0) (strM "
"))))
  (seqM (setM 2 (clM lstD (consM nonM (consM nonM (consM (clM lstD nilM) nilM)))))
  (seqM (forS (rngM rng1 (consM (clM (one lenD) (consM (rd 1) nilM)) nilM)) (tgN 3) bodyL)
  (seqM (iteM (orM (testM (opM (eqP true) (opM ixD (rd 1) (unM negD (intM 1))) (strM ""))) (testM (unM (isN false) (rdP 2 [Stp.ix 1])))) (retM (opM addD (strM "line ") (clM (one strX) (consM (opM subD (clM (one lenD) (consM (rd 1) nilM)) (intM 1)) nilM)))) skipM)
  (seqM (iteM (testM (opM gtD (clM (one lenD) (consM (lcM [3] (rngM rng1 (consM (opM subD (lenP 2 [Stp.ix 1]) (intM 1)) nilM)) (tgN 3) (testM (opM geD (opM ixD (rdP 2 [Stp.ix 1]) (rd 3)) (opM ixD (rdP 2 [Stp.ix 1]) (opM addD (rd 3) (intM 1))))) (rd 3)) nilM)) (intM 0))) (retM (strM "no listener")) skipM)
  (seqM (tryM 4 (dropM (newM 4 "Listener" [.tmp, .tmp, .tmp] f_Listener___init__ (consM (rdP 2 [Stp.ix 0]) (consM (fzM (clM (one toLstD) (consM (rdP 2 [Stp.ix 1]) nilM))) (consM (fzM (clM (one toLstD) (consM (fzP 2 [Stp.ix 2]) nilM))) nilM))))))
  (retM (mv 2)))))))) := rfl
theorem testL_e {all ls : List Str} {l : Str} {k : Nat} (hd : all.drop k = l :: ls) (ok : PyData.strOk l = true) {ρ : List D} (h1 : ρ[1]? = some (.lst false (all.map D.str))) (h3 : ρ[3]? = some (.int k)) :
    (orM (testM (opM ltD (rd 3) (opM subD (clM (one lenD) (consM (rd 1) nilM)) (intM 1)))) (testM (opM (eqP true) (opM ixD (rd 1) (rd 3)) (strM "")))) ρ = .ok (!decide (ls = [] ∧ l = "")) ρ := by
  have hl := congrArg List.length hd
  simp at hl
  have pa : pures? (all.map D.str) = true := pures_map (fun _ => by simp) all
  have e : all[k]? = some l := by
    have := congrArg List.head? hd
    simpa [List.head?_drop] using this
  have at' : atI (all.map D.str) k = some (.str l) := by
    have hk : k < all.length := (List.getElem?_eq_some_iff.mp e).1
    have : ixN (all.map D.str).length k = some k := by unfold ixN; simp; omega
    unfold atI
    rw [this]
    simp [e]
  by_cases h : ls = []
  · subst h
    simp at hl
    have hc : ¬ (k : Int) < all.length - 1 := by omega
    by_cases h2 : l = "" <;> simp [h1, h3, hc, h2, ok, pa, at']
  · have := List.length_pos_iff.mpr h
    have hc : (k : Int) < all.length - 1 := by omega
    simp [h1, h3, hc, h, pa]
theorem has_lst {S : RS} : has? (lst S) = true := by simp [lst]
theorem atL {all ls : List Str} {l : Str} {k : Nat} (hd : all.drop k = l :: ls) : atI (all.map D.str) k = some (.str l) := by
  have e : all[k]? = some l := by
    have := congrArg List.head? hd
    simpa [List.head?_drop] using this
  have hk : k < all.length := (List.getElem?_eq_some_iff.mp e).1
  have : ixN (all.map D.str).length k = some k := by unfold ixN; simp; omega
  unfold atI
  rw [this]
  simp [e]
theorem bodyL_skip {x l : Str} {all ls : List Str} {S : RS} {k : Nat} {a4 : D} (hd : all.drop k = l :: ls) (ok : PyData.strOk l = true) (hc : ls = [] ∧ l = "") :
    bodyL [.str x, .lst false (all.map D.str), lst S, .int k, a4] = .ok .nx [.str x, .lst false (all.map D.str), lst S, .int k, a4] := by
  have e := testL_e hd ok (ρ := [.str x, .lst false (all.map D.str), lst S, .int k, a4]) rfl rfl
  simp only [bodyL, iteM_e, e]
  simp [hc]
theorem bodyL_ok {x l : Str} {all ls : List Str} {S S' : RS} {k : Nat} {a4 : D} (hd : all.drop k = l :: ls) (lo : LOk l (Txt.split l " ")) (hr : S.rs.length < big) (hc : ¬ (ls = [] ∧ l = "")) (hs : step S (Txt.split l " ") = some S') :
    bodyL [.str x, .lst false (all.map D.str), lst S, .int k, a4] = .ok .nx [.str x, .lst false (all.map D.str), lst S', .int k, a4] := by
  have e := testL_e hd lo.ok (ρ := [.str x, .lst false (all.map D.str), lst S, .int k, a4]) rfl rfl
  have pa : pures? (all.map D.str) = true := pures_map (fun _ => by simp) all
  have al := atL hd
  obtain ⟨d, E, e1, t⟩ := line_ok lo hr
  unfold LineP at t
  rw [hs] at t
  obtain ⟨rfl, rfl⟩ := t
  simp only [bodyL, iteM_e, e]
  simp [hc, has_lst, e1, pa, al]
theorem bodyL_bad {x l : Str} {all ls : List Str} {S : RS} {k : Nat} {a4 : D} (hk : k < 10 ^ 6) (hd : all.drop k = l :: ls) (lo : LOk l (Txt.split l " ")) (hr : S.rs.length < big) (hc : ¬ (ls = [] ∧ l = "")) (hs : step S (Txt.split l " ") = none) :
    ∃ o, bodyL [.str x, .lst false (all.map D.str), lst S, .int k, a4] = .ok (.ret (.str ("line " ++ num k))) [.str x, .lst false (all.map D.str), o, .int k, a4] := by
  have e := testL_e hd lo.ok (ρ := [.str x, .lst false (all.map D.str), lst S, .int k, a4]) rfl rfl
  have pa : pures? (all.map D.str) = true := pures_map (fun _ => by simp) all
  have al := atL hd
  obtain ⟨d, E, e1, t⟩ := line_ok lo hr
  unfold LineP at t
  rw [hs] at t
  obtain ⟨rfl, o, rfl, ho⟩ := t
  have lg := log_ok' hk
  have ad := ad_line hk
  refine ⟨o, ?_⟩
  simp only [bodyL, iteM_e, e]
  simp [hc, has_lst, e1, ho, lg, ad, pa, al]
theorem loopL {x : Str} {all : List Str} : ∀ (ls : List Str) (k : Nat) (S : RS) (a3 a4 : D), all.drop k = ls → (∀ l ∈ ls, LOk l (Txt.split l " ")) → S.rs.length + ls.length < big → k + ls.length < 10 ^ 6 →
    match runL S ls k with
    | .inr S' => ∃ b3, forM (tgN 3) bodyL (rangeD k ls.length) [.str x, .lst false (all.map D.str), lst S, a3, a4] = .ok .nx [.str x, .lst false (all.map D.str), lst S', b3, a4]
    | .inl j => ∃ o b3, forM (tgN 3) bodyL (rangeD k ls.length) [.str x, .lst false (all.map D.str), lst S, a3, a4] = .ok (.ret (.str ("line " ++ num j))) [.str x, .lst false (all.map D.str), o, b3, a4]
  | [], k, S, a3, a4, _, _, _, _ => by
    simp only [runL, List.length_nil, rangeD_0]
    exact ⟨a3, by simp⟩
  | l :: ls, k, S, a3, a4, hd, hl, hr, hk => by
    have lo := hl l (by simp)
    have hr0 : S.rs.length < big := by omega
    have hk' : k < 10 ^ 6 := by simp at hk; omega
    have tg : tgN 3 (.int k) [.str x, .lst false (all.map D.str), lst S, a3, a4] = some [.str x, .lst false (all.map D.str), lst S, .int k, a4] := by simp
    have hd2 : all.drop (k + 1) = ls := by
      rw [← List.drop_drop, hd]; rfl
    simp only [runL]
    rw [List.length_cons, rangeD_c, forM_c, tg, forO_s]
    by_cases hc : ls = [] ∧ l = ""
    · rw [if_pos hc, bodyL_skip hd lo.ok hc]
      obtain ⟨rfl, rfl⟩ := hc
      exact ⟨.int k, by simp [rangeD_0]⟩
    · rw [if_neg hc]
      cases hs : step S (Txt.split l " ") with
      | none =>
        obtain ⟨o, e⟩ := bodyL_bad (x := x) (a4 := a4) hk' hd lo hr0 hc hs
        rw [e]
        exact ⟨o, .int k, rfl⟩
      | some S' =>
        rw [bodyL_ok (x := x) (a4 := a4) hd lo hr0 hc hs, Res.bind_ok, turnK_nx]
        exact loopL (x := x) ls (k + 1) S' (.int k) a4 hd2 (fun z hz => hl z (by simp [hz])) (by have := step_rs hs; simp at hr; omega) (by simp at hk; omega)
def dueD : Str ⊕ (Int × List Int × List R) → D
  | .inl z => .str z
  | .inr (st, on, rs) => .lst true [.int st, .lst false (on.map D.int), .lst false (rs.map R.d)]
def geB (on : List Int) : D → Bool
  | .int k => decide (on.getD (k + 1).toNat 0 ≤ on.getD k.toNat 0)
  | _ => false
theorem asc_iff : ∀ {on : List Int}, on.Pairwise (· < ·) ↔ ∀ k : Nat, k + 1 < on.length → on.getD k 0 < on.getD (k + 1) 0
  | [] => by simp
  | [a] => by simp
  | a :: b :: on => by
    constructor
    · intro h k hk
      have h1 := List.pairwise_iff_getElem.mp h k (k + 1) (by omega) hk (by omega)
      rw [List.getD_eq_getElem?_getD, List.getD_eq_getElem?_getD, List.getElem?_eq_getElem hk, List.getElem?_eq_getElem (by omega)]
      exact h1
    · intro h
      have ih := (asc_iff (on := b :: on)).mpr fun k hk => by
        have := h (k + 1) (by simp at hk ⊢; omega)
        simpa using this
      rw [List.pairwise_cons]
      refine ⟨?_, ih⟩
      have h0 := h 0 (by simp)
      simp at h0
      intro x hx
      rcases List.mem_cons.mp hx with rfl | hx
      · exact h0
      · exact Int.lt_trans h0 ((List.pairwise_cons.mp ih).1 x hx)
theorem filt_asc {on : List Int} : decide (0 < ((rangeD 0 (on.length - 1)).filter (geB on)).length) = !decide (on.Pairwise (· < ·)) := by
  rw [Bool.eq_iff_iff]
  simp only [decide_eq_true_eq, Bool.not_eq_true', decide_eq_false_iff_not]
  rw [List.length_pos_iff, ne_eq, List.filter_eq_nil_iff, asc_iff]
  constructor
  · intro h h2
    apply h
    intro d hd
    obtain ⟨i, hi⟩ := List.getElem?_of_mem hd
    obtain ⟨rfl, hl⟩ := rangeD_get hi
    have := h2 i (by omega)
    simp [geB]
    simp only [List.getD_eq_getElem?_getD] at this
    exact this
  · intro h h2
    apply h
    intro k hk
    have := h2 (.int k) (by
      unfold rangeD
      exact List.mem_map.mpr ⟨k, by simp; omega, by simp⟩)
    simp [geB] at this
    simp only [List.getD_eq_getElem?_getD]
    exact this
theorem atI_int {on : List Int} {k : Nat} (h : k < on.length) : atI (on.map D.int) (k : Int) = some (.int (on.getD k 0)) := by
  have : ixN (on.map D.int).length (k : Int) = some k := by unfold ixN; simp; omega
  unfold atI
  rw [this]
  simp [List.getElem?_eq_getElem h]
theorem lst0_e : lst RS0 = .lst true [.non, .non, .lst true []] := by simp [lst, RS0, intO, lstO']
theorem due_e {x : Str} (h : TOk x) : f__law_due [.str x] = .ok (dueD (dueR x)) [.str x] := by
  obtain ⟨⟨h1, h2⟩, h3⟩ := lines_ok h
  have hm : ∀ l ∈ lines x, (Txt.split l " ").length ≤ 641 := by
    intro l hl
    obtain ⟨_, q⟩ := split_facts (x := x) (y := "\n") (by decide +kernel) (by decide +kernel)
    obtain ⟨⟨_, q2⟩, _⟩ := split_facts (x := l) (y := " ") (by decide +kernel) (by decide +kernel)
    have := (q l hl).1
    have := h.len
    omega
  have sl : ("\n" : Str).length ≠ 0 := by decide +kernel
  have spD : splitD (.str x) (.str "\n") = some (.lst true ((lines x).map D.str)) := splitD_e sl (by have := h.len; unfold big; omega)
  obtain ⟨n, hn⟩ : ∃ n, (lines x).length = n + 1 := ⟨(lines x).length - 1, by have := List.length_pos_iff.mpr h1; omega⟩
  have lp := loopL (x := x) (all := lines x) (lines x) 0 RS0 .un .un (by simp) h3 (by simp [RS0]; unfold big; omega) (by omega)
  have hrun := fun S' => runL_ok (S := RS0) (S' := S') (k := 0) (n := 0) h3 hm ⟨by simp [RS0], by simp [RS0], by simp [RS0], by simp [RS0], by simp [RS0]⟩
  have hla := fun l => atI_last (ls := lines x) (l := l)
  have hlo : ∀ l, (lines x).getLast? = some l → PyData.strOk l = true := fun l e => (h3 l (List.mem_of_getLast? e)).ok
  have hn6 : n < 10 ^ 6 := by omega
  have lg := log_ok' hn6
  have ad := ad_line hn6
  have pl : pures? ((lines x).map D.str) = true := pures_map (fun _ => by simp) _
  have r0 : rng1 [.int ((n : Int) + 1)] = some (rangeD 0 (n + 1)) := by
    have : small62 ((n : Int) + 1) = true := by unfold small62; simp; omega
    simp [rng1, this]
  rw [lst0_e] at lp
  unfold dueR
  generalize lines x = ls at *
  rw [hn, show ((0 : Nat) : Int) = 0 from rfl] at lp
  cases hr : runL RS0 ls 0 with
  | inl j =>
    rw [hr] at lp
    obtain ⟨o, b3, lp⟩ := lp
    simp [f__law_due, fnM_e, due_me, spD, hn, r0, lp, dueD]
  | inr S =>
    rw [hr] at lp
    obtain ⟨b3, lp⟩ := lp
    have ok := hrun _ hr
    obtain ⟨st, on, rs⟩ := S
    obtain ⟨l, hl⟩ : ∃ l, ls.getLast? = some l := by
      cases e : ls.getLast? with
      | none => rw [List.getLast?_eq_none_iff] at e; exact absurd e h1
      | some l => exact ⟨l, rfl⟩
    have al := hla l hl
    have ol := hlo l hl
    simp only [hl]
    cases on with
    | none =>
      have er : lst ⟨st, none, rs⟩ = .lst true [intO st, .non, .lst true (rs.map R.d)] := rfl
      rw [er] at lp
      have : (match (⟨st, none, rs⟩ : RS).st, (⟨st, none, rs⟩ : RS).on with
        | some st, some on => if some l = some ("" : Str) then (if on.Pairwise (· < ·) ∧ Lis st on (⟨st, none, rs⟩ : RS).rs = true then (.inr (st, on, (⟨st, none, rs⟩ : RS).rs) : Str ⊕ (Int × List Int × List R)) else .inl "no listener") else .inl ("line " ++ num (ls.length - 1 : Nat))
        | _, _ => .inl ("line " ++ num (ls.length - 1 : Nat))) = .inl ("line " ++ num n) := by
        cases st <;> simp [hn]
      by_cases hz : l = ""
      · subst hz
        simp [f__law_due, fnM_e, due_me, spD, hn, r0, lp, dueD, al, pl, lg, ad]
        try (cases st <;> simp [dueD, hn])
      · simp [f__law_due, fnM_e, due_me, spD, hn, r0, lp, dueD, al, pl, lg, ad, hz, ol]
        try (cases st <;> simp [dueD, hn])
    | some on =>
      obtain ⟨st, rfl⟩ : ∃ s, st = some s := Option.isSome_iff_exists.mp (ok.on2 rfl)
      have er : lst ⟨some st, some on, rs⟩ = .lst true [.int st, .lst false (on.map D.int), .lst true (rs.map R.d)] := rfl
      rw [er] at lp
      by_cases hz : l = ""
      · subst hz
        have i0 := ok.st st rfl
        have i1 := ok.on on rfl
        have hini := init_g (st := st) (on := on) (rs := rs) i0 (by omega) ok.rs
        have fzr := rd_fz ok.rs
        have r1 : rng1 [.int ((on.length : Int) - 1)] = some (rangeD 0 (on.length - 1)) := by
          have : small62 ((on.length : Int) - 1) = true := by unfold small62; simp; omega
          simp [rng1, this]
        have fa := filt_asc (on := on)
        have p1 : pures? (rs.map R.d) = true := fzr.1
        have p2 : fzs (rs.map R.d) = rs.map R.d := fzr.2
        simp only [if_true]
        apply Vl.eq
        obtain ⟨Q, hQ⟩ := hide (fun (d : D) (es : List D) => d = dueD (if on.Pairwise (· < ·) ∧ Lis st on rs = true then .inr (st, on, rs) else .inl "no listener") ∧ es = [D.str x])
        rw [← hQ]
        simp [f__law_due, fnM_e, due_me, spD, hn, r0, lp, al, pl, r1]
        refine Vl_filter (geB on) (by simp; unfold big; omega) ?_ ?_
        · intro d hd
          obtain ⟨i, hi⟩ := List.getElem?_of_mem hd
          obtain ⟨rfl, hl⟩ := rangeD_get hi
          have g0 : atI (on.map D.int) (i : Int) = some (.int (on.getD i 0)) := atI_int (by omega)
          have g1 : atI (on.map D.int) ((i : Int) + 1) = some (.int (on.getD (i + 1) 0)) := atI_int (k := i + 1) (by omega)
          simp [g0, g1, geB]
        · by_cases hp : on.Pairwise (· < ·)
          · have f0 : decide (0 < ((rangeD 0 (on.length - 1)).filter (geB on)).length) = false := by rw [fa]; simp [hp]
            have e1 := sortI_self.mpr (hp.imp fun h => Int.le_of_lt h)
            simp only [f0]
            cases hL : Lis st on rs with
            | true =>
              rw [hL, if_pos rfl] at hini
              simp [f0, hini, p1, p2]
              rw [hQ]
              simp [hp, hL, dueD]
            | false =>
              rw [hL, if_neg (by decide)] at hini
              simp [f0, hini, p1, p2]
              rw [hQ]
              simp [hL, dueD]
          · have f0 : decide (0 < ((rangeD 0 (on.length - 1)).filter (geB on)).length) = true := by rw [fa]; simp [hp]
            simp only [f0]
            simp [f0]
            rw [hQ]
            simp [hp, dueD]
      · simp [f__law_due, fnM_e, due_me, spD, hn, r0, lp, dueD, al, pl, lg, ad, hz, ol]
end G
end VS
set_option Elab.async false
set_option linter.all false
set_option maxRecDepth 100000
set_option maxHeartbeats 4000000
/-! T16 (k19): what is told; words and lines of a text. -/
namespace VS
open PySem PySem.Spec PyProof.Rows L2 TL
namespace G
theorem dueR_ok2 {x : Str} (h : TOk x) {st : Int} {on : List Int} {rs : List R} (e : dueR x = .inr (st, on, rs)) : ∀ r ∈ rs, r.Ok2 := by
  obtain ⟨⟨h1, h2⟩, h3⟩ := lines_ok h
  have hm : ∀ l ∈ lines x, (Txt.split l " ").length ≤ 641 := by
    intro l hl
    obtain ⟨_, q⟩ := split_facts (x := x) (y := "\n") (by decide +kernel) (by decide +kernel)
    obtain ⟨⟨_, q2⟩, _⟩ := split_facts (x := l) (y := " ") (by decide +kernel) (by decide +kernel)
    have := (q l hl).1
    have := h.len
    omega
  have hrun := fun S' => runL_ok (S := RS0) (S' := S') (k := 0) (n := 0) h3 hm ⟨by simp [RS0], by simp [RS0], by simp [RS0], by simp [RS0], by simp [RS0]⟩
  unfold dueR at e
  split at e
  · cases e
  · rename_i S hS
    split at e
    · split at e
      · split at e
        · cases e
          exact (hrun _ hS).rs
        · cases e
      · cases e
    · cases e
theorem told_e {x : Str} (h : TOk x) : f__law_told [.str x] = .ok (dueD (dueR x)) [.str x] := by
  have e := read_e h
  have ok := @dueR_ok2 x h
  cases hd : dueR x with
  | inl z =>
    rw [hd] at e
    simp [endR] at e
    simp [f__law_told, fnM_e, N__law_told.m, e, dueD]
  | inr q =>
    obtain ⟨st, on, rs⟩ := q
    rw [hd] at e
    simp [endR, lisO] at e
    have fzr := rd_fz (ok hd)
    simp [f__law_told, fnM_e, N__law_told.m, e, dueD, fzr]
def wordS : D → Str
  | .bl true => "yes"
  | .bl false => "no"
  | .int i => num i
  | .str x => x
  | _ => "*"
def small (d : D) : Prop := d = .non ∨ (∃ b, d = .bl b) ∨ (∃ i : Nat, d = .int i ∧ i < 10) ∨ ∃ x, d = .str x
theorem strX_n {i : Nat} (h : i < 10) : strX (.int i) = some (.str (num i)) := by
  have := log_ok' (k := i) (by omega)
  simp [this]
theorem shown_e {d : D} (h : small d) : f__shown [d] = .ok (.str (wordS d)) [d] := by
  rcases h with rfl | ⟨b, rfl⟩ | ⟨i, rfl, hi⟩ | ⟨x, rfl⟩
  · simp [f__shown, fnM_e, N__shown.m, wordS]
  · cases b <;> simp [f__shown, fnM_e, N__shown.m, wordS]
  · simp [f__shown, fnM_e, N__shown.m, wordS, strX_n hi, log_ok' (k := i) (by omega)]
  · simp [f__shown, fnM_e, N__shown.m, wordS]
theorem lword_e {d : D} (h : small d) : f__law_word [d] = .ok (.str (wordS d)) [d] := by
  rcases h with rfl | ⟨b, rfl⟩ | ⟨i, rfl, hi⟩ | ⟨x, rfl⟩
  · simp [f__law_word, fnM_e, N__law_word.m, wordS]
  · cases b <;> simp [f__law_word, fnM_e, N__law_word.m, wordS, atI, ixN]
  · simp [f__law_word, fnM_e, N__law_word.m, wordS, strX_n hi, log_ok' (k := i) (by omega)]
  · simp [f__law_word, fnM_e, N__law_word.m, wordS]
end G
end VS
set_option Elab.async false
set_option linter.all false
set_option maxRecDepth 100000
set_option maxHeartbeats 4000000
/-! T17 (k19): the text of a listener. -/
namespace VS
open PySem PySem.Spec PyProof.Rows L2 TL
namespace G
/-- a rule whose numbers are small -/
structure R.Ok3 (r : R) : Prop where
  ok2 : r.Ok2
  src : ∀ x, r.src = some x → 0 ≤ x ∧ x < 10
  nxt : 0 ≤ r.nxt ∧ r.nxt < 10
abbrev strs' (xs : List Str) : List D := xs.map D.str
def ruleS (r : R) : Str := "rule " ++ Txt.join " " ((intO r.src :: r.mid).map wordS) ++ " > " ++ num r.nxt
def onS (on : List Int) : Str := "on" ++ Txt.join "" (on.map fun i => " " ++ num i)
def linesS (st : Int) (on : List Int) (rs : List R) : List Str := ["states " ++ num st, onS on] ++ rs.map ruleS
def textS (st : Int) (on : List Int) (rs : List R) : Str := Txt.join "" ((linesS st on rs).map fun l => l ++ "\n")
theorem len_app (x y : Str) : (x ++ y).length = x.length + y.length := by
  rw [len_tl, len_tl x, len_tl y, tl_append, List.length_append]
theorem joinL_len {S : List Nat} : ∀ ps : List (List Nat), (joinL S ps).length ≤ (ps.map (·.length)).sum + ps.length * S.length
  | [] => by simp [joinL]
  | [p] => by simp [joinL]
  | p :: q :: r => by
    have := joinL_len (S := S) (q :: r)
    have e : (p :: q :: r).length * S.length = (q :: r).length * S.length + S.length := by
      rw [List.length_cons, Nat.succ_mul]
    rw [e, List.map_cons, List.sum_cons]
    show (p ++ (S ++ joinL S (q :: r))).length ≤ _
    rw [List.length_append, List.length_append]
    omega
theorem join_len (y : Str) (ps : List Str) : (Txt.join y ps).length ≤ (ps.map (·.length)).sum + ps.length * y.length := by
  rw [join_eq, len_tl, tl_join]
  have := joinL_len (S := tl y) (ps.map tl)
  rw [List.map_map, List.length_map] at this
  have e : (List.map ((fun x => x.length) ∘ tl) ps) = ps.map (·.length) := by
    apply List.map_congr_left
    intro x _
    exact (len_tl x).symm
  rw [e] at this
  rw [len_tl y]
  exact this
theorem sum_le {xs : List Nat} {k : Nat} (h : ∀ x ∈ xs, x ≤ k) : xs.sum ≤ xs.length * k := by
  induction xs with
  | nil => simp
  | cons x xs ih =>
    simp at h
    have := ih h.2
    rw [List.sum_cons, List.length_cons, Nat.succ_mul]
    omega
theorem num1 {i : Int} (h : 0 ≤ i ∧ i < 10) : (num i).length ≤ 1 := by
  obtain ⟨n, rfl⟩ := Int.eq_ofNat_of_zero_le h.1
  rw [len_tl, tl_num']
  exact numL_len (by decide) (by omega)
def wlen (d : D) : Prop := (wordS d).length ≤ 7
theorem part_w {ws : List Str} {d : D} (hw : ∀ w ∈ ws, w.length ≤ 7) (h : PartD ws d) : small d ∧ wlen d := by
  rcases h with rfl | ⟨w, h, rfl⟩
  · exact ⟨.inl rfl, by unfold wlen; decide +kernel⟩
  · exact ⟨.inr (.inr (.inr ⟨w, rfl⟩)), hw w h⟩
theorem parts_w {r : R} (h : r.Ok3) : ∀ d ∈ intO r.src :: r.mid, small d ∧ wlen d := by
  obtain ⟨a, b, c, e, hm, ha, hb, hc, he⟩ := h.ok2.ex
  intro d hd
  rw [hm] at hd
  simp only [List.mem_cons, List.not_mem_nil, or_false] at hd
  rcases hd with rfl | rfl | rfl | rfl | rfl
  · cases hs : r.src with
    | none => exact ⟨.inl rfl, by unfold wlen; decide +kernel⟩
    | some x =>
      have hx := h.src x hs
      have := num1 hx
      obtain ⟨n, rfl⟩ := Int.eq_ofNat_of_zero_le hx.1
      exact ⟨.inr (.inr (.inl ⟨n, rfl, by omega⟩)), by unfold wlen; show (num _).length ≤ 7; omega⟩
  · exact part_w (by decide +kernel) ha
  · exact part_w (by decide +kernel) hb
  · rcases hc with rfl | ⟨v, rfl⟩
    · exact ⟨.inl rfl, by unfold wlen; decide +kernel⟩
    · exact ⟨.inr (.inl ⟨v, rfl⟩), by unfold wlen; cases v <;> decide +kernel⟩
  · exact part_w (by decide +kernel) he
theorem ruleS_len {r : R} (h : r.Ok3) : (ruleS r).length ≤ 60 := by
  unfold ruleS
  rw [len_app, len_app, len_app]
  have e1 : ("rule " : Str).length = 5 := by decide +kernel
  have e2 : (" > " : Str).length = 3 := by decide +kernel
  have e3 : (" " : Str).length = 1 := by decide +kernel
  have h1 := num1 h.nxt
  have h2 := join_len " " ((intO r.src :: r.mid).map wordS)
  have h3 := sum_le (xs := ((intO r.src :: r.mid).map wordS).map (·.length)) (k := 7) (by
    intro x hx
    rw [List.map_map] at hx
    obtain ⟨d, hd, rfl⟩ := List.mem_map.mp hx
    exact (parts_w h d hd).2)
  obtain ⟨a, b, c, e, hm, _⟩ := h.ok2.ex
  rw [hm] at h2 h3 ⊢
  simp only [List.length_map, List.length_cons, List.length_nil] at h2 h3
  rw [e3] at h2
  omega
theorem cut05 {a b c d e f : D} : cutD [a, b, c, d, e, f] none (some 5) = [a, b, c, d, e] := by
  have h : HT.sIx 6 6 (some 5) = 5 := by simp [HT.sIx]
  have h2 : HT.sIx 6 0 none = 0 := by simp [HT.sIx]
  unfold cutD
  simp [h, h2]
theorem slD_t {ds : List D} {p : Option Int × Option Int} : slD (.tup ds) p = some (.tup (cutD ds p.1 p.2)) := (Eq.refl _).trans rfl
def wD : D → D := fun d => .str (wordS d)
def bodyT : SM := (dropM (lmM 1 [] appF (consM (fzM (opM addD (opM addD (opM addD (strM "rule ") (smM joinD (strM " ") (lcM [5] (itM (slM (rd 2) (fun ρ => .ok none ρ) (partM (intM 5)))) (tgN 5) yesM (callM 1 [.tmp] f__shown (consM (rd 5) nilM))))) (strM " > ")) (clM (one strX) (consM (opM ixD (rd 2) (intM 5)) nilM)))) nilM)))
def bodyU : SM := (dropM (lmM 1 [] appF (consM (fzM (opM addD (opM addD (opM addD (strM "rule ") (smM joinD (strM " ") (lcM [5] (itM (slM (rd 2) (fun ρ => .ok none ρ) (partM (intM 5)))) (tgN 5) yesM (callM 1 [.tmp] f__law_word (consM (rd 5) nilM))))) (strM " > ")) (clM (one strX) (consM (opM ixD (rd 2) (intM 5)) nilM)))) nilM)))
theorem bodyT_ok {L : D} {acc : List Str} {r : R} {a3 a4 : D} (h : r.Ok3) (ha : acc.length < big) :
    bodyT [L, .lst true (strs' acc), r.d, a3, a4, .un] = .ok .nx [L, .lst true (strs' (acc ++ [ruleS r])), r.d, a3, a4, .un] := by
  have pw := parts_w h
  have hd := h.ok2.d
  have hl := ruleS_len h
  obtain ⟨a, b, c, e, hm, _⟩ := h.ok2.ex
  obtain ⟨n, hn⟩ := Int.eq_ofNat_of_zero_le h.nxt.1
  have hn10 : n < 10 := by have := h.nxt.2; omega
  have lg := log_ok' (k := n) (by omega)
  have er : r.d = .tup [intO r.src, a, b, c, e, .int n] := by unfold R.d; rw [hm, hn]; first | done | rfl
  have ep : intO r.src :: r.mid = [intO r.src, a, b, c, e] := by rw [hm]
  rw [ep] at pw
  have es : ruleS r = "rule " ++ Txt.join " " ([intO r.src, a, b, c, e].map wordS) ++ " > " ++ num n := by unfold ruleS; rw [ep, hn]
  rw [es] at hl ⊢
  rw [er] at hd ⊢
  generalize intO r.src = s at *
  have x5 : atI [s, a, b, c, e, .int n] 5 = some (.int n) := rfl
  have pp : pures? [s, a, b, c, e] = true ∧ fzs [s, a, b, c, e] = [s, a, b, c, e] := by
    simp at hd ⊢
    simp [hd]
  have jn : joinD (.str " ") (.lst true ([s, a, b, c, e].map wD)) = some (.str (Txt.join " " ([s, a, b, c, e].map wordS))) := by
    have e0 : [s, a, b, c, e].map wD = ([s, a, b, c, e].map wordS).map D.str := by rw [List.map_map]; rfl
    rw [e0]
    refine joinD_e ?_
    have e3 : (" " : Str).length = 1 := by decide +kernel
    have h3 := sum_le (xs := ([s, a, b, c, e].map wordS).map (·.length)) (k := 7) (by
      intro x hx
      rw [List.map_map] at hx
      obtain ⟨d, hd, rfl⟩ := List.mem_map.mp hx
      exact (pw d hd).2)
    simp only [List.length_map, List.length_cons, List.length_nil] at h3 ⊢
    rw [e3]
    omega
  rw [len_app, len_app] at hl
  generalize hj : Txt.join " " ([s, a, b, c, e].map wordS) = J at *
  rw [len_app] at hl
  have q1 : addD (.str "rule ") (.str J) = some (.str ("rule " ++ J)) := addD_s (by unfold big; omega)
  have q2 : addD (.str ("rule " ++ J)) (.str " > ") = some (.str ("rule " ++ J ++ " > ")) := addD_s (by rw [len_app]; unfold big; omega)
  have q3 : addD (.str ("rule " ++ J ++ " > ")) (.str (num n)) = some (.str ("rule " ++ J ++ " > " ++ num n)) := addD_s (by rw [len_app, len_app]; unfold big; omega)
  apply Vl.eq
  obtain ⟨Q, hQ⟩ := hide (fun (f : Fl) (es : List D) => f = .nx ∧ es = [L, .lst true (strs' (acc ++ ["rule " ++ J ++ " > " ++ num n])), .tup [s, a, b, c, e, .int n], a3, a4, .un])
  rw [← hQ]
  generalize hW : [s, a, b, c, e].map wD = W at jn
  have lr : (num (n : Int)).length + 0 = (num (n : Int)).length := rfl
  simp [bodyT, hd, slD_t, cut05, pp]
  refine Vl_map wD (by simp; unfold big; omega) ?_ ?_
  · intro d hd'
    have hs := (pw d hd').1
    have hp : pure? d = true ∧ has? d = true := by
      rcases hs with rfl | ⟨b, rfl⟩ | ⟨i, rfl, hi⟩ | ⟨x, rfl⟩ <;> simp
    simp [shown_e hs, hp, wD]
  · rw [hW]
    simp [jn, q1, q2, q3, lg, x5, hd, ha]
    rw [hQ]
    simp
theorem bodyU_ok {L : D} {acc : List Str} {r : R} {a3 a4 : D} (h : r.Ok3) (ha : acc.length < big) :
    bodyU [L, .lst true (strs' acc), r.d, a3, a4, .un] = .ok .nx [L, .lst true (strs' (acc ++ [ruleS r])), r.d, a3, a4, .un] := by
  have pw := parts_w h
  have hd := h.ok2.d
  have hl := ruleS_len h
  obtain ⟨a, b, c, e, hm, _⟩ := h.ok2.ex
  obtain ⟨n, hn⟩ := Int.eq_ofNat_of_zero_le h.nxt.1
  have hn10 : n < 10 := by have := h.nxt.2; omega
  have lg := log_ok' (k := n) (by omega)
  have er : r.d = .tup [intO r.src, a, b, c, e, .int n] := by unfold R.d; rw [hm, hn]; first | done | rfl
  have ep : intO r.src :: r.mid = [intO r.src, a, b, c, e] := by rw [hm]
  rw [ep] at pw
  have es : ruleS r = "rule " ++ Txt.join " " ([intO r.src, a, b, c, e].map wordS) ++ " > " ++ num n := by unfold ruleS; rw [ep, hn]
  rw [es] at hl ⊢
  rw [er] at hd ⊢
  generalize intO r.src = s at *
  have x5 : atI [s, a, b, c, e, .int n] 5 = some (.int n) := rfl
  have pp : pures? [s, a, b, c, e] = true ∧ fzs [s, a, b, c, e] = [s, a, b, c, e] := by
    simp at hd ⊢
    simp [hd]
  have jn : joinD (.str " ") (.lst true ([s, a, b, c, e].map wD)) = some (.str (Txt.join " " ([s, a, b, c, e].map wordS))) := by
    have e0 : [s, a, b, c, e].map wD = ([s, a, b, c, e].map wordS).map D.str := by rw [List.map_map]; rfl
    rw [e0]
    refine joinD_e ?_
    have e3 : (" " : Str).length = 1 := by decide +kernel
    have h3 := sum_le (xs := ([s, a, b, c, e].map wordS).map (·.length)) (k := 7) (by
      intro x hx
      rw [List.map_map] at hx
      obtain ⟨d, hd, rfl⟩ := List.mem_map.mp hx
      exact (pw d hd).2)
    simp only [List.length_map, List.length_cons, List.length_nil] at h3 ⊢
    rw [e3]
    omega
  rw [len_app, len_app] at hl
  generalize hj : Txt.join " " ([s, a, b, c, e].map wordS) = J at *
  rw [len_app] at hl
  have q1 : addD (.str "rule ") (.str J) = some (.str ("rule " ++ J)) := addD_s (by unfold big; omega)
  have q2 : addD (.str ("rule " ++ J)) (.str " > ") = some (.str ("rule " ++ J ++ " > ")) := addD_s (by rw [len_app]; unfold big; omega)
  have q3 : addD (.str ("rule " ++ J ++ " > ")) (.str (num n)) = some (.str ("rule " ++ J ++ " > " ++ num n)) := addD_s (by rw [len_app, len_app]; unfold big; omega)
  apply Vl.eq
  obtain ⟨Q, hQ⟩ := hide (fun (f : Fl) (es : List D) => f = .nx ∧ es = [L, .lst true (strs' (acc ++ ["rule " ++ J ++ " > " ++ num n])), .tup [s, a, b, c, e, .int n], a3, a4, .un])
  rw [← hQ]
  generalize hW : [s, a, b, c, e].map wD = W at jn
  have lr : (num (n : Int)).length + 0 = (num (n : Int)).length := rfl
  simp [bodyU, hd, slD_t, cut05, pp]
  refine Vl_map wD (by simp; unfold big; omega) ?_ ?_
  · intro d hd'
    have hs := (pw d hd').1
    have hp : pure? d = true ∧ has? d = true := by
      rcases hs with rfl | ⟨b, rfl⟩ | ⟨i, rfl, hi⟩ | ⟨x, rfl⟩ <;> simp
    simp [lword_e hs, hp, wD]
  · rw [hW]
    simp [jn, q1, q2, q3, lg, x5, hd, ha]
    rw [hQ]
    simp
end G
end VS
set_option Elab.async false
set_option linter.all false
set_option maxRecDepth 100000
set_option maxHeartbeats 4000000
/-! T18 (k19): the texts. -/
namespace VS
open PySem PySem.Spec PyProof.Rows L2 TL
namespace G
structure Ls (st : Int) (on : List Int) (rs : List R) : Prop where
  st0 : 0 < st
  st1 : st < 10
  asc : on.Pairwise (· < ·)
  onb : ∀ x ∈ on, 0 ≤ x ∧ x < st
  rok : ∀ r ∈ rs, r.Ok3 ∧ ruT st r = true
  len : rs.length ≤ 8
theorem Ls.onlen {st : Int} {on : List Int} {rs : List R} (h : Ls st on rs) : on.length ≤ 10 := by
  have hsub : on ⊆ (List.range 10).map (fun n : Nat => (n : Int)) := by
    intro x hx
    have := h.onb x hx
    have := h.st1
    rw [List.mem_map]
    exact ⟨x.toNat, by simp; omega, by omega⟩
  have := List.Nodup.length_le_of_subset (nodup_of_pair h.asc) hsub
  simpa using this
theorem joinL_cons {S p : List Nat} : ∀ {ps : List (List Nat)}, joinL S (p :: ps) = p ++ joinL [] (ps.map fun q => S ++ q)
  | [] => by simp [joinL]
  | [q] => by simp [joinL]
  | q :: r :: ps => by
    have := joinL_cons (S := S) (p := q) (ps := r :: ps)
    show p ++ (S ++ joinL S (q :: r :: ps)) = _
    rw [this]
    simp [joinL]
theorem onS_join {on : List Int} : Txt.join " " ("on" :: on.map num) = onS on := by
  apply ext_tl
  unfold onS
  rw [tl_append, join_eq, join_eq, tl_join, tl_join, List.map_cons, joinL_cons]
  have e0 : tl ("" : Str) = [] := by decide +kernel
  rw [e0, List.map_map, List.map_map, List.map_map]
  congr 2
  apply List.map_congr_left
  intro i _
  exact (tl_append _ _).symm
theorem onS_len {st : Int} {on : List Int} {rs : List R} (h : Ls st on rs) : (onS on).length ≤ 22 := by
  unfold onS
  rw [len_app]
  have e1 : ("on" : Str).length = 2 := by decide +kernel
  have e2 : ("" : Str).length = 0 := by decide +kernel
  have e3 : (" " : Str).length = 1 := by decide +kernel
  have h2 := join_len "" (on.map fun i => " " ++ num i)
  have h3 := sum_le (xs := (on.map fun i => " " ++ num i).map (·.length)) (k := 2) (by
    intro x hx
    rw [List.map_map] at hx
    obtain ⟨i, hi, rfl⟩ := List.mem_map.mp hx
    have := h.onb i hi
    have := h.st1
    have := num1 (i := i) (by omega)
    show (" " ++ num i).length ≤ 2
    rw [len_app, e3]; omega)
  have := h.onlen
  simp only [List.length_map] at h2 h3
  rw [e2] at h2
  omega
theorem linesS_len {st : Int} {on : List Int} {rs : List R} (h : Ls st on rs) : (∀ l ∈ linesS st on rs, l.length ≤ 60) ∧ (linesS st on rs).length ≤ 10 := by
  have hl := h.len
  refine ⟨?_, by unfold linesS; simp; omega⟩
  intro l hl
  unfold linesS at hl
  simp only [List.cons_append, List.nil_append, List.mem_cons] at hl
  rcases hl with rfl | rfl | hl
  · rw [len_app]
    have e1 : ("states " : Str).length = 7 := by decide +kernel
    have := num1 (i := st) ⟨by have := h.st0; omega, h.st1⟩
    omega
  · have := onS_len h; omega
  · obtain ⟨r, hr, rfl⟩ := List.mem_map.mp hl
    exact ruleS_len (h.rok r hr).1
theorem nl_len : ("\n" : Str).length = 1 := by decide +kernel
theorem textS_len {st : Int} {on : List Int} {rs : List R} (h : Ls st on rs) : (textS st on rs).length ≤ 570 := by
  obtain ⟨h1, h2⟩ := linesS_len h
  have e2 : ("" : Str).length = 0 := by decide +kernel
  have h3 := join_len "" ((linesS st on rs).map fun l : Str => l ++ ("\n" : Str))
  rw [e2] at h3
  unfold textS
  have hs : (((linesS st on rs).map fun l : Str => l ++ ("\n" : Str)).map (·.length)).sum ≤ 9 + (23 + 8 * 61) := by
    unfold linesS
    simp only [List.cons_append, List.nil_append, List.map_cons, List.sum_cons, List.map_map]
    have a1 := num1 (i := st) ⟨by have := h.st0; omega, h.st1⟩
    have e1 : ("states " : Str).length = 7 := by decide +kernel
    have a2 := onS_len h
    have a3 := sum_le (xs := rs.map ((fun x : Str => x.length) ∘ (fun l : Str => l ++ ("\n" : Str)) ∘ ruleS)) (k := 61) (by
      intro x hx
      obtain ⟨r, hr, rfl⟩ := List.mem_map.mp hx
      have := ruleS_len (h.rok r hr).1
      show (ruleS r ++ "\n").length ≤ 61
      rw [len_app, nl_len]; omega)
    have := h.len
    simp only [List.length_map] at a3
    rw [len_app, len_app, len_app, e1, nl_len]
    have : rs.length * 61 ≤ 8 * 61 := Nat.mul_le_mul_right _ h.len
    omega
  omega
def addN : D → D
  | .str x => .str (x ++ "\n")
  | d => d
theorem lawtext_me : N__law_text.m = (seqM (setM 1 (clM lstD (consM (fzM (opM addD (strM "states ") (clM (one strX) (consM (opM ixD (rd 0) (intM 0)) nilM)))) (consM (fzM (opM addD (strM "on") (smM joinD (strM "") (lcM [4] (itM (opM ixD (rd 0) (intM 1))) (tgN 4) yesM (opM addD (strM " ") (clM (one strX) (consM (rd 4) nilM))))))) nilM))))
  (seqM (forS (itM (opM ixD (rd 0) (intM 2))) (tgN 2) bodyU)
  (retM (smM joinD (strM "") (lcM [3] (itM (fzv 1)) (tgN 3) yesM (opM addD (rd 3) (strM "
"))))))) := rfl
theorem textof_me : N_text_of.m = (seqM (setM 1 (clM lstD (consM (fzM (opM addD (strM "states ") (clM (one strX) (consM (rdP 0 [Stp.fld "Listener" "states"]) nilM)))) (consM (fzM (smM joinD (strM " ") (opM addD (clM lstD (consM (strM "on") nilM)) (lcM [4] (itM (rdP 0 [Stp.fld "Listener" "on"])) (tgN 4) yesM (clM (one strX) (consM (rd 4) nilM)))))) nilM))))
  (seqM (forS (itM (rdP 0 [Stp.fld "Listener" "rules"])) (tgN 2) bodyT)
  (retM (smM joinD (strM "") (lcM [3] (itM (fzv 1)) (tgN 3) yesM (opM addD (rd 3) (strM "
"))))))) := rfl
def numWd : D → D
  | .int i => .str (num i)
  | d => d
def spWd : D → D
  | .int i => .str (" " ++ num i)
  | d => d
theorem tailT {st : Int} {on : List Int} {rs : List R} {L a2 a3 a4 a5 : D} {Q : D → List D → Prop} (h : Ls st on rs) (hQ : Q (.str (textS st on rs)) [L]) :
    Vl (retM (smM joinD (strM "") (lcM [3] (itM (fzv 1)) (tgN 3) yesM (opM addD (rd 3) (strM "
")))) [L, .lst true (strs' (linesS st on rs)), a2, .un, a4, a5]) (FE 1 [1, 2] Q) := by
  obtain ⟨h1, h2⟩ := linesS_len h
  simp
  refine Vl_map addN (by simp; unfold big; omega) ?_ ?_
  · intro d hd
    obtain ⟨l, hl, rfl⟩ := List.mem_map.mp hd
    have := h1 l hl
    have ad : addD (.str l) (.str "\n") = some (.str (l ++ "\n")) := addD_s (by rw [nl_len]; unfold big; omega)
    simp [ad, addN]
  · have em : (strs' (linesS st on rs)).map addN = ((linesS st on rs).map fun l : Str => l ++ ("\n" : Str)).map D.str := by rw [List.map_map, List.map_map]; rfl
    have jn : joinD (.str "") (.lst true ((strs' (linesS st on rs)).map addN)) = some (.str (textS st on rs)) := by
      rw [em]
      refine joinD_e ?_
      have e2 : ("" : Str).length = 0 := by decide +kernel
      have h3 := sum_le (xs := (((linesS st on rs).map fun l : Str => l ++ ("\n" : Str)).map (·.length))) (k := 61) (by
        intro x hx
        rw [List.map_map] at hx
        obtain ⟨l, hl, rfl⟩ := List.mem_map.mp hx
        have := h1 l hl
        show (l ++ "\n").length ≤ 61
        rw [len_app, nl_len]; omega)
      simp only [List.length_map] at h3 ⊢
      rw [e2]
      omega
    generalize (strs' (linesS st on rs)).map addN = W at jn
    simp [jn]
    exact hQ
theorem text_of_e {st : Int} {on : List Int} {rs : List R} (h : Ls st on rs) : f_text_of [lisO false st on (rs.map R.d)] = .ok (.str (textS st on rs)) [lisO false st on (rs.map R.d)] := by
  have fzr := rd_fz fun r hr => (h.rok r hr).1.ok2
  have hb := h.onlen
  obtain ⟨n, rfl⟩ := Int.eq_ofNat_of_zero_le (show 0 ≤ st by have := h.st0; omega)
  have hn : n < 10 := by have := h.st1; omega
  have lg := log_ok' (k := n) (by omega)
  have sl : ("states " : Str).length = 7 := by decide +kernel
  have n1 := num1 (i := (n : Int)) ⟨by omega, h.st1⟩
  have ad : addD (.str "states ") (.str (num n)) = some (.str ("states " ++ num n)) := addD_s (by rw [sl]; unfold big; omega)
  apply Vl.eq
  obtain ⟨Q, hQ⟩ := hide (fun (d : D) (es : List D) => d = .str (textS n on rs) ∧ es = [lisO false n on (rs.map R.d)])
  rw [← hQ]
  simp [f_text_of, fnM_e, textof_me, lisO, lg, ad]
  refine Vl_map numWd (by simp; unfold big; omega) ?_ ?_
  · intro d hd
    obtain ⟨i, hi, rfl⟩ := List.mem_map.mp hd
    have := h.onb i hi
    obtain ⟨k, rfl⟩ := Int.eq_ofNat_of_zero_le this.1
    have lg := log_ok' (k := k) (by omega)
    simp [lg, numWd]
  · have em : (on.map D.int).map numWd = (on.map num).map D.str := by rw [List.map_map, List.map_map]; rfl
    rw [em]
    have b2 : 1 + on.length ≤ big := by unfold big; omega
    have jn : joinD (.str " ") (.lst true (.str "on" :: (on.map num).map D.str)) = some (.str (onS on)) := by
      rw [← onS_join]
      refine joinD_e (ys := "on" :: on.map num) ?_
      have e3 : (" " : Str).length = 1 := by decide +kernel
      have e1 : ("on" : Str).length = 2 := by decide +kernel
      have h3 := sum_le (xs := ((on.map num).map (·.length))) (k := 1) (by
        intro x hx
        rw [List.map_map] at hx
        obtain ⟨i, hi, rfl⟩ := List.mem_map.mp hx
        have := h.onb i hi
        exact num1 (i := i) (by omega))
      simp only [List.length_map, List.map_cons, List.sum_cons, List.length_cons] at h3 ⊢
      rw [e3, e1]
      omega
    generalize hW : (on.map num).map D.str = W at jn
    have hWl : W.length = on.length := by rw [← hW]; simp
    simp [hWl, b2, jn, fzr.2]
    obtain ⟨I, hI⟩ := hide (fun (i : Nat) (ρ : List D) => ∃ a2, ρ = [lisO false n on (rs.map R.d), .lst true (strs' (["states " ++ num n, onS on] ++ (rs.take i).map ruleS)), a2, .un, .un, .un])
    refine Vl_for I (by rw [hI]; exact ⟨.un, by simp [lisO]⟩) ?_ ?_
    · intro i d ρ hd hi
      rw [hI] at hi
      obtain ⟨a2, rfl⟩ := hi
      rw [List.getElem?_map, Option.map_eq_some_iff] at hd
      obtain ⟨r, hr, rfl⟩ := hd
      have hm := List.mem_of_getElem? hr
      have hl := h.len
      refine ⟨_, rfl, ?_⟩
      have tl := bodyT_ok (L := lisO false n on (rs.map R.d)) (acc := ["states " ++ num n, onS on] ++ (rs.take i).map ruleS) (r := r) (a3 := .un) (a4 := .un) (h.rok r hm).1 (by simp; unfold big; omega)
      refine ⟨.nx, _, tl, ?_⟩
      rw [StP_nx, hI]
      refine ⟨r.d, ?_⟩
      have ht : (rs.take (i + 1)).map ruleS = (rs.take i).map ruleS ++ [ruleS r] := by
        rw [List.take_add_one, hr]; simp
      rw [ht, List.append_assoc]
    · intro ρ hi
      rw [hI] at hi
      obtain ⟨a2, rfl⟩ := hi
      rw [List.length_map, List.take_length]
      rw [seqK_nx]
      exact tailT (a3 := .un) h (by rw [hQ]; exact ⟨rfl, rfl⟩)
theorem law_text_e {st : Int} {on : List Int} {rs : List R} (h : Ls st on rs) : f__law_text [lisV false st on (rs.map R.d)] = .ok (.str (textS st on rs)) [lisV false st on (rs.map R.d)] := by
  have fzr := rd_fz fun r hr => (h.rok r hr).1.ok2
  have hb := h.onlen
  obtain ⟨n, rfl⟩ := Int.eq_ofNat_of_zero_le (show 0 ≤ st by have := h.st0; omega)
  have hn : n < 10 := by have := h.st1; omega
  have lg := log_ok' (k := n) (by omega)
  have sl : ("states " : Str).length = 7 := by decide +kernel
  have n1 := num1 (i := (n : Int)) ⟨by omega, h.st1⟩
  have ad : addD (.str "states ") (.str (num n)) = some (.str ("states " ++ num n)) := addD_s (by rw [sl]; unfold big; omega)
  apply Vl.eq
  obtain ⟨Q, hQ⟩ := hide (fun (d : D) (es : List D) => d = .str (textS n on rs) ∧ es = [lisV false n on (rs.map R.d)])
  rw [← hQ]
  have x0 : ∀ a b c : D, atI [a, b, c] 0 = some a := fun _ _ _ => rfl
  have x1 : ∀ a b c : D, atI [a, b, c] 1 = some b := fun _ _ _ => rfl
  have x2 : ∀ a b c : D, atI [a, b, c] 2 = some c := fun _ _ _ => rfl
  simp [f__law_text, fnM_e, lawtext_me, lisV, lg, ad, x0, x1, x2, fzr.1]
  refine Vl_map spWd (by simp; unfold big; omega) ?_ ?_
  · intro d hd
    obtain ⟨i, hi, rfl⟩ := List.mem_map.mp hd
    have := h.onb i hi
    obtain ⟨k, rfl⟩ := Int.eq_ofNat_of_zero_le this.1
    have lg := log_ok' (k := k) (by omega)
    have n1 := num1 (i := (k : Int)) (by omega)
    have e4 : (" " : Str).length = 1 := by decide +kernel
    have ad3 : addD (.str " ") (.str (num k)) = some (.str (" " ++ num k)) := addD_s (by rw [e4]; unfold big; omega)
    simp [lg, spWd, ad3]
  · have em : (on.map D.int).map spWd = (on.map fun i => (" " : Str) ++ num i).map D.str := by rw [List.map_map, List.map_map]; rfl
    rw [em]
    have jn : joinD (.str "") (.lst true ((on.map fun i => (" " : Str) ++ num i).map D.str)) = some (.str (Txt.join "" (on.map fun i => (" " : Str) ++ num i))) := by
      refine joinD_e ?_
      have e3 : ("" : Str).length = 0 := by decide +kernel
      have e4 : (" " : Str).length = 1 := by decide +kernel
      have h3 := sum_le (xs := ((on.map fun i => (" " : Str) ++ num i).map (·.length))) (k := 2) (by
        intro x hx
        rw [List.map_map] at hx
        obtain ⟨i, hi, rfl⟩ := List.mem_map.mp hx
        have := h.onb i hi
        have := num1 (i := i) (by omega)
        show ((" " : Str) ++ num i).length ≤ 2
        rw [len_app, e4]; omega)
      simp only [List.length_map] at h3 ⊢
      rw [e3]
      omega
    have on2 := onS_len h
    have e2 : ("on" : Str).length = 2 := by decide +kernel
    unfold onS at on2
    rw [len_app] at on2
    generalize hW : (on.map fun i => (" " : Str) ++ num i).map D.str = W at jn
    generalize hJ : Txt.join "" (on.map fun i => (" " : Str) ++ num i) = J at jn on2
    have ad2 : addD (.str "on") (.str J) = some (.str ("on" ++ J)) := addD_s (by unfold big; omega)
    have eo : onS on = "on" ++ J := by rw [← hJ]; rfl
    simp [jn, ad2, fzr.2, fzr.1, x2]
    rw [← eo]
    obtain ⟨I, hI⟩ := hide (fun (i : Nat) (ρ : List D) => ∃ a2, ρ = [lisV false n on (rs.map R.d), .lst true (strs' (["states " ++ num n, onS on] ++ (rs.take i).map ruleS)), a2, .un, .un, .un])
    refine Vl_for I (by rw [hI]; exact ⟨.un, by simp [lisV]⟩) ?_ ?_
    · intro i d ρ hd hi
      rw [hI] at hi
      obtain ⟨a2, rfl⟩ := hi
      rw [List.getElem?_map, Option.map_eq_some_iff] at hd
      obtain ⟨r, hr, rfl⟩ := hd
      have hm := List.mem_of_getElem? hr
      have hl := h.len
      refine ⟨_, rfl, ?_⟩
      have tl := bodyU_ok (L := lisV false n on (rs.map R.d)) (acc := ["states " ++ num n, onS on] ++ (rs.take i).map ruleS) (r := r) (a3 := .un) (a4 := .un) (h.rok r hm).1 (by simp; unfold big; omega)
      refine ⟨.nx, _, tl, ?_⟩
      rw [StP_nx, hI]
      refine ⟨r.d, ?_⟩
      have ht : (rs.take (i + 1)).map ruleS = (rs.take i).map ruleS ++ [ruleS r] := by
        rw [List.take_add_one, hr]; simp
      rw [ht, List.append_assoc]
    · intro ρ hi
      rw [hI] at hi
      obtain ⟨a2, rfl⟩ := hi
      rw [List.length_map, List.take_length]
      rw [seqK_nx]
      exact tailT (a3 := .un) h (by rw [hQ]; exact ⟨rfl, rfl⟩)
end G
end VS
set_option Elab.async false
set_option linter.all false
set_option maxRecDepth 100000
set_option maxHeartbeats 4000000
/-! T19 (k19): a text is read back. -/
namespace VS
open PySem PySem.Spec PyProof.Rows L2 TL
namespace G
theorem dig10 {P : Nat → Prop} (h : P 0 ∧ P 1 ∧ P 2 ∧ P 3 ∧ P 4 ∧ P 5 ∧ P 6 ∧ P 7 ∧ P 8 ∧ P 9) {k : Nat} (hk : k < 10) : P k := by
  have : k = 0 ∨ k = 1 ∨ k = 2 ∨ k = 3 ∨ k = 4 ∨ k = 5 ∨ k = 6 ∨ k = 7 ∨ k = 8 ∨ k = 9 := by omega
  obtain ⟨h0, h1, h2, h3, h4, h5, h6, h7, h8, h9⟩ := h
  rcases this with rfl | rfl | rfl | rfl | rfl | rfl | rfl | rfl | rfl | rfl <;> assumption
theorem isNum_num {k : Nat} (h : k < 10) : isNum (num k) = true := dig10 (P := fun k => isNum (num k) = true) (by decide +kernel) h
theorem numO_num {i : Int} (h : 0 ≤ i ∧ i < 10) : numO (num i) = some i := by
  obtain ⟨k, rfl⟩ := Int.eq_ofNat_of_zero_le h.1
  unfold numO
  rw [if_pos (isNum_num (by omega))]
  exact PySem.W.KIN.num_reads (n := (k : Int)) (by omega) (by omega)
/-- no blank, no line's end -/
def gw (w : Str) : Bool := (tl w).all fun c => decide (32 < c)
theorem gw_num {i : Int} (h : 0 ≤ i ∧ i < 10) : gw (num i) = true := by
  obtain ⟨k, rfl⟩ := Int.eq_ofNat_of_zero_le h.1
  exact dig10 (P := fun k => gw (num k) = true) (by decide +kernel) (by omega)
theorem joinL_in {S : List Nat} {c : Nat} : ∀ {ps : List (List Nat)}, c ∈ joinL S ps → c ∈ S ∨ ∃ p ∈ ps, c ∈ p
  | [], h => by simp [joinL] at h
  | [p], h => .inr ⟨p, by simp, h⟩
  | p :: q :: r, h => by
    have h : c ∈ p ++ (S ++ joinL S (q :: r)) := h
    rw [List.mem_append, List.mem_append] at h
    rcases h with h | h | h
    · exact .inr ⟨p, by simp, h⟩
    · exact .inl h
    · rcases joinL_in h with h | ⟨z, hz, h⟩
      · exact .inl h
      · exact .inr ⟨z, by simp at hz ⊢; exact .inr hz, h⟩
theorem line_split {ws : List Str} (hne : ws ≠ []) (h : ∀ w ∈ ws, gw w = true) : Txt.split (Txt.join " " ws) " " = ws ∧ 10 ∉ tl (Txt.join " " ws) := by
  have e0 : tl (" " : Str) = [32] := by decide +kernel
  refine ⟨split_join e0 (by decide +kernel) hne fun p hp hm => ?_, fun hm => ?_⟩
  · have := List.all_eq_true.mp (h p hp) 32 hm
    simp at this
  · rw [join_eq, tl_join, e0] at hm
    rcases joinL_in hm with h1 | ⟨p, hp, h1⟩
    · simp at h1
    · obtain ⟨w, hw, rfl⟩ := List.mem_map.mp hp
      have := List.all_eq_true.mp (h w hw) 10 h1
      simp at this
def rwords (r : R) : List Str := [("rule" : Str)] ++ (intO r.src :: r.mid).map wordS ++ [(">" : Str), num r.nxt]
def wordsS (st : Int) (on : List Int) (rs : List R) : List (List Str) := [[("states" : Str), num st], ("on" : Str) :: on.map num] ++ rs.map rwords
theorem states_join {st : Int} : Txt.join " " ["states", num st] = "states " ++ num st := by
  apply ext_tl
  rw [join_eq, tl_join, tl_append]
  have e1 : tl ("states " : Str) = tl ("states" : Str) ++ tl (" " : Str) := by decide +kernel
  rw [e1]
  simp [joinL]
theorem rule_join {r : R} (h : r.Ok3) : Txt.join " " (rwords r) = ruleS r := by
  obtain ⟨a, b, c, e, hm, _⟩ := h.ok2.ex
  unfold rwords ruleS
  rw [hm]
  apply ext_tl
  have e1 : tl ("rule " : Str) = tl ("rule" : Str) ++ tl (" " : Str) := by decide +kernel
  have e2 : tl (" > " : Str) = tl (" " : Str) ++ (tl (">" : Str) ++ tl (" " : Str)) := by decide +kernel
  rw [join_eq, join_eq, tl_append, tl_append, tl_append, tl_join, tl_join, e1, e2]
  simp [joinL]
theorem linesS_w {st : Int} {on : List Int} {rs : List R} (h : Ls st on rs) : linesS st on rs = (wordsS st on rs).map (Txt.join " ") := by
  unfold linesS wordsS
  simp only [List.map_append, List.map_cons, List.map_nil, states_join, onS_join, List.map_map]
  congr 1
  apply List.map_congr_left
  intro r hr
  exact (rule_join (h.rok r hr).1).symm
theorem wordS_gw {r : R} (h : r.Ok3) : ∀ w ∈ rwords r, gw w = true := by
  obtain ⟨a, b, c, e, hm, ha, hb, hc, he⟩ := h.ok2.ex
  have part : ∀ {ws : List Str} {d : D}, (∀ w ∈ ws, gw w = true) → PartD ws d → gw (wordS d) = true := by
    intro ws d hw h
    rcases h with rfl | ⟨w, h, rfl⟩
    · decide +kernel
    · exact hw w h
  intro w hw
  unfold rwords at hw
  rw [hm] at hw
  simp at hw
  rcases hw with rfl | rfl | rfl | rfl | rfl | rfl | rfl | rfl
  · decide +kernel
  · cases hs : r.src with
    | none => decide +kernel
    | some x => exact gw_num (h.src x hs)
  · exact part (by decide +kernel) ha
  · exact part (by decide +kernel) hb
  · rcases hc with rfl | ⟨v, rfl⟩
    · decide +kernel
    · cases v <;> decide +kernel
  · exact part (by decide +kernel) he
  · decide +kernel
  · exact gw_num h.nxt
theorem wordsS_gw {st : Int} {on : List Int} {rs : List R} (h : Ls st on rs) : ∀ ws ∈ wordsS st on rs, ws ≠ [] ∧ ∀ w ∈ ws, gw w = true := by
  have h0 := h.st0
  have h1 := h.st1
  intro ws hws
  unfold wordsS at hws
  simp only [List.cons_append, List.nil_append, List.mem_cons] at hws
  rcases hws with rfl | rfl | hws
  · refine ⟨by simp, fun w hw => ?_⟩
    simp at hw
    rcases hw with rfl | rfl
    · decide +kernel
    · exact gw_num ⟨by omega, h1⟩
  · refine ⟨by simp, fun w hw => ?_⟩
    simp at hw
    rcases hw with rfl | ⟨i, hi, rfl⟩
    · decide +kernel
    · have := h.onb i hi
      exact gw_num ⟨by omega, by omega⟩
  · obtain ⟨r, hr, rfl⟩ := List.mem_map.mp hws
    exact ⟨by simp [rwords], wordS_gw (h.rok r hr).1⟩
theorem joinL_end {S : List Nat} : ∀ {ps : List (List Nat)}, joinL [] (ps.map fun p => p ++ S) = joinL S (ps ++ [[]])
  | [] => rfl
  | [p] => by simp [joinL]
  | p :: q :: r => by
    have := joinL_end (S := S) (ps := q :: r)
    simp only [List.map_cons, List.cons_append, joinL] at this ⊢
    rw [List.append_assoc]
    congr 1
    simp only [List.nil_append]
    congr 1
theorem textS_lines {st : Int} {on : List Int} {rs : List R} (h : Ls st on rs) : lines (textS st on rs) = linesS st on rs ++ [("" : Str)] := by
  have e0 : tl ("\n" : Str) = [10] := by decide +kernel
  have e1 : tl ("" : Str) = [] := by decide +kernel
  have ej : textS st on rs = Txt.join "\n" (linesS st on rs ++ [("" : Str)]) := by
    apply ext_tl
    unfold textS
    rw [join_eq, join_eq, tl_join, tl_join, List.map_append, List.map_cons, List.map_nil, e1, ← joinL_end, List.map_map, List.map_map]
    congr 1
    apply List.map_congr_left
    intro l _
    exact tl_append _ _
  unfold lines
  rw [ej]
  refine split_join e0 (by decide +kernel) (by simp) fun p hp hm => ?_
  rw [List.mem_append] at hp
  rcases hp with hp | hp
  · rw [linesS_w h] at hp
    obtain ⟨ws, hws, rfl⟩ := List.mem_map.mp hp
    obtain ⟨a, b⟩ := wordsS_gw h ws hws
    exact (line_split a b).2 hm
  · simp at hp
    subst hp
    rw [e1] at hm
    cases hm
end G
end VS
set_option Elab.async false
set_option linter.all false
set_option maxRecDepth 100000
set_option maxHeartbeats 4000000
/-! T20 (k19): what a listener's text tells; changed texts. -/
namespace VS
open PySem PySem.Spec PyProof.Rows L2 TL
namespace G
theorem allN_num : ∀ {on : List Int}, (∀ x ∈ on, 0 ≤ x ∧ x < 10) → allN (on.map num) = some on
  | [], _ => rfl
  | i :: on, h => by
    have ih := allN_num (on := on) fun x hx => h x (List.mem_cons_of_mem _ hx)
    simp only [List.map_cons, allN, numO_num (h i (by simp)), Option.bind_some, ih, Option.map_some]
theorem src_num {o : Option Int} (h : ∀ x, o = some x → 0 ≤ x ∧ x < 10) : srcN (wordS (intO o)) = some o := by
  cases o with
  | none => rfl
  | some x =>
    have hx := h x rfl
    have : num x ≠ "*" := by
      obtain ⟨k, rfl⟩ := Int.eq_ofNat_of_zero_le hx.1
      exact dig10 (P := fun k => num k ≠ "*") (by decide +kernel) (by omega)
    show srcN (num x) = _
    unfold srcN
    rw [if_neg this, numO_num hx]
    rfl
theorem part_word {ws : List Str} {d : D} (hw : ∀ w ∈ ws, w ≠ "*") (h : PartD ws d) : wordO (wordS d) ws = some d := by
  rcases h with rfl | ⟨w, h, rfl⟩
  · rfl
  · show wordO w ws = _
    unfold wordO
    rw [if_neg (hw w h), if_pos h]
theorem ruleO_w {r : R} (h : r.Ok3) : ruleO (rwords r) = some r := by
  obtain ⟨a, b, c, e, hm, ha, hb, hc, he⟩ := h.ok2.ex
  obtain ⟨src, mid, g⟩ := r
  simp only at hm
  subst hm
  have fl : flagO (wordS c) = some c := by
    rcases hc with rfl | ⟨v, rfl⟩
    · rfl
    · cases v
      · show flagO "no" = _
        unfold flagO
        rw [if_neg (by decide +kernel), if_neg (by decide +kernel), if_pos rfl]
      · show flagO "yes" = _
        unfold flagO
        rw [if_neg (by decide +kernel), if_pos rfl]
  have e1 := src_num h.src
  have e2 := part_word (by decide +kernel) ha
  have e3 := part_word (by decide +kernel) hb
  have e5 := part_word (by decide +kernel) he
  have e6 := numO_num h.nxt
  simp only at e1 e6
  simp [rwords, ruleO, e1, e2, e3, fl, e5, e6, allO]
def foldS : RS → List (List Str) → Option RS
  | S, [] => some S
  | S, ws :: wss => (step S ws).bind fun S' => foldS S' wss
theorem runL_w : ∀ {wss : List (List Str)} {S S' : RS} {k : Nat}, (∀ ws ∈ wss, ws ≠ [] ∧ ∀ w ∈ ws, gw w = true) → foldS S wss = some S' → runL S (wss.map (Txt.join " ") ++ [("" : Str)]) k = .inr S'
  | [], S, S', k, _, h => by
    simp only [foldS, Option.some.injEq] at h
    subst h
    simp [runL]
  | ws :: wss, S, S', k, hw, h => by
    obtain ⟨a, b⟩ := hw ws (by simp)
    simp only [foldS, Option.bind_eq_some_iff] at h
    obtain ⟨S1, e1, e2⟩ := h
    simp only [List.map_cons, List.cons_append, runL]
    rw [if_neg (by simp), (line_split a b).1, e1]
    exact runL_w (fun z hz => hw z (by simp [hz])) e2
theorem foldS_rules {st : Int} {on : List Int} : ∀ {rs acc : List R}, (∀ r ∈ rs, r.Ok3) → foldS ⟨some st, some on, acc⟩ (rs.map rwords) = some ⟨some st, some on, acc ++ rs⟩
  | [], acc, _ => by simp [foldS]
  | r :: rs, acc, h => by
    simp only [List.map_cons, foldS, step, ruleO_w (h r (by simp)), Option.map_some, Option.bind_some]
    rw [foldS_rules fun z hz => h z (by simp [hz])]
    simp
theorem foldS_all {st : Int} {on : List Int} {rs : List R} (h : Ls st on rs) : foldS RS0 (wordsS st on rs) = some ⟨some st, some on, rs⟩ := by
  have h0 := h.st0
  have h1 := h.st1
  have e1 := numO_num (i := st) ⟨by omega, h1⟩
  have e2 := allN_num (on := on) fun x hx => by have := h.onb x hx; omega
  have e3 := foldS_rules (st := st) (on := on) (acc := []) fun r hr => (h.rok r hr).1
  simp only [List.nil_append] at e3
  simp [wordsS, foldS, RS0, step, e1, e2, e3]
theorem Ls.lis {st : Int} {on : List Int} {rs : List R} (h : Ls st on rs) : Lis st on rs = true := by
  have h0 := h.st0
  have h1 := h.st1
  have h2 := h.len
  unfold Lis
  simp only [Bool.and_eq_true, decide_eq_true_eq, List.all_eq_true]
  refine ⟨⟨⟨h0, by omega⟩, fun x hx => ?_, nodup_of_pair h.asc⟩, by omega, fun r hr => (h.rok r hr).2⟩
  have := h.onb x hx
  unfold inSt
  simp
  omega
theorem dueR_text {st : Int} {on : List Int} {rs : List R} (h : Ls st on rs) : dueR (textS st on rs) = .inr (st, on, rs) := by
  unfold dueR
  rw [textS_lines h]
  have e := runL_w (k := 0) (wordsS_gw h) (foldS_all h)
  rw [← linesS_w h] at e
  rw [e]
  simp [h.asc, h.lis]
/-! plain texts -/
theorem ok_app {x y : Str} (h1 : PyData.strOk x = true) (h2 : PyData.strOk y = true) : PyData.strOk (x ++ y) = true := by
  rw [strOk_tl] at *
  rw [tl_append]
  intro c hc
  rcases List.mem_append.mp hc with h | h
  · exact h1 c h
  · exact h2 c h
theorem ok_join {y : Str} {ps : List Str} (hy : PyData.strOk y = true) (h : ∀ p ∈ ps, PyData.strOk p = true) : PyData.strOk (Txt.join y ps) = true := by
  rw [strOk_tl, join_eq, tl_join]
  intro c hc
  rcases joinL_in hc with h1 | ⟨p, hp, h1⟩
  · exact strOk_tl.mp hy c h1
  · obtain ⟨w, hw, rfl⟩ := List.mem_map.mp hp
    exact strOk_tl.mp (h w hw) c h1
theorem ok_part {ws : List Str} {d : D} (hw : ∀ w ∈ ws, PyData.strOk w = true) (h : PartD ws d) : PyData.strOk (wordS d) = true := by
  rcases h with rfl | ⟨w, h, rfl⟩
  · decide +kernel
  · exact hw w h
theorem ok_rule {r : R} (h : r.Ok3) : PyData.strOk (ruleS r) = true := by
  obtain ⟨a, b, c, e, hm, ha, hb, hc, he⟩ := h.ok2.ex
  unfold ruleS
  rw [hm]
  refine ok_app (ok_app (ok_app strOk_of (ok_join strOk_of ?_)) strOk_of) strOk_of
  intro p hp
  simp at hp
  rcases hp with rfl | rfl | rfl | rfl | rfl
  · cases r.src <;> exact strOk_of
  · exact ok_part (by decide +kernel) ha
  · exact ok_part (by decide +kernel) hb
  · rcases hc with rfl | ⟨v, rfl⟩
    · exact strOk_of
    · cases v <;> exact strOk_of
  · exact ok_part (by decide +kernel) he
theorem ok_text {st : Int} {on : List Int} {rs : List R} (h : Ls st on rs) : PyData.strOk (textS st on rs) = true := by
  unfold textS
  refine ok_join strOk_of fun p hp => ?_
  obtain ⟨l, hl, rfl⟩ := List.mem_map.mp hp
  refine ok_app ?_ strOk_of
  unfold linesS at hl
  simp only [List.cons_append, List.nil_append, List.mem_cons] at hl
  rcases hl with rfl | rfl | hl
  · exact ok_app strOk_of strOk_of
  · refine ok_app strOk_of (ok_join strOk_of fun p hp => ?_)
    obtain ⟨i, _, rfl⟩ := List.mem_map.mp hp
    exact ok_app strOk_of strOk_of
  · obtain ⟨r, hr, rfl⟩ := List.mem_map.mp hl
    exact ok_rule (h.rok r hr).1
end G
end VS
set_option Elab.async false
set_option linter.all false
set_option maxRecDepth 100000
set_option maxHeartbeats 4000000
/-! T21 (k19): changed texts. -/
namespace VS
open PySem PySem.Spec PyProof.Rows L2 TL
namespace G
theorem tl_mk (l : List Nat) : tl (⟨l.toArray⟩ : Str) = l := by simp [tl]
theorem cut_lo {z : Str} {k : Nat} (h : k ≤ z.length) : tl (cutS z none (some (k : Int))) = (tl z).take k := by
  unfold cutS
  rw [tl_mk]
  have e1 : HT.sIx z.length 0 none = 0 := by simp [HT.sIx]
  have nk : ¬ (k : Int) < 0 := by omega
  have e2 : HT.sIx z.length z.length (some (k : Int)) = k := by simp [HT.sIx, nk]; omega
  rw [e1, e2]
  rfl
theorem cut_hi {z : Str} {k : Nat} : ∃ m, m ≥ min k z.length ∧ tl (cutS z (some (k : Int)) none) = (tl z).drop m := by
  unfold cutS
  rw [tl_mk]
  have e1 : HT.sIx z.length z.length none = z.length := by simp [HT.sIx]
  have nk : ¬ (k : Int) < 0 := by omega
  refine ⟨HT.sIx z.length 0 (some (k : Int)), by simp [HT.sIx, nk], ?_⟩
  rw [e1]
  apply List.take_of_length_le
  rw [List.length_drop, ← len_tl]
  omega
def sgs : List Str := "1" :: "0" :: " " :: "*" :: ">" :: "\n" :: "on" :: "yes" :: "no " :: "rule " :: "outside" :: " zone" :: "none" :: "states 2\n" :: "x" :: "-" :: "7" :: "  " :: "enter" :: "on\n" :: []
theorem sgs_ok : ∀ w ∈ sgs, w.length ≤ 9 ∧ PyData.strOk w = true := by decide +kernel
theorem ok_sub {z y : Str} (h : PyData.strOk z = true) (hs : ∀ c ∈ tl y, c ∈ tl z) : PyData.strOk y = true := by
  rw [strOk_tl] at *
  exact fun c hc => h c (hs c hc)
/-- a cut text, with a sign in between or none -/
theorem chg {z s : Str} {k m : Nat} (hz : PyData.strOk z = true) (hs : PyData.strOk s = true) (hl : s.length ≤ 9) (hk : k ≤ z.length) (hm : k ≤ m) :
    (cutS z none (some (k : Int)) ++ s ++ cutS z (some (m : Int)) none).length ≤ z.length + 9 ∧ PyData.strOk (cutS z none (some (k : Int)) ++ s ++ cutS z (some (m : Int)) none) = true ∧
    (cutS z none (some (k : Int)) ++ cutS z (some (m : Int)) none).length ≤ z.length + 9 ∧ PyData.strOk (cutS z none (some (k : Int)) ++ cutS z (some (m : Int)) none) = true ∧
    (cutS z none (some (k : Int))).length ≤ z.length ∧ (cutS z (some (m : Int)) none).length ≤ z.length := by
  obtain ⟨j, hj, e2⟩ := cut_hi (z := z) (k := m)
  have e1 := cut_lo hk
  have l1 : (cutS z none (some (k : Int))).length ≤ k := by rw [len_tl, e1, List.length_take]; omega
  have l2 : (cutS z (some (m : Int)) none).length ≤ z.length - j := by rw [len_tl, e2, List.length_drop, ← len_tl]; omega
  have o1 : PyData.strOk (cutS z none (some (k : Int))) = true := ok_sub hz fun c hc => by rw [e1] at hc; exact List.mem_of_mem_take hc
  have o2 : PyData.strOk (cutS z (some (m : Int)) none) = true := ok_sub hz fun c hc => by rw [e2] at hc; exact List.mem_of_mem_drop hc
  refine ⟨?_, ok_app (ok_app o1 hs) o2, ?_, ok_app o1 o2, by omega, by omega⟩
  · rw [len_app, len_app]; omega
  · rw [len_app]; omega
theorem changed_ok {row : List Int} {n : Nat} {x : Str} (hx : x.length ≤ 640) (ok : PyData.strOk x = true) :
    Vl (f__law_changed [bx row n, .str x]) fun d es => ∃ y n', d = .str y ∧ es = [bx row n', .str x] ∧ y.length ≤ x.length + 9 ∧ PyData.strOk y = true := by
  have hb : x.length ≤ big := by unfold big; omega
  have hlen : lenD (.str x) = some (.int x.length) := if_pos hb
  have a0 : 0 ≤ drawV row n 840 % ((x.length : Int) + 1) := Int.emod_nonneg _ (by omega)
  have a1 : drawV row n 840 % ((x.length : Int) + 1) < (x.length : Int) + 1 := Int.emod_lt_of_pos _ (by omega)
  have hpos : (0 : Int) < (x.length : Int) + 1 := by omega
  obtain ⟨k, hk⟩ := Int.eq_ofNat_of_zero_le a0
  rw [hk] at a1
  have hkl : k ≤ x.length := by omega
  obtain ⟨sd, es, hs⟩ := atI_mem (ds := sgs.map D.str) (drawV_lo (row := row) (n := n + 1) (many := 20) (by decide)) (drawV_hi (by decide))
  obtain ⟨s, hs', rfl⟩ := List.mem_map.mp hs
  obtain ⟨sl, so⟩ := sgs_ok s hs'
  have c1 := chg ok so sl hkl (Nat.le_refl k)
  have c2 := chg ok so sl hkl (Nat.le_succ k)
  have es' : atI [D.str "1", .str "0", .str " ", .str "*", .str ">", .str "\n", .str "on", .str "yes", .str "no ", .str "rule ", .str "outside", .str " zone", .str "none", .str "states 2\n", .str "x", .str "-", .str "7", .str "  ", .str "enter", .str "on\n"] (drawV row (n + 1) 20) = some (.str s) := es
  obtain ⟨Q, hQ⟩ := hide (fun (d : D) (es : List D) => ∃ y n', d = .str y ∧ es = [bx row n', .str x] ∧ y.length ≤ x.length + 9 ∧ PyData.strOk y = true)
  rw [← hQ]
  have fin : ∀ {y : Str} {n' : Nat}, y.length ≤ x.length + 9 → PyData.strOk y = true → Q (.str y) [bx row n', .str x] := fun h1 h2 => by rw [hQ]; exact ⟨_, _, rfl, rfl, h1, h2⟩
  generalize hc0 : cutS x none (some (k : Int)) = u0 at c1 c2
  have ck : (k : Int) + 1 = ((k.succ : Nat) : Int) := rfl
  generalize hc1 : cutS x (some (k : Int)) none = u1 at c1
  generalize hc2 : cutS x (some ((k.succ : Nat) : Int)) none = u2 at c2
  rw [← ck] at hc2
  have p1 : addD (.str u0) (.str s) = some (.str (u0 ++ s)) := addD_s (by unfold big; omega)
  have p2 : addD (.str (u0 ++ s)) (.str u1) = some (.str (u0 ++ s ++ u1)) := addD_s (by rw [len_app]; unfold big; omega)
  have p3 : addD (.str u0) (.str u2) = some (.str (u0 ++ u2)) := addD_s (by unfold big; omega)
  have p4 : addD (.str (u0 ++ s)) (.str u2) = some (.str (u0 ++ s ++ u2)) := addD_s (by rw [len_app]; unfold big; omega)
  by_cases z0 : drawV row (n + 1 + 1) 3 = 0
  · simp [f__law_changed, fnM_e, N__law_changed.m, draw_e, hlen, hpos, hk, es', hb, z0, hc0, hc1, p1, p2]
    exact fin c1.1 c1.2.1
  · by_cases z1 : drawV row (n + 1 + 1) 3 = 1
    · simp [f__law_changed, fnM_e, N__law_changed.m, draw_e, hlen, hpos, hk, es', hb, z1, hc0, hc2, p3]
      exact fin c2.2.2.1 c2.2.2.2.1
    · simp [f__law_changed, fnM_e, N__law_changed.m, draw_e, hlen, hpos, hk, es', hb, z0, z1, hc0, hc2, p1, p4]
      exact fin c2.1 c2.2.1
end G
end VS
set_option Elab.async false
set_option linter.all false
set_option maxRecDepth 100000
set_option maxHeartbeats 4000000
/-! T22 (k19): the law. -/
namespace VS
open PySem PySem.Spec PyProof.Rows L2 TL
namespace G
theorem rule_r {st : Int} {d : D} (h1 : st < 10) (h : RuleD st d) : ∃ r : R, d = r.d ∧ r.Ok3 ∧ ruT st r = true := by
  obtain ⟨a, b, c, e, f, g, rfl, ha, hb, hc, he, hf, g0, g1⟩ := h
  have hg : inSt st g = true := by unfold inSt; simp; omega
  rcases ha with rfl | ⟨x, rfl, x0, x1⟩
  · refine ⟨⟨none, [b, c, e, f], g⟩, rfl, ⟨⟨b, c, e, f, rfl, hb, hc, he, hf⟩, by simp, g0, by show g < 10; omega⟩, by simp [ruT, hg]⟩
  · have hx : inSt st x = true := by unfold inSt; simp; omega
    refine ⟨⟨some x, [b, c, e, f], g⟩, rfl, ⟨⟨b, c, e, f, rfl, hb, hc, he, hf⟩, by intro y hy; cases hy; omega, g0, by show g < 10; omega⟩, by simp [ruT, hg, hx]⟩
theorem rules_r {st : Int} (h1 : st < 10) : ∀ {ds : List D}, (∀ d ∈ ds, RuleD st d) → ∃ rs : List R, ds = rs.map R.d ∧ ∀ r ∈ rs, r.Ok3 ∧ ruT st r = true
  | [], _ => ⟨[], rfl, by simp⟩
  | d :: ds, h => by
    obtain ⟨r, rfl, h2⟩ := rule_r h1 (h d (by simp))
    obtain ⟨rs, rfl, h3⟩ := rules_r h1 fun z hz => h z (List.mem_cons_of_mem _ hz)
    refine ⟨r :: rs, rfl, ?_⟩
    intro z hz
    rcases List.mem_cons.mp hz with rfl | hz
    · exact h2
    · exact h3 z hz
theorem lis_ls {d : D} (h : LisD d 6) : ∃ st on rs, d = lisV false st on (rs.map R.d) ∧ Ls st on rs := by
  obtain ⟨st, on, ds, rfl, h0, h6, ha, hb, hr, hl⟩ := h
  obtain ⟨rs, rfl, h3⟩ := rules_r (by omega) hr
  exact ⟨st, on, rs, rfl, h0, by omega, ha, hb, h3, by simpa using hl⟩
theorem listening_e {st : Int} {on : List Int} {rs : List R} (h : Ls st on rs) : f__law_listening [lisV false st on (rs.map R.d)] = .ok (lisO true st on (rs.map R.d)) [lisV false st on (rs.map R.d)] := by
  have hok : ∀ r ∈ rs, r.Ok2 := fun r hr => (h.rok r hr).1.ok2
  have hini := init_g (st := st) (on := on) (rs := rs) (by have := h.st0; omega) (by have := h.onlen; omega) hok
  rw [h.lis, if_pos rfl, sortI_self.mpr (h.asc.imp fun h => Int.le_of_lt h)] at hini
  have fzr := rd_fz hok
  have x0 : ∀ a b c : D, atI [a, b, c] 0 = some a := fun _ _ _ => rfl
  have x1 : ∀ a b c : D, atI [a, b, c] 1 = some b := fun _ _ _ => rfl
  have x2 : ∀ a b c : D, atI [a, b, c] 2 = some c := fun _ _ _ => rfl
  simp [f__law_listening, fnM_e, N__law_listening.m, lisV, x0, x1, x2, fzr, hini]
theorem sh_rd {rs : List R} {n : Nat} (h : ∀ r ∈ rs, r.Ok2) : shs (n + 1) (rs.map R.d) = true := shs_all fun d hd => by
  obtain ⟨r, hr, rfl⟩ := List.mem_map.mp hd
  obtain ⟨a, b, c, e, hm, ha, hb, hc, he⟩ := (h r hr).ex
  have part : ∀ {ws : List Str} {d : D}, (∀ w ∈ ws, PyData.strOk w = true) → PartD ws d → sh n d = true := by
    intro ws d hw h
    rcases h with rfl | ⟨w, h, rfl⟩
    · simp
    · simp [hw w h]
  have p1 := part ok_KINDS ha
  have p2 := part ok_SIDES hb
  have p3 : sh n c = true := by rcases hc with rfl | ⟨v, rfl⟩ <;> simp
  have p4 := part ok_RELATED he
  simp [R.d, hm, p1, p2, p3, p4, sh_intO]
theorem dueR_bad {x z : Str} (h : dueR x = .inl z) : PyData.strOk z = true := by
  unfold dueR at h
  repeat' split at h
  all_goals first | (cases h; done) | (cases h; first | exact ok_app (x := "line ") strOk_of strOk_of | exact strOk_of)
theorem sh_due {x : Str} (h : TOk x) : sh 64 (dueD (dueR x)) = true := by
  cases e : dueR x with
  | inl z => simp [dueD, dueR_bad e]
  | inr q =>
    obtain ⟨st, on, rs⟩ := q
    have := sh_rd (n := 61) (dueR_ok2 h e)
    simp [dueD, this]
theorem empty_told : dueR "" = .inl "line 0" := by
  have e : lines "" = [("" : Str)] := by
    have e0 : tl ("\n" : Str) = [10] := by decide +kernel
    have := split_join (y := "\n") e0 (by decide +kernel) (parts := [("" : Str)]) (by simp) (by decide +kernel)
    exact this
  unfold dueR
  rw [e]
  simp [runL, RS0]
  decide +kernel
end G
end VS
set_option Elab.async false
set_option linter.all false
set_option maxRecDepth 100000
set_option maxHeartbeats 4000000
/-! T23 (k19): the law. -/
namespace VS
open PySem PySem.Spec PyProof.Rows L2 TL
namespace G
theorem law_me : N_law.m = (seqM (setM 1 (clM lstD (consM (fzM (callM 3 [.tmp, .tmp, .tmp] f__law_row (consM (rd 0) (consM (intM 0) (consM (intM 63) nilM))))) (consM (intM 0) nilM))))
  (seqM (forS (rngM rng1 (consM (intM 3) nilM)) (tgN 2) (seqM (setM 3 (fzM (callM 2 [.plc 1 [], .tmp] f__law_listener (plcM 1 [] (consM (intM 6) nilM)))))
  (seqM (setM 4 (fzM (callM 1 [.tmp] f__law_text (consM (rd 3) nilM))))
  (seqM (iteM (orM (testM (opM (eqP true) (callM 1 [.tmp] f_text_of (consM (fzM (callM 1 [.tmp] f__law_listening (consM (rd 3) nilM))) nilM)) (rd 4))) (testM (opM (eqP true) (callM 1 [.tmp] f__law_told (consM (rd 4) nilM)) (rd 3)))) (retM (blM false)) skipM)
  (forS (rngM rng1 (consM (intM 6) nilM)) (tgN 5) (seqM (setM 6 (fzM (callM 2 [.plc 1 [], .tmp] f__law_changed (plcM 1 [] (consM (rd 4) nilM)))))
  (seqM (iteM (testM (opM (eqP true) (callM 1 [.tmp] f__law_told (consM (rd 6) nilM)) (callM 1 [.tmp] f__law_due (consM (rd 6) nilM)))) (retM (blM false)) skipM)
  (iteM (testM (opM (eqP false) (callM 2 [.plc 1 [], .tmp] f__law_draw (plcM 1 [] (consM (intM 2) nilM))) (intM 0))) (setM 4 (rd 6)) skipM))))))))
  (retM (opM (eqP false) (callM 1 [.tmp] f__law_told (consM (strM "") nilM)) (strM "line 0"))))) := rfl
theorem law_ok {ns : List Int} (hn : ns.length ≤ 63) : Vl (f_law [.rol (ns.map D.int)]) fun d es => d = .bl true := by
  have s3 : small62 3 = true := by decide
  have s6 : small62 6 = true := by decide
  obtain ⟨Q, hQ⟩ := hide (fun (d : D) (es : List D) => d = .bl true)
  rw [← hQ]
  simp [f_law, fnM_e, law_me]
  refine Vl_call (row_ok (last := 63) (by decide)) ?_
  rintro _ _ ⟨row, rfl, rfl⟩
  simp [rng1, s3]
  obtain ⟨I, hI⟩ := hide (fun (i : Nat) (ρ : List D) => ∃ n a2 a3 a4 a5 a6, ρ = [.rol (ns.map D.int), bx row n, a2, a3, a4, a5, a6])
  refine Vl_for I (by rw [hI]; exact ⟨0, _, _, _, _, _, rfl⟩) ?_ ?_
  · intro i d ρ hi h
    rw [hI] at h
    obtain ⟨n, a2, a3, a4, a5, a6, rfl⟩ := h
    simp
    refine Vl_call (listener_ok (by decide) (by decide)) ?_
    rintro l _ ⟨hl, n', rfl⟩
    obtain ⟨st, on, rs, el, hL⟩ := lis_ls hl
    have hok : ∀ r ∈ rs, r.Ok2 := fun r hr => (hL.rok r hr).1.ok2
    have fzr := rd_fz hok
    have hx : TOk (textS st on rs) := ⟨by have := textS_len hL; omega, ok_text hL⟩
    have e1 := law_text_e hL
    have e2 := listening_e hL
    have e3 := text_of_e hL
    have e4 := told_e hx
    rw [dueR_text hL] at e4
    have fl : fz (lisO true st on (rs.map R.d)) = lisO false st on (rs.map R.d) := by simp [lisO, fzr]
    have hs := sh_rd (n := 61) hok
    have hs2 : sh 64 (lisV false st on (rs.map R.d)) = true := by simp [lisV, hs]
    have hs3 : sh 64 (dueD (.inr (st, on, rs))) = true := by simp [dueD, hs]
    have eq1 : eqD (dueD (.inr (st, on, rs))) (lisV false st on (rs.map R.d)) = true := eqDs_self [.int st, .lst false (on.map D.int), .lst false (rs.map R.d)] (n := 63) (by simp [hs])
    have pv : has? (lisV false st on (rs.map R.d)) = true ∧ pure? (lisV false st on (rs.map R.d)) = true := by simp [lisV]
    have okx := hx.ok
    have hlx := textS_len hL
    simp [el, e1, e2, fl, e3, e4, pv, hs2, hs3, eq1, okx]
    rw [show rng1 [.int 6] = some (rangeD 0 6) from by simp [rng1, s6]]
    simp only [Res.of, Vl_ok]
    obtain ⟨J, hJ⟩ := hide (fun (j : Nat) (ρ : List D) => ∃ n y a5 a6, ρ = [.rol (ns.map D.int), bx row n, d, lisV false st on (rs.map R.d), .str y, a5, a6] ∧ y.length ≤ 570 + 9 * j ∧ PyData.strOk y = true)
    refine Vl_for J (by rw [hJ]; exact ⟨_, _, _, _, rfl, by omega, okx⟩) ?_ ?_
    · intro j dj ρ hj h
      rw [hJ] at h
      obtain ⟨n, y, a5, a6, rfl, hy, oy⟩ := h
      obtain ⟨rfl, hj6⟩ := rangeD_get hj
      simp
      refine Vl_call (changed_ok (by omega) oy) ?_
      rintro _ _ ⟨z, n', rfl, rfl, hz, oz⟩
      have hT : TOk z := ⟨by omega, oz⟩
      have t1 := told_e hT
      have t2 := due_e hT
      have t3 := sh_due hT
      have t4 := eqD_self _ t3
      simp [t1, t2, t3, t4, draw_e]
      refine Vl_iteK (fun _ => ?_) (fun _ => ?_)
      · simp
        rw [hJ]
        exact ⟨_, _, _, _, rfl, by omega, oz⟩
      · simp
        rw [hJ]
        exact ⟨_, _, _, _, rfl, by omega, oy⟩
    · intro ρ h
      rw [hJ] at h
      obtain ⟨n, y, a5, a6, rfl, _, _⟩ := h
      rw [StP_nx, hI]
      exact ⟨_, _, _, _, _, _, rfl⟩
  · intro ρ h
    rw [hI] at h
    obtain ⟨n, a2, a3, a4, a5, a6, rfl⟩ := h
    have e := told_e (x := "") ⟨by decide +kernel, by decide +kernel⟩
    rw [empty_told] at e
    simp [e, dueD]
    rw [hQ]
end G
end VS
set_option Elab.async false
set_option linter.all false
set_option maxRecDepth 100000
set_option maxHeartbeats 8000000
set_option pp.deepTerms false
namespace VS
open PySem PySem.Spec PyProof.Rows L2
namespace G
theorem law_mk {P : Program} {w : World} {K : PySem.W.Frag} {h : Heap} {mg : Str → Option Value} {fa : Addr} (X : K.In h) (G : h.Ns mainGlobals mg) (hfa : mg "law" = some (.ref fa))
    (z_isinstance : PySem.W.nsIn K mainGlobals "isinstance" = some none)
    (z_len : PySem.W.nsIn K mainGlobals "len" = some none)
    (z_abs : PySem.W.nsIn K mainGlobals "abs" = some none)
    (z_int : PySem.W.nsIn K mainGlobals "int" = some none)
    (z_tuple : PySem.W.nsIn K mainGlobals "tuple" = some none)
    (z_list : PySem.W.nsIn K mainGlobals "list" = some none)
    (z_all : PySem.W.nsIn K mainGlobals "all" = some none)
    (z_any : PySem.W.nsIn K mainGlobals "any" = some none)
    (z_sorted : PySem.W.nsIn K mainGlobals "sorted" = some none)
    (z_sum : PySem.W.nsIn K mainGlobals "sum" = some none)
    (z_bool : PySem.W.nsIn K mainGlobals "bool" = some none)
    (z_str : PySem.W.nsIn K mainGlobals "str" = some none)
    (z_range : PySem.W.nsIn K mainGlobals "range" = some none)
    (z_zip : PySem.W.nsIn K mainGlobals "zip" = some none)
    (z_enumerate : PySem.W.nsIn K mainGlobals "enumerate" = some none)
    {a_FLAGS : Addr} {es_FLAGS : Array DictEntry} {nn_FLAGS : Nat}
    (n_FLAGS : PySem.W.nsIn K mainGlobals "FLAGS" = some (some (.ref a_FLAGS)))
    (l_FLAGS : K.lookup a_FLAGS = some ⟨.type "dict", none, .dict es_FLAGS nn_FLAGS, #[]⟩)
    (kl_FLAGS : PySem.W.KeysLit w.params es_FLAGS.toList)
    (nk_FLAGS_0 : PySem.W.nsIn K a_FLAGS "yes" = some (some (.bool true)))
    (nk_FLAGS_1 : PySem.W.nsIn K a_FLAGS "no" = some (some (.bool false)))
    (sy_FLAGS : (a_FLAGS == sysModules) = false)
    (kf_FLAGS : ∀ z, (findBy Value.isStrOf es_FLAGS z).isSome = (c_FLAGS.lookup z).isSome)
    {a_KINDS : Addr} {dd_KINDS : Option Addr} {nn_KINDS : Nat} {sl_KINDS : Array (Option Value)}
    (n_KINDS : PySem.W.nsIn K mainGlobals "KINDS" = some (some (.ref a_KINDS)))
    {t_KINDS_0 : Tok}
    {t_KINDS_1 : Tok}
    {t_KINDS_2 : Tok}
    {t_KINDS_3 : Tok}
    {t_KINDS_4 : Tok}
    (l_KINDS : K.lookup a_KINDS = some ⟨.type "tuple", dd_KINDS, .seq #[.str "enter" t_KINDS_0, .str "leave" t_KINDS_1, .str "over" t_KINDS_2, .str "drop" t_KINDS_3, .str "end" t_KINDS_4] nn_KINDS, sl_KINDS⟩)
    {t_MOST_RULES : Tok}
    (n_MOST_RULES : PySem.W.nsIn K mainGlobals "MOST_RULES" = some (some (.int 1200 t_MOST_RULES)))
    {t_MOST_STATES : Tok}
    (n_MOST_STATES : PySem.W.nsIn K mainGlobals "MOST_STATES" = some (some (.int 60 t_MOST_STATES)))
    {a_RELATED : Addr} {dd_RELATED : Option Addr} {nn_RELATED : Nat} {sl_RELATED : Array (Option Value)}
    (n_RELATED : PySem.W.nsIn K mainGlobals "RELATED" = some (some (.ref a_RELATED)))
    {t_RELATED_0 : Tok}
    {t_RELATED_1 : Tok}
    {t_RELATED_2 : Tok}
    (l_RELATED : K.lookup a_RELATED = some ⟨.type "tuple", dd_RELATED, .seq #[.str "none" t_RELATED_0, .str "outside" t_RELATED_1, .str "inside" t_RELATED_2] nn_RELATED, sl_RELATED⟩)
    {a_SIDES : Addr} {dd_SIDES : Option Addr} {nn_SIDES : Nat} {sl_SIDES : Array (Option Value)}
    (n_SIDES : PySem.W.nsIn K mainGlobals "SIDES" = some (some (.ref a_SIDES)))
    {t_SIDES_0 : Tok}
    {t_SIDES_1 : Tok}
    {t_SIDES_2 : Tok}
    (l_SIDES : K.lookup a_SIDES = some ⟨.type "tuple", dd_SIDES, .seq #[.str "outside" t_SIDES_0, .str "inside" t_SIDES_1, .str "zone" t_SIDES_2] nn_SIDES, sl_SIDES⟩)
    {eC fI : Addr}
    (dtop : (P.main.scope.names.lookup ("super" : Str)).isSome = false)
    (daC : PySem.W.nsIn K mainGlobals "DragError" = some (some (.ref eC)))
    (daS : PySem.W.nsIn K mainGlobals "super" = some none)
    (dop : PySem.W.nsIn K PySem.cStatics "thirdparty.any" = some none)
    {dnm dq : Str} {dN : Addr} {dbs : List Value} {dsn : List Str} {dsub : List Value} {dab : Bool} {dcol : Option Bool} {ddd : Option Addr} {dm0 dm1 dm2 dm3 dm5 : Option Value}
    (dxL : K.lookup eC = some (excClassObj dnm dq eC dN dbs [.type "ValueError", .type "Exception", .type "BaseException", .type "object"] true dsn dsub dab dcol ddd dm0 dm1 dm2 dm3 dm5 "ValueError.__new__"))
    (dve : PySem.W.subIn K (.ref eC) (.type "ValueError") = some true)
    (dsa : PySem.W.findIn K (.ref eC) "__setattr__" = some (some (.builtin "object.__setattr__")))
    (dga : PySem.W.findIn K (.ref eC) "__getattribute__" = some (some (.builtin "BaseException.__getattribute__")))
    (dgg : PySem.W.findIn K (.ref eC) "__getattr__" = some none)
    (dnN : PySem.W.findIn K (.ref eC) "reason" = some none)
    (diC : PySem.W.findIn K (.ref eC) "__init__" = some (some (.ref fI)))
    (dtC : PySem.W.typeIn K (.ref fI) = some (.type "function"))
    (dkC : PySem.W.keepIn K (.ref eC) = true)
    (dex : PySem.W.subIn K (.ref eC) (.type "BaseException") = some true)
    (dty : PySem.W.typeIn K (.ref eC) = some (.type "type"))
    (dhd : PySem.W.hasDictIn K eC = true)
    (dic : PySem.W.isClsIn K eC = true)
    (dsc : PySem.W.subIn K (.ref eC) (.ref eC) = some true)
    {doc0 : Value} {dod : Option Addr} {ddoc dpm : Value} {dan : Option Addr} {dcda dcc : Addr} {dct : Value} {dosl : Array (Option Value)} {dccl dcl : Value} {dcdd dcld : Option Addr} {dccs dcsl : Array (Option Value)} {dvs : Array Value} {dfile : Str} {dtf : Tok}
    (dlf : K.lookup fI = some ⟨doc0, dod, .func (PySem.W.ksFn "__init__" "DragError.__init__" (dgA ⟨4, 17, 4, 21⟩ ⟨4, 23, 4, 29⟩) (dgB 5 ⟨6, 8, 6, 12⟩ ⟨6, 8, 6, 19⟩ ⟨6, 22, 6, 28⟩ ⟨6, 8, 6, 28⟩) dgS .none .none ddoc dpm dan (.ref dcda) dct dcc), dosl⟩)
    (dcd : PySem.W.codeIn K (.ref dcda) "DragError.__init__" = true)
    (dcda_ : K.lookup dcda = some ⟨dccl, dcdd, .fields dvs, dccs⟩)
    (dvs_ : dvs[2]? = some (.str dfile dtf)) (dfi : ((P.main.file : Str) == dfile) = true)
    (dcc_ : K.lookup dcc = some ⟨dcl, dcld, .cell (some (.ref eC)), dcsl⟩)
    {a_Listener : Addr}
    (n_Listener : PySem.W.nsIn K mainGlobals "Listener" = some (some (.ref a_Listener)))
    (pg_Listener : PySem.W.plainGet K a_Listener Str.empty = true)
    (hd_Listener : PySem.W.hasDictIn K a_Listener = true)
    (po_Listener : PySem.W.plainOver K a_Listener = true)
    (sa_Listener : PySem.W.findIn K (.ref a_Listener) "__setattr__" = some (some (.builtin "object.__setattr__")))
    (mk0_Listener : PySem.W.makesIn K a_Listener = true)
    (kc_Listener : PySem.W.keepIn K (.ref a_Listener) = true)
    {a_Reader : Addr}
    (n_Reader : PySem.W.nsIn K mainGlobals "Reader" = some (some (.ref a_Reader)))
    (pg_Reader : PySem.W.plainGet K a_Reader Str.empty = true)
    (hd_Reader : PySem.W.hasDictIn K a_Reader = true)
    (po_Reader : PySem.W.plainOver K a_Reader = true)
    (sa_Reader : PySem.W.findIn K (.ref a_Reader) "__setattr__" = some (some (.builtin "object.__setattr__")))
    (mk0_Reader : PySem.W.makesIn K a_Reader = true)
    (kc_Reader : PySem.W.keepIn K (.ref a_Reader) = true)
    (no_Listener_on : PySem.W.findIn K (.ref a_Listener) "on" = some none)
    (no_Listener_rules : PySem.W.findIn K (.ref a_Listener) "rules" = some none)
    (no_Listener_states : PySem.W.findIn K (.ref a_Listener) "states" = some none)
    (no_Reader_on : PySem.W.findIn K (.ref a_Reader) "on" = some none)
    (no_Reader_rules : PySem.W.findIn K (.ref a_Reader) "rules" = some none)
    (no_Reader_states : PySem.W.findIn K (.ref a_Reader) "states" = some none)
    {a_is_number : Addr} {od_is_number an_is_number : Option Addr} {sl_is_number : Array (Option Value)} {oc_is_number kV_is_number dc_is_number pm_is_number cd_is_number ct_is_number : Value}
    (n_is_number : PySem.W.nsIn K mainGlobals "is_number" = some (some (.ref a_is_number)))
    (l_is_number : K.lookup a_is_number = some ⟨oc_is_number, od_is_number, .func (PySem.W.fnOf "is_number" "is_number" (defArgs N_is_number.st) (defBody N_is_number.st) (defScope N_is_number.st) .none kV_is_number dc_is_number pm_is_number an_is_number cd_is_number ct_is_number), sl_is_number⟩)
    (c_d_is_number : PySem.W.codeIn K cd_is_number "is_number" = true)
    (k_is_number : PySem.W.keepIn K (.ref a_is_number) = true)
    {a__is_part : Addr} {od__is_part an__is_part : Option Addr} {sl__is_part : Array (Option Value)} {oc__is_part kV__is_part dc__is_part pm__is_part cd__is_part ct__is_part : Value}
    (n__is_part : PySem.W.nsIn K mainGlobals "_is_part" = some (some (.ref a__is_part)))
    (l__is_part : K.lookup a__is_part = some ⟨oc__is_part, od__is_part, .func (PySem.W.fnOf "_is_part" "_is_part" (defArgs N__is_part.st) (defBody N__is_part.st) (defScope N__is_part.st) .none kV__is_part dc__is_part pm__is_part an__is_part cd__is_part ct__is_part), sl__is_part⟩)
    (c_d__is_part : PySem.W.codeIn K cd__is_part "_is_part" = true)
    (k__is_part : PySem.W.keepIn K (.ref a__is_part) = true)
    {a__is_rule : Addr} {od__is_rule an__is_rule : Option Addr} {sl__is_rule : Array (Option Value)} {oc__is_rule kV__is_rule dc__is_rule pm__is_rule cd__is_rule ct__is_rule : Value}
    (n__is_rule : PySem.W.nsIn K mainGlobals "_is_rule" = some (some (.ref a__is_rule)))
    (l__is_rule : K.lookup a__is_rule = some ⟨oc__is_rule, od__is_rule, .func (PySem.W.fnOf "_is_rule" "_is_rule" (defArgs N__is_rule.st) (defBody N__is_rule.st) (defScope N__is_rule.st) .none kV__is_rule dc__is_rule pm__is_rule an__is_rule cd__is_rule ct__is_rule), sl__is_rule⟩)
    (c_d__is_rule : PySem.W.codeIn K cd__is_rule "_is_rule" = true)
    (k__is_rule : PySem.W.keepIn K (.ref a__is_rule) = true)
    {a__are_states : Addr} {od__are_states an__are_states : Option Addr} {sl__are_states : Array (Option Value)} {oc__are_states kV__are_states dc__are_states pm__are_states cd__are_states ct__are_states : Value}
    (n__are_states : PySem.W.nsIn K mainGlobals "_are_states" = some (some (.ref a__are_states)))
    (l__are_states : K.lookup a__are_states = some ⟨oc__are_states, od__are_states, .func (PySem.W.fnOf "_are_states" "_are_states" (defArgs N__are_states.st) (defBody N__are_states.st) (defScope N__are_states.st) .none kV__are_states dc__are_states pm__are_states an__are_states cd__are_states ct__are_states), sl__are_states⟩)
    (c_d__are_states : PySem.W.codeIn K cd__are_states "_are_states" = true)
    (k__are_states : PySem.W.keepIn K (.ref a__are_states) = true)
    {a__is_listener : Addr} {od__is_listener an__is_listener : Option Addr} {sl__is_listener : Array (Option Value)} {oc__is_listener kV__is_listener dc__is_listener pm__is_listener cd__is_listener ct__is_listener : Value}
    (n__is_listener : PySem.W.nsIn K mainGlobals "_is_listener" = some (some (.ref a__is_listener)))
    (l__is_listener : K.lookup a__is_listener = some ⟨oc__is_listener, od__is_listener, .func (PySem.W.fnOf "_is_listener" "_is_listener" (defArgs N__is_listener.st) (defBody N__is_listener.st) (defScope N__is_listener.st) .none kV__is_listener dc__is_listener pm__is_listener an__is_listener cd__is_listener ct__is_listener), sl__is_listener⟩)
    (c_d__is_listener : PySem.W.codeIn K cd__is_listener "_is_listener" = true)
    (k__is_listener : PySem.W.keepIn K (.ref a__is_listener) = true)
    {a_Listener___init__ : Addr} {od_Listener___init__ an_Listener___init__ : Option Addr} {sl_Listener___init__ : Array (Option Value)} {oc_Listener___init__ kV_Listener___init__ dc_Listener___init__ pm_Listener___init__ cd_Listener___init__ ct_Listener___init__ : Value}
    (i_Listener___init__ : PySem.W.findIn K (.ref a_Listener) "__init__" = some (some (.ref a_Listener___init__)))
    (f_n_Listener___init__ : PySem.W.isFn K (.ref a_Listener___init__) = true)
    (l_Listener___init__ : K.lookup a_Listener___init__ = some ⟨oc_Listener___init__, od_Listener___init__, .func (PySem.W.fnOf "__init__" "Listener.__init__" (defArgs N_Listener___init__.st) (defBody N_Listener___init__.st) (defScope N_Listener___init__.st) .none kV_Listener___init__ dc_Listener___init__ pm_Listener___init__ an_Listener___init__ cd_Listener___init__ ct_Listener___init__), sl_Listener___init__⟩)
    (c_d_Listener___init__ : PySem.W.codeIn K cd_Listener___init__ "Listener.__init__" = true)
    (k_Listener___init__ : PySem.W.keepIn K (.ref a_Listener___init__) = true)
    {a__shown : Addr} {od__shown an__shown : Option Addr} {sl__shown : Array (Option Value)} {oc__shown kV__shown dc__shown pm__shown cd__shown ct__shown : Value}
    (n__shown : PySem.W.nsIn K mainGlobals "_shown" = some (some (.ref a__shown)))
    (l__shown : K.lookup a__shown = some ⟨oc__shown, od__shown, .func (PySem.W.fnOf "_shown" "_shown" (defArgs N__shown.st) (defBody N__shown.st) (defScope N__shown.st) .none kV__shown dc__shown pm__shown an__shown cd__shown ct__shown), sl__shown⟩)
    (c_d__shown : PySem.W.codeIn K cd__shown "_shown" = true)
    (k__shown : PySem.W.keepIn K (.ref a__shown) = true)
    {a_text_of : Addr} {od_text_of an_text_of : Option Addr} {sl_text_of : Array (Option Value)} {oc_text_of kV_text_of dc_text_of pm_text_of cd_text_of ct_text_of : Value}
    (n_text_of : PySem.W.nsIn K mainGlobals "text_of" = some (some (.ref a_text_of)))
    (l_text_of : K.lookup a_text_of = some ⟨oc_text_of, od_text_of, .func (PySem.W.fnOf "text_of" "text_of" (defArgs N_text_of.st) (defBody N_text_of.st) (defScope N_text_of.st) .none kV_text_of dc_text_of pm_text_of an_text_of cd_text_of ct_text_of), sl_text_of⟩)
    (c_d_text_of : PySem.W.codeIn K cd_text_of "text_of" = true)
    (k_text_of : PySem.W.keepIn K (.ref a_text_of) = true)
    {a__number : Addr} {od__number an__number : Option Addr} {sl__number : Array (Option Value)} {oc__number kV__number dc__number pm__number cd__number ct__number : Value}
    (n__number : PySem.W.nsIn K mainGlobals "_number" = some (some (.ref a__number)))
    (l__number : K.lookup a__number = some ⟨oc__number, od__number, .func (PySem.W.fnOf "_number" "_number" (defArgs N__number.st) (defBody N__number.st) (defScope N__number.st) .none kV__number dc__number pm__number an__number cd__number ct__number), sl__number⟩)
    (c_d__number : PySem.W.codeIn K cd__number "_number" = true)
    (k__number : PySem.W.keepIn K (.ref a__number) = true)
    {a__numbers : Addr} {od__numbers an__numbers : Option Addr} {sl__numbers : Array (Option Value)} {oc__numbers kV__numbers dc__numbers pm__numbers cd__numbers ct__numbers : Value}
    (n__numbers : PySem.W.nsIn K mainGlobals "_numbers" = some (some (.ref a__numbers)))
    (l__numbers : K.lookup a__numbers = some ⟨oc__numbers, od__numbers, .func (PySem.W.fnOf "_numbers" "_numbers" (defArgs N__numbers.st) (defBody N__numbers.st) (defScope N__numbers.st) .none kV__numbers dc__numbers pm__numbers an__numbers cd__numbers ct__numbers), sl__numbers⟩)
    (c_d__numbers : PySem.W.codeIn K cd__numbers "_numbers" = true)
    (k__numbers : PySem.W.keepIn K (.ref a__numbers) = true)
    {a__word : Addr} {od__word an__word : Option Addr} {sl__word : Array (Option Value)} {oc__word kV__word dc__word pm__word cd__word ct__word : Value}
    (n__word : PySem.W.nsIn K mainGlobals "_word" = some (some (.ref a__word)))
    (l__word : K.lookup a__word = some ⟨oc__word, od__word, .func (PySem.W.fnOf "_word" "_word" (defArgs N__word.st) (defBody N__word.st) (defScope N__word.st) .none kV__word dc__word pm__word an__word cd__word ct__word), sl__word⟩)
    (c_d__word : PySem.W.codeIn K cd__word "_word" = true)
    (k__word : PySem.W.keepIn K (.ref a__word) = true)
    {a__flag : Addr} {od__flag an__flag : Option Addr} {sl__flag : Array (Option Value)} {oc__flag kV__flag dc__flag pm__flag cd__flag ct__flag : Value}
    (n__flag : PySem.W.nsIn K mainGlobals "_flag" = some (some (.ref a__flag)))
    (l__flag : K.lookup a__flag = some ⟨oc__flag, od__flag, .func (PySem.W.fnOf "_flag" "_flag" (defArgs N__flag.st) (defBody N__flag.st) (defScope N__flag.st) .none kV__flag dc__flag pm__flag an__flag cd__flag ct__flag), sl__flag⟩)
    (c_d__flag : PySem.W.codeIn K cd__flag "_flag" = true)
    (k__flag : PySem.W.keepIn K (.ref a__flag) = true)
    {a__source : Addr} {od__source an__source : Option Addr} {sl__source : Array (Option Value)} {oc__source kV__source dc__source pm__source cd__source ct__source : Value}
    (n__source : PySem.W.nsIn K mainGlobals "_source" = some (some (.ref a__source)))
    (l__source : K.lookup a__source = some ⟨oc__source, od__source, .func (PySem.W.fnOf "_source" "_source" (defArgs N__source.st) (defBody N__source.st) (defScope N__source.st) .none kV__source dc__source pm__source an__source cd__source ct__source), sl__source⟩)
    (c_d__source : PySem.W.codeIn K cd__source "_source" = true)
    (k__source : PySem.W.keepIn K (.ref a__source) = true)
    {a__rule : Addr} {od__rule an__rule : Option Addr} {sl__rule : Array (Option Value)} {oc__rule kV__rule dc__rule pm__rule cd__rule ct__rule : Value}
    (n__rule : PySem.W.nsIn K mainGlobals "_rule" = some (some (.ref a__rule)))
    (l__rule : K.lookup a__rule = some ⟨oc__rule, od__rule, .func (PySem.W.fnOf "_rule" "_rule" (defArgs N__rule.st) (defBody N__rule.st) (defScope N__rule.st) .none kV__rule dc__rule pm__rule an__rule cd__rule ct__rule), sl__rule⟩)
    (c_d__rule : PySem.W.codeIn K cd__rule "_rule" = true)
    (k__rule : PySem.W.keepIn K (.ref a__rule) = true)
    {a_Reader___init__ : Addr} {od_Reader___init__ an_Reader___init__ : Option Addr} {sl_Reader___init__ : Array (Option Value)} {oc_Reader___init__ kV_Reader___init__ dc_Reader___init__ pm_Reader___init__ cd_Reader___init__ ct_Reader___init__ : Value}
    (i_Reader___init__ : PySem.W.findIn K (.ref a_Reader) "__init__" = some (some (.ref a_Reader___init__)))
    (f_n_Reader___init__ : PySem.W.isFn K (.ref a_Reader___init__) = true)
    (l_Reader___init__ : K.lookup a_Reader___init__ = some ⟨oc_Reader___init__, od_Reader___init__, .func (PySem.W.fnOf "__init__" "Reader.__init__" (defArgs N_Reader___init__.st) (defBody N_Reader___init__.st) (defScope N_Reader___init__.st) .none kV_Reader___init__ dc_Reader___init__ pm_Reader___init__ an_Reader___init__ cd_Reader___init__ ct_Reader___init__), sl_Reader___init__⟩)
    (c_d_Reader___init__ : PySem.W.codeIn K cd_Reader___init__ "Reader.__init__" = true)
    (k_Reader___init__ : PySem.W.keepIn K (.ref a_Reader___init__) = true)
    {a_Reader_take : Addr} {od_Reader_take an_Reader_take : Option Addr} {sl_Reader_take : Array (Option Value)} {oc_Reader_take kV_Reader_take dc_Reader_take pm_Reader_take cd_Reader_take ct_Reader_take : Value}
    (i_Reader_take : PySem.W.findIn K (.ref a_Reader) "take" = some (some (.ref a_Reader_take)))
    (f_n_Reader_take : PySem.W.isFn K (.ref a_Reader_take) = true)
    (l_Reader_take : K.lookup a_Reader_take = some ⟨oc_Reader_take, od_Reader_take, .func (PySem.W.fnOf "take" "Reader.take" (defArgs N_Reader_take.st) (defBody N_Reader_take.st) (defScope N_Reader_take.st) .none kV_Reader_take dc_Reader_take pm_Reader_take an_Reader_take cd_Reader_take ct_Reader_take), sl_Reader_take⟩)
    (c_d_Reader_take : PySem.W.codeIn K cd_Reader_take "Reader.take" = true)
    (k_Reader_take : PySem.W.keepIn K (.ref a_Reader_take) = true)
    {a_read_listener : Addr} {od_read_listener an_read_listener : Option Addr} {sl_read_listener : Array (Option Value)} {oc_read_listener kV_read_listener dc_read_listener pm_read_listener cd_read_listener ct_read_listener : Value}
    (n_read_listener : PySem.W.nsIn K mainGlobals "read_listener" = some (some (.ref a_read_listener)))
    (l_read_listener : K.lookup a_read_listener = some ⟨oc_read_listener, od_read_listener, .func (PySem.W.fnOf "read_listener" "read_listener" (defArgs N_read_listener.st) (defBody N_read_listener.st) (defScope N_read_listener.st) .none kV_read_listener dc_read_listener pm_read_listener an_read_listener cd_read_listener ct_read_listener), sl_read_listener⟩)
    (c_d_read_listener : PySem.W.codeIn K cd_read_listener "read_listener" = true)
    (k_read_listener : PySem.W.keepIn K (.ref a_read_listener) = true)
    {a__law_cell : Addr} {od__law_cell an__law_cell : Option Addr} {sl__law_cell : Array (Option Value)} {oc__law_cell kV__law_cell dc__law_cell pm__law_cell cd__law_cell ct__law_cell : Value}
    (n__law_cell : PySem.W.nsIn K mainGlobals "_law_cell" = some (some (.ref a__law_cell)))
    (l__law_cell : K.lookup a__law_cell = some ⟨oc__law_cell, od__law_cell, .func (PySem.W.fnOf "_law_cell" "_law_cell" (defArgs N__law_cell.st) (defBody N__law_cell.st) (defScope N__law_cell.st) .none kV__law_cell dc__law_cell pm__law_cell an__law_cell cd__law_cell ct__law_cell), sl__law_cell⟩)
    (c_d__law_cell : PySem.W.codeIn K cd__law_cell "_law_cell" = true)
    (k__law_cell : PySem.W.keepIn K (.ref a__law_cell) = true)
    {a__law_row : Addr} {od__law_row an__law_row : Option Addr} {sl__law_row : Array (Option Value)} {oc__law_row kV__law_row dc__law_row pm__law_row cd__law_row ct__law_row : Value}
    (n__law_row : PySem.W.nsIn K mainGlobals "_law_row" = some (some (.ref a__law_row)))
    (l__law_row : K.lookup a__law_row = some ⟨oc__law_row, od__law_row, .func (PySem.W.fnOf "_law_row" "_law_row" (defArgs N__law_row.st) (defBody N__law_row.st) (defScope N__law_row.st) .none kV__law_row dc__law_row pm__law_row an__law_row cd__law_row ct__law_row), sl__law_row⟩)
    (c_d__law_row : PySem.W.codeIn K cd__law_row "_law_row" = true)
    (k__law_row : PySem.W.keepIn K (.ref a__law_row) = true)
    {a__law_draw : Addr} {od__law_draw an__law_draw : Option Addr} {sl__law_draw : Array (Option Value)} {oc__law_draw kV__law_draw dc__law_draw pm__law_draw cd__law_draw ct__law_draw : Value}
    (n__law_draw : PySem.W.nsIn K mainGlobals "_law_draw" = some (some (.ref a__law_draw)))
    (l__law_draw : K.lookup a__law_draw = some ⟨oc__law_draw, od__law_draw, .func (PySem.W.fnOf "_law_draw" "_law_draw" (defArgs N__law_draw.st) (defBody N__law_draw.st) (defScope N__law_draw.st) .none kV__law_draw dc__law_draw pm__law_draw an__law_draw cd__law_draw ct__law_draw), sl__law_draw⟩)
    (c_d__law_draw : PySem.W.codeIn K cd__law_draw "_law_draw" = true)
    (k__law_draw : PySem.W.keepIn K (.ref a__law_draw) = true)
    {a__law_kinds : Addr} {od__law_kinds an__law_kinds : Option Addr} {sl__law_kinds : Array (Option Value)} {oc__law_kinds kV__law_kinds dc__law_kinds pm__law_kinds cd__law_kinds ct__law_kinds : Value}
    (n__law_kinds : PySem.W.nsIn K mainGlobals "_law_kinds" = some (some (.ref a__law_kinds)))
    (l__law_kinds : K.lookup a__law_kinds = some ⟨oc__law_kinds, od__law_kinds, .func (PySem.W.fnOf "_law_kinds" "_law_kinds" (defArgs N__law_kinds.st) (defBody N__law_kinds.st) (defScope N__law_kinds.st) .none kV__law_kinds dc__law_kinds pm__law_kinds an__law_kinds cd__law_kinds ct__law_kinds), sl__law_kinds⟩)
    (c_d__law_kinds : PySem.W.codeIn K cd__law_kinds "_law_kinds" = true)
    (k__law_kinds : PySem.W.keepIn K (.ref a__law_kinds) = true)
    {a__law_rule : Addr} {od__law_rule an__law_rule : Option Addr} {sl__law_rule : Array (Option Value)} {oc__law_rule kV__law_rule dc__law_rule pm__law_rule cd__law_rule ct__law_rule : Value}
    (n__law_rule : PySem.W.nsIn K mainGlobals "_law_rule" = some (some (.ref a__law_rule)))
    (l__law_rule : K.lookup a__law_rule = some ⟨oc__law_rule, od__law_rule, .func (PySem.W.fnOf "_law_rule" "_law_rule" (defArgs N__law_rule.st) (defBody N__law_rule.st) (defScope N__law_rule.st) .none kV__law_rule dc__law_rule pm__law_rule an__law_rule cd__law_rule ct__law_rule), sl__law_rule⟩)
    (c_d__law_rule : PySem.W.codeIn K cd__law_rule "_law_rule" = true)
    (k__law_rule : PySem.W.keepIn K (.ref a__law_rule) = true)
    {a__law_sample : Addr} {od__law_sample an__law_sample : Option Addr} {sl__law_sample : Array (Option Value)} {oc__law_sample kV__law_sample dc__law_sample pm__law_sample cd__law_sample ct__law_sample : Value}
    (n__law_sample : PySem.W.nsIn K mainGlobals "_law_sample" = some (some (.ref a__law_sample)))
    (l__law_sample : K.lookup a__law_sample = some ⟨oc__law_sample, od__law_sample, .func (PySem.W.fnOf "_law_sample" "_law_sample" (defArgs N__law_sample.st) (defBody N__law_sample.st) (defScope N__law_sample.st) .none kV__law_sample dc__law_sample pm__law_sample an__law_sample cd__law_sample ct__law_sample), sl__law_sample⟩)
    (c_d__law_sample : PySem.W.codeIn K cd__law_sample "_law_sample" = true)
    (k__law_sample : PySem.W.keepIn K (.ref a__law_sample) = true)
    {a__law_listener : Addr} {od__law_listener an__law_listener : Option Addr} {sl__law_listener : Array (Option Value)} {oc__law_listener kV__law_listener dc__law_listener pm__law_listener cd__law_listener ct__law_listener : Value}
    (n__law_listener : PySem.W.nsIn K mainGlobals "_law_listener" = some (some (.ref a__law_listener)))
    (l__law_listener : K.lookup a__law_listener = some ⟨oc__law_listener, od__law_listener, .func (PySem.W.fnOf "_law_listener" "_law_listener" (defArgs N__law_listener.st) (defBody N__law_listener.st) (defScope N__law_listener.st) .none kV__law_listener dc__law_listener pm__law_listener an__law_listener cd__law_listener ct__law_listener), sl__law_listener⟩)
    (c_d__law_listener : PySem.W.codeIn K cd__law_listener "_law_listener" = true)
    (k__law_listener : PySem.W.keepIn K (.ref a__law_listener) = true)
    {a__law_listening : Addr} {od__law_listening an__law_listening : Option Addr} {sl__law_listening : Array (Option Value)} {oc__law_listening kV__law_listening dc__law_listening pm__law_listening cd__law_listening ct__law_listening : Value}
    (n__law_listening : PySem.W.nsIn K mainGlobals "_law_listening" = some (some (.ref a__law_listening)))
    (l__law_listening : K.lookup a__law_listening = some ⟨oc__law_listening, od__law_listening, .func (PySem.W.fnOf "_law_listening" "_law_listening" (defArgs N__law_listening.st) (defBody N__law_listening.st) (defScope N__law_listening.st) .none kV__law_listening dc__law_listening pm__law_listening an__law_listening cd__law_listening ct__law_listening), sl__law_listening⟩)
    (c_d__law_listening : PySem.W.codeIn K cd__law_listening "_law_listening" = true)
    (k__law_listening : PySem.W.keepIn K (.ref a__law_listening) = true)
    {a__law_word : Addr} {od__law_word an__law_word : Option Addr} {sl__law_word : Array (Option Value)} {oc__law_word kV__law_word dc__law_word pm__law_word cd__law_word ct__law_word : Value}
    (n__law_word : PySem.W.nsIn K mainGlobals "_law_word" = some (some (.ref a__law_word)))
    (l__law_word : K.lookup a__law_word = some ⟨oc__law_word, od__law_word, .func (PySem.W.fnOf "_law_word" "_law_word" (defArgs N__law_word.st) (defBody N__law_word.st) (defScope N__law_word.st) .none kV__law_word dc__law_word pm__law_word an__law_word cd__law_word ct__law_word), sl__law_word⟩)
    (c_d__law_word : PySem.W.codeIn K cd__law_word "_law_word" = true)
    (k__law_word : PySem.W.keepIn K (.ref a__law_word) = true)
    {a__law_text : Addr} {od__law_text an__law_text : Option Addr} {sl__law_text : Array (Option Value)} {oc__law_text kV__law_text dc__law_text pm__law_text cd__law_text ct__law_text : Value}
    (n__law_text : PySem.W.nsIn K mainGlobals "_law_text" = some (some (.ref a__law_text)))
    (l__law_text : K.lookup a__law_text = some ⟨oc__law_text, od__law_text, .func (PySem.W.fnOf "_law_text" "_law_text" (defArgs N__law_text.st) (defBody N__law_text.st) (defScope N__law_text.st) .none kV__law_text dc__law_text pm__law_text an__law_text cd__law_text ct__law_text), sl__law_text⟩)
    (c_d__law_text : PySem.W.codeIn K cd__law_text "_law_text" = true)
    (k__law_text : PySem.W.keepIn K (.ref a__law_text) = true)
    {a__law_number : Addr} {od__law_number an__law_number : Option Addr} {sl__law_number : Array (Option Value)} {oc__law_number kV__law_number dc__law_number pm__law_number cd__law_number ct__law_number : Value}
    (n__law_number : PySem.W.nsIn K mainGlobals "_law_number" = some (some (.ref a__law_number)))
    (l__law_number : K.lookup a__law_number = some ⟨oc__law_number, od__law_number, .func (PySem.W.fnOf "_law_number" "_law_number" (defArgs N__law_number.st) (defBody N__law_number.st) (defScope N__law_number.st) .none kV__law_number dc__law_number pm__law_number an__law_number cd__law_number ct__law_number), sl__law_number⟩)
    (c_d__law_number : PySem.W.codeIn K cd__law_number "_law_number" = true)
    (k__law_number : PySem.W.keepIn K (.ref a__law_number) = true)
    {a__law_part : Addr} {od__law_part an__law_part : Option Addr} {sl__law_part : Array (Option Value)} {oc__law_part kV__law_part dc__law_part pm__law_part cd__law_part ct__law_part : Value}
    (n__law_part : PySem.W.nsIn K mainGlobals "_law_part" = some (some (.ref a__law_part)))
    (l__law_part : K.lookup a__law_part = some ⟨oc__law_part, od__law_part, .func (PySem.W.fnOf "_law_part" "_law_part" (defArgs N__law_part.st) (defBody N__law_part.st) (defScope N__law_part.st) .none kV__law_part dc__law_part pm__law_part an__law_part cd__law_part ct__law_part), sl__law_part⟩)
    (c_d__law_part : PySem.W.codeIn K cd__law_part "_law_part" = true)
    (k__law_part : PySem.W.keepIn K (.ref a__law_part) = true)
    {a__law_rule_of : Addr} {od__law_rule_of an__law_rule_of : Option Addr} {sl__law_rule_of : Array (Option Value)} {oc__law_rule_of kV__law_rule_of dc__law_rule_of pm__law_rule_of cd__law_rule_of ct__law_rule_of : Value}
    (n__law_rule_of : PySem.W.nsIn K mainGlobals "_law_rule_of" = some (some (.ref a__law_rule_of)))
    (l__law_rule_of : K.lookup a__law_rule_of = some ⟨oc__law_rule_of, od__law_rule_of, .func (PySem.W.fnOf "_law_rule_of" "_law_rule_of" (defArgs N__law_rule_of.st) (defBody N__law_rule_of.st) (defScope N__law_rule_of.st) .none kV__law_rule_of dc__law_rule_of pm__law_rule_of an__law_rule_of cd__law_rule_of ct__law_rule_of), sl__law_rule_of⟩)
    (c_d__law_rule_of : PySem.W.codeIn K cd__law_rule_of "_law_rule_of" = true)
    (k__law_rule_of : PySem.W.keepIn K (.ref a__law_rule_of) = true)
    {a__law_line : Addr} {od__law_line an__law_line : Option Addr} {sl__law_line : Array (Option Value)} {oc__law_line kV__law_line dc__law_line pm__law_line cd__law_line ct__law_line : Value}
    (n__law_line : PySem.W.nsIn K mainGlobals "_law_line" = some (some (.ref a__law_line)))
    (l__law_line : K.lookup a__law_line = some ⟨oc__law_line, od__law_line, .func (PySem.W.fnOf "_law_line" "_law_line" (defArgs N__law_line.st) (defBody N__law_line.st) (defScope N__law_line.st) .none kV__law_line dc__law_line pm__law_line an__law_line cd__law_line ct__law_line), sl__law_line⟩)
    (c_d__law_line : PySem.W.codeIn K cd__law_line "_law_line" = true)
    (k__law_line : PySem.W.keepIn K (.ref a__law_line) = true)
    {a__law_due : Addr} {od__law_due an__law_due : Option Addr} {sl__law_due : Array (Option Value)} {oc__law_due kV__law_due dc__law_due pm__law_due cd__law_due ct__law_due : Value}
    (n__law_due : PySem.W.nsIn K mainGlobals "_law_due" = some (some (.ref a__law_due)))
    (l__law_due : K.lookup a__law_due = some ⟨oc__law_due, od__law_due, .func (PySem.W.fnOf "_law_due" "_law_due" (defArgs N__law_due.st) (defBody N__law_due.st) (defScope N__law_due.st) .none kV__law_due dc__law_due pm__law_due an__law_due cd__law_due ct__law_due), sl__law_due⟩)
    (c_d__law_due : PySem.W.codeIn K cd__law_due "_law_due" = true)
    (k__law_due : PySem.W.keepIn K (.ref a__law_due) = true)
    {a__law_told : Addr} {od__law_told an__law_told : Option Addr} {sl__law_told : Array (Option Value)} {oc__law_told kV__law_told dc__law_told pm__law_told cd__law_told ct__law_told : Value}
    (n__law_told : PySem.W.nsIn K mainGlobals "_law_told" = some (some (.ref a__law_told)))
    (l__law_told : K.lookup a__law_told = some ⟨oc__law_told, od__law_told, .func (PySem.W.fnOf "_law_told" "_law_told" (defArgs N__law_told.st) (defBody N__law_told.st) (defScope N__law_told.st) .none kV__law_told dc__law_told pm__law_told an__law_told cd__law_told ct__law_told), sl__law_told⟩)
    (c_d__law_told : PySem.W.codeIn K cd__law_told "_law_told" = true)
    (k__law_told : PySem.W.keepIn K (.ref a__law_told) = true)
    {a__law_changed : Addr} {od__law_changed an__law_changed : Option Addr} {sl__law_changed : Array (Option Value)} {oc__law_changed kV__law_changed dc__law_changed pm__law_changed cd__law_changed ct__law_changed : Value}
    (n__law_changed : PySem.W.nsIn K mainGlobals "_law_changed" = some (some (.ref a__law_changed)))
    (l__law_changed : K.lookup a__law_changed = some ⟨oc__law_changed, od__law_changed, .func (PySem.W.fnOf "_law_changed" "_law_changed" (defArgs N__law_changed.st) (defBody N__law_changed.st) (defScope N__law_changed.st) .none kV__law_changed dc__law_changed pm__law_changed an__law_changed cd__law_changed ct__law_changed), sl__law_changed⟩)
    (c_d__law_changed : PySem.W.codeIn K cd__law_changed "_law_changed" = true)
    (k__law_changed : PySem.W.keepIn K (.ref a__law_changed) = true)
    {a_law : Addr} {od_law an_law : Option Addr} {sl_law : Array (Option Value)} {oc_law kV_law dc_law pm_law cd_law ct_law : Value}
    (n_law : PySem.W.nsIn K mainGlobals "law" = some (some (.ref a_law)))
    (l_law : K.lookup a_law = some ⟨oc_law, od_law, .func (PySem.W.fnOf "law" "law" (defArgs N_law.st) (defBody N_law.st) (defScope N_law.st) .none kV_law dc_law pm_law an_law cd_law ct_law), sl_law⟩)
    (c_d_law : PySem.W.codeIn K cd_law "law" = true)
    (k_law : PySem.W.keepIn K (.ref a_law) = true) {nM : Nat} (hl : ∀ ns : List Int, ns.length ≤ nM → ∃ es, f_law [.rol (ns.map D.int)] = .ok (.bl true) es) :
    ∃ fd : FuncData, (∀ (s : Shared) (v : Value), BindsTo s fd ⟨[v], []⟩ [("_law_script", v)]) ∧ ∀ base : Heap, K.In base → base.Ns mainGlobals mg → FnOk P w K mg base (L2.CX P w) 8 fa fd ["_law_script"] (spL nM K) := by
  have nb : NoB mg := ⟨PySem.W.mg_none_of X G z_isinstance, PySem.W.mg_none_of X G z_len, PySem.W.mg_none_of X G z_abs, PySem.W.mg_none_of X G z_int, PySem.W.mg_none_of X G z_tuple, PySem.W.mg_none_of X G z_list, PySem.W.mg_none_of X G z_all, PySem.W.mg_none_of X G z_any, PySem.W.mg_none_of X G z_sorted, PySem.W.mg_none_of X G z_sum, PySem.W.mg_none_of X G z_bool, PySem.W.mg_none_of X G z_str, PySem.W.mg_none_of X G z_range, PySem.W.mg_none_of X G z_zip, PySem.W.mg_none_of X G z_enumerate⟩
  have g_FLAGS : KDs K w mg "FLAGS" c_FLAGS := ⟨a_FLAGS, PySem.W.mg_of X G n_FLAGS, kds_of l_FLAGS kl_FLAGS (.cons nk_FLAGS_0 (.bl _) (.cons nk_FLAGS_1 (.bl _) (.nil)))⟩
  have h_FLAGS : KDf K w mg "FLAGS" c_FLAGS := ⟨a_FLAGS, es_FLAGS, nn_FLAGS, PySem.W.mg_of X G n_FLAGS, l_FLAGS, kl_FLAGS, sy_FLAGS, kf_FLAGS⟩
  have kr_KINDS : KRep K (.tup [.str "enter", .str "leave", .str "over", .str "drop", .str "end"]) (.ref a_KINDS) (.ref a_KINDS) := krep_tup (n := nn_KINDS) l_KINDS rfl rfl rfl (by rw [sizeLine_eq]; exact (by decide : 5 ≤ 16777216)) (.cons (.str _ _) (.cons (.str _ _) (.cons (.str _ _) (.cons (.str _ _) (.cons (.str _ _) .nil)))))
  have g_KINDS : GK K mg "KINDS" c_KINDS := ⟨_, _, PySem.W.mg_of X G n_KINDS, kr_KINDS⟩
  have g_MOST_RULES : GK K mg "MOST_RULES" c_MOST_RULES := ⟨_, _, PySem.W.mg_of X G n_MOST_RULES, (.int _ _)⟩
  have g_MOST_STATES : GK K mg "MOST_STATES" c_MOST_STATES := ⟨_, _, PySem.W.mg_of X G n_MOST_STATES, (.int _ _)⟩
  have kr_RELATED : KRep K (.tup [.str "none", .str "outside", .str "inside"]) (.ref a_RELATED) (.ref a_RELATED) := krep_tup (n := nn_RELATED) l_RELATED rfl rfl rfl (by rw [sizeLine_eq]; exact (by decide : 3 ≤ 16777216)) (.cons (.str _ _) (.cons (.str _ _) (.cons (.str _ _) .nil)))
  have g_RELATED : GK K mg "RELATED" c_RELATED := ⟨_, _, PySem.W.mg_of X G n_RELATED, kr_RELATED⟩
  have kr_SIDES : KRep K (.tup [.str "outside", .str "inside", .str "zone"]) (.ref a_SIDES) (.ref a_SIDES) := krep_tup (n := nn_SIDES) l_SIDES rfl rfl rfl (by rw [sizeLine_eq]; exact (by decide : 3 ≤ 16777216)) (.cons (.str _ _) (.cons (.str _ _) (.cons (.str _ _) .nil)))
  have g_SIDES : GK K mg "SIDES" c_SIDES := ⟨_, _, PySem.W.mg_of X G n_SIDES, kr_SIDES⟩
  have dg : DgTxt P K mg eC fI := dg_mk X G dtop daC daS dop dxL (along_ve K) dve dsa dga dgg dnN diC dtC dkC dex dty dhd dic dsc dlf dcd dcda_ dvs_ dfi dcc_ (by decide)
  have g_Listener := PySem.W.mg_of X G n_Listener
  have cl_Listener : Cls K a_Listener := ⟨pg_Listener, hd_Listener, po_Listener, sa_Listener⟩
  have g_Reader := PySem.W.mg_of X G n_Reader
  have cl_Reader : Cls K a_Reader := ⟨pg_Reader, hd_Reader, po_Reader, sa_Reader⟩
  have fc_Listener_on : ∀ C, mg "Listener" = some (.ref C) → Cls K C ∧ NoAttr K C "on" := fun C e => by cases g_Listener.symm.trans e; exact ⟨⟨pg_Listener, hd_Listener, po_Listener, sa_Listener⟩, no_Listener_on⟩
  have fc_Listener_rules : ∀ C, mg "Listener" = some (.ref C) → Cls K C ∧ NoAttr K C "rules" := fun C e => by cases g_Listener.symm.trans e; exact ⟨⟨pg_Listener, hd_Listener, po_Listener, sa_Listener⟩, no_Listener_rules⟩
  have fc_Listener_states : ∀ C, mg "Listener" = some (.ref C) → Cls K C ∧ NoAttr K C "states" := fun C e => by cases g_Listener.symm.trans e; exact ⟨⟨pg_Listener, hd_Listener, po_Listener, sa_Listener⟩, no_Listener_states⟩
  have fc_Reader_on : ∀ C, mg "Reader" = some (.ref C) → Cls K C ∧ NoAttr K C "on" := fun C e => by cases g_Reader.symm.trans e; exact ⟨⟨pg_Reader, hd_Reader, po_Reader, sa_Reader⟩, no_Reader_on⟩
  have fc_Reader_rules : ∀ C, mg "Reader" = some (.ref C) → Cls K C ∧ NoAttr K C "rules" := fun C e => by cases g_Reader.symm.trans e; exact ⟨⟨pg_Reader, hd_Reader, po_Reader, sa_Reader⟩, no_Reader_rules⟩
  have fc_Reader_states : ∀ C, mg "Reader" = some (.ref C) → Cls K C ∧ NoAttr K C "states" := fun C e => by cases g_Reader.symm.trans e; exact ⟨⟨pg_Reader, hd_Reader, po_Reader, sa_Reader⟩, no_Reader_states⟩
  have g_is_number := PySem.W.mg_of X G n_is_number
  have F_is_number := fun_mk (st := N_is_number.st) l_is_number c_d_is_number k_is_number
  have b_is_number := F_is_number.binds (ps := ["thing", "most"]) fun _ _ _ _ _ _ us hl => match us, hl with | [_, _], _ => rfl
  have g__is_part := PySem.W.mg_of X G n__is_part
  have F__is_part := fun_mk (st := N__is_part.st) l__is_part c_d__is_part k__is_part
  have b__is_part := F__is_part.binds (ps := ["thing", "words"]) fun _ _ _ _ _ _ us hl => match us, hl with | [_, _], _ => rfl
  have g__is_rule := PySem.W.mg_of X G n__is_rule
  have F__is_rule := fun_mk (st := N__is_rule.st) l__is_rule c_d__is_rule k__is_rule
  have b__is_rule := F__is_rule.binds (ps := ["thing", "states"]) fun _ _ _ _ _ _ us hl => match us, hl with | [_, _], _ => rfl
  have g__are_states := PySem.W.mg_of X G n__are_states
  have F__are_states := fun_mk (st := N__are_states.st) l__are_states c_d__are_states k__are_states
  have b__are_states := F__are_states.binds (ps := ["thing", "states"]) fun _ _ _ _ _ _ us hl => match us, hl with | [_, _], _ => rfl
  have g__is_listener := PySem.W.mg_of X G n__is_listener
  have F__is_listener := fun_mk (st := N__is_listener.st) l__is_listener c_d__is_listener k__is_listener
  have b__is_listener := F__is_listener.binds (ps := ["states", "on", "rules"]) fun _ _ _ _ _ _ us hl => match us, hl with | [_, _, _], _ => rfl
  have mk_Listener : Mk K a_Listener a_Listener___init__ := ⟨mk0_Listener, i_Listener___init__, f_n_Listener___init__, kc_Listener⟩
  have F_Listener___init__ := fun_mk (st := N_Listener___init__.st) l_Listener___init__ c_d_Listener___init__ k_Listener___init__
  have b_Listener___init__ := F_Listener___init__.binds (ps := ["self", "states", "on", "rules"]) fun _ _ _ _ _ _ us hl => match us, hl with | [_, _, _, _], _ => rfl
  have g__shown := PySem.W.mg_of X G n__shown
  have F__shown := fun_mk (st := N__shown.st) l__shown c_d__shown k__shown
  have b__shown := F__shown.binds (ps := ["part"]) fun _ _ _ _ _ _ us hl => match us, hl with | [_], _ => rfl
  have g_text_of := PySem.W.mg_of X G n_text_of
  have F_text_of := fun_mk (st := N_text_of.st) l_text_of c_d_text_of k_text_of
  have b_text_of := F_text_of.binds (ps := ["listener"]) fun _ _ _ _ _ _ us hl => match us, hl with | [_], _ => rfl
  have g__number := PySem.W.mg_of X G n__number
  have F__number := fun_mk (st := N__number.st) l__number c_d__number k__number
  have b__number := F__number.binds (ps := ["word"]) fun _ _ _ _ _ _ us hl => match us, hl with | [_], _ => rfl
  have g__numbers := PySem.W.mg_of X G n__numbers
  have F__numbers := fun_mk (st := N__numbers.st) l__numbers c_d__numbers k__numbers
  have b__numbers := F__numbers.binds (ps := ["words"]) fun _ _ _ _ _ _ us hl => match us, hl with | [_], _ => rfl
  have g__word := PySem.W.mg_of X G n__word
  have F__word := fun_mk (st := N__word.st) l__word c_d__word k__word
  have b__word := F__word.binds (ps := ["word", "words"]) fun _ _ _ _ _ _ us hl => match us, hl with | [_, _], _ => rfl
  have g__flag := PySem.W.mg_of X G n__flag
  have F__flag := fun_mk (st := N__flag.st) l__flag c_d__flag k__flag
  have b__flag := F__flag.binds (ps := ["word"]) fun _ _ _ _ _ _ us hl => match us, hl with | [_], _ => rfl
  have g__source := PySem.W.mg_of X G n__source
  have F__source := fun_mk (st := N__source.st) l__source c_d__source k__source
  have b__source := F__source.binds (ps := ["word"]) fun _ _ _ _ _ _ us hl => match us, hl with | [_], _ => rfl
  have g__rule := PySem.W.mg_of X G n__rule
  have F__rule := fun_mk (st := N__rule.st) l__rule c_d__rule k__rule
  have b__rule := F__rule.binds (ps := ["words"]) fun _ _ _ _ _ _ us hl => match us, hl with | [_], _ => rfl
  have mk_Reader : Mk K a_Reader a_Reader___init__ := ⟨mk0_Reader, i_Reader___init__, f_n_Reader___init__, kc_Reader⟩
  have F_Reader___init__ := fun_mk (st := N_Reader___init__.st) l_Reader___init__ c_d_Reader___init__ k_Reader___init__
  have b_Reader___init__ := F_Reader___init__.binds (ps := ["self"]) fun _ _ _ _ _ _ us hl => match us, hl with | [_], _ => rfl
  have F_Reader_take := fun_mk (st := N_Reader_take.st) l_Reader_take c_d_Reader_take k_Reader_take
  have me_Reader_take : Meth K a_Reader "take" a_Reader_take := ⟨i_Reader_take, f_n_Reader_take, k_Reader_take⟩
  have b_Reader_take := F_Reader_take.binds (ps := ["self", "line"]) fun _ _ _ _ _ _ us hl => match us, hl with | [_, _], _ => rfl
  have g_read_listener := PySem.W.mg_of X G n_read_listener
  have F_read_listener := fun_mk (st := N_read_listener.st) l_read_listener c_d_read_listener k_read_listener
  have b_read_listener := F_read_listener.binds (ps := ["text"]) fun _ _ _ _ _ _ us hl => match us, hl with | [_], _ => rfl
  have g__law_cell := PySem.W.mg_of X G n__law_cell
  have F__law_cell := fun_mk (st := N__law_cell.st) l__law_cell c_d__law_cell k__law_cell
  have b__law_cell := F__law_cell.binds (ps := ["_law_script", "_law_k"]) fun _ _ _ _ _ _ us hl => match us, hl with | [_, _], _ => rfl
  have g__law_row := PySem.W.mg_of X G n__law_row
  have F__law_row := fun_mk (st := N__law_row.st) l__law_row c_d__law_row k__law_row
  have b__law_row := F__law_row.binds (ps := ["_law_script", "_law_first", "_law_last"]) fun _ _ _ _ _ _ us hl => match us, hl with | [_, _, _], _ => rfl
  have g__law_draw := PySem.W.mg_of X G n__law_draw
  have F__law_draw := fun_mk (st := N__law_draw.st) l__law_draw c_d__law_draw k__law_draw
  have b__law_draw := F__law_draw.binds (ps := ["_law_box", "_law_many"]) fun _ _ _ _ _ _ us hl => match us, hl with | [_, _], _ => rfl
  have g__law_kinds := PySem.W.mg_of X G n__law_kinds
  have F__law_kinds := fun_mk (st := N__law_kinds.st) l__law_kinds c_d__law_kinds k__law_kinds
  have b__law_kinds := F__law_kinds.binds (ps := []) fun _ _ _ _ _ _ us hl => match us, hl with | [], _ => rfl
  have g__law_rule := PySem.W.mg_of X G n__law_rule
  have F__law_rule := fun_mk (st := N__law_rule.st) l__law_rule c_d__law_rule k__law_rule
  have b__law_rule := F__law_rule.binds (ps := ["_law_box", "_law_states"]) fun _ _ _ _ _ _ us hl => match us, hl with | [_, _], _ => rfl
  have g__law_sample := PySem.W.mg_of X G n__law_sample
  have F__law_sample := fun_mk (st := N__law_sample.st) l__law_sample c_d__law_sample k__law_sample
  have b__law_sample := F__law_sample.binds (ps := ["_law_name"]) fun _ _ _ _ _ _ us hl => match us, hl with | [_], _ => rfl
  have g__law_listener := PySem.W.mg_of X G n__law_listener
  have F__law_listener := fun_mk (st := N__law_listener.st) l__law_listener c_d__law_listener k__law_listener
  have b__law_listener := F__law_listener.binds (ps := ["_law_box", "_law_most"]) fun _ _ _ _ _ _ us hl => match us, hl with | [_, _], _ => rfl
  have g__law_listening := PySem.W.mg_of X G n__law_listening
  have F__law_listening := fun_mk (st := N__law_listening.st) l__law_listening c_d__law_listening k__law_listening
  have b__law_listening := F__law_listening.binds (ps := ["_law_told_here"]) fun _ _ _ _ _ _ us hl => match us, hl with | [_], _ => rfl
  have g__law_word := PySem.W.mg_of X G n__law_word
  have F__law_word := fun_mk (st := N__law_word.st) l__law_word c_d__law_word k__law_word
  have b__law_word := F__law_word.binds (ps := ["_law_part_here"]) fun _ _ _ _ _ _ us hl => match us, hl with | [_], _ => rfl
  have g__law_text := PySem.W.mg_of X G n__law_text
  have F__law_text := fun_mk (st := N__law_text.st) l__law_text c_d__law_text k__law_text
  have b__law_text := F__law_text.binds (ps := ["_law_listener_here"]) fun _ _ _ _ _ _ us hl => match us, hl with | [_], _ => rfl
  have g__law_number := PySem.W.mg_of X G n__law_number
  have F__law_number := fun_mk (st := N__law_number.st) l__law_number c_d__law_number k__law_number
  have b__law_number := F__law_number.binds (ps := ["_law_word_here"]) fun _ _ _ _ _ _ us hl => match us, hl with | [_], _ => rfl
  have g__law_part := PySem.W.mg_of X G n__law_part
  have F__law_part := fun_mk (st := N__law_part.st) l__law_part c_d__law_part k__law_part
  have b__law_part := F__law_part.binds (ps := ["_law_word_here", "_law_k"]) fun _ _ _ _ _ _ us hl => match us, hl with | [_, _], _ => rfl
  have g__law_rule_of := PySem.W.mg_of X G n__law_rule_of
  have F__law_rule_of := fun_mk (st := N__law_rule_of.st) l__law_rule_of c_d__law_rule_of k__law_rule_of
  have b__law_rule_of := F__law_rule_of.binds (ps := ["_law_line_here"]) fun _ _ _ _ _ _ us hl => match us, hl with | [_], _ => rfl
  have g__law_line := PySem.W.mg_of X G n__law_line
  have F__law_line := fun_mk (st := N__law_line.st) l__law_line c_d__law_line k__law_line
  have b__law_line := F__law_line.binds (ps := ["_law_state", "_law_line_here"]) fun _ _ _ _ _ _ us hl => match us, hl with | [_, _], _ => rfl
  have g__law_due := PySem.W.mg_of X G n__law_due
  have F__law_due := fun_mk (st := N__law_due.st) l__law_due c_d__law_due k__law_due
  have b__law_due := F__law_due.binds (ps := ["_law_text_here"]) fun _ _ _ _ _ _ us hl => match us, hl with | [_], _ => rfl
  have g__law_told := PySem.W.mg_of X G n__law_told
  have F__law_told := fun_mk (st := N__law_told.st) l__law_told c_d__law_told k__law_told
  have b__law_told := F__law_told.binds (ps := ["_law_text_here"]) fun _ _ _ _ _ _ us hl => match us, hl with | [_], _ => rfl
  have g__law_changed := PySem.W.mg_of X G n__law_changed
  have F__law_changed := fun_mk (st := N__law_changed.st) l__law_changed c_d__law_changed k__law_changed
  have b__law_changed := F__law_changed.binds (ps := ["_law_box", "_law_text_here"]) fun _ _ _ _ _ _ us hl => match us, hl with | [_, _], _ => rfl
  have g_law := PySem.W.mg_of X G n_law
  have F_law := fun_mk (st := N_law.st) l_law c_d_law k_law
  have b_law := F_law.binds (ps := ["_law_script"]) fun _ _ _ _ _ _ us hl => match us, hl with | [_], _ => rfl
  have e := hfa.symm.trans g_law
  cases e
  refine ⟨PySem.W.fnOf "law" "law" (defArgs N_law.st) (defBody N_law.st) (defScope N_law.st) .none kV_law dc_law pm_law an_law cd_law ct_law, fun s v => .of_eq rfl, fun base _ _ => ?_⟩
  have D_is_number := d_is_number (P := P) (w := w) (mg := mg) (base := base) (eC := eC) F_is_number b_is_number nb
  have D__is_part := d__is_part (P := P) (w := w) (mg := mg) (base := base) (eC := eC) F__is_part b__is_part nb
  have D__is_rule := d__is_rule (P := P) (w := w) (mg := mg) (base := base) (eC := eC) F__is_rule b__is_rule nb g_KINDS g_SIDES g_RELATED g_is_number D_is_number g__is_part D__is_part
  have D__are_states := d__are_states (P := P) (w := w) (mg := mg) (base := base) (eC := eC) F__are_states b__are_states nb g_is_number D_is_number
  have D__is_listener := d__is_listener (P := P) (w := w) (mg := mg) (base := base) (eC := eC) F__is_listener b__is_listener nb g_MOST_STATES g_MOST_RULES g_is_number D_is_number g__are_states D__are_states g__is_rule D__is_rule
  have D_Listener___init__ := d_Listener___init__ (P := P) (w := w) (mg := mg) (base := base) (eC := eC) F_Listener___init__ b_Listener___init__ nb dg fc_Listener_on fc_Listener_rules fc_Listener_states g__is_listener D__is_listener
  have D__shown := d__shown (P := P) (w := w) (mg := mg) (base := base) (eC := eC) F__shown b__shown nb
  have D_text_of := d_text_of (P := P) (w := w) (mg := mg) (base := base) (eC := eC) F_text_of b_text_of nb fc_Listener_on fc_Listener_rules fc_Listener_states g__shown D__shown
  have D__number := d__number (P := P) (w := w) (mg := mg) (base := base) (eC := eC) F__number b__number nb
  have D__numbers := d__numbers (P := P) (w := w) (mg := mg) (base := base) (eC := eC) F__numbers b__numbers g__number D__number
  have D__word := d__word (P := P) (w := w) (mg := mg) (base := base) (eC := eC) F__word b__word 
  have D__flag := d__flag (P := P) (w := w) (mg := mg) (base := base) (eC := eC) F__flag b__flag g_FLAGS h_FLAGS
  have D__source := d__source (P := P) (w := w) (mg := mg) (base := base) (eC := eC) F__source b__source g__number D__number
  have D__rule := d__rule (P := P) (w := w) (mg := mg) (base := base) (eC := eC) F__rule b__rule nb g_KINDS g_SIDES g_RELATED g__number D__number g__source D__source g__word D__word g__flag D__flag
  have D_Reader___init__ := d_Reader___init__ (P := P) (w := w) (mg := mg) (base := base) (eC := eC) F_Reader___init__ b_Reader___init__ fc_Reader_on fc_Reader_rules fc_Reader_states
  have D_Reader_take := d_Reader_take (P := P) (w := w) (mg := mg) (base := base) (eC := eC) F_Reader_take b_Reader_take nb fc_Reader_on fc_Reader_rules fc_Reader_states g__number D__number g__numbers D__numbers g__rule D__rule
  have D_read_listener := d_read_listener (P := P) (w := w) (mg := mg) (base := base) (eC := eC) F_read_listener b_read_listener nb dg fc_Reader_on fc_Reader_rules fc_Reader_states g_Listener g_Reader cl_Reader mk_Reader D_Reader___init__ me_Reader_take D_Reader_take mk_Listener D_Listener___init__
  have D__law_cell := d__law_cell (P := P) (w := w) (mg := mg) (base := base) (eC := eC) F__law_cell b__law_cell nb
  have D__law_row := d__law_row (P := P) (w := w) (mg := mg) (base := base) (eC := eC) F__law_row b__law_row nb g__law_cell D__law_cell
  have D__law_draw := d__law_draw (P := P) (w := w) (mg := mg) (base := base) (eC := eC) F__law_draw b__law_draw nb
  have D__law_kinds := d__law_kinds (P := P) (w := w) (mg := mg) (base := base) (eC := eC) F__law_kinds b__law_kinds 
  have D__law_rule := d__law_rule (P := P) (w := w) (mg := mg) (base := base) (eC := eC) F__law_rule b__law_rule nb g__law_draw D__law_draw g__law_kinds D__law_kinds
  have D__law_sample := d__law_sample (P := P) (w := w) (mg := mg) (base := base) (eC := eC) F__law_sample b__law_sample nb
  have D__law_listener := d__law_listener (P := P) (w := w) (mg := mg) (base := base) (eC := eC) F__law_listener b__law_listener nb g__law_draw D__law_draw g__law_sample D__law_sample g__law_rule D__law_rule
  have D__law_listening := d__law_listening (P := P) (w := w) (mg := mg) (base := base) (eC := eC) F__law_listening b__law_listening nb g_Listener mk_Listener D_Listener___init__
  have D__law_word := d__law_word (P := P) (w := w) (mg := mg) (base := base) (eC := eC) F__law_word b__law_word nb
  have D__law_text := d__law_text (P := P) (w := w) (mg := mg) (base := base) (eC := eC) F__law_text b__law_text nb g__law_word D__law_word
  have D__law_number := d__law_number (P := P) (w := w) (mg := mg) (base := base) (eC := eC) F__law_number b__law_number nb
  have D__law_part := d__law_part (P := P) (w := w) (mg := mg) (base := base) (eC := eC) F__law_part b__law_part nb g__law_number D__law_number g__law_kinds D__law_kinds
  have D__law_rule_of := d__law_rule_of (P := P) (w := w) (mg := mg) (base := base) (eC := eC) F__law_rule_of b__law_rule_of nb g__law_number D__law_number g__law_part D__law_part
  have D__law_line := d__law_line (P := P) (w := w) (mg := mg) (base := base) (eC := eC) F__law_line b__law_line nb g__law_number D__law_number g__law_rule_of D__law_rule_of
  have D__law_due := d__law_due (P := P) (w := w) (mg := mg) (base := base) (eC := eC) F__law_due b__law_due nb dg g_Listener g__law_line D__law_line mk_Listener D_Listener___init__
  have D__law_told := d__law_told (P := P) (w := w) (mg := mg) (base := base) (eC := eC) F__law_told b__law_told dg fc_Listener_on fc_Listener_rules fc_Listener_states g_read_listener D_read_listener
  have D__law_changed := d__law_changed (P := P) (w := w) (mg := mg) (base := base) (eC := eC) F__law_changed b__law_changed nb g__law_draw D__law_draw
  have D_law := d_law (P := P) (w := w) (mg := mg) (base := base) (eC := eC) F_law b_law nb g__law_row D__law_row g__law_listener D__law_listener g__law_text D__law_text g_text_of D_text_of g__law_listening D__law_listening g__law_told D__law_told g__law_changed D__law_changed g__law_due D__law_due g__law_draw D__law_draw
  exact fnOk_law D_law hl
end G
end VS
set_option Elab.async false
set_option maxRecDepth 100000
open PySem PySem.W PyProof.Rows
set_option maxRecDepth 100000 in
set_option maxHeartbeats 0 in
theorem PySem.Challenge.cw_dragtold_k19_texts_holds : PySem.Challenge.rw_dragtold_k19_texts.Holds := by
  w_on; o_law; k_head; (case hw => w_witness2)
  k_fill
  refine VS.walkV (l := PySem.Challenge.rw_dragtold_k19_texts) (n := 63) (k := 8) (x := "_law_script") rfl (by decide) rfl ⟨rfl, by decide, by decide⟩ (fun w h Y => PySem.W.kIn_of Y) ?F
  case F =>
    intro w mg fa h KX G hmg
    refine' VS.G.law_mk KX G hmg ?z_isinstance ?z_len ?z_abs ?z_int ?z_tuple ?z_list ?z_all ?z_any ?z_sorted ?z_sum ?z_bool ?z_str ?z_range ?z_zip ?z_enumerate ?n_FLAGS ?l_FLAGS ?kl_FLAGS ?nk_FLAGS_0 ?nk_FLAGS_1 ?sy_FLAGS ?kf_FLAGS ?n_KINDS ?l_KINDS ?n_MOST_RULES ?n_MOST_STATES ?n_RELATED ?l_RELATED ?n_SIDES ?l_SIDES ?dtop ?daC ?daS ?dop ?dxL ?dve ?dsa ?dga ?dgg ?dnN ?diC ?dtC ?dkC ?dex ?dty ?dhd ?dic ?dsc ?dlf ?dcd ?dcda_ ?dvs_ ?dfi ?dcc_ ?n_Listener ?pg_Listener ?hd_Listener ?po_Listener ?sa_Listener ?mk0_Listener ?kc_Listener ?n_Reader ?pg_Reader ?hd_Reader ?po_Reader ?sa_Reader ?mk0_Reader ?kc_Reader ?no_Listener_on ?no_Listener_rules ?no_Listener_states ?no_Reader_on ?no_Reader_rules ?no_Reader_states ?n_is_number ?l_is_number ?c_d_is_number ?k_is_number ?n__is_part ?l__is_part ?c_d__is_part ?k__is_part ?n__is_rule ?l__is_rule ?c_d__is_rule ?k__is_rule ?n__are_states ?l__are_states ?c_d__are_states ?k__are_states ?n__is_listener ?l__is_listener ?c_d__is_listener ?k__is_listener ?i_Listener___init__ ?f_n_Listener___init__ ?l_Listener___init__ ?c_d_Listener___init__ ?k_Listener___init__ ?n__shown ?l__shown ?c_d__shown ?k__shown ?n_text_of ?l_text_of ?c_d_text_of ?k_text_of ?n__number ?l__number ?c_d__number ?k__number ?n__numbers ?l__numbers ?c_d__numbers ?k__numbers ?n__word ?l__word ?c_d__word ?k__word ?n__flag ?l__flag ?c_d__flag ?k__flag ?n__source ?l__source ?c_d__source ?k__source ?n__rule ?l__rule ?c_d__rule ?k__rule ?i_Reader___init__ ?f_n_Reader___init__ ?l_Reader___init__ ?c_d_Reader___init__ ?k_Reader___init__ ?i_Reader_take ?f_n_Reader_take ?l_Reader_take ?c_d_Reader_take ?k_Reader_take ?n_read_listener ?l_read_listener ?c_d_read_listener ?k_read_listener ?n__law_cell ?l__law_cell ?c_d__law_cell ?k__law_cell ?n__law_row ?l__law_row ?c_d__law_row ?k__law_row ?n__law_draw ?l__law_draw ?c_d__law_draw ?k__law_draw ?n__law_kinds ?l__law_kinds ?c_d__law_kinds ?k__law_kinds ?n__law_rule ?l__law_rule ?c_d__law_rule ?k__law_rule ?n__law_sample ?l__law_sample ?c_d__law_sample ?k__law_sample ?n__law_listener ?l__law_listener ?c_d__law_listener ?k__law_listener ?n__law_listening ?l__law_listening ?c_d__law_listening ?k__law_listening ?n__law_word ?l__law_word ?c_d__law_word ?k__law_word ?n__law_text ?l__law_text ?c_d__law_text ?k__law_text ?n__law_number ?l__law_number ?c_d__law_number ?k__law_number ?n__law_part ?l__law_part ?c_d__law_part ?k__law_part ?n__law_rule_of ?l__law_rule_of ?c_d__law_rule_of ?k__law_rule_of ?n__law_line ?l__law_line ?c_d__law_line ?k__law_line ?n__law_due ?l__law_due ?c_d__law_due ?k__law_due ?n__law_told ?l__law_told ?c_d__law_told ?k__law_told ?n__law_changed ?l__law_changed ?c_d__law_changed ?k__law_changed ?n_law ?l_law ?c_d_law ?k_law ?zplain
    (case z_isinstance => k_is)
    (case z_len => k_is)
    (case z_abs => k_is)
    (case z_int => k_is)
    (case z_tuple => k_is)
    (case z_list => k_is)
    (case z_all => k_is)
    (case z_any => k_is)
    (case z_sorted => k_is)
    (case z_sum => k_is)
    (case z_bool => k_is)
    (case z_str => k_is)
    (case z_range => k_is)
    (case z_zip => k_is)
    (case z_enumerate => k_is)
    (case n_FLAGS => k_is)
    (case l_FLAGS => k_is)
    (case kl_FLAGS => first | k_is | (refine ?_; repeat (first | exact trivial | refine ⟨⟨_, _, rfl, rfl⟩, ?_⟩)))
    (case nk_FLAGS_0 => k_is)
    (case nk_FLAGS_1 => k_is)
    (case sy_FLAGS => first | rfl | k_is | decide +kernel)
    (case kf_FLAGS => exact fun z => VS.kf_two)
    (case n_KINDS => k_is)
    (case l_KINDS => k_is)
    (case n_MOST_RULES => k_is)
    (case n_MOST_STATES => k_is)
    (case n_RELATED => k_is)
    (case l_RELATED => k_is)
    (case n_SIDES => k_is)
    (case l_SIDES => k_is)
    (case dtop => first | rfl | k_is | decide +kernel)
    (case daC => k_is)
    (case daS => k_is)
    (case dop => k_is)
    (case dxL => k_is)
    (case dve => k_is)
    (case dsa => k_is)
    (case dga => k_is)
    (case dgg => k_is)
    (case dnN => k_is)
    (case diC => k_is)
    (case dtC => k_is)
    (case dkC => k_is)
    (case dex => k_is)
    (case dty => k_is)
    (case dhd => k_is)
    (case dic => k_is)
    (case dsc => k_is)
    (case dlf => k_is)
    (case dcd => k_is)
    (case dcda_ => k_is)
    (case dvs_ => first | rfl | k_is | decide +kernel)
    (case dfi => first | rfl | k_is | decide +kernel)
    (case dcc_ => k_is)
    (case n_Listener => k_is)
    (case pg_Listener => k_is)
    (case hd_Listener => k_is)
    (case po_Listener => k_is)
    (case sa_Listener => k_is)
    (case mk0_Listener => k_is)
    (case kc_Listener => k_is)
    (case n_Reader => k_is)
    (case pg_Reader => k_is)
    (case hd_Reader => k_is)
    (case po_Reader => k_is)
    (case sa_Reader => k_is)
    (case mk0_Reader => k_is)
    (case kc_Reader => k_is)
    (case no_Listener_on => k_is)
    (case no_Listener_rules => k_is)
    (case no_Listener_states => k_is)
    (case no_Reader_on => k_is)
    (case no_Reader_rules => k_is)
    (case no_Reader_states => k_is)
    (case n_is_number => k_is)
    (case l_is_number => k_is)
    (case c_d_is_number => k_is)
    (case k_is_number => k_is)
    (case n__is_part => k_is)
    (case l__is_part => k_is)
    (case c_d__is_part => k_is)
    (case k__is_part => k_is)
    (case n__is_rule => k_is)
    (case l__is_rule => k_is)
    (case c_d__is_rule => k_is)
    (case k__is_rule => k_is)
    (case n__are_states => k_is)
    (case l__are_states => k_is)
    (case c_d__are_states => k_is)
    (case k__are_states => k_is)
    (case n__is_listener => k_is)
    (case l__is_listener => k_is)
    (case c_d__is_listener => k_is)
    (case k__is_listener => k_is)
    (case i_Listener___init__ => k_is)
    (case f_n_Listener___init__ => k_is)
    (case l_Listener___init__ => k_is)
    (case c_d_Listener___init__ => k_is)
    (case k_Listener___init__ => k_is)
    (case n__shown => k_is)
    (case l__shown => k_is)
    (case c_d__shown => k_is)
    (case k__shown => k_is)
    (case n_text_of => k_is)
    (case l_text_of => k_is)
    (case c_d_text_of => k_is)
    (case k_text_of => k_is)
    (case n__number => k_is)
    (case l__number => k_is)
    (case c_d__number => k_is)
    (case k__number => k_is)
    (case n__numbers => k_is)
    (case l__numbers => k_is)
    (case c_d__numbers => k_is)
    (case k__numbers => k_is)
    (case n__word => k_is)
    (case l__word => k_is)
    (case c_d__word => k_is)
    (case k__word => k_is)
    (case n__flag => k_is)
    (case l__flag => k_is)
    (case c_d__flag => k_is)
    (case k__flag => k_is)
    (case n__source => k_is)
    (case l__source => k_is)
    (case c_d__source => k_is)
    (case k__source => k_is)
    (case n__rule => k_is)
    (case l__rule => k_is)
    (case c_d__rule => k_is)
    (case k__rule => k_is)
    (case i_Reader___init__ => k_is)
    (case f_n_Reader___init__ => k_is)
    (case l_Reader___init__ => k_is)
    (case c_d_Reader___init__ => k_is)
    (case k_Reader___init__ => k_is)
    (case i_Reader_take => k_is)
    (case f_n_Reader_take => k_is)
    (case l_Reader_take => k_is)
    (case c_d_Reader_take => k_is)
    (case k_Reader_take => k_is)
    (case n_read_listener => k_is)
    (case l_read_listener => k_is)
    (case c_d_read_listener => k_is)
    (case k_read_listener => k_is)
    (case n__law_cell => k_is)
    (case l__law_cell => k_is)
    (case c_d__law_cell => k_is)
    (case k__law_cell => k_is)
    (case n__law_row => k_is)
    (case l__law_row => k_is)
    (case c_d__law_row => k_is)
    (case k__law_row => k_is)
    (case n__law_draw => k_is)
    (case l__law_draw => k_is)
    (case c_d__law_draw => k_is)
    (case k__law_draw => k_is)
    (case n__law_kinds => k_is)
    (case l__law_kinds => k_is)
    (case c_d__law_kinds => k_is)
    (case k__law_kinds => k_is)
    (case n__law_rule => k_is)
    (case l__law_rule => k_is)
    (case c_d__law_rule => k_is)
    (case k__law_rule => k_is)
    (case n__law_sample => k_is)
    (case l__law_sample => k_is)
    (case c_d__law_sample => k_is)
    (case k__law_sample => k_is)
    (case n__law_listener => k_is)
    (case l__law_listener => k_is)
    (case c_d__law_listener => k_is)
    (case k__law_listener => k_is)
    (case n__law_listening => k_is)
    (case l__law_listening => k_is)
    (case c_d__law_listening => k_is)
    (case k__law_listening => k_is)
    (case n__law_word => k_is)
    (case l__law_word => k_is)
    (case c_d__law_word => k_is)
    (case k__law_word => k_is)
    (case n__law_text => k_is)
    (case l__law_text => k_is)
    (case c_d__law_text => k_is)
    (case k__law_text => k_is)
    (case n__law_number => k_is)
    (case l__law_number => k_is)
    (case c_d__law_number => k_is)
    (case k__law_number => k_is)
    (case n__law_part => k_is)
    (case l__law_part => k_is)
    (case c_d__law_part => k_is)
    (case k__law_part => k_is)
    (case n__law_rule_of => k_is)
    (case l__law_rule_of => k_is)
    (case c_d__law_rule_of => k_is)
    (case k__law_rule_of => k_is)
    (case n__law_line => k_is)
    (case l__law_line => k_is)
    (case c_d__law_line => k_is)
    (case k__law_line => k_is)
    (case n__law_due => k_is)
    (case l__law_due => k_is)
    (case c_d__law_due => k_is)
    (case k__law_due => k_is)
    (case n__law_told => k_is)
    (case l__law_told => k_is)
    (case c_d__law_told => k_is)
    (case k__law_told => k_is)
    (case n__law_changed => k_is)
    (case l__law_changed => k_is)
    (case c_d__law_changed => k_is)
    (case k__law_changed => k_is)
    (case n_law => k_is)
    (case l_law => k_is)
    (case c_d_law => k_is)
    (case k_law => k_is)
    case zplain =>
      intro ns hn
      obtain ⟨d, es, e, rfl⟩ := VS.G.law_ok hn
      exact ⟨es, e⟩
