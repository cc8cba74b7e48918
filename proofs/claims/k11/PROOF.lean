import PyProof.Rows.All
import Wide.All
import OpenK.AllK
import Wide.FinOn
import HandS.ForMost
import HandS.ForExc
import HandS.Wide
import HandS.IsInst
import HandS.Style
import HandS.TupAny
import HandS.TupMul
import HandS.RaiseMore
import HandS.Defaults
import HandS.EndBits
import HandS.ExcOwn
import KE.GoesMore
import HandS.Strs
import HandS.ExcInit
import KE.KExcSuper
import HandS.ExcField
import HandS.Text
import HandS.Zip
import HandS.TryOnly
import HandS.FStr
import PyProof.StrOps2
import KE.KIntText
import KE.GoesEnum
import HandS.More
import HandS.ReplaceLit
import HandS.Iter
import PySem.Challenge.RW_legpairs_k11_wrong_texts_of_steps
import PyProof.ReprLen
set_option Elab.async false
set_option linter.all false
set_option maxRecDepth 100000
set_option maxHeartbeats 4000000
namespace G
open PySem PySem.Spec PyProof.Rows L2

inductive D where
  | top
  | drw (c l : List Int) (k : Int)
  | non | bl (b : Bool) | int (i : Int) | str (s : Str) | ty (n : String)
  | tup (ds : List D)
  | sq (ds : List D)
  | lst (o : Bool) (ds : List D)
  | dk (o : Bool) (ks : List Key) (ds : List D)
  | dt (o : Bool) (ks : List (List Key)) (ds : List D)
  | exc (a d : Addr) (ks : List Str) (ds : List D)
  deriving Inhabited

abbrev FS := Addr → Prop
abbrev noF : FS := fun _ => False
abbrev noT : Nat → FS := fun _ _ => False
/-- the parts T of a node at a lie within S, apart from a and from each other -/
def Parts (S : FS) (a : Addr) (T : Nat → FS) : Prop := (∀ i b, T i b → S b ∧ b ≠ a) ∧ ∀ i j b, T i b → T j b → i = j

section
variable (K : PySem.W.Frag) (B H : Hp)
mutual
def Rep : D → V → FS → Prop
  | .top, _, _ => True
  | .drw c l k, v, S => ∃ a p r, v = .ref a ∧ S a ∧ S p ∧ S r ∧ a ≠ p ∧ a ≠ r ∧ p ≠ r ∧ H a = some (.dK [(.inr "cells", .ref p), (.inr "left", .ref r), (.inr "at", .int k)]) ∧ H p = some (.lst (c.map V.int)) ∧ H r = some (.lst (l.map V.int))
  | .non, v, _ => v = .non
  | .bl b, v, _ => v = .bl b
  | .int i, v, _ => v = .int i
  | .str s, v, _ => v = .str s
  | .ty n, v, _ => v = .ty n
  | .tup ds, v, _ => ∃ a xs, v = .ref a ∧ SqT K B a xs ∧ Reps ds xs noT
  | .sq ds, v, _ => ∃ a xs, v = .ref a ∧ SqL K B a xs ∧ Reps ds xs noT
  | .lst false ds, v, _ => ∃ a xs, v = .ref a ∧ B a = some (.lst xs) ∧ Reps ds xs noT
  | .lst true ds, v, S => ∃ a xs T, v = .ref a ∧ S a ∧ H a = some (.lst xs) ∧ Parts S a T ∧ Reps ds xs T
  | .dk false ks ds, v, _ => ∃ a kvs, v = .ref a ∧ B a = some (.dK kvs) ∧ kvs.map Prod.fst = ks ∧ Reps ds (kvs.map Prod.snd) noT
  | .dk true ks ds, v, S => ∃ a kvs T, v = .ref a ∧ S a ∧ H a = some (.dK kvs) ∧ kvs.map Prod.fst = ks ∧ Parts S a T ∧ Reps ds (kvs.map Prod.snd) T
  | .dt false ks ds, v, _ => ∃ a kvs, v = .ref a ∧ B a = some (.dT kvs) ∧ kvs.map Prod.fst = ks ∧ Reps ds (kvs.map Prod.snd) noT
  | .dt true ks ds, v, S => ∃ a kvs T, v = .ref a ∧ S a ∧ H a = some (.dT kvs) ∧ kvs.map Prod.fst = ks ∧ Parts S a T ∧ Reps ds (kvs.map Prod.snd) T
  | .exc a d ks ds, v, _ => ∃ fs : List (Str × V), v = .ref a ∧ B d = some (.xd fs) ∧ fs.map Prod.fst = ks ∧ Reps ds (fs.map Prod.snd) noT
def Reps : List D → List V → (Nat → FS) → Prop
  | [], xs, _ => xs = []
  | d :: ds, xs, T => ∃ x xs', xs = x :: xs' ∧ Rep d x (T 0) ∧ Reps ds xs' (fun n => T (n + 1))
end
end

theorem rd_mono {B B' : Hp} (h : Same B B') {a : Addr} {u : HO} (r : Rd B a u) : Rd B' a u := by
  rcases r with r | ⟨o, r⟩
  · exact .inl (h _ _ r)
  · exact .inr ⟨o, h _ _ r⟩
theorem sqT_mono {K : PySem.W.Frag} {B B' : Hp} (h : Same B B') {a : Addr} {xs : List V} (r : SqT K B a xs) : SqT K B' a xs := r.imp (rd_mono h) id
theorem sqL_mono {K : PySem.W.Frag} {B B' : Hp} (h : Same B B') {a : Addr} {xs : List V} (r : SqL K B a xs) : SqL K B' a xs := r.imp (rd_mono h) id

section
variable {K : PySem.W.Frag} {B B' H H' : Hp}
mutual
theorem Rep.mono (hb : Same B B') : ∀ (d : D) {v : V} {S S' : FS}, (∀ a, S a → H' a = H a) → (∀ a, S a → S' a) → Rep K B H d v S → Rep K B' H' d v S'
  | .top, _, _, _, _, _, h => h
  | .drw c l k, _, _, _, hs, hS, ⟨a, p, r, e, sa, sp, sr, n1, n2, n3, ha, hp, hr⟩ => ⟨a, p, r, e, hS a sa, hS p sp, hS r sr, n1, n2, n3, by rw [hs a sa]; exact ha, by rw [hs p sp]; exact hp, by rw [hs r sr]; exact hr⟩
  | .non, _, _, _, _, _, h => h
  | .bl _, _, _, _, _, _, h => h
  | .int _, _, _, _, _, _, h => h
  | .str _, _, _, _, _, _, h => h
  | .ty _, _, _, _, _, _, h => h
  | .tup ds, _, _, _, hs, hS, ⟨a, xs, e, q, r⟩ => ⟨a, xs, e, sqT_mono hb q, Reps.mono hb ds (fun _ _ z => z.elim) (fun _ _ z => z) r⟩
  | .sq ds, _, _, _, hs, hS, ⟨a, xs, e, q, r⟩ => ⟨a, xs, e, sqL_mono hb q, Reps.mono hb ds (fun _ _ z => z.elim) (fun _ _ z => z) r⟩
  | .lst false ds, _, _, _, hs, hS, ⟨a, xs, e, q, r⟩ => ⟨a, xs, e, hb _ _ q, Reps.mono hb ds (fun _ _ z => z.elim) (fun _ _ z => z) r⟩
  | .lst true ds, _, _, _, hs, hS, ⟨a, xs, T, e, sa, q, p, r⟩ =>
    ⟨a, xs, T, e, hS a sa, by rw [hs a sa]; exact q, ⟨fun i b t => ⟨hS b (p.1 i b t).1, (p.1 i b t).2⟩, p.2⟩, Reps.mono hb ds (fun i b t => hs b (p.1 i b t).1) (fun _ _ z => z) r⟩
  | .dk false ks ds, _, _, _, hs, hS, ⟨a, xs, e, q, k, r⟩ => ⟨a, xs, e, hb _ _ q, k, Reps.mono hb ds (fun _ _ z => z.elim) (fun _ _ z => z) r⟩
  | .dk true ks ds, _, _, _, hs, hS, ⟨a, xs, T, e, sa, q, k, p, r⟩ =>
    ⟨a, xs, T, e, hS a sa, by rw [hs a sa]; exact q, k, ⟨fun i b t => ⟨hS b (p.1 i b t).1, (p.1 i b t).2⟩, p.2⟩, Reps.mono hb ds (fun i b t => hs b (p.1 i b t).1) (fun _ _ z => z) r⟩
  | .dt false ks ds, _, _, _, hs, hS, ⟨a, xs, e, q, k, r⟩ => ⟨a, xs, e, hb _ _ q, k, Reps.mono hb ds (fun _ _ z => z.elim) (fun _ _ z => z) r⟩
  | .dt true ks ds, _, _, _, hs, hS, ⟨a, xs, T, e, sa, q, k, p, r⟩ =>
    ⟨a, xs, T, e, hS a sa, by rw [hs a sa]; exact q, k, ⟨fun i b t => ⟨hS b (p.1 i b t).1, (p.1 i b t).2⟩, p.2⟩, Reps.mono hb ds (fun i b t => hs b (p.1 i b t).1) (fun _ _ z => z) r⟩
  | .exc a d ks ds, _, _, _, hs, hS, ⟨fs, e, q, k, r⟩ => ⟨fs, e, hb _ _ q, k, Reps.mono hb ds (fun _ _ z => z.elim) (fun _ _ z => z) r⟩
theorem Reps.mono (hb : Same B B') : ∀ (ds : List D) {xs : List V} {T T' : Nat → FS}, (∀ i a, T i a → H' a = H a) → (∀ i a, T i a → T' i a) → Reps K B H ds xs T → Reps K B' H' ds xs T'
  | [], _, _, _, _, _, h => h
  | d :: ds, _, _, _, hs, hT, ⟨x, xs', e, r, rs⟩ => ⟨x, xs', e, Rep.mono hb d (hs 0) (hT 0) r, Reps.mono hb ds (fun i => hs (i + 1)) (fun i => hT (i + 1)) rs⟩
end
/-- frozen data lies in B alone -/
abbrev RepF (K : PySem.W.Frag) (B : Hp) (d : D) (v : V) : Prop := Rep K B (fun _ => none) d v noF
abbrev RepsF (K : PySem.W.Frag) (B : Hp) (ds : List D) (xs : List V) : Prop := Reps K B (fun _ => none) ds xs noT
theorem RepF.of {d : D} {v : V} (h : Rep K B H d v noF) : RepF K B d v := Rep.mono (fun _ _ e => e) d (fun _ z => z.elim) (fun _ z => z) h
theorem RepF.to {d : D} {v : V} {S : FS} (h : RepF K B d v) : Rep K B H d v S := Rep.mono (fun _ _ e => e) d (fun _ z => z.elim) (fun _ z => z.elim) h
theorem RepsF.of {ds : List D} {xs : List V} (h : Reps K B H ds xs noT) : RepsF K B ds xs := Reps.mono (fun _ _ e => e) ds (fun _ _ z => z.elim) (fun _ _ z => z) h
theorem RepsF.to {ds : List D} {xs : List V} {T : Nat → FS} (h : RepsF K B ds xs) : Reps K B H ds xs T := Reps.mono (fun _ _ e => e) ds (fun _ _ z => z.elim) (fun _ _ z => z.elim) h
theorem RepF.mono (hb : Same B B') {d : D} {v : V} (h : RepF K B d v) : RepF K B' d v := Rep.mono hb d (fun _ z => z.elim) (fun _ z => z) h
theorem RepsF.mono (hb : Same B B') {ds : List D} {xs : List V} (h : RepsF K B ds xs) : RepsF K B' ds xs := Reps.mono hb ds (fun _ _ z => z.elim) (fun _ _ z => z) h
theorem Reps.length : ∀ {ds : List D} {xs : List V} {T : Nat → FS}, Reps K B H ds xs T → xs.length = ds.length
  | [], _, _, h => by rw [show _ = [] from h]; rfl
  | d :: ds, _, _, ⟨x, xs', e, _, rs⟩ => by rw [e, List.length_cons, List.length_cons, rs.length]
theorem Reps.get : ∀ {ds : List D} {xs : List V} {T : Nat → FS} {i : Nat} {d : D}, Reps K B H ds xs T → ds[i]? = some d → ∃ x, xs[i]? = some x ∧ Rep K B H d x (T i)
  | [], _, _, _, _, _, e => by simp at e
  | d :: ds, _, _, 0, _, ⟨x, xs', e, r, rs⟩, h => by
    simp at h; subst h; exact ⟨x, by rw [e]; rfl, r⟩
  | d :: ds, _, T, i + 1, d', ⟨x, xs', e, r, rs⟩, h => by
    obtain ⟨y, h1, h2⟩ := Reps.get (i := i) (d := d') rs (by simpa using h)
    exact ⟨y, by rw [e]; simpa using h1, h2⟩
theorem Reps.getV : ∀ {ds : List D} {xs : List V} {T : Nat → FS} {i : Nat} {x : V}, Reps K B H ds xs T → xs[i]? = some x → ∃ d, ds[i]? = some d ∧ Rep K B H d x (T i) := fun {ds xs T i x} r h => by
  have hl := r.length
  have hi : i < xs.length := by
    rcases Nat.lt_or_ge i xs.length with q | q
    · exact q
    · rw [List.getElem?_eq_none q] at h; cases h
  have hd : ds[i]? = some (ds[i]'(by omega)) := List.getElem?_eq_getElem (by omega)
  obtain ⟨y, h1, h2⟩ := r.get hd
  rw [h] at h1; cases h1
  exact ⟨_, hd, h2⟩
theorem RepsF.nil : RepsF K B [] [] := rfl
theorem RepsF.cons {d : D} {ds : List D} {x : V} {xs : List V} (h : RepF K B d x) (hs : RepsF K B ds xs) : RepsF K B (d :: ds) (x :: xs) := ⟨x, xs, rfl, h, hs⟩
theorem RepsF.append : ∀ {ds ds' : List D} {xs xs' : List V}, RepsF K B ds xs → RepsF K B ds' xs' → RepsF K B (ds ++ ds') (xs ++ xs')
  | [], _, _, _, h, h' => by
    rw [show _ = [] from h]; exact h'
  | d :: ds, _, _, _, ⟨x, xs', e, r, rs⟩, h' => by
    rw [e]; exact ⟨x, _, rfl, r, RepsF.append rs h'⟩
theorem RepsF.take : ∀ (n : Nat) {ds : List D} {xs : List V}, RepsF K B ds xs → RepsF K B (ds.take n) (xs.take n)
  | 0, _, _, _ => by simpa using RepsF.nil
  | n + 1, [], _, h => by rw [show _ = [] from h]; exact RepsF.nil
  | n + 1, d :: ds, _, ⟨x, xs', e, r, rs⟩ => by rw [e]; exact ⟨x, _, rfl, r, RepsF.take n rs⟩
theorem RepsF.drop : ∀ (n : Nat) {ds : List D} {xs : List V}, RepsF K B ds xs → RepsF K B (ds.drop n) (xs.drop n)
  | 0, _, _, h => h
  | n + 1, [], _, h => by rw [show _ = [] from h]; exact RepsF.nil
  | n + 1, d :: ds, _, ⟨x, xs', e, r, rs⟩ => by rw [e]; exact RepsF.drop n rs
end

mutual
def fz : D → D
  | .drw _ _ _ => .top
  | .lst _ ds => .lst false (fzs ds)
  | .dk _ ks ds => .dk false ks (fzs ds)
  | .dt _ ks ds => .dt false ks (fzs ds)
  | d => d
def fzs : List D → List D
  | [] => []
  | d :: ds => fz d :: fzs ds
end
mutual
/-- nothing owned within -/
def isF : D → Bool
  | .drw _ _ _ => false
  | .lst o ds => !o && isFs ds
  | .dk o _ ds => !o && isFs ds
  | .dt o _ ds => !o && isFs ds
  | _ => true
def isFs : List D → Bool
  | [] => true
  | d :: ds => isF d && isFs ds
end
open Classical in
/-- B with what H has within S -/
noncomputable def grow (B H : Hp) (S : FS) : Hp := fun a => if S a then H a else B a
theorem grow_in {B H : Hp} {S : FS} {a : Addr} (h : S a) : grow B H S a = H a := if_pos h
theorem grow_out {B H : Hp} {S : FS} {a : Addr} (h : ¬ S a) : grow B H S a = B a := if_neg h
theorem same_grow {B H : Hp} {S : FS} (h : ∀ a, S a → B a = none) : Same B (grow B H S) := fun a o e => by
  have : ¬ S a := fun z => by rw [h a z] at e; cases e
  rw [grow_out this]; exact e
theorem grow_same {B H : Hp} {S : FS} (h : Same B H) : Same (grow B H S) H := fun a o e => by
  by_cases z : S a
  · rw [grow_in z] at e; exact e
  · rw [grow_out z] at e; exact h a o e
section
variable {K : PySem.W.Frag} {B B' H : Hp}
mutual
theorem Rep.fz (hb : Same B B') : ∀ (d : D) {v : V} {S : FS}, (∀ a o, S a → H a = some o → B' a = some o) → Rep K B H d v S → RepF K B' (G.fz d) v
  | .top, _, _, _, h => by unfold G.fz; exact h
  | .drw _ _ _, _, _, _, h => by unfold G.fz; trivial
  | .non, _, _, _, h => by unfold G.fz; exact h
  | .bl _, _, _, _, h => by unfold G.fz; exact h
  | .int _, _, _, _, h => by unfold G.fz; exact h
  | .str _, _, _, _, h => by unfold G.fz; exact h
  | .ty _, _, _, _, h => by unfold G.fz; exact h
  | .tup ds, _, _, hs, ⟨a, xs, e, q, r⟩ => by unfold G.fz; exact ⟨a, xs, e, sqT_mono hb q, RepsF.of (Reps.mono hb ds (H' := H) (fun _ _ z => z.elim) (fun _ _ z => z) r)⟩
  | .sq ds, _, _, hs, ⟨a, xs, e, q, r⟩ => by unfold G.fz; exact ⟨a, xs, e, sqL_mono hb q, RepsF.of (Reps.mono hb ds (H' := H) (fun _ _ z => z.elim) (fun _ _ z => z) r)⟩
  | .lst false ds, _, _, hs, ⟨a, xs, e, q, r⟩ => by unfold G.fz; exact ⟨a, xs, e, hb _ _ q, Reps.fz hb ds (fun _ _ _ z => z.elim) r⟩
  | .lst true ds, _, _, hs, ⟨a, xs, T, e, sa, q, p, r⟩ => by unfold G.fz; exact ⟨a, xs, e, hs _ _ sa q, Reps.fz hb ds (fun i b o t => hs b o (p.1 i b t).1) r⟩
  | .dk false ks ds, _, _, hs, ⟨a, xs, e, q, k, r⟩ => by unfold G.fz; exact ⟨a, xs, e, hb _ _ q, k, Reps.fz hb ds (fun _ _ _ z => z.elim) r⟩
  | .dk true ks ds, _, _, hs, ⟨a, xs, T, e, sa, q, k, p, r⟩ => by unfold G.fz; exact ⟨a, xs, e, hs _ _ sa q, k, Reps.fz hb ds (fun i b o t => hs b o (p.1 i b t).1) r⟩
  | .dt false ks ds, _, _, hs, ⟨a, xs, e, q, k, r⟩ => by unfold G.fz; exact ⟨a, xs, e, hb _ _ q, k, Reps.fz hb ds (fun _ _ _ z => z.elim) r⟩
  | .dt true ks ds, _, _, hs, ⟨a, xs, T, e, sa, q, k, p, r⟩ => by unfold G.fz; exact ⟨a, xs, e, hs _ _ sa q, k, Reps.fz hb ds (fun i b o t => hs b o (p.1 i b t).1) r⟩
  | .exc a d ks ds, _, _, hs, ⟨fs, e, q, k, r⟩ => by unfold G.fz; exact ⟨fs, e, hb _ _ q, k, RepsF.of (Reps.mono hb ds (H' := H) (fun _ _ z => z.elim) (fun _ _ z => z) r)⟩
theorem Reps.fz (hb : Same B B') : ∀ (ds : List D) {xs : List V} {T : Nat → FS}, (∀ i a o, T i a → H a = some o → B' a = some o) → Reps K B H ds xs T → RepsF K B' (fzs ds) xs
  | [], _, _, _, h => by unfold fzs; exact h
  | d :: ds, _, _, hs, ⟨x, xs', e, r, rs⟩ => by unfold fzs; exact ⟨x, xs', e, Rep.fz hb d (fun a o z => hs 0 a o z) r, Reps.fz hb ds (fun i => hs (i + 1)) rs⟩
end
mutual
theorem Rep.isF : ∀ (d : D) {v : V} {S : FS}, G.isF d = true → Rep K B H d v S → RepF K B d v
  | .top, _, _, _, h => h
  | .drw _ _ _, _, _, f, _ => by unfold G.isF at f; cases f
  | .non, _, _, _, h => h
  | .bl _, _, _, _, h => h
  | .int _, _, _, _, h => h
  | .str _, _, _, _, h => h
  | .ty _, _, _, _, h => h
  | .tup ds, _, _, _, ⟨a, xs, e, q, r⟩ => ⟨a, xs, e, q, RepsF.of r⟩
  | .sq ds, _, _, _, ⟨a, xs, e, q, r⟩ => ⟨a, xs, e, q, RepsF.of r⟩
  | .lst false ds, _, _, f, ⟨a, xs, e, q, r⟩ => ⟨a, xs, e, q, RepsF.of r⟩
  | .lst true ds, _, _, f, _ => by unfold G.isF at f; cases f
  | .dk false ks ds, _, _, f, ⟨a, xs, e, q, k, r⟩ => ⟨a, xs, e, q, k, RepsF.of r⟩
  | .dk true ks ds, _, _, f, _ => by unfold G.isF at f; cases f
  | .dt false ks ds, _, _, f, ⟨a, xs, e, q, k, r⟩ => ⟨a, xs, e, q, k, RepsF.of r⟩
  | .dt true ks ds, _, _, f, _ => by unfold G.isF at f; cases f
  | .exc a d ks ds, _, _, _, ⟨fs, e, q, k, r⟩ => ⟨fs, e, q, k, RepsF.of r⟩
end
end

abbrev En := List (Option D)
structure Xn where
  cls : Str
  fl : List (Str × D)
structure EnvOk (K : PySem.W.Frag) (B F H : Hp) (σ : L2.St) (ρ : En) (fp : Nat → FS) : Prop where
  bh : Same B H
  fh : Same F H
  bf : ∀ a o, F a = some o → B a = none
  rep : ∀ i d, ρ[i]? = some (some d) → ∃ v, σ[i]? = some (some v) ∧ Rep K B H d v (fp i)
  apart : ∀ i j a, fp i a → fp j a → i = j
  out : ∀ i a, fp i a → B a = none ∧ F a = none
  live : ∀ i a, fp i a → H a ≠ none
  len : ρ.length ≤ σ.length

/-- the heap has grown by fresh objects alone; B by some of them -/
structure Ext (B H B' H' : Hp) : Prop where
  bb : Same B B'
  hh : Same H H'
  bh : Same B' H'
  new : ∀ a o, B' a = some o → B a = none → H a = none
theorem Ext.refl {B H : Hp} (h : Same B H) : Ext B H B H := ⟨fun _ _ e => e, fun _ _ e => e, h, fun a o e z => by rw [e] at z; cases z⟩
theorem Ext.trans {B H B1 H1 B2 H2 : Hp} (a : Ext B H B1 H1) (b : Ext B1 H1 B2 H2) : Ext B H B2 H2 :=
  ⟨a.bb.trans b.bb, a.hh.trans b.hh, b.bh, fun p o e z => by
    cases q : B1 p with
    | none => exact a.hh.free (b.new p o e q)
    | some u => exact a.new p u q z⟩
theorem Same.new {H : Hp} {p : Addr} {o : HO} (hp : H p = none) : Same H (upd H p o) := fun b u e => by
  rw [upd_ne (ne_of_none e hp)]; exact e
/-- a new frozen object -/
theorem Ext.obj {B H : Hp} (h : Same B H) {p : Addr} (hp : H p = none) (o : HO) : Ext B H (upd B p o) (upd H p o) :=
  ⟨Same.new (h.free hp), Same.new hp, fun b u e => by
    by_cases z : b = p
    · subst z; rw [upd_same] at e ⊢; exact e
    · rw [upd_ne z] at e ⊢; exact h b u e, fun a u e z => by
    by_cases y : a = p
    · subst y; exact hp
    · rw [upd_ne y] at e; rw [e] at z; cases z⟩
/-- .. that is dropped -/
theorem Ext.obj0 {B H : Hp} (h : Same B H) {p : Addr} (hp : H p = none) (o : HO) : Ext B H B (upd H p o) :=
  ⟨fun _ _ e => e, Same.new hp, h.trans (Same.new hp), fun a u e z => by rw [e] at z; cases z⟩
section
variable {K : PySem.W.Frag} {B B' F H H' : Hp} {σ : L2.St} {ρ : En} {fp : Nat → FS}
theorem live_eq (live : ∀ i a, fp i a → H a ≠ none) (hh : Same H H') {i : Nat} {a : Addr} (h : fp i a) : H' a = H a := by
  cases q : H a with
  | none => exact absurd q (live i a h)
  | some o => exact hh a o q
theorem EnvOk.ext (E : EnvOk K B F H σ ρ fp) (x : Ext B H B' H') : EnvOk K B' F H' σ ρ fp where
  bh := x.bh
  fh := E.fh.trans x.hh
  bf := fun a o e => by
    cases q : B' a with
    | none => rfl
    | some u =>
      have := x.new a u q (E.bf a o e)
      rw [E.fh a o e] at this; cases this
  rep := fun i d e => by
    obtain ⟨v, h1, h2⟩ := E.rep i d e
    exact ⟨v, h1, Rep.mono x.bb d (fun a z => live_eq E.live x.hh z) (fun _ z => z) h2⟩
  apart := E.apart
  out := fun i a z => ⟨by
    cases q : B' a with
    | none => rfl
    | some u => exact absurd (x.new a u q (E.out i a z).1) (E.live i a z), (E.out i a z).2⟩
  live := fun i a z => by rw [live_eq E.live x.hh z]; exact E.live i a z
  len := E.len
end
end G

namespace G
open PySem PySem.Spec PyProof.Rows L2

abbrev Rs (α : Type) := Option (Except Xn α × En)
abbrev M (α : Type) := En → Rs α
def rt {α : Type} (a : α) : M α := fun ρ => some (.ok a, ρ)
def bnd {α β : Type} (m : M α) (f : α → M β) : M β := fun ρ => match m ρ with
  | none => none
  | some (.error x, ρ') => some (.error x, ρ')
  | some (.ok a, ρ') => f a ρ'
def ofO {α : Type} (o : Option α) : M α := fun ρ => match o with
  | none => none
  | some a => some (.ok a, ρ)

/-- an exception's own fields -/
def XRep (K : PySem.W.Frag) (mg : Str → Option Value) (B : Hp) (x : Xn) (cls : Value) (dd : Option Addr) : Prop :=
  ∃ C, mg x.cls = some (.ref C) ∧ cls = .ref C ∧
    ((x.fl = [] ∧ dd = none) ∨ ∃ d fs, dd = some d ∧ B d = some (.xd fs) ∧ fs.map Prod.fst = x.fl.map Prod.fst ∧ RepsF K B (x.fl.map Prod.snd) (fs.map Prod.snd))
def ErrP (K : PySem.W.Frag) (mg : Str → Option Value) (W : WX) (B F : Hp) (σ : L2.St) (x : Xn) (ρ' : En) : Prop :=
  ∀ B' H' fp' cls dd, Same B B' → EnvOk K B' F H' σ ρ' fp' → XRep K mg B' x cls dd → W cls dd σ H'
theorem ErrP.up {K : PySem.W.Frag} {mg : Str → Option Value} {W : WX} {B B1 F : Hp} {σ : L2.St} {x : Xn} {ρ' : En} (h : ErrP K mg W B F σ x ρ') (s : Same B B1) : ErrP K mg W B1 F σ x ρ' :=
  fun B' H' fp' cls dd s' => h B' H' fp' cls dd (s.trans s')
/-- what a step is to leave -/
def PostP {α ω : Type} (K : PySem.W.Frag) (mg : Str → Option Value) (W : WX) (rel : L2.St → Hp → α → ω → Prop) (q : Bool) (B F H : Hp) (σ : L2.St) (ρ : En) (fp : Nat → FS) (Q : ω → Hp → Prop) : Except Xn α → En → Prop
  | .ok a, ρ' => ∀ B' H' fp' w, Same B B' → EnvOk K B' F H' σ ρ' fp' → rel σ B' a w → (q = true → ρ' = ρ ∧ fp' = fp ∧ Ext B H B' H') → Q w H'
  | .error x, ρ' => ErrP K mg W B F σ x ρ'
/-- the reading of a computation m: whatever represents its value -/
def can {α ω : Type} (K : PySem.W.Frag) (mg : Str → Option Value) (W : WX) (rel : L2.St → Hp → α → ω → Prop) (q : Bool) (m : M α) : L2.St → Hp → (ω → Hp → Prop) → Prop := fun σ H Q =>
  ∃ B F ρ fp r ρ', EnvOk K B F H σ ρ fp ∧ m ρ = some (r, ρ') ∧ PostP K mg W rel q B F H σ ρ fp Q r ρ'
abbrev relE (K : PySem.W.Frag) : L2.St → Hp → D → V → Prop := fun _ B d v => RepF K B d v
abbrev relT : L2.St → Hp → Bool → Bool → Prop := fun _ _ b c => b = c
abbrev relA (K : PySem.W.Frag) : L2.St → Hp → List D → List V → Prop := fun _ B ds vs => RepsF K B ds vs
def PEM (X : Cx) (W : WX) (q : Bool) (e : Expr) (m : M D) : Prop := PE X e (can X.K X.mg W (relE X.K) q m)
def PTM (X : Cx) (W : WX) (q : Bool) (e : Expr) (m : M Bool) : Prop := PT X e (can X.K X.mg W relT q m)
def PWM (X : Cx) (W : WX) (q : Bool) (e : Expr) (m : M Bool) : Prop := PW X e (can X.K X.mg W relT q m)
def PAM (X : Cx) (W : WX) (q : Bool) (es : List Expr) (m : M (List D)) : Prop := PA X es (can X.K X.mg W (relA X.K) q m)
theorem pe_imp {X : Cx} {e : Expr} {t t' : TE} (h : PE X e t) (i : ∀ σ H Q, t' σ H Q → t σ H Q) : PE X e t' := ⟨fun pins s σ H Q I hw => h.run pins s σ H Q I (i σ H Q hw)⟩
theorem pt_imp {X : Cx} {e : Expr} {t t' : TT} (h : PT X e t) (i : ∀ σ H Q, t' σ H Q → t σ H Q) : PT X e t' := ⟨fun pins s σ H Q I hw => h.run pins s σ H Q I (i σ H Q hw)⟩
theorem pw_imp {X : Cx} {e : Expr} {t t' : TT} (h : PW X e t) (i : ∀ σ H Q, t' σ H Q → t σ H Q) : PW X e t' := ⟨fun wh pins s σ H Q I hw => h.run wh pins s σ H Q I (i σ H Q hw)⟩
theorem pa_imp {X : Cx} {es : List Expr} {t t' : TA} (h : PA X es t) (i : ∀ σ H Q, t' σ H Q → t σ H Q) : PA X es t' := ⟨fun pos pins s σ H Q I hw => h.run pos pins s σ H Q I (i σ H Q hw)⟩

section
variable {α β ω ω' : Type} {K : PySem.W.Frag} {mg : Str → Option Value} {W : WX} {rel : L2.St → Hp → α → ω → Prop} {rel' : L2.St → Hp → β → ω' → Prop} {q q' : Bool} {B F H : Hp} {σ : L2.St} {ρ ρ' : En} {fp : Nat → FS} {Q : ω → Hp → Prop}
theorem PostP.err {r : Except Xn α} (h : PostP K mg W rel q B F H σ ρ fp Q r ρ') : ∀ x, r = .error x → ErrP K mg W B F σ x ρ' := fun x e => by subst e; exact h
/-- the first of two steps -/
theorem can_bnd {m : M α} {f : α → M β} {r : Except Xn β} {Z : ω → Hp → Prop} (E : EnvOk K B F H σ ρ fp) (hm : bnd m f ρ = some (r, ρ')) (er : ∀ x, r = .error x → ErrP K mg W B F σ x ρ')
    (ok : ∀ a ρ1 B1 H1 fp1 w, f a ρ1 = some (r, ρ') → Same B B1 → EnvOk K B1 F H1 σ ρ1 fp1 → rel σ B1 a w → (q = true → ρ1 = ρ ∧ fp1 = fp ∧ Ext B H B1 H1) → Z w H1) : can K mg W rel q m σ H Z := by
  unfold bnd at hm
  cases e : m ρ with
  | none => rw [e] at hm; cases hm
  | some p =>
    obtain ⟨r1, ρ1⟩ := p
    rw [e] at hm
    refine ⟨B, F, ρ, fp, r1, ρ1, E, e, ?_⟩
    cases r1 with
    | error x =>
      cases hm
      exact er x rfl
    | ok a => exact fun B' H' fp' w s E' rl qq => ok a ρ1 B' H' fp' w hm s E' rl qq
theorem ofO_some {o : Option α} {r : Except Xn α} (h : ofO o ρ = some (r, ρ')) : ∃ a, o = some a ∧ r = .ok a ∧ ρ' = ρ := by
  unfold ofO at h
  cases o with
  | none => cases h
  | some a => cases h; exact ⟨a, rfl, rfl, rfl⟩
theorem rt_some {a : α} {r : Except Xn α} (h : rt a ρ = some (r, ρ')) : r = .ok a ∧ ρ' = ρ := by
  unfold rt at h; cases h; exact ⟨rfl, rfl⟩
/-- the same value, looked at another way -/
theorem can_map {m : M α} {f : α → Option β} {Z : ω → Hp → Prop} {Q : ω' → Hp → Prop} (h : can K mg W rel' q (bnd m fun a => ofO (f a)) σ H Q)
    (ok : ∀ a b B1 H1 w, f a = some b → rel σ B1 a w → (∀ w', rel' σ B1 b w' → Q w' H1) → Z w H1) : can K mg W rel q m σ H Z := by
  obtain ⟨B, F, ρ, fp, r, ρ', E, hm, post⟩ := h
  refine can_bnd E hm post.err fun a ρ1 B1 H1 fp1 w hf s E1 rl qq => ?_
  obtain ⟨b, e1, e2, e3⟩ := ofO_some hf
  subst e2 e3
  exact ok a b B1 H1 w e1 rl fun w' rw' => post B1 H1 fp1 w' s E1 rw' qq
end

def eName (i : Nat) : M D := fun ρ => match ρ[i]? with
  | some (some d) => if isF d = true then some (.ok d, ρ) else none
  | _ => none
section
variable {X : Cx} {W : WX} {q q1 q2 q3 : Bool}
theorem pem_name (i : Nat) {x : Str} {pos : Pos} (hN : X.N[i]? = some x := by rfl) (hv : Vis X.env.scope x := by first | exact Or.inl rfl | exact Or.inr (Or.inl rfl) | exact Or.inr (Or.inr rfl)) (hd : (x == ("__debug__" : Str)) = false := by decide)
    (hcd : (x == ("__classdict__" : Str)) = false := by decide) : PEM X W true (.Name x pos) (eName i) := by
  refine pe_imp (pe_var (i := i) hN hv hd hcd) fun σ H Q h => ?_
  obtain ⟨B, F, ρ, fp, r, ρ', E, hm, post⟩ := h
  unfold eName at hm
  cases e : ρ[i]? with
  | none => rw [e] at hm; cases hm
  | some o =>
    cases o with
    | none => rw [e] at hm; cases hm
    | some d =>
      rw [e] at hm
      simp only at hm
      by_cases hf : isF d = true
      · rw [if_pos hf] at hm
        cases hm
        obtain ⟨v, h1, h2⟩ := E.rep i d e
        exact ⟨v, h1, post B H fp v (fun _ _ z => z) E (Rep.isF d hf h2) fun _ => ⟨rfl, rfl, Ext.refl E.bh⟩⟩
      · rw [if_neg hf] at hm; cases hm
theorem pem_const {e : Expr} {d : D} {v : V} (h : PE X e (tC v)) (hr : ∀ B, RepF X.K B d v) : PEM X W true e (rt d) := by
  refine pe_imp h fun σ H Q h => ?_
  obtain ⟨B, F, ρ, fp, r, ρ', E, hm, post⟩ := h
  obtain ⟨e1, e2⟩ := rt_some hm
  subst e1 e2
  exact post B H fp v (fun _ _ z => z) E (hr B) fun _ => ⟨rfl, rfl, Ext.refl E.bh⟩
theorem pem_int {i : Int} {j pos} : PEM X W true (.Constant (.int i) j pos) (rt (.int i)) := pem_const pe_int fun _ => rfl
theorem pem_bl {b : Bool} {j pos} : PEM X W true (.Constant (.bool b) j pos) (rt (.bl b)) := pem_const pe_bl fun _ => rfl
theorem pem_non {j pos} : PEM X W true (.Constant .none j pos) (rt .non) := pem_const pe_non fun _ => rfl
theorem pem_str {x : Str} {j pos} : PEM X W true (.Constant (.str x) j pos) (rt (.str x)) := pem_const pe_str fun _ => rfl

def OpSem (K : PySem.W.Frag) (r : R2) (g : D → D → Option D) : Prop := ∀ (B H : Hp) (x y z : D) (u v : V), Same B H → RepF K B x u → RepF K B y v → g x y = some z → ∀ Q : VK, (∀ B' H' w, Ext B H B' H' → RepF K B' z w → Q w H') → r u v H Q
def OpS (X : Cx) (f : Value → Value → Sem Value) (g : D → D → Option D) : Prop := ∃ r, OpR X f r ∧ OpSem X.K r g
def eOp (g : D → D → Option D) (m n : M D) : M D := bnd m fun x => bnd n fun y => ofO (g x y)
theorem and_t {a b : Bool} (h : (a && b) = true) : a = true ∧ b = true := by
  cases a <;> cases b <;> simp_all
/-- two operands -/
theorem can_op {K : PySem.W.Frag} {mg : Str → Option Value} {r : R2} {g : D → D → Option D} {m n : M D} (sem : OpSem K r g) {σ : L2.St} {H : Hp} {Q : VK} (h : can K mg W (relE K) (q1 && q2) (eOp g m n) σ H Q) :
    tOp r (can K mg W (relE K) q1 m) (can K mg W (relE K) q2 n) σ H Q := by
  obtain ⟨B, F, ρ, fp, r0, ρ', E, hm, post⟩ := h
  refine can_bnd E hm post.err fun d ρ1 B1 H1 fp1 x hm1 s1 E1 rx k1 => ?_
  refine can_bnd E1 hm1 (fun x e => (post.err x e).up s1) fun d2 ρ2 B2 H2 fp2 y hm2 s2 E2 ry k2 => ?_
  obtain ⟨z, e1, e2, e3⟩ := ofO_some hm2
  subst e2 e3
  refine sem B2 H2 d d2 z x y E2.bh (rx.mono s2) ry e1 Q fun B3 H3 w ex rw => post B3 H3 fp2 w (s1.trans (s2.trans ex.bb)) (E2.ext ex) rw fun qq => ?_
  obtain ⟨qa, qb⟩ := and_t qq
  obtain ⟨a1, a2, a3⟩ := k1 qa
  obtain ⟨b1, b2, b3⟩ := k2 qb
  exact ⟨b1.trans a1, b2.trans a2, a3.trans (b3.trans ex)⟩
theorem pem_op {op : Operator} {g : D → D → Option D} {a b : Expr} {m n : M D} {pos : Pos} (s : OpS X (binaryOp op) g) (ha : PEM X W q1 a m) (hb : PEM X W q2 b n) : PEM X W (q1 && q2) (.BinOp a op b pos) (eOp g m n) := by
  obtain ⟨r, hr, sem⟩ := s
  exact pe_imp (pe_op hr ha hb) fun σ H Q h => can_op sem h
theorem pem_cmp {op : CmpOp} {g : D → D → Option D} {a b : Expr} {m n : M D} {pos : Pos} (s : OpS X (compareOp op) g) (ha : PEM X W q1 a m) (hb : PEM X W q2 b n) (hm : behindInMarks op b = false := by first | exact nomark _ | rfl) :
    PEM X W (q1 && q2) (.Compare a [op] [b] pos) (eOp g m n) := by
  obtain ⟨r, hr, sem⟩ := s
  exact pe_imp (pe_cmpR hr ha hb hm) fun σ H Q h => can_op sem h
def asB : D → Option Bool
  | .bl b => some b
  | _ => none
/-- a value that is True or False, as a test -/
def tB (m : M D) : M Bool := bnd m fun d => ofO (asB d)
theorem asB_some {d : D} {b : Bool} (h : asB d = some b) : d = .bl b := by
  cases d <;> simp [asB] at h
  rw [h]
theorem can_tB {K : PySem.W.Frag} {mg : Str → Option Value} {m : M D} {σ : L2.St} {H : Hp} {Q : Bool → Hp → Prop} (h : can K mg W relT q (tB m) σ H Q) : can K mg W (relE K) q m σ H fun x H' => ∃ k, x = .bl k ∧ Q k H' :=
  can_map h fun a b B1 H1 w e rl k => by
    rw [asB_some e] at rl
    exact ⟨b, rl, k b rfl⟩
theorem ptm_val {e : Expr} {m : M D} (h : PEM X W q e m) (he : ∀ whole, isTrue e X.env whole = (do let v ← whole; standAt e.pos; holding [v] (truthy v)) := by intro _; rfl) : PTM X W q e (tB m) :=
  pt_imp (pt_val h he) fun σ H Q h => can_tB h
theorem can_op' {K : PySem.W.Frag} {mg : Str → Option Value} {r : R2} {g : D → D → Option D} {m n : M D} (sem : OpSem K r g) {σ : L2.St} {H : Hp} {Q : Bool → Hp → Prop} (h : can K mg W relT (q1 && q2) (tB (eOp g m n)) σ H Q) :
    tTest (tOp r (can K mg W (relE K) q1 m) (can K mg W (relE K) q2 n)) σ H Q := can_op sem (can_tB h)
theorem ptm_cmp {op : CmpOp} {g : D → D → Option D} {a b : Expr} {m n : M D} {pos : Pos} (s : OpS X (compareOp op) g) (ha : PEM X W q1 a m) (hb : PEM X W q2 b n) (hm : behindInMarks op b = false := by first | exact nomark _ | rfl) :
    PTM X W (q1 && q2) (.Compare a [op] [b] pos) (tB (eOp g m n)) := by
  obtain ⟨r, hr, sem⟩ := s
  exact pt_imp (pt_cmpR hr ha hb hm) fun σ H Q h => can_op' sem h
/-- two comparisons in a row -/
def eChain (g g' : D → D → Option D) (m n o : M D) : M D := bnd m fun x => bnd n fun y => bnd (ofO ((g x y).bind asB)) fun k => if k = true then bnd o fun z => ofO (g' y z) else rt (.bl false)
theorem can_chain {K : PySem.W.Frag} {mg : Str → Option Value} {r r' : R2} {g g' : D → D → Option D} {m n o : M D} (sem : OpSem K r g) (sem' : OpSem K r' g') {σ : L2.St} {H : Hp} {Q : VK} (h : can K mg W (relE K) (q1 && q2 && q3) (eChain g g' m n o) σ H Q) :
    tChain r r' (can K mg W (relE K) q1 m) (can K mg W (relE K) q2 n) (can K mg W (relE K) q3 o) σ H Q := by
  obtain ⟨B, F, ρ, fp, r0, ρ', E, hm, post⟩ := h
  refine can_bnd E hm post.err fun d ρ1 B1 H1 fp1 x hm1 s1 E1 rx k1 => ?_
  refine can_bnd E1 hm1 (fun x e => (post.err x e).up s1) fun d2 ρ2 B2 H2 fp2 y hm2 s2 E2 ry k2 => ?_
  cases eg : g d d2 with
  | none => simp [eg, bnd, ofO] at hm2
  | some z =>
    cases ez : asB z with
    | none => simp [eg, ez, bnd, ofO] at hm2
    | some k =>
      simp only [eg, ez, bnd, ofO, Option.bind_some] at hm2
      refine sem B2 H2 d d2 z x y E2.bh (rx.mono s2) ry eg _ fun B3 H3 w ex rw => ?_
      rw [asB_some ez] at rw
      refine ⟨k, rw, ?_⟩
      have q2' : (q1 && q2 && q3) = true → ρ2 = ρ ∧ fp2 = fp ∧ Ext B H B3 H3 := fun qq => by
        obtain ⟨qa, qb⟩ := and_t qq
        obtain ⟨qa, qc⟩ := and_t qa
        obtain ⟨a1, a2, a3⟩ := k1 qa
        obtain ⟨b1, b2, b3⟩ := k2 qc
        exact ⟨b1.trans a1, b2.trans a2, a3.trans (b3.trans ex)⟩
      cases k with
      | false =>
        rw [if_neg (by decide)] at hm2 ⊢
        obtain ⟨e1, e2⟩ := rt_some hm2
        subst e1 e2
        exact post B3 H3 fp2 (.bl false) (s1.trans (s2.trans ex.bb)) (E2.ext ex) rfl q2'
      | true =>
        rw [if_pos rfl] at hm2 ⊢
        refine can_bnd (E2.ext ex) hm2 (fun x e => (post.err x e).up (s1.trans (s2.trans ex.bb))) fun d4 ρ4 B4 H4 fp4 v hm4 s4 E4 rv k4 => ?_
        obtain ⟨t, e1, e2, e3⟩ := ofO_some hm4
        subst e2 e3
        refine sem' B4 H4 d2 d4 t y v E4.bh ((ry.mono ex.bb).mono s4) rv e1 Q fun B5 H5 w5 ex5 rw5 => post B5 H5 fp4 w5 (s1.trans (s2.trans (ex.bb.trans (s4.trans ex5.bb)))) (E4.ext ex5) rw5 fun qq => ?_
        obtain ⟨a1, a2, a3⟩ := q2' qq
        obtain ⟨b1, b2, b3⟩ := k4 (and_t qq).2
        exact ⟨b1.trans a1, b2.trans a2, a3.trans (b3.trans ex5)⟩
theorem pem_chain {op op' : CmpOp} {g g' : D → D → Option D} {a b c : Expr} {m n o : M D} {pos : Pos} (s : OpS X (compareOp op) g) (s' : OpS X (compareOp op') g') (ha : PEM X W q1 a m) (hb : PEM X W q2 b n) (hc : PEM X W q3 c o) (hm : lastMarks [op, op'] [b, c] = false := by rfl) :
    PEM X W (q1 && q2 && q3) (.Compare a [op, op'] [b, c] pos) (eChain g g' m n o) := by
  obtain ⟨r, hr, sem⟩ := s
  obtain ⟨r', hr', sem'⟩ := s'
  exact pe_imp (pe_chain hr hr' ha hb hc hm) fun σ H Q h => can_chain sem sem' h
theorem ptm_chain {op op' : CmpOp} {g g' : D → D → Option D} {a b c : Expr} {m n o : M D} {pos : Pos} (s : OpS X (compareOp op) g) (s' : OpS X (compareOp op') g') (ha : PEM X W q1 a m) (hb : PEM X W q2 b n) (hc : PEM X W q3 c o) (hm : lastMarks [op, op'] [b, c] = false := by rfl) :
    PTM X W (q1 && q2 && q3) (.Compare a [op, op'] [b, c] pos) (tB (eChain g g' m n o)) := by
  obtain ⟨r, hr, sem⟩ := s
  obtain ⟨r', hr', sem'⟩ := s'
  exact pt_imp (pt_chain hr hr' ha hb hc hm) fun σ H Q h => can_chain sem sem' (can_tB h)

def tAndM (m n : M Bool) : M Bool := bnd m fun c => if c = true then n else rt false
def tOrM (m n : M Bool) : M Bool := bnd m fun c => if c = true then rt true else n
def tNotM (m : M Bool) : M Bool := bnd m fun c => rt (!c)
theorem ptm_of_pwm {e : Expr} {m : M Bool} (h : PWM X W q e m) : PTM X W q e m := PW.pt h
theorem pwm_and1 {a : Expr} {m : M Bool} {pos : Pos} (ha : PTM X W q a m) : PWM X W q (.BoolOp .And [a] pos) m := pw_and1 ha
theorem pwm_or1 {a : Expr} {m : M Bool} {pos : Pos} (ha : PTM X W q a m) : PWM X W q (.BoolOp .Or [a] pos) m := pw_or1 ha
theorem quiet2 {B B1 B2 H H1 H2 : Hp} {ρ ρ1 ρ2 : En} {fp fp1 fp2 : Nat → FS} (k1 : q1 = true → ρ1 = ρ ∧ fp1 = fp ∧ Ext B H B1 H1) (k2 : q2 = true → ρ2 = ρ1 ∧ fp2 = fp1 ∧ Ext B1 H1 B2 H2) (qq : (q1 && q2) = true) : ρ2 = ρ ∧ fp2 = fp ∧ Ext B H B2 H2 := by
  obtain ⟨qa, qb⟩ := and_t qq
  obtain ⟨a1, a2, a3⟩ := k1 qa
  obtain ⟨b1, b2, b3⟩ := k2 qb
  exact ⟨b1.trans a1, b2.trans a2, a3.trans b3⟩
theorem quietL {B B1 H H1 : Hp} {ρ ρ1 : En} {fp fp1 : Nat → FS} (k1 : q1 = true → ρ1 = ρ ∧ fp1 = fp ∧ Ext B H B1 H1) (qq : (q1 && q2) = true) : ρ1 = ρ ∧ fp1 = fp ∧ Ext B H B1 H1 := k1 (and_t qq).1
section
variable {α ω : Type} {K : PySem.W.Frag} {mg : Str → Option Value} {rel : L2.St → Hp → α → ω → Prop}
/-- behind a first step, the second one by itself -/
theorem can_of {m : M α} {B B1 F H1 H : Hp} {σ : L2.St} {ρ ρ1 ρ' : En} {fp fp1 : Nat → FS} {r : Except Xn α} {Q : ω → Hp → Prop} (E1 : EnvOk K B1 F H1 σ ρ1 fp1) (s1 : Same B B1) (hm : m ρ1 = some (r, ρ'))
    (k1 : q1 = true → ρ1 = ρ ∧ fp1 = fp ∧ Ext B H B1 H1) (post : PostP K mg W rel (q1 && q2) B F H σ ρ fp Q r ρ') : can K mg W rel q2 m σ H1 Q := by
  refine ⟨B1, F, ρ1, fp1, r, ρ', E1, hm, ?_⟩
  cases r with
  | error x => exact ErrP.up post s1
  | ok a => exact fun B2 H2 fp2 w s2 E2 rl k2 => post B2 H2 fp2 w (s1.trans s2) E2 rl (quiet2 k1 k2)
end
theorem pwm_and {a b : Expr} {rest : List Expr} {m n : M Bool} {pos : Pos} (ha : PTM X W q1 a m) (hb : PWM X W q2 (.BoolOp .And (b :: rest) pos) n) : PWM X W (q1 && q2) (.BoolOp .And (a :: b :: rest) pos) (tAndM m n) := by
  refine pw_imp (pw_and ha hb) fun σ H Q h => ?_
  obtain ⟨B, F, ρ, fp, r0, ρ', E, hm, post⟩ := h
  refine can_bnd E hm post.err fun c ρ1 B1 H1 fp1 x hm1 s1 E1 rx k1 => ?_
  have rx : c = x := rx
  subst rx
  cases c with
  | true => rw [if_pos rfl] at hm1 ⊢; exact can_of E1 s1 hm1 k1 post
  | false =>
    rw [if_neg (by decide)] at hm1 ⊢
    obtain ⟨e1, e2⟩ := rt_some hm1
    subst e1 e2
    exact post B1 H1 fp1 false s1 E1 rfl (quietL k1)
theorem pwm_or {a b : Expr} {rest : List Expr} {m n : M Bool} {pos : Pos} (ha : PTM X W q1 a m) (hb : PWM X W q2 (.BoolOp .Or (b :: rest) pos) n) : PWM X W (q1 && q2) (.BoolOp .Or (a :: b :: rest) pos) (tOrM m n) := by
  refine pw_imp (pw_or ha hb) fun σ H Q h => ?_
  obtain ⟨B, F, ρ, fp, r0, ρ', E, hm, post⟩ := h
  refine can_bnd E hm post.err fun c ρ1 B1 H1 fp1 x hm1 s1 E1 rx k1 => ?_
  have rx : c = x := rx
  subst rx
  cases c with
  | false => rw [if_neg (by decide)] at hm1 ⊢; exact can_of E1 s1 hm1 k1 post
  | true =>
    rw [if_pos rfl] at hm1 ⊢
    obtain ⟨e1, e2⟩ := rt_some hm1
    subst e1 e2
    exact post B1 H1 fp1 true s1 E1 rfl (quietL k1)
theorem ptm_not {a : Expr} {m : M Bool} {pos : Pos} (ha : PTM X W q a m) : PTM X W q (.UnaryOp .Not a pos) (tNotM m) := by
  refine pt_imp (pt_not ha) fun σ H Q h => ?_
  obtain ⟨B, F, ρ, fp, r0, ρ', E, hm, post⟩ := h
  refine can_bnd E hm post.err fun c ρ1 B1 H1 fp1 x hm1 s1 E1 rx k1 => ?_
  have rx : c = x := rx
  subst rx
  obtain ⟨e1, e2⟩ := rt_some hm1
  subst e1 e2
  exact post B1 H1 fp1 (!c) s1 E1 rfl k1
/-- .. as values -/
def eAnd (m n : M D) : M D := bnd (tB m) fun c => if c = true then n else rt (.bl false)
def eOr (m n : M D) : M D := bnd (tB m) fun c => if c = true then rt (.bl true) else n
def eNot (m : M D) : M D := bnd (tB m) fun c => rt (.bl (!c))
theorem pem_one {op} {a : Expr} {m : M D} {pos : Pos} (h : PEM X W q a m) : PEM X W q (.BoolOp op [a] pos) m := pe_one h
theorem pem_and {a b : Expr} {rest : List Expr} {m n : M D} {pos : Pos} (ha : PEM X W q1 a m) (hb : PEM X W q2 (.BoolOp .And (b :: rest) pos) n) : PEM X W (q1 && q2) (.BoolOp .And (a :: b :: rest) pos) (eAnd m n) := by
  refine pe_imp (pe_and ha hb) fun σ H Q h => ?_
  obtain ⟨B, F, ρ, fp, r0, ρ', E, hm, post⟩ := h
  refine can_tB (can_bnd E hm post.err fun c ρ1 B1 H1 fp1 x hm1 s1 E1 rx k1 => ?_)
  have rx : c = x := rx
  subst rx
  cases c with
  | true => rw [if_pos rfl] at hm1 ⊢; exact can_of E1 s1 hm1 k1 post
  | false =>
    rw [if_neg (by decide)] at hm1 ⊢
    obtain ⟨e1, e2⟩ := rt_some hm1
    subst e1 e2
    exact post B1 H1 fp1 (.bl false) s1 E1 rfl (quietL k1)
theorem pem_or {a b : Expr} {rest : List Expr} {m n : M D} {pos : Pos} (ha : PEM X W q1 a m) (hb : PEM X W q2 (.BoolOp .Or (b :: rest) pos) n) : PEM X W (q1 && q2) (.BoolOp .Or (a :: b :: rest) pos) (eOr m n) := by
  refine pe_imp (pe_or ha hb) fun σ H Q h => ?_
  obtain ⟨B, F, ρ, fp, r0, ρ', E, hm, post⟩ := h
  refine can_tB (can_bnd E hm post.err fun c ρ1 B1 H1 fp1 x hm1 s1 E1 rx k1 => ?_)
  have rx : c = x := rx
  subst rx
  cases c with
  | false => rw [if_neg (by decide)] at hm1 ⊢; exact can_of E1 s1 hm1 k1 post
  | true =>
    rw [if_pos rfl] at hm1 ⊢
    obtain ⟨e1, e2⟩ := rt_some hm1
    subst e1 e2
    exact post B1 H1 fp1 (.bl true) s1 E1 rfl (quietL k1)
theorem pem_not {a : Expr} {m : M D} {pos : Pos} (ha : PEM X W q a m) : PEM X W q (.UnaryOp .Not a pos) (eNot m) := by
  refine pe_imp (pe_not ha) fun σ H Q h => ?_
  obtain ⟨B, F, ρ, fp, r0, ρ', E, hm, post⟩ := h
  refine can_tB (can_bnd E hm post.err fun c ρ1 B1 H1 fp1 x hm1 s1 E1 rx k1 => ?_)
  have rx : c = x := rx
  subst rx
  obtain ⟨e1, e2⟩ := rt_some hm1
  subst e1 e2
  exact post B1 H1 fp1 (.bl (!c)) s1 E1 rfl k1
def eIf (t : M Bool) (m n : M D) : M D := bnd t fun c => if c = true then m else n
theorem pem_if {c a b : Expr} {t : M Bool} {m n : M D} {pos : Pos} (hc : PTM X W q1 c t) (ha : PEM X W q2 a m) (hb : PEM X W q3 b n) : PEM X W (q1 && (q2 && q3)) (.IfExp c a b pos) (eIf t m n) := by
  refine pe_imp (pe_ifExp hc ha hb) fun σ H Q h => ?_
  obtain ⟨B, F, ρ, fp, r0, ρ', E, hm, post⟩ := h
  refine can_bnd E hm post.err fun c ρ1 B1 H1 fp1 x hm1 s1 E1 rx k1 => ?_
  have rx : c = x := rx
  subst rx
  have weak : ∀ {q4 : Bool}, ((q2 && q3) = true → q4 = true) → PostP X.K X.mg W (relE X.K) (q1 && q4) B F H σ ρ fp Q r0 ρ' := fun {q4} z => by
    cases r0 with
    | error x => exact post
    | ok d => exact fun B' H' fp' w s E rl k => post B' H' fp' w s E rl fun qq => k (by obtain ⟨u, v⟩ := and_t qq; rw [u, z v]; rfl)
  cases c with
  | true => rw [if_pos rfl] at hm1 ⊢; exact can_of E1 s1 hm1 k1 (weak fun z => (and_t z).1)
  | false => rw [if_neg (by decide)] at hm1 ⊢; exact can_of E1 s1 hm1 k1 (weak fun z => (and_t z).2)

def aNil : M (List D) := rt []
def aCons (m : M D) (n : M (List D)) : M (List D) := bnd m fun d => bnd n fun ds => rt (d :: ds)
theorem pam_nil : PAM X W true [] aNil := by
  refine pa_imp pa_nil fun σ H Q h => ?_
  obtain ⟨B, F, ρ, fp, r0, ρ', E, hm, post⟩ := h
  obtain ⟨e1, e2⟩ := rt_some hm
  subst e1 e2
  exact post B H fp [] (fun _ _ z => z) E RepsF.nil fun _ => ⟨rfl, rfl, Ext.refl E.bh⟩
theorem pam_cons {e : Expr} {es : List Expr} {m : M D} {n : M (List D)} (ha : PEM X W q1 e m) (hr : PAM X W q2 es n) (hs : starEach (e :: es) X.env = (false, eval e X.env) :: starEach es X.env := by rfl) : PAM X W (q1 && q2) (e :: es) (aCons m n) := by
  refine pa_imp (pa_cons ha hr hs) fun σ H Q h => ?_
  obtain ⟨B, F, ρ, fp, r0, ρ', E, hm, post⟩ := h
  refine can_bnd E hm post.err fun d ρ1 B1 H1 fp1 x hm1 s1 E1 rx k1 => ?_
  refine can_bnd E1 hm1 (fun x e => (post.err x e).up s1) fun ds ρ2 B2 H2 fp2 xs hm2 s2 E2 rxs k2 => ?_
  obtain ⟨e2, e3⟩ := rt_some hm2
  subst e2 e3
  exact post B2 H2 fp2 _ (s1.trans s2) E2 (RepsF.cons (rx.mono s2) rxs) (quiet2 k1 k2)
def CallSem (K : PySem.W.Frag) (r : List V → Hp → VK → Prop) (g : List D → Option D) : Prop := ∀ (B H : Hp) (xs : List D) (z : D) (us : List V), Same B H → RepsF K B xs us → g xs = some z → ∀ Q : VK, (∀ B' H' w, Ext B H B' H' → RepF K B' z w → Q w H') → r us H Q
def CallS (X : Cx) (f : Value) (g : List D → Option D) : Prop := ∃ r, CallR X f r ∧ CallSem X.K r g
def eFn (g : List D → Option D) (m : M (List D)) : M D := bnd m fun ds => ofO (g ds)
theorem can_fn {K : PySem.W.Frag} {mg : Str → Option Value} {r : List V → Hp → VK → Prop} {g : List D → Option D} {m : M (List D)} (sem : CallSem K r g) {σ : L2.St} {H : Hp} {Q : VK} (h : can K mg W (relE K) q (eFn g m) σ H Q) :
    can K mg W (relA K) q m σ H fun vs H1 => r vs H1 Q := by
  obtain ⟨B, F, ρ, fp, r0, ρ', E, hm, post⟩ := h
  refine can_bnd E hm post.err fun ds ρ1 B1 H1 fp1 xs hm1 s1 E1 rx k1 => ?_
  obtain ⟨z, e1, e2, e3⟩ := ofO_some hm1
  subst e2 e3
  refine sem B1 H1 ds z xs E1.bh rx e1 Q fun B3 H3 w ex rw => post B3 H3 fp1 w (s1.trans ex.bb) (E1.ext ex) rw fun qq => ?_
  obtain ⟨a1, a2, a3⟩ := k1 qq
  exact ⟨a1, a2, a3.trans ex⟩
theorem pem_callB {x : Str} {p pos : Pos} {e : Expr} {es : List Expr} {m : M (List D)} {id : String} {g : List D → Option D} (s : CallS X (.builtin id) g) (hg : Gl X x) (hm : X.mg x = none) (hv : bootBuiltins x = some (.builtin id)) (ha : PAM X W q (e :: es) m)
    (hn : x ≠ "__name__" := by decide) (hdb : (x == ("__debug__" : Str)) = false := by decide)
    (he : starEach (e :: es) X.env = (false, eval e X.env) :: starEach es X.env := by rfl) (hpl : (backTo pos (starEach es X.env)).any (·.1) = false := by rfl) : PEM X W q (.Call (.Name x p) (e :: es) [] pos) (eFn g m) := by
  obtain ⟨r, hr, sem⟩ := s
  exact pe_imp (pe_callB hr hg hm hv ha hn hdb he hpl) fun σ H Q h => can_fn sem h
theorem pem_callTy {x : Str} {p pos : Pos} {e : Expr} {es : List Expr} {m : M (List D)} {T : String} {g : List D → Option D} (s : CallS X (.type T) g) (hg : Gl X x) (hm : X.mg x = none) (hv : bootBuiltins x = some (.type T)) (ha : PAM X W q (e :: es) m)
    (hn : x ≠ "__name__" := by decide) (hdb : (x == ("__debug__" : Str)) = false := by decide)
    (he : starEach (e :: es) X.env = (false, eval e X.env) :: starEach es X.env := by rfl) (hpl : (backTo pos (starEach es X.env)).any (·.1) = false := by rfl) : PEM X W q (.Call (.Name x p) (e :: es) [] pos) (eFn g m) := by
  obtain ⟨r, hr, sem⟩ := s
  exact pe_imp (pe_callTy hr hg hm hv ha hn hdb he hpl) fun σ H Q h => can_fn sem h
/-- a tuple, a list of written items -/
def gTup (ds : List D) : Option D := if ds.length ≤ 1000 then some (.tup ds) else none
def gLst (ds : List D) : Option D := if ds.length ≤ 1000 then some (.lst false ds) else none
theorem sz1000 {n : Nat} (h : n ≤ 1000) : n ≤ sizeLine := Nat.le_of_lt (small1000 h)
theorem sem_obj {K : PySem.W.Frag} {B H : Hp} (s : Same B H) {Q : VK} {z : D} {o : HO} (rep : ∀ p, H p = none → RepF K (upd B p o) z (.ref p)) (h : ∀ B' H' w, Ext B H B' H' → RepF K B' z w → Q w H') : ∀ p, H p = none → Q (.ref p) (upd H p o) :=
  fun p hp => h _ _ _ (Ext.obj s hp o) (rep p hp)
theorem up_same {B H : Hp} (s : Same B H) {p : Addr} (hp : H p = none) {o : HO} : Same B (upd B p o) := Same.new (s.free hp)
theorem repT {K : PySem.W.Frag} {B H : Hp} {ds : List D} {xs : List V} (s : Same B H) (r : RepsF K B ds xs) : ∀ p, H p = none → RepF K (upd B p (.tup xs)) (.tup ds) (.ref p) :=
  fun p hp => ⟨p, xs, rfl, .inl (.inl upd_same), r.mono (up_same s hp)⟩
theorem repL {K : PySem.W.Frag} {B H : Hp} {ds : List D} {xs : List V} (s : Same B H) (r : RepsF K B ds xs) : ∀ p, H p = none → RepF K (upd B p (.lst xs)) (.lst false ds) (.ref p) :=
  fun p hp => ⟨p, xs, rfl, upd_same, r.mono (up_same s hp)⟩
theorem gTup_some {ds : List D} {z : D} (h : gTup ds = some z) : ds.length ≤ 1000 ∧ z = .tup ds := by
  unfold gTup at h; split at h
  · cases h; exact ⟨‹_›, rfl⟩
  · cases h
theorem gLst_some {ds : List D} {z : D} (h : gLst ds = some z) : ds.length ≤ 1000 ∧ z = .lst false ds := by
  unfold gLst at h; split at h
  · cases h; exact ⟨‹_›, rfl⟩
  · cases h
theorem pem_tup {es : List Expr} {m : M (List D)} {x1} {pos : Pos} (h : PAM X W q es m) : PEM X W q (.Tuple es x1 pos) (eFn gTup m) :=
  pe_imp (pe_tup h) fun σ H Q hq => can_fn (r := fun xs H Q => xs.length ≤ sizeLine ∧ ∀ p, H p = none → Q (.ref p) (upd H p (.tup xs))) (fun B H xs z us s rs e Q k => by
    obtain ⟨hl, rfl⟩ := gTup_some e
    exact ⟨by rw [rs.length]; exact sz1000 hl, sem_obj s (repT s rs) k⟩) hq
theorem pem_lst {es : List Expr} {m : M (List D)} {pos : Pos} (h : PAM X W q es m) : PEM X W q (.List es pos) (eFn gLst m) :=
  pe_imp (pe_lst h) fun σ H Q hq => can_fn (r := fun xs H Q => xs.length ≤ sizeLine ∧ ∀ p, H p = none → Q (.ref p) (upd H p (.lst xs))) (fun B H xs z us s rs e Q k => by
    obtain ⟨hl, rfl⟩ := gLst_some e
    exact ⟨by rw [rs.length]; exact sz1000 hl, sem_obj s (repL s rs) k⟩) hq

def IxS (X : Cx) (g : D → D → Option D) : Prop := ∃ r, IxR X r ∧ OpSem X.K r g
theorem pem_ix {g : D → D → Option D} {a b : Expr} {m n : M D} {pos : Pos} (s : IxS X g) (ha : PEM X W q1 a m) (hb : PEM X W q2 b n) (hs : PlainIx b := by intro _ _; rfl) : PEM X W (q1 && q2) (.Subscript a b pos) (eOp g m n) := by
  obtain ⟨r, hr, sem⟩ := s
  exact pe_imp (pe_ix hr ha hb hs) fun σ H Q h => can_op sem h
def eUn (g : D → Option D) (m : M D) : M D := bnd m fun x => ofO (g x)
def UnS (X : Cx) (f : Value → Sem Value) (g : D → Option D) : Prop := ∃ r, UnR X f r ∧ ∀ (B H : Hp) (x z : D) (u : V), Same B H → RepF X.K B x u → g x = some z → ∀ Q : VK, (∀ B' H' w, Ext B H B' H' → RepF X.K B' z w → Q w H') → r u H Q
theorem pem_un {op : UnaryOp} {g : D → Option D} {a : Expr} {m : M D} {pos : Pos} (s : UnS X (unaryOp op) g) (ha : PEM X W q a m) : PEM X W q (.UnaryOp op a pos) (eUn g m) := by
  obtain ⟨r, hr, sem⟩ := s
  refine pe_imp (pe_un hr ha) fun σ H Q h => ?_
  obtain ⟨B, F, ρ, fp, r0, ρ', E, hm, post⟩ := h
  refine can_bnd E hm post.err fun d ρ1 B1 H1 fp1 x hm1 s1 E1 rx k1 => ?_
  obtain ⟨z, e1, e2, e3⟩ := ofO_some hm1
  subst e2 e3
  refine sem B1 H1 d z x E1.bh rx e1 Q fun B3 H3 w ex rw => post B3 H3 fp1 w (s1.trans ex.bb) (E1.ext ex) rw fun qq => ?_
  obtain ⟨a1, a2, a3⟩ := k1 qq
  exact ⟨a1, a2, a3.trans ex⟩
end
end G

namespace G
open PySem PySem.Spec PyProof.Rows L2

mutual
def py : D → Option PyData
  | .top => none
  | .drw _ _ _ => none
  | .non => some .none
  | .bl b => some (.bool b)
  | .int i => some (.int i)
  | .str s => some (.str s)
  | .ty _ => none
  | .tup ds => (pys ds).map .tuple
  | .sq ds => (pys ds).map .list
  | .lst _ ds => (pys ds).map .list
  | .dk _ _ _ => none
  | .dt _ _ _ => none
  | .exc _ _ _ _ => none
def pys : List D → Option (List PyData)
  | [] => some []
  | d :: ds => match py d, pys ds with
    | some p, some ps => some (p :: ps)
    | _, _ => none
end
section
variable {K : PySem.W.Frag} {B H : Hp}
theorem sqL_of {a : Addr} {xs : List V} (h : B a = some (.lst xs)) : SqL K B a xs := .inl (.inl h)
mutual
theorem Rep.dp (s : Same B H) : ∀ (d : D) {v : V} {p : PyData}, RepF K B d v → py d = some p → Dp K H v p
  | .top, _, _, _, e => by unfold py at e; cases e
  | .drw _ _ _, _, _, _, e => by unfold py at e; cases e
  | .non, _, _, h, e => by unfold py at e; cases e; cases (show _ = V.non from h); exact .non
  | .bl b, _, _, h, e => by unfold py at e; cases e; cases (show _ = V.bl b from h); exact .bl b
  | .int i, _, _, h, e => by unfold py at e; cases e; cases (show _ = V.int i from h); exact .int i
  | .str x, _, _, h, e => by unfold py at e; cases e; cases (show _ = V.str x from h); exact .str x
  | .ty _, _, _, _, e => by unfold py at e; cases e
  | .dk _ _ _, _, _, _, e => by unfold py at e; cases e
  | .dt _ _ _, _, _, _, e => by unfold py at e; cases e
  | .tup ds, _, _, ⟨a, xs, e1, q, r⟩, e => by
    unfold py at e
    cases ep : pys ds with
    | none => rw [ep] at e; cases e
    | some ps => rw [ep] at e; cases e; subst e1; exact .tup (sqT_mono s q) (Reps.dp s ds (RepsF.of r) ep)
  | .sq ds, _, _, ⟨a, xs, e1, q, r⟩, e => by
    unfold py at e
    cases ep : pys ds with
    | none => rw [ep] at e; cases e
    | some ps => rw [ep] at e; cases e; subst e1; exact .lst (sqL_mono s q) (Reps.dp s ds (RepsF.of r) ep)
  | .lst false ds, _, _, ⟨a, xs, e1, q, r⟩, e => by
    unfold py at e
    cases ep : pys ds with
    | none => rw [ep] at e; cases e
    | some ps => rw [ep] at e; cases e; subst e1; exact .lst (sqL_mono s (sqL_of q)) (Reps.dp s ds (RepsF.of r) ep)
  | .lst true ds, _, _, ⟨a, xs, T, e1, z, q, r⟩, e => z.elim
theorem Reps.dp (s : Same B H) : ∀ (ds : List D) {xs : List V} {ps : List PyData}, RepsF K B ds xs → pys ds = some ps → DpAll K H xs ps
  | [], _, _, h, e => by unfold pys at e; cases e; rw [show _ = [] from h]; exact .nil
  | d :: ds, _, _, ⟨x, xs', e1, r, rs⟩, e => by
    unfold pys at e
    cases ep : py d with
    | none => rw [ep] at e; cases e
    | some p =>
      cases eq : pys ds with
      | none => rw [ep, eq] at e; cases e
      | some ps => rw [ep, eq] at e; cases e; subst e1; exact .cons (Rep.dp s d r ep) (Reps.dp s ds rs eq)
end
end

section
variable {X : Cx}
theorem opS_int {f : Value → Value → Sem Value} {C : Int → Int → Prop} {h : Int → Int → V} {g : D → D → Option D} {hd : Int → Int → D} (ho : OpR X f (rI C h))
    (hg : ∀ x y z, g x y = some z → ∃ i j, x = .int i ∧ y = .int j ∧ C i j ∧ z = hd i j) (hr : ∀ B i j, RepF X.K B (hd i j) (h i j)) : OpS X f g :=
  ⟨_, ho, fun B H x y z u v s rx ry e Q k => by
    obtain ⟨i, j, rfl, rfl, c, rfl⟩ := hg x y z e
    cases (show u = V.int i from rx)
    cases (show v = V.int j from ry)
    exact ⟨i, j, rfl, rfl, c, k B H _ (Ext.refl s) (hr B i j)⟩⟩
theorem opS_int0 {f : Value → Value → Sem Value} {h : Int → Int → V} {g : D → D → Option D} {hd : Int → Int → D} (ho : OpR X f (rI0 h))
    (hg : ∀ x y z, g x y = some z → ∃ i j, x = .int i ∧ y = .int j ∧ z = hd i j) (hr : ∀ B i j, RepF X.K B (hd i j) (h i j)) : OpS X f g :=
  ⟨_, ho, fun B H x y z u v s rx ry e Q k => by
    obtain ⟨i, j, rfl, rfl, rfl⟩ := hg x y z e
    cases (show u = V.int i from rx)
    cases (show v = V.int j from ry)
    exact ⟨i, j, rfl, rfl, k B H _ (Ext.refl s) (hr B i j)⟩⟩
theorem OpS.or {f : Value → Value → Sem Value} {g g' h : D → D → Option D} (a : OpS X f g) (b : OpS X f g') (hh : ∀ x y z, h x y = some z → g x y = some z ∨ g' x y = some z) : OpS X f h := by
  obtain ⟨r, h1, s1⟩ := a
  obtain ⟨r', h2, s2⟩ := b
  exact ⟨_, h1.or h2, fun B H x y z u v s rx ry e Q k => (hh x y z e).elim (fun e => .inl (s1 B H x y z u v s rx ry e Q k)) fun e => .inr (s2 B H x y z u v s rx ry e Q k)⟩
def addI : D → D → Option D
  | .int i, .int j => some (.int (i + j))
  | _, _ => none
def addS : D → D → Option D
  | .str a, .str b => if a.length + b.length ≤ 1000000 then some (.str (a ++ b)) else none
  | _, _ => none
def addT : D → D → Option D
  | .tup a, .tup b => if a.length + b.length ≤ 1000000 then some (.tup (a ++ b)) else none
  | _, _ => none
def addL : D → D → Option D
  | .lst false a, .lst false b => if a.length + b.length ≤ 1000000 then some (.lst false (a ++ b)) else none
  | _, _ => none
def addD : D → D → Option D
  | .int i, .int j => some (.int (i + j))
  | .str a, .str b => if a.length + b.length ≤ 1000000 then some (.str (a ++ b)) else none
  | .tup a, .tup b => if a.length + b.length ≤ 1000000 then some (.tup (a ++ b)) else none
  | .lst false a, .lst false b => if a.length + b.length ≤ 1000000 then some (.lst false (a ++ b)) else none
  | _, _ => none
theorem mil {n : Nat} (h : n ≤ 1000000) : n ≤ sizeLine := Nat.le_trans h (by rw [sizeLine_eq]; decide)
theorem od_add : OpS X (binaryOp .Add) addD := by
  have h1 : OpS X (binaryOp .Add) addI := opS_int0 (hd := fun i j => .int (i + j)) op_add (fun x y z e => by
    cases x <;> cases y <;> simp [addI] at e
    exact ⟨_, _, rfl, rfl, e.symm⟩) fun _ _ _ => rfl
  have h2 : OpS X (binaryOp .Add) addS := ⟨_, op_add_str, fun B H x y z u v s rx ry e Q k => by
    cases x <;> cases y <;> simp [addS] at e
    obtain ⟨hl, rfl⟩ := e
    cases (show u = V.str _ from rx)
    cases (show v = V.str _ from ry)
    exact ⟨_, _, rfl, rfl, mil hl, k B H _ (Ext.refl s) rfl⟩⟩
  have h3 : OpS X (binaryOp .Add) addT := ⟨_, op_catA, fun B H x y z u v s rx ry e Q k => by
    cases x <;> cases y <;> simp [addT] at e
    rename_i a b
    obtain ⟨hl, rfl⟩ := e
    obtain ⟨p, xs, rfl, qa, ra⟩ := rx
    obtain ⟨p', ys, rfl, qb, rb⟩ := ry
    have la := ra.length
    have lb := rb.length
    refine ⟨p, p', xs, ys, rfl, rfl, sqT_mono s qa, sqT_mono s qb, mil (by omega), fun z => ?_, fun _ z => ?_, fun _ _ => ?_⟩
    · have : a = [] := List.length_eq_zero_iff.mp (by rw [← la, z]; rfl)
      subst this
      exact k B H _ (Ext.refl s) ⟨p', ys, rfl, qb, rb⟩
    · have : b = [] := List.length_eq_zero_iff.mp (by rw [← lb, z]; rfl)
      subst this
      exact k B H _ (Ext.refl s) (by rw [List.append_nil]; exact ⟨p, xs, rfl, qa, ra⟩)
    · exact sem_obj s (repT s (RepsF.append ra rb)) k⟩
  have h4 : OpS X (binaryOp .Add) addL := ⟨_, op_cat, fun B H x y z u v s rx ry e Q k => by
    cases x with
    | lst o a =>
      cases y with
      | lst o' b =>
        cases o <;> cases o' <;> simp [addL] at e
        obtain ⟨hl, rfl⟩ := e
        obtain ⟨p, xs, rfl, qa, ra⟩ := rx
        obtain ⟨p', ys, rfl, qb, rb⟩ := ry
        have la := ra.length
        have lb := rb.length
        exact ⟨p, p', xs, ys, rfl, rfl, s _ _ qa, s _ _ qb, mil (by omega), sem_obj s (repL s (RepsF.append ra rb)) k⟩
      | _ => cases o <;> simp [addL] at e
    | _ => cases y <;> simp [addL] at e⟩
  refine ((h1.or h2 (h := fun x y => (addI x y).orElse fun _ => addS x y) ?_).or (h3.or h4 (h := fun x y => (addT x y).orElse fun _ => addL x y) ?_) ?_)
  · intro x y z e; cases q : addI x y <;> simp_all
  · intro x y z e; cases q : addT x y <;> simp_all
  · intro x y z e
    unfold addD at e
    split at e
    · left; exact e
    · left; exact e
    · right; exact (show (addT _ _).orElse _ = _ by simp only [addT]; rw [e]; rfl)
    · right; exact e
    · cases e
def subD : D → D → Option D
  | .int i, .int j => some (.int (i - j))
  | _, _ => none
theorem od_sub : OpS X (binaryOp .Sub) subD := opS_int0 (hd := fun i j => .int (i - j)) op_sub (fun x y z e => by
    cases x <;> cases y <;> simp [subD] at e
    exact ⟨_, _, rfl, rfl, e.symm⟩) fun _ _ _ => rfl
def mulD : D → D → Option D
  | .int i, .int j => if i.natAbs.log2 + j.natAbs.log2 < 1000000 then some (.int (i * j)) else none
  | .tup a, .int k => if a ≠ [] ∧ 1 ≤ k ∧ k ≤ 1000 ∧ a.length ≤ 1000 then some (.tup (List.replicate k.toNat a).flatten) else none
  | .lst false a, .int k => if -(2 ^ 63) ≤ k ∧ k < 2 ^ 63 ∧ a.length * k.toNat ≤ 1000000 then some (.lst false (List.replicate k.toNat a).flatten) else none
  | _, _ => none
theorem RepsF.rep {K : PySem.W.Frag} {B : Hp} {ds : List D} {xs : List V} (h : RepsF K B ds xs) : ∀ n : Nat, RepsF K B (List.replicate n ds).flatten (List.replicate n xs).flatten
  | 0 => RepsF.nil
  | n + 1 => by rw [List.replicate_succ, List.replicate_succ, List.flatten_cons, List.flatten_cons]; exact RepsF.append h (RepsF.rep h n)
theorem tuple_mul1W (l : Addr) (items : Array Value) (n : Nat) (dd : Option Addr) (sl : Array (Option Value)) (u : Tok) :
    Meets (Builtin.«tuple.__mul__» ⟨[.ref l, .int 1 u], []⟩) (fun _ R s => s.heap.get? l = some { cls := .type "tuple", dict := dd, data := .seq items n, slots := sl } ∧ R (.ok (.ret (Value.ref l))) s) :=
  .of_wp fun prog w A R s h => by
    obtain ⟨hp, g, d, tk, os⟩ := s
    obtain ⟨hl, h⟩ := h
    have f1 := AutoSeq1.idx_int
    wp_walk using wpAny_loadPart' hl
    repeat (first
      | (refine wpAny_ite_false (by decide) ?_; wp_walk using wpAny_loadPart' hl)
      | (refine wpAny_ite_true (by rw [show ((1 : Int) == 1) = true from rfl, Bool.or_true]) ?_; wp_walk using wpAny_loadPart' hl)
      | (refine wpAny_ite_true (by decide) ?_; wp_walk using wpAny_loadPart' hl))
    exact ⟨_, rfl, h⟩
def rRep1 (K : PySem.W.Frag) : R2 := fun x y H Q => ∃ l xs, x = .ref l ∧ y = .int 1 ∧ SqT K H l xs ∧ Q (.ref l) H
theorem op_rep1 : OpR X (binaryOp .Mult) (rRep1 X.K) := by
  intro pins s σ H x y v u Q I rx ry h
  obtain ⟨l, xs, rfl, rfl, hT, q⟩ := h
  cases rx
  obtain ⟨t, rfl⟩ := ry
  obtain ⟨its, r, ⟨⟨cls, dd, data, sl⟩, ho, hc, n, hd⟩, hs⟩ := I.tuple hT
  simp only at hc hd
  subst hc hd
  refine wpAny_binaryOp_repeat_ref (T := "tuple") (U := "int") (by decide) ⟨_, ho, rfl⟩ (fun s' => typeIs_int s' 1 t) noFill_tuple_mul F.fills_int_mul F.slot_int_rmul repeat_tuple F.slot_int_index.lookup
    (call_meets F.slot_int_rmul (typeIs_int s 1 t) F.entry_int_rmul (F.args_int_rmul_2 _ _) (int_rmul_tuple 1 t l its.toArray n dd sl)
      ⟨ho, rfl, ⟨_, ho, rfl⟩, call_meets F.slot_tuple_mul ⟨_, ho, rfl⟩ F.entry_tuple_mul (F.args_tuple_mul_2 _ _) (tuple_mul1W l its.toArray n dd sl t) ⟨ho, ?_⟩⟩)
  exact ⟨.ref l, H, I, rfl, q⟩
theorem od_mul : OpS X (binaryOp .Mult) mulD := by
  have h1 : OpS X (binaryOp .Mult) (fun x y => match x, y with | .int i, .int j => if i.natAbs.log2 + j.natAbs.log2 < 1000000 then some (.int (i * j)) else none | _, _ => none) :=
    opS_int (hd := fun i j => .int (i * j)) op_mulW (fun x y z e => by
      cases x <;> cases y <;> simp at e
      exact ⟨_, _, rfl, rfl, e.1, e.2.symm⟩) fun _ _ _ => rfl
  have h2 : OpS X (binaryOp .Mult) (fun x y => match x, y with | .tup a, .int k => if a ≠ [] ∧ 2 ≤ k ∧ k ≤ 1000 ∧ a.length ≤ 1000 then some (.tup (List.replicate k.toNat a).flatten) else none | _, _ => none) :=
    ⟨_, op_repT, fun B H x y z u v s rx ry e Q kk => by
      cases x <;> cases y <;> simp at e
      rename_i a k
      obtain ⟨⟨hn, h2, h3, hl⟩, rfl⟩ := e
      obtain ⟨p, xs, rfl, qa, ra⟩ := rx
      cases (show v = V.int k from ry)
      have la := ra.length
      exact ⟨p, k, xs, rfl, rfl, sqT_mono s qa, fun z => hn (List.length_eq_zero_iff.mp (by rw [← la, z]; rfl)), h2, h3, by omega, sem_obj s (repT s (RepsF.rep ra _)) kk⟩⟩
  have h2b : OpS X (binaryOp .Mult) (fun x y => match x, y with | .tup a, .int k => if k = 1 then some (.tup a) else none | _, _ => none) :=
    ⟨_, op_rep1, fun B H x y z u v s rx ry e Q kk => by
      cases x <;> cases y <;> simp at e
      rename_i a k
      obtain ⟨rfl, rfl⟩ := e
      obtain ⟨p, xs, rfl, qa, ra⟩ := rx
      cases (show v = V.int _ from ry)
      exact ⟨p, xs, rfl, rfl, sqT_mono s qa, kk B H _ (Ext.refl s) ⟨p, xs, rfl, qa, ra⟩⟩⟩
  have h2c : OpS X (binaryOp .Mult) (fun x y => match x, y with | .tup a, .int k => if a ≠ [] ∧ 1 ≤ k ∧ k ≤ 1000 ∧ a.length ≤ 1000 then some (.tup (List.replicate k.toNat a).flatten) else none | _, _ => none) := by
    refine h2.or h2b (fun x y z e => ?_)
    split at e
    · rename_i a k
      by_cases h : a ≠ [] ∧ 1 ≤ k ∧ k ≤ 1000 ∧ a.length ≤ 1000
      · rw [if_pos h] at e
        by_cases h1 : k = 1
        · subst h1
          right
          rw [← e]
          simp
        · left
          rw [if_pos ⟨h.1, by omega, h.2.2.1, h.2.2.2⟩]
          exact e
      · rw [if_neg h] at e; cases e
    · cases e
  have h3 : OpS X (binaryOp .Mult) (fun x y => match x, y with | .lst false a, .int k => if -(2 ^ 63) ≤ k ∧ k < 2 ^ 63 ∧ a.length * k.toNat ≤ 1000000 then some (.lst false (List.replicate k.toNat a).flatten) else none | _, _ => none) :=
    ⟨_, op_rep, fun B H x y z u v s rx ry e Q kk => by
      cases x with
      | lst o a =>
        cases o with
        | true => cases y <;> simp at e
        | false =>
          cases y <;> simp at e
          rename_i k
          obtain ⟨⟨h2, h3, hl⟩, rfl⟩ := e
          obtain ⟨p, xs, rfl, qa, ra⟩ := rx
          cases (show v = V.int k from ry)
          have la := ra.length
          exact ⟨p, k, xs, rfl, rfl, s _ _ qa, h2, h3, mil (by rw [la]; exact hl), sem_obj s (repL s (RepsF.rep ra _)) kk⟩
      | _ => cases y <;> simp at e⟩
  refine (h1.or (h2c.or h3 (h := fun x y => match x, y with
    | .tup a, .int k => if a ≠ [] ∧ 1 ≤ k ∧ k ≤ 1000 ∧ a.length ≤ 1000 then some (.tup (List.replicate k.toNat a).flatten) else none
    | .lst false a, .int k => if -(2 ^ 63) ≤ k ∧ k < 2 ^ 63 ∧ a.length * k.toNat ≤ 1000000 then some (.lst false (List.replicate k.toNat a).flatten) else none
    | _, _ => none) ?_) ?_)
  · intro x y z e
    split at e
    · left; exact e
    · right; exact e
    · cases e
  · intro x y z e
    unfold mulD at e
    split at e
    · left; exact e
    · right; exact e
    · right; exact e
    · cases e
def fdivD : D → D → Option D
  | .int i, .int j => if j ≠ 0 ∧ j.natAbs.log2 < 9000 then some (.int (i.fdiv j)) else none
  | _, _ => none
theorem od_fdiv : OpS X (binaryOp .FloorDiv) fdivD := opS_int (C := fun _ j => j ≠ 0 ∧ j.natAbs.log2 < 9000) (h := fun i j => .int (i.fdiv j)) (hd := fun i j => .int (i.fdiv j))
  (opI fun _ _ _ _ _ _ _ hc q => floordiv_int hc.1 q (.inl (PyProof.noPylong_of_log2 hc.2))) (fun x y z e => by
    cases x <;> cases y <;> simp [fdivD] at e
    exact ⟨_, _, rfl, rfl, e.1, e.2.symm⟩) fun _ _ _ => rfl
def modD : D → D → Option D
  | .int i, .int j => if j ≠ 0 then some (.int (i.fmod j)) else none
  | _, _ => none
theorem od_mod : OpS X (binaryOp .Mod) modD := opS_int (hd := fun i j => .int (i.fmod j)) op_modN (fun x y z e => by
    cases x <;> cases y <;> simp [modD] at e
    exact ⟨_, _, rfl, rfl, e.1, e.2.symm⟩) fun _ _ _ => rfl
def powD : D → D → Option D
  | .int i, .int j => if 0 ≤ j ∧ (Builtin.Int.intBits i : Int) * j ≤ 2 ^ 27 then some (.int (i ^ j.toNat)) else none
  | _, _ => none
theorem od_pow : OpS X (binaryOp .Pow) powD := opS_int (C := fun i j => 0 ≤ j ∧ (Builtin.Int.intBits i : Int) * j ≤ 2 ^ 27) (h := fun i j => .int (i ^ j.toNat)) (hd := fun i j => .int (i ^ j.toNat))
  (opI fun _ _ _ _ _ _ _ hc q => pow_int hc.1 hc.2 q) (fun x y z e => by
    cases x <;> cases y <;> simp [powD] at e
    exact ⟨_, _, rfl, rfl, e.1, e.2.symm⟩) fun _ _ _ => rfl
def negD : D → Option D
  | .int i => some (.int (-i))
  | _ => none
theorem ud_neg : UnS X (unaryOp .USub) negD := ⟨_, un_neg, fun B H x z u s rx e Q k => by
  cases x <;> simp [negD] at e
  subst e
  cases (show u = V.int _ from rx)
  exact ⟨_, rfl, k B H _ (Ext.refl s) rfl⟩⟩

def ltD : D → D → Option D
  | .int i, .int j => some (.bl (decide (i < j)))
  | _, _ => none
def leD : D → D → Option D
  | .int i, .int j => some (.bl (decide (i ≤ j)))
  | _, _ => none
def gtD : D → D → Option D
  | .int i, .int j => some (.bl (decide (j < i)))
  | _, _ => none
def geD : D → D → Option D
  | .int i, .int j => some (.bl (decide (j ≤ i)))
  | _, _ => none
theorem od_lt : OpS X (compareOp .Lt) ltD := opS_int0 (hd := fun i j => .bl (decide (i < j))) op_lt (fun x y z e => by
    cases x <;> cases y <;> simp [ltD] at e
    exact ⟨_, _, rfl, rfl, e.symm⟩) fun _ _ _ => rfl
theorem od_le : OpS X (compareOp .LtE) leD := opS_int0 (hd := fun i j => .bl (decide (i ≤ j))) op_le (fun x y z e => by
    cases x <;> cases y <;> simp [leD] at e
    exact ⟨_, _, rfl, rfl, e.symm⟩) fun _ _ _ => rfl
theorem od_gt : OpS X (compareOp .Gt) gtD := opS_int0 (hd := fun i j => .bl (decide (j < i))) op_gt (fun x y z e => by
    cases x <;> cases y <;> simp [gtD] at e
    exact ⟨_, _, rfl, rfl, e.symm⟩) fun _ _ _ => rfl
theorem od_ge : OpS X (compareOp .GtE) geD := opS_int0 (hd := fun i j => .bl (decide (j ≤ i))) op_ge (fun x y z e => by
    cases x <;> cases y <;> simp [geD] at e
    exact ⟨_, _, rfl, rfl, e.symm⟩) fun _ _ _ => rfl
def eqP (x y : D) : Option Bool := match py x, py y with
  | some p, some q => if SeqAt.shaped p = true ∧ SeqAt.shaped q = true then some (PyData.eqv p q) else none
  | _, _ => none
def eqD (x y : D) : Option D := match x, y with
  | .str a, .str b => some (.bl (decide (a = b)))
  | x, y => (eqP x y).map .bl
def neD (x y : D) : Option D := match x, y with
  | .str a, .str b => some (.bl (!decide (a = b)))
  | x, y => (eqP x y).map fun b => .bl (!b)
theorem eqP_some {x y : D} {b : Bool} (h : eqP x y = some b) : ∃ p q, py x = some p ∧ py y = some q ∧ SeqAt.shaped p = true ∧ SeqAt.shaped q = true ∧ b = PyData.eqv p q := by
  unfold eqP at h
  cases e1 : py x with
  | none => rw [e1] at h; cases h
  | some p =>
    cases e2 : py y with
    | none => rw [e1, e2] at h; cases h
    | some q =>
      rw [e1, e2] at h
      simp only at h
      split at h
      · rename_i c
        cases h
        exact ⟨p, q, rfl, rfl, c.1, c.2, rfl⟩
      · cases h
theorem dec_strV {a b : Str} : decide (V.str a = V.str b) = decide (a = b) := by
  by_cases e : a = b
  · subst e; simp
  · have h : ¬ V.str a = V.str b := fun q => e (V.str.inj q)
    rw [decide_eq_false h, decide_eq_false e]
theorem od_eq (hu : X.A.units + 64 < cLine) : OpS X (compareOp .Eq) eqD := by
  have h1 : OpS X (compareOp .Eq) (fun x y => (eqP x y).map .bl) := ⟨_, op_eqD hu, fun B H x y z u v s rx ry e Q k => by
    obtain ⟨b, q, rfl⟩ := Option.map_eq_some_iff.mp e
    · obtain ⟨p, p', e1, e2, s1, s2, rfl⟩ := eqP_some q
      exact ⟨p, p', Rep.dp s x rx e1, Rep.dp s y ry e2, s1, s2, k B H _ (Ext.refl s) rfl⟩⟩
  have h2 : OpS X (compareOp .Eq) (fun x y => match x, y with | .str a, .str b => some (.bl (decide (a = b))) | _, _ => none) := ⟨_, op_eq, fun B H x y z u v s rx ry e Q k => by
    cases x <;> cases y <;> simp at e
    subst e
    cases (show u = V.str _ from rx)
    cases (show v = V.str _ from ry)
    exact ⟨rfl, k B H _ (Ext.refl s) (by rw [dec_strV]; simp [Rep])⟩⟩
  refine h1.or h2 fun x y z e => ?_
  unfold eqD at e
  split at e
  · exact .inr e
  · exact .inl e
theorem od_ne (hu : X.A.units + 64 < cLine) : OpS X (compareOp .NotEq) neD := by
  have h1 : OpS X (compareOp .NotEq) (fun x y => (eqP x y).map fun b => .bl (!b)) := ⟨_, op_neD hu, fun B H x y z u v s rx ry e Q k => by
    obtain ⟨b, q, rfl⟩ := Option.map_eq_some_iff.mp e
    · obtain ⟨p, p', e1, e2, s1, s2, rfl⟩ := eqP_some q
      exact ⟨p, p', Rep.dp s x rx e1, Rep.dp s y ry e2, s1, s2, k B H _ (Ext.refl s) rfl⟩⟩
  have h2 : OpS X (compareOp .NotEq) (fun x y => match x, y with | .str a, .str b => some (.bl (!decide (a = b))) | _, _ => none) := ⟨_, op_ne, fun B H x y z u v s rx ry e Q k => by
    cases x <;> cases y <;> simp at e
    subst e
    cases (show u = V.str _ from rx)
    cases (show v = V.str _ from ry)
    exact ⟨rfl, k B H _ (Ext.refl s) (by rw [dec_strV]; simp [Rep])⟩⟩
  refine h1.or h2 fun x y z e => ?_
  unfold neD at e
  split at e
  · exact .inr e
  · exact .inl e
/-- is None, is True -/
def isNon : D → Option Bool
  | .top => none
  | .non => some true
  | _ => some false
def isD : D → D → Option D
  | x, .non => (isNon x).map .bl
  | .bl a, .bl b => some (.bl (decide (a = b)))
  | _, _ => none
def isnD : D → D → Option D
  | x, .non => (isNon x).map fun b => .bl (!b)
  | .bl a, .bl b => some (.bl (!decide (a = b)))
  | _, _ => none
theorem rep_non {K : PySem.W.Frag} {B : Hp} {d : D} {v : V} {b : Bool} (h : RepF K B d v) (hb : isNon d = some b) : decide (v = .non) = b := by
  cases d with
  | top => cases hb
  | drw c l k => obtain ⟨a, _, _, e, _⟩ := h; cases hb; rw [e]; rfl
  | non => cases hb; rw [show v = .non from h]; rfl
  | bl b => cases hb; rw [show v = .bl b from h]; rfl
  | int i => cases hb; rw [show v = .int i from h]; rfl
  | str s => cases hb; rw [show v = .str s from h]; rfl
  | ty n => cases hb; rw [show v = .ty n from h]; rfl
  | tup ds => obtain ⟨a, _, e, _⟩ := h; cases hb; rw [e]; rfl
  | sq ds => obtain ⟨a, _, e, _⟩ := h; cases hb; rw [e]; rfl
  | lst o ds => cases o with
    | false => obtain ⟨a, _, e, _⟩ := h; cases hb; rw [e]; rfl
    | true => obtain ⟨a, _, _, e, _⟩ := h; cases hb; rw [e]; rfl
  | dk o ks ds => cases o with
    | false => obtain ⟨a, _, e, _⟩ := h; cases hb; rw [e]; rfl
    | true => obtain ⟨a, _, _, e, _⟩ := h; cases hb; rw [e]; rfl
  | dt o ks ds => cases o with
    | false => obtain ⟨a, _, e, _⟩ := h; cases hb; rw [e]; rfl
    | true => obtain ⟨a, _, _, e, _⟩ := h; cases hb; rw [e]; rfl
  | exc a d ks ds => obtain ⟨fs, e, _⟩ := h; cases hb; rw [e]; rfl
theorem od_is : OpS X (compareOp .Is) isD := by
  have h1 : OpS X (compareOp .Is) (fun x y => match y with | .non => (isNon x).map .bl | _ => none) := ⟨_, op_isN, fun B H x y z u v s rx ry e Q k => by
    cases y with
    | non =>
      obtain ⟨b, hb, rfl⟩ := Option.map_eq_some_iff.mp e
      refine ⟨ry, k B H _ (Ext.refl s) ?_⟩
      rw [rep_non rx hb]; simp [Rep]
    | _ => simp at e⟩
  have h2 : OpS X (compareOp .Is) (fun x y => match x, y with | .bl a, .bl b => some (.bl (decide (a = b))) | _, _ => none) := ⟨_, op_isBl, fun B H x y z u v s rx ry e Q k => by
    cases x <;> cases y <;> simp at e
    subst e
    cases (show u = V.bl _ from rx)
    cases (show v = V.bl _ from ry)
    exact ⟨_, _, rfl, rfl, k B H _ (Ext.refl s) (by simp [Rep])⟩⟩
  exact h1.or h2 fun x y z e => by
    cases y with
    | non => left; cases x <;> simpa [isD] using e
    | _ => cases x <;> simp_all [isD]
theorem od_isn : OpS X (compareOp .IsNot) isnD := by
  have h1 : OpS X (compareOp .IsNot) (fun x y => match y with | .non => (isNon x).map fun b => .bl (!b) | _ => none) := ⟨_, op_notN, fun B H x y z u v s rx ry e Q k => by
    cases y with
    | non =>
      obtain ⟨b, hb, rfl⟩ := Option.map_eq_some_iff.mp e
      refine ⟨ry, k B H _ (Ext.refl s) ?_⟩
      rw [rep_non rx hb]; simp [Rep]
    | _ => simp at e⟩
  have h2 : OpS X (compareOp .IsNot) (fun x y => match x, y with | .bl a, .bl b => some (.bl (!decide (a = b))) | _, _ => none) := ⟨_, op_notBl, fun B H x y z u v s rx ry e Q k => by
    cases x <;> cases y <;> simp at e
    subst e
    cases (show u = V.bl _ from rx)
    cases (show v = V.bl _ from ry)
    exact ⟨_, _, rfl, rfl, k B H _ (Ext.refl s) (by simp [Rep])⟩⟩
  exact h1.or h2 fun x y z e => by
    cases y with
    | non => left; cases x <;> simpa [isnD] using e
    | _ => cases x <;> simp_all [isnD]

def ixD : D → D → Option D
  | .tup ds, .int i => atI ds i
  | .sq ds, .int i => atI ds i
  | .lst false ds, .int i => atI ds i
  | .str z, .int i => if z.length ≤ 1000000 then (atI z.cps.toList i).map fun c => .str ⟨#[c]⟩ else none
  | _, _ => none
theorem atI_rep {K : PySem.W.Frag} {B : Hp} {ds : List D} {xs : List V} {i : Int} {d : D} (r : RepsF K B ds xs) (h : atI ds i = some d) : ∃ x, atI xs i = some x ∧ RepF K B d x := by
  unfold atI at h ⊢
  rw [r.length]
  cases e : ixN ds.length i with
  | none => rw [e] at h; cases h
  | some j =>
    rw [e] at h
    obtain ⟨x, h1, h2⟩ := r.get (i := j) (d := d) h
    exact ⟨x, h1, h2⟩
theorem id_ix : IxS X ixD := ⟨_, ix_seq, fun B H x y z u v s rx ry e Q k => by
  cases x with
  | tup ds =>
    cases y <;> simp [ixD] at e
    obtain ⟨a, xs, rfl, q, r⟩ := rx
    cases (show v = V.int _ from ry)
    obtain ⟨w, h1, h2⟩ := atI_rep r e
    exact .inr (.inl ⟨a, xs, _, w, rfl, rfl, sqT_mono s q, h1, k B H _ (Ext.refl s) h2⟩)
  | sq ds =>
    cases y <;> simp [ixD] at e
    obtain ⟨a, xs, rfl, q, r⟩ := rx
    cases (show v = V.int _ from ry)
    obtain ⟨w, h1, h2⟩ := atI_rep r e
    exact .inl ⟨a, xs, _, w, rfl, rfl, sqL_mono s q, h1, k B H _ (Ext.refl s) h2⟩
  | lst o ds =>
    cases o with
    | true => cases y <;> simp [ixD] at e
    | false =>
      cases y <;> simp [ixD] at e
      obtain ⟨a, xs, rfl, q, r⟩ := rx
      cases (show v = V.int _ from ry)
      obtain ⟨w, h1, h2⟩ := atI_rep r e
      exact .inl ⟨a, xs, _, w, rfl, rfl, sqL_mono s (sqL_of q), h1, k B H _ (Ext.refl s) h2⟩
  | str z' =>
    cases y <;> simp [ixD] at e
    obtain ⟨hl, c, hc, rfl⟩ := e
    cases (show u = V.str _ from rx)
    cases (show v = V.int _ from ry)
    exact .inr (.inr ⟨_, _, c, rfl, rfl, mil hl, hc, k B H _ (Ext.refl s) rfl⟩)
  | _ => cases y <;> simp [ixD] at e⟩
end
end G

namespace G
open PySem PySem.Spec PyProof.Rows L2

structure ValOk (K : PySem.W.Frag) (B F H : Hp) (fp : Nat → FS) (d : D) (v : V) (S : FS) : Prop where
  rep : Rep K B H d v S
  out : ∀ a, S a → B a = none ∧ F a = none ∧ H a ≠ none ∧ ∀ i, ¬ fp i a
theorem ValOk.of {K : PySem.W.Frag} {B F H : Hp} {fp : Nat → FS} {d : D} {v : V} (h : RepF K B d v) : ValOk K B F H fp d v noF := ⟨RepF.to h, fun _ z => z.elim⟩
def PostO (K : PySem.W.Frag) (mg : Str → Option Value) (W : WX) (B F : Hp) (σ : L2.St) (Q : VK) : Except Xn D → En → Prop
  | .ok d, ρ' => ∀ B' H' fp' v S, Same B B' → EnvOk K B' F H' σ ρ' fp' → ValOk K B' F H' fp' d v S → Q v H'
  | .error x, ρ' => ErrP K mg W B F σ x ρ'
def canO (K : PySem.W.Frag) (mg : Str → Option Value) (W : WX) (m : M D) : TE := fun σ H Q => ∃ B F ρ fp r ρ', EnvOk K B F H σ ρ fp ∧ m ρ = some (r, ρ') ∧ PostO K mg W B F σ Q r ρ'
/-- an expression whose value is its receiver's own -/
def PEO (X : Cx) (W : WX) (e : Expr) (m : M D) : Prop := PE X e (canO X.K X.mg W m)
section
variable {X : Cx} {W : WX} {q q1 q2 q3 : Bool} {K : PySem.W.Frag} {mg : Str → Option Value}
theorem peo_of {e : Expr} {m : M D} (h : PEM X W q e m) : PEO X W e m := pe_imp h fun σ H Q h => by
  obtain ⟨B, F, ρ, fp, r, ρ', E, hm, post⟩ := h
  refine ⟨B, F, ρ, fp, r, ρ', E, hm, ?_⟩
  cases r with
  | error x => exact post
  | ok d => exact fun B' H' fp' v s E' rv _ => post B' H' fp' v noF s E' (ValOk.of rv)
/-- behind it the value is frozen -/
def eFz (m : M D) : M D := bnd m fun d => rt (fz d)
theorem EnvOk.grown {B F H : Hp} {σ : L2.St} {ρ : En} {fp : Nat → FS} (E : EnvOk K B F H σ ρ fp) {S : FS} (out : ∀ a, S a → B a = none ∧ F a = none ∧ H a ≠ none ∧ ∀ i, ¬ fp i a) : EnvOk K (grow B H S) F H σ ρ fp := by
  have sb : Same B (grow B H S) := same_grow fun a z => (out a z).1
  refine ⟨grow_same E.bh, E.fh, fun a o e => ?_, fun i d e => ?_, E.apart, fun i a z => ⟨?_, (E.out i a z).2⟩, E.live, E.len⟩
  · by_cases z : S a
    · rw [(out a z).2.1] at e; cases e
    · rw [grow_out z]; exact E.bf a o e
  · obtain ⟨v, h1, h2⟩ := E.rep i d e
    exact ⟨v, h1, Rep.mono sb d (fun _ _ => rfl) (fun _ z => z) h2⟩
  · by_cases y : S a
    · exact absurd z ((out a y).2.2.2 i)
    · rw [grow_out y]; exact (E.out i a z).1
theorem pem_fz {e : Expr} {m : M D} (h : PEO X W e m) : PEM X W false e (eFz m) := pe_imp h fun σ H Q h => by
  obtain ⟨B, F, ρ, fp, r, ρ', E, hm, post⟩ := h
  unfold eFz bnd at hm
  cases e1 : m ρ with
  | none => rw [e1] at hm; cases hm
  | some p =>
    obtain ⟨r1, ρ1⟩ := p
    rw [e1] at hm
    refine ⟨B, F, ρ, fp, r1, ρ1, E, e1, ?_⟩
    cases r1 with
    | error x => cases hm; exact post
    | ok d =>
      cases hm
      refine fun B' H' fp' v S s E' vo => ?_
      have sb : Same B' (grow B' H' S) := same_grow fun a z => (vo.out a z).1
      exact post (grow B' H' S) H' fp' v (s.trans sb) (E'.grown vo.out) (Rep.fz sb d (fun a o z e => by rw [grow_in z]; exact e) vo.rep) fun z => nomatch z

inductive Fl where
  | nx | bk | ct
  | rt (d : D)
def Pin (P : Nat → Bool) (σ σ' : L2.St) : Prop := ∀ i : Nat, P i = true → σ'[i]? = σ[i]?
def pinOf (m : List Bool) : Nat → Bool := fun i => m.getD i false
theorem Pin.refl {P : Nat → Bool} {σ : L2.St} : Pin P σ σ := fun _ _ => rfl
theorem Pin.trans {P : Nat → Bool} {σ σ1 σ2 : L2.St} (a : Pin P σ σ1) (b : Pin P σ1 σ2) : Pin P σ σ2 := fun i h => (b i h).trans (a i h)
theorem Pin.set {P : Nat → Bool} {σ : L2.St} {i : Nat} {o : Option V} (h : P i = false) : Pin P σ (σ.set i o) := fun j hj => by
  have : i ≠ j := fun e => by rw [e, hj] at h; cases h
  rw [List.getElem?_set_ne this]
def PostS (K : PySem.W.Frag) (mg : Str → Option Value) (W : WX) (P : Nat → Bool) (B F : Hp) (σ : L2.St) (D : Ends) : Except Xn Fl → En → Prop
  | .ok .nx, ρ' => ∀ B' H' σ' fp', Same B B' → EnvOk K B' F H' σ' ρ' fp' → Pin P σ σ' → D.nx σ' H'
  | .ok .bk, ρ' => ∀ B' H' σ' fp', Same B B' → EnvOk K B' F H' σ' ρ' fp' → Pin P σ σ' → D.bk σ' H'
  | .ok .ct, ρ' => ∀ B' H' σ' fp', Same B B' → EnvOk K B' F H' σ' ρ' fp' → Pin P σ σ' → D.ct σ' H'
  | .ok (.rt d), ρ' => ∀ B' H' σ' fp' v S, Same B B' → EnvOk K B' F H' σ' ρ' fp' → Pin P σ σ' → ValOk K B' F H' fp' d v S → D.rt v H'
  | .error x, ρ' => ∀ B' H' σ' fp' cls dd, Same B B' → EnvOk K B' F H' σ' ρ' fp' → Pin P σ σ' → XRep K mg B' x cls dd → W cls dd σ' H'
theorem PostS.up {W : WX} {P : Nat → Bool} {B B1 F : Hp} {σ σ1 : L2.St} {D : Ends} {r : Except Xn Fl} {ρ' : En} (h : PostS K mg W P B F σ D r ρ') (s : Same B B1) (p : Pin P σ σ1) : PostS K mg W P B1 F σ1 D r ρ' := by
  cases r with
  | error x => exact fun B' H' σ' fp' cls dd s' E' p' => h B' H' σ' fp' cls dd (s.trans s') E' (p.trans p')
  | ok f => cases f with
    | nx => exact fun B' H' σ' fp' s' E' p' => h B' H' σ' fp' (s.trans s') E' (p.trans p')
    | bk => exact fun B' H' σ' fp' s' E' p' => h B' H' σ' fp' (s.trans s') E' (p.trans p')
    | ct => exact fun B' H' σ' fp' s' E' p' => h B' H' σ' fp' (s.trans s') E' (p.trans p')
    | rt d => exact fun B' H' σ' fp' v S s' E' p' => h B' H' σ' fp' v S (s.trans s') E' (p.trans p')
theorem PostS.err {W : WX} {P : Nat → Bool} {B F : Hp} {σ : L2.St} {D : Ends} {r : Except Xn Fl} {ρ' : En} (h : PostS K mg W P B F σ D r ρ') : ∀ x, r = .error x → ErrP K mg W B F σ x ρ' := fun x e => by
  subst e
  exact fun B' H' fp' cls dd s E x => h B' H' σ fp' cls dd s E Pin.refl x
def canS (K : PySem.W.Frag) (mg : Str → Option Value) (W : WX) (P : Nat → Bool) (m : M Fl) : TS := fun D σ H => ∃ B F ρ fp r ρ', EnvOk K B F H σ ρ fp ∧ m ρ = some (r, ρ') ∧ PostS K mg W P B F σ D r ρ'
def PSM (X : Cx) (W : WX) (P : Nat → Bool) (st : Stmt) (m : M Fl) : Prop := PS X st (canS X.K X.mg W P m)
def PSsM (X : Cx) (W : WX) (P : Nat → Bool) (sts : List Stmt) (m : M Fl) : Prop := PSs X sts (canS X.K X.mg W P m)
theorem ps_imp {st : Stmt} {t t' : TS} (h : PS X st t) (i : ∀ D σ H, t' D σ H → t D σ H) : PS X st t' := ⟨fun pins s σ H D I hw => h.run pins s σ H D I (i D σ H hw)⟩
theorem pss_imp {sts : List Stmt} {t t' : TS} (h : PSs X sts t) (i : ∀ D σ H, t' D σ H → t D σ H) : PSs X sts t' := ⟨fun pins s σ H D I hw => h.run pins s σ H D I (i D σ H hw)⟩
variable {P : Nat → Bool}
def sNx : M Fl := rt .nx
def sSeq (m n : M Fl) : M Fl := bnd m fun f => match f with
  | .nx => n
  | f => rt f
theorem pssm_nil : PSsM X W P [] sNx := pss_imp pss_nil fun D σ H h => by
  obtain ⟨B, F, ρ, fp, r, ρ', E, hm, post⟩ := h
  obtain ⟨e1, e2⟩ := rt_some hm
  subst e1 e2
  exact post B H σ fp (fun _ _ z => z) E Pin.refl
theorem pssm_one {st : Stmt} {m : M Fl} (h : PSM X W P st m) : PSsM X W P [st] m := pss_one h
theorem pssm_cons {st : Stmt} {rest : List Stmt} {m n : M Fl} (h1 : PSM X W P st m) (h2 : PSsM X W P rest n) : PSsM X W P (st :: rest) (sSeq m n) := pss_imp (pss_cons h1 h2) fun D σ H h => by
  obtain ⟨B, F, ρ, fp, r, ρ', E, hm, post⟩ := h
  unfold sSeq bnd at hm
  cases e1 : m ρ with
  | none => rw [e1] at hm; cases hm
  | some p =>
    obtain ⟨r1, ρ1⟩ := p
    rw [e1] at hm
    refine ⟨B, F, ρ, fp, r1, ρ1, E, e1, ?_⟩
    cases r1 with
    | error x => cases hm; exact post
    | ok f =>
      cases f with
      | nx => exact fun B' H' σ' fp' s E' p => ⟨B', F, ρ1, fp', r, ρ', E', hm, post.up s p⟩
      | bk => cases hm; exact post
      | ct => cases hm; exact post
      | rt d => cases hm; exact post
/-- how a reading of an expression goes on into a statement -/
theorem canE_S {α ω : Type} {rel : L2.St → Hp → α → ω → Prop} {m : M α} {f : α → M Fl} {D : Ends} {σ : L2.St} {H : Hp} {Z : ω → Hp → Prop} (h : canS K mg W P (bnd m f) D σ H)
    (ok : ∀ a B ρ1 F H1 fp1 w r ρ', f a ρ1 = some (r, ρ') → EnvOk K B F H1 σ ρ1 fp1 → rel σ B a w → PostS K mg W P B F σ D r ρ' → Z w H1) : can K mg W rel q m σ H Z := by
  obtain ⟨B, F, ρ, fp, r, ρ', E, hm, post⟩ := h
  exact can_bnd E hm post.err fun a ρ1 B1 H1 fp1 w hf s E1 rl _ => ok a B1 ρ1 F H1 fp1 w r ρ' hf E1 rl (post.up s Pin.refl)
theorem canO_S {m : M D} {f : D → M Fl} {D : Ends} {σ : L2.St} {H : Hp} {Z : VK} (h : canS K mg W P (bnd m f) D σ H)
    (ok : ∀ a B ρ1 F H1 fp1 v S r ρ', f a ρ1 = some (r, ρ') → EnvOk K B F H1 σ ρ1 fp1 → ValOk K B F H1 fp1 a v S → PostS K mg W P B F σ D r ρ' → Z v H1) : canO K mg W m σ H Z := by
  obtain ⟨B, F, ρ, fp, r, ρ', E, hm, post⟩ := h
  unfold bnd at hm
  cases e1 : m ρ with
  | none => rw [e1] at hm; cases hm
  | some p =>
    obtain ⟨r1, ρ1⟩ := p
    rw [e1] at hm
    refine ⟨B, F, ρ, fp, r1, ρ1, E, e1, ?_⟩
    cases r1 with
    | error x => cases hm; exact post.err x rfl
    | ok d => exact fun B' H' fp' v S s E' vo => ok d B' ρ1 F H' fp' v S r ρ' hm E' vo (post.up s Pin.refl)

def setSl (i : Nat) (o : Option D) : M Fl := fun ρ => some (.ok .nx, ρ.set i o)
theorem EnvOk.set {B F H : Hp} {σ : L2.St} {ρ : En} {fp : Nat → FS} (E : EnvOk K B F H σ ρ fp) {i : Nat} {d : D} {v : V} {S : FS} (hr : i < ρ.length) (vo : ValOk K B F H fp d v S) :
    EnvOk K B F H (σ.set i (some v)) (ρ.set i (some d)) (fun j a => if j = i then S a else fp j a) := by
  have hi : i < σ.length := Nat.lt_of_lt_of_le hr E.len
  refine ⟨E.bh, E.fh, E.bf, fun j d' e => ?_, fun j k a h1 h2 => ?_, fun j a z => ?_, fun j a z => ?_, by rw [List.length_set, List.length_set]; exact E.len⟩
  · by_cases hj : i = j
    · subst hj
      rw [List.getElem?_set_self hi]
      rw [List.getElem?_set_self hr] at e
      cases e
      exact ⟨v, rfl, Rep.mono (fun _ _ z => z) d (fun _ _ => rfl) (fun a z => by rw [if_pos rfl]; exact z) vo.rep⟩
    · rw [List.getElem?_set_ne hj] at e ⊢
      obtain ⟨w, h1, h2⟩ := E.rep j d' e
      exact ⟨w, h1, Rep.mono (fun _ _ z => z) d' (fun _ _ => rfl) (fun a z => by rw [if_neg (Ne.symm hj)]; exact z) h2⟩
  · by_cases hj : j = i <;> by_cases hk : k = i <;> simp only [hj, hk, if_true, if_false] at h1 h2 ⊢
    · exact absurd h2 ((vo.out a h1).2.2.2 k)
    · exact absurd h1 ((vo.out a h2).2.2.2 j)
    · exact E.apart j k a h1 h2
  · by_cases hj : j = i <;> simp only [hj, if_true, if_false] at z
    · exact ⟨(vo.out a z).1, (vo.out a z).2.1⟩
    · exact E.out j a z
  · by_cases hj : j = i <;> simp only [hj, if_true, if_false] at z
    · exact (vo.out a z).2.2.1
    · exact E.live j a z
/-- what is stored where nothing is kept of it -/
theorem EnvOk.lose {B F H : Hp} {σ : L2.St} {ρ : En} {fp : Nat → FS} (E : EnvOk K B F H σ ρ fp) {i : Nat} {o : Option V} : EnvOk K B F H (σ.set i o) (ρ.set i none) fp := by
  refine ⟨E.bh, E.fh, E.bf, fun j d e => ?_, E.apart, E.out, E.live, by rw [List.length_set, List.length_set]; exact E.len⟩
  by_cases hj : i = j
  · subst hj
    by_cases hr : i < ρ.length
    · rw [List.getElem?_set_self hr] at e; cases e
    · rw [List.getElem?_eq_none (by simpa using hr)] at e; cases e
  · rw [List.getElem?_set_ne hj] at e ⊢
    exact E.rep j d e
theorem EnvOk.drop {B F H : Hp} {σ : L2.St} {ρ : En} {fp : Nat → FS} (E : EnvOk K B F H σ ρ fp) {i : Nat} : EnvOk K B F H σ (ρ.set i none) fp := by
  refine ⟨E.bh, E.fh, E.bf, fun j d e => ?_, E.apart, E.out, E.live, by rw [List.length_set]; exact E.len⟩
  by_cases hj : i = j
  · subst hj
    by_cases hr : i < ρ.length
    · rw [List.getElem?_set_self hr] at e; cases e
    · rw [List.getElem?_eq_none (by simpa using hr)] at e; cases e
  · rw [List.getElem?_set_ne hj] at e
    exact E.rep j d e
def sSet (i : Nat) (m : M D) : M Fl := bnd m fun d => fun ρ => if i < ρ.length then some (.ok .nx, ρ.set i (some d)) else none
def put (i : Nat) (d : D) : M Fl := fun ρ => if i < ρ.length then some (.ok .nx, ρ.set i (some d)) else none
theorem put_some {i : Nat} {d : D} {ρ ρ' : En} {r : Except Xn Fl} (h : put i d ρ = some (r, ρ')) : i < ρ.length ∧ r = .ok .nx ∧ ρ' = ρ.set i (some d) := by
  unfold put at h
  split at h
  · cases h; exact ⟨‹_›, rfl, rfl⟩
  · cases h
theorem psm_set {i : Nat} {x : Str} {e : Expr} {m : M D} {pos pos' : Pos} (hN : X.N.Nodup) (hi : X.N[i]? = some x) (hx : Loc X.env.scope x) (he : PEO X W e m) (hp : P i = false := by rfl) (hs : swapsWith e (some (.Name x pos')) pos.line X.env = pure false := by rfl)
    (hf : X.fn x = true ∨ X.env.scope.names.lookup x = some .local := by first | exact .inl rfl | exact .inr rfl | assumption) : PSM X W P (.Assign [.Name x pos'] e pos) (bnd m (put i)) :=
  ps_imp (ps_set hN hi hx he hs hf) fun D σ H h => canO_S h fun d B ρ1 F H1 fp1 v S r ρ' hm E vo post => by
    obtain ⟨hl, e1, e2⟩ := put_some hm
    subst e1 e2
    exact post B H1 _ _ (fun _ _ z => z) (E.set hl vo) (Pin.set hp)
theorem psm_ret {e : Expr} {m : M D} {pos : Pos} (he : PEO X W e m) : PSM X W P (.Return (some e) pos) (bnd m fun d => rt (.rt d)) :=
  ps_imp (ps_ret he) fun D σ H h => canO_S h fun d B ρ1 F H1 fp1 v S r ρ' hm E vo post => by
    obtain ⟨e1, e2⟩ := rt_some hm
    subst e1 e2
    exact post B H1 σ fp1 v S (fun _ _ z => z) E Pin.refl vo
theorem psm_retN {pos : Pos} : PSM X W P (.Return none pos) (rt (.rt .non)) :=
  ps_imp ps_retN fun D σ H h => by
    obtain ⟨B, F, ρ, fp, r, ρ', E, hm, post⟩ := h
    obtain ⟨e1, e2⟩ := rt_some hm
    subst e1 e2
    exact post B H σ fp .non noF (fun _ _ z => z) E Pin.refl (ValOk.of rfl)
theorem psm_expr {e : Expr} {m : M D} {pos : Pos} (he : PEO X W e m) (hs : swapsWith e none pos.line X.env = pure false := by rfl) : PSM X W P (.Expr e pos) (bnd m fun _ => rt .nx) :=
  ps_imp (ps_expr he hs) fun D σ H h => canO_S h fun d B ρ1 F H1 fp1 v S r ρ' hm E vo post => by
    obtain ⟨e1, e2⟩ := rt_some hm
    subst e1 e2
    exact post B H1 σ fp1 (fun _ _ z => z) E Pin.refl
theorem psm_if {c : Expr} {a b : List Stmt} {t : M Bool} {m n : M Fl} {pos : Pos} (hc : PTM X W q c t) (ha : PSsM X W P a m) (hb : PSsM X W P b n) : PSM X W P (.If c a b pos) (bnd t fun k => if k = true then m else n) :=
  ps_imp (ps_if hc ha hb) fun D σ H h => canE_S h fun k B ρ1 F H1 fp1 w r ρ' hm E rl post => by
    have rl : k = w := rl
    subst rl
    cases k with
    | true => rw [if_pos rfl] at hm ⊢; exact ⟨B, F, ρ1, fp1, r, ρ', E, hm, post⟩
    | false => rw [if_neg (by decide)] at hm ⊢; exact ⟨B, F, ρ1, fp1, r, ρ', E, hm, post⟩
theorem psm_pass {pos : Pos} : PSM X W P (.Pass pos) sNx := ps_imp ps_pass fun D σ H h => by
  obtain ⟨B, F, ρ, fp, r, ρ', E, hm, post⟩ := h
  obtain ⟨e1, e2⟩ := rt_some hm
  subst e1 e2
  exact post B H σ fp (fun _ _ z => z) E Pin.refl
theorem psm_break {pos : Pos} : PSM X W P (.Break pos) (rt .bk) := ps_imp ps_break fun D σ H h => by
  obtain ⟨B, F, ρ, fp, r, ρ', E, hm, post⟩ := h
  obtain ⟨e1, e2⟩ := rt_some hm
  subst e1 e2
  exact post B H σ fp (fun _ _ z => z) E Pin.refl
/-- never reached -/
theorem psm_never {st : Stmt} : PSM X W P st (fun _ => none) := ps_imp ps_never fun D σ H h => by
  obtain ⟨B, F, ρ, fp, r, ρ', E, hm, post⟩ := h
  cases hm
theorem pssm_never {sts : List Stmt} : PSsM X W P sts (fun _ => none) := pss_imp pss_never fun D σ H h => by
  obtain ⟨B, F, ρ, fp, r, ρ', E, hm, post⟩ := h
  cases hm
/-- a slot's value frozen from here on (nothing happens) -/
def fzSl (i : Nat) (m : M Fl) : M Fl := fun ρ => match ρ[i]? with
  | some (some d) => m (ρ.set i (some (fz d)))
  | _ => none
theorem EnvOk.frz {B F H : Hp} {σ : L2.St} {ρ : En} {fp : Nat → FS} (E : EnvOk K B F H σ ρ fp) {i : Nat} {d : D} (hd : ρ[i]? = some (some d)) :
    EnvOk K (grow B H (fp i)) F H σ (ρ.set i (some (fz d))) (fun j a => j ≠ i ∧ fp j a) := by
  have sb : Same B (grow B H (fp i)) := same_grow fun a z => (E.out i a z).1
  have hi : i < ρ.length := by
    rcases Nat.lt_or_ge i ρ.length with q | q
    · exact q
    · rw [List.getElem?_eq_none q] at hd; cases hd
  refine ⟨grow_same E.bh, E.fh, fun a o e => ?_, fun j d' e => ?_, fun j k a h1 h2 => E.apart j k a h1.2 h2.2, fun j a z => ⟨?_, (E.out j a z.2).2⟩, fun j a z => E.live j a z.2, by rw [List.length_set]; exact E.len⟩
  · by_cases z : fp i a
    · rw [(E.out i a z).2] at e; cases e
    · rw [grow_out z]; exact E.bf a o e
  · by_cases hj : i = j
    · subst hj
      rw [List.getElem?_set_self hi] at e
      cases e
      obtain ⟨v, h1, h2⟩ := E.rep i d hd
      exact ⟨v, h1, RepF.to (Rep.fz sb d (fun a o z e => by rw [grow_in z]; exact e) h2)⟩
    · rw [List.getElem?_set_ne hj] at e
      obtain ⟨v, h1, h2⟩ := E.rep j d' e
      exact ⟨v, h1, Rep.mono sb d' (fun _ _ => rfl) (fun a z => ⟨Ne.symm hj, z⟩) h2⟩
  · by_cases y : fp i a
    · exact absurd (E.apart j i a z.2 y) z.1
    · rw [grow_out y]; exact (E.out j a z.2).1
theorem pssm_fz (i : Nat) {sts : List Stmt} {m : M Fl} (h : PSsM X W P sts m) : PSsM X W P sts (fzSl i m) := pss_imp h fun D σ H h => by
  obtain ⟨B, F, ρ, fp, r, ρ', E, hm, post⟩ := h
  unfold fzSl at hm
  cases e : ρ[i]? with
  | none => rw [e] at hm; cases hm
  | some o =>
    cases o with
    | none => rw [e] at hm; cases hm
    | some d =>
      rw [e] at hm
      exact ⟨_, F, _, _, r, ρ', E.frz e, hm, post.up (same_grow fun a z => (E.out i a z).1) Pin.refl⟩
/-- a, b = e, f with two names -/
def putP (i j : Nat) (ds : List D) : M Fl := fun ρ => match ds with
  | [a, b] => if i < ρ.length ∧ j < ρ.length then some (.ok .nx, (ρ.set i (some a)).set j (some b)) else none
  | _ => none
theorem psm_par {i j : Nat} {x y : Str} {a b : Expr} {m : M (List D)} {px py pt : Pos} {kt k2 pt2} {pos : Pos} (hc : X.calm = true) (hN : X.N.Nodup) (hi : X.N[i]? = some x) (hj : X.N[j]? = some y)
    (hx : X.env.scope.names.lookup x = some .local) (hy : X.env.scope.names.lookup y = some .local) (ha : PAM X W q [a, b] m)
    (hw : swappedStores [.Tuple [.Name x px, .Name y py] kt pt] (.Tuple [a, b] k2 pt2) X.env = pure (some [x, y]) := by rfl) (hij : i ≠ j := by decide)
    (hpi : P i = false := by rfl) (hpj : P j = false := by rfl)
    (hs : swapsWithSole [.Tuple [.Name x px, .Name y py] kt pt] (.Tuple [a, b] k2 pt2) pos.line X.env = pure false := by rfl) :
    PSM X W P (.Assign [.Tuple [.Name x px, .Name y py] kt pt] (.Tuple [a, b] k2 pt2) pos) (bnd m (putP i j)) :=
  ps_imp (ps_par hc hN hi hj hij hx hy ha hw hs) fun D σ H h => canE_S h fun ds B ρ1 F H1 fp1 w r ρ' hm E rl post => by
    unfold putP at hm
    split at hm
    · rename_i d1 d2
      obtain ⟨v1, xs, e1, r1, v2, xs2, e2, r2, e3⟩ := rl
      subst e1 e2
      rw [show xs2 = [] from e3]
      split at hm
      · rename_i hl
        cases hm
        refine ⟨v1, v2, rfl, post B H1 _ _ (fun _ _ z => z) ((E.set hl.1 (ValOk.of r1)).set (by rw [List.length_set]; exact hl.2) (ValOk.of r2)) ((Pin.set hpi).trans (Pin.set hpj))⟩
      · cases hm
    · cases hm
end
end G

namespace G
open PySem PySem.Spec PyProof.Rows L2

/-- as the library's FnOk, where no repr is under way around the call -/
structure FnG (P : Program) (w : World) (K : PySem.W.Frag) (mg : Str → Option Value) (base : Heap) (k : Nat) (f : Addr) (fd : FuncData) (ps : List Str) (sp : Sp) : Prop where
  len : ∀ vs H Q E, sp vs H Q E → vs.length = ps.length
  run : ∀ (A : Around) (outer : List Env) (s : Shared) (H : Hp) (args : Args) (us : List Value) (vs : List V) (Q : VK) (E : XK),
    A.guards = some [] → Room k A → Env0 P w K mg base A outer s H → BindsTo s fd args (ps.zip us) → Vals vs us → sp vs H Q E →
    codeAny (model P w) A (.call (.ref f) args) (CR (L2.CX P w) outer P w H s Q E) s
theorem FnG.mono {P : Program} {w : World} {K : PySem.W.Frag} {mg : Str → Option Value} {base : Heap} {j k : Nat} {f : Addr} {fd : FuncData} {ps : List Str} {sp : Sp} (F : FnG P w K mg base j f fd ps sp) (h : j ≤ k) : FnG P w K mg base k f fd ps sp :=
  ⟨F.len, fun A outer s H args us vs Q E hg hr => F.run A outer s H args us vs Q E hg (hr.mono h)⟩
/-- a def by its body -/
theorem fnG_of {P : Program} {w : World} {K : PySem.W.Frag} {mg : Str → Option Value} {base : Heap} {x qual : Str} {st : Stmt} {f : Addr} {fd : FuncData} {N ps : List Str} {k : Nat} {sp : Sp} {dvs : List V} {kws : List (Str × V)}
    (F : FunD K x qual (defArgs st) (defBody st) (defScope st) dvs kws f fd) (S : FnScope N ps (defScope st)) (len : ∀ vs H Q E, sp vs H Q E → vs.length = ps.length)
    (hbody : ∀ (cdv : Value) (A : Around) (outer : List Env) (s : Shared) (H : Hp) (vs : List V) (Q : VK) (E : XK),
      (A.deeper (envOfC qual (defScope st) s.heap.objs.size f cdv)).guards = some [] → Room k (A.deeper (envOfC qual (defScope st) s.heap.objs.size f cdv)) → sp vs H Q E →
      ∃ t, PSs (cxOf (L2.CX P w) P w K mg base N qual (defScope st) f cdv A outer s H E) (defBody st) t ∧ t { nx := fun _ H' => Q .non H', rt := Q } (L2.start N vs) H) :
    FnG P w K mg base (k + 1) f fd ps sp := by
  obtain ⟨oc, od, dV, kV, doc, pm, an, cdv, ct, osl, rfl, lk, hcd, _, _⟩ := F.ex
  constructor
  · exact len
  intro A outer s H args us vs Q E hg hr e0 hb r hsp
  have hl : vs.length = ps.length := len vs H Q E hsp
  have keep : ∀ b o, base.get? b = some o → s.heap.get? b = some o := fun b o e => (e0.bs b o e).1
  have KX : K.In s.heap := e0.mod.kin.keeps keep
  have lim : s.heap.NoLimit := e0.mod.nolimit.keeps keep
  have hkind : ∀ y ∈ ps.zip us, (defScope st).names.lookup y.1 = some .local ∨
      ((defScope st).names.lookup y.1 = some .cell ∧ ((cellsFrom (s.heap.objs.size + 1) (defScope st).names []).lookup y.1).isSome = true) := by
    intro y hy
    obtain ⟨n, v⟩ := y
    cases S.par n (List.of_mem_zip hy).1 with
    | inl q => left; exact q
    | inr q => right; exact ⟨q, PySem.W.cellsFrom_some _ _ _ (.inl q)⟩
  apply codeAny_call_function hr.depth (KX _ _ lk) rfl S.co S.gen rfl (PySem.W.codeRec_of KX hcd)
  apply hb
  apply wpAny_newFunctionEnv_cells S.kind hkind
  intro env he s1 ic
  subst he
  constructor
  · exact lim.keeps ic.toInCall.keep
  apply codeAny_func
  obtain ⟨t, ht, hq⟩ := hbody cdv A outer s H vs Q E hg (hr.deeper _) hsp
  have I := inv_start (CX := L2.CX P w) (N := N) (E := E) (f := f) (cd := cdv) (qual := qual) S hr.hd e0 hl r ic
  have fin : ∀ {s' : Shared} {σ' : L2.St} {H' : Hp} {v : V} {u : Value}, Inv (cxOf (L2.CX P w) P w K mg base N qual (defScope st) f cdv A outer s H E) [] σ' H' s' →
      RelV v u → Q v H' → CE outer P w H s Q u s' := by
    intro s' σ' H' v u J rv q
    exact ⟨v, H', J.os, J.bare, J.base, J.hok, rv, q⟩
  apply wpAny_mono (ht.run [] s1 (L2.start N vs) H _ I hq)
  · intro fl s' hs
    match fl, hs with
    | .ret u, ⟨v, σ', H', J, rv, q⟩ => exact fin J rv q
    | .next, ⟨σ', H', J, q⟩ => exact fin (v := V.non) J rfl q
    | .brk, ⟨_, _, _, q⟩ => exact q.elim
    | .cont, ⟨_, _, _, q⟩ => exact q.elim
  · intro e s' hs
    exact hs
section
variable {X : Cx} {W : WX} {k : Nat} {f : Addr} {fd : FuncData} {ps : List Str} {sp : Sp} {x : Str} {p pos : Pos} {e : Expr} {es : List Expr} {t : TA}
def tCallG (sp : Sp) (dvd : List V) (W : WX) (t : TA) : TE := fun σ H Q => t σ H fun vs H1 => sp (vs ++ dvd) H1 Q fun cls d H' => W cls d σ H'
theorem pe_callG {ds : List Value} {dvd : List V} (F : FnG X.prog X.w X.K X.mg X.base k f fd ps sp) (hg : X.A.guards = some []) (hr : Room k X.A) (tk : Takes X W) (gl : Gl X x) (hm : X.mg x = some (.ref f)) (hk : PySem.W.keepIn X.K (.ref f) = true) (hb : Binds X.K fd ps ds) (hv : Vals dvd ds)
    (ha : PA X (e :: es) t) (hdb : (x == ("__debug__" : Str)) = false := by decide)
    (he : starEach (e :: es) X.env = (false, eval e X.env) :: starEach es X.env := by rfl)
    (hpl : (backTo pos (starEach es X.env)).any (·.1) = false := by rfl) : PE X (.Call (.Name x p) (e :: es) [] pos) (tCallG sp dvd W t) := by
  constructor
  intro pins s σ H Q I h
  apply wpAny_Call_Name_kw
  apply ld_glob I gl hm _ hdb
  apply PySem.W.callWith_K (h₀ := X.base) I.ok.mod.kin hk _ he hpl
  apply thn (ha.run pos pins s σ H _ I h)
  intro us s1 hh
  obtain ⟨vs, H1, I1, r, q⟩ := hh
  constructor
  · exact I1.kIn
  have rr : Vals (vs ++ dvd) (us ++ ds) := r.append hv
  have hl : (us ++ ds).length = ps.length := rr.length.symm.trans (F.len _ _ _ _ q)
  have b : BindsTo s1 fd ⟨us, []⟩ (ps.zip (us ++ ds)) := hb s1 us I1.kIn hl
  apply wpAny_call
  apply codeAny_mono (F.run X.A X.stack s1 H1 ⟨us, []⟩ (us ++ ds) (vs ++ dvd) Q _ hg hr I1.env0 b rr q)
  intro res s' hq
  match res, hq with
  | .error er, hq => exact tk er s' (XE.of_call I1 (fun _ _ _ w => w) hq)
  | .ok (.ret u), hq => exact I1.after hq
  | .ok .next, hq => exact hq.elim
  | .ok .brk, hq => exact hq.elim
  | .ok .cont, hq => exact hq.elim
end

abbrev Fn := List D → Option (Except Xn D × En)
def spM (K : PySem.W.Frag) (mg : Str → Option Value) (n : Nat) (g : Fn) : Sp := fun vs H Q E => vs.length = n ∧ ∃ B F ds fp r ρ', EnvOk K B F H (vs.map some) (ds.map some) fp ∧ g ds = some (r, ρ') ∧ match r with
  | .ok d => ∀ B' H' fp' v S, Same B B' → EnvOk K B' F H' (vs.map some) ρ' fp' → ValOk K B' F H' fp' d v S → Q v H'
  | .error x => ∀ B' H' fp' cls dd, Same B B' → EnvOk K B' F H' (vs.map some) ρ' fp' → XRep K mg B' x cls dd → E cls dd H'
def keep : List Bool → En → En
  | b :: bs, o :: ρ => (if b = true then o else none) :: keep bs ρ
  | _, _ => []
theorem keep_get : ∀ {P : List Bool} {ρ : En} {i : Nat} {d : D}, (keep P ρ)[i]? = some (some d) → P[i]? = some true ∧ ρ[i]? = some (some d)
  | [], _, _, _, h => by simp [keep] at h
  | _ :: _, [], _, _, h => by simp [keep] at h
  | b :: P, o :: ρ, 0, d, h => by
    simp only [keep, List.getElem?_cons_zero] at h ⊢
    cases b <;> simp at h ⊢
    exact h
  | b :: P, o :: ρ, i + 1, d, h => by
    simp only [keep, List.getElem?_cons_succ] at h ⊢
    exact keep_get h
theorem keep_len : ∀ {P : List Bool} {ρ : En}, (keep P ρ).length ≤ P.length
  | [], _ => by simp [keep]
  | _ :: _, [] => by simp [keep]
  | b :: P, o :: ρ => by simp only [keep, List.length_cons]; have := keep_len (P := P) (ρ := ρ); omega
/-- the body m of a def with the parameters' mask P (which are changed in place) and nl more names -/
def fnM (P : List Bool) (nl : Nat) (m : M Fl) : Fn := fun ds => if ds.length = P.length then match m (ds.map some ++ List.replicate nl none) with
  | some (.error x, ρ) => some (.error x, keep P ρ)
  | some (.ok (.rt d), ρ) => some (.ok d, keep P ρ)
  | some (.ok .nx, ρ) => some (.ok .non, keep P ρ)
  | _ => none
  else none
theorem start_get {N : List Str} {vs : List V} {i : Nat} (h : i < vs.length) : (L2.start N vs)[i]? = (vs.map some)[i]? := by
  unfold L2.start
  rw [List.getElem?_append_left (by simpa using h)]
section
variable {K : PySem.W.Frag} {mg : Str → Option Value}
theorem EnvOk.start {B F H : Hp} {vs : List V} {ds : List D} {fp : Nat → FS} {N : List Str} {nl : Nat} (E : EnvOk K B F H (vs.map some) (ds.map some) fp) (hl : ds.length = vs.length) (hN : N.length = vs.length + nl) :
    EnvOk K B F H (L2.start N vs) (ds.map some ++ List.replicate nl none) fp := by
  refine ⟨E.bh, E.fh, E.bf, fun i d e => ?_, E.apart, E.out, E.live, ?_⟩
  · by_cases hi : i < ds.length
    · rw [List.getElem?_append_left (by simpa using hi)] at e
      obtain ⟨v, h1, h2⟩ := E.rep i d e
      exact ⟨v, by rw [start_get (by omega)]; exact h1, h2⟩
    · rw [List.getElem?_append_right (by simpa using hi), List.getElem?_replicate] at e
      split at e <;> cases e
  · unfold L2.start
    simp only [List.length_append, List.length_map, List.length_replicate]
    omega
theorem EnvOk.keep {B F H : Hp} {vs : List V} {σ' : L2.St} {ρ1 : En} {fp : Nat → FS} {N : List Str} {P : List Bool} (E : EnvOk K B F H σ' ρ1 fp) (p : Pin (pinOf P) (L2.start N vs) σ') (hP : P.length = vs.length) :
    EnvOk K B F H (vs.map some) (G.keep P ρ1) (fun i a => P[i]? = some true ∧ fp i a) := by
  refine ⟨E.bh, E.fh, E.bf, fun i d e => ?_, fun i j a h1 h2 => E.apart i j a h1.2 h2.2, fun i a z => E.out i a z.2, fun i a z => E.live i a z.2, ?_⟩
  · obtain ⟨h1, h2⟩ := keep_get e
    obtain ⟨v, h3, h4⟩ := E.rep i d h2
    have hi : i < vs.length := by
      rcases Nat.lt_or_ge i P.length with q | q
      · omega
      · rw [List.getElem?_eq_none q] at h1; cases h1
    refine ⟨v, ?_, Rep.mono (fun _ _ z => z) d (fun _ _ => rfl) (fun a z => ⟨h1, z⟩) h4⟩
    rw [← start_get (N := N) hi, ← p i (by unfold pinOf; rw [List.getD_eq_getElem?_getD, h1]; rfl)]; exact h3
  · have := keep_len (P := P) (ρ := ρ1)
    simpa [← hP] using this
theorem ValOk.sub {B F H : Hp} {fp fp' : Nat → FS} {d : D} {v : V} {S : FS} (h : ValOk K B F H fp d v S) (hs : ∀ i a, fp' i a → fp i a) : ValOk K B F H fp' d v S :=
  ⟨h.rep, fun a z => ⟨(h.out a z).1, (h.out a z).2.1, (h.out a z).2.2.1, fun i q => (h.out a z).2.2.2 i (hs i a q)⟩⟩
end
abbrev bX (P : Program) (w : World) (K : PySem.W.Frag) (mg : Str → Option Value) (base : Heap) (N : List Str) (qual : Str) (st : Stmt) (f : Addr) (cdv : Value) (A : Around) (outer : List Env) (s : Shared) (H : Hp) (E : XK) : Cx :=
  cxOf (L2.CX P w) P w K mg base N qual (defScope st) f cdv A outer s H E
abbrev bW (E : XK) : WX := fun cls d _ H => E cls d H
/-- THE RULE of a def -/
theorem fnG_M {P : Program} {w : World} {K : PySem.W.Frag} {mg : Str → Option Value} {base : Heap} {x qual : Str} {st : Stmt} {f : Addr} {fd : FuncData} {N ps : List Str} {k nl : Nat} {mask : List Bool} {m : M Fl} {dvs : List V} {kws : List (Str × V)}
    (F : FunD K x qual (defArgs st) (defBody st) (defScope st) dvs kws f fd) (S : FnScope N ps (defScope st)) (hps : ps.length = mask.length) (hnl : N.length = mask.length + nl)
    (hbody : ∀ (cdv : Value) (A : Around) (outer : List Env) (s : Shared) (H : Hp) (E : XK), (bX P w K mg base N qual st f cdv A outer s H E).A.guards = some [] → Room k (bX P w K mg base N qual st f cdv A outer s H E).A →
      Takes (bX P w K mg base N qual st f cdv A outer s H E) (bW E) → PSsM (bX P w K mg base N qual st f cdv A outer s H E) (bW E) (pinOf mask) (defBody st) m) :
    FnG P w K mg base (k + 1) f fd ps (spM K mg mask.length (fnM mask nl m)) := by
  refine fnG_of F S (fun vs H Q E h => h.1.trans hps.symm) fun cdv A outer s H vs Q E hg hr h => ?_
  obtain ⟨hv, B, F', ds, fp, r, ρ', E0, hm, post⟩ := h
  have tk : Takes (bX P w K mg base N qual st f cdv A outer s H E) (bW E) := takes_of rfl rfl rfl rfl
  refine ⟨_, hbody cdv A outer s H E hg hr tk, ?_⟩
  unfold fnM at hm
  split at hm
  · rename_i hd
    have E1 := E0.start (N := N) (nl := nl) (hd.trans hv.symm) (by omega)
    cases em : m (ds.map some ++ List.replicate nl none) with
    | none => rw [em] at hm; cases hm
    | some p =>
      obtain ⟨r1, ρ1⟩ := p
      rw [em] at hm
      refine ⟨B, F', _, fp, r1, ρ1, E1, em, ?_⟩
      cases r1 with
      | error x =>
        cases hm
        exact fun B' H' σ' fp' cls dd sb E' p xr => post B' H' _ cls dd sb (E'.keep p hv.symm) xr
      | ok fl =>
        cases fl with
        | nx =>
          cases hm
          exact fun B' H' σ' fp' sb E' p => post B' H' _ .non noF sb (E'.keep p hv.symm) (ValOk.of rfl)
        | rt d =>
          cases hm
          exact fun B' H' σ' fp' v S sb E' p vo => post B' H' _ v S sb (E'.keep p hv.symm) (vo.sub fun i a z => z.2)
        | bk => cases hm
        | ct => cases hm
  · cases hm

def dfl (n : Nat) (dd : List D) (g : Fn) : Fn := fun ds => if ds.length = n then (g (ds ++ dd)).map fun p => (p.1, p.2.take n) else none
theorem spM_dfl {K : PySem.W.Frag} {mg : Str → Option Value} {n : Nat} {dd : List D} {dvd : List V} {g : Fn} (hd : ∀ B, RepsF K B dd dvd) {vs : List V} {H : Hp} {Q : VK} {E : XK} (h : spM K mg n (dfl n dd g) vs H Q E) : spM K mg (n + dd.length) g (vs ++ dvd) H Q E := by
  obtain ⟨hv, B, F, ds, fp, r, ρ', E0, hm, post⟩ := h
  have ld := (hd B).length
  unfold dfl at hm
  split at hm
  case isFalse => cases hm
  case isTrue hn =>
  obtain ⟨⟨r1, ρ1⟩, hg, e⟩ := Option.map_eq_some_iff.mp hm
  cases e
  have E1 : EnvOk K B F H ((vs ++ dvd).map some) ((ds ++ dd).map some) (fun i a => i < n ∧ fp i a) := by
    refine ⟨E0.bh, E0.fh, E0.bf, fun i d e => ?_, fun i j a h1 h2 => E0.apart i j a h1.2 h2.2, fun i a z => E0.out i a z.2, fun i a z => E0.live i a z.2, by simp [hv, hn, ld]⟩
    rw [List.map_append] at e ⊢
    by_cases hi : i < n
    · rw [List.getElem?_append_left (by simpa [hn] using hi)] at e
      obtain ⟨v, h1, h2⟩ := E0.rep i d e
      exact ⟨v, by rw [List.getElem?_append_left (by simpa [hv] using hi)]; exact h1, Rep.mono (fun _ _ z => z) d (fun _ _ => rfl) (fun a z => ⟨hi, z⟩) h2⟩
    · rw [List.getElem?_append_right (by simpa [hn] using hi), List.length_map, hn, List.getElem?_map] at e
      cases q : dd[i - n]? with
      | none => rw [q] at e; cases e
      | some d' =>
        rw [q] at e
        cases e
        obtain ⟨x, hx, hr⟩ := Reps.get (hd B) q
        exact ⟨x, by rw [List.getElem?_append_right (by simpa [hv] using hi), List.length_map, hv, List.getElem?_map, hx]; rfl, RepF.to hr⟩
  have back : ∀ {B' H' : Hp} {fp' : Nat → FS}, EnvOk K B' F H' ((vs ++ dvd).map some) ρ1 fp' → EnvOk K B' F H' (vs.map some) (ρ1.take n) (fun i a => i < n ∧ fp' i a) := fun {B' H' fp'} E' => by
    refine ⟨E'.bh, E'.fh, E'.bf, fun i d e => ?_, fun i j a h1 h2 => E'.apart i j a h1.2 h2.2, fun i a z => E'.out i a z.2, fun i a z => E'.live i a z.2, by simp [hv]; omega⟩
    rw [List.getElem?_take] at e
    split at e
    · rename_i hi
      obtain ⟨v, h1, h2⟩ := E'.rep i d e
      rw [List.map_append, List.getElem?_append_left (by simpa [hv] using hi)] at h1
      exact ⟨v, h1, Rep.mono (fun _ _ z => z) d (fun _ _ => rfl) (fun a z => ⟨hi, z⟩) h2⟩
    · cases e
  refine ⟨by simp [hv, ld], B, F, ds ++ dd, _, r1, ρ1, E1, hg, ?_⟩
  cases r1 with
  | error x => exact fun B' H' fp' cls d sb E' xr => post B' H' _ cls d sb (back E') xr
  | ok d => exact fun B' H' fp' v S sb E' vo => post B' H' _ v S sb (back E') (vo.sub fun i a z => z.2)
theorem dfl_len {n : Nat} {dd : List D} {g : Fn} : ∀ ds r, dfl n dd g ds = some r → ds.length = n := fun ds r h => by
  unfold dfl at h
  split at h
  · assumption
  · cases h
/-- a def that may be called: x(..) with n arguments means g -/
structure Cal (P : Program) (w : World) (K : PySem.W.Frag) (mg : Str → Option Value) (base : Heap) (k : Nat) (x : Str) (n : Nat) (g : Fn) : Prop where
  ex : ∃ (f : Addr) (fd : FuncData) (ps : List Str) (sp : Sp) (ds : List Value) (dvd : List V), FnG P w K mg base k f fd ps sp ∧ mg x = some (.ref f) ∧ PySem.W.keepIn K (.ref f) = true ∧ Binds K fd ps ds ∧ Vals dvd ds ∧
    ∀ vs H Q E, spM K mg n g vs H Q E → sp (vs ++ dvd) H Q E
  len : ∀ ds r, g ds = some r → ds.length = n
theorem Cal.of {P : Program} {w : World} {K : PySem.W.Frag} {mg : Str → Option Value} {base : Heap} {k : Nat} {x : Str} {n : Nat} {g : Fn} {f : Addr} {fd : FuncData} {ps : List Str} (F : FnG P w K mg base k f fd ps (spM K mg n g)) (hm : mg x = some (.ref f))
    (hk : PySem.W.keepIn K (.ref f) = true) (hb : Binds K fd ps []) (len : ∀ ds r, g ds = some r → ds.length = n) : Cal P w K mg base k x n g :=
  ⟨⟨f, fd, ps, _, [], [], F, hm, hk, hb, .nil, fun vs H Q E h => by rw [List.append_nil]; exact h⟩, len⟩
theorem Cal.dfl {P : Program} {w : World} {K : PySem.W.Frag} {mg : Str → Option Value} {base : Heap} {k : Nat} {x : Str} {n : Nat} {g : Fn} {f : Addr} {fd : FuncData} {ps : List Str} {dd : List D} {dvd : List V} {ds : List Value} (F : FnG P w K mg base k f fd ps (spM K mg (n + dd.length) g)) (hm : mg x = some (.ref f))
    (hk : PySem.W.keepIn K (.ref f) = true) (hb : Binds K fd ps ds) (hv : Vals dvd ds) (hd : ∀ B, RepsF K B dd dvd) : Cal P w K mg base k x n (G.dfl n dd g) :=
  ⟨⟨f, fd, ps, _, ds, dvd, F, hm, hk, hb, hv, fun vs H Q E h => spM_dfl hd h⟩, dfl_len⟩
theorem Cal.mono {P : Program} {w : World} {K : PySem.W.Frag} {mg : Str → Option Value} {base : Heap} {j k : Nat} {x : Str} {n : Nat} {g : Fn} (C : Cal P w K mg base j x n g) (h : j ≤ k) : Cal P w K mg base k x n g := by
  obtain ⟨⟨f, fd, ps, sp, ds, dvd, F, r⟩, l⟩ := C
  exact ⟨⟨f, fd, ps, sp, ds, dvd, F.mono h, r⟩, l⟩
theorem pa_up {X : Cx} {es : List Expr} {t : TA} (h : PA X es t) : PA X es fun σ H Z => ∃ Z0, t σ H Z0 ∧ ∀ vs H1, Z0 vs H1 → Z vs H1 := ⟨fun pos pins s σ H Q I hw => by
  obtain ⟨Z0, h1, h2⟩ := hw
  refine thn (h.run pos pins s σ H Z0 I h1) fun us s1 hh => ?_
  obtain ⟨vs, H1, I1, r, q⟩ := hh
  exact ⟨vs, H1, I1, r, h2 _ _ q⟩⟩
theorem pe_cal {X : Cx} {W : WX} {k n : Nat} {g : Fn} {x : Str} {p pos : Pos} {e : Expr} {es : List Expr} {t : TA} (C : Cal X.prog X.w X.K X.mg X.base k x n g) (hg : X.A.guards = some []) (hr : Room k X.A) (tk : Takes X W) (gl : Gl X x) (ha : PA X (e :: es) t)
    (hdb : (x == ("__debug__" : Str)) = false := by decide) (he : starEach (e :: es) X.env = (false, eval e X.env) :: starEach es X.env := by rfl) (hpl : (backTo pos (starEach es X.env)).any (·.1) = false := by rfl) :
    PE X (.Call (.Name x p) (e :: es) [] pos) fun σ H Q => t σ H fun vs H1 => spM X.K X.mg n g vs H1 Q fun cls d H' => W cls d σ H' := by
  obtain ⟨⟨f, fd, ps, sp, ds, dvd, F, hm, hk, hb, hv, hi⟩, l⟩ := C
  exact pe_imp (pe_callG F hg hr tk gl hm hk hb hv (pa_up ha) hdb he hpl) fun σ H Q h => ⟨_, h, fun vs H1 q => hi _ _ _ _ q⟩

inductive AD where
  | v (d : D)
  | s (i : Nat)
def At (as : List AD) (j i : Nat) : Prop := as[j]? = some (.s i)
def slotsOf : List AD → List Nat
  | [] => []
  | .v _ :: as => slotsOf as
  | .s i :: as => i :: slotsOf as
def dataOf (ρ : En) : List AD → Option (List D)
  | [] => some []
  | .v d :: as => (dataOf ρ as).map (d :: ·)
  | .s i :: as => match ρ[i]? with
    | some (some d) => (dataOf ρ as).map (d :: ·)
    | _ => none
def slotIx : List AD → Nat → Option Nat
  | [], _ => none
  | .v _ :: as, i => (slotIx as i).map (· + 1)
  | .s k :: as, i => if k = i then some 0 else (slotIx as i).map (· + 1)
def putBack (as : List AD) (ρr : En) : Nat → En → En
  | _, [] => []
  | i, o :: ρ => (match slotIx as i with
    | some j => (ρr[j]?).join
    | none => o) :: putBack as ρr (i + 1) ρ
theorem putBack_get (as : List AD) (ρr : En) : ∀ (k : Nat) (ρ : En) (i : Nat), (putBack as ρr k ρ)[i]? = (ρ[i]?).map fun o => match slotIx as (k + i) with
    | some j => (ρr[j]?).join
    | none => o
  | _, [], _ => by simp [putBack]
  | k, o :: ρ, 0 => by simp [putBack]
  | k, o :: ρ, i + 1 => by
    simp only [putBack, List.getElem?_cons_succ]
    rw [putBack_get as ρr (k + 1) ρ i, show k + 1 + i = k + (i + 1) by omega]
theorem putBack_len (as : List AD) (ρr : En) : ∀ (k : Nat) (ρ : En), (putBack as ρr k ρ).length = ρ.length
  | _, [] => rfl
  | k, o :: ρ => by simp only [putBack, List.length_cons]; rw [putBack_len as ρr (k + 1) ρ]
theorem slotIx_some : ∀ {as : List AD} {i j : Nat}, slotIx as i = some j → At as j i
  | [], _, _, h => by simp [slotIx] at h
  | .v d :: as, i, j, h => by
    simp only [slotIx, Option.map_eq_some_iff] at h
    obtain ⟨j', h1, rfl⟩ := h
    exact slotIx_some (as := as) h1
  | .s k :: as, i, j, h => by
    simp only [slotIx] at h
    split at h
    · cases h; rename_i e; subst e; rfl
    · simp only [Option.map_eq_some_iff] at h
      obtain ⟨j', h1, rfl⟩ := h
      exact slotIx_some (as := as) h1
theorem slotIx_none : ∀ {as : List AD} {i : Nat}, slotIx as i = none → ∀ j, ¬ At as j i
  | [], _, _, j, h => by simp [At] at h
  | .v d :: as, i, h, j, hj => by
    simp only [slotIx, Option.map_eq_none_iff] at h
    cases j with
    | zero => simp [At] at hj
    | succ j => exact slotIx_none h j hj
  | .s k :: as, i, h, j, hj => by
    simp only [slotIx] at h
    split at h
    · cases h
    · rename_i ne
      simp only [Option.map_eq_none_iff] at h
      cases j with
      | zero => simp [At] at hj; exact ne hj
      | succ j => exact slotIx_none h j hj
theorem at_slots : ∀ {as : List AD} {j i : Nat}, At as j i → i ∈ slotsOf as
  | [], _, _, h => by simp [At] at h
  | .v d :: as, 0, _, h => by simp [At] at h
  | .s k :: as, 0, _, h => by simp [At] at h; subst h; exact List.mem_cons_self
  | .v d :: as, j + 1, _, h => at_slots (as := as) (j := j) h
  | .s k :: as, j + 1, _, h => List.mem_cons_of_mem _ (at_slots (as := as) (j := j) h)
theorem slots_at : ∀ {as : List AD} {i : Nat}, i ∈ slotsOf as → ∃ j, At as j i
  | [], _, h => by simp [slotsOf] at h
  | .v d :: as, i, h => by
    obtain ⟨j, hj⟩ := slots_at (as := as) h
    exact ⟨j + 1, hj⟩
  | .s k :: as, i, h => by
    rcases List.mem_cons.mp h with e | h
    · subst e; exact ⟨0, rfl⟩
    · obtain ⟨j, hj⟩ := slots_at (as := as) h
      exact ⟨j + 1, hj⟩
theorem at_inj : ∀ {as : List AD} {i j j' : Nat}, (slotsOf as).Nodup → At as j i → At as j' i → j = j'
  | [], _, _, _, _, h, _ => by simp [At] at h
  | .v d :: as, i, 0, _, _, h, _ => by simp [At] at h
  | .v d :: as, i, _ + 1, 0, _, _, h => by simp [At] at h
  | .v d :: as, i, j + 1, j' + 1, n, h, h' => by rw [at_inj (as := as) n h h']
  | .s k :: as, i, 0, 0, _, _, _ => rfl
  | .s k :: as, i, 0, j' + 1, n, h, h' => by
    simp [At] at h; subst h
    exact absurd (at_slots (as := as) (j := j') h') (List.nodup_cons.mp n).1
  | .s k :: as, i, j + 1, 0, n, h, h' => by
    simp [At] at h'; subst h'
    exact absurd (at_slots (as := as) (j := j) h) (List.nodup_cons.mp n).1
  | .s k :: as, i, j + 1, j' + 1, n, h, h' => by rw [at_inj (as := as) (List.nodup_cons.mp n).2 h h']
/-- the values of arguments: frozen ones, or the slot's own -/
def relG (K : PySem.W.Frag) (σ : L2.St) (B : Hp) : List AD → List V → Prop
  | [], xs => xs = []
  | .v d :: as, xs => ∃ x xs', xs = x :: xs' ∧ RepF K B d x ∧ relG K σ B as xs'
  | .s i :: as, xs => ∃ x xs', xs = x :: xs' ∧ σ[i]? = some (some x) ∧ relG K σ B as xs'
theorem relG.mono {K : PySem.W.Frag} {σ : L2.St} {B B' : Hp} (h : Same B B') : ∀ {as : List AD} {xs : List V}, relG K σ B as xs → relG K σ B' as xs
  | [], _, r => r
  | .v d :: as, _, ⟨x, xs', e, r, rs⟩ => ⟨x, xs', e, r.mono h, rs.mono h⟩
  | .s i :: as, _, ⟨x, xs', e, r, rs⟩ => ⟨x, xs', e, r, rs.mono h⟩
theorem relG.get {K : PySem.W.Frag} {σ : L2.St} {B : Hp} {ρ : En} : ∀ {as : List AD} {xs : List V} {ds : List D}, relG K σ B as xs → dataOf ρ as = some ds → ds.length = xs.length ∧
    ∀ j d, ds[j]? = some d → ∃ x, xs[j]? = some x ∧ ((RepF K B d x ∧ ∀ i, ¬ At as j i) ∨ ∃ i, At as j i ∧ σ[i]? = some (some x) ∧ ρ[i]? = some (some d))
  | [], _, _, r, h => by
    simp [dataOf] at h; subst h; rw [show _ = [] from r]; simp
  | .v d :: as, _, ds, ⟨x, xs', e, r, rs⟩, h => by
    simp only [dataOf, Option.map_eq_some_iff] at h
    obtain ⟨ds', h1, rfl⟩ := h
    obtain ⟨l, g⟩ := relG.get rs h1
    subst e
    refine ⟨by simp [l], fun j d' hj => ?_⟩
    cases j with
    | zero => simp at hj; subst hj; exact ⟨x, rfl, .inl ⟨r, fun i z => by simp [At] at z⟩⟩
    | succ j => exact g j d' hj
  | .s i :: as, _, ds, ⟨x, xs', e, r, rs⟩, h => by
    simp only [dataOf] at h
    split at h
    · rename_i d hd
      simp only [Option.map_eq_some_iff] at h
      obtain ⟨ds', h1, rfl⟩ := h
      obtain ⟨l, g⟩ := relG.get rs h1
      subst e
      refine ⟨by simp [l], fun j d' hj => ?_⟩
      cases j with
      | zero => simp at hj; subst hj; exact ⟨x, rfl, .inr ⟨i, rfl, r, hd⟩⟩
      | succ j => exact g j d' hj
    · cases h
theorem relG.at {K : PySem.W.Frag} {σ : L2.St} {B : Hp} : ∀ {as : List AD} {xs : List V} {j i : Nat}, relG K σ B as xs → At as j i → ∃ x, xs[j]? = some x ∧ σ[i]? = some (some x)
  | [], _, _, _, _, h => by simp [At] at h
  | .v d :: as, _, 0, _, _, h => by simp [At] at h
  | .v d :: as, _, j + 1, i, ⟨x, xs', e, r, rs⟩, h => by subst e; exact relG.at (j := j) rs h
  | .s k :: as, _, 0, i, ⟨x, xs', e, r, rs⟩, h => by simp [At] at h; subst h; subst e; exact ⟨x, rfl, r⟩
  | .s k :: as, _, j + 1, i, ⟨x, xs', e, r, rs⟩, h => by subst e; exact relG.at (j := j) rs h
def PGM (X : Cx) (W : WX) (q : Bool) (es : List Expr) (m : M (List AD)) : Prop := PA X es (can X.K X.mg W (relG X.K) q m)
def gNil : M (List AD) := rt []
def gV (m : M D) (n : M (List AD)) : M (List AD) := bnd m fun d => bnd n fun as => rt (.v d :: as)
def gS (i : Nat) (n : M (List AD)) : M (List AD) := bnd n fun as => rt (.s i :: as)
/-- the call -/
def callG (g : Fn) (as : List AD) : M D := fun ρ => if (slotsOf as).Nodup then match dataOf ρ as with
  | none => none
  | some ds => match g ds with
    | none => none
    | some (r, ρr) => some (r, putBack as ρr 0 ρ)
  else none
def eCall (g : Fn) (m : M (List AD)) : M D := bnd m (callG g)
section
variable {X : Cx} {W : WX} {q q1 q2 : Bool}
theorem pgm_nil : PGM X W true [] gNil := by
  refine pa_imp pa_nil fun σ H Q h => ?_
  obtain ⟨B, F, ρ, fp, r0, ρ', E, hm, post⟩ := h
  obtain ⟨e1, e2⟩ := rt_some hm
  subst e1 e2
  exact post B H fp [] (fun _ _ z => z) E rfl fun _ => ⟨rfl, rfl, Ext.refl E.bh⟩
theorem pgm_v {e : Expr} {es : List Expr} {m : M D} {n : M (List AD)} (ha : PEM X W q1 e m) (hr : PGM X W q2 es n) (hs : starEach (e :: es) X.env = (false, eval e X.env) :: starEach es X.env := by rfl) : PGM X W (q1 && q2) (e :: es) (gV m n) := by
  refine pa_imp (pa_cons ha hr hs) fun σ H Q h => ?_
  obtain ⟨B, F, ρ, fp, r0, ρ', E, hm, post⟩ := h
  refine can_bnd E hm post.err fun d ρ1 B1 H1 fp1 x hm1 s1 E1 rx k1 => ?_
  refine can_bnd E1 hm1 (fun x e => (post.err x e).up s1) fun ds ρ2 B2 H2 fp2 xs hm2 s2 E2 rxs k2 => ?_
  obtain ⟨e2, e3⟩ := rt_some hm2
  subst e2 e3
  exact post B2 H2 fp2 _ (s1.trans s2) E2 ⟨x, xs, rfl, rx.mono s2, rxs⟩ (quiet2 k1 k2)
theorem pgm_s (i : Nat) {x : Str} {pos : Pos} {es : List Expr} {n : M (List AD)} (hr : PGM X W q es n) (hN : X.N[i]? = some x := by rfl) (hv : Vis X.env.scope x := by first | exact Or.inl rfl | exact Or.inr (Or.inl rfl) | exact Or.inr (Or.inr rfl))
    (hd : (x == ("__debug__" : Str)) = false := by decide) (hcd : (x == ("__classdict__" : Str)) = false := by decide) (hs : starEach (.Name x pos :: es) X.env = (false, eval (.Name x pos) X.env) :: starEach es X.env := by rfl)
    (hdef : ∀ (B F H : Hp) (σ : L2.St) (ρ : En) (fp : Nat → FS), EnvOk X.K B F H σ ρ fp → True := by intros; trivial) : PGM X W q (.Name x pos :: es) (fun ρ => match ρ[i]? with | some (some _) => gS i n ρ | _ => none) := by
  refine pa_imp (pa_cons (pe_var (i := i) hN hv hd hcd) hr hs) fun σ H Q h => ?_
  obtain ⟨B, F, ρ, fp, r0, ρ', E, hm, post⟩ := h
  simp only at hm
  split at hm
  · rename_i d e
    obtain ⟨v, h1, _⟩ := E.rep i d e
    refine ⟨v, h1, ?_⟩
    refine can_bnd E hm post.err fun ds ρ2 B2 H2 fp2 xs hm2 s2 E2 rxs k2 => ?_
    obtain ⟨e2, e3⟩ := rt_some hm2
    subst e2 e3
    exact post B2 H2 fp2 _ s2 E2 ⟨v, xs, rfl, h1, rxs⟩ k2
  · cases hm
/-- the heap that a callee must leave as it is: the other slots' own objects, and what the caller's frame says -/
theorem can_call {K : PySem.W.Frag} {mg : Str → Option Value} {g : Fn} {n : Nat} {m : M (List AD)} {σ : L2.St} {H : Hp} {Q : VK} (hn : ∀ ds r, g ds = some r → ds.length = n) (h : canO K mg W (eCall g m) σ H Q) :
    can K mg W (relG K) q m σ H fun vs H1 => spM K mg n g vs H1 Q fun cls d H' => W cls d σ H' := by
  obtain ⟨B, F, ρ, fp, r, ρ', E, hm, post⟩ := h
  refine can_bnd E hm (fun x e => by subst e; exact post) fun as ρ1 B1 H1 fp1 vs hm1 s1 E1 rg _ => ?_
  clear E hm
  unfold callG at hm1
  split at hm1
  case isFalse => cases hm1
  case isTrue nd =>
  cases ed : dataOf ρ1 as with
  | none => rw [ed] at hm1; cases hm1
  | some ds =>
  rw [ed] at hm1
  simp only at hm1
  cases eg : g ds with
  | none => rw [eg] at hm1; cases hm1
  | some p =>
  obtain ⟨r1, ρr⟩ := p
  rw [eg] at hm1
  cases hm1
  obtain ⟨hl, hget⟩ := rg.get ed
  have hother : ∀ i, (∀ j, ¬ At as j i) ↔ i ∉ slotsOf as := fun i => ⟨fun z q => let ⟨j, hj⟩ := slots_at q; z j hj, fun z j hj => z (at_slots hj)⟩
  let O : FS := fun a => ∃ i, fp1 i a ∧ i ∉ slotsOf as
  have Oout : ∀ a, O a → B1 a = none ∧ F a = none ∧ H1 a ≠ none := fun a ⟨i, z, _⟩ => ⟨(E1.out i a z).1, (E1.out i a z).2, E1.live i a z⟩
  let F' : Hp := grow F H1 O
  have fF : Same F F' := same_grow fun a z => (Oout a z).2.1
  have FH : Same F' H1 := grow_same E1.fh
  let fpc : Nat → FS := fun j a => ∃ i, At as j i ∧ fp1 i a
  have notO : ∀ i a, i ∈ slotsOf as → fp1 i a → ¬ O a := fun i a hi z ⟨i', z', n'⟩ => by
    rw [E1.apart i i' a z z'] at hi; exact n' hi
  have Ec : EnvOk K B1 F' H1 (vs.map some) (ds.map some) fpc := by
    refine ⟨E1.bh, FH, fun a o e => ?_, fun j d e => ?_, fun j j' a h1 h2 => ?_, fun j a z => ?_, fun j a z => ?_, by simp [hl]⟩
    · by_cases z : O a
      · exact (Oout a z).1
      · have e' : grow F H1 O a = some o := e
        rw [grow_out z] at e'
        exact E1.bf a o e'
    · have e' : ds[j]? = some d := by
        rw [List.getElem?_map] at e
        cases q : ds[j]? with
        | none => rw [q] at e; cases e
        | some d' => rw [q] at e; cases e; rfl
      obtain ⟨x, hx, hr⟩ := hget j d e'
      refine ⟨x, by rw [List.getElem?_map, hx]; rfl, ?_⟩
      rcases hr with ⟨hr, _⟩ | ⟨i, ha, hs, hd⟩
      · exact RepF.to hr
      · obtain ⟨v, h1, h2⟩ := E1.rep i d hd
        rw [hs] at h1; cases h1
        exact Rep.mono (fun _ _ z => z) d (fun _ _ => rfl) (fun a z => ⟨i, ha, z⟩) h2
    · obtain ⟨i, a1, z1⟩ := h1
      obtain ⟨i', a2, z2⟩ := h2
      have := E1.apart i i' a z1 z2
      subst this
      exact at_inj nd a1 a2
    · obtain ⟨i, a1, z⟩ := z
      refine ⟨(E1.out i a z).1, ?_⟩
      show grow F H1 O a = none
      rw [grow_out (notO i a (at_slots a1) z)]
      exact (E1.out i a z).2
    · obtain ⟨i, a1, z⟩ := z
      exact E1.live i a z
  have back : ∀ {B' H' : Hp} {fpr : Nat → FS}, Same B1 B' → EnvOk K B' F' H' (vs.map some) ρr fpr →
      EnvOk K B' F H' σ (putBack as ρr 0 ρ1) (fun i a => (∃ j, At as j i ∧ fpr j a) ∨ (i ∉ slotsOf as ∧ fp1 i a)) := fun {B' H' fpr} sb Er => by
    have Fo : ∀ a, F' a = none → F a = none := fun a z => fF.free z
    have other : ∀ i a, i ∉ slotsOf as → fp1 i a → F' a = H1 a ∧ H' a = H1 a := fun i a hi z => by
      have e1 : F' a = H1 a := grow_in ⟨i, z, hi⟩
      refine ⟨e1, ?_⟩
      cases q : H1 a with
      | none => exact absurd q (E1.live i a z)
      | some o => exact Er.fh a o (e1.trans q)
    refine ⟨Er.bh, fF.trans Er.fh, fun a o e => Er.bf a o (fF a o e), fun i d e => ?_, fun i i' a h1 h2 => ?_, fun i a z => ?_, fun i a z => ?_, by rw [putBack_len]; exact E1.len⟩
    · rw [putBack_get, Nat.zero_add] at e
      cases eo : ρ1[i]? with
      | none => rw [eo] at e; cases e
      | some o =>
        rw [eo, Option.map_some] at e
        have e := Option.some.inj e
        cases es : slotIx as i with
        | none =>
          rw [es] at e
          simp only at e
          subst e
          obtain ⟨v, h1, h2⟩ := E1.rep i d eo
          have ni : i ∉ slotsOf as := (hother i).mp (slotIx_none es)
          exact ⟨v, h1, Rep.mono sb d (fun a z => (other i a ni z).2) (fun a z => .inr ⟨ni, z⟩) h2⟩
        | some j =>
          rw [es] at e
          simp only at e
          have aj := slotIx_some es
          have ej : ρr[j]? = some (some d) := by
            cases q : ρr[j]? with
            | none => rw [q] at e; cases e
            | some o' => rw [q] at e; simp at e; rw [e]
          obtain ⟨v, h1, h2⟩ := Er.rep j d ej
          obtain ⟨x, hx, hs⟩ := rg.at aj
          rw [List.getElem?_map, hx] at h1
          cases h1
          exact ⟨v, hs, Rep.mono (fun _ _ z => z) d (fun _ _ => rfl) (fun a z => .inl ⟨j, aj, z⟩) h2⟩
    · rcases h1 with ⟨j, a1, z1⟩ | ⟨n1, z1⟩ <;> rcases h2 with ⟨j', a2, z2⟩ | ⟨n2, z2⟩
      · have := Er.apart j j' a z1 z2
        subst this
        have q : some (AD.s i) = some (AD.s i') := a1.symm.trans a2
        cases q
        rfl
      · exact absurd (Er.out j a z1).2 (by rw [(other i' a n2 z2).1]; exact E1.live i' a z2)
      · exact absurd (Er.out j' a z2).2 (by rw [(other i a n1 z1).1]; exact E1.live i a z1)
      · exact E1.apart i i' a z1 z2
    · rcases z with ⟨j, a1, z⟩ | ⟨n1, z⟩
      · exact ⟨(Er.out j a z).1, Fo a (Er.out j a z).2⟩
      · refine ⟨?_, (E1.out i a z).2⟩
        cases q : H1 a with
        | none => exact absurd q (E1.live i a z)
        | some o => exact Er.bf a o ((other i a n1 z).1.trans q)
    · rcases z with ⟨j, a1, z⟩ | ⟨n1, z⟩
      · exact Er.live j a z
      · rw [(other i a n1 z).2]; exact E1.live i a z
  refine ⟨?_, B1, F', ds, fpc, r, ρr, Ec, eg, ?_⟩
  · rw [← hl]; exact hn ds _ eg
  · cases r with
    | error x => exact fun B' H' fpr cls dd sb Er xr => post B' H' _ cls dd (s1.trans sb) (back sb Er) xr
    | ok d =>
      refine fun B' H' fpr v S sb Er vo => post B' H' _ v S (s1.trans sb) (back sb Er) ⟨vo.rep, fun a z => ?_⟩
      obtain ⟨o1, o2, o3, o4⟩ := vo.out a z
      refine ⟨o1, fF.free o2, o3, fun i q => ?_⟩
      rcases q with ⟨j, _, q⟩ | ⟨n1, q⟩
      · exact o4 j q
      · have e1 : F' a = H1 a := grow_in ⟨i, q, n1⟩
        rw [e1] at o2
        exact E1.live i a q o2
theorem peo_call {k n : Nat} {g : Fn} {x : Str} {p pos : Pos} {e : Expr} {es : List Expr} {m : M (List AD)} (C : Cal X.prog X.w X.K X.mg X.base k x n g)
    (hg : X.A.guards = some []) (hr : Room k X.A) (tk : Takes X W) (gl : Gl X x) (ha : PGM X W q (e :: es) m)
    (hdb : (x == ("__debug__" : Str)) = false := by decide) (he : starEach (e :: es) X.env = (false, eval e X.env) :: starEach es X.env := by rfl) (hpl : (backTo pos (starEach es X.env)).any (·.1) = false := by rfl) :
    PEO X W (.Call (.Name x p) (e :: es) [] pos) (eCall g m) :=
  pe_imp (pe_cal C hg hr tk gl ha hdb he hpl) fun σ H Q h => can_call C.len h
theorem fnM_len {P : List Bool} {nl : Nat} {m : M Fl} : ∀ ds r, fnM P nl m ds = some r → ds.length = P.length := fun ds r h => by
  unfold fnM at h
  split at h
  · assumption
  · cases h
/-- a call without own arguments is quiet -/
def callQ (g : Fn) (ds : List D) : M D := fun ρ => match g ds with
  | some (.ok d, _) => if isF d = true then some (.ok d, ρ) else none
  | some (.error x, _) => some (.error x, ρ)
  | none => none
def eCallQ (g : Fn) (m : M (List D)) : M D := bnd m (callQ g)
theorem can_callQ {K : PySem.W.Frag} {mg : Str → Option Value} {g : Fn} {n : Nat} {m : M (List D)} {σ : L2.St} {H : Hp} {Q : VK} (hn : ∀ ds r, g ds = some r → ds.length = n) (h : can K mg W (relE K) q (eCallQ g m) σ H Q) :
    can K mg W (relA K) q m σ H fun vs H1 => spM K mg n g vs H1 Q fun cls d H' => W cls d σ H' := by
  obtain ⟨B, F, ρ, fp, r, ρ', E, hm, post⟩ := h
  refine can_bnd E hm post.err fun ds ρ1 B1 H1 fp1 vs hm1 s1 E1 rg k1 => ?_
  clear E hm
  unfold callQ at hm1
  cases eg : g ds with
  | none => rw [eg] at hm1; cases hm1
  | some p =>
  obtain ⟨r1, ρr⟩ := p
  rw [eg] at hm1
  have hl := rg.length
  let O : FS := fun a => B1 a = none ∧ H1 a ≠ none
  let F' : Hp := fun a => match B1 a with
    | none => H1 a
    | some _ => none
  have FH : Same F' H1 := fun a o e => by
    have e' : (match B1 a with | none => H1 a | some _ => none) = some o := e
    split at e'
    · exact e'
    · cases e'
  have fF : Same F F' := fun a o e => by
    show (match B1 a with | none => H1 a | some _ => none) = some o
    rw [E1.bf a o e]
    exact E1.fh a o e
  have Ec : EnvOk K B1 F' H1 (vs.map some) (ds.map some) noT := by
    refine ⟨E1.bh, FH, fun a o e => ?_, fun j d e => ?_, fun _ _ _ z => z.elim, fun _ _ z => z.elim, fun _ _ z => z.elim, by simp [hl]⟩
    · have e' : (match B1 a with | none => H1 a | some _ => none) = some o := e
      split at e'
      · assumption
      · cases e'
    · have e' : ds[j]? = some d := by
        rw [List.getElem?_map] at e
        cases q : ds[j]? with
        | none => rw [q] at e; cases e
        | some d' => rw [q] at e; cases e; rfl
      obtain ⟨x, hx, hr⟩ := Reps.get rg e'
      exact ⟨x, by rw [List.getElem?_map, hx]; rfl, RepF.to hr⟩
  have ext : ∀ {B' H' : Hp} {fpr : Nat → FS} {ρq : En}, Same B1 B' → EnvOk K B' F' H' (vs.map some) ρq fpr → Ext B1 H1 B' H' := fun {B' H' fpr ρq} sb Er => by
    refine ⟨sb, fun a o e => ?_, Er.bh, fun a o e z => ?_⟩
    · cases q : B1 a with
      | some u => rw [E1.bh a u q] at e; cases e; exact Er.bh a _ (sb a _ q)
      | none => exact Er.fh a o (by show (match B1 a with | none => H1 a | some _ => none) = some o; rw [q]; exact e)
    · cases q : H1 a with
      | none => rfl
      | some u =>
        have : B' a = none := Er.bf a u (by show (match B1 a with | none => H1 a | some _ => none) = some u; rw [z]; exact q)
        rw [this] at e; cases e
  refine ⟨hl.trans (hn ds _ eg), B1, F', ds, noT, r1, ρr, Ec, eg, ?_⟩
  cases r1 with
  | error x =>
    cases hm1
    exact fun B' H' fpr cls dd sb Er xr => post B' H' fp1 cls dd (s1.trans sb) (E1.ext (ext sb Er)) xr
  | ok d =>
    simp only at hm1
    split at hm1
    · rename_i hf
      cases hm1
      refine fun B' H' fpr v S sb Er vo => post B' H' fp1 v (s1.trans sb) (E1.ext (ext sb Er)) (Rep.isF d hf vo.rep) fun qq => ?_
      obtain ⟨a1, a2, a3⟩ := k1 qq
      exact ⟨a1, a2, a3.trans (ext sb Er)⟩
    · cases hm1
theorem pem_callQ {k n : Nat} {g : Fn} {x : Str} {p pos : Pos} {e : Expr} {es : List Expr} {m : M (List D)} (C : Cal X.prog X.w X.K X.mg X.base k x n g)
    (hg : X.A.guards = some []) (hr : Room k X.A) (tk : Takes X W) (gl : Gl X x) (ha : PAM X W q (e :: es) m)
    (hdb : (x == ("__debug__" : Str)) = false := by decide) (he : starEach (e :: es) X.env = (false, eval e X.env) :: starEach es X.env := by rfl) (hpl : (backTo pos (starEach es X.env)).any (·.1) = false := by rfl) :
    PEM X W q (.Call (.Name x p) (e :: es) [] pos) (eCallQ g m) :=
  pe_imp (pe_cal C hg hr tk gl ha hdb he hpl) fun σ H Q h => can_callQ C.len h
end
end G

namespace G
open PySem PySem.Spec PyProof.Rows L2
section
variable {X : Cx} {W : WX} {q q1 q2 : Bool} {P : Nat → Bool} {K : PySem.W.Frag} {mg : Str → Option Value}

def loopF (more : M Fl) : Fl → M Fl
  | .nx => more
  | .ct => more
  | .bk => rt .nx
  | .rt d => rt (.rt d)
def whileM (c : M Bool) (b : M Fl) : Nat → M Fl
  | 0 => fun _ => none
  | n + 1 => bnd c fun k => if k = true then bnd b (loopF (whileM c b n)) else rt .nx
theorem can_body {D : Ends} {N : L2.St → Hp → Prop} {b more : M Fl} {B F : Hp} {ρ ρ' : En} {r : Except Xn Fl} {σ : L2.St} {H : Hp} {fp : Nat → FS} (E : EnvOk K B F H σ ρ fp) (hm : bnd b (loopF more) ρ = some (r, ρ')) (post : PostS K mg W P B F σ D r ρ')
    (hN : ∀ B' H' σ' fp' ρ1, Same B B' → EnvOk K B' F H' σ' ρ1 fp' → more ρ1 = some (r, ρ') → PostS K mg W P B' F σ' D r ρ' → N σ' H') : canS K mg W P b { D with nx := N, ct := N, bk := D.nx } σ H := by
  unfold bnd at hm
  cases e1 : b ρ with
  | none => rw [e1] at hm; cases hm
  | some p =>
    obtain ⟨r1, ρ1⟩ := p
    rw [e1] at hm
    refine ⟨B, F, ρ, fp, r1, ρ1, E, e1, ?_⟩
    cases r1 with
    | error x => cases hm; exact post
    | ok f =>
      cases f with
      | nx => exact fun B' H' σ' fp' s E' p => hN B' H' σ' fp' ρ1 s E' hm (post.up s p)
      | ct => exact fun B' H' σ' fp' s E' p => hN B' H' σ' fp' ρ1 s E' hm (post.up s p)
      | bk => cases hm; exact post
      | rt d => cases hm; exact post
theorem psm_while (n : Nat) {c : Expr} {body : List Stmt} {t : M Bool} {b : M Fl} {pos : Pos} (hp : PassesOwn (model X.prog X.w) X.A X.env X.xe) (hc : PTM X W q c t) (hb : PSsM X W P body b) : PSM X W P (.While c body [] pos) (whileM t b n) :=
  ps_imp (ps_while hp hc hb) fun D σ H h => by
    refine ⟨fun j σ' H' => canS X.K X.mg W P (whileM t b j) D σ' H', ⟨n, h⟩, fun m σ H h => ?_⟩
    cases m with
    | zero =>
      obtain ⟨B, F, ρ, fp, r, ρ', E, hm, post⟩ := h
      cases hm
    | succ j =>
      refine canE_S h fun k B ρ1 F H1 fp1 w r ρ' hm E rl post => ?_
      have rl : k = w := rl
      subst rl
      cases k with
      | false =>
        rw [if_neg (by decide)] at hm ⊢
        obtain ⟨e1, e2⟩ := rt_some hm
        subst e1 e2
        exact post B H1 σ fp1 (fun _ _ z => z) E Pin.refl
      | true =>
        rw [if_pos rfl] at hm ⊢
        exact ⟨fun σ' H' => canS X.K X.mg W P (whileM t b j) D σ' H', fun σ' H' h' => ⟨j, Nat.lt_succ_self j, h'⟩, can_body E hm post fun B' H' σ' fp' ρ2 s E' h2 p2 => ⟨B', F, ρ2, fp', r, ρ', E', h2, p2⟩⟩

def canG (K : PySem.W.Frag) (P : Nat → Bool) (tgt : D → M Fl) : TG := fun v σ H Q => ∃ B F ρ fp d ρ', EnvOk K B F H σ ρ fp ∧ RepF K B d v ∧ tgt d ρ = some (.ok .nx, ρ') ∧ ∀ B' H' σ' fp', Same B B' → EnvOk K B' F H' σ' ρ' fp' → Pin P σ σ' → σ'.length = σ.length → H' = H → Q σ' H'
def PTg (X : Cx) (P : Nat → Bool) (tg : Expr) (tgt : D → M Fl) : Prop := PG X tg (canG X.K P tgt)
theorem pg_imp {tg : Expr} {t t' : TG} (h : PG X tg t) (i : ∀ v σ H Q, t' v σ H Q → t v σ H Q) : PG X tg t' := ⟨fun pins s σ H v u Q I r hw => h.run pins s σ H v u Q I r (i v σ H Q hw)⟩
theorem ptg_name {i : Nat} {x : Str} {pos : Pos} (hN : X.N.Nodup) (hi : X.N[i]? = some x) (hx : Loc X.env.scope x) (hp : P i = false := by rfl)
    (hf : X.fn x = true ∨ X.env.scope.names.lookup x = some .local := by first | exact .inl rfl | exact .inr rfl | assumption) : PTg X P (.Name x pos) (put i) :=
  pg_imp (pg_name hN hi hx hf) fun v σ H Q h => by
    obtain ⟨B, F, ρ, fp, d, ρ', E, rv, hm, post⟩ := h
    obtain ⟨hl, _, e2⟩ := put_some hm
    subst e2
    exact post B H _ _ (fun _ _ z => z) (E.set hl (ValOk.of rv)) (Pin.set hp) (by rw [List.length_set]) rfl
def canGs (K : PySem.W.Frag) (P : Nat → Bool) (tgt : List D → M Fl) : TGs := fun vs σ H Q => ∃ B F ρ fp ds ρ', EnvOk K B F H σ ρ fp ∧ RepsF K B ds vs ∧ tgt ds ρ = some (.ok .nx, ρ') ∧ ∀ B' H' σ' fp', Same B B' → EnvOk K B' F H' σ' ρ' fp' → Pin P σ σ' → σ'.length = σ.length → H' = H → Q σ' H'
def PTgs (X : Cx) (P : Nat → Bool) (ts : List Expr) (tgt : List D → M Fl) : Prop := PGs X ts (canGs X.K P tgt)
theorem pgs_imp {ts : List Expr} {t t' : TGs} (h : PGs X ts t) (i : ∀ v σ H Q, t' v σ H Q → t v σ H Q) : PGs X ts t' := ⟨fun pins s σ H v u Q I r hw => h.run pins s σ H v u Q I r (i v σ H Q hw)⟩
def tgNil : List D → M Fl
  | [] => rt .nx
  | _ => fun _ => none
def tgCons (t : D → M Fl) (u : List D → M Fl) : List D → M Fl
  | d :: ds => sSeq (t d) (u ds)
  | [] => fun _ => none
theorem ptgs_nil : PTgs X P [] tgNil := pgs_imp pgs_nil fun vs σ H Q h => by
  obtain ⟨B, F, ρ, fp, ds, ρ', E, rv, hm, post⟩ := h
  cases ds with
  | cons d ds => cases hm
  | nil =>
    cases hm
    exact ⟨rv, post B H σ fp (fun _ _ z => z) E Pin.refl rfl rfl⟩
theorem ptgs_cons {e : Expr} {es : List Expr} {t : D → M Fl} {u : List D → M Fl} (h1 : PTg X P e t) (h2 : PTgs X P es u) (hs : (assignEach (e :: es) X.env).map (·.2) = assign e X.env :: (assignEach es X.env).map (·.2) := by rfl) : PTgs X P (e :: es) (tgCons t u) :=
  pgs_imp (pgs_cons h1 h2 hs) fun vs σ H Q h => by
    obtain ⟨B, F, ρ, fp, ds, ρ', E, rv, hm, post⟩ := h
    cases ds with
    | nil => cases hm
    | cons d ds =>
      obtain ⟨x, xs, e, r, rs⟩ := rv
      have hm : sSeq (t d) (u ds) ρ = _ := hm
      unfold sSeq bnd at hm
      cases e1 : t d ρ with
      | none => rw [e1] at hm; cases hm
      | some p =>
        obtain ⟨r1, ρ1⟩ := p
        rw [e1] at hm
        cases r1 with
        | error x => cases hm
        | ok f =>
          cases f with
          | nx => exact ⟨x, xs, e, B, F, ρ, fp, d, ρ1, E, r, e1, fun B' H' σ' fp' s E' p hl eh => by
              subst eh
              exact ⟨B', F, ρ1, fp', ds, ρ', E', RepsF.mono s rs, hm, fun B2 H2 σ2 fp2 s2 E2 p2 hl2 eh => post B2 H2 σ2 fp2 (s.trans s2) E2 (p.trans p2) (hl2.trans hl) eh⟩⟩
          | _ => cases hm
def tgTup (n : Nat) (t : List D → M Fl) : D → M Fl
  | .tup ds => if ds.length = n then t ds else fun _ => none
  | _ => fun _ => none
theorem ptg_tup {es : List Expr} {k : Nat} {t : List D → M Fl} {n : Nat} {pos : Pos} (hc : X.calm = true) (h : PTgs X P es t) (hn : (assignEach es X.env).length = n := by rfl) (hst : (assignEach es X.env).findIdx? (·.1) = none := by rfl) : PTg X P (.Tuple es k pos) (tgTup n t) :=
  pg_imp (pg_tup hc h hn hst) fun v σ H Q h => by
    obtain ⟨B, F, ρ, fp, d, ρ', E, rv, hm, post⟩ := h
    unfold tgTup at hm
    split at hm
    · split at hm
      · rename_i ds hl
        obtain ⟨a, xs, e, q, r⟩ := rv
        exact ⟨a, xs, e, sqT_mono E.bh q, r.length.trans hl, B, F, ρ, fp, ds, ρ', E, RepsF.of r, hm, post⟩
      · cases hm
    · cases hm
/-- t = e with a target that is no plain name -/
theorem psm_asg {tg e : Expr} {m : M D} {tgt : D → M Fl} {pos : Pos} (he : PEM X W q e m) (hg : PTg X P tg tgt) (hs : swapsWithSole [tg] e pos.line X.env = pure false := by rfl) (hw : swappedStores [tg] e X.env = pure none := by rfl)
    (h1 : (assignEach [tg] X.env).map (·.2) = [assign tg X.env] := by rfl) (hok : ∀ d ρ r ρ', tgt d ρ = some (r, ρ') → r = .ok .nx) : PSM X W P (.Assign [tg] e pos) (bnd m tgt) :=
  ps_imp (ps_asg he hg hs hw h1) fun D σ H h => canE_S h fun d B ρ1 F H1 fp1 w r ρ' hm E rl post => by
    have e := hok _ _ _ _ hm
    subst e
    exact ⟨B, F, ρ1, fp1, d, ρ', E, rl, hm, fun B' H' σ' fp' s E' p _ eh => post B' H' σ' fp' s E' p⟩
theorem put_ok {i : Nat} : ∀ d ρ r ρ', put i d ρ = some (r, ρ') → r = .ok .nx := fun d ρ r ρ' h => (put_some h).2.1
theorem tgNil_ok : ∀ ds ρ r ρ', tgNil ds ρ = some (r, ρ') → r = .ok .nx := fun ds ρ r ρ' h => by
  cases ds with
  | nil => cases h; rfl
  | cons d ds => cases h
theorem tgCons_ok {t : D → M Fl} {u : List D → M Fl} (h1 : ∀ d ρ r ρ', t d ρ = some (r, ρ') → r = .ok .nx) (h2 : ∀ ds ρ r ρ', u ds ρ = some (r, ρ') → r = .ok .nx) : ∀ ds ρ r ρ', tgCons t u ds ρ = some (r, ρ') → r = .ok .nx := fun ds ρ r ρ' h => by
  cases ds with
  | nil => cases h
  | cons d ds =>
    have hm : sSeq (t d) (u ds) ρ = _ := h
    unfold sSeq bnd at hm
    cases e1 : t d ρ with
    | none => rw [e1] at hm; cases hm
    | some p =>
      obtain ⟨r1, ρ1⟩ := p
      have := h1 _ _ _ _ e1
      subst this
      rw [e1] at hm
      exact h2 _ _ _ _ hm
theorem tgTup_ok {n : Nat} {t : List D → M Fl} (h1 : ∀ ds ρ r ρ', t ds ρ = some (r, ρ') → r = .ok .nx) : ∀ d ρ r ρ', tgTup n t d ρ = some (r, ρ') → r = .ok .nx := fun d ρ r ρ' h => by
  unfold tgTup at h
  split at h
  · split at h
    · exact h1 _ _ _ _ h
    · cases h
  · cases h

def WalksD (K : PySem.W.Frag) (J : It) (B1 : Hp) (ds : List D) : Prop := ∀ B H, Same B1 B → Same B H → ∀ i, (∀ d, ds[i]? = some d → J.go i H ∧ ∀ x H', J.yld i H x H' → ∃ B', Ext B H B' H' ∧ RepF K B' d x) ∧ (ds.length ≤ i → J.stop i H)
def canI (K : PySem.W.Frag) (mg : Str → Option Value) (W : WX) (q : Bool) (m : M (List D)) : TI := fun σ H R => ∃ B F ρ fp r ρ', EnvOk K B F H σ ρ fp ∧ m ρ = some (r, ρ') ∧ match r with
  | .ok ds => ∀ B' H' fp' J, Same B B' → EnvOk K B' F H' σ ρ' fp' → WalksD K J B' ds → (q = true → ρ' = ρ ∧ fp' = fp ∧ Ext B H B' H') → R J H'
  | .error x => ErrP K mg W B F σ x ρ'
def PIM (X : Cx) (W : WX) (q : Bool) (tg iter : Expr) (m : M (List D)) : Prop := PI X tg iter (canI X.K X.mg W q m)
theorem pi_imp {tg iter : Expr} {t t' : TI} (h : PI X tg iter t) (i : ∀ σ H R, t' σ H R → t σ H R) : PI X tg iter t' := ⟨fun pins s σ H R I hw => h.run pins s σ H R I (i σ H R hw)⟩
theorem pi_or {tg iter : Expr} {t t' : TI} (h : PI X tg iter t) (h' : PI X tg iter t') : PI X tg iter (fun σ H R => t σ H R ∨ t' σ H R) := ⟨fun pins s σ H R I hw => hw.elim (h.run pins s σ H R I) (h'.run pins s σ H R I)⟩
/-- the items of a list or a tuple -/
def itemsOf : D → Option (List D)
  | .tup ds => some ds
  | .lst false ds => some ds
  | .sq ds => some ds
  | _ => none
theorem walks_l {B : Hp} {a : Addr} {ds : List D} {xs : List V} (h : SqL K B a xs) (r : RepsF K B ds xs) : WalksD K (Itl K a) B ds := fun B2 H sb sh i => by
  have hl := r.length
  have hq := sqL_mono sh (sqL_mono sb h)
  refine ⟨fun d e => ?_, fun hi => ⟨xs, hq, by omega⟩⟩
  obtain ⟨x, hx, rx⟩ := Reps.get r e
  refine ⟨⟨xs, x, hq, hx⟩, fun y H' hy => ?_⟩
  obtain ⟨rfl, hy⟩ := hy
  have := hy xs hq
  rw [hx] at this
  cases this
  exact ⟨B2, Ext.refl sh, RepF.mono sb rx⟩
theorem walks_t {B : Hp} {a : Addr} {ds : List D} {xs : List V} (h : SqT K B a xs) (r : RepsF K B ds xs) : WalksD K (Itt K a) B ds := fun B2 H sb sh i => by
  have hl := r.length
  have hq := sqT_mono sh (sqT_mono sb h)
  refine ⟨fun d e => ?_, fun hi => ⟨xs, hq, by omega⟩⟩
  obtain ⟨x, hx, rx⟩ := Reps.get r e
  refine ⟨⟨xs, x, hq, hx⟩, fun y H' hy => ?_⟩
  obtain ⟨rfl, hy⟩ := hy
  have := hy xs hq
  rw [hx] at this
  cases this
  exact ⟨B2, Ext.refl sh, RepF.mono sb rx⟩
/-- a computed value goes on into a walk -/
theorem can_I {α ω : Type} {rel : L2.St → Hp → α → ω → Prop} {m : M α} {f : α → Option (List D)} {σ : L2.St} {H : Hp} {R : It → Hp → Prop} {Z : ω → Hp → Prop} (h : canI K mg W q (bnd m fun a => ofO (f a)) σ H R)
    (ok : ∀ a ds B H1 w, f a = some ds → Same B H1 → rel σ B a w → (∀ J, WalksD K J B ds → R J H1) → Z w H1) : can K mg W rel q m σ H Z := by
  obtain ⟨B, F, ρ, fp, r, ρ', E, hm, post⟩ := h
  refine can_bnd E hm (fun x e => by subst e; exact post) fun a ρ1 B1 H1 fp1 w hf s E1 rl qq => ?_
  obtain ⟨ds, e1, e2, e3⟩ := ofO_some hf
  subst e2 e3
  exact ok a ds B1 H1 w e1 E1.bh rl fun J wk => post B1 H1 fp1 J s E1 wk qq
theorem can_I' {α ω : Type} {rel : L2.St → Hp → α → ω → Prop} {m : M α} {f : α → Option (List D)} {σ : L2.St} {H : Hp} {R : It → Hp → Prop} {Z Z' : ω → Hp → Prop} (h : canI K mg W q (bnd m fun a => ofO (f a)) σ H R)
    (ok : (∀ a ds B H1 w, f a = some ds → Same B H1 → rel σ B a w → (∀ J, WalksD K J B ds → R J H1) → Z w H1) ∨ (∀ a ds B H1 w, f a = some ds → Same B H1 → rel σ B a w → (∀ J, WalksD K J B ds → R J H1) → Z' w H1)) : can K mg W rel q m σ H Z ∨ can K mg W rel q m σ H Z' :=
  ok.elim (fun o => .inl (can_I h o)) fun o => .inr (can_I h o)
def iItems (m : M D) : M (List D) := bnd m fun d => ofO (itemsOf d)
theorem pim_items {tg e : Expr} {m : M D} (h : PEM X W q e m) : PIM X W q tg e (iItems m) :=
  pi_imp (pi_or (pi_list h) (pi_tup h)) fun σ H R hc => by
    obtain ⟨B, F, ρ, fp, r, ρ', E, hm, post⟩ := id hc
    unfold iItems bnd at hm
    have fin : ∀ {r1 ρ1}, m ρ = some (r1, ρ1) → (∀ d, r1 = .ok d → ∃ ds, d = .tup ds) → iList X.K (can X.K X.mg W (relE X.K) q m) σ H R ∨ iTup X.K (can X.K X.mg W (relE X.K) q m) σ H R := fun {r1 ρ1} e1 hd => by
      right
      refine ⟨B, F, ρ, fp, r1, ρ1, E, e1, ?_⟩
      rw [e1] at hm
      cases r1 with
      | error x => cases hm; exact post
      | ok d =>
        obtain ⟨ds, rfl⟩ := hd d rfl
        cases hm
        intro B' H' fp' w s E' rl qq
        obtain ⟨a, xs, e, q, r⟩ := rl
        exact ⟨a, e, ⟨xs, sqT_mono E'.bh q⟩, post B' H' fp' _ s E' (walks_t q (RepsF.of r)) qq⟩
    have fin2 : ∀ {r1 ρ1}, m ρ = some (r1, ρ1) → (∀ d, r1 = .ok d → ∃ ds, d = .lst false ds ∨ d = .sq ds) → iList X.K (can X.K X.mg W (relE X.K) q m) σ H R ∨ iTup X.K (can X.K X.mg W (relE X.K) q m) σ H R := fun {r1 ρ1} e1 hd => by
      left
      refine ⟨B, F, ρ, fp, r1, ρ1, E, e1, ?_⟩
      rw [e1] at hm
      cases r1 with
      | error x => cases hm; exact post
      | ok d =>
        obtain ⟨ds, rfl | rfl⟩ := hd d rfl
        · cases hm
          intro B' H' fp' w s E' rl qq
          obtain ⟨a, xs, e, q, r⟩ := rl
          exact ⟨a, e, ⟨xs, sqL_mono E'.bh (sqL_of q)⟩, post B' H' fp' _ s E' (walks_l (sqL_of q) (RepsF.of r)) qq⟩
        · cases hm
          intro B' H' fp' w s E' rl qq
          obtain ⟨a, xs, e, q, r⟩ := rl
          exact ⟨a, e, ⟨xs, sqL_mono E'.bh q⟩, post B' H' fp' _ s E' (walks_l q (RepsF.of r)) qq⟩
    cases e1 : m ρ with
    | none => rw [e1] at hm; cases hm
    | some p =>
      obtain ⟨r1, ρ1⟩ := p
      cases r1 with
      | error x => exact fin e1 fun d z => nomatch z
      | ok d =>
        rw [e1] at hm
        cases d with
        | tup ds => exact fin e1 fun d z => ⟨ds, (Except.ok.inj z).symm⟩
        | sq ds => exact fin2 e1 fun d z => ⟨ds, .inr (Except.ok.inj z).symm⟩
        | lst o ds => cases o with
          | true => cases hm
          | false => exact fin2 e1 fun d z => ⟨ds, .inl (Except.ok.inj z).symm⟩
        | _ => cases hm
/-- range -/
def rngD (lo : Int) (n : Nat) : List D := (List.range n).map fun (i : Nat) => D.int (lo + (i : Int))
theorem walks_r {B : Hp} {lo : Int} {n : Nat} : WalksD K (Itr lo n) B (rngD lo n) := fun B2 H sb sh i => by
  unfold rngD
  refine ⟨fun d e => ?_, fun hi => (by simpa using hi : n ≤ i)⟩
  rw [List.getElem?_map] at e
  cases q : (List.range n)[i]? with
  | none => rw [q] at e; cases e
  | some j =>
    rw [q] at e
    cases e
    have hi : i < n := by
      rcases Nat.lt_or_ge i n with z | z
      · exact z
      · rw [List.getElem?_eq_none (by simpa using z)] at q; cases q
    have : j = i := by rw [List.getElem?_range hi] at q; exact (Option.some.inj q).symm
    subst this
    exact ⟨hi, fun x H' hy => ⟨B2, by rw [hy.1]; exact Ext.refl sh, by rw [hy.2]; rfl⟩⟩
noncomputable def rng1 : List D → Option (List D)
  | [.int j] => @ite _ (-(2 ^ 62) ≤ j ∧ j < 2 ^ 62) (Classical.propDecidable _) (some (rngD 0 j.toNat)) none
  | _ => none
noncomputable def rng2 : List D → Option (List D)
  | [.int i, .int j] => @ite _ (-(2 ^ 62) ≤ i ∧ i < 2 ^ 62 ∧ -(2 ^ 62) ≤ j ∧ j < 2 ^ 62) (Classical.propDecidable _) (some (rngD i (j - i).toNat)) none
  | _ => none
def iRng (f : List D → Option (List D)) (m : M (List D)) : M (List D) := bnd m fun ds => ofO (f ds)
theorem pim_range1 {tg a : Expr} {m : M (List D)} {p pos : Pos} (hg : Gl X "range") (hm : X.mg "range" = none) (ha : PAM X W q [a] m) (hs : starEach [a] X.env = [(false, eval a X.env)] := by rfl) : PIM X W q tg (.Call (.Name "range" p) [a] [] pos) (iRng rng1 m) :=
  pi_imp (pi_range1 hg hm ha hs) fun σ H R h => can_I h fun a ds B H1 w e sh rl k => by
    unfold rng1 at e
    split at e
    · split at e
      · rename_i j hj
        cases e
        obtain ⟨v, xs, e1, r1, e2⟩ := rl
        subst e1
        rw [show xs = [] from e2, show v = V.int j from r1]
        exact ⟨j, rfl, hj.1, hj.2, k _ walks_r⟩
      · cases e
    · cases e
theorem pim_range2 {tg a b : Expr} {m : M (List D)} {p pos : Pos} (hg : Gl X "range") (hm : X.mg "range" = none) (ha : PAM X W q [a, b] m) (hs : starEach [a, b] X.env = [(false, eval a X.env), (false, eval b X.env)] := by rfl) (hs2 : starEach [b] X.env = [(false, eval b X.env)] := by rfl) :
    PIM X W q tg (.Call (.Name "range" p) [a, b] [] pos) (iRng rng2 m) :=
  pi_imp (pi_range2 hg hm ha hs hs2) fun σ H R h => can_I h fun a ds B H1 w e sh rl k => by
    unfold rng2 at e
    split at e
    · split at e
      · rename_i i j hj
        cases e
        obtain ⟨v, xs, e1, r1, v2, xs2, e2, r2, e3⟩ := rl
        subst e1 e2
        rw [show xs2 = [] from e3, show v = V.int i from r1, show v2 = V.int j from r2]
        exact ⟨i, j, rfl, hj, k _ walks_r⟩
      · cases e
    · cases e

def forM (tgt : D → M Fl) (b : M Fl) : List D → M Fl
  | [] => rt .nx
  | d :: ds => bnd (tgt d) fun _ => bnd b (loopF (forM tgt b ds))
def sFor (it : M (List D)) (tgt : D → M Fl) (b : M Fl) : M Fl := bnd it (forM tgt b)
theorem psm_for {tg iter : Expr} {body : List Stmt} {it : M (List D)} {tgt : D → M Fl} {b : M Fl} {pos : Pos} (hp : PassesOwn (model X.prog X.w) X.A X.env X.xe) (hc : X.calm = true) (hi : PIM X W q tg iter it) (hg : PTg X P tg tgt) (hb : PSsM X W P body b)
    (hok : ∀ d ρ r ρ', tgt d ρ = some (r, ρ') → r = .ok .nx) (hs : ∀ x, foldedSetIterable iter X.env x = pure x := by intro _; rfl) : PSM X W P (.For tg iter body [] pos) (sFor it tgt b) :=
  ps_imp (ps_for hp hc hi hg hb hs) fun D σ H h => by
    obtain ⟨B, F, ρ, fp, r, ρ', E, hm, post⟩ := h
    unfold sFor bnd at hm
    cases e1 : it ρ with
    | none => rw [e1] at hm; cases hm
    | some p =>
    obtain ⟨r1, ρ1⟩ := p
    rw [e1] at hm
    refine ⟨B, F, ρ, fp, r1, ρ1, E, e1, ?_⟩
    cases r1 with
    | error x => cases hm; exact post.err x rfl
    | ok ds =>
    intro B1 H1 fp1 J s1 E1 wk _
    refine ⟨fun i m σ' H' => m = ds.length - i ∧ i ≤ ds.length ∧ ∃ B2 ρ2 fp2, Same B1 B2 ∧ EnvOk X.K B2 F H' σ' ρ2 fp2 ∧ forM tgt b (ds.drop i) ρ2 = some (r, ρ') ∧ PostS X.K X.mg W P B2 F σ' D r ρ',
      ⟨ds.length, by simp, Nat.zero_le _, B1, ρ1, fp1, fun _ _ z => z, E1, hm, post.up s1 Pin.refl⟩, ?_⟩
    rintro i m σ2 H2 ⟨rfl, hi, B2, ρ2, fp2, s2, E2, hm2, post2⟩
    by_cases hlt : i < ds.length
    · have hd : ds[i]? = some ds[i] := List.getElem?_eq_getElem hlt
      obtain ⟨go, yld⟩ := (wk B2 H2 s2 E2.bh i).1 _ hd
      rw [List.drop_eq_getElem_cons hlt] at hm2
      have hm2 : bnd (tgt ds[i]) (fun _ => bnd b (loopF (forM tgt b (ds.drop (i + 1))))) ρ2 = some (r, ρ') := hm2
      unfold bnd at hm2
      refine .inr ⟨go, fun σ' H' => ∃ B3 ρ3 fp3, Same B1 B3 ∧ EnvOk X.K B3 F H' σ' ρ3 fp3 ∧ forM tgt b (ds.drop (i + 1)) ρ3 = some (r, ρ') ∧ PostS X.K X.mg W P B3 F σ' D r ρ', fun σ' H' hN => ⟨ds.length - (i + 1), by omega, rfl, hlt, hN⟩, fun x H' hy => ?_⟩
      obtain ⟨B3, ex, rx⟩ := yld x H' hy
      cases et : tgt ds[i] ρ2 with
      | none => rw [et] at hm2; cases hm2
      | some p =>
      obtain ⟨rt1, ρ3⟩ := p
      have := hok _ _ _ _ et
      subst this
      rw [et] at hm2
      refine ⟨B3, F, ρ2, fp2, ds[i], ρ3, E2.ext ex, rx, et, fun B4 H4 σ4 fp4 s4 E4 p4 _ _ => ?_⟩
      refine can_body E4 hm2 (post2.up (ex.bb.trans s4) p4) fun B5 H5 σ5 fp5 ρ5 s5 E5 h5 p5 => ⟨B5, ρ5, fp5, s2.trans (ex.bb.trans (s4.trans s5)), E5, h5, p5⟩
    · have e : i = ds.length := by omega
      subst e
      rw [List.drop_length] at hm2
      cases hm2
      exact .inl ⟨(wk B2 H2 s2 E2.bh ds.length).2 (Nat.le_refl _), post2 B2 H2 σ2 fp2 (fun _ _ z => z) E2 Pin.refl⟩
end
end G

namespace G
open PySem PySem.Spec PyProof.Rows L2
section
variable {X : Cx} {W : WX} {q q1 q2 : Bool} {P : Nat → Bool} {K : PySem.W.Frag} {mg : Str → Option Value}
/-- the block's own names forgotten ahead, brought back behind (if nothing owned is in them) -/
def wipeE (vs : List Nat) : Nat → En → En
  | _, [] => []
  | i, o :: ρ => (if i ∈ vs then none else o) :: wipeE vs (i + 1) ρ
def compL (vs : List Nat) (tgt : D → M Fl) (c : M Bool) (e : M D) : List D → En → Option (List D × En)
  | [], ρ => some ([], ρ)
  | d :: ds, ρ => match tgt d ρ with
    | some (.ok .nx, ρ1) => match c ρ1 with
      | some (.ok true, ρ2) => match e ρ2 with
        | some (.ok y, ρ3) => match compL vs tgt c e ds (wipeE vs 0 ρ3) with
          | some (ys, ρ4) => some (y :: ys, ρ4)
          | none => none
        | _ => none
      | some (.ok false, ρ2) => compL vs tgt c e ds (wipeE vs 0 ρ2)
      | _ => none
    | _ => none
def keepF : Option D → Option D
  | some d => if isF d = true then some d else none
  | none => none
def backE (vs : List Nat) : Nat → En → En → En
  | i, o :: ρ, o' :: ρ' => (if i ∈ vs then keepF o else o') :: backE vs (i + 1) ρ ρ'
  | _, _, _ => []
theorem wipeE_get (vs : List Nat) : ∀ (k : Nat) (ρ : En) (i : Nat), (wipeE vs k ρ)[i]? = (ρ[i]?).map fun o => if k + i ∈ vs then none else o
  | _, [], _ => by simp [wipeE]
  | k, o :: ρ, 0 => by simp [wipeE]
  | k, o :: ρ, i + 1 => by
    simp only [wipeE, List.getElem?_cons_succ]
    rw [wipeE_get vs (k + 1) ρ i, show k + 1 + i = k + (i + 1) by omega]
theorem backE_get (vs : List Nat) : ∀ (k : Nat) (ρ ρ' : En) (i : Nat) (d : D), (backE vs k ρ ρ')[i]? = some (some d) → (k + i ∈ vs ∧ isF d = true ∧ ρ[i]? = some (some d)) ∨ (k + i ∉ vs ∧ ρ'[i]? = some (some d))
  | _, [], _, _, _, h => by simp [backE] at h
  | _, _ :: _, [], _, _, h => by simp [backE] at h
  | k, o :: ρ, o' :: ρ', 0, d, h => by
    simp only [backE, List.getElem?_cons_zero] at h
    have h := Option.some.inj h
    by_cases hk : k ∈ vs
    · rw [if_pos hk] at h
      left
      cases o with
      | none => cases h
      | some d' =>
        simp only [keepF] at h
        split at h
        · rename_i hf; cases h; exact ⟨hk, hf, rfl⟩
        · cases h
    · rw [if_neg hk] at h
      subst h
      exact .inr ⟨hk, rfl⟩
  | k, o :: ρ, o' :: ρ', i + 1, d, h => by
    simp only [backE, List.getElem?_cons_succ] at h
    have := backE_get vs (k + 1) ρ ρ' i d h
    rw [show k + 1 + i = k + (i + 1) by omega] at this
    exact this
theorem backE_len (vs : List Nat) : ∀ (k : Nat) (ρ ρ' : En), (backE vs k ρ ρ').length ≤ ρ.length
  | _, [], _ => by simp [backE]
  | _, _ :: _, [] => by simp [backE]
  | k, o :: ρ, o' :: ρ' => by simp only [backE, List.length_cons]; have := backE_len vs (k + 1) ρ ρ'; omega
theorem wipe_get {σ : L2.St} : ∀ {vs : List Nat} {i : Nat}, i ∉ vs → (L2.wipe σ vs)[i]? = σ[i]?
  | [], _, _ => rfl
  | v :: vs, i, h => by
    unfold L2.wipe
    rw [List.getElem?_set_ne (fun e => h (by rw [e]; exact List.mem_cons_self))]
    exact wipe_get fun z => h (List.mem_cons_of_mem _ z)
theorem EnvOk.wipe {B F H : Hp} {σ : L2.St} {ρ : En} {fp : Nat → FS} (E : EnvOk K B F H σ ρ fp) (vs : List Nat) : EnvOk K B F H (L2.wipe σ vs) (wipeE vs 0 ρ) fp := by
  refine ⟨E.bh, E.fh, E.bf, fun i d e => ?_, E.apart, E.out, E.live, ?_⟩
  · rw [wipeE_get, Nat.zero_add] at e
    cases q : ρ[i]? with
    | none => rw [q] at e; cases e
    | some o =>
      rw [q, Option.map_some] at e
      have e := Option.some.inj e
      by_cases hv : i ∈ vs
      · rw [if_pos hv] at e; cases e
      · rw [if_neg hv] at e
        subst e
        rw [wipe_get hv]
        exact E.rep i d q
  · rw [wipe_length]
    have : ∀ (k : Nat) (ρ : En), (wipeE vs k ρ).length = ρ.length := by
      intro k ρ
      induction ρ generalizing k with
      | nil => rfl
      | cons o ρ ih => simp only [wipeE, List.length_cons]; rw [ih]
    rw [this]; exact E.len
theorem EnvOk.back {B B' F F' H H' : Hp} {σ : L2.St} {ρ ρ' : En} {fp fp' : Nat → FS} {vs : List Nat} (E : EnvOk K B F H σ ρ fp) (sb : Same B B') (E' : EnvOk K B' F' H' (L2.wipe σ vs) ρ' fp') (ff : Same F F') : EnvOk K B' F H' σ (backE vs 0 ρ ρ') fp' := by
  refine ⟨E'.bh, ff.trans E'.fh, fun a o e => E'.bf a o (ff a o e), fun i d e => ?_, E'.apart, fun i a z => ⟨(E'.out i a z).1, ff.free (E'.out i a z).2⟩, E'.live, Nat.le_trans (backE_len vs 0 ρ ρ') E.len⟩
  rcases backE_get vs 0 ρ ρ' i d e with ⟨_, hf, h⟩ | ⟨hv, h⟩
  · obtain ⟨v, h1, h2⟩ := E.rep i d h
    exact ⟨v, h1, RepF.to ((Rep.isF d hf h2).mono sb)⟩
  · obtain ⟨v, h1, h2⟩ := E'.rep i d h
    rw [Nat.zero_add] at hv
    rw [wipe_get hv] at h1
    exact ⟨v, h1, h2⟩
/-- a new list whose items are frozen, its receiver's own -/
def eCompR (o : Bool) (vs : List Nat) (it : M (List D)) (tgt : D → M Fl) (c : M Bool) (e : M D) : M D := bnd it fun ds ρ => if ds.length ≤ 1000000 then match compL vs tgt c e ds (wipeE vs 0 ρ) with
  | some (ys, ρ') => some (.ok (.lst o ys), backE vs 0 ρ ρ')
  | none => none
  else none
/-- an object that no one has but the frame's keeper is changed -/
theorem EnvOk.updF {B F H : Hp} {σ : L2.St} {ρ : En} {fp : Nat → FS} {p : Addr} {o o' : HO} (E : EnvOk K B (upd F p o) H σ ρ fp) : EnvOk K B (upd F p o') (upd H p o') σ ρ fp := by
  have hB : B p = none := E.bf p o upd_same
  have nfp : ∀ i, ¬ fp i p := fun i z => by
    have := (E.out i p z).2
    rw [upd_same] at this; cases this
  have hne : ∀ i a, fp i a → a ≠ p := fun i a z e => nfp i (e ▸ z)
  refine ⟨fun a u e => ?_, fun a u e => ?_, fun a u e => ?_, fun i d e => ?_, E.apart, fun i a z => ⟨(E.out i a z).1, ?_⟩, fun i a z => ?_, E.len⟩
  · have : a ≠ p := fun z => by rw [z, hB] at e; cases e
    rw [upd_ne this]; exact E.bh a u e
  · by_cases h : a = p
    · subst h; rw [upd_same] at e ⊢; exact e
    · rw [upd_ne h] at e ⊢
      exact E.fh a u (by rw [upd_ne h]; exact e)
  · by_cases h : a = p
    · subst h; exact hB
    · rw [upd_ne h] at e
      exact E.bf a u (by rw [upd_ne h]; exact e)
  · obtain ⟨v, h1, h2⟩ := E.rep i d e
    exact ⟨v, h1, Rep.mono (fun _ _ z => z) d (fun a z => upd_ne (hne i a z)) (fun _ z => z) h2⟩
  · rw [upd_ne (hne i a z)]
    have := (E.out i a z).2
    rw [upd_ne (hne i a z)] at this
    exact this
  · rw [upd_ne (hne i a z)]; exact E.live i a z
theorem EnvOk.newF {B F H : Hp} {σ : L2.St} {ρ : En} {fp : Nat → FS} {p : Addr} {o : HO} (E : EnvOk K B F H σ ρ fp) (hp : H p = none) : EnvOk K B (upd F p o) (upd H p o) σ ρ fp := by
  have hne : ∀ i a, fp i a → a ≠ p := fun i a z e => E.live i a z (e ▸ hp)
  have hB : B p = none := E.bh.free hp
  refine ⟨E.bh.trans (Same.new hp), fun a u e => ?_, fun a u e => ?_, fun i d e => ?_, E.apart, fun i a z => ⟨(E.out i a z).1, ?_⟩, fun i a z => ?_, E.len⟩
  · by_cases h : a = p
    · subst h; rw [upd_same] at e ⊢; exact e
    · rw [upd_ne h] at e ⊢; exact E.fh a u e
  · by_cases h : a = p
    · subst h; exact hB
    · rw [upd_ne h] at e; exact E.bf a u e
  · obtain ⟨v, h1, h2⟩ := E.rep i d e
    exact ⟨v, h1, Rep.mono (fun _ _ z => z) d (fun a z => upd_ne (hne i a z)) (fun _ z => z) h2⟩
  · rw [upd_ne (hne i a z)]; exact (E.out i a z).2
  · rw [upd_ne (hne i a z)]; exact E.live i a z
abbrev W0 : WX := fun _ _ _ _ => False
def pinC (vs : List Nat) : Nat → Bool := fun i => !vs.contains i
theorem wipe_eq {σ σ2 : L2.St} {vs : List Nat} (p : Pin (pinC vs) (L2.wipe σ vs) σ2) (hl : σ2.length = (L2.wipe σ vs).length) : L2.wipe σ2 vs = L2.wipe σ vs := by
  have aux : ∀ (σ : L2.St) (vs : List Nat) (i : Nat), i ∈ vs → (L2.wipe σ vs)[i]? = if i < σ.length then some none else none := by
    intro σ vs i h
    induction vs with
    | nil => cases h
    | cons v vs ih =>
      unfold L2.wipe
      by_cases e : v = i
      · subst e
        rw [List.getElem?_set]
        simp [wipe_length]
      · rw [List.getElem?_set_ne e]
        exact ih ((List.mem_cons.mp h).resolve_left fun z => e z.symm)
  apply List.ext_getElem?
  intro i
  by_cases hv : i ∈ vs
  · rw [aux _ _ _ hv, aux _ _ _ hv, hl, wipe_length]
  · rw [wipe_get hv]
    exact p i (by unfold pinC; simpa using hv)
/-- what is asked where the list p of the items ys is done -/
def CompP (K : PySem.W.Frag) (mg : Str → Option Value) (W : WX) (B F : Hp) (σ : L2.St) (Q : VK) (r : Except Xn D) (ρ' : En) (o : Bool) : Prop :=
  (∀ ys, r = .ok (.lst o ys) → ∀ p B2 H2 fp2 accV, Same B B2 → EnvOk K B2 F H2 σ ρ' fp2 → RepsF K B2 ys accV → H2 p = some (.lst accV) → F p = none → B2 p = none → (∀ i, ¬ fp2 i p) → Q (.ref p) H2) ∧ ∀ x, r = .error x → ErrP K mg W B F σ x ρ'
theorem can_comp0 {o : Bool} {it : M (List D)} {tgt : D → M Fl} {c : M Bool} {e : M D} {vs : List Nat} {σ : L2.St} {H : Hp} {Q : VK} {B F : Hp} {ρ ρ' : En} {fp : Nat → FS} {r : Except Xn D} (hok : ∀ d ρ r ρ', tgt d ρ = some (r, ρ') → r = .ok .nx)
    (E : EnvOk K B F H σ ρ fp) (hm : eCompR o vs it tgt c e ρ = some (r, ρ')) (post : CompP K mg W B F σ Q r ρ' o) : tLc (canI K mg W q it) (canG K (pinC vs) tgt) (can K mg W0 relT q1 c) (can K mg W0 (relE K) q2 e) vs σ H Q := by
  unfold eCompR bnd at hm
  cases e1 : it ρ with
  | none => rw [e1] at hm; cases hm
  | some p =>
  obtain ⟨r1, ρ1⟩ := p
  rw [e1] at hm
  refine ⟨B, F, ρ, fp, r1, ρ1, E, e1, ?_⟩
  cases r1 with
  | error x => cases hm; exact post.2 x rfl
  | ok ds =>
  simp only at hm
  split at hm
  case isFalse => cases hm
  case isTrue hsz =>
  cases ec : compL vs tgt c e ds (wipeE vs 0 ρ1) with
  | none => rw [ec] at hm; cases hm
  | some p =>
  obtain ⟨ys, ρe⟩ := p
  rw [ec] at hm
  cases hm
  intro B1 H1 fp1 J s1 E1 wk _ p hp
  have hFp : F p = none := E1.fh.free hp
  have ff : ∀ o, Same F (upd F p o) := fun o => Same.new hFp
  refine ⟨fun i m H => m = ds.length - i ∧ i ≤ ds.length ∧ ∃ B2 ρ2 fp2 acc accV ys', Same B1 B2 ∧ EnvOk K B2 (upd F p (.lst accV)) H (L2.wipe σ vs) ρ2 fp2 ∧ H p = some (.lst accV) ∧ RepsF K B2 acc accV ∧
    compL vs tgt c e (ds.drop i) ρ2 = some (ys', ρe) ∧ acc ++ ys' = ys ∧ acc.length ≤ i,
    ⟨ds.length, by simp, Nat.zero_le _, B1, _, fp1, [], [], ys, fun _ _ z => z, (E1.wipe vs).newF hp, upd_same, RepsF.nil, ec, rfl, Nat.le_refl _⟩, ?_⟩
  rintro i m H2 ⟨rfl, hi, B2, ρ2, fp2, acc, accV, ys', s2, E2, h2, ra, hc2, hys, hla⟩
  by_cases hlt : i < ds.length
  · right
    have hd : ds[i]? = some ds[i] := List.getElem?_eq_getElem hlt
    obtain ⟨go, yld⟩ := (wk B2 H2 s2 E2.bh i).1 _ hd
    rw [List.drop_eq_getElem_cons hlt] at hc2
    simp only [compL] at hc2
    refine ⟨go, fun H' => ∃ B3 ρ3 fp3 acc3 accV3 ys3, Same B1 B3 ∧ EnvOk K B3 (upd F p (.lst accV3)) H' (L2.wipe σ vs) ρ3 fp3 ∧ H' p = some (.lst accV3) ∧ RepsF K B3 acc3 accV3 ∧
      compL vs tgt c e (ds.drop (i + 1)) ρ3 = some (ys3, ρe) ∧ acc3 ++ ys3 = ys ∧ acc3.length ≤ i + 1, fun H' hN => ⟨ds.length - (i + 1), by omega, rfl, hlt, hN⟩, fun x H' hy => ?_⟩
    obtain ⟨B3, ex, rx⟩ := yld x H' hy
    cases et : tgt ds[i] ρ2 with
    | none => rw [et] at hc2; cases hc2
    | some p1 =>
    obtain ⟨rt1, ρ3⟩ := p1
    have := hok _ _ _ _ et
    subst this
    rw [et] at hc2
    simp only at hc2
    refine ⟨B3, upd F p (.lst accV), ρ2, fp2, ds[i], ρ3, E2.ext ex, rx, et, fun B4 H4 σ4 fp4 s4 E4 p4 hl4 eh => ⟨wipe_eq p4 hl4, ?_⟩⟩
    have wz : L2.wipe σ4 vs = L2.wipe σ vs := wipe_eq p4 hl4
    have hF4 : ∀ {B H σ ρ fp}, EnvOk K B (upd F p (.lst accV)) H σ ρ fp → H p = some (.lst accV) := fun E => E.fh _ _ upd_same
    cases ek : c ρ3 with
    | none => rw [ek] at hc2; cases hc2
    | some p5 =>
    obtain ⟨r5, ρ5⟩ := p5
    rw [ek] at hc2
    cases r5 with
    | error x => cases hc2
    | ok b =>
    refine ⟨B4, _, ρ3, fp4, .ok b, ρ5, E4, ek, fun B5 H5 fp5 w5 s5 E5 rl5 _ => ?_⟩
    have rl5 : b = w5 := rl5
    subst rl5
    cases b with
    | false =>
      refine iteF ?_
      simp only at hc2
      have E6 := E5.wipe vs
      rw [wz] at E6
      exact ⟨B5, _, fp5, acc, accV, ys', s2.trans (ex.bb.trans (s4.trans s5)), E6, hF4 E6, ra.mono (ex.bb.trans (s4.trans s5)), hc2, hys, by omega⟩
    | true =>
      refine iteT ?_
      simp only at hc2
      cases ey : e ρ5 with
      | none => rw [ey] at hc2; cases hc2
      | some p6 =>
      obtain ⟨r6, ρ6⟩ := p6
      rw [ey] at hc2
      cases r6 with
      | error x => cases hc2
      | ok y =>
      simp only at hc2
      cases er : compL vs tgt c e (ds.drop (i + 1)) (wipeE vs 0 ρ6) with
      | none => rw [er] at hc2; cases hc2
      | some p7 =>
      obtain ⟨ys7, ρ7⟩ := p7
      rw [er] at hc2
      cases hc2
      refine ⟨B5, _, ρ5, fp5, .ok y, ρ6, E5, ey, fun B6 H6 fp6 w6 s6 E6 rw6 _ => ?_⟩
      have E7 := E6.wipe vs
      rw [wz] at E7
      have sb := ex.bb.trans (s4.trans (s5.trans s6))
      have la := ra.length
      refine ⟨accV, hF4 E6, ?_, B6, _, fp6, acc ++ [y], accV ++ [w6], ys7, s2.trans sb, E7.updF, upd_same, RepsF.append (ra.mono sb) (RepsF.cons rw6 RepsF.nil), er, by simpa using hys, by simp; omega⟩
      exact Nat.lt_of_le_of_lt (show accV.length ≤ 1000000 by omega) (by rw [sizeLine_eq]; decide)
  · have e : i = ds.length := by omega
    subst e
    left
    rw [List.drop_length] at hc2
    simp only [compL] at hc2
    cases hc2
    rw [List.append_nil] at hys
    subst hys
    refine ⟨(wk B2 H2 s2 E2.bh ds.length).2 (Nat.le_refl _), ?_⟩
    have E3 := E1.back s2 E2 (ff _)
    refine post.1 _ rfl p B2 H2 fp2 accV (s1.trans s2) E3 ra h2 hFp (E2.bf p _ upd_same) fun i z => ?_
    have := (E2.out i p z).2
    rw [upd_same] at this; cases this
theorem can_compO {it : M (List D)} {tgt : D → M Fl} {c : M Bool} {e : M D} {vs : List Nat} {σ : L2.St} {H : Hp} {Q : VK} (hok : ∀ d ρ r ρ', tgt d ρ = some (r, ρ') → r = .ok .nx)
    (h : canO K mg W (eCompR true vs it tgt c e) σ H Q) : tLc (canI K mg W q it) (canG K (pinC vs) tgt) (can K mg W0 relT q1 c) (can K mg W0 (relE K) q2 e) vs σ H Q := by
  obtain ⟨B, F, ρ, fp, r, ρ', E, hm, post⟩ := h
  refine can_comp0 hok E hm ⟨fun ys e1 p B2 H2 fp2 accV s2 E2 ra h2 hF hB hn => ?_, fun x e1 => by subst e1; exact post⟩
  subst e1
  refine post B2 H2 fp2 (.ref p) (fun a => a = p) s2 E2 ⟨⟨p, accV, noT, rfl, rfl, h2, ⟨fun _ _ z => z.elim, fun _ _ _ z => z.elim⟩, RepsF.to ra⟩, fun a z => ?_⟩
  subst z
  exact ⟨hB, hF, by rw [h2]; simp, hn⟩
theorem can_comp {it : M (List D)} {tgt : D → M Fl} {c : M Bool} {e : M D} {vs : List Nat} {σ : L2.St} {H : Hp} {Q : VK} (hok : ∀ d ρ r ρ', tgt d ρ = some (r, ρ') → r = .ok .nx)
    (h : can K mg W (relE K) false (eCompR false vs it tgt c e) σ H Q) : tLc (canI K mg W q it) (canG K (pinC vs) tgt) (can K mg W0 relT q1 c) (can K mg W0 (relE K) q2 e) vs σ H Q := by
  obtain ⟨B, F, ρ, fp, r, ρ', E, hm, post⟩ := h
  refine can_comp0 hok E hm ⟨fun ys e1 p B2 H2 fp2 accV s2 E2 ra h2 hF hB hn => ?_, fun x e1 => by subst e1; exact post⟩
  subst e1
  have out : ∀ a, (fun a => a = p) a → B2 a = none ∧ F a = none ∧ H2 a ≠ none ∧ ∀ i, ¬ fp2 i a := fun a z => by
    have z : a = p := z
    subst z
    exact ⟨hB, hF, by rw [h2]; simp, hn⟩
  have sg : Same B2 (grow B2 H2 fun a => a = p) := same_grow fun a z => (out a z).1
  exact post _ H2 fp2 (.ref p) (s2.trans sg) (E2.grown out) ⟨p, accV, rfl, (grow_in rfl).trans h2, ra.mono sg⟩ fun z => nomatch z
def PTsM (X : Cx) (W : WX) (q : Bool) (ifs : List Expr) (c : M Bool) : Prop := PTs X ifs (can X.K X.mg W relT q c)
theorem ptsm_nil : PTsM X W true [] (rt true) := ⟨fun pins s σ H Q I h => by
  obtain ⟨B, F, ρ, fp, r, ρ', E, hm, post⟩ := h
  obtain ⟨e1, e2⟩ := rt_some hm
  subst e1 e2
  exact pts_nil.run pins s σ H Q I (post B H fp true (fun _ _ z => z) E rfl fun _ => ⟨rfl, rfl, Ext.refl E.bh⟩)⟩
theorem ptsm_one {c : Expr} {t : M Bool} (h : PTM X W q c t) : PTsM X W q [c] t := pts_one h
abbrev ownIx (own : List (Str × Nat)) : List Nat := own.map fun p => p.2
/-- what a comprehension's parts are to be -/
structure CompOk (X : Cx) (W : WX) (elt tg iter : Expr) (ifs : List Expr) (scope : Scope) (own : List (Str × Nat)) (it : M (List D)) (tgt : D → M Fl) (c : M Bool) (e : M D) : Prop where
  calm : X.calm = true
  nd : X.N.Nodup
  it : ∃ q, PIM X W q tg iter it
  blk : BlkOk X.N X.env.scope scope own
  tg : ∀ (s : Shared) (H : Hp) (C : Addr) (cl : List (Str × Addr)) (fp : List Addr), PTg (X.blk s H scope (compEnvC scope cl C X.env) fp) (pinC (ownIx own)) tg tgt
  ifs : ∃ q, ∀ (s : Shared) (H : Hp) (C : Addr) (cl : List (Str × Addr)) (fp : List Addr), PTsM (X.blk s H scope (compEnvC scope cl C X.env) fp) W0 q ifs c
  elt : ∃ q, ∀ (s : Shared) (H : Hp) (C : Addr) (cl : List (Str × Addr)) (fp : List Addr), PEM (X.blk s H scope (compEnvC scope cl C X.env) fp) W0 q elt e
  ok : ∀ d ρ r ρ', tgt d ρ = some (r, ρ') → r = .ok .nx
variable {elt tg iter : Expr} {ifs : List Expr} {scope : Scope} {own : List (Str × Nat)} {it : M (List D)} {tgt : D → M Fl} {c : M Bool} {e : M D} {pos spos : Pos}
theorem peo_comp (h : CompOk X W elt tg iter ifs scope own it tgt c e) (hs : ∀ x, foldedSetIterable iter X.env x = pure x := by intro _; rfl) : PEO X W (.ListComp elt [⟨tg, iter, ifs, 0⟩] scope pos) (eCompR true (ownIx own) it tgt c e) := by
  obtain ⟨q0, hi⟩ := h.it
  obtain ⟨q1, h1⟩ := h.ifs
  obtain ⟨q2, h2⟩ := h.elt
  exact pe_imp (pe_lc (g := canG X.K (pinC (ownIx own)) tgt) (tt := can X.K X.mg W0 relT q1 c) (te := can X.K X.mg W0 (relE X.K) q2 e) h.calm h.nd hi h.blk h.tg h1 h2 hs) fun σ H Q hq => can_compO h.ok hq
theorem pem_comp (h : CompOk X W elt tg iter ifs scope own it tgt c e) (hs : ∀ x, foldedSetIterable iter X.env x = pure x := by intro _; rfl) : PEM X W false (.ListComp elt [⟨tg, iter, ifs, 0⟩] scope pos) (eCompR false (ownIx own) it tgt c e) := by
  obtain ⟨q0, hi⟩ := h.it
  obtain ⟨q1, h1⟩ := h.ifs
  obtain ⟨q2, h2⟩ := h.elt
  exact pe_imp (pe_lc (g := canG X.K (pinC (ownIx own)) tgt) (tt := can X.K X.mg W0 relT q1 c) (te := can X.K X.mg W0 (relE X.K) q2 e) h.calm h.nd hi h.blk h.tg h1 h2 hs) fun σ H Q hq => can_comp h.ok hq
/-- y = [..] -/
theorem psm_setComp {i : Nat} {y : Str} {py : Pos} (o : Bool) (h : CompOk X W elt tg iter ifs scope own it tgt c e) (hy : X.N[i]? = some y) (hyl : X.env.scope.names.lookup y = some .local)
    (hsw : swapsWith (.ListComp elt [⟨tg, iter, ifs, 0⟩] scope pos) (some (.Name y py)) spos.line X.env = pure true) (hp : P i = false := by rfl) (hs : ∀ x, foldedSetIterable iter X.env x = pure x := by intro _; rfl) :
    PSM X W P (.Assign [.Name y py] (.ListComp elt [⟨tg, iter, ifs, 0⟩] scope pos) spos) (bnd (eCompR o (ownIx own) it tgt c e) (put i)) := by
  obtain ⟨q0, hi⟩ := h.it
  obtain ⟨q1, h1⟩ := h.ifs
  obtain ⟨q2, h2⟩ := h.elt
  refine ps_imp (ps_setLc (i := i) (g := canG X.K (pinC (ownIx own)) tgt) (tt := can X.K X.mg W0 relT q1 c) (te := can X.K X.mg W0 (relE X.K) q2 e) h.calm h.nd hy hyl hsw hi h.blk h.tg h1 h2 hs) fun D σ H hq => ?_
  cases o with
  | false => exact can_comp (Q := fun x H1 => D.nx (σ.set i (some x)) H1) h.ok (canE_S hq fun d B ρ1 F H1 fp1 v r ρ' hm E rv post => by
      obtain ⟨hl, e1, e2⟩ := put_some hm
      subst e1 e2
      exact post B H1 _ _ (fun _ _ z => z) (E.set hl (ValOk.of rv)) (Pin.set hp))
  | true => exact can_compO (Q := fun x H1 => D.nx (σ.set i (some x)) H1) h.ok (canO_S hq fun d B ρ1 F H1 fp1 v S r ρ' hm E vo post => by
      obtain ⟨hl, e1, e2⟩ := put_some hm
      subst e1 e2
      exact post B H1 _ _ (fun _ _ z => z) (E.set hl vo) (Pin.set hp))

theorem peo_lst {es : List Expr} {m : M (List D)} {pos : Pos} (h : PAM X W q es m) : PEO X W (.List es pos) (bnd m fun ds => ofO (if ds.length ≤ 1000 then some (.lst true ds) else none)) :=
  pe_imp (pe_lst h) fun σ H Q hq => by
    obtain ⟨B, F, ρ, fp, r, ρ', E, hm, post⟩ := hq
    refine can_bnd E hm (fun x e => by subst e; exact post) fun ds ρ1 B1 H1 fp1 xs hm1 s1 E1 rxs _ => ?_
    obtain ⟨z, e1, e2, e3⟩ := ofO_some hm1
    subst e2 e3
    split at e1
    · rename_i hl
      cases e1
      refine ⟨by rw [rxs.length]; exact sz1000 hl, fun p hp => ?_⟩
      have hFp : F p = none := E1.fh.free hp
      refine post B1 (upd H1 p (.lst xs)) fp1 (.ref p) (fun a => a = p) s1 (E1.ext (Ext.obj0 E1.bh hp _)) ⟨⟨p, xs, noT, rfl, rfl, upd_same, ⟨fun _ _ z => z.elim, fun _ _ _ z => z.elim⟩, RepsF.to rxs⟩, fun a z => ?_⟩
      have z : a = p := z
      subst z
      exact ⟨E1.bh.free hp, hFp, by rw [upd_same]; simp, fun i z => E1.live i a z hp⟩
    · cases e1
/-- x.append(e), x a slot's own list of frozen items -/
def appD (i : Nat) (d : D) : M Fl := fun ρ => match ρ[i]? with
  | some (some (.lst true ds)) => if isFs ds = true ∧ ds.length ≤ 1000000 then some (.ok .nx, ρ.set i (some (.lst true (ds ++ [d])))) else none
  | _ => none
mutual
theorem Reps.isFs' : ∀ (ds : List D) {xs : List V} {T : Nat → FS} {B H : Hp}, isFs ds = true → Reps K B H ds xs T → RepsF K B ds xs
  | [], _, _, _, _, _, h => h
  | d :: ds, _, _, _, _, f, ⟨x, xs', e, r, rs⟩ => by
    unfold isFs at f
    obtain ⟨f1, f2⟩ := and_t f
    exact ⟨x, xs', e, Rep.isF d f1 r, Reps.isFs' ds f2 rs⟩
end
theorem psm_append {i : Nat} {x : Str} {xp ap cp sp : Pos} {a : Expr} {m : M D} (ha : PEM X W q a m) (hN : X.N[i]? = some x) (hv : Vis X.env.scope x := by first | exact Or.inl rfl | exact Or.inr (Or.inl rfl) | exact Or.inr (Or.inr rfl))
    (hd : (x == ("__debug__" : Str)) = false := by decide) (hcd : (x == ("__classdict__" : Str)) = false := by decide)
    (hbase : attributeBase (.Name x xp) "append" X.env (eval (.Name x xp) X.env) = eval (.Name x xp) X.env := by rfl)
    (hfew : ((backTo cp (starEach (a :: []) X.env)).all (fun x => !x.1) && (backToKw cp (keywordEach [] X.env)).all (fun x => x.1.isSome) && decide ((a :: []).length + ([] : List Keyword).length + (if ([] : List Keyword).isEmpty then 0 else 1) < 30)) = true := by rfl)
    (hline : (ap.endLine == cp.line) = true := by rfl) (hs : starEach (a :: []) X.env = (false, eval a X.env) :: starEach [] X.env := by rfl) (hplain : (backTo cp (starEach [] X.env)).any (·.1) = false := by rfl)
    (hsw : swapsWith (.Call (.Attribute (.Name x xp) "append" ap) [a] [] cp) none sp.line X.env = pure false := by rfl) :
    PSM X W P (.Expr (.Call (.Attribute (.Name x xp) "append" ap) [a] [] cp) sp) (fun ρ => match ρ[i]? with | some (some (.lst true _)) => bnd m (appD i) ρ | _ => none) := by
  have hpa : PA X [a] (can X.K X.mg W (relA X.K) q (aCons m aNil)) := by
    have := pam_cons (W := W) ha pam_nil hs
    rw [Bool.and_true] at this
    exact this
  refine ps_imp (ps_expr (pe_bm PySem.F.plainAttrs_list PySem.F.slot_list_append PySem.F.type_list_append mt_append (pe_var (i := i) hN hv hd hcd) hpa hbase hfew hline hs hplain) hsw) fun D σ H h => ?_
  obtain ⟨B, F, ρ, fp, r, ρ', E, hm, post⟩ := h
  simp only at hm
  split at hm
  case h_2 => cases hm
  case h_1 ds0 e0 =>
  obtain ⟨v, h1, a0, xs0, T0, e1, S0, hx0, p0, r0⟩ := E.rep i _ e0
  subst e1
  refine ⟨.ref a0, h1, .inl ⟨rfl, _, SqL.of hx0⟩, ?_⟩
  have hm' : bnd (aCons m aNil) (fun ds => match ds with | [d] => appD i d | _ => fun _ => none) ρ = some (r, ρ') := by
    rw [← hm]
    unfold aCons aNil bnd rt
    cases m ρ with
    | none => rfl
    | some p => obtain ⟨r1, ρ1⟩ := p; cases r1 <;> rfl
  refine can_bnd E hm' post.err fun ds ρ1 B1 H1 fp1 vs hm1 s1 E1 rg _ => ?_
  match ds, rg, hm1 with
  | [d], rg, hm1 =>
    obtain ⟨y, ys, ey, ry, e2⟩ := rg
    rw [show ys = [] from e2] at ey
    subst ey
    have hm1 : appD i d ρ1 = some (r, ρ') := hm1
    unfold appD at hm1
    split at hm1
    case h_2 => cases hm1
    case h_1 ds1 e3 =>
    split at hm1
    case isFalse => cases hm1
    case isTrue hf =>
    cases hm1
    obtain ⟨v1, h3, a1, xs1, T1, e4, S1, hx1, p1, r1⟩ := E1.rep i _ e3
    rw [h1] at h3
    cases h3
    cases e4
    have rf : RepsF X.K B1 ds1 xs1 := Reps.isFs' ds1 hf.1 r1
    have hl := rf.length
    refine ⟨a0, xs1, y, rfl, rfl, hx1, Nat.lt_of_le_of_lt (show xs1.length ≤ 1000000 by omega) (by rw [sizeLine_eq]; decide), ?_⟩
    have hB : B1 a0 = none := (E1.out i a0 S1).1
    have hF : F a0 = none := (E1.out i a0 S1).2
    have hi : i < ρ1.length := by
      rcases Nat.lt_or_ge i ρ1.length with z | z
      · exact z
      · rw [List.getElem?_eq_none z] at e3; cases e3
    refine post B1 (upd H1 a0 (.lst (xs1 ++ [y]))) σ fp1 s1 ⟨fun b o e => ?_, fun b o e => ?_, E1.bf, fun j d' e => ?_, E1.apart, E1.out, fun j b z => ?_, by rw [List.length_set]; exact E1.len⟩ Pin.refl
    · have : b ≠ a0 := fun z => by rw [z, hB] at e; cases e
      rw [upd_ne this]; exact E1.bh b o e
    · have : b ≠ a0 := fun z => by rw [z, hF] at e; cases e
      rw [upd_ne this]; exact E1.fh b o e
    · by_cases hj : i = j
      · subst hj
        rw [List.getElem?_set_self hi] at e
        cases e
        exact ⟨.ref a0, h1, a0, xs1 ++ [y], noT, rfl, S1, upd_same, ⟨fun _ _ z => z.elim, fun _ _ _ z => z.elim⟩, RepsF.to (RepsF.append rf (RepsF.cons ry RepsF.nil))⟩
      · rw [List.getElem?_set_ne hj] at e
        obtain ⟨w, h5, h6⟩ := E1.rep j d' e
        refine ⟨w, h5, Rep.mono (fun _ _ z => z) d' (fun b z => upd_ne fun eb => ?_) (fun _ z => z) h6⟩
        rw [eb] at z
        exact hj (E1.apart i j a0 S1 z)
    · by_cases eb : b = a0
      · rw [eb, upd_same]; simp
      · rw [upd_ne eb]; exact E1.live j b z
  | [], rg, hm1 => cases hm1
  | _ :: _ :: _, rg, hm1 => cases hm1
end
end G

namespace G
open PySem PySem.Spec PyProof.Rows L2
def digLim : Nat := 10 ^ 4300
mutual
def okB : PyData → Bool
  | .none | .bool _ | .str _ => true
  | .int i => decide (i.natAbs < digLim)
  | .list xs | .tuple xs => okBs xs
  | .dict _ => false
def okBs : List PyData → Bool
  | [] => true
  | x :: xs => okB x && okBs xs
end
section
variable {prog : Program} {w : World} {h₀ : Heap}
theorem call_int_big {A : Around} {E : Value → Shared → Prop} {s : Shared} {i : Int} {t : Tok} {Q : Value → Shared → Prop} (hn : s.heap.NoDigits) (hi : i.natAbs < digLim) (h : Q (.str (toString i) s.toks) { s with toks := s.toks + 1 }) :
    wpAny (model prog w) A (call (.builtin "int.__repr__") [.int i t]) Q E s := by
  apply wpAny_call_entry F.slot_int_repr (typeIs_int s i t) F.entry_int_repr _ (F.args_int_repr_1 _)
  unfold Builtin.«int.__repr__»
  show wpAny _ _ (Builtin.overDigitLimit? i >>= fun r => _) _ _ s
  apply wpAny_bind
  apply overDigitLimit_any hn
  · intro hlt
    exact wpAny_bind (wpAny_mkStr (wpAny_pure ⟨_, rfl, h⟩) (int_text_fits10 hlt))
  · intro hge
    exact absurd hi (Nat.not_lt.mpr hge)
theorem reprK_big (hn : h₀.NoDigits) {i : Int} {t : Tok} (hi : i.natAbs < digLim) : ReprK prog w [] h₀ 0 (.int i t) (toString i) := by
  intro base hb A g E s Q hg hcl hu hk hQ
  rw [pyReprUnder_leaf (v := .int i t) (by omega) (fun _ e => nomatch e)]
  unfold pyRepr
  apply wpAny_bind
  apply wpAny_pyReprObj_slot (by omega) (typeIs_int s i t) F.slot_int_repr.toG
  exact call_int_big (hn.keeps hk) hi ⟨_, _, rfl, wpAny_pure (hQ s.heap _ fun _ _ e => e)⟩
mutual
theorem reprK_of (hn : h₀.NoDigits) : ∀ (d : PyData) {v : Value} {as : List Addr}, Reads h₀ v d as → okB d = true → d.shown.length ≤ sizeLine → ∃ bs, ReadAtMost h₀ d.depth bs ∧ ReprK prog w bs h₀ d.depth v d.shown
  | .none, _, _, .none, _, _ => ⟨[], (fun _ h => nomatch h), by simp only [PyData.shown]; exact ReprK.of_is ReprIs.none _ _ _⟩
  | .bool b, _, _, .bool _, _, _ => ⟨[], (fun _ h => nomatch h), by simp only [PyData.shown]; exact ReprK.of_is (ReprIs.bool b) _ _ _⟩
  | .int i, _, _, .int _ t, ho, _ => ⟨[], (fun _ h => nomatch h), by
      simp only [PyData.shown]
      exact (reprK_big hn (by simpa [okB] using ho)).level_le (Nat.zero_le _)⟩
  | .str x, _, _, .str _ t, _, hz => ⟨[], (fun _ h => nomatch h), by
      simp only [PyData.shown] at hz ⊢
      exact ReprK.of_is (ReprIs.str x t hz) _ _ _⟩
  | .list xs, _, _, .list (a := a) (vs := vs) h1 h2 h3 h4, ho, hz => by
    simp only [PyData.shown] at hz
    obtain ⟨bs, hb, hk⟩ := reprAllK_of hn xs h4 (by simpa [okB] using ho) fun t ht => Nat.le_trans (listText_mem_le ht) hz
    have r : Reads h₀ (.ref a) (.list xs) _ := Reads.list h1 h2 h3 h4
    have na : a ∉ bs := not_mem_of_deeper r (by simp only [PyData.depth]; omega) hb
    refine ⟨a :: bs, ReadAtMost.cons r (by simp only [PyData.depth]; omega) hb, ?_⟩
    simp only [PyData.depth, PyData.shown]
    obtain ⟨l⟩ := vs
    match l, h3, h4, hk with
    | [], h3, h4, hk =>
      have h4' : ReadsAll h₀ [] xs _ := h4
      cases h4'
      simp only [PyData.shownAll, listText_nil]
      exact ReprK.listEmpty h1 h2 h3
    | x :: l, h3, h4, hk => exact ReprK.list h1 h2 h3 na (by simpa using hk.length_eq) fun i y e => hk.item i y (by simpa using e)
  | .tuple xs, _, _, .tuple (a := a) h1 h2 h3 h4, ho, hz => by
    simp only [PyData.shown] at hz
    obtain ⟨bs, hb, hk⟩ := reprAllK_of hn xs h4 (by simpa [okB] using ho) fun t ht => Nat.le_trans (tupleText_mem_le ht) hz
    have r : Reads h₀ (.ref a) (.tuple xs) _ := Reads.tuple h1 h2 h3 h4
    have na : a ∉ bs := not_mem_of_deeper r (by simp only [PyData.depth]; omega) hb
    refine ⟨a :: bs, ReadAtMost.cons r (by simp only [PyData.depth]; omega) hb, ?_⟩
    simp only [PyData.depth, PyData.shown]
    exact ReprK.tuple h1 h2 h3 na hk
  | .dict kvs, _, _, _, ho, _ => by simp [okB] at ho
theorem reprAllK_of (hn : h₀.NoDigits) : ∀ (ds : List PyData) {vs : List Value} {as : List Addr}, ReadsAll h₀ vs ds as → okBs ds = true → (∀ t ∈ PyData.shownAll ds, t.length ≤ sizeLine) →
    ∃ bs, ReadAtMost h₀ (PyData.depthAll ds) bs ∧ ReprAllK prog w bs h₀ (PyData.depthAll ds) vs (PyData.shownAll ds)
  | [], _, _, .nil, _, _ => ⟨[], (fun _ h => nomatch h), by simp only [PyData.shownAll]; exact ReprAllK.nil⟩
  | d :: ds, _, _, .cons r rs, ho, hz => by
    simp only [okBs] at ho
    obtain ⟨o1, o2⟩ := and_t ho
    simp only [PyData.shownAll, List.mem_cons, forall_eq_or_imp] at hz
    obtain ⟨b1, m1, k1⟩ := reprK_of hn d r o1 hz.1
    obtain ⟨b2, m2, k2⟩ := reprAllK_of hn ds rs o2 hz.2
    refine ⟨b1 ++ b2, ?_, ?_⟩
    · simp only [PyData.depthAll]
      exact (m1.mono (Nat.le_max_left _ _)).append (m2.mono (Nat.le_max_right _ _))
    · simp only [PyData.depthAll, PyData.shownAll]
      exact ReprAllK.cons ((k1.more fun b hb => List.mem_append_left _ hb).level_le (Nat.le_max_left _ _)) (k2.more_le (fun b hb => List.mem_append_right _ hb) (Nat.le_max_right _ _))
end
end
def reprD : List D → Option D
  | [d] => match py d with
    | some p => if okB p = true ∧ (PyData.shown p).length ≤ 1000000 ∧ PyData.depth p ≤ 64 then some (.str (PyData.shown p)) else none
    | none => none
  | _ => none
theorem cd_repr {X : Cx} (nd : X.base.NoDigits) (hg : X.A.guards = some []) (hu : X.A.units + 80 < cLine) : CallS X (.builtin "repr") reprD := by
  refine ⟨fun xs H Q => ∃ v p, xs = [v] ∧ Dp X.K H v p ∧ okB p = true ∧ (PyData.shown p).length ≤ sizeLine ∧ PyData.depth p ≤ 64 ∧ Q (.str (PyData.shown p)) H, ?_, ?_⟩
  · intro pins s σ H xs us Q I r h
    obtain ⟨v, p, rfl, dp, ok, hz, hd, q⟩ := h
    obtain ⟨u, rfl, ru⟩ := vals1 r
    have hn : s.heap.NoDigits := nd.keeps I.bk
    obtain ⟨as, rd⟩ := Dp.reads I p v u dp ru
    have fin : ∀ h' (t : Tok) tk, (∀ b o, s.heap.get? b = some o → h'.get? b = some o) → EP X pins σ Q (.str (PyData.shown p) t) { s with heap := h', toks := tk } := fun h' t tk hk => ⟨.str _, H, I.kept hk, ⟨_, rfl⟩, q⟩
    cases rd with
    | none =>
      refine PySem.P.repr_of_none ?_
      have := fin s.heap s.toks (s.toks + 1) fun _ _ e => e
      simp only [PyData.shown] at this
      exact this
    | bool b =>
      refine PySem.P.repr_of_bool ?_
      have := fin s.heap s.toks (s.toks + 1) fun _ _ e => e
      simp only [PyData.shown] at this
      exact this
    | int i t =>
      apply call_repr_slot (by omega) (typeIs_int s i t) F.slot_int_repr.toG
      refine call_int_big hn (by simpa [okB] using ok) ⟨_, _, rfl, ?_⟩
      have := fin s.heap s.toks (s.toks + 1) fun _ _ e => e
      simp only [PyData.shown] at this
      exact this
    | str x t =>
      simp only [PyData.shown] at hz
      refine PySem.P.repr_of_str ?_ hz
      have := fin s.heap s.toks (s.toks + 1) fun _ _ e => e
      simp only [PyData.shown] at this
      exact this
    | list h1 h2 h3 h4 =>
      rename_i a o vs n xs bs₀
      simp only [PyData.shown] at hz fin
      simp only [PyData.depth] at hd
      obtain ⟨bs, hb, hk⟩ := reprAllK_of (prog := X.prog) (w := X.w) hn xs h4 (by simpa [okB] using ok) fun t ht => Nat.le_trans (listText_mem_le ht) hz
      have na : a ∉ bs := not_mem_of_deeper (Reads.list h1 h2 h3 h4) (by simp only [PyData.depth]; omega) hb
      apply call_repr_slot (by omega) (show s.TypeIs (.ref a) "list" from ⟨o, h1, h2⟩) F.slot_list_repr.toG
      obtain ⟨l⟩ := vs
      match l, h3, h4, hk with
      | [], h3, h4, hk =>
        have h4' : ReadsAll s.heap [] xs _ := h4
        cases h4'
        simp only [PyData.shownAll, listText_nil] at fin
        exact call_list_repr_empty ⟨o, h1, h2⟩ h1 h3 ⟨_, _, rfl, fin s.heap _ _ fun _ _ e => e⟩
      | x :: l, h3, h4, hk =>
        exact call_list_reprK h1 h2 h3 na (by simpa using hk.length_eq) (fun i y e => hk.item i y (by simpa using e)) hg (fun b _ => Clear.nil b) (by show X.A.units + 1 + _ < cLine; omega) (fun _ _ e => e) (fun h' u tk hk' => ⟨_, _, rfl, fin h' u tk hk'⟩) hz
    | tuple h1 h2 h3 h4 =>
      rename_i a o vs n xs
      simp only [PyData.shown] at hz fin
      simp only [PyData.depth] at hd
      obtain ⟨bs, hb, hk⟩ := reprAllK_of (prog := X.prog) (w := X.w) hn xs h4 (by simpa [okB] using ok) fun t ht => Nat.le_trans (tupleText_mem_le ht) hz
      have na : a ∉ bs := not_mem_of_deeper (Reads.tuple h1 h2 h3 h4) (by simp only [PyData.depth]; omega) hb
      apply call_repr_slot (by omega) (show s.TypeIs (.ref a) "tuple" from ⟨o, h1, h2⟩) F.slot_tuple_repr
      exact call_tuple_reprK h1 h2 h3 na hk hg (fun b _ => Clear.nil b) (by show X.A.units + 1 + _ < cLine; omega) (fun _ _ e => e) (fun h' u tk hk' => ⟨_, _, rfl, fin h' u tk hk'⟩) hz
    | dict h1 h2 h3 h4 h5 => simp [okB] at ok
  · intro B H xs z us s rs e Q k
    match xs, rs, e with
    | [d], rs, e =>
      obtain ⟨v, vs, e1, rv, e2⟩ := rs
      subst e1
      rw [show vs = [] from e2]
      simp only [reprD] at e
      split at e
      · rename_i p hp
        split at e
        · rename_i c
          cases e
          exact ⟨v, p, rfl, Rep.dp s d rv hp, c.1, mil c.2.1, c.2.2, k B H _ (Ext.refl s) rfl⟩
        · cases e
      · cases e
    | [], _, e => cases e
    | _ :: _ :: _, _, e => cases e
end G

namespace G
open PySem PySem.Spec PyProof.Rows L2
section
variable {X : Cx} {W : WX} {q q1 q2 : Bool} {P : Nat → Bool}
def f1 (g : D → Option D) : List D → Option D
  | [d] => g d
  | _ => none
def f2 (g : D → D → Option D) : List D → Option D
  | [d, e] => g d e
  | _ => none
theorem f1_sem {K : PySem.W.Frag} {r : List V → Hp → VK → Prop} {g : D → Option D} (h : ∀ (B H : Hp) (x z : D) (u : V), Same B H → RepF K B x u → g x = some z → ∀ Q : VK, (∀ B' H' w, Ext B H B' H' → RepF K B' z w → Q w H') → r [u] H Q) : CallSem K r (f1 g) := by
  intro B H xs z us s rs e Q k
  match xs, rs, e with
  | [d], ⟨v, vs, e1, rv, e2⟩, e =>
    subst e1
    rw [show vs = [] from e2]
    exact h B H d z v s rv e Q k
  | [], _, e => cases e
  | _ :: _ :: _, _, e => cases e
theorem f2_sem {K : PySem.W.Frag} {r : List V → Hp → VK → Prop} {g : D → D → Option D} (h : ∀ (B H : Hp) (x y z : D) (u v : V), Same B H → RepF K B x u → RepF K B y v → g x y = some z → ∀ Q : VK, (∀ B' H' w, Ext B H B' H' → RepF K B' z w → Q w H') → r [u, v] H Q) : CallSem K r (f2 g) := by
  intro B H xs z us s rs e Q k
  match xs, rs, e with
  | [d, d2], ⟨v, vs, e1, rv, v2, vs2, e2, rv2, e3⟩, e =>
    subst e1 e2
    rw [show vs2 = [] from e3]
    exact h B H d d2 z v v2 s rv rv2 e Q k
  | [], _, e => cases e
  | [_], _, e => cases e
  | _ :: _ :: _ :: _, _, e => cases e
def absD : D → Option D
  | .int i => some (.int (if i < 0 then -i else i))
  | _ => none
theorem cd_abs : CallS X (.builtin "abs") (f1 absD) := ⟨_, call_abs, f1_sem fun B H x z u s rx e Q k => by
  cases x <;> simp [absD] at e
  subst e
  cases (show u = V.int _ from rx)
  exact ⟨_, rfl, k B H _ (Ext.refl s) rfl⟩⟩
def intD : D → Option D
  | .int i => some (.int i)
  | .bl b => some (.int (if b then 1 else 0))
  | _ => none
theorem cd_int : CallS X (.type "int") (f1 intD) := ⟨_, call_int1, f1_sem fun B H x z u s rx e Q k => by
  cases x <;> simp [intD] at e
  · subst e
    cases (show u = V.bl _ from rx)
    exact .inr ⟨_, rfl, k B H _ (Ext.refl s) rfl⟩
  · subst e
    cases (show u = V.int _ from rx)
    exact .inl ⟨_, rfl, k B H _ (Ext.refl s) rfl⟩⟩
def minD : D → D → Option D
  | .int i, .int j => some (.int (if j < i then j else i))
  | _, _ => none
theorem cd_min (hc : X.calm = true) : CallS X (.builtin "min") (f2 minD) := ⟨_, call_min2 hc, f2_sem fun B H x y z u v s rx ry e Q k => by
  cases x <;> cases y <;> simp [minD] at e
  subst e
  cases (show u = V.int _ from rx)
  cases (show v = V.int _ from ry)
  exact ⟨_, _, rfl, k B H _ (Ext.refl s) rfl⟩⟩
def maxD : D → D → Option D
  | .int i, .int j => some (.int (if j > i then j else i))
  | _, _ => none
theorem cd_max (hc : X.calm = true) : CallS X (.builtin "max") (f2 maxD) := ⟨_, call_max2 hc, f2_sem fun B H x y z u v s rx ry e Q k => by
  cases x <;> cases y <;> simp [maxD] at e
  subst e
  cases (show u = V.int _ from rx)
  cases (show v = V.int _ from ry)
  exact ⟨_, _, rfl, k B H _ (Ext.refl s) rfl⟩⟩
def lenD : D → Option D
  | .tup ds => some (.int ds.length)
  | .sq ds => some (.int ds.length)
  | .lst false ds => some (.int ds.length)
  | .str z => if z.length ≤ 1000000 then some (.int z.length) else none
  | _ => none
theorem cd_len : CallS X (.builtin "len") (f1 lenD) := ⟨_, call_len, f1_sem fun B H x z u s rx e Q k => by
  cases x with
  | tup ds =>
    simp [lenD] at e; subst e
    obtain ⟨a, xs, rfl, q, r⟩ := rx
    exact ⟨_, ds.length, rfl, .inr ⟨xs, sqT_mono s q, r.length.symm⟩, k B H _ (Ext.refl s) rfl⟩
  | sq ds =>
    simp [lenD] at e; subst e
    obtain ⟨a, xs, rfl, q, r⟩ := rx
    exact ⟨_, ds.length, rfl, .inl ⟨xs, sqL_mono s q, r.length.symm⟩, k B H _ (Ext.refl s) rfl⟩
  | lst o ds =>
    cases o with
    | true => simp [lenD] at e
    | false =>
      simp [lenD] at e; subst e
      obtain ⟨a, xs, rfl, q, r⟩ := rx
      exact ⟨_, ds.length, rfl, .inl ⟨xs, sqL_mono s (sqL_of q), r.length.symm⟩, k B H _ (Ext.refl s) rfl⟩
  | str y =>
    simp [lenD] at e
    obtain ⟨hl, rfl⟩ := e
    cases (show u = V.str _ from rx)
    exact ⟨_, y.length, rfl, ⟨mil hl, rfl⟩, k B H _ (Ext.refl s) rfl⟩
  | _ => simp [lenD] at e⟩
/-- isinstance(x, T), T a built-in class -/
def tyName : D → Option String
  | .non => some "NoneType"
  | .bl _ => some "bool"
  | .int _ => some "int"
  | .str _ => some "str"
  | .tup _ => some "tuple"
  | .sq _ => some "list"
  | .lst _ _ => some "list"
  | .dk _ _ _ => some "dict"
  | .dt _ _ _ => some "dict"
  | _ => none
def isT (t T : String) : Bool := t == T || (t == "bool" && T == "int")
def tyOk (T : String) : Bool := ["int", "bool", "str", "tuple", "list", "dict"].contains T
theorem kit_tab {t T : String} (ht : t ∈ (["NoneType", "bool", "int", "str", "tuple", "list", "dict"] : List String)) (hT : tyOk T = true) : kitB t T = some (isT t T) := by
  have hT : T ∈ (["int", "bool", "str", "tuple", "list", "dict"] : List String) := by simpa [tyOk] using hT
  simp only [List.mem_cons, List.not_mem_nil, or_false] at ht hT
  rcases ht with rfl | rfl | rfl | rfl | rfl | rfl | rfl <;> rcases hT with rfl | rfl | rfl | rfl | rfl | rfl <;> decide +kernel
def isiD : D → D → Option D
  | x, .ty T => if tyOk T = true then (tyName x).map fun t => .bl (isT t T) else none
  | _, _ => none
theorem rep_ty {K : PySem.W.Frag} {B H : Hp} {d : D} {v : V} {t : String} (s : Same B H) (h : RepF K B d v) (e : tyName d = some t) : TyX K H v (.type t) ∧ t ∈ (["NoneType", "bool", "int", "str", "tuple", "list", "dict"] : List String) := by
  cases d with
  | non => cases e; cases (show v = V.non from h); exact ⟨.base .non, by decide⟩
  | bl b => cases e; cases (show v = V.bl _ from h); exact ⟨.base (.bl _), by decide⟩
  | int i => cases e; cases (show v = V.int _ from h); exact ⟨.base (.int _), by decide⟩
  | str x => cases e; cases (show v = V.str _ from h); exact ⟨.base (.str _), by decide⟩
  | tup ds =>
    cases e
    obtain ⟨a, xs, rfl, q, r⟩ := h
    refine ⟨?_, by decide⟩
    rcases q with (q | ⟨o, q⟩) | ⟨o, its, n, hk, hc, _⟩
    · exact .base (.tup (s _ _ q))
    · exact .fTuple (s _ _ q)
    · exact .kTuple hk hc
  | sq ds =>
    cases e
    obtain ⟨a, xs, rfl, q, r⟩ := h
    refine ⟨?_, by decide⟩
    rcases q with (q | ⟨o, q⟩) | ⟨o, its, n, hk, hc, _⟩
    · exact .base (.lst (s _ _ q))
    · exact .base (.frz (s _ _ q))
    · exact .kList hk hc
  | lst o ds =>
    cases e
    cases o with
    | false =>
      obtain ⟨a, xs, rfl, q, r⟩ := h
      exact ⟨.base (.lst (s _ _ q)), by decide⟩
    | true =>
      obtain ⟨a, xs, T, _, z, _⟩ := h
      exact z.elim
  | dk o ks ds =>
    cases e
    cases o with
    | false =>
      obtain ⟨a, xs, rfl, q, r⟩ := h
      exact ⟨.base (.dK (s _ _ q)), by decide⟩
    | true =>
      obtain ⟨a, xs, T, _, z, _⟩ := h
      exact z.elim
  | dt o ks ds =>
    cases e
    cases o with
    | false =>
      obtain ⟨a, xs, rfl, q, r⟩ := h
      exact ⟨.base (.dT (s _ _ q)), by decide⟩
    | true =>
      obtain ⟨a, xs, T, _, z, _⟩ := h
      exact z.elim
  | _ => cases e
theorem cd_isi : CallS X (.builtin "isinstance") (f2 isiD) := ⟨_, call_isi, f2_sem fun B H x y z u v s rx ry e Q k => by
  cases y with
  | ty T =>
    have e : (if tyOk T = true then (tyName x).map fun t => D.bl (isT t T) else none) = some z := by
      cases x <;> exact e
    split at e
    · rename_i hT
      obtain ⟨t, ht, rfl⟩ := Option.map_eq_some_iff.mp e
      obtain ⟨h1, h2⟩ := rep_ty s rx ht
      cases (show v = V.ty _ from ry)
      exact ⟨u, .ty T, .type t, .type T, isT t T, rfl, .ty T, h1, kit_ty (kit_tab h2 hT), k B H _ (Ext.refl s) rfl⟩
    · cases e
  | _ => cases x <;> simp [isiD] at e⟩
/-- a built-in class as a value -/
theorem pem_ty {x : Str} {T : String} {pos : Pos} (hg : Gl X x) (hm : X.mg x = none) (hv : bootBuiltins x = some (.type T)) (hn : x ≠ "__name__" := by decide) (hd : (x == ("__debug__" : Str)) = false := by decide) : PEM X W true (.Name x pos) (rt (.ty T)) :=
  pem_const (v := .ty T) (pe_bltn hg hm hv rfl hn hd) fun _ => rfl
/-- list(x), tuple(x) -/
def listD : D → Option D
  | .tup ds => some (.lst false ds)
  | .sq ds => some (.lst false ds)
  | .lst false ds => some (.lst false ds)
  | _ => none
theorem cd_list : CallS X (.type "list") (f1 listD) := ⟨_, call_list_of, f1_sem fun B H x z u s rx e Q k => by
  cases x with
  | tup ds =>
    simp [listD] at e; subst e
    obtain ⟨a, xs, rfl, q, r⟩ := rx
    exact ⟨a, xs, rfl, .inr (sqT_mono s q), sem_obj s (repL s (RepsF.of r)) k⟩
  | sq ds =>
    simp [listD] at e; subst e
    obtain ⟨a, xs, rfl, q, r⟩ := rx
    exact ⟨a, xs, rfl, .inl (sqL_mono s q), sem_obj s (repL s (RepsF.of r)) k⟩
  | lst o ds =>
    cases o with
    | true => simp [listD] at e
    | false =>
      simp [listD] at e; subst e
      obtain ⟨a, xs, rfl, q, r⟩ := rx
      exact ⟨a, xs, rfl, .inl (sqL_mono s (sqL_of q)), sem_obj s (repL s (RepsF.of r)) k⟩
  | _ => simp [listD] at e⟩
def tupleD : D → Option D
  | .tup ds => some (.tup ds)
  | .sq ds => some (.tup ds)
  | .lst false ds => some (.tup ds)
  | _ => none
theorem cd_tuple : CallS X (.type "tuple") (f1 tupleD) := ⟨_, call_tuple_of, f1_sem fun B H x z u s rx e Q k => by
  cases x with
  | tup ds =>
    simp [tupleD] at e; subst e
    obtain ⟨a, xs, rfl, q, r⟩ := rx
    exact ⟨a, xs, rfl, .inr ⟨sqT_mono s q, k B H _ (Ext.refl s) ⟨a, xs, rfl, q, r⟩⟩⟩
  | sq ds =>
    simp [tupleD] at e; subst e
    obtain ⟨a, xs, rfl, q, r⟩ := rx
    exact ⟨a, xs, rfl, .inl ⟨sqL_mono s q, sem_obj s (repT s (RepsF.of r)) k⟩⟩
  | lst o ds =>
    cases o with
    | true => simp [tupleD] at e
    | false =>
      simp [tupleD] at e; subst e
      obtain ⟨a, xs, rfl, q, r⟩ := rx
      exact ⟨a, xs, rfl, .inl ⟨sqL_mono s (sqL_of q), sem_obj s (repT s (RepsF.of r)) k⟩⟩
  | _ => simp [tupleD] at e⟩

def enumD (n : Nat) : List D → List D
  | [] => []
  | d :: ds => .tup [.int n, d] :: enumD (n + 1) ds
theorem enumD_get : ∀ (n : Nat) (ds : List D) (i : Nat), (enumD n ds)[i]? = (ds[i]?).map fun d => .tup [.int ((n + i : Nat) : Int), d]
  | _, [], _ => by simp [enumD]
  | n, d :: ds, 0 => by simp [enumD]
  | n, d :: ds, i + 1 => by
    simp only [enumD, List.getElem?_cons_succ]
    rw [enumD_get (n + 1) ds i, show n + 1 + i = n + (i + 1) by omega]
theorem enumD_len : ∀ (n : Nat) (ds : List D), (enumD n ds).length = ds.length
  | _, [] => rfl
  | n, d :: ds => by simp only [enumD, List.length_cons]; rw [enumD_len (n + 1) ds]
def lItems : D → Option (List D)
  | .lst false ds => some (enumD 0 ds)
  | .sq ds => some (enumD 0 ds)
  | _ => none
def enum1 : List D → Option (List D)
  | [d] => lItems d
  | _ => none
theorem walks_e {K : PySem.W.Frag} {B : Hp} {a : Addr} {ds : List D} {xs : List V} (h : SqL K B a xs) (r : RepsF K B ds xs) : WalksD K (Ite K a) B (enumD 0 ds) := fun B2 H sb sh i => by
  have hl := r.length
  have hq := sqL_mono sh (sqL_mono sb h)
  refine ⟨fun d e => ?_, fun hi => ⟨xs, hq, by rw [enumD_len] at hi; omega⟩⟩
  rw [enumD_get, Nat.zero_add] at e
  obtain ⟨d', hd, rfl⟩ := Option.map_eq_some_iff.mp e
  obtain ⟨x, hx, rx⟩ := Reps.get r hd
  refine ⟨⟨xs, x, hq, hx⟩, fun v H' hy => ?_⟩
  obtain ⟨T, x', rfl, hT, rfl, hy⟩ := hy
  have := hy xs hq
  rw [hx] at this
  cases this
  refine ⟨upd B2 T (.tup [.int (i : Nat), x]), Ext.obj sh hT _, repT sh (RepsF.cons ?_ (RepsF.cons (RepF.mono sb rx) RepsF.nil)) T hT⟩
  rfl
theorem pim_enum {e : Expr} {m : M (List D)} {p pos tpos : Pos} {elts : List Expr} {kk : Nat} (hg : Gl X "enumerate") (hm : X.mg "enumerate" = none) (ha : PAM X W q [e] m) (hs : starEach [e] X.env = [(false, eval e X.env)] := by rfl) :
    PIM X W q (.Tuple elts kk tpos) (.Call (.Name "enumerate" p) [e] [] pos) (iRng enum1 m) :=
  pi_imp (pi_enum hg hm ha hs) fun σ H R h => can_I h fun a ds B H1 w e sh rl k => by
    match a, rl, e with
    | [d], ⟨v, vs, e1, rv, e2⟩, e =>
      subst e1
      rw [show vs = [] from e2]
      have e : lItems d = some ds := e
      unfold lItems at e
      split at e
      · cases e
        obtain ⟨a, xs, rfl, q, r⟩ := rv
        exact ⟨a, xs, rfl, sqL_mono sh (sqL_of q), k _ (walks_e (sqL_of q) (RepsF.of r))⟩
      · cases e
        obtain ⟨a, xs, rfl, q, r⟩ := rv
        exact ⟨a, xs, rfl, sqL_mono sh q, k _ (walks_e q (RepsF.of r))⟩
      · cases e
    | [], _, e => cases e
    | _ :: _ :: _, _, e => cases e

def raiseM (c : Str) : M Fl := fun ρ => some (.error ⟨c, []⟩, ρ)
theorem psm_raise {c : Str} {C : Addr} {e : Expr} {pos : Pos} (hm : X.mg c = some (.ref C)) (hc : X.calm = true) (tk : Takes X W) (mk : PMk X e (fun _ H Q => Q (.ref C) none H)) : PSM X W P (.Raise (some e) none pos) (raiseM c) :=
  ps_imp (ps_raise hc tk mk) fun D σ H h => by
    obtain ⟨B, F, ρ, fp, r, ρ', E, hm', post⟩ := h
    cases hm'
    exact post B H σ fp (.ref C) none (fun _ _ z => z) E Pin.refl ⟨C, hm, rfl, .inl ⟨rfl, rfl⟩⟩
def tryM (c : Str) (known : List Str) (b s : M Fl) : M Fl := fun ρ => match b ρ with
  | some (.error x, ρ') => if x.cls = c then (match s ρ' with
      | some (.ok f, ρ2) => some (.ok f, ρ2)
      | _ => none)
    else if x.cls ∈ known then some (.error x, ρ') else none
  | r => r
theorem psm_try {c x : Str} {known : List Str} {C : Addr} {body suite : List Stmt} {b₀ : Stmt} {np pos pos' : Pos} {b s : M Fl} (hs : X.stack = X.env :: X.outer) (hf : X.env.frame = some X.env.locals) (hc : Names X x (.ref C)) (tk : Takes X W)
    (hgc : X.mg c = some (.ref C)) (hx1 : PySem.W.exmOne X.K (.ref C) (.ref C) = some true) (hx : ∀ n ∈ known, ∀ C', X.mg n = some (.ref C') → PySem.W.exmOne X.K (.ref C') (.ref C) = some false)
    (hb : ∀ (W' : WX) (pn : List (Addr × Obj)) (xe : Value → Shared → Prop), Takes (X.tr pn xe) W' → PassesOwn (model X.prog X.w) X.A X.env xe → PSsM (X.tr pn xe) W' P body b)
    (hsu : ∀ (a : Addr) (oe : Obj) (cls : Value) (d : Option Addr) (pn : List (Addr × Obj)), Zc cls d oe → (∃ vs, oe.data = .fields vs) → PSsM (X.suite a ((a, oe) :: pn)) W0 P (b₀ :: suite) s) :
    PSM X W P (.Try body [.ExceptHandler (some (.Name x np)) none (b₀ :: suite) pos'] [] [] pos) (tryM c known b s) :=
  ps_imp (ps_try_only (tb := fun W' => canS X.K X.mg W' P b) (ts := fun _ _ _ => canS X.K X.mg W0 P s) (Wout := W) hs hf hc tk hb hsu) fun D σ H h => by
    obtain ⟨B, F, ρ, fp, r, ρ', E, hm, post⟩ := h
    unfold tryM at hm
    cases e1 : b ρ with
    | none => rw [e1] at hm; cases hm
    | some p =>
      obtain ⟨r1, ρ1⟩ := p
      rw [e1] at hm
      refine ⟨B, F, ρ, fp, r1, ρ1, E, e1, ?_⟩
      cases r1 with
      | ok f =>
        have hm : some (Except.ok f, ρ1) = some (r, ρ') := hm
        cases hm
        cases f <;> exact post
      | error y =>
        simp only at hm
        intro B' H' σ' fp' cls dd sb E' pn xr
        obtain ⟨C', h1, h2, h3⟩ := xr
        split at hm
        · rename_i hy
          rw [hy, hgc] at h1
          cases h1
          refine ⟨true, by rw [h2]; exact hx1, fun _ a _ => ?_, fun z => nomatch z⟩
          cases e2 : s ρ1 with
          | none => rw [e2] at hm; cases hm
          | some p2 =>
            obtain ⟨r2, ρ2⟩ := p2
            rw [e2] at hm
            cases r2 with
            | error z => cases hm
            | ok f =>
              cases hm
              refine ⟨B', F, ρ1, fp', .ok f, ρ', E', e2, ?_⟩
              have := post.up sb pn
              cases f <;> exact this
        · split at hm
          · rename_i hk
            cases hm
            refine ⟨false, by rw [h2]; exact hx _ hk C' h1, (fun z => nomatch z), fun _ => ?_⟩
            exact post B' H' σ' fp' cls dd sb E' pn ⟨C', h1, h2, h3⟩
          · cases hm
end
end G

namespace G
open PySem PySem.Spec PySem.Calls PyProof.Rows L2
theorem big_ex : ∃ n : Nat, 2 ^ 2097152 ≤ n := ⟨_, Nat.le_refl _⟩
/-- more turns than any loop here takes (nothing can compute with it) -/
noncomputable def big : Nat := Classical.choose big_ex
theorem lt_big {n k : Nat} (h : k < 2 ^ n) (hn : n ≤ 2097152) : k < big := Nat.lt_of_lt_of_le h (Nat.le_trans (Nat.pow_le_pow_right (by decide) hn) (Classical.choose_spec big_ex))
theorem hu64_of {k : Nat} {A : Around} (h : Room k A) : A.units + 64 < cLine := by
  have := h.un
  omega
theorem hu80_of {k : Nat} {A : Around} (h : Room k A) : A.units + 80 < cLine := by
  have := h.un
  omega
def sRet (m : M D) : M Fl := bnd m fun d => rt (.rt d)
def sIf (t : M Bool) (m n : M Fl) : M Fl := bnd t fun k => if k = true then m else n
def sExpr (m : M D) : M Fl := bnd m fun _ => rt .nx
def eOwn (m : M (List D)) : M D := bnd m fun ds => ofO (if ds.length ≤ 1000 then some (.lst true ds) else none)
def sApp (i : Nat) (m : M D) : M Fl := fun ρ => match ρ[i]? with | some (some (.lst true _)) => bnd m (appD i) ρ | _ => none
def gSl (i : Nat) (n : M (List AD)) : M (List AD) := fun ρ => match ρ[i]? with | some (some _) => gS i n ρ | _ => none
/-- a def as it stands behind the top -/
structure Df (K : PySem.W.Frag) (mg : Str → Option Value) (x : Str) (st : Stmt) (dvs : List V) : Prop where
  ex : ∃ (f : Addr) (fd : FuncData), FunD K x x (defArgs st) (defBody st) (defScope st) dvs [] f fd ∧ mg x = some (.ref f)
theorem _root_.L2.FunD.bindsA1 {K : PySem.W.Frag} {x qual : Str} {st : Stmt} {p : Str} {f : Addr} {fd : FuncData} (F : FunD K x qual (defArgs st) (defBody st) (defScope st) [] [] f fd)
    (h : ∀ (kV doc pm : Value) (an : Option Addr) (cdv ct : Value) (u : Value), bindArgs (PySem.W.fnOf x qual (defArgs st) (defBody st) (defScope st) .none kV doc pm an cdv ct) ⟨[u], []⟩ = pure [(p, u)] := by intros; rfl) (t : Shared) (u : Value) : BindsTo t fd ⟨[u], []⟩ [(p, u)] :=
  F.bindsA (ps := [p]) (fun kV doc pm an cdv ct us hl => match us, hl with | [u], _ => h kV doc pm an cdv ct u) t [u] rfl
/-- f() -/
def eCall0 (g : Fn) : M D := eCallQ g aNil
section
variable {X : Cx} {W : WX} {k : Nat} {g : Fn} {x : Str} {p pos : Pos}
theorem pe_cal0 (C : Cal X.prog X.w X.K X.mg X.base k x 0 g) (hg : X.A.guards = some []) (hr : Room k X.A) (tk : Takes X W) (gl : Gl X x) (hdb : (x == ("__debug__" : Str)) = false := by decide) :
    PE X (.Call (.Name x p) [] [] pos) fun σ H Q => spM X.K X.mg 0 g [] H Q fun cls d H' => W cls d σ H' := by
  obtain ⟨⟨f, fd, ps, sp, ds, dvd, F, hm, hk, hb, hv, hi⟩, l⟩ := C
  refine ⟨fun pins s σ H Q I h => ?_⟩
  have q : sp ([] ++ dvd) H Q fun cls d H' => W cls d σ H' := hi _ _ _ _ h
  apply wpAny_Call_Name_kw
  apply ld_glob I gl hm _ hdb
  apply PySem.W.callWith_K0 I.kIn hk
  have rr : Vals ([] ++ dvd) ([] ++ ds) := hv
  have b : BindsTo s fd ⟨[], []⟩ (ps.zip ([] ++ ds)) := hb s [] I.kIn (rr.length.symm.trans (F.len _ _ _ _ q))
  apply wpAny_call
  apply codeAny_mono (F.run X.A X.stack s H ⟨[], []⟩ ([] ++ ds) ([] ++ dvd) Q _ hg hr I.env0 b rr q)
  intro res s' hq
  match res, hq with
  | .error er, hq => exact tk er s' (XE.of_call I (fun _ _ _ w => w) hq)
  | .ok (.ret u), hq => exact I.after hq
  | .ok .next, hq => exact hq.elim
  | .ok .brk, hq => exact hq.elim
  | .ok .cont, hq => exact hq.elim
theorem pem_call0 (C : Cal X.prog X.w X.K X.mg X.base k x 0 g) (hg : X.A.guards = some []) (hr : Room k X.A) (tk : Takes X W) (gl : Gl X x) (hdb : (x == ("__debug__" : Str)) = false := by decide) :
    PEM X W true (.Call (.Name x p) [] [] pos) (eCall0 g) :=
  pe_imp (pe_cal0 C hg hr tk gl hdb) fun σ H Q h => by
    obtain ⟨B, F, ρ, fp, r, ρ', E, hm, post⟩ := can_callQ (q := true) C.len h
    cases hm
    have := post B H fp [] (fun _ _ z => z) E RepsF.nil fun _ => ⟨rfl, rfl, Ext.refl E.bh⟩
    exact this
end

abbrev Ending (s : Shared) : Result → Shared → Prop := fun r t => r = .ok (.ret (.bool true)) ∧ OldK s.heap t.heap ∧ t.os = s.os ∧ AllBare t.gens
theorem hid_ns {s : Shared} {H : Hp} {a : Addr} {vs : List Value} (ha : s.heap.get? a = some { cls := .type "list", data := .seq vs.toArray }) (only : ∀ b, H b ≠ none → b = a) {b : Addr} {m : Str → Option Value} (h : s.heap.Ns b m) : (hidT s.heap H).Ns b m := by
  obtain ⟨o, es, ep, e, d, r⟩ := h
  refine ⟨o, es, ep, hidT_get e ?_, d, r⟩
  cases q : H b with
  | none => rfl
  | some u =>
    have z : b = a := only b (by rw [q]; exact fun y => by cases y)
    rw [z, ha] at e
    cases e
    have d' : Data.seq vs.toArray _ = Data.dict es ep := d
    cases d'
section
variable {P : Program} {w : World} {K : PySem.W.Frag} {mg mb : Str → Option Value} {k : Nat} {fa a : Addr} {fd : FuncData} {x : Str} {g : Fn} {s : Shared} {vs : List Value} {ns : List Int} {ρr : En}
theorem end_in (KX : K.In s.heap) (hns : s.heap.Ns mainGlobals mg) (hb : s.heap.Ns builtinsNs mb) (hbb : ∀ y : Str, y ≠ "__name__" → mb y = bootBuiltins y) (hlim : s.heap.NoLimit) (nd : s.heap.NoDigits) (hgn : s.gens = #[])
    (ha : s.heap.get? a = some { cls := .type "list", data := .seq vs.toArray }) (hr : Room k callerA) (hga : callerA.guards = some [])
    (F : ∀ base : Heap, K.In base → base.Ns mainGlobals mg → base.NoDigits → FnG P w K mg base k fa fd [x] (spM K mg 1 g)) (hbind : ∀ (t : Shared) (u : Value), BindsTo t fd ⟨[u], []⟩ [(x, u)])
    (hgm : g [.sq (ns.map D.int)] = some (.ok (.bl true), ρr)) (H : Hp) (hO : Only H) (hS : SqL K H a (ns.map V.int)) (hok : HOk P w H s.heap) (only : ∀ b, H b ≠ none → b = a) (hK : H a ≠ none → K.lookup a = none) :
    codeAny (model P w) callerA (.call (.ref fa) ⟨[.ref a], []⟩) (Ending s) s := by
  have nsK := fun {b : Addr} {m : Str → Option Value} => hid_ns (H := H) (b := b) (m := m) ha only
  have keepK : K.In (hidT s.heap H) := fun b o e => by
    refine hidT_get (KX b o e) ?_
    cases q : H b with
    | none => rfl
    | some u =>
      have z : b = a := only b (by rw [q]; exact fun y => by cases y)
      rw [z] at e q
      rw [hK (by rw [q]; exact fun y => by cases y)] at e
      cases e
  have ndB : (hidT s.heap H).NoDigits := let ⟨mc, h1, h2⟩ := nd; ⟨mc, nsK h1, h2⟩
  have md : Mod K mg (hidT s.heap H) := ⟨keepK, nsK hns, ⟨mb, nsK hb, hbb⟩, let ⟨mc, h1, h2⟩ := hlim; ⟨mc, nsK h1, h2⟩⟩
  have en : Env0 P w K mg (hidT s.heap H) callerA [] s H := ⟨rfl, md, fun b o e => of_hidT e, Nat.le_of_eq (hidT_size _ _), trivial, fun b q => absurd (show b ∈ ([] : List Addr) from q) (by simp), hok, .of_eq hgn⟩
  have ready : spM K mg 1 g [.ref a] H (fun v _ => v = .bl true) fun _ _ _ => False := by
    have allI : ∀ l : List Int, Reps K H H (l.map D.int) (l.map V.int) noT := fun l => by
      induction l with
      | nil => exact (rfl : ([] : List V) = [])
      | cons i l ih => exact ⟨_, _, rfl, rfl, ih⟩
    refine ⟨rfl, H, (fun _ => none), [.sq (ns.map D.int)], noT, _, ρr, ⟨fun _ _ z => z, (fun _ _ z => by cases z), (fun _ _ z => by cases z), fun i d e => ?_, fun _ _ _ z => z.elim, fun _ _ z => z.elim, fun _ _ z => z.elim, Nat.le_refl _⟩, hgm, fun _ _ _ v _ _ _ vo => vo.rep⟩
    match i, e with
    | 0, e =>
      have e : D.sq (ns.map D.int) = d := by simpa using e
      subst e
      exact ⟨_, rfl, a, _, rfl, hS, allI ns⟩
    | i + 1, e => simp at e
  have run := (F _ keepK (nsK hns) ndB).run callerA [] s H ⟨[.ref a], []⟩ [.ref a] [.ref a] _ _ hga hr en (hbind s (.ref a)) (.cons rfl .nil) ready
  refine codeAny_mono run fun r t ht => ?_
  match r, ht with
  | .error e, ht =>
    obtain ⟨_, _, _, _, _, _, _, _, _, _, _, _, z⟩ := ht
    exact z.elim
  | .ok .next, ht => exact False.elim ht
  | .ok .brk, ht => exact False.elim ht
  | .ok .cont, ht => exact False.elim ht
  | .ok (.ret u), ht =>
    obtain ⟨v, H', os, bare, un, hok', r', q⟩ := ht
    have q : v = .bl true := q
    subst q
    have hu : u = Value.bool true := r'
    subst hu
    refine ⟨rfl, OldK.of_keep fun b o e => ?_, os, bare⟩
    rcases hO b with z | ⟨ob, xs, z⟩
    · exact un.keep b o e z (by intro y; exact absurd (show b ∈ ([] : List Addr) from y) (by simp)) (by simp)
    · have e1 := (hok b _ z).1
      have e2 := (hok' b _ (un.frzs b ob _ z)).1
      rw [e] at e1
      cases e1
      exact e2
theorem end_call (KX : K.In s.heap) (hns : s.heap.Ns mainGlobals mg) (hb : s.heap.Ns builtinsNs mb) (hbb : ∀ y : Str, y ≠ "__name__" → mb y = bootBuiltins y) (hlim : s.heap.NoLimit) (nd : s.heap.NoDigits) (hgn : s.gens = #[])
    (ha : s.heap.get? a = some { cls := .type "list", data := .seq vs.toArray }) (hi : IntsAre vs ns) (hl : ns.length ≤ sizeLine) (hr : Room k callerA) (hga : callerA.guards = some [])
    (F : ∀ base : Heap, K.In base → base.Ns mainGlobals mg → base.NoDigits → FnG P w K mg base k fa fd [x] (spM K mg 1 g)) (hbind : ∀ (t : Shared) (u : Value), BindsTo t fd ⟨[u], []⟩ [(x, u)])
    (hgm : g [.sq (ns.map D.int)] = some (.ok (.bl true), ρr)) : codeAny (model P w) callerA (.call (.ref fa) ⟨[.ref a], []⟩) (Ending s) s := by
  have rv := vals_ints hi
  have len := hi.length
  have go := end_in KX hns hb hbb hlim nd hgn ha hr hga F hbind hgm
  cases hk : K.lookup a with
  | some o =>
    have e := KX a o hk
    rw [ha] at e
    cases e
    exact go (fun _ => none) (fun _ => .inl rfl) (.inr ⟨_, vs.toArray, _, hk, rfl, rfl, rfl, by rw [List.size_toArray, len]; exact hl, by simpa using rv⟩) (fun b u z => by cases (show (none : Option HO) = some u from z)) (fun b z => absurd rfl z) fun z => absurd rfl z
  | none =>
    have hS : (fun b => if b = a then some (HO.frz { cls := .type "list", data := .seq vs.toArray } (.lst (ns.map V.int))) else none) a = some (HO.frz { cls := .type "list", data := .seq vs.toArray } (.lst (ns.map V.int))) := if_pos rfl
    refine go (fun b => if b = a then some (HO.frz { cls := .type "list", data := .seq vs.toArray } (.lst (ns.map V.int))) else none) (fun b => ?_) (.inl (.inr ⟨_, hS⟩)) (fun b u z => ?_) (fun b z => ?_) fun _ => hk
    · by_cases q : b = a
      · right; exact ⟨_, _, if_pos q⟩
      · left; exact if_neg q
    · by_cases q : b = a
      · subst q
        cases hS.symm.trans z
        exact ⟨ha, by rw [List.length_map]; exact hl, vs, _, rv, ha⟩
      · cases (if_neg q).symm.trans z
    · by_cases q : b = a
      · exact q
      · exact absurd (if_neg q) z
/-- THE END of a law row: F gives the law's def; hgm: its meaning is True at every script -/
theorem walkG {l : PySem.W.OpenLaw} {n : Nat} {q : Program} {loose : List Str} {XP : (Str → Option Value) → Heap → Prop} {YP : World → Heap → Prop} {d : DefRec} {Kf : PySem.Params → PySem.W.Frag} {x : Str} {g : Fn} {k : Nat}
    (hn : l.most = some n) (hn2 : n ≤ sizeLine) (hdf : d.params.defaults = []) (hr : Room k callerA) (hga : callerA.guards = some []) (hY : ∀ (w : World) (h : Heap), YP w h → (Kf w.params).In h)
    (F : ∀ (w : World) (mg : Str → Option Value) (fa : Addr) (h : Heap), (Kf w.params).In h → h.Ns mainGlobals mg → mg d.name = some (.ref fa) → ∃ fd : FuncData, (∀ (t : Shared) (u : Value), BindsTo t fd ⟨[u], []⟩ [(x, u)]) ∧
      ∀ base : Heap, (Kf w.params).In base → base.Ns mainGlobals mg → base.NoDigits → FnG l.prog w (Kf w.params) mg base k fa fd [x] (spM (Kf w.params) mg 1 g))
    (hgm : ∀ ns : List Int, ns.length ≤ n → (∀ z ∈ ns, Builtin.Int.intBits z ≤ 1048576) → ∃ ρr, g [.sq (ns.map D.int)] = some (.ok (.bl true), ρr)) :
    PySem.W.WalkO q loose XP YP l.row.toRowW d [] (fun f vs => PySem.call f vs) := by
  refine Att.attach_callB hn hdf fun w s₀ s₁ mg mb fa o pm cd doc a vs ns G Y ho hd hcd hmg hobj hints hlen hbits hg => ?_
  have KX := hY w _ Y
  obtain ⟨fd, hb, hF⟩ := F w mg fa _ KX G.T.g hmg
  obtain ⟨ρr, hv⟩ := hgm ns hlen hbits
  exact end_call KX G.T.g G.T.b G.T.builtins G.T.nolimit G.T.nodigits hg hobj hints (Nat.le_trans hlen hn2) hr hga hF hb hv
end
end G

namespace G
open PySem L2
section
variable {α β : Type}
@[simp] theorem s_bnd (m : M α) (f : α → M β) (ρ : En) : bnd m f ρ = match m ρ with
  | none => none
  | some (.error x, ρ') => some (.error x, ρ')
  | some (.ok a, ρ') => f a ρ' := rfl
@[simp] theorem s_rt (a : α) (ρ : En) : rt a ρ = some (.ok a, ρ) := rfl
@[simp] theorem s_ofO_some (a : α) (ρ : En) : ofO (some a) ρ = some (.ok a, ρ) := rfl
@[simp] theorem s_ofO_none (ρ : En) : (ofO none : M α) ρ = none := rfl
@[simp] theorem s_sSeq (m n : M Fl) (ρ : En) : sSeq m n ρ = match m ρ with
  | none => none
  | some (.error x, ρ') => some (.error x, ρ')
  | some (.ok .nx, ρ') => n ρ'
  | some (.ok f, ρ') => some (.ok f, ρ') := by
  unfold sSeq bnd
  rcases m ρ with _ | ⟨(_ | f), ρ'⟩
  · rfl
  · rfl
  · cases f <;> rfl
@[simp] theorem s_sRet (m : M D) (ρ : En) : sRet m ρ = bnd m (fun d => rt (.rt d)) ρ := rfl
@[simp] theorem s_sIf (t : M Bool) (m n : M Fl) (ρ : En) : sIf t m n ρ = bnd t (fun k => if k = true then m else n) ρ := rfl
@[simp] theorem s_sExpr (m : M D) (ρ : En) : sExpr m ρ = bnd m (fun _ => rt .nx) ρ := rfl
@[simp] theorem s_sNx (ρ : En) : sNx ρ = some (.ok .nx, ρ) := rfl
@[simp] theorem s_sSet (i : Nat) (m : M D) (ρ : En) : sSet i m ρ = bnd m (fun d => fun ρ => if i < ρ.length then some (.ok .nx, ρ.set i (some d)) else none) ρ := rfl
@[simp] theorem s_put (i : Nat) (d : D) (ρ : En) : put i d ρ = if i < ρ.length then some (.ok .nx, ρ.set i (some d)) else none := rfl
@[simp] theorem s_eName (i : Nat) (ρ : En) : eName i ρ = match ρ[i]? with
  | some (some d) => if isF d = true then some (.ok d, ρ) else none
  | _ => none := rfl
@[simp] theorem s_eOp (g : D → D → Option D) (m n : M D) (ρ : En) : eOp g m n ρ = bnd m (fun x => bnd n fun y => ofO (g x y)) ρ := rfl
@[simp] theorem s_eUn (g : D → Option D) (m : M D) (ρ : En) : eUn g m ρ = bnd m (fun x => ofO (g x)) ρ := rfl
@[simp] theorem s_tB (m : M D) (ρ : En) : tB m ρ = bnd m (fun d => ofO (asB d)) ρ := rfl
@[simp] theorem s_asB (b : Bool) : asB (.bl b) = some b := rfl
@[simp] theorem s_eFn (g : List D → Option D) (m : M (List D)) (ρ : En) : eFn g m ρ = bnd m (fun ds => ofO (g ds)) ρ := rfl
@[simp] theorem s_aNil (ρ : En) : aNil ρ = some (.ok [], ρ) := rfl
@[simp] theorem s_aCons (m : M D) (n : M (List D)) (ρ : En) : aCons m n ρ = bnd m (fun d => bnd n fun ds => rt (d :: ds)) ρ := rfl
@[simp] theorem s_tAnd (m n : M Bool) (ρ : En) : tAndM m n ρ = bnd m (fun c => if c = true then n else rt false) ρ := rfl
@[simp] theorem s_tOr (m n : M Bool) (ρ : En) : tOrM m n ρ = bnd m (fun c => if c = true then rt true else n) ρ := rfl
@[simp] theorem s_tNot (m : M Bool) (ρ : En) : tNotM m ρ = bnd m (fun c => rt (!c)) ρ := rfl
@[simp] theorem s_eAnd (m n : M D) (ρ : En) : eAnd m n ρ = bnd (tB m) (fun c => if c = true then n else rt (.bl false)) ρ := rfl
@[simp] theorem s_eOr (m n : M D) (ρ : En) : eOr m n ρ = bnd (tB m) (fun c => if c = true then rt (.bl true) else n) ρ := rfl
@[simp] theorem s_eNot (m : M D) (ρ : En) : eNot m ρ = bnd (tB m) (fun c => rt (.bl (!c))) ρ := rfl
@[simp] theorem s_eIf (t : M Bool) (m n : M D) (ρ : En) : eIf t m n ρ = bnd t (fun c => if c = true then m else n) ρ := rfl
@[simp] theorem s_callQ (g : Fn) (ds : List D) (ρ : En) : callQ g ds ρ = match g ds with
  | some (.ok d, _) => if isF d = true then some (.ok d, ρ) else none
  | some (.error x, _) => some (.error x, ρ)
  | none => none := rfl
@[simp] theorem s_eCallQ (g : Fn) (m : M (List D)) (ρ : En) : eCallQ g m ρ = bnd m (callQ g) ρ := rfl
@[simp] theorem s_eCall0 (g : Fn) (ρ : En) : eCall0 g ρ = callQ g [] ρ := rfl
@[simp] theorem s_putP (i j : Nat) (a b : D) (ρ : En) : putP i j [a, b] ρ = if i < ρ.length ∧ j < ρ.length then some (.ok .nx, (ρ.set i (some a)).set j (some b)) else none := rfl
@[simp] theorem s_keep0 (ρ : En) : keep [] ρ = [] := by cases ρ <;> rfl
@[simp] theorem s_keep1 (b : Bool) (bs : List Bool) (o : Option D) (ρ : En) : keep (b :: bs) (o :: ρ) = (if b = true then o else none) :: keep bs ρ := rfl
@[simp] theorem s_fnM (P : List Bool) (nl : Nat) (m : M Fl) (ds : List D) : fnM P nl m ds = if ds.length = P.length then match m (ds.map some ++ List.replicate nl none) with
  | some (.error x, ρ) => some (.error x, keep P ρ)
  | some (.ok (.rt d), ρ) => some (.ok d, keep P ρ)
  | some (.ok .nx, ρ) => some (.ok .non, keep P ρ)
  | _ => none
  else none := rfl
@[simp] theorem s_eFz (m : M D) (ρ : En) : eFz m ρ = bnd m (fun d => rt (fz d)) ρ := rfl
@[simp] theorem s_gNil (ρ : En) : gNil ρ = some (.ok [], ρ) := rfl
@[simp] theorem s_gV (m : M D) (n : M (List AD)) (ρ : En) : gV m n ρ = bnd m (fun d => bnd n fun as => rt (.v d :: as)) ρ := rfl
@[simp] theorem s_gSl (i : Nat) (n : M (List AD)) (ρ : En) : gSl i n ρ = match ρ[i]? with
  | some (some _) => bnd n (fun as => rt (.s i :: as)) ρ
  | _ => none := rfl
@[simp] theorem s_eCall (g : Fn) (m : M (List AD)) (ρ : En) : eCall g m ρ = bnd m (callG g) ρ := rfl
@[simp] theorem s_callG (g : Fn) (as : List AD) (ρ : En) : callG g as ρ = if (slotsOf as).Nodup then match dataOf ρ as with
  | none => none
  | some ds => match g ds with
    | none => none
    | some (r, ρr) => some (r, putBack as ρr 0 ρ)
  else none := rfl
@[simp] theorem s_slots0 : slotsOf [] = [] := rfl
@[simp] theorem s_slotsV (d : D) (as : List AD) : slotsOf (.v d :: as) = slotsOf as := rfl
@[simp] theorem s_slotsS (i : Nat) (as : List AD) : slotsOf (.s i :: as) = i :: slotsOf as := rfl
@[simp] theorem s_data0 (ρ : En) : dataOf ρ [] = some [] := rfl
@[simp] theorem s_dataV (ρ : En) (d : D) (as : List AD) : dataOf ρ (.v d :: as) = (dataOf ρ as).map (d :: ·) := rfl
@[simp] theorem s_dataS (ρ : En) (i : Nat) (as : List AD) : dataOf ρ (.s i :: as) = match ρ[i]? with
  | some (some d) => (dataOf ρ as).map (d :: ·)
  | _ => none := rfl
@[simp] theorem s_back0 (as : List AD) (ρr : En) (k : Nat) : putBack as ρr k [] = [] := rfl
@[simp] theorem s_back1 (as : List AD) (ρr : En) (k : Nat) (o : Option D) (ρ : En) : putBack as ρr k (o :: ρ) = (match slotIx as k with
    | some j => (ρr[j]?).join
    | none => o) :: putBack as ρr (k + 1) ρ := rfl
@[simp] theorem s_six0 (i : Nat) : slotIx [] i = none := rfl
@[simp] theorem s_sixV (d : D) (as : List AD) (i : Nat) : slotIx (.v d :: as) i = (slotIx as i).map (· + 1) := rfl
@[simp] theorem s_sixS (k : Nat) (as : List AD) (i : Nat) : slotIx (.s k :: as) i = if k = i then some 0 else (slotIx as i).map (· + 1) := rfl
@[simp] theorem s_eOwn (m : M (List D)) (ρ : En) : eOwn m ρ = bnd m (fun ds => ofO (if ds.length ≤ 1000 then some (.lst true ds) else none)) ρ := rfl
@[simp] theorem s_sApp (i : Nat) (m : M D) (ρ : En) : sApp i m ρ = match ρ[i]? with
  | some (some (.lst true _)) => bnd m (appD i) ρ
  | _ => none := rfl
@[simp] theorem s_appD (i : Nat) (d : D) (ρ : En) : appD i d ρ = match ρ[i]? with
  | some (some (.lst true ds)) => if isFs ds = true ∧ ds.length ≤ 1000000 then some (.ok .nx, ρ.set i (some (.lst true (ds ++ [d])))) else none
  | _ => none := rfl
@[simp] theorem s_fzSl (i : Nat) (m : M Fl) (ρ : En) : fzSl i m ρ = match ρ[i]? with
  | some (some d) => m (ρ.set i (some (fz d)))
  | _ => none := rfl
@[simp] theorem s_tgNil (ρ : En) : tgNil [] ρ = some (.ok .nx, ρ) := rfl
@[simp] theorem s_tgCons (t : D → M Fl) (u : List D → M Fl) (d : D) (ds : List D) (ρ : En) : tgCons t u (d :: ds) ρ = sSeq (t d) (u ds) ρ := rfl
@[simp] theorem s_tgTup (n : Nat) (t : List D → M Fl) (ds : List D) (ρ : En) : tgTup n t (.tup ds) ρ = if ds.length = n then t ds ρ else none := by
  show (if ds.length = n then t ds else fun _ => none) ρ = _
  by_cases h : ds.length = n
  · rw [if_pos h, if_pos h]
  · rw [if_neg h, if_neg h]
@[simp] theorem s_iItems (m : M D) (ρ : En) : iItems m ρ = bnd m (fun d => ofO (itemsOf d)) ρ := rfl
@[simp] theorem s_iRng (f : List D → Option (List D)) (m : M (List D)) (ρ : En) : iRng f m ρ = bnd m (fun ds => ofO (f ds)) ρ := rfl
@[simp] theorem s_items1 (ds : List D) : itemsOf (.tup ds) = some ds := rfl
@[simp] theorem s_items2 (ds : List D) : itemsOf (.lst false ds) = some ds := rfl
@[simp] theorem s_items3 (ds : List D) : itemsOf (.sq ds) = some ds := rfl
@[simp] theorem s_sFor (it : M (List D)) (tgt : D → M Fl) (b : M Fl) (ρ : En) : sFor it tgt b ρ = bnd it (forM tgt b) ρ := rfl
@[simp] theorem s_f1 (g : D → Option D) (d : D) : f1 g [d] = g d := rfl
@[simp] theorem s_f2 (g : D → D → Option D) (d e : D) : f2 g [d, e] = g d e := rfl
@[simp] theorem s_gTup (ds : List D) : gTup ds = if ds.length ≤ 1000 then some (.tup ds) else none := rfl
@[simp] theorem s_gLst (ds : List D) : gLst ds = if ds.length ≤ 1000 then some (.lst false ds) else none := rfl
@[simp] theorem s_isF_int (i : Int) : isF (.int i) = true := rfl
@[simp] theorem s_isF_bl (i : Bool) : isF (.bl i) = true := rfl
@[simp] theorem s_isF_non : isF .non = true := rfl
@[simp] theorem s_isF_str (i : Str) : isF (.str i) = true := rfl
@[simp] theorem s_isF_ty (i : String) : isF (.ty i) = true := rfl
@[simp] theorem s_isF_tup (i : List D) : isF (.tup i) = true := rfl
@[simp] theorem s_isF_sq (i : List D) : isF (.sq i) = true := rfl
@[simp] theorem s_isF_lst (i : List D) : isF (.lst false i) = isFs i := by simp [isF]
@[simp] theorem s_isFs0 : isFs [] = true := rfl
@[simp] theorem s_isFs1 (d : D) (ds : List D) : isFs (d :: ds) = (isF d && isFs ds) := rfl
@[simp] theorem s_fz_int (i : Int) : fz (.int i) = .int i := rfl
@[simp] theorem s_fz_tup (i : List D) : fz (.tup i) = .tup i := rfl
@[simp] theorem s_fz_bl (i : Bool) : fz (.bl i) = .bl i := rfl
@[simp] theorem s_fz_non : fz .non = .non := rfl
@[simp] theorem s_fz_str (i : Str) : fz (.str i) = .str i := rfl
@[simp] theorem s_fz_lst (o : Bool) (i : List D) : fz (.lst o i) = .lst false (fzs i) := rfl
@[simp] theorem s_fzs0 : fzs [] = [] := rfl
@[simp] theorem s_fzs1 (d : D) (ds : List D) : fzs (d :: ds) = fz d :: fzs ds := rfl
@[simp] theorem s_add (i j : Int) : addD (.int i) (.int j) = some (.int (i + j)) := rfl
@[simp] theorem s_sub (i j : Int) : subD (.int i) (.int j) = some (.int (i - j)) := rfl
@[simp] theorem s_neg (i : Int) : negD (.int i) = some (.int (-i)) := rfl
@[simp] theorem s_mul (i j : Int) : mulD (.int i) (.int j) = if i.natAbs.log2 + j.natAbs.log2 < 1000000 then some (.int (i * j)) else none := rfl
@[simp] theorem s_fdiv (i j : Int) : fdivD (.int i) (.int j) = if j ≠ 0 ∧ j.natAbs.log2 < 9000 then some (.int (i.fdiv j)) else none := rfl
@[simp] theorem s_mod (i j : Int) : modD (.int i) (.int j) = if j ≠ 0 then some (.int (i.fmod j)) else none := rfl
@[simp] theorem s_pow (i j : Int) : powD (.int i) (.int j) = if 0 ≤ j ∧ (Builtin.Int.intBits i : Int) * j ≤ 2 ^ 27 then some (.int (i ^ j.toNat)) else none := rfl
@[simp] theorem s_lt (i j : Int) : ltD (.int i) (.int j) = some (.bl (decide (i < j))) := rfl
@[simp] theorem s_le (i j : Int) : leD (.int i) (.int j) = some (.bl (decide (i ≤ j))) := rfl
@[simp] theorem s_gt (i j : Int) : gtD (.int i) (.int j) = some (.bl (decide (j < i))) := rfl
@[simp] theorem s_ge (i j : Int) : geD (.int i) (.int j) = some (.bl (decide (j ≤ i))) := rfl
theorem decide_eq_beq (i j : Int) : decide (i = j) = (i == j) := by
  by_cases h : i = j
  · subst h; simp
  · simp [h]
theorem shaped_int (i : Int) : SeqAt.shaped (.int i) = true := rfl
@[simp] theorem s_eq (i j : Int) : eqD (.int i) (.int j) = some (.bl (decide (i = j))) := by
  simp only [eqD, eqP, py, shaped_int, PyData.eqv, and_self, if_true, Option.map_some, Option.some.injEq, D.bl.injEq]
  exact (decide_eq_beq i j).symm
@[simp] theorem s_ne (i j : Int) : neD (.int i) (.int j) = some (.bl (!decide (i = j))) := by
  simp only [neD, eqP, py, shaped_int, PyData.eqv, and_self, if_true, Option.map_some, Option.some.injEq, D.bl.injEq]
  exact congrArg _ (decide_eq_beq i j).symm
@[simp] theorem s_eqS (i j : Str) : eqD (.str i) (.str j) = some (.bl (decide (i = j))) := rfl
@[simp] theorem s_neS (i j : Str) : neD (.str i) (.str j) = some (.bl (!decide (i = j))) := rfl
@[simp] theorem s_isB (a b : Bool) : isD (.bl a) (.bl b) = some (.bl (decide (a = b))) := rfl
@[simp] theorem s_isnB (a b : Bool) : isnD (.bl a) (.bl b) = some (.bl (!decide (a = b))) := rfl
@[simp] theorem s_abs (i : Int) : absD (.int i) = some (.int (if i < 0 then -i else i)) := rfl
@[simp] theorem s_int (i : Int) : intD (.int i) = some (.int i) := rfl
@[simp] theorem s_min (i j : Int) : minD (.int i) (.int j) = some (.int (if j < i then j else i)) := rfl
@[simp] theorem s_max (i j : Int) : maxD (.int i) (.int j) = some (.int (if j > i then j else i)) := rfl
@[simp] theorem s_lenT (ds : List D) : lenD (.tup ds) = some (.int ds.length) := rfl
@[simp] theorem s_lenL (ds : List D) : lenD (.lst false ds) = some (.int ds.length) := rfl
@[simp] theorem s_lenQ (ds : List D) : lenD (.sq ds) = some (.int ds.length) := rfl
theorem s_ix (ds : List D) (n : Nat) (d : D) (h : ds[n]? = some d) : ixD (.tup ds) (.int n) = some d := atI_nat h
@[simp] theorem s_ix0 (d : D) (ds : List D) : ixD (.tup (d :: ds)) (.int 0) = some d := atI_nat (j := 0) rfl
@[simp] theorem s_ix1 (d e : D) (ds : List D) : ixD (.tup (d :: e :: ds)) (.int 1) = some e := atI_nat (j := 1) rfl
@[simp] theorem s_ix2 (d e f : D) (ds : List D) : ixD (.tup (d :: e :: f :: ds)) (.int 2) = some f := atI_nat (j := 2) rfl
@[simp] theorem s_iT_int_int (i : Int) : isiD (.int i) (.ty "int") = some (.bl true) := rfl
@[simp] theorem s_iT_int_bool (i : Int) : isiD (.int i) (.ty "bool") = some (.bl false) := rfl
@[simp] theorem s_iT_tup_tup (i : List D) : isiD (.tup i) (.ty "tuple") = some (.bl true) := rfl
end
theorem log2_of {i : Int} {n : Nat} (h : i.natAbs < 2 ^ n) (hn : 0 < n) : i.natAbs.log2 < n := by
  by_cases z : i.natAbs = 0
  · rw [z]; simpa using hn
  · exact (Nat.log2_lt z).mpr h
theorem fmod_nat (a b : Nat) : Int.fmod (a : Int) (b : Int) = ((a % b : Nat) : Int) := by
  rw [Int.fmod_eq_emod_of_nonneg _ (by omega)]; rfl
theorem loop_gcd {c : M Bool} {body : M Fl} (hc : ∀ a b : Nat, c [some (.int a), some (.int b)] = some (.ok (!decide (b = 0)), [some (.int a), some (.int b)])) (hb : ∀ a b : Nat, b ≠ 0 → body [some (.int a), some (.int b)] = some (.ok .nx, [some (.int b), some (.int ((a % b : Nat) : Int))])) :
    ∀ (n a b : Nat), b < n → whileM c body n [some (.int a), some (.int b)] = some (.ok .nx, [some (.int (Nat.gcd a b)), some (.int 0)])
  | 0, a, b, h => by omega
  | n + 1, a, b, h => by
    unfold whileM
    by_cases z : b = 0
    · subst z
      have h0 : c [some (.int a), some (.int 0)] = some (.ok false, [some (.int a), some (.int 0)]) := by simpa using hc a 0
      simp [h0]
    · have hlt : a % b < n := by
        have := Nat.mod_lt a (Nat.pos_of_ne_zero z)
        omega
      have ih := loop_gcd hc hb n b (a % b) hlt
      have hg : Nat.gcd b (a % b) = Nat.gcd a b := by rw [Nat.gcd_comm, ← Nat.gcd_rec, Nat.gcd_comm]
      rw [hg] at ih
      simp [hc, z, hb _ _ z, loopF]
      simpa using ih
theorem abs_nat (i : Int) : (if i < 0 then -i else i) = (i.natAbs : Int) := by split <;> omega
open PySem.Spec PyProof.Rows in
theorem shown_pair {i j : Int} (hi : i.natAbs < digLim) (hj : j.natAbs < digLim) : (PyData.shown (.tuple [.int i, .int j])).length ≤ 1000000 := by
  have e : PyData.shown (.tuple [.int i, .int j]) = tupleText [Str.ofString (toString i), Str.ofString (toString j)] := rfl
  rw [e]
  unfold tupleText
  rw [strLen_append, strLen_append]
  have e2 : Str.join ", " [Str.ofString (toString i), Str.ofString (toString j)] = Str.ofString (toString i) ++ Str.ofString ", " ++ Str.ofString (toString j) := rfl
  rw [e2, strLen_append, strLen_append]
  have h1 : (Str.ofString (toString i)).length ≤ 4301 := by rw [PySem.ofString_length]; exact int_text_length_le10 (k := 4300) (by decide) hi
  have h2 : (Str.ofString (toString j)).length ≤ 4301 := by rw [PySem.ofString_length]; exact int_text_length_le10 (k := 4300) (by decide) hj
  have a1 : (Str.ofString "(").length = 1 := rfl
  have a2 : (Str.ofString ", ").length = 2 := rfl
  have a3 : (Str.ofString (if ([Str.ofString (toString i), Str.ofString (toString j)].length == 1) = true then ",)" else ")")).length = 1 := rfl
  clear hi hj
  omega
open PySem.Spec PyProof.Rows in
theorem repr_pair {i j : Int} (hi : i.natAbs < digLim) (hj : j.natAbs < digLim) : reprD [.tup [.int i, .int j]] = some (.str (PyData.shown (.tuple [.int i, .int j]))) := by
  have e : py (.tup [.int i, .int j]) = some (.tuple [.int i, .int j]) := by simp [py, pys]
  have k1 : okB (.tuple [.int i, .int j]) = true := by simp [okB, okBs, hi, hj]
  have k2 : PyData.depth (.tuple [.int i, .int j]) ≤ 64 := by simp [PyData.depth, PyData.depthAll]
  simp only [reprD, e]
  rw [if_pos ⟨k1, shown_pair hi hj, k2⟩]
theorem forM_inv {tgt : D → M Fl} {b : M Fl} (I : Nat → En → Prop) : ∀ (items : List D) (k : Nat) (ρ : En), (∀ i d ρ, items[i]? = some d → I (k + i) ρ → ∃ ρ1 ρ2 f, tgt d ρ = some (.ok .nx, ρ1) ∧ b ρ1 = some (.ok f, ρ2) ∧ (f = .nx ∨ f = .ct) ∧ I (k + i + 1) ρ2) → I k ρ →
    ∃ ρ', forM tgt b items ρ = some (.ok .nx, ρ') ∧ I (k + items.length) ρ'
  | [], k, ρ, _, h => ⟨ρ, rfl, h⟩
  | d :: ds, k, ρ, step, h => by
    obtain ⟨ρ1, ρ2, f, h1, h2, hf, h3⟩ := step 0 d ρ rfl h
    obtain ⟨ρ', e, h4⟩ := forM_inv I ds (k + 1) ρ2 (fun i d' ρ hd hi => by
      have := step (i + 1) d' ρ (by simpa using hd) (by rw [show k + (i + 1) = k + 1 + i by omega]; exact hi)
      rw [show k + (i + 1) + 1 = k + 1 + i + 1 by omega] at this
      exact this) (by rw [Nat.add_zero] at h3; exact h3)
    refine ⟨ρ', ?_, by rw [List.length_cons, show k + (ds.length + 1) = k + 1 + ds.length by omega]; exact h4⟩
    show bnd (tgt d) (fun _ => bnd b (loopF (forM tgt b ds))) ρ = _
    rcases hf with rfl | rfl <;> simp [h1, h2, loopF, e]
theorem s_nePair (a b c d : Int) : neD (.tup [.int a, .int b]) (.tup [.int c, .int d]) = some (.bl (!(decide (a = c) && decide (b = d)))) := by
  have e : ∀ i j : Int, py (.tup [.int i, .int j]) = some (.tuple [.int i, .int j]) := fun i j => by simp [py, pys]
  have k : ∀ i j : Int, SeqAt.shaped (.tuple [.int i, .int j]) = true := fun i j => rfl
  simp only [neD, eqP, e, k, and_self, if_true, Option.map_some, PyData.eqv, PyData.eqvAll, Bool.and_true]
  rw [decide_eq_beq, decide_eq_beq]
theorem s_eqPair (a b c d : Int) : eqD (.tup [.int a, .int b]) (.tup [.int c, .int d]) = some (.bl (decide (a = c) && decide (b = d))) := by
  have e : ∀ i j : Int, py (.tup [.int i, .int j]) = some (.tuple [.int i, .int j]) := fun i j => by simp [py, pys]
  have k : ∀ i j : Int, SeqAt.shaped (.tuple [.int i, .int j]) = true := fun i j => rfl
  simp only [eqD, eqP, e, k, and_self, if_true, Option.map_some, PyData.eqv, PyData.eqvAll, Bool.and_true]
  rw [decide_eq_beq, decide_eq_beq]
theorem bits10 : Builtin.Int.intBits 10 = 4 := by decide +kernel
end G

namespace G
open PySem PySem.Spec PyProof.Rows L2
theorem exm_own {K : PySem.W.Frag} {S : Addr} (h1 : PySem.W.subIn K (.ref S) (.type "BaseException") = some true) (h2 : PySem.W.isClsIn K S = true) (h3 : PySem.W.typeIn K (.ref S) = some (.type "type")) (h4 : PySem.W.subIn K (.ref S) (.ref S) = some true) :
    PySem.W.exmOne K (.ref S) (.ref S) = some true := by
  have e1 : (PySem.W.subIn K (.ref S) (.type "BaseException") == some true) = true := by rw [h1] <;> rfl
  have e2 : ((PySem.W.clsIn K S).isSome && PySem.W.typeIn K (.ref S) == some (.type "type")) = true := by
    have h2' : (PySem.W.clsIn K S).isSome = true := h2
    rw [h2', h3] <;> rfl
  show (if (PySem.W.subIn K (.ref S) (.type "BaseException") == some true) = true then (if ((PySem.W.clsIn K S).isSome && PySem.W.typeIn K (.ref S) == some (.type "type")) = true then PySem.W.subIn K (.ref S) (.ref S) else none) else none) = some true
  rw [if_pos e1, if_pos e2]
  exact h4
/-- an own class of errors under ValueError, nothing in it -/
structure Xc (K : PySem.W.Frag) (mg : Str → Option Value) (c : Str) : Prop where
  ex : ∃ C : Addr, mg c = some (.ref C) ∧ PySem.W.excIn K C [.type "ValueError", .type "Exception", .type "BaseException", .type "object"] "ValueError.__new__" = true ∧ PySem.W.keepIn K (.ref C) = true ∧
    PySem.W.subIn K (.ref C) (.type "BaseException") = some true ∧ PySem.W.typeIn K (.ref C) = some (.type "type") ∧ PySem.W.exmOne K (.ref C) (.ref C) = some true
section
variable {X : Cx} {W : WX} {q : Bool} {P : Nat → Bool}
theorem psm_raiseX {c m : Str} {j : Nat} {p p2 pos pos' : Pos} (x : Xc X.K X.mg c) (hc : X.calm = true) (tk : Takes X W) (hg : Gl X c) (hdb : (c == ("__debug__" : Str)) = false := by decide) :
    PSM X W P (.Raise (some (.Call (.Name c p) [.Constant (.str m) j p2] [] pos)) none pos') (raiseM c) := by
  obtain ⟨C, h1, h2, h3, h4, h5, h6⟩ := x.ex
  exact psm_raise h1 hc tk (pmk_own PySem.F.excBase_ValueError h2 h1 h3 (raises_own h4 h5) hg hdb)
theorem psm_tryX {c : Str} {body suite : List Stmt} {b₀ : Stmt} {np pos pos' : Pos} {b s : M Fl} (x : Xc X.K X.mg c) (hs : X.stack = X.env :: X.outer) (hf : X.env.frame = some X.env.locals) (hg : Gl X c) (tk : Takes X W)
    (hb : ∀ (W' : WX) (pn : List (Addr × Obj)) (xe : Value → Shared → Prop), Takes (X.tr pn xe) W' → PassesOwn (model X.prog X.w) X.A X.env xe → PSsM (X.tr pn xe) W' P body b)
    (hsu : ∀ (a : Addr) (oe : Obj) (pn : List (Addr × Obj)), PSsM (X.suite a ((a, oe) :: pn)) W0 P (b₀ :: suite) s) (hdb : (c == ("__debug__" : Str)) = false := by decide) :
    PSM X W P (.Try body [.ExceptHandler (some (.Name c np)) none (b₀ :: suite) pos'] [] [] pos) (tryM c [] b s) := by
  obtain ⟨C, h1, h2, h3, h4, h5, h6⟩ := x.ex
  exact psm_try hs hf ⟨hg, hdb, .inl h1⟩ tk h1 h6 (fun n z => by cases z) hb fun a oe cls d pn _ _ => hsu a oe pn
theorem pem_dict0 {pos : Pos} : PEM X W true (.Dict [] [] pos) (rt (.dk false [] [])) :=
  pe_imp pe_dnewK fun σ H Q h => by
    obtain ⟨B, F, ρ, fp, r0, ρ', E, hm, post⟩ := h
    obtain ⟨e1, e2⟩ := rt_some hm
    subst e1 e2
    exact fun p hp => post (upd B p (.dK [])) (upd H p (.dK [])) fp (.ref p) (Ext.obj E.bh hp _).bb (E.ext (Ext.obj E.bh hp _)) ⟨p, [], rfl, upd_same, rfl, rfl⟩ fun _ => ⟨rfl, rfl, Ext.obj E.bh hp _⟩
/-- {'x': c}, c a constant -/
theorem pem_dict1 {x : Str} {j : Nat} {p1 pos : Pos} {e : Expr} {v : V} {d : D} (he : PE X e (tC v)) (hr : ∀ B, RepF X.K B d v := by intro B; rfl) : PEM X W true (.Dict [some (.Constant (.str x) j p1)] [e] pos) (rt (.dk false [.inr x] [d])) :=
  pe_imp (pe_disp (pps_cons pe_str he pps_nil) (by rfl) (by rfl) (fun z => by cases z) (Nat.le_add_left 1 14)) fun σ H Q h => by
    obtain ⟨B, F, ρ, fp, r0, ρ', E, hm, post⟩ := h
    obtain ⟨e1, e2⟩ := rt_some hm
    subst e1 e2
    refine fun p hp => ⟨upd_same, [(.inr x, v)], rfl, Nat.le_add_left 1 14, ?_⟩
    rw [upd_upd]
    exact post (upd B p (.dK [(.inr x, v)])) _ fp (.ref p) (Ext.obj E.bh hp _).bb (E.ext (Ext.obj E.bh hp _)) ⟨p, [(.inr x, v)], rfl, upd_same, rfl, RepsF.cons (hr _) RepsF.nil⟩ fun _ => ⟨rfl, rfl, Ext.obj E.bh hp _⟩
end
@[simp] theorem s_raise (c : Str) (ρ : En) : raiseM c ρ = some (.error ⟨c, []⟩, ρ) := rfl
theorem s_try_ok {c : Str} {known : List Str} {b s : M Fl} {ρ ρ' : En} {f : Fl} (h : b ρ = some (.ok f, ρ')) : tryM c known b s ρ = some (.ok f, ρ') := by
  unfold tryM; rw [h]
theorem s_try_err {c : Str} {known : List Str} {b s : M Fl} {ρ ρ' ρ2 : En} {x : Xn} {f : Fl} (h : b ρ = some (.error x, ρ')) (hx : x.cls = c) (h2 : s ρ' = some (.ok f, ρ2)) : tryM c known b s ρ = some (.ok f, ρ2) := by
  unfold tryM; rw [h]; simp only; rw [if_pos hx, h2]
@[simp] theorem s_i_non_int : isiD .non (.ty "int") = some (.bl false) := rfl
@[simp] theorem s_i_non_bool : isiD .non (.ty "bool") = some (.bl false) := rfl
@[simp] theorem s_i_non_str : isiD .non (.ty "str") = some (.bl false) := rfl
@[simp] theorem s_i_non_tuple : isiD .non (.ty "tuple") = some (.bl false) := rfl
@[simp] theorem s_i_non_list : isiD .non (.ty "list") = some (.bl false) := rfl
@[simp] theorem s_i_non_dict : isiD .non (.ty "dict") = some (.bl false) := rfl
@[simp] theorem s_i_bl_int (b : Bool) : isiD (.bl b) (.ty "int") = some (.bl true) := rfl
@[simp] theorem s_i_bl_bool (b : Bool) : isiD (.bl b) (.ty "bool") = some (.bl true) := rfl
@[simp] theorem s_i_bl_str (b : Bool) : isiD (.bl b) (.ty "str") = some (.bl false) := rfl
@[simp] theorem s_i_bl_tuple (b : Bool) : isiD (.bl b) (.ty "tuple") = some (.bl false) := rfl
@[simp] theorem s_i_bl_list (b : Bool) : isiD (.bl b) (.ty "list") = some (.bl false) := rfl
@[simp] theorem s_i_bl_dict (b : Bool) : isiD (.bl b) (.ty "dict") = some (.bl false) := rfl
@[simp] theorem s_i_int_str (i : Int) : isiD (.int i) (.ty "str") = some (.bl false) := rfl
@[simp] theorem s_i_int_tuple (i : Int) : isiD (.int i) (.ty "tuple") = some (.bl false) := rfl
@[simp] theorem s_i_int_list (i : Int) : isiD (.int i) (.ty "list") = some (.bl false) := rfl
@[simp] theorem s_i_int_dict (i : Int) : isiD (.int i) (.ty "dict") = some (.bl false) := rfl
@[simp] theorem s_i_str_int (x : Str) : isiD (.str x) (.ty "int") = some (.bl false) := rfl
@[simp] theorem s_i_str_bool (x : Str) : isiD (.str x) (.ty "bool") = some (.bl false) := rfl
@[simp] theorem s_i_str_str (x : Str) : isiD (.str x) (.ty "str") = some (.bl true) := rfl
@[simp] theorem s_i_str_tuple (x : Str) : isiD (.str x) (.ty "tuple") = some (.bl false) := rfl
@[simp] theorem s_i_str_list (x : Str) : isiD (.str x) (.ty "list") = some (.bl false) := rfl
@[simp] theorem s_i_str_dict (x : Str) : isiD (.str x) (.ty "dict") = some (.bl false) := rfl
@[simp] theorem s_i_tup_int (ds : List D) : isiD (.tup ds) (.ty "int") = some (.bl false) := rfl
@[simp] theorem s_i_tup_bool (ds : List D) : isiD (.tup ds) (.ty "bool") = some (.bl false) := rfl
@[simp] theorem s_i_tup_str (ds : List D) : isiD (.tup ds) (.ty "str") = some (.bl false) := rfl
@[simp] theorem s_i_tup_list (ds : List D) : isiD (.tup ds) (.ty "list") = some (.bl false) := rfl
@[simp] theorem s_i_tup_dict (ds : List D) : isiD (.tup ds) (.ty "dict") = some (.bl false) := rfl
@[simp] theorem s_i_lst_int (ds : List D) : isiD (.lst false ds) (.ty "int") = some (.bl false) := rfl
@[simp] theorem s_i_lst_bool (ds : List D) : isiD (.lst false ds) (.ty "bool") = some (.bl false) := rfl
@[simp] theorem s_i_lst_str (ds : List D) : isiD (.lst false ds) (.ty "str") = some (.bl false) := rfl
@[simp] theorem s_i_lst_tuple (ds : List D) : isiD (.lst false ds) (.ty "tuple") = some (.bl false) := rfl
@[simp] theorem s_i_lst_list (ds : List D) : isiD (.lst false ds) (.ty "list") = some (.bl true) := rfl
@[simp] theorem s_i_lst_dict (ds : List D) : isiD (.lst false ds) (.ty "dict") = some (.bl false) := rfl
@[simp] theorem s_i_dk_int (ks : List Key) (ds : List D) : isiD (.dk false ks ds) (.ty "int") = some (.bl false) := rfl
@[simp] theorem s_i_dk_bool (ks : List Key) (ds : List D) : isiD (.dk false ks ds) (.ty "bool") = some (.bl false) := rfl
@[simp] theorem s_i_dk_str (ks : List Key) (ds : List D) : isiD (.dk false ks ds) (.ty "str") = some (.bl false) := rfl
@[simp] theorem s_i_dk_tuple (ks : List Key) (ds : List D) : isiD (.dk false ks ds) (.ty "tuple") = some (.bl false) := rfl
@[simp] theorem s_i_dk_list (ks : List Key) (ds : List D) : isiD (.dk false ks ds) (.ty "list") = some (.bl false) := rfl
@[simp] theorem s_i_dk_dict (ks : List Key) (ds : List D) : isiD (.dk false ks ds) (.ty "dict") = some (.bl true) := rfl
@[simp] theorem s_i_sq_int (ds : List D) : isiD (.sq ds) (.ty "int") = some (.bl false) := rfl
@[simp] theorem s_i_sq_bool (ds : List D) : isiD (.sq ds) (.ty "bool") = some (.bl false) := rfl
@[simp] theorem s_i_sq_str (ds : List D) : isiD (.sq ds) (.ty "str") = some (.bl false) := rfl
@[simp] theorem s_i_sq_tuple (ds : List D) : isiD (.sq ds) (.ty "tuple") = some (.bl false) := rfl
@[simp] theorem s_i_sq_list (ds : List D) : isiD (.sq ds) (.ty "list") = some (.bl true) := rfl
@[simp] theorem s_i_sq_dict (ds : List D) : isiD (.sq ds) (.ty "dict") = some (.bl false) := rfl
@[simp] theorem s_try (c : Str) (known : List Str) (b s : M Fl) (ρ : En) : tryM c known b s ρ = match b ρ with
  | some (.error x, ρ') => if x.cls = c then (match s ρ' with
      | some (.ok f, ρ2) => some (.ok f, ρ2)
      | _ => none)
    else if x.cls ∈ known then some (.error x, ρ') else none
  | r => r := rfl
@[simp] theorem s_isF_dk (ks : List Key) (ds : List D) : isF (.dk false ks ds) = isFs ds := by simp [isF]
theorem s_neL (a b c d : Int) : neD (.lst false [.tup [.int a, .int b]]) (.lst false [.tup [.int c, .int d]]) = some (.bl (!(decide (a = c) && decide (b = d)))) := by
  have e : ∀ i j : Int, py (.lst false [.tup [.int i, .int j]]) = some (.list [.tuple [.int i, .int j]]) := fun i j => by simp [py, pys]
  have k : ∀ i j : Int, SeqAt.shaped (.list [.tuple [.int i, .int j]]) = true := fun i j => rfl
  simp only [neD, eqP, e, k, and_self, if_true, Option.map_some, PyData.eqv, PyData.eqvAll, Bool.and_true]
  rw [decide_eq_beq, decide_eq_beq]
end G

namespace PySem
open AutoSeq1 (wpAny_loadPart')
theorem enumNewT (l : Addr) (items : Array Value) (n : Nat) (dct : Option Addr) (sl : Array (Option Value)) :
    Meets (Builtin.«enumerate.__new__» ⟨[.type "enumerate", .ref l], []⟩) (fun _ R s => s.heap.get? l = some { cls := .type "tuple", dict := dct, data := .seq items n, slots := sl } ∧
      R (.ok (.ret (.ref (s.heap.push { cls := .type "tuple_iterator", data := .fields #[.ref l, .int 0 0] }).objs.size)))
        { s with heap := (s.heap.push { cls := .type "tuple_iterator", data := .fields #[.ref l, .int 0 0] }).push { cls := .type "enumerate", data := .fields #[.none, .bool false, .ref s.heap.objs.size, rawInt 0, .none, .none] } }) :=
  .of_wp fun prog w A R s h => by
    obtain ⟨hp, g, d, tk, os⟩ := s
    obtain ⟨hl, h⟩ := h
    have hsub := sub_enumerate
    have hT : Heap.IsTuple (Shared.heap ⟨hp, g, d, tk, os⟩) l items := ⟨_, hl, rfl, n, rfl⟩
    wp_walk using wpAny_loadPart' hl
    refine wpAny_stack_any fun st => wpAny_pure ?_
    split
    · rename_i c _ _ _ _ _
      cases (c == Value.type "enumerate") <;> (wp_walk using wpAny_loadPart' hl, wpAny_pyIter_tuple hT) <;> exact ⟨_, rfl, h⟩
    · (wp_walk using wpAny_loadPart' hl, wpAny_pyIter_tuple hT) <;> exact ⟨_, rfl, h⟩
theorem call_enumT {prog : Program} {w : World} {A : Around} {E : Value → Shared → Prop} {s : Shared} {l : Addr} {items : Array Value} {Q : Value → Shared → Prop} (hL : s.heap.IsTuple l items)
    (h : ∀ h', IsEnum h' (s.heap.objs.size + 1) s.heap.objs.size 0 .none → h'.IsTupleIter s.heap.objs.size l 0 → (∀ b o, s.heap.get? b = some o → h'.get? b = some o) → Q (.ref (s.heap.objs.size + 1)) { s with heap := h' }) :
    wpAny (model prog w) A (call (.type "enumerate") [.ref l]) Q E s := by
  obtain ⟨⟨c, dct, dt, sl⟩, hl, hc, n, hd⟩ := hL
  have hc' : c = .type "tuple" := hc
  have hd' : dt = .seq items n := hd
  subst hc' hd'
  refine callType_new F.called_enumerate (by decide) (F.typeCall_enumerate_1 _) (F.newCall_enumerate_1 _) (fun obj => F.args_object_init_2 obj _) F.entry_enumerate_new (enumNewT l items n dct sl) ⟨hl, ?_⟩
  have hz : (s.heap.push { cls := .type "tuple_iterator", data := .fields #[.ref l, .int 0 0] }).objs.size = s.heap.objs.size + 1 := Heap.size_push ..
  show _ ∧ _
  rw [hz]
  have he : IsEnum ((s.heap.push { cls := .type "tuple_iterator", data := .fields #[.ref l, .int 0 0] }).push
      { cls := .type "enumerate", data := .fields #[.none, .bool false, .ref s.heap.objs.size, rawInt 0, .none, .none] }) (s.heap.objs.size + 1) s.heap.objs.size 0 .none := by
    have q := Heap.get?_push_size (s.heap.push { cls := .type "tuple_iterator", data := .fields #[.ref l, .int 0 0] })
      (o := { cls := .type "enumerate", data := .fields #[.none, .bool false, .ref s.heap.objs.size, rawInt 0, .none, .none] }) rfl
    rw [hz] at q
    exact q
  exact ⟨⟨_, he, rfl⟩, h _ he ⟨_, Heap.get?_push_of_some _ (Heap.get?_push_size _ rfl), rfl, rfl⟩ fun b o x => Heap.get?_push_of_some _ (Heap.get?_push_of_some _ x)⟩
theorem enumT_end {prog : Program} {w : World} {A : Around} {E : Value → Shared → Prop} {s : Shared} {e it t : Addr} {i : Nat} {k : Int} {items : Array Value} {old : Value} {Q : Option Value → Shared → Prop} (hh : A.handled = none)
    (he : IsEnum s.heap e it k old) (hit : s.heap.IsTupleIter it t i) (ht : s.heap.IsTuple t items) (hx : items[i]? = none) (hQ : ∀ h', Heap.ExtBut it s.heap h' → Q none { s with heap := h' }) : wpAny (model prog w) A (pyNext (.ref e)) Q E s := by
  have ty : s.TypeIs (.ref e) "enumerate" := ⟨_, he, rfl⟩
  unfold pyNext
  refine wpAny_bind (wpAny_attempt (wpAny_callSpecial?_slot (name := Str.ofString "__next__") ty F.slot_enumerate_next (wpAny_call_entry F.slot_enumerate_next ty F.entry_enumerate_next ?_ (F.args_enumerate_next_1 _))))
  show wpAny _ _ (field (.ref e) 2 >>= fun _ => _) _ _ _
  refine wpAny_bind (wpAny_field he rfl (x := .ref it) rfl (wpAny_bind (wpAny_nextOf_tuple_end hh hit ht hx fun h' y ext ⟨o, ho, hc⟩ => ?_)))
  exact wpAny_bind (wpAny_isInstance (T := "StopIteration") (b := true) ⟨o, ho, hc⟩ isSubtype_stop (wpAny_pure (hQ h' ext)))
end PySem
namespace G
open PySem PySem.Spec PyProof.Rows L2
/-- the tuple at a, each item in a new pair with its place -/
def Itet (K : PySem.W.Frag) (a : Addr) : It :=
  ⟨fun i H => ∃ (xs : List V) (x : V), SqT K H a xs ∧ xs[i]? = some x, fun i H v H' => ∃ T x, v = .ref T ∧ H T = none ∧ H' = upd H T (.tup [.int (i : Nat), x]) ∧ ∀ xs, SqT K H a xs → xs[i]? = some x, fun i H => ∃ xs : List V, SqT K H a xs ∧ xs.length ≤ i⟩
theorem turn_enumT {P : Program} {w : World} {K : PySem.W.Frag} {elts : List Expr} {kk : Nat} {tpos : Pos} (a e it : Addr) :
    Turn P w K (.Tuple elts kk tpos) (Itet K a) [e, it] e (fun i h => (∃ old, IsEnum h e it ((i : Nat) : Int) old) ∧ h.IsTupleIter it a i ∧ e ≠ it ∧ a ≠ it ∧ a ≠ e) where
  mem := by simp
  obj := fun i h st b hb => by
    obtain ⟨⟨old, he⟩, ⟨o, ho, hc, hd⟩, _⟩ := st
    have q : b = e ∨ b = it := by simpa using hb
    rcases q with rfl | rfl
    · exact ⟨_, he, fun v z => nomatch z⟩
    · exact ⟨o, ho, fun v z => by rw [hd] at z; cases z⟩
  keep := fun i h h' st k => by
    obtain ⟨⟨old, he⟩, hi, hne⟩ := st
    exact ⟨⟨old, k e (by simp) _ he⟩, hi.at fun o q => k it (by simp) o q, hne⟩
  item := by
    intro X hP hw hK hc i pins s σ H E I hf st hg
    subst hP hw hK
    obtain ⟨⟨old, he⟩, hit, hne, hai, hae⟩ := st
    obtain ⟨xs, x, hq, hx⟩ := hg
    obtain ⟨its, rv, p, hz⟩ := I.tuple hq
    obtain ⟨u, hu, ru⟩ := rv.get hx
    have hel : e < s.heap.objs.size := Heap.lt_size he
    have hil : it < s.heap.objs.size := by obtain ⟨_, q, _⟩ := hit; exact Heap.lt_size q
    have hu' : its.toArray[i]? = some u := by simpa using hu
    have hlt : i < its.toArray.size := by
      rcases Nat.lt_or_ge i its.toArray.size with q | q
      · exact q
      · rw [Array.getElem?_eq_none q] at hu'; cases hu'
    have Dr := Draws.tuple (prog := X.prog) (w := X.w) (A := X.A.in1) (I.ok.hd hc) it a hai its.toArray
    refine wpAny_pyNext_enum_itemD Dr he ⟨hit, show s.heap.IsTuple a its.toArray from p⟩ hlt hne (by simp [hne, Ne.symm hae]) fun y h' tk hy ho hit' hT hsz hk => ?_
    have ey : y = u := by rw [hu'] at hy; exact (Option.some.inj hy).symm
    subst ey
    refine ⟨_, rfl, wpAny_letOwnedTupleGo_enum (s := { s with heap := h', toks := tk + 1 }) ho fun h'' he' sb => ?_⟩
    have hT2 : h''.get? s.heap.objs.size = some { cls := .type "tuple", data := .seq #[.int i tk, y] } := (sb.2 _ (Nat.ne_of_gt hel)).trans hT
    have new : ObjOk X.prog X.w (upd H s.heap.objs.size (.tup [.int (i : Nat), x])) h'' s.heap.objs.size (.tup [.int (i : Nat), x]) :=
      ⟨by show 2 ≤ sizeLine; decide, [.int i tk, y], .cons ⟨_, rfl⟩ (.cons ru .nil), ⟨_, hT2, rfl, _, rfl⟩⟩
    have I1 : Inv X pins σ (upd H s.heap.objs.size (.tup [.int (i : Nat), x])) { s with heap := h'', toks := tk + 1 } :=
      I.turnedNew (ch := [e, it]) (fun b ob hb q => (sb.2 b (fun z => hb (by simp [z]))).trans (hk b ob (fun z => hb (by simp [z])) (fun z => hb (by simp [z])) q)) hf (Nat.le_refl _) new
    refine ⟨.ref s.heap.objs.size, _, I1, rfl, ⟨_, x, rfl, I.hok.fresh (Nat.le_refl _), rfl, fun ys hy => by rw [I.tuple_inj hy hq]; exact hx⟩, ⟨⟨y, ?_⟩, hit'.1.at fun o q => (sb.2 it (Ne.symm hne)).trans q, hne, hai, hae⟩, fun b hb => ?_⟩
    · have e1 : ((i + 1 : Nat) : Int) = (i : Int) + 1 := by omega
      rw [e1]
      exact he'
    · have hb' : b < s.heap.objs.size := by
        have q : b = e ∨ b = it := by simpa using hb
        rcases q with rfl | rfl
        · exact hel
        · exact hil
      rw [upd_ne (Nat.ne_of_lt hb')]
      exact (hf b hb).1
  done := by
    intro X hP hw hK hc i pins s σ H E I hf st hg
    subst hP hw hK
    obtain ⟨⟨old, he⟩, hit, hne, hai, hae⟩ := st
    obtain ⟨xs, hq, hx⟩ := hg
    obtain ⟨its, rv, p, hz⟩ := I.tuple hq
    obtain ⟨f0, f1, f2, f3, f4, f5⟩ := hf it (by simp)
    have hl := rv.length
    exact enumT_end (I.ok.hd hc) he hit (show s.heap.IsTuple a its.toArray from p) (by simp; omega) fun h' eb => ⟨rfl, I.turned (t' := s.toks) (fun b ob hb z => eb b ob hb z) f0 f1 f3 f4 f5⟩
  self := fun A i s Q E st h => let ⟨⟨_, he⟩, _⟩ := st; wpAny_pyIter_enum he h
def iEnumT (K : PySem.W.Frag) (ta : TA) : TI := fun σ H R => ta σ H fun vs H1 => ∃ a xs, vs = [.ref a] ∧ SqT K H1 a xs ∧ R (Itet K a) H1
theorem pi_enumT {X : Cx} {e : Expr} {ta : TA} {p pos tpos : Pos} {elts : List Expr} {kk : Nat} (hg : Gl X "enumerate") (hm : X.mg "enumerate" = none) (ha : PA X [e] ta) (hs : starEach [e] X.env = [(false, eval e X.env)] := by rfl) :
    PI X (.Tuple elts kk tpos) (.Call (.Name "enumerate" p) [e] [] pos) (iEnumT X.K ta) := by
  refine ⟨fun pins s σ H R I h => ?_⟩
  refine Call_ (ld_blt I hg hm boot_enumerate (PyProof.Rows.callWith_type1 (thn (ha.run pos pins s σ H _ I h) fun us s1 hh => ?_) hs rfl))
  obtain ⟨vs, H1, I1, r1, a, xs, rfl, hq, q⟩ := hh
  obtain ⟨u, rfl, ru⟩ := vals1 r1
  obtain rfl : u = Value.ref a := ru
  obtain ⟨its, rv, p', hz⟩ := I1.tuple hq
  have hal : a < s1.heap.objs.size := by obtain ⟨_, z, _⟩ := p'; exact Heap.lt_size z
  refine call_enumT (show s1.heap.IsTuple a its.toArray from p') fun h' he hit hk => wpAny_pyIter_enum he ?_
  have I2 : Inv X pins σ H1 { s1 with heap := h' } := I1.kept (t' := s1.toks) hk
  refine ⟨s1.heap.objs.size + 1, [s1.heap.objs.size + 1, s1.heap.objs.size], _, _, H1, rfl, I2, turn_enumT a (s1.heap.objs.size + 1) s1.heap.objs.size, ⟨⟨.none, he⟩, hit, Nat.succ_ne_self _, Nat.ne_of_lt hal, Nat.ne_of_lt (Nat.lt_succ_of_lt hal)⟩, fun b hb => ?_, q⟩
  have hle : s1.heap.objs.size ≤ b := by
    have z : b = s1.heap.objs.size + 1 ∨ b = s1.heap.objs.size := by simpa using hb
    rcases z with z | z
    · rw [z]; exact Nat.le_succ _
    · rw [z]; exact Nat.le_refl _
  exact I1.fpOk hle (I1.hok.fresh hle)
theorem walks_eT {K : PySem.W.Frag} {B : Hp} {a : Addr} {ds : List D} {xs : List V} (h : SqT K B a xs) (r : RepsF K B ds xs) : WalksD K (Itet K a) B (enumD 0 ds) := fun B2 H sb sh i => by
  have hl := r.length
  have hq := sqT_mono sh (sqT_mono sb h)
  refine ⟨fun d e => ?_, fun hi => ⟨xs, hq, by rw [enumD_len] at hi; omega⟩⟩
  rw [enumD_get, Nat.zero_add] at e
  obtain ⟨d', hd, rfl⟩ := Option.map_eq_some_iff.mp e
  obtain ⟨x, hx, rx⟩ := Reps.get r hd
  refine ⟨⟨xs, x, hq, hx⟩, fun v H' hy => ?_⟩
  obtain ⟨T, x', rfl, hT, rfl, hy⟩ := hy
  have := hy xs hq
  rw [hx] at this
  cases this
  exact ⟨upd B2 T (.tup [.int (i : Nat), x]), Ext.obj sh hT _, repT sh (RepsF.cons (show RepF K B2 (.int (i : Nat)) (.int (i : Nat)) from rfl) (RepsF.cons (RepF.mono sb rx) RepsF.nil)) T hT⟩
def enumT1 : List D → Option (List D)
  | [.tup ds] => some (enumD 0 ds)
  | _ => none
theorem pim_enumT {X : Cx} {W : WX} {q : Bool} {e : Expr} {m : M (List D)} {p pos tpos : Pos} {elts : List Expr} {kk : Nat} (hg : Gl X "enumerate") (hm : X.mg "enumerate" = none) (ha : PAM X W q [e] m) (hs : starEach [e] X.env = [(false, eval e X.env)] := by rfl) :
    PIM X W q (.Tuple elts kk tpos) (.Call (.Name "enumerate" p) [e] [] pos) (iRng enumT1 m) :=
  pi_imp (pi_enumT hg hm ha hs) fun σ H R h => can_I h fun a ds B H1 w e sh rl k => by
    match a, rl, e with
    | [.tup ds'], ⟨v, vs, e1, rv, e2⟩, e =>
      subst e1
      rw [show vs = [] from e2]
      cases e
      obtain ⟨a, xs, rfl, q, r⟩ := rv
      exact ⟨a, xs, rfl, sqT_mono sh q, k _ (walks_eT q (RepsF.of r))⟩
    | [], _, e => cases e
    | _ :: _ :: _, _, e => simp [enumT1] at e
    | [.top], _, e => cases e
    | [.drw _ _ _], _, e => cases e
    | [.non], _, e => cases e
    | [.bl _], _, e => cases e
    | [.int _], _, e => cases e
    | [.str _], _, e => cases e
    | [.ty _], _, e => cases e
    | [.sq _], _, e => cases e
    | [.lst _ _], _, e => cases e
    | [.dk _ _ _], _, e => cases e
    | [.dt _ _ _], _, e => cases e
    | [.exc _ _ _ _], _, e => cases e
def enumA : List D → Option (List D)
  | [.tup ds] => some (enumD 0 ds)
  | [.lst false ds] => some (enumD 0 ds)
  | [.sq ds] => some (enumD 0 ds)
  | _ => none
theorem pim_enumA {X : Cx} {W : WX} {q : Bool} {e : Expr} {m : M (List D)} {p pos tpos : Pos} {elts : List Expr} {kk : Nat} (hg : Gl X "enumerate") (hm : X.mg "enumerate" = none) (ha : PAM X W q [e] m) (hs : starEach [e] X.env = [(false, eval e X.env)] := by rfl) :
    PIM X W q (.Tuple elts kk tpos) (.Call (.Name "enumerate" p) [e] [] pos) (iRng enumA m) :=
  pi_imp (pi_or (pi_enum hg hm ha hs) (pi_enumT hg hm ha hs)) fun σ H R hc => by
    obtain ⟨B, F, ρ, fp, r, ρ', E, hm, post⟩ := hc
    unfold iRng bnd at hm
    cases e1 : m ρ with
    | none => rw [e1] at hm; cases hm
    | some p =>
      obtain ⟨r1, ρ1⟩ := p
      rw [e1] at hm
      cases r1 with
      | error x =>
        cases hm
        exact .inl ⟨B, F, ρ, fp, _, _, E, e1, post⟩
      | ok ds =>
        have hm : ofO (enumA ds) ρ1 = some (r, ρ') := hm
        obtain ⟨es, e2, e3, e4⟩ := ofO_some hm
        subst e3 e4
        unfold enumA at e2
        split at e2
        · cases e2
          refine .inr ⟨B, F, ρ, fp, _, _, E, e1, fun B' H' fp' w s E' rl qq => ?_⟩
          obtain ⟨v, vs, ew, ⟨a, xs, rfl, sq, rr⟩, e5⟩ := rl
          subst ew
          rw [show vs = [] from e5]
          exact ⟨a, xs, rfl, sqT_mono E'.bh sq, post B' H' fp' _ s E' (walks_eT sq (RepsF.of rr)) qq⟩
        · cases e2
          refine .inl ⟨B, F, ρ, fp, _, _, E, e1, fun B' H' fp' w s E' rl qq => ?_⟩
          obtain ⟨v, vs, ew, ⟨a, xs, rfl, sq, rr⟩, e5⟩ := rl
          subst ew
          rw [show vs = [] from e5]
          exact ⟨a, xs, rfl, sqL_mono E'.bh (sqL_of sq), post B' H' fp' _ s E' (walks_e (sqL_of sq) (RepsF.of rr)) qq⟩
        · cases e2
          refine .inl ⟨B, F, ρ, fp, _, _, E, e1, fun B' H' fp' w s E' rl qq => ?_⟩
          obtain ⟨v, vs, ew, ⟨a, xs, rfl, sq, rr⟩, e5⟩ := rl
          subst ew
          rw [show vs = [] from e5]
          exact ⟨a, xs, rfl, sqL_mono E'.bh sq, post B' H' fp' _ s E' (walks_e sq (RepsF.of rr)) qq⟩
        · cases e2
@[simp] theorem s_enumA1 (ds : List D) : enumA [.tup ds] = some (enumD 0 ds) := rfl
@[simp] theorem s_enumA2 (ds : List D) : enumA [.lst false ds] = some (enumD 0 ds) := rfl
@[simp] theorem s_enumA3 (ds : List D) : enumA [.sq ds] = some (enumD 0 ds) := rfl
section
variable {X : Cx} {W : WX} {q : Bool}
def andD : D → D → Option D
  | .int i, .int j => some (.int (Builtin.bitAnd i j))
  | _, _ => none
def xorD : D → D → Option D
  | .int i, .int j => some (.int (Builtin.bitXor i j))
  | _, _ => none
def orD : D → D → Option D
  | .int i, .int j => some (.int (Builtin.bitOr i j))
  | _, _ => none
def shrD : D → D → Option D
  | .int i, .int j => if 0 ≤ j then some (.int (i / 2 ^ j.toNat)) else none
  | _, _ => none
def shlD : D → D → Option D
  | .int i, .int j => if 0 ≤ j ∧ j ≤ 1000000 ∧ i.natAbs < 2 ^ 64 then some (.int (i * 2 ^ j.toNat)) else none
  | _, _ => none
theorem od_and : OpS X (binaryOp .BitAnd) andD := opS_int0 (hd := fun i j => .int (Builtin.bitAnd i j)) op_and (fun x y z e => by
    cases x <;> cases y <;> simp [andD] at e
    exact ⟨_, _, rfl, rfl, e.symm⟩) fun _ _ _ => rfl
theorem od_xor : OpS X (binaryOp .BitXor) xorD := opS_int0 (hd := fun i j => .int (Builtin.bitXor i j)) op_xor (fun x y z e => by
    cases x <;> cases y <;> simp [xorD] at e
    exact ⟨_, _, rfl, rfl, e.symm⟩) fun _ _ _ => rfl
theorem od_or : OpS X (binaryOp .BitOr) orD := opS_int0 (hd := fun i j => .int (Builtin.bitOr i j)) op_or (fun x y z e => by
    cases x <;> cases y <;> simp [orD] at e
    exact ⟨_, _, rfl, rfl, e.symm⟩) fun _ _ _ => rfl
theorem od_shr : OpS X (binaryOp .RShift) shrD := opS_int (C := fun _ j => 0 ≤ j) (hd := fun i j => .int (i / 2 ^ j.toNat)) op_shr (fun x y z e => by
    cases x <;> cases y <;> simp [shrD] at e
    exact ⟨_, _, rfl, rfl, e.1, e.2.symm⟩) fun _ _ _ => rfl
theorem od_shl : OpS X (binaryOp .LShift) shlD := opS_int (C := CPow) (hd := fun i j => .int (i * 2 ^ j.toNat)) op_shl (fun x y z e => by
    cases x <;> cases y <;> simp [shlD] at e
    exact ⟨_, _, rfl, rfl, e.1, e.2.symm⟩) fun _ _ _ => rfl
theorem s_shl (i j : Int) (h : 0 ≤ j ∧ j ≤ 1000000 ∧ i.natAbs < 2 ^ 64) : shlD (.int i) (.int j) = some (.int (i * 2 ^ j.toNat)) := if_pos h
@[simp] theorem s_and (i j : Int) : andD (.int i) (.int j) = some (.int (Builtin.bitAnd i j)) := rfl
@[simp] theorem s_xor (i j : Int) : xorD (.int i) (.int j) = some (.int (Builtin.bitXor i j)) := rfl
@[simp] theorem s_or (i j : Int) : orD (.int i) (.int j) = some (.int (Builtin.bitOr i j)) := rfl
theorem s_shr (i j : Int) (h : 0 ≤ j) : shrD (.int i) (.int j) = some (.int (i / 2 ^ j.toNat)) := if_pos h
structure Kc (K : PySem.W.Frag) (mg : Str → Option Value) (x : Str) (d : D) : Prop where
  ex : ∃ (u : Value) (v : V), mg x = some u ∧ RelV v u ∧ ∀ B, RepF K B d v
theorem pem_glob {x : Str} {d : D} {pos : Pos} (k : Kc X.K X.mg x d) (hg : Gl X x) (hd : (x == ("__debug__" : Str)) = false := by decide) : PEM X W true (.Name x pos) (rt d) := by
  obtain ⟨u, v, h1, h2, h3⟩ := k.ex
  exact pem_const (pe_glob hg h1 h2 hd) h3
theorem Kc.int {K : PySem.W.Frag} {mg : Str → Option Value} {x : Str} {i : Int} {t : Tok} (h : mg x = some (.int i t)) : Kc K mg x (.int i) := ⟨_, .int i, h, ⟨t, rfl⟩, fun _ => rfl⟩
theorem Kc.tup {K : PySem.W.Frag} {mg : Str → Option Value} {x : Str} {ds : List D} {vs : List V} {a : Addr} {dd : Option Addr} {its : List Value} {n : Nat} {sl : Array (Option Value)} (h : mg x = some (.ref a)) (hk : K.lookup a = some ⟨.type "tuple", dd, .seq its.toArray n, sl⟩)
    (hz : its.length ≤ 1000) (hv : Vals vs its) (hr : ∀ B, RepsF K B ds vs) : Kc K mg x (.tup ds) :=
  ⟨_, .ref a, h, rfl, fun B => ⟨a, vs, rfl, .inr ⟨_, its.toArray, n, hk, rfl, rfl, by rw [List.size_toArray]; exact Nat.le_of_lt (small1000 hz), by simpa using hv⟩, hr B⟩⟩
def vOf : D → Option V
  | .non => some .non
  | .bl b => some (.bl b)
  | .int i => some (.int i)
  | .str x => some (.str x)
  | _ => none
def vsOf : List D → Option (List V)
  | [] => some []
  | d :: ds => (vOf d).bind fun v => (vsOf ds).map (v :: ·)
theorem vOf_rep {K : PySem.W.Frag} {B : Hp} {d : D} {v x : V} (h : vOf d = some v) (r : RepF K B d x) : x = v ∧ flatV v = true := by
  cases d <;> simp [vOf] at h <;> subst h
  · exact ⟨show x = _ from r, rfl⟩
  · exact ⟨show x = _ from r, rfl⟩
  · exact ⟨show x = _ from r, rfl⟩
  · exact ⟨show x = _ from r, rfl⟩
theorem vsOf_rep {K : PySem.W.Frag} {B : Hp} : ∀ {ds : List D} {vs xs : List V}, vsOf ds = some vs → RepsF K B ds xs → xs = vs ∧ vs.all flatV = true
  | [], vs, xs, h, r => by simp [vsOf] at h; subst h; exact ⟨r, rfl⟩
  | d :: ds, vs, xs, h, ⟨x, xs', e, r, rs⟩ => by
    unfold vsOf at h
    obtain ⟨v, h1, h2⟩ := Option.bind_eq_some_iff.mp h
    obtain ⟨vs', h3, rfl⟩ := Option.map_eq_some_iff.mp h2
    obtain ⟨a1, a2⟩ := vOf_rep h1 r
    obtain ⟨b1, b2⟩ := vsOf_rep h3 rs
    exact ⟨by rw [e, a1, b1], by rw [List.all_cons, a2, b2]; rfl⟩
def seqOf : D → Option (List D)
  | .tup ds => some ds
  | .lst false ds => some ds
  | .sq ds => some ds
  | _ => none
/-- a flat value among flat values -/
def inD (x y : D) : Option Bool := (vOf x).bind fun v => (seqOf y).bind fun ds => (vsOf ds).map fun vs => inV v vs
def inB (x y : D) : Option D := (inD x y).map .bl
def ninB (x y : D) : Option D := (inD x y).map fun b => .bl (!b)
theorem inD_rep {B H : Hp} {x y : D} {u v : V} {b : Bool} (s : Same B H) (h : inD x y = some b) (rx : RepF X.K B x u) (ry : RepF X.K B y v) : ∃ p xs, v = .ref p ∧ (SqL X.K H p xs ∨ SqT X.K H p xs) ∧ flatV u = true ∧ xs.all flatV = true ∧ inV u xs = b := by
  obtain ⟨w, h1, h2⟩ := Option.bind_eq_some_iff.mp h
  obtain ⟨ds, h3, h4⟩ := Option.bind_eq_some_iff.mp h2
  obtain ⟨vs, h5, h6⟩ := Option.map_eq_some_iff.mp h4
  obtain ⟨rfl, fw⟩ := vOf_rep h1 rx
  unfold seqOf at h3
  split at h3
  · cases h3
    obtain ⟨p, xs, rfl, q, r⟩ := ry
    obtain ⟨rfl, fs⟩ := vsOf_rep h5 (RepsF.of r)
    exact ⟨p, _, rfl, .inr (sqT_mono s q), fw, fs, h6⟩
  · cases h3
    obtain ⟨p, xs, rfl, q, r⟩ := ry
    obtain ⟨rfl, fs⟩ := vsOf_rep h5 (RepsF.of r)
    exact ⟨p, _, rfl, .inl (sqL_mono s (sqL_of q)), fw, fs, h6⟩
  · cases h3
    obtain ⟨p, xs, rfl, q, r⟩ := ry
    obtain ⟨rfl, fs⟩ := vsOf_rep h5 (RepsF.of r)
    exact ⟨p, _, rfl, .inl (sqL_mono s q), fw, fs, h6⟩
  · cases h3
theorem od_in : OpS X (compareOp .In) inB := ⟨_, op_in_seq, fun B H x y z u v s rx ry e Q k => by
  obtain ⟨b, hb, rfl⟩ := Option.map_eq_some_iff.mp e
  obtain ⟨p, xs, e1, e2, e3, e4, e5⟩ := inD_rep s hb rx ry
  exact ⟨p, xs, e1, e2, e3, e4, k B H _ (Ext.refl s) (show (if false = true then V.bl (!inV u xs) else V.bl (inV u xs)) = V.bl b by rw [if_neg (by decide), e5])⟩⟩
theorem od_nin : OpS X (compareOp .NotIn) ninB := ⟨_, op_notIn_seq, fun B H x y z u v s rx ry e Q k => by
  obtain ⟨b, hb, rfl⟩ := Option.map_eq_some_iff.mp e
  obtain ⟨p, xs, e1, e2, e3, e4, e5⟩ := inD_rep s hb rx ry
  exact ⟨p, xs, e1, e2, e3, e4, k B H _ (Ext.refl s) (show (if true = true then V.bl (!inV u xs) else V.bl (inV u xs)) = V.bl (!b) by rw [if_pos rfl, e5])⟩⟩
end
end G

namespace G
open PySem PySem.Spec PyProof.Rows L2
section
variable {X : Cx} {W : WX} {q q1 q2 : Bool} {P : Nat → Bool}
theorem mt_tindex : MtR X "tuple.index" (fun x xs H Q => ∃ (p : Addr) (ys : List V) (y : V) (j : Nat) (z : V), x = .ref p ∧ xs = [y] ∧ SqT X.K H p ys ∧ flatV y = true ∧ ys.all flatV = true ∧ ys[j]? = some z ∧ eqV z y = true ∧
    (∀ (m : Nat) (z' : V), m < j → ys[m]? = some z' → eqV z' y = false) ∧ Q (.int (j : Nat)) H) := by
  intro pins s σ H x xs v us Q I rx rs h
  obtain ⟨p, ys, y, j, z, rfl, rfl, hq, fy, fys, hz, hzj, hno, q⟩ := h
  cases rx
  obtain ⟨uy, rfl, ry⟩ := vals1 rs
  obtain ⟨its, rv, ⟨⟨cls, dd, dt, sl⟩, ho, hc, n, hd⟩, hlen⟩ := I.tuple hq
  simp only at hc hd
  subst hc hd
  obtain ⟨u, hu, ru⟩ := rv.get hz
  obtain ⟨hjl, hje⟩ := List.getElem?_eq_some_iff.mp hu
  have hvl := rv.length
  have hj : j < its.toArray.size := by simpa using hjl
  refine call_meets PySem.F.slot_tuple_index ⟨_, ho, rfl⟩ PySem.F.entry_tuple_index (PySem.F.args_tuple_index_2 _ _) (TI.tuple_indexAt p its.toArray n dd sl uy (eqU y) j hj ?_ ?_)
    ⟨ho, fun w hw => mem_eqAt ry fy rv fys w (by simpa using hw), ⟨.int (j : Nat), H, I.tok _, ⟨_, rfl⟩, q⟩⟩
  · have e1 : its.toArray[j] = u := by simpa using hje
    rw [e1, eqU_of ru (flat_at fys hz)]
    exact hzj
  · intro m hm hmj
    have hml : m < its.length := by simpa using hm
    have hmy : m < ys.length := by omega
    have hy' : ys[m]? = some ys[m] := List.getElem?_eq_getElem hmy
    obtain ⟨u2, hu2, ru2⟩ := rv.get hy'
    obtain ⟨_, hme⟩ := List.getElem?_eq_some_iff.mp hu2
    have e1 : its.toArray[m] = u2 := by simpa using hme
    rw [e1, eqU_of ru2 (flat_at fys hy')]
    exact hno m _ hmj hy'
def tindexD (ds : List D) (y : D) : Option D := (vOf y).bind fun v => (vsOf ds).bind fun vs => (vs.findIdx? fun z => eqV z v).map fun j => .int (j : Nat)
/-- a tuple of the module -/
structure Kt (K : PySem.W.Frag) (mg : Str → Option Value) (x : Str) (ds : List D) : Prop where
  ex : ∃ (a : Addr) (its : List Value) (n : Nat) (sl : Array (Option Value)) (vs : List V), mg x = some (.ref a) ∧ K.lookup a = some ⟨.type "tuple", none, .seq its.toArray n, sl⟩ ∧ its.length ≤ 1000 ∧ Vals vs its ∧ ∀ B, RepsF K B ds vs
theorem Kt.kc {K : PySem.W.Frag} {mg : Str → Option Value} {x : Str} {ds : List D} (k : Kt K mg x ds) : Kc K mg x (.tup ds) := by
  obtain ⟨a, its, n, sl, vs, h1, h2, h3, h4, h5⟩ := k.ex
  exact .tup h1 h2 h3 h4 h5
theorem Kt.of {K : PySem.W.Frag} {mg : Str → Option Value} {x : Str} {ds : List D} {vs : List V} {a : Addr} {its : List Value} {n : Nat} {sl : Array (Option Value)} (h : mg x = some (.ref a)) (hk : K.lookup a = some ⟨.type "tuple", none, .seq its.toArray n, sl⟩) (hz : its.length ≤ 1000) (hv : Vals vs its) (hr : ∀ B, RepsF K B ds vs) : Kt K mg x ds :=
  ⟨a, its, n, sl, vs, h, hk, hz, hv, hr⟩
/-- T.index(e), T a tuple of the module -/
theorem pem_tindex {x : Str} {ds : List D} {e : Expr} {n : M D} {p apos cpos : Pos} (k : Kt X.K X.mg x ds) (hg : Gl X x) (he : PEM X W q e n) (hd : (x == ("__debug__" : Str)) = false := by decide)
    (hbase : attributeBase (.Name x p) "index" X.env (eval (.Name x p) X.env) = eval (.Name x p) X.env := by rfl)
    (hfew : ((backTo cpos (starEach (e :: []) X.env)).all (fun x => !x.1) && (backToKw cpos (keywordEach [] X.env)).all (fun x => x.1.isSome) && decide ((e :: []).length + ([] : List Keyword).length + (if ([] : List Keyword).isEmpty then 0 else 1) < 30)) = true := by rfl)
    (hline : (apos.endLine == cpos.line) = true := by rfl) (hs : starEach (e :: []) X.env = (false, eval e X.env) :: starEach [] X.env := by rfl) (hplain : (backTo cpos (starEach [] X.env)).any (·.1) = false := by rfl) :
    PEM X W q (.Call (.Attribute (.Name x p) "index" apos) [e] [] cpos) (eUn (tindexD ds) n) := by
  obtain ⟨a, its, nn, sl, xs, h1, h2, h3, h4, h5⟩ := k.ex
  have po : PE X (.Name x p) (tC (.ref a)) := pe_glob hg h1 (show RelV (.ref a) (.ref a) from rfl) hd
  refine pe_imp (pe_bm PySem.F.plainAttrs_tuple PySem.F.slot_tuple_index PySem.F.type_tuple_index mt_tindex po (pa_cons he pa_nil hs) hbase hfew hline hs hplain) fun σ H Q h => ?_
  obtain ⟨B, F, ρ, fp, r0, ρ', E, hm, post⟩ := h
  have sq : ∀ H, SqT X.K H a xs := fun H => .inr ⟨_, its.toArray, nn, h2, rfl, rfl, by rw [List.size_toArray]; exact Nat.le_of_lt (small1000 h3), by simpa using h4⟩
  refine ⟨.inr (.inl ⟨rfl, _, h2, rfl, rfl⟩), ?_⟩
  refine can_bnd E hm post.err fun d2 ρ2 B2 H2 fp2 y hm2 s2 E2 ry k2 => ?_
  obtain ⟨z, e1, e2, e3⟩ := ofO_some hm2
  subst e2 e3
  obtain ⟨v, a1, a2⟩ := Option.bind_eq_some_iff.mp e1
  obtain ⟨vs, a3, a4⟩ := Option.bind_eq_some_iff.mp a2
  obtain ⟨j, a5, rfl⟩ := Option.map_eq_some_iff.mp a4
  obtain ⟨rfl, fy⟩ := vOf_rep a1 ry
  obtain ⟨rfl, fs⟩ := vsOf_rep a3 (h5 B2)
  obtain ⟨hj, b1, b2⟩ := List.findIdx?_eq_some_iff_getElem.mp a5
  refine ⟨a, xs, y, j, xs[j], rfl, rfl, sq _, fy, fs, List.getElem?_eq_getElem hj, b1, fun m z' hmj hz' => ?_, post B2 H2 fp2 _ s2 E2 rfl k2⟩
  have hml : m < xs.length := by omega
  have e5 : xs[m] = z' := by
    rw [List.getElem?_eq_getElem hml] at hz'
    exact Option.some.inj hz'
  have := b2 m hmj
  rw [← e5]
  simpa using this

structure ValsOk (K : PySem.W.Frag) (B F H : Hp) (fp : Nat → FS) (ds : List D) (vs : List V) (S : Nat → FS) : Prop where
  rep : Reps K B H ds vs S
  apart : ∀ i j a, S i a → S j a → i = j
  out : ∀ i a, S i a → B a = none ∧ F a = none ∧ H a ≠ none ∧ ∀ j, ¬ fp j a
def canOs (K : PySem.W.Frag) (mg : Str → Option Value) (W : WX) (m : M (List D)) : TA := fun σ H Q => ∃ B F ρ fp r ρ', EnvOk K B F H σ ρ fp ∧ m ρ = some (r, ρ') ∧ match r with
  | .ok ds => ∀ B' H' fp' vs S, Same B B' → EnvOk K B' F H' σ ρ' fp' → ValsOk K B' F H' fp' ds vs S → Q vs H'
  | .error x => ErrP K mg W B F σ x ρ'
def PAO (X : Cx) (W : WX) (es : List Expr) (m : M (List D)) : Prop := PA X es (canOs X.K X.mg W m)
theorem pao_nil : PAO X W [] aNil := pa_imp pa_nil fun σ H Q h => by
  obtain ⟨B, F, ρ, fp, r0, ρ', E, hm, post⟩ := h
  obtain ⟨e1, e2⟩ := rt_some hm
  subst e1 e2
  exact post B H fp [] noT (fun _ _ z => z) E ⟨rfl, fun _ _ _ z => z.elim, fun _ _ z => z.elim⟩
theorem EnvOk.weak {K : PySem.W.Frag} {B F F' H : Hp} {σ : L2.St} {ρ : En} {fp : Nat → FS} (E : EnvOk K B F' H σ ρ fp) (h : Same F F') : EnvOk K B F H σ ρ fp :=
  ⟨E.bh, h.trans E.fh, fun a o e => E.bf a o (h a o e), E.rep, E.apart, fun i a z => ⟨(E.out i a z).1, h.free (E.out i a z).2⟩, E.live, E.len⟩
theorem pao_cons {e : Expr} {es : List Expr} {m : M D} {n : M (List D)} (ha : PEO X W e m) (hr : PAO X W es n) (hs : starEach (e :: es) X.env = (false, eval e X.env) :: starEach es X.env := by rfl) : PAO X W (e :: es) (aCons m n) :=
  pa_imp (pa_cons ha hr hs) fun σ H Q h => by
    obtain ⟨B, F, ρ, fp, r0, ρ', E, hm, post⟩ := h
    unfold aCons bnd at hm
    cases e1 : m ρ with
    | none => rw [e1] at hm; cases hm
    | some p =>
      obtain ⟨r1, ρ1⟩ := p
      rw [e1] at hm
      refine ⟨B, F, ρ, fp, r1, ρ1, E, e1, ?_⟩
      cases r1 with
      | error x => cases hm; exact post
      | ok d =>
        intro B1 H1 fp1 v S s1 E1 vo
        have hm : bnd n (fun ds => rt (d :: ds)) ρ1 = some (r0, ρ') := hm
        unfold bnd at hm
        let F' : Hp := grow F H1 S
        have fF : Same F F' := same_grow fun a z => (vo.out a z).2.1
        have FH : Same F' H1 := grow_same E1.fh
        have E1' : EnvOk X.K B1 F' H1 σ ρ1 fp1 := by
          refine ⟨E1.bh, FH, fun a o e => ?_, E1.rep, E1.apart, fun i a z => ⟨(E1.out i a z).1, ?_⟩, E1.live, E1.len⟩
          · by_cases z : S a
            · exact (vo.out a z).1
            · have e' : grow F H1 S a = some o := e
              rw [grow_out z] at e'
              exact E1.bf a o e'
          · show grow F H1 S a = none
            rw [grow_out fun z' => (vo.out a z').2.2.2 i z]
            exact (E1.out i a z).2
        cases e2 : n ρ1 with
        | none => rw [e2] at hm; cases hm
        | some p =>
          obtain ⟨r2, ρ2⟩ := p
          rw [e2] at hm
          refine ⟨B1, F', ρ1, fp1, r2, ρ2, E1', e2, ?_⟩
          cases r2 with
          | error x =>
            cases hm
            exact fun B2 H2 fp2 cls dd s2 E2 xr => post B2 H2 fp2 cls dd (s1.trans s2) (E2.weak fF) xr
          | ok ds =>
            cases hm
            intro B2 H2 fp2 vs T s2 E2 vk
            have keepS : ∀ a, S a → F' a = H1 a ∧ H2 a = H1 a := fun a z => by
              have e3 : F' a = H1 a := grow_in z
              refine ⟨e3, ?_⟩
              cases q : H1 a with
              | none => exact absurd q (vo.out a z).2.2.1
              | some o => exact E2.fh a o (e3.trans q)
            have live : ∀ a, S a → F' a ≠ none := fun a z => by rw [(keepS a z).1]; exact (vo.out a z).2.2.1
            refine post B2 H2 fp2 (v :: vs) (fun i => match i with | 0 => S | i + 1 => T i) (s1.trans s2) (E2.weak fF) ⟨⟨v, vs, rfl, Rep.mono s2 d (fun a z => (keepS a z).2) (fun _ z => z) vo.rep, vk.rep⟩, fun i j a h1 h2 => ?_, fun i a z => ?_⟩
            · match i, j, h1, h2 with
              | 0, 0, _, _ => rfl
              | 0, j + 1, h1, h2 => exact absurd (vk.out j a h2).2.1 (live a h1)
              | i + 1, 0, h1, h2 => exact absurd (vk.out i a h1).2.1 (live a h2)
              | i + 1, j + 1, h1, h2 => rw [vk.apart i j a h1 h2]
            · match i, z with
              | 0, z =>
                refine ⟨?_, (vo.out a z).2.1, by rw [(keepS a z).2]; exact (vo.out a z).2.2.1, fun j z' => absurd (E2.out j a z').2 (live a z)⟩
                cases q : H1 a with
                | none => exact absurd q (vo.out a z).2.2.1
                | some o => exact E2.bf a o ((keepS a z).1.trans q)
              | i + 1, z => exact ⟨(vk.out i a z).1, fF.free (vk.out i a z).2.1, (vk.out i a z).2.2⟩
theorem pao_of {es : List Expr} {m : M (List D)} (h : PAM X W q es m) : PAO X W es m := pa_imp h fun σ H Q h => by
  obtain ⟨B, F, ρ, fp, r0, ρ', E, hm, post⟩ := h
  refine ⟨B, F, ρ, fp, r0, ρ', E, hm, ?_⟩
  cases r0 with
  | error x => exact post
  | ok ds => exact fun B' H' fp' vs s E' rl qq => post B' H' fp' vs noT s E' ⟨RepsF.to rl, fun _ _ _ z => z.elim, fun _ _ z => z.elim⟩
theorem vk_step {K : PySem.W.Frag} {B F H : Hp} {σ : L2.St} {ρ : En} {fp : Nat → FS} {i : Nat} {d : D} {ds : List D} {vs : List V} {S : Nat → FS} (E : EnvOk K B F H σ ρ fp) (vk : ValsOk K B F H fp (d :: ds) vs S) (hr : i < ρ.length) :
    ∃ v vs', vs = v :: vs' ∧ EnvOk K B F H (σ.set i (some v)) (ρ.set i (some d)) (fun j a => if j = i then S 0 a else fp j a) ∧ ValsOk K B F H (fun j a => if j = i then S 0 a else fp j a) ds vs' (fun n => S (n + 1)) := by
  obtain ⟨v, vs', e, r, rs⟩ := vk.rep
  refine ⟨v, vs', e, E.set hr ⟨r, fun a z => vk.out 0 a z⟩, rs, fun k j a h1 h2 => ?_, fun k a z => ⟨(vk.out _ a z).1, (vk.out _ a z).2.1, (vk.out _ a z).2.2.1, fun j hj => ?_⟩⟩
  · have := vk.apart (k + 1) (j + 1) a h1 h2
    omega
  · by_cases q : j = i
    · rw [if_pos q] at hj
      have := vk.apart (k + 1) 0 a z hj
      omega
    · rw [if_neg q] at hj
      exact (vk.out _ a z).2.2.2 j hj
theorem canOs_S {K : PySem.W.Frag} {mg : Str → Option Value} {m : M (List D)} {f : List D → M Fl} {D : Ends} {σ : L2.St} {H : Hp} {Z : List V → Hp → Prop} (h : canS K mg W P (bnd m f) D σ H)
    (ok : ∀ ds B ρ1 F H1 fp1 vs S r ρ', f ds ρ1 = some (r, ρ') → EnvOk K B F H1 σ ρ1 fp1 → ValsOk K B F H1 fp1 ds vs S → PostS K mg W P B F σ D r ρ' → Z vs H1) : canOs K mg W m σ H Z := by
  obtain ⟨B, F, ρ, fp, r, ρ', E, hm, post⟩ := h
  unfold bnd at hm
  cases e1 : m ρ with
  | none => rw [e1] at hm; cases hm
  | some p =>
    obtain ⟨r1, ρ1⟩ := p
    rw [e1] at hm
    refine ⟨B, F, ρ, fp, r1, ρ1, E, e1, ?_⟩
    cases r1 with
    | error x => cases hm; exact post.err x rfl
    | ok ds => exact fun B' H' fp' vs S s E' vk => ok ds B' ρ1 F H' fp' vs S r ρ' hm E' vk (post.up s Pin.refl)
/-- x, y = a, b -/
theorem psm_parO {i j : Nat} {x y : Str} {a b : Expr} {m : M (List D)} {px py pt : Pos} {kt k2 pt2} {pos : Pos} (hc : X.calm = true) (hN : X.N.Nodup) (hi : X.N[i]? = some x) (hj : X.N[j]? = some y)
    (hx : X.env.scope.names.lookup x = some .local) (hy : X.env.scope.names.lookup y = some .local) (ha : PAO X W [a, b] m)
    (hw : swappedStores [.Tuple [.Name x px, .Name y py] kt pt] (.Tuple [a, b] k2 pt2) X.env = pure (some [x, y]) := by rfl) (hij : i ≠ j := by decide) (hpi : P i = false := by rfl) (hpj : P j = false := by rfl)
    (hs : swapsWithSole [.Tuple [.Name x px, .Name y py] kt pt] (.Tuple [a, b] k2 pt2) pos.line X.env = pure false := by rfl) :
    PSM X W P (.Assign [.Tuple [.Name x px, .Name y py] kt pt] (.Tuple [a, b] k2 pt2) pos) (bnd m (putP i j)) :=
  ps_imp (ps_par hc hN hi hj hij hx hy ha hw hs) fun D σ H h => canOs_S h fun ds B ρ1 F H1 fp1 vs S r ρ' hm E vk post => by
    unfold putP at hm
    split at hm
    · split at hm
      · rename_i hl
        cases hm
        obtain ⟨v1, w1, rfl, E1, k1⟩ := vk_step E vk hl.1
        obtain ⟨v2, w2, rfl, E2, k2⟩ := vk_step E1 k1 (by rw [List.length_set]; exact hl.2)
        obtain rfl : w2 = [] := k2.rep
        exact ⟨v1, v2, rfl, post B H1 _ _ (fun _ _ z => z) E2 ((Pin.set hpi).trans (Pin.set hpj))⟩
      · cases hm
    · cases hm
def putP3 (i j l : Nat) (ds : List D) : M Fl := fun ρ => match ds with
  | [a, b, c] => if i < ρ.length ∧ j < ρ.length ∧ l < ρ.length then some (.ok .nx, ((ρ.set i (some a)).set j (some b)).set l (some c)) else none
  | _ => none
@[simp] theorem s_putP3 (i j l : Nat) (a b c : D) (ρ : En) : putP3 i j l [a, b, c] ρ = if i < ρ.length ∧ j < ρ.length ∧ l < ρ.length then some (.ok .nx, ((ρ.set i (some a)).set j (some b)).set l (some c)) else none := rfl
/-- x, y, z = a, b, c -/
theorem psm_parO3 {i j l : Nat} {x y z : Str} {a b c : Expr} {m : M (List D)} {px py pz pt pos : Pos} {kt k2 pt2} (hc : X.calm = true) (hN : X.N.Nodup) (hi : X.N[i]? = some x) (hj : X.N[j]? = some y) (hl : X.N[l]? = some z)
    (hx : X.env.scope.names.lookup x = some .local) (hy : X.env.scope.names.lookup y = some .local) (hz : X.env.scope.names.lookup z = some .local) (ha : PAO X W [a, b, c] m)
    (hw : swappedStores [.Tuple [.Name x px, .Name y py, .Name z pz] kt pt] (.Tuple [a, b, c] k2 pt2) X.env = pure (some [x, y, z]) := by rfl) (hij : i ≠ j := by decide) (hil : i ≠ l := by decide) (hjl : j ≠ l := by decide)
    (hpi : P i = false := by rfl) (hpj : P j = false := by rfl) (hpl : P l = false := by rfl)
    (hs : swapsWithSole [.Tuple [.Name x px, .Name y py, .Name z pz] kt pt] (.Tuple [a, b, c] k2 pt2) pos.line X.env = pure false := by rfl) :
    PSM X W P (.Assign [.Tuple [.Name x px, .Name y py, .Name z pz] kt pt] (.Tuple [a, b, c] k2 pt2) pos) (bnd m (putP3 i j l)) :=
  ps_imp (ps_par3 hc hN hi hj hl hij hil hjl hx hy hz ha hw hs) fun D σ H h => canOs_S h fun ds B ρ1 F H1 fp1 vs S r ρ' hm E vk post => by
    unfold putP3 at hm
    split at hm
    · split at hm
      · rename_i hh
        cases hm
        obtain ⟨v1, w1, rfl, E1, k1⟩ := vk_step E vk hh.1
        obtain ⟨v2, w2, rfl, E2, k2⟩ := vk_step E1 k1 (by rw [List.length_set]; exact hh.2.1)
        obtain ⟨v3, w3, rfl, E3, k3⟩ := vk_step E2 k2 (by rw [List.length_set, List.length_set]; exact hh.2.2)
        obtain rfl : w3 = [] := k3.rep
        exact ⟨v1, v2, v3, rfl, post B H1 _ _ (fun _ _ z => z) E3 (((Pin.set hpi).trans (Pin.set hpj)).trans (Pin.set hpl))⟩
      · cases hm
    · cases hm
end
end G

namespace PySem
namespace XF
open PySem.W PySem.Calls PyProof.Rows PySem.HandSPX
section
variable {prog : Program} {w : World} {A : Around} {E : Value → Shared → Prop} {h : Heap} {g : Array GenState} {d : Drawn} {t : Nat} {os : OsState}
variable {nm q : Str} {C N : Addr} {bs bm : List Value} {sn : List Str} {sub : List Value} {ab : Bool} {col : Option Bool} {dd : Option Addr} {k0 k1 k2 k3 k5 : Option Value}
/-- the bound ValueError.__init__ is called -/
theorem ve_call {u e t0 : Addr} {rest : List Value} {Q : Value → Shared → Prop} (hC : h.get? C = some (excClassObj nm q C N bs bm true sn sub ab col dd k0 k1 k2 k3 k5 "ValueError.__new__")) (he : h.get? e = some (excO C t0)) (hu : h.get? u = some (kxs_mw "ValueError.__init__" e)) (hz : rest.length ≤ sizeLine)
    (hq : ∀ h' t1, (∀ b o, b ≠ e → h.get? b = some o → h'.get? b = some o) → h'.get? e = some (excO C t1) → Q .none ⟨h', g, d, t, os⟩) : wpAny (model prog w) A (call (.ref u) rest) Q E ⟨h, g, d, t, os⟩ := by
  refine wpAny_call (codeAny_of_tree ?_)
  show wpAny _ A.in1 (callAny (.ref u) ⟨rest, []⟩) _ _ _
  simp only [callAny]
  refine wpAny_bind (wpAny_load hu ?_)
  have e1 : (Value.type "method-wrapper" == Value.type "method" || Value.type "method-wrapper" == Value.type "builtin_function_or_method" || Value.type "method-wrapper" == Value.type "method-wrapper") = true := by decide
  simp only [kxs_mw, e1, if_true]
  refine KFB.if_so (by decide) (wpAny_bind (check_bound_init F.excBase_ValueError.toExcCallFacts hC he rfl (wpAny_bind (wpAny_pure (wpAny_pure ?_)))))
  refine ⟨plainId_quiet F.excBase_ValueError.init.plain _, codeAny_builtin F.excBase_ValueError.initEntry ?_⟩
  exact exc_init_tree (cls := .ref C) (t0 := t0) (dv := none) (c2 := .none) (c3 := .none) (b4 := .bool false) he hz fun h' k e' _ => hq h' _ k e'
end
/-- self.f = f, for each of the names -/
def Sets : List Str → List Stmt → Prop
  | [], [] => True
  | f :: fs, st :: sts => (∃ p1 p2 p3 p4, st = .Assign [.Attribute (.Name "self" p1) f p2] (.Name f p3) p4) ∧ Sets fs sts
  | _, _ => False
/-- what K holds of such a class -/
structure Txt (prog : Program) (K : Frag) (C fI : Addr) (fl : List Str) (txt : Str) : Prop where
  cls : ∃ nm q N bs bm sn sub ab col dd k0 k1 k2 k3 k5, K.lookup C = some (excClassObj nm q C N bs bm true sn sub ab col dd k0 k1 k2 k3 k5 "ValueError.__new__") ∧ refsVE bm = true ∧ alongIn K "__init__" bm = some (some (.builtin "ValueError.__init__"))
  sa : findIn K (.ref C) "__setattr__" = some (some (.builtin "object.__setattr__"))
  noN : ∀ f ∈ fl, findIn K (.ref C) f = some none
  iC : findIn K (.ref C) "__init__" = some (some (.ref fI))
  tI : typeIn K (.ref fI) = some (.type "function")
  op : nsIn K cStatics "thirdparty.any" = some none
  sB : subIn K (.ref C) (.type "ValueError") = some true
  sC : mroIn K C (.ref C) = some true
  fn : ∃ (oc : Value) (od : Option Addr) (osl : Array (Option Value)) (qual : Str) (params : Arguments) (body : List Stmt) (scope : Scope) (doc pm : Value) (an : Option Addr) (cda cc : Addr) (ct ccl cl : Value) (cdd cld : Option Addr) (vs : Array Value) (ccs csl : Array (Option Value)) (file : Str) (tf : Tok) (a0 : Arg),
    K.lookup fI = some ⟨oc, od, .func (fnX "__init__" qual params body scope [("__class__", cc)] .none .none doc pm an (.ref cda) ct), osl⟩ ∧ codeIn K (.ref cda) qual = true ∧
    K.lookup cda = some ⟨ccl, cdd, .fields vs, ccs⟩ ∧ vs[2]? = some (.str file tf) ∧ ((prog.main.file : Str) == file) = true ∧ K.lookup cc = some ⟨cl, cld, .cell (some (.ref C)), csl⟩ ∧
    (params.posonlyargs ++ params.args).head? = some a0 ∧ a0.arg = "self" ∧ scope.kind = .function ∧ scope.isCoroutine = false ∧ scope.isGenerator = false ∧ (∀ x ∈ scope.names, x.2 ≠ .cell) ∧
    scope.names.lookup ("super" : Str) = some .globalImplicit ∧ scope.names.lookup ("__class__" : Str) = some .free ∧ (∀ y ∈ ("self" : Str) :: fl, scope.names.lookup y = some .local ∧ (y == ("__debug__" : Str)) = false) ∧
    (∀ us : List Value, us.length = fl.length + 1 → bindArgs (fnX "__init__" qual params body scope [("__class__", cc)] .none .none doc pm an (.ref cda) ct) ⟨us, []⟩ = pure ((("self" : Str) :: fl).zip us)) ∧
    (∃ p0 p1 p2 p3 p4 p5 j sts, body = .Expr (.Call (.Attribute (.Call (.Name "super" p0) [] [] p1) "__init__" p2) [.Constant (.str txt) j p3] [] p4) p5 :: sts ∧ Sets fl sts ∧
      ∀ L : Addr, interactive (ksEnv qual scope L fI (.ref cda) cc) = false ∧ swapsWith (.Call (.Attribute (.Call (.Name "super" p0) [] [] p1) "__init__" p2) [.Constant (.str txt) j p3] [] p4) none p5.line (ksEnv qual scope L fI (.ref cda) cc) = pure false ∧
        ∃ pl : Sem Bool, eval (.Call (.Attribute (.Call (.Name "super" p0) [] [] p1) "__init__" p2) [.Constant (.str txt) j p3] [] p4) (ksEnv qual scope L fI (.ref cda) cc) = (do
          let ov ← attributeBase (.Call (.Name "super" p0) [] [] p1) "__init__" (ksEnv qual scope L fI (.ref cda) cc) (eval (.Call (.Name "super" p0) [] [] p1) (ksEnv qual scope L fI (.ref cda) cc))
          standAt p2.atName
          let (f, first) ← holding [ov] (getMethod ov "__init__" pl)
          callWith p4 f first (backTo p4 (starEach [.Constant (.str txt) j p3] (ksEnv qual scope L fI (.ref cda) cc))) []))
  top : (prog.main.scope.names.lookup ("super" : Str)).isSome = false
section
variable {prog : Program} {w : World} {A : Around} {E : Value → Shared → Prop} {g : Array GenState} {d : Drawn} {os : OsState} {K : Frag} {C fI x : Addr} {fl : List Str} {txt : Str} {env : Env} {m : Str → Option Value}
/-- names set so far, as a dict -/
abbrev soN (l : List (Str × Value)) : Str → Option Value := fun y => l.lookup y
theorem soN_cons (f : Str) (v : Value) (l : List (Str × Value)) : (fun y => if y = f then some v else soN l y) = soN ((f, v) :: l) := by
  funext y
  show (if y = f then some v else l.lookup y) = ((f, v) :: l).lookup y
  by_cases e : y = f
  · subst e
    rw [if_pos rfl, List.lookup_cons_self]
  · have z : (y == f) = false := by simpa using e
    rw [if_neg e, List.lookup_cons, z]
theorem soN_in (l : List (Str × Value)) : Within (soN l) (l.map Prod.fst) := by
  intro y hy
  cases e : l.lookup y with
  | none => exact absurd e hy
  | some v =>
    obtain ⟨p, hp, he⟩ := List.lookup_eq_some_iff.mp e |> fun ⟨a, b, h1, h2⟩ => (⟨(y, v), by rw [h1]; simp, rfl⟩ : ∃ p : Str × Value, p ∈ l ∧ p = (y, v))
    rw [he] at hp
    exact List.mem_map_of_mem (f := Prod.fst) hp
theorem keptX {h h' : Heap} {a : Addr} (X : K.In h) (ha : K.lookup a = none) (k : ∀ b o, b ≠ a → h.get? b = some o → h'.get? b = some o) : K.In h' := fun b o e =>
  k b o (fun z => by rw [z, ha] at e; cases e) (X b o e)
theorem ldX {s : Shared} {f : Str} {pos : Pos} {v : Value} {Q : Value → Shared → Prop} (hk : env.scope.kind = .function) (hl : env.kindOf f = some .local ∧ (f == ("__debug__" : Str)) = false) (hn : s.heap.Ns env.locals m) (hv : m f = some v) (q : Q v s) : wpAny (model prog w) A (eval (.Name f pos) env) Q E s :=
  wpAny_Name (wpAny_loadName_local hk hl.1 hn hv q) hl.2
theorem run_sets (T : Txt prog K C fI fl txt) (hk : env.scope.kind = .function) (hl : ∀ y ∈ ("self" : Str) :: fl, env.kindOf y = some .local ∧ (y == ("__debug__" : Str)) = false) (hself : m "self" = some (.ref x)) {t0 dx : Addr} {Q : Flow → Shared → Prop} : ∀ (fs : List Str) (sts : List Stmt) (so : List (Str × Value)) (h : Heap) (tk : Nat), (∀ f ∈ fs, f ∈ fl ∧ ∃ v, m f = some v) → Sets fs sts → so.length + fs.length ≤ 100 →
    K.In h → h.Ns env.locals m → h.get? x = some { cls := .ref C, dict := some dx, data := .fields #[.ref t0, .none, .none, .none, .bool false, .none] } → h.Ns1 dx (soN so) → dx ≠ env.locals → K.lookup dx = none → dx ≠ x →
    (∀ h' tk' vs, vs.length = fs.length → (∀ (i : Nat) (f : Str), (fs : List Str)[i]? = some f → ∃ v, m f = some v ∧ (vs : List Value)[i]? = some v) → (∀ b o, b ≠ dx → h.get? b = some o → h'.get? b = some o) → h'.get? x = some { cls := .ref C, dict := some dx, data := .fields #[.ref t0, .none, .none, .none, .bool false, .none] } → h'.Ns1 dx (soN ((fs.zip vs).reverse ++ so)) → Q .next ⟨h', g, d, tk', os⟩) →
    wpAny (model prog w) A (execs sts env) Q E ⟨h, g, d, tk, os⟩
  | [], [], so, h, tk, _, _, _, X, hn, hx, hd, n1, n2, n3, q => wpAny_execs_nil (q h tk [] rfl (fun i f e => by simp at e) (fun _ _ _ e => e) hx hd)
  | f :: fs, st :: sts, so, h, tk, hf, ⟨⟨p1, p2, p3, p4, e⟩, hs⟩, hz, X, hn, hx, hd, n1, n2, n3, q => by
    subst e
    obtain ⟨hfl, v, hv⟩ := hf f (List.mem_cons_self ..)
    obtain ⟨nm, qq, N, bs, bm, sn, sub, ab, col, dd, k0, k1, k2, k3, k5, hC, hbm, _⟩ := T.cls
    have hcl : clsIn K C = some { name := nm, bases := bs, mro := .ref C :: bm, ns := N, qualname := qq, hasDict := true, slotNames := sn, subclasses := sub, abstract := ab, collection := col, hasDel := false } := by unfold clsIn; rw [hC] <;> rfl
    refine wpAny_execs_cons (plainObj_wpAny_Assign_Attribute (ldX hk (hl f (List.mem_cons_of_mem _ hfl)) hn hv (ldX hk (hl "self" (List.mem_cons_self ..)) hn hself ?_)))
    obtain ⟨oD, _, _, hoD, _, _⟩ := hd.count (soN_in so)
    refine set_plain X (ox := { cls := .ref C, dict := some dx, data := .fields #[.ref t0, .none, .none, .none, .bool false, .none] }) (od := some oD) ⟨hx, rfl, rfl, hoD⟩ T.sa ?_
    refine PySem.OEX.osa_old X hx hd (soN_in so) (by rw [List.length_map]; omega) hcl (show refsVE (.ref C :: bm) = true from hbm) rfl (T.noN f hfl) (fun h' tk' k hd' => ?_)
    rw [soN_cons] at hd'
    refine run_sets T hk hl hself fs sts ((f, v) :: so) h' tk' (fun y hy => hf y (List.mem_cons_of_mem _ hy)) hs (by simp only [List.length_cons] at hz ⊢; omega) (keptX X n2 k) (hn.at fun o z => k _ _ (Ne.symm n1) z) (k _ _ (Ne.symm n3) hx) hd' n1 n2 n3 fun h2 tk2 vs hl2 hv2 k2 hx2 hd2 => ?_
    refine q h2 tk2 (v :: vs) (by simp [hl2]) (fun i y e => ?_) (fun b o hb z => k2 b o hb (k b o hb z)) hx2 ?_
    · match i, e with
      | 0, e => have e : f = y := by simpa using e
                exact ⟨v, by rw [← e]; exact hv, rfl⟩
      | i + 1, e => obtain ⟨v', a1, a2⟩ := hv2 i y (by simpa using e)
                    exact ⟨v', a1, by simpa using a2⟩
    · have e3 : (((f :: fs).zip (v :: vs)).reverse ++ so) = ((fs.zip vs).reverse ++ ((f, v) :: so)) := by simp
      rw [e3]
      exact hd2
  | [], _ :: _, _, _, _, _, hs, _, _, _, _, _, _, _, _, _ => hs.elim
  | _ :: _, [], _, _, _, _, hs, _, _, _, _, _, _, _, _, _ => hs.elim
end
theorem lk_mem {β : Type} : ∀ {l : List (Str × β)} {p : Str × β}, (l.map Prod.fst).Nodup → p ∈ l → l.lookup p.1 = some p.2
  | [], p, _, h => by cases h
  | a :: l, p, nd, h => by
    rw [List.map_cons, List.nodup_cons] at nd
    rcases List.mem_cons.mp h with e | e
    · subst e
      exact List.lookup_cons_self
    · have hne : p.1 ≠ a.1 := fun z => nd.1 (by rw [← z]; exact List.mem_map_of_mem (f := Prod.fst) e)
      have z : (p.1 == a.1) = false := by simpa using hne
      rw [List.lookup_cons, z]
      exact lk_mem nd.2 e
theorem lk_rev {β : Type} {l : List (Str × β)} {p : Str × β} (nd : (l.map Prod.fst).Nodup) (h : p ∈ l) : l.reverse.lookup p.1 = some p.2 :=
  lk_mem (by rw [List.map_reverse]; exact (List.reverse_perm (l.map Prod.fst)).symm.nodup nd) (List.mem_reverse.mpr h)
theorem zip_fst {β : Type} : ∀ {a : List Str} {b : List β}, a.length = b.length → (a.zip b).map Prod.fst = a
  | [], [], _ => rfl
  | x :: a, y :: b, h => by rw [List.zip_cons_cons, List.map_cons, zip_fst (by simpa using h)]
  | [], _ :: _, h => by simp at h
  | _ :: _, [], h => by simp at h
theorem zip_at : ∀ {a : List Str} {b : List Value} {i : Nat} {x : Str} {y : Value}, a[i]? = some x → b[i]? = some y → (x, y) ∈ a.zip b
  | x :: a, y :: b, 0, _, _, h1, h2 => by simp at h1 h2; subst h1 h2; simp
  | x :: a, y :: b, i + 1, _, _, h1, h2 => by rw [List.zip_cons_cons]; exact List.mem_cons_of_mem _ (zip_at (i := i) (by simpa using h1) (by simpa using h2))
  | [], _, _, _, _, h1, _ => by simp at h1
  | _ :: _, [], _, _, _, _, h2 => by simp at h2
theorem mw_call1 {M : Model} {A : Around} {E : Value → Shared → Prop} {s : Shared} {pos : Pos} {u x : Addr} {i : String} {env : Env} {e : Expr} {Q : Value → Shared → Prop}
    (h : wpAny M A (eval e env) (fun r s1 => s1.heap.get? u = some (kxs_mw i x) ∧ wpAny M A (call (.ref u) [r]) Q E s1) E s)
    (he : starEach (e :: []) env = (false, eval e env) :: starEach [] env := by rfl) (hp : (backTo pos (starEach [] env)).any (·.1) = false := by rfl) : wpAny M A (callWith pos (.ref u) [] (backTo pos (starEach (e :: []) env)) []) Q E s := by
  rw [he]
  refine kxs_callWith (i := i) (x := x) (by show (false || (backTo pos (starEach [] env)).any (·.1)) = false; rw [hp]; rfl) ?_
  refine evalArgs_plain ?_
  show wpAny M A (spliced ((false, eval e env) :: backTo pos (starEach [] env))) _ E s
  exact spliced_cons (wpAny_mono h (fun r s1 hr => spliced_nil hr) fun _ _ z => z)
/-- what __init__ leaves of a fresh error at x -/
structure EndX (h h' : Heap) (x C dx t1 : Addr) (so : List (Str × Value)) : Prop where
  keep : ∀ b o, b ≠ x → h.get? b = some o → h'.get? b = some o
  obj : h'.get? x = some { cls := .ref C, dict := some dx, data := .fields #[.ref t1, .none, .none, .none, .bool false, .none] }
  dbig : h.objs.size ≤ dx
  dne : dx ≠ x
  ns : h'.Ns1 dx (soN so)
section
variable {prog : Program} {w : World} {A : Around} {E : Value → Shared → Prop} {R : Result → Shared → Prop} {K : Frag} {C fI x : Addr} {fl : List Str} {txt : Str} {mg mb : Str → Option Value} {s : Shared}
theorem init_run (T : Txt prog K C fI fl txt) {f0 : Str} {fs : List Str} (hfl : fl = f0 :: fs) (hn100 : fl.length ≤ 90) {t0 : Addr} {vs : List Value} (hlen : vs.length = fl.length) (X : K.In s.heap) (hlim : s.heap.NoLimit) (hg : s.heap.Ns mainGlobals mg) (hsup : mg "super" = none) (hb : s.heap.Ns builtinsNs mb) (hbb : mb "super" = bootBuiltins "super")
    (hx : s.heap.get? x = some (excO C t0)) (hnx : K.lookup x = none) (hroom : A.depth < recursionLimit) (hself : ("self" : Str) ∉ fl) (hnd : fl.Nodup)
    (hq : ∀ h' tk dx t1, EndX s.heap h' x C dx t1 (fl.zip vs).reverse → R (.ok (.ret .none)) { s with heap := h', toks := tk }) :
    codeAny (model prog w) A (.call (.ref fI) ⟨.ref x :: vs, []⟩) R s := by
  obtain ⟨oc, od, osl, qual, params, body, scope, doc, pm, an, cda, cc, ct, ccl, cl, cdd, cld, fvs, ccs, csl, file, tf, a0, lF, hcd, lCode, hvs, hfile, lCell, hp0, ha0, hk, hco, hgen, hcell, hks, hkc, hloc, hbind, p0, p1, p2, p3, p4, p5, j, sts, rfl, hsets, hev⟩ := T.fn
  obtain ⟨hint, hsw, pl, hev⟩ := hev s.heap.objs.size
  obtain ⟨nm, qq, N, bs, bm, sn, sub, ab, col, dd, k0, k1, k2, k3, k5, hC, hbm, hal⟩ := T.cls
  have hcl : clsIn K C = some { name := nm, bases := bs, mro := .ref C :: bm, ns := N, qualname := qq, hasDict := true, slotNames := sn, subclasses := sub, abstract := ab, collection := col, hasDel := false } := by unfold clsIn; rw [hC] <;> rfl
  refine ks_codeAny_call_defAt (binds := (("self" : Str) :: fl).zip (.ref x :: vs)) hroom (X _ _ lF) rfl hlim (codeRec_of X hcd) rfl (BindsTo.of_eq (hbind (.ref x :: vs) (by simp [hlen]))) hcell (fun y hy => (hloc y.1 (List.of_mem_zip hy).1).1) (fun h1 hns hk1 => ?_) hco hgen hk
  have X1 : K.In h1 := X.keeps hk1
  have hx1 := hk1 _ _ hx
  let env : Env := ksEnv qual scope s.heap.objs.size fI (.ref cda) cc
  let m : Str → Option Value := fun y => ((("self" : Str) :: fl).zip (.ref x :: vs)).reverse.lookup y
  have hn1 : h1.Ns env.locals m := hns
  have nd : (((("self" : Str) :: fl).zip (.ref x :: vs)).map Prod.fst).Nodup := by
    rw [zip_fst (by simp [hlen])]
    exact List.nodup_cons.mpr ⟨hself, hnd⟩
  have mself : m "self" = some (.ref x) := lk_rev (p := ("self", .ref x)) nd (by simp)
  have I0 : InstAt h1 x (excO C t0) C none := ⟨hx1, rfl, rfl, trivial⟩
  have hxC : x ≠ C := ks_ne X1 I0 hcl
  have hCo : h1.get? C = _ := X1 _ _ hC
  show wpAt (model prog w) (A.deeper env) (.func _ env) (execs _ env) _ _ _
  refine ks_wpAt_execs_cons (ks_wpAt_Expr_any (ks_wpAt_MethodCall (pl := pl) (ks_wpAt_super_base (env := env) hks hkc (by decide) rfl (X1 _ _ lF) rfl hp0 rfl (X1 _ _ lCode) rfl hvs hfile T.top ?_) hev) hint hsw)
  refine ks_loadName_global hk hks (loadGlobal_builtin (env := env) (v := .type "super") (hg.keeps hk1) hsup (hb.keeps hk1) (hbb.trans (by first | rfl | decide +kernel)) ⟨rfl, ?_⟩)
  refine wpAny_loadName_free hk hkc rfl ⟨_, X1 _ _ lCell, rfl⟩ ?_
  rw [ha0]
  refine wpAny_loadName_local hk (hloc "self" (List.mem_cons_self ..)).1 hn1 mself ?_
  refine ks_wpAny_isType_cls hCo rfl ⟨rfl, ?_⟩
  refine ks_wpAny_call_super hCo rfl hx1 rfl (fun c z => by cases z) (looks_mroIn X1 T.sC) (fun h2 e2 kk2 => ?_)
  have X2 : K.In h2 := X1.keeps kk2
  have hx2 := kk2 _ _ hx1
  have I2 : InstAt h2 x (excO C t0) C none := ⟨hx2, rfl, rfl, trivial⟩
  refine kxs_getMethod kxs_ValueError e2 (looks_opaque X2 T.op) (l₀ := .ref C :: bm) (l := bm) ?_ (by simp [List.dropWhile_cons]) X2 hal (I2.type.andThen (looks_subIn X2 T.sB)) hxC (by decide) ?_
  · exact fun A Q E s k q => wpAny_bind ((looks_clsIn X2 hcl) A _ E s k (wpAny_pure q))
  refine mw_call1 (i := "ValueError.__init__") (x := x) (Constant_str ⟨Heap.get?_push_at rfl rfl, ?_⟩)
  have k3 : ∀ b o, h2.get? b = some o → (h2.push (kxs_mw "ValueError.__init__" x)).get? b = some o := fun b o z => Heap.get?_push_of_some _ z
  refine ve_call (k3 _ _ (kk2 _ _ hCo)) (k3 _ _ hx2) (Heap.get?_push_at rfl rfl) (by show 1 ≤ sizeLine; rw [sizeLine_eq]; decide) (fun h4 t1 k4 hx4 => ?_)
  have all4 : ∀ b o, b ≠ x → h1.get? b = some o → h4.get? b = some o := fun b o hb z => k4 b o hb (k3 b o (kk2 b o z))
  have X4 : K.In h4 := keptX X1 hnx all4
  have hLx : env.locals ≠ x := (Nat.ne_of_lt (Heap.lt_size hx)).symm
  have hn4 : h4.Ns env.locals m := hn1.at fun o z => all4 _ _ hLx z
  have hloc' : ∀ y ∈ ("self" : Str) :: fl, env.kindOf y = some .local ∧ (y == ("__debug__" : Str)) = false := hloc
  have mat : ∀ (i : Nat) (f : Str) (v : Value), fl[i]? = some f → vs[i]? = some v → m f = some v := fun i f v h1 h2 => lk_rev (p := (f, v)) nd (by rw [List.zip_cons_cons]; exact List.mem_cons_of_mem _ (zip_at h1 h2))
  subst hfl
  match vs, hlen, mat with
  | v0 :: vs', hlen, mat =>
  match sts, hsets with
  | [], hsets => exact hsets.elim
  | st :: sts', ⟨⟨q1, q2, q3, q4, est⟩, hs'⟩ =>
  subst est
  have m0 : m f0 = some v0 := mat 0 f0 v0 rfl rfl
  refine wpAt_of_wpAny (wpAny_execs_cons (plainObj_wpAny_Assign_Attribute (ldX hk (hloc' f0 (by simp)) hn4 m0 (ldX hk (hloc' "self" (by simp)) hn4 mself ?_))))
  refine set_plain X4 (ox := excO C t1) (od := none) ⟨hx4, rfl, rfl, trivial⟩ T.sa ?_
  refine exc_osa X4 hx4 hcl (show refsVE (.ref C :: bm) = true from hbm) rfl (T.noN f0 (by simp)) (fun h5 tk5 dx k5 dbig dne hx5 hd5 => ?_)
  have s4 : s.heap.objs.size < h4.objs.size := by
    obtain ⟨o, _, _, z, _⟩ := hn4
    exact Heap.lt_size z
  have dL : dx ≠ env.locals := Nat.ne_of_gt (Nat.lt_of_lt_of_le s4 dbig)
  have dK : K.lookup dx = none := by
    cases z : K.lookup dx with
    | none => rfl
    | some o => exact absurd (Heap.lt_size (X4 _ _ z)) (Nat.not_lt_of_le dbig)
  have e5 : (fun y => if y = f0 then some v0 else none) = soN [(f0, v0)] := soN_cons f0 v0 []
  rw [e5] at hd5
  refine run_sets T hk hloc' mself fs sts' [(f0, v0)] h5 tk5 (fun f hf => ⟨List.mem_cons_of_mem _ hf, ?_⟩) hs' (by simp only [List.length_cons, List.length_nil] at hn100 ⊢; omega) (keptX X4 hnx k5) (hn4.at fun o z => k5 _ _ hLx z) hx5 hd5 dL dK dne (fun h6 tk6 us hl6 hu6 k6 hx6 hd6 => ?_)
  · obtain ⟨i, hi⟩ := List.getElem?_of_mem hf
    have hlt : i < vs'.length := by
      have := (List.getElem?_eq_some_iff.mp hi).1
      simp only [List.length_cons] at hlen
      omega
    exact ⟨vs'[i], mat (i + 1) f vs'[i] (by simpa using hi) (by simp [hlt])⟩
  · have eu : us = vs' := by
      refine List.ext_getElem? fun i => ?_
      rcases Nat.lt_or_ge i fs.length with z | z
      · obtain ⟨v, a1, a2⟩ := hu6 i fs[i] (List.getElem?_eq_getElem z)
        have hlt : i < vs'.length := by
          simp only [List.length_cons] at hlen
          omega
        have := mat (i + 1) fs[i] vs'[i] (by simp [z]) (by simp [hlt])
        rw [a1] at this
        cases this
        rw [a2, List.getElem?_eq_getElem hlt]
      · rw [List.getElem?_eq_none (by omega), List.getElem?_eq_none (by simp only [List.length_cons] at hlen; omega)]
    subst eu
    refine hq h6 tk6 dx t1 ⟨fun b o hb z => ?_, hx6, Nat.le_trans (Nat.le_of_lt s4) dbig, dne, ?_⟩
    · have hbd : b ≠ dx := Nat.ne_of_lt (Nat.lt_of_lt_of_le (Nat.lt_trans (Heap.lt_size z) s4) dbig)
      exact k6 b o hbd (k5 b o hb (all4 b o hb (hk1 b o z)))
    · have : ((f0 :: fs).zip (v0 :: us)).reverse = (fs.zip us).reverse ++ [(f0, v0)] := by simp
      rw [this]
      exact hd6
end
theorem lk_none {β : Type} : ∀ {l : List (Str × β)} {y : Str}, l.lookup y = none → ∀ p ∈ l, p.1 ≠ y
  | [], _, _, p, h => by cases h
  | a :: l, y, e, p, h => by
    rw [List.lookup_cons] at e
    cases z : (y == a.1) with
    | true => rw [z] at e; cases e
    | false =>
      rw [z] at e
      rcases List.mem_cons.mp h with q | q
      · subst q
        intro w
        rw [← w] at z
        simp at z
      · exact lk_none e p q
theorem lk_some {β : Type} : ∀ {l : List (Str × β)} {y : Str} {v : β}, l.lookup y = some v → (y, v) ∈ l
  | [], _, _, e => by cases e
  | a :: l, y, v, e => by
    rw [List.lookup_cons] at e
    cases z : (y == a.1) with
    | true =>
      rw [z] at e
      have h1 : y = a.1 := by simpa using z
      have h2 : a.2 = v := by simpa using e
      rw [h1, ← h2]
      exact List.mem_cons_self ..
    | false =>
      rw [z] at e
      exact List.mem_cons_of_mem _ (lk_some e)
theorem lk_eq {β : Type} {l : List (Str × β)} {y : Str} (nd : (l.map Prod.fst).Nodup) : l.reverse.lookup y = l.lookup y := by
  cases e : l.lookup y with
  | some v => exact lk_rev (p := (y, v)) nd (lk_some e)
  | none =>
    cases e2 : l.reverse.lookup y with
    | none => rfl
    | some v => exact absurd rfl (lk_none e (y, v) (List.mem_reverse.mp (lk_some e2)))
/-- a made error -/
structure MadeX (h h' : Heap) (e C d : Addr) (so : List (Str × Value)) : Prop where
  keep : ∀ b o, h.get? b = some o → h'.get? b = some o
  new : h.objs.size ≤ e
  obj : ∃ oe vs, h'.get? e = some oe ∧ oe.cls = .ref C ∧ oe.dict = some d ∧ oe.data = .fields vs ∧ vs[1]? = some .none
  dbig : h.objs.size ≤ d
  dne : d ≠ e
  ns : h'.Ns1 d (soN so)
section
variable {prog : Program} {w : World} {A : Around} {R : Result → Shared → Prop} {K : Frag} {C fI : Addr} {fl : List Str} {txt : Str} {mg mb : Str → Option Value} {s : Shared}
theorem made_run (T : Txt prog K C fI fl txt) {f0 : Str} {fs : List Str} (hfl : fl = f0 :: fs) (hn100 : fl.length ≤ 90) {vs : List Value} (hlen : vs.length = fl.length) (X : K.In s.heap) (hlim : s.heap.NoLimit) (hg : s.heap.Ns mainGlobals mg) (hsup : mg "super" = none) (hb : s.heap.Ns builtinsNs mb) (hbb : mb "super" = bootBuiltins "super")
    (hroom : A.depth + 1 < recursionLimit) (hself : ("self" : Str) ∉ fl) (hnd : fl.Nodup)
    (hq : ∀ h' tk e d, MadeX s.heap h' e C d (fl.zip vs).reverse → R (.ok (.ret (.ref e))) { s with heap := h', toks := tk }) : codeAny (model prog w) A (.call (.ref C) ⟨vs, []⟩) R s := by
  obtain ⟨nm, qq, N, bs, bm, sn, sub, ab, col, dd, k0, k1, k2, k3, k5, hC, hbm, hal⟩ := T.cls
  obtain ⟨hp, g, dr, tk, os⟩ := s
  have k : ∀ b o, hp.get? b = some o → ((hp.push (kdv_tup vs)).push (excO C hp.objs.size)).get? b = some o := fun b o e => Heap.get?_push_of_some _ (Heap.get?_push_of_some _ e)
  have hget : ((hp.push (kdv_tup vs)).push (excO C hp.objs.size)).get? (hp.objs.size + 1) = some (excO C hp.objs.size) := by heap_get
  have hnx : K.lookup (hp.objs.size + 1) = none := by
    cases e : K.lookup (hp.objs.size + 1) with
    | none => rfl
    | some o => exact absurd (Nat.lt_of_succ_lt (Heap.lt_size (show hp.get? (hp.objs.size + 1) = some o from X _ _ e))) (Nat.lt_irrefl _)
  have z1 : vs.length ≤ sizeLine := by rw [hlen, sizeLine_eq]; omega
  refine call_own F.excBase_ValueError (fun Y => refsVE_contains Y bm hbm) (X _ _ hC) (looks_findIn X T.iC) (fun self => bind_fn X self T.tI) z1 ?_
  refine init_run (s := ⟨(hp.push (kdv_tup vs)).push (excO C hp.objs.size), g, dr, tk, os⟩) T hfl hn100 hlen (X.keeps k) (hlim.keeps k) (hg.keeps k) hsup (hb.keeps k) hbb hget hnx hroom hself hnd fun h' tk' dx t1 M => ?_
  have old : ∀ b o, hp.get? b = some o → h'.get? b = some o := fun b o e => M.keep b o (Nat.ne_of_lt (Nat.lt_succ_of_lt (Heap.lt_size e))) (k b o e)
  have z : hp.objs.size + 1 + 1 ≤ dx := by
    have q := M.dbig
    rw [Heap.size_push, Heap.size_push] at q
    exact q
  exact ⟨rfl, hq h' tk' (hp.objs.size + 1) dx ⟨old, Nat.le_succ _, ⟨_, _, M.obj, rfl, rfl, rfl, rfl⟩, Nat.le_trans (Nat.le_trans (Nat.le_succ _) (Nat.le_succ _)) z, M.dne, M.ns⟩⟩
end
end XF
end PySem
namespace G
open PySem PySem.Spec PyProof.Rows L2 PySem.XF
theorem relO_zip {f : Str} : ∀ {fl : List Str} {vs : List V} {us : List Value}, Vals vs us → RelO ((fl.zip vs).lookup f) ((fl.zip us).lookup f)
  | [], _, _, _ => trivial
  | _ :: _, _, _, .nil => trivial
  | g :: fl, _, _, .cons r rs => by
    rw [List.zip_cons_cons, List.zip_cons_cons, List.lookup_cons, List.lookup_cons]
    cases z : (f == g) with
    | true => exact r
    | false => exact relO_zip rs
/-- an own class of errors with fields -/
structure Xf (P : Program) (K : PySem.W.Frag) (mg : Str → Option Value) (c : Str) (fl : List Str) : Prop where
  ex : ∃ (C fI : Addr) (txt : Str), mg c = some (.ref C) ∧ Txt P K C fI fl txt ∧ PySem.W.keepIn K (.ref C) = true ∧ PySem.W.subIn K (.ref C) (.type "BaseException") = some true ∧ PySem.W.typeIn K (.ref C) = some (.type "type") ∧ PySem.W.exmOne K (.ref C) (.ref C) = some true ∧ XfC K C
  ne : fl ≠ []
  len : fl.length ≤ 90
  self : ("self" : Str) ∉ fl
  nd : fl.Nodup
  sup : mg "super" = none
section
variable {X : Cx} {W : WX} {q : Bool} {P : Nat → Bool} {c : Str} {fl : List Str}
/-- X(e, ..) -/
def tMkX (C : Addr) (fl : List Str) (ta : TA) : L2.St → Hp → XK → Prop := fun σ H Q => ta σ H fun vs H1 => vs.length = fl.length ∧ ∀ d, H1 d = none → Q (.ref C) (some d) (upd H1 d (.xd (fl.zip vs).reverse))
theorem pmk_xf {C fI : Addr} {txt : Str} {a : Expr} {as : List Expr} {ta : TA} {p pos : Pos} {k : Nat} (T : Txt X.prog X.K C fI fl txt) (hm : X.mg c = some (.ref C)) (kC : PySem.W.keepIn X.K (.ref C) = true) (exC : PySem.W.subIn X.K (.ref C) (.type "BaseException") = some true) (tyC : PySem.W.typeIn X.K (.ref C) = some (.type "type"))
    (hne : fl ≠ []) (h90 : fl.length ≤ 90) (hself : ("self" : Str) ∉ fl) (hnd : fl.Nodup) (hsup : X.mg "super" = none) (hr : Room k X.A) (ha : PA X (a :: as) ta) (hg : Gl X c) (hdb : (c == ("__debug__" : Str)) = false := by decide)
    (he : starEach (a :: as) X.env = (false, eval a X.env) :: starEach as X.env := by rfl) (hpl : (backTo pos (starEach as X.env)).any (·.1) = false := by rfl) : PMk X (.Call (.Name c p) (a :: as) [] pos) (tMkX C fl ta) := by
  intro pins s σ H Q I h
  refine wpAny_Call_Name_kw (ld_glob I hg hm ?_ hdb)
  refine PySem.W.callWith_K (h₀ := X.base) I.ok.mod.kin kC (thn (ha.run pos pins s σ H _ I h) fun us s1 hh => ?_) he hpl
  obtain ⟨vs, H1, I1, rv, ev, q1⟩ := hh
  refine ⟨I1.kIn, ?_⟩
  show wpAny _ _ (call (.ref C) us) _ _ _
  obtain ⟨f0, fs, hfl⟩ : ∃ f0 fs, fl = f0 :: fs := by
    cases fl with
    | nil => exact absurd rfl hne
    | cons f0 fs => exact ⟨f0, fs, rfl⟩
  have hlim := I1.nolimit
  obtain ⟨mb, hbl, hbb⟩ := I1.ok.mod.blt
  have hul : us.length = fl.length := rv.length.symm.trans ev
  obtain ⟨hp, g, dr, tk, os⟩ := s1
  refine wpAny_call (made_run T hfl h90 hul I1.kIn hlim (I1.ok.mod.glob.keeps I1.bk) hsup (hbl.keeps I1.bk) (hbb _ (by decide)) (by have := hr.dp; omega) hself hnd fun h' tk' e d M => ?_)
  show MkP X pins σ Q (.ref e) ⟨h', g, dr, tk', os⟩
  obtain ⟨oe, fv, hoe, hc, hd, hdat, h1⟩ := M.obj
  have hns := M.ns
  obtain ⟨G', g1, g2⟩ := restrict h' fun b => decide (b ≠ e)
  have gk : ∀ b, b ≠ e → G'.get? b = h'.get? b := fun b hb => g1 b (decide_eq_true hb)
  have ge : G'.get? e = none := g2 e (by simp)
  have old : ∀ b o, hp.get? b = some o → G'.get? b = some o := fun b o q => (gk b (Nat.ne_of_lt (Nat.lt_of_lt_of_le (Heap.lt_size q) M.new))).trans (M.keep b o q)
  have ndv : ((fl.zip vs).map Prod.fst).Nodup := by rw [zip_fst ev.symm]; exact hnd
  have ndu : ((fl.zip us).map Prod.fst).Nodup := by rw [zip_fst hul.symm]; exact hnd
  have rel : ∀ f, RelO ((fl.zip vs).reverse.lookup f) (soN (fl.zip us).reverse f) := fun f => by
    show RelO _ ((fl.zip us).reverse.lookup f)
    rw [lk_eq ndv, lk_eq ndu]
    exact relO_zip rv
  have ob : ObjOk X.prog X.w (upd H1 d (.xd (fl.zip vs).reverse)) G' d (.xd (fl.zip vs).reverse) := ⟨_, hns.at (fun o q => (gk d M.dne).trans q), rel⟩
  have J : L2.Inv X pins σ (upd H1 d (.xd (fl.zip vs).reverse)) ⟨G', g, dr, tk', os⟩ := I1.laid (t' := tk') old M.dbig ob
  refine ⟨e, oe, fv, ⟨G', g, dr, tk', os⟩, _, .ref C, some d, rfl, J, fun b o q => ?_, ge, hoe, ⟨hc, hd⟩, hdat, h1, ?_, rfl, I1.bare, raises_own exC tyC, q1 d (I1.hok.fresh M.dbig)⟩
  · by_cases hb : b = e
    · have q' : G'.get? b = some o := q
      rw [hb, ge] at q'
      cases q'
    · exact (gk b hb).symm.trans q
  · rw [upd_ne (Ne.symm M.dne)]
    exact I1.hok.fresh M.new
end
end G

namespace G
open PySem PySem.Spec PyProof.Rows L2
section
variable {X : Cx} {W : WX} {q : Bool} {P : Nat → Bool} {c : Str} {fl : List Str}
def raiseF (c : Str) (fl : List Str) (m : M (List D)) : M Fl := bnd m fun ds => fun ρ => if ds.length = fl.length then some (.error ⟨c, (fl.zip ds).reverse⟩, ρ) else none
@[simp] theorem s_raiseF (c : Str) (fl : List Str) (m : M (List D)) (ρ : En) : raiseF c fl m ρ = bnd m (fun ds => fun ρ => if ds.length = fl.length then some (.error ⟨c, (fl.zip ds).reverse⟩, ρ) else none) ρ := rfl
theorem RepsF.reverse {K : PySem.W.Frag} {B : Hp} : ∀ {ds : List D} {xs : List V}, RepsF K B ds xs → RepsF K B ds.reverse xs.reverse
  | [], xs, h => by rw [show xs = [] from h]; exact RepsF.nil
  | d :: ds, _, ⟨x, xs', e, r, rs⟩ => by
    rw [e, List.reverse_cons, List.reverse_cons]
    exact (RepsF.reverse (RepsF.of rs)).append (RepsF.cons (RepF.of r) RepsF.nil)
theorem zip_snd {α β : Type} : ∀ {a : List α} {b : List β}, a.length = b.length → (a.zip b).map Prod.snd = b
  | [], [], _ => rfl
  | x :: a, y :: b, h => by rw [List.zip_cons_cons, List.map_cons, zip_snd (by simpa using h)]
  | [], _ :: _, h => by simp at h
  | _ :: _, [], h => by simp at h
theorem zip_fst' {α β : Type} : ∀ {a : List α} {b : List β}, a.length = b.length → (a.zip b).map Prod.fst = a
  | [], [], _ => rfl
  | x :: a, y :: b, h => by rw [List.zip_cons_cons, List.map_cons, zip_fst' (by simpa using h)]
  | [], _ :: _, h => by simp at h
  | _ :: _, [], h => by simp at h
theorem psm_raiseF {a : Expr} {as : List Expr} {m : M (List D)} {p pos pos' : Pos} {k : Nat} (x : Xf X.prog X.K X.mg c fl) (hc : X.calm = true) (tk : Takes X W) (hr : Room k X.A) (hg : Gl X c) (ha : PAM X W q (a :: as) m) (hdb : (c == ("__debug__" : Str)) = false := by decide)
    (he : starEach (a :: as) X.env = (false, eval a X.env) :: starEach as X.env := by rfl) (hpl : (backTo pos (starEach as X.env)).any (·.1) = false := by rfl) :
    PSM X W P (.Raise (some (.Call (.Name c p) (a :: as) [] pos)) none pos') (raiseF c fl m) := by
  obtain ⟨C, fI, txt, h1, T, h3, h4, h5, h6, h7⟩ := x.ex
  refine ps_imp (ps_raise hc tk (pmk_xf T h1 h3 h4 h5 x.ne x.len x.self x.nd x.sup hr ha hg hdb he hpl)) fun D σ H h => ?_
  show tMkX C fl _ σ H _
  refine canE_S h fun ds B ρ1 F H1 fp1 vs r ρ' hm E rl post => ?_
  have hm : (if ds.length = fl.length then some (Except.error (⟨c, (fl.zip ds).reverse⟩ : Xn), ρ1) else none) = some (r, ρ') := hm
  split at hm
  case isFalse => cases hm
  case isTrue hl =>
  cases hm
  have lv : vs.length = fl.length := (Reps.length rl).trans hl
  refine ⟨lv, fun d hd => ?_⟩
  have ex := Ext.obj E.bh hd (HO.xd (fl.zip vs).reverse)
  refine post _ _ σ fp1 (.ref C) (some d) ex.bb (E.ext ex) Pin.refl ⟨C, h1, rfl, .inr ⟨d, (fl.zip vs).reverse, rfl, upd_same, ?_, ?_⟩⟩
  · show ((fl.zip vs).reverse).map Prod.fst = ((fl.zip ds).reverse).map Prod.fst
    rw [List.map_reverse, List.map_reverse, zip_fst' lv.symm, zip_fst' hl.symm]
  · show RepsF X.K _ (((fl.zip ds).reverse).map Prod.snd) (((fl.zip vs).reverse).map Prod.snd)
    rw [List.map_reverse, List.map_reverse, zip_snd lv.symm, zip_snd hl.symm]
    exact RepsF.reverse (RepsF.mono ex.bb rl)

open Classical in
/-- s: the suite, told the error's places; what it does may not hang on them -/
noncomputable def tryA (c : Str) (i : Nat) (known : List Str) (b : M Fl) (s : Addr → Addr → M Fl) : M Fl := fun ρ => match b ρ with
  | some (.error x, ρ') => if x.cls = c then (if h : ∃ p : Fl × En, (i < ρ'.length ∧ x.fl ≠ []) ∧ ∀ a d, ∃ ρ3, s a d (ρ'.set i (some (.exc a d (x.fl.map Prod.fst) (x.fl.map Prod.snd)))) = some (.ok p.1, ρ3) ∧ ρ3.set i none = p.2 then some (.ok (choose h).1, (choose h).2) else none)
    else if x.cls ∈ known then some (.error x, ρ') else none
  | r => r
theorem s_tryA_ok {i : Nat} {known : List Str} {b : M Fl} {s : Addr → Addr → M Fl} {ρ ρ' : En} {f : Fl} (h : b ρ = some (.ok f, ρ')) : tryA c i known b s ρ = some (.ok f, ρ') := by
  unfold tryA; rw [h]
theorem s_tryA_err {i : Nat} {known : List Str} {b : M Fl} {s : Addr → Addr → M Fl} {ρ ρ' ρ2 : En} {x : Xn} {f : Fl} (h : b ρ = some (.error x, ρ')) (hx : x.cls = c) (hi : i < ρ'.length) (hne : x.fl ≠ [])
    (hs : ∀ a d, ∃ ρ3, s a d (ρ'.set i (some (.exc a d (x.fl.map Prod.fst) (x.fl.map Prod.snd)))) = some (.ok f, ρ3) ∧ ρ3.set i none = ρ2) : tryA c i known b s ρ = some (.ok f, ρ2) := by
  have hh : ∃ p : Fl × En, (i < ρ'.length ∧ x.fl ≠ []) ∧ ∀ a d, ∃ ρ3, s a d (ρ'.set i (some (.exc a d (x.fl.map Prod.fst) (x.fl.map Prod.snd)))) = some (.ok p.1, ρ3) ∧ ρ3.set i none = p.2 := ⟨(f, ρ2), ⟨hi, hne⟩, hs⟩
  unfold tryA
  rw [h]
  simp only
  rw [if_pos hx, dif_pos hh]
  obtain ⟨ρ3, h1, h2⟩ := hs 0 0
  obtain ⟨ρ4, h3, h4⟩ := (Classical.choose_spec hh).2 0 0
  rw [h1] at h3
  have h3 := Option.some.inj h3
  have a1 : Except.ok f = Except.ok (Classical.choose hh).1 := congrArg Prod.fst h3
  have a2 : ρ3 = ρ4 := congrArg Prod.snd h3
  subst a2
  rw [← h4, h2]
  rw [Except.ok.inj a1]
/-- e.f in the suite -/
def eXf (i : Nat) (a d : Addr) (f : Str) : M D := fun ρ => match ρ[i]? with
  | some (some (.exc a' d' ks ds)) => if a' = a ∧ d' = d ∧ ks.length = ds.length then (match (ks.zip ds).lookup f with
    | some v => some (.ok v, ρ)
    | none => none) else none
  | _ => none
end
theorem pem_xf {X : Cx} {W : WX} {c : Str} {fl : List Str} {P0 : Program} {i : Nat} {a d C : Addr} {oe : Obj} {pn : List (Addr × Obj)} {n f : Str} {np pos : Pos} (x : Xf P0 X.K X.mg c fl) (hm : X.mg c = some (.ref C)) (hfl : f ∈ fl) (hz : Zc (.ref C) (some d) oe) (hf : ∃ vs, oe.data = .fields vs)
    (he : PE (X.suite a ((a, oe) :: pn)) (.Name n np) (tVar i)) (hb : attributeBase (.Name n np) f X.env (eval (.Name n np) X.env) = eval (.Name n np) X.env := by rfl) : PEM (X.suite a ((a, oe) :: pn)) W true (.Attribute (.Name n np) f pos) (eXf i a d f) := by
  obtain ⟨C', fI, txt, h1, T, h3, h4, h5, h6, h7⟩ := x.ex
  rw [hm] at h1
  cases h1
  refine pe_imp (pe_xf h7 (T.noN f hfl) hz hf he hb) fun σ H Q h => ?_
  obtain ⟨B, F, ρ, fp, r, ρ', E, hm', post⟩ := h
  unfold eXf at hm'
  split at hm'
  · rename_i a' d' ks ds e1
    split at hm'
    · rename_i hc
      obtain ⟨rfl, rfl, hl⟩ := hc
      split at hm'
      · rename_i v ev
        cases hm'
        obtain ⟨u, h8, fs, rfl, h9, h10, h11⟩ := E.rep i _ e1
        have hlen := Reps.length h11
        have look : ∀ {fs : List (Str × V)} {ks : List Str} {ds : List D} {v : D}, fs.map Prod.fst = ks → RepsF X.K B ds (fs.map Prod.snd) → (ks.zip ds).lookup f = some v → ∃ w, fs.lookup f = some w ∧ RepF X.K B v w := by
          intro fs
          induction fs with
          | nil =>
            intro ks ds v e r l
            subst e
            simp at l
          | cons p fs ih =>
            intro ks ds v e r l
            subst e
            cases ds with
            | nil => simp at l
            | cons d0 ds =>
              obtain ⟨y, ys, e3, ry, rys⟩ := r
              have e4 : p.2 = y ∧ fs.map Prod.snd = ys := by simpa using e3
              rw [List.map_cons, List.zip_cons_cons, List.lookup_cons] at l
              rw [List.lookup_cons]
              cases z : (f == p.1) with
              | true =>
                rw [z] at l
                cases l
                exact ⟨p.2, rfl, by rw [e4.1]; exact RepF.of ry⟩
              | false =>
                rw [z] at l
                exact ih rfl (by rw [e4.2]; exact RepsF.of rys) l
        obtain ⟨w, l1, l2⟩ := look h10 (RepsF.of h11) ev
        exact ⟨.ref a', h8, rfl, rfl, d', fs, w, rfl, E.bh _ _ h9, l1, post B H fp w (fun _ _ z => z) E l2 fun _ => ⟨rfl, rfl, Ext.refl E.bh⟩⟩
      · cases hm'
    · cases hm'
  · cases hm'
theorem psm_tryA {X : Cx} {W : WX} {P : Nat → Bool} {c n : Str} {i : Nat} {known : List Str} {C : Addr} {body suite : List Stmt} {b₀ : Stmt} {np pos pos' : Pos} {b : M Fl} {s : Addr → Addr → M Fl} (hs : X.stack = X.env :: X.outer) (hf : X.env.frame = some X.env.locals) (hN : X.N.Nodup) (hi : X.N[i]? = some n) (hln : X.env.kindOf n = some .local)
    (hc : Names X c (.ref C)) (tk : Takes X W) (hgc : X.mg c = some (.ref C)) (hx1 : PySem.W.exmOne X.K (.ref C) (.ref C) = some true) (hx : ∀ k ∈ known, ∀ C', X.mg k = some (.ref C') → PySem.W.exmOne X.K (.ref C') (.ref C) = some false) (hp : P i = false)
    (hb : ∀ (W' : WX) (pn : List (Addr × Obj)) (xe : Value → Shared → Prop), Takes (X.tr pn xe) W' → PassesOwn (model X.prog X.w) X.A X.env xe → PSsM (X.tr pn xe) W' P body b)
    (hsu : ∀ (a d : Addr) (oe : Obj) (pn : List (Addr × Obj)), Zc (.ref C) (some d) oe → (∃ vs, oe.data = .fields vs) → PSsM (X.suite a ((a, oe) :: pn)) W0 P (b₀ :: suite) (s a d)) :
    PSM X W P (.Try body [.ExceptHandler (some (.Name c np)) (some n) (b₀ :: suite) pos'] [] [] pos) (tryA c i known b s) :=
  ps_imp (ps_try_as (i := i) (tb := fun W' => canS X.K X.mg W' P b) (ts := fun a cls d D σ H => ∃ dd, cls = .ref C ∧ d = some dd ∧ canS X.K X.mg W0 P (s a dd) D σ H) (Wout := W) hs hf hN hi hln hc tk hb fun a oe cls d pn hz hdat => ⟨fun pins t σ H D I h => by
      obtain ⟨dd, rfl, rfl, h⟩ := h
      exact (hsu a dd oe pn hz hdat).run pins t σ H D I h⟩) fun D σ H h => by
    obtain ⟨B, F, ρ, fp, r, ρ', E, hm, post⟩ := h
    unfold tryA at hm
    cases e1 : b ρ with
    | none => rw [e1] at hm; cases hm
    | some p =>
      obtain ⟨r1, ρ1⟩ := p
      rw [e1] at hm
      refine ⟨B, F, ρ, fp, r1, ρ1, E, e1, ?_⟩
      cases r1 with
      | ok f =>
        have hm : some (Except.ok f, ρ1) = some (r, ρ') := hm
        cases hm
        cases f <;> exact post
      | error y =>
        simp only at hm
        intro B' H' σ' fp' cls dd sb E' pn xr
        obtain ⟨C', h1, h2, h3⟩ := xr
        split at hm
        · rename_i hy
          rw [hy, hgc] at h1
          cases h1
          refine ⟨true, by rw [h2]; exact hx1, fun _ a _ => ?_, fun z => nomatch z⟩
          split at hm
          case isFalse => cases hm
          case isTrue hh =>
          obtain ⟨⟨hlen, hne⟩, hall⟩ := Classical.choose_spec hh
          generalize Classical.choose hh = pr at hm hlen hall
          cases hm
          rcases h3 with ⟨h4, _⟩ | ⟨d, fs, h4, h5, h6, h7⟩
          · exact absurd h4 hne
          subst h4
          obtain ⟨ρ3, h8, h9⟩ := hall a d
          refine ⟨d, h2, rfl, B', F, _, _, .ok pr.1, ρ3, E'.set hlen (ValOk.of (d := .exc a d (y.fl.map Prod.fst) (y.fl.map Prod.snd)) (v := .ref a) ⟨fs, rfl, h5, h6, h7⟩), h8, ?_⟩
          have post2 := post.up sb pn
          have pin2 : ∀ {σ2 : L2.St}, Pin P (σ'.set i (some (.ref a))) σ2 → Pin P σ' (σ2.set i none) := fun p => ((Pin.set hp).trans p).trans (Pin.set hp)
          rw [← h9] at post2
          cases hf1 : pr.1 with
          | nx => rw [hf1] at post2; exact fun B2 H2 σ2 fp2 s2 E2 p2 => post2 B2 H2 _ fp2 s2 (E2.lose (o := none)) (pin2 p2)
          | bk => rw [hf1] at post2; exact fun B2 H2 σ2 fp2 s2 E2 p2 => post2 B2 H2 _ fp2 s2 (E2.lose (o := none)) (pin2 p2)
          | ct => rw [hf1] at post2; exact fun B2 H2 σ2 fp2 s2 E2 p2 => post2 B2 H2 _ fp2 s2 (E2.lose (o := none)) (pin2 p2)
          | rt v => rw [hf1] at post2; exact fun B2 H2 σ2 fp2 u S s2 E2 p2 vo => post2 B2 H2 _ fp2 u S s2 (E2.lose (o := none)) (pin2 p2) vo
        · split at hm
          · rename_i hk
            cases hm
            refine ⟨false, by rw [h2]; exact hx _ hk C' h1, (fun z => nomatch z), fun _ => ?_⟩
            exact post B' H' σ' fp' cls dd sb E' pn ⟨C', h1, h2, h3⟩
          · cases hm
/-- try: .. except c as n: .., nothing else is raised within -/
theorem psm_tryF {X : Cx} {W : WX} {P : Nat → Bool} {P0 : Program} {c n : Str} {fl : List Str} {i : Nat} {body suite : List Stmt} {b₀ : Stmt} {np pos pos' : Pos} {b : M Fl} {s : Addr → Addr → M Fl} (x : Xf P0 X.K X.mg c fl) (hs : X.stack = X.env :: X.outer) (hf : X.env.frame = some X.env.locals) (hN : X.N.Nodup) (hi : X.N[i]? = some n) (hln : X.env.kindOf n = some .local)
    (hg : Gl X c) (tk : Takes X W) (hp : P i = false)
    (hb : ∀ (W' : WX) (pn : List (Addr × Obj)) (xe : Value → Shared → Prop), Takes (X.tr pn xe) W' → PassesOwn (model X.prog X.w) X.A X.env xe → PSsM (X.tr pn xe) W' P body b)
    (hsu : ∀ (C a d : Addr) (oe : Obj) (pn : List (Addr × Obj)), X.mg c = some (.ref C) → Zc (.ref C) (some d) oe → (∃ vs, oe.data = .fields vs) → PSsM (X.suite a ((a, oe) :: pn)) W0 P (b₀ :: suite) (s a d)) (hdb : (c == ("__debug__" : Str)) = false := by decide) :
    PSM X W P (.Try body [.ExceptHandler (some (.Name c np)) (some n) (b₀ :: suite) pos'] [] [] pos) (tryA c i [] b s) := by
  obtain ⟨C, fI, txt, h1, T, h3, h4, h5, h6, h7⟩ := x.ex
  exact psm_tryA hs hf hN hi hln ⟨hg, hdb, .inl h1⟩ tk h1 h6 (fun k z => by cases z) hp hb fun a d oe pn hz hd => hsu C a d oe pn h1 hz hd
end G

namespace G
open PySem PySem.Spec PyProof.Rows L2
section
variable {X : Cx} {W : WX} {q q1 q2 q3 : Bool} {P : Nat → Bool}
def blsOf : List D → Option (List Bool)
  | [] => some []
  | .bl b :: ds => (blsOf ds).map (b :: ·)
  | _ => none
theorem blsOf_rep {K : PySem.W.Frag} {B : Hp} : ∀ {ds : List D} {bs : List Bool} {xs : List V}, blsOf ds = some bs → RepsF K B ds xs → xs = bs.map V.bl
  | [], bs, xs, h, r => by simp [blsOf] at h; subst h; exact r
  | d :: ds, bs, xs, h, ⟨x, xs', e, r, rs⟩ => by
    cases d <;> simp [blsOf] at h
    obtain ⟨bs', h1, rfl⟩ := h
    rw [e, blsOf_rep h1 (RepsF.of rs), show x = _ from r]
    rfl
def allD : D → Option D
  | .lst false ds => (blsOf ds).map fun bs => .bl (bs.all id)
  | _ => none
def anyD : D → Option D
  | .lst false ds => (blsOf ds).map fun bs => .bl (bs.any id)
  | _ => none
theorem cd_all (hc : X.calm = true) : CallS X (.builtin "all") (f1 allD) := ⟨_, cr_all hc, f1_sem fun B H x z u s rx e Q k => by
  cases x with
  | lst o ds =>
    cases o with
    | true => cases e
    | false =>
      obtain ⟨bs, hb, rfl⟩ := Option.map_eq_some_iff.mp e
      obtain ⟨a, xs, rfl, qa, r⟩ := rx
      have := blsOf_rep hb (RepsF.of r)
      subst this
      exact ⟨a, bs, rfl, sqL_mono s (sqL_of qa), k B H _ (Ext.refl s) rfl⟩
  | _ => cases e⟩
theorem cd_any (hc : X.calm = true) : CallS X (.builtin "any") (f1 anyD) := ⟨_, cr_any hc, f1_sem fun B H x z u s rx e Q k => by
  cases x with
  | lst o ds =>
    cases o with
    | true => cases e
    | false =>
      obtain ⟨bs, hb, rfl⟩ := Option.map_eq_some_iff.mp e
      obtain ⟨a, xs, rfl, qa, r⟩ := rx
      have := blsOf_rep hb (RepsF.of r)
      subst this
      exact ⟨a, bs, rfl, sqL_mono s (sqL_of qa), k B H _ (Ext.refl s) rfl⟩
  | _ => cases e⟩
def setD (i : Nat) (d k : D) : M Fl := fun ρ => match ρ[i]?, k with
  | some (some (.lst true ds)), .int j => (match ixN ds.length j with
    | some n => if isFs ds = true then some (.ok .nx, ρ.set i (some (.lst true (ds.set n d)))) else none
    | none => none)
  | _, _ => none
/-- slot i's own list, its item n is e -/
def sIx (i : Nat) (e n : M D) : M Fl := bnd e fun d => fun ρ => match ρ[i]? with
  | some (some (.lst true _)) => bnd n (setD i d) ρ
  | _ => none
theorem RepsF.set {K : PySem.W.Frag} {B : Hp} : ∀ {ds : List D} {xs : List V} {n : Nat} {d : D} {x : V}, RepsF K B ds xs → RepF K B d x → RepsF K B (ds.set n d) (xs.set n x)
  | [], xs, _, _, _, h, _ => by rw [show xs = [] from h]; exact RepsF.nil
  | d0 :: ds, _, 0, _, _, ⟨y, ys, e, r, rs⟩, hd => by rw [e]; exact RepsF.cons hd (RepsF.of rs)
  | d0 :: ds, _, n + 1, _, _, ⟨y, ys, e, r, rs⟩, hd => by rw [e]; exact RepsF.cons (RepF.of r) (RepsF.set (RepsF.of rs) hd)
theorem psm_setix {i : Nat} {x : Str} {xp sp pos : Pos} {e n : Expr} {m k : M D} (he : PEM X W q1 e m) (hn : PEM X W q2 n k) (hN : X.N[i]? = some x) (hv : Vis X.env.scope x := by first | exact Or.inl rfl | exact Or.inr (Or.inl rfl) | exact Or.inr (Or.inr rfl))
    (hd : (x == ("__debug__" : Str)) = false := by decide) (hcd : (x == ("__classdict__" : Str)) = false := by decide) 
    (hpl : ∀ v, assign (.Subscript (.Name x xp) n sp) X.env v = (do
      let ov ← holding [v] (eval (.Name x xp) X.env)
      let iv ← holding [v, ov] (eval n X.env)
      standAt sp
      holding [v, ov, iv] (setItem ov iv v)
      release [v, ov, iv] []) := by intro _; rfl)
    (hs : swapsWithSole [.Subscript (.Name x xp) n sp] e pos.line X.env = pure false := by rfl) (hw : swappedStores [.Subscript (.Name x xp) n sp] e X.env = pure none := by rfl) (h1 : (assignEach [.Subscript (.Name x xp) n sp] X.env).map (·.2) = [assign (.Subscript (.Name x xp) n sp) X.env] := by rfl) :
    PSM X W P (.Assign [.Subscript (.Name x xp) n sp] e pos) (sIx i m k) := by
  refine ps_imp (ps_asg he (pg_sub (pe_var (i := i) hN hv hd hcd) hn set_list hpl) hs hw h1) fun D σ H h => ?_
  refine canE_S h fun d B ρ1 F H1 fp1 w r ρ' hm E rl post => ?_
  have hm : (match ρ1[i]? with
    | some (some (.lst true _)) => bnd k (setD i d) ρ1
    | _ => none) = some (r, ρ') := hm
  split at hm
  case h_2 => cases hm
  case h_1 ds0 e0 =>
  obtain ⟨v, h2, a0, xs0, T0, e1, S0, hx0, p0, r0⟩ := E.rep i _ e0
  subst e1
  refine ⟨.ref a0, h2, ?_⟩
  refine can_bnd E hm post.err fun kd ρ2 B2 H2 fp2 iv hm2 s2 E2 rk _ => ?_
  unfold setD at hm2
  split at hm2
  case h_2 => cases hm2
  case h_1 ds1 j e3 =>
  split at hm2
  case h_2 => cases hm2
  case h_1 n1 e4 =>
  split at hm2
  case isFalse => cases hm2
  case isTrue hf =>
  cases hm2
  obtain ⟨v1, h3, a1, xs1, T1, e5, S1, hx1, p1, r1⟩ := E2.rep i _ e3
  rw [h2] at h3
  cases h3
  cases e5
  cases (show iv = V.int j from rk)
  have rf : RepsF X.K B2 ds1 xs1 := Reps.isFs' ds1 hf r1
  have hl := Reps.length rf
  refine ⟨a0, xs1, j, n1, rfl, rfl, hx1, by rw [hl]; exact e4, ?_⟩
  have hB : B2 a0 = none := (E2.out i a0 S1).1
  have hF : F a0 = none := (E2.out i a0 S1).2
  have hi : i < ρ2.length := by
    rcases Nat.lt_or_ge i ρ2.length with z | z
    · exact z
    · rw [List.getElem?_eq_none z] at e3; cases e3
  refine post B2 (upd H2 a0 (.lst (xs1.set n1 w))) σ fp2 s2 ⟨fun b o e => ?_, fun b o e => ?_, E2.bf, fun j d' e => ?_, E2.apart, E2.out, fun j b z => ?_, by rw [List.length_set]; exact E2.len⟩ Pin.refl
  · have : b ≠ a0 := fun z => by rw [z, hB] at e; cases e
    rw [upd_ne this]; exact E2.bh b o e
  · have : b ≠ a0 := fun z => by rw [z, hF] at e; cases e
    rw [upd_ne this]; exact E2.fh b o e
  · by_cases hj : i = j
    · subst hj
      rw [List.getElem?_set_self hi] at e
      cases e
      exact ⟨.ref a0, h2, a0, xs1.set n1 w, noT, rfl, S1, upd_same, ⟨fun _ _ z => z.elim, fun _ _ _ z => z.elim⟩, RepsF.to (RepsF.set rf (RepF.mono s2 rl))⟩
    · rw [List.getElem?_set_ne hj] at e
      obtain ⟨u, g1, g2⟩ := E2.rep j d' e
      exact ⟨u, g1, Rep.mono (fun _ _ z => z) d' (fun b z => upd_ne fun q => hj (E2.apart i j b (by rw [q]; exact S1) z)) (fun _ z => z) g2⟩
  · by_cases q : b = a0
    · rw [q, upd_same]; simp
    · rw [upd_ne q]; exact E2.live j b z
def keyOf : D → Option Key
  | .int i => some (.inl i)
  | .str x => some (.inr x)
  | _ => none
def dkOf : D → Option (List Key × List D)
  | .dk false ks ds => some (ks, ds)
  | _ => none
def getK : List Key → List D → Key → Option D
  | k :: ks, d :: ds, y => if k = y then some d else getK ks ds y
  | _, _, _ => none
theorem keyOf_rep {K : PySem.W.Frag} {B : Hp} {d : D} {k : Key} {v : V} (h : keyOf d = some k) (r : RepF K B d v) : v = kV k := by
  cases d <;> simp [keyOf] at h <;> subst h <;> exact r
theorem getK_rep {K : PySem.W.Frag} {B : Hp} {y : Key} : ∀ {kvs : List (Key × V)} {ks : List Key} {ds : List D}, kvs.map Prod.fst = ks → RepsF K B ds (kvs.map Prod.snd) → (getK ks ds y = none ∧ valV kvs y = none) ∨ ∃ d v, getK ks ds y = some d ∧ valV kvs y = some v ∧ RepF K B d v
  | [], ks, ds, e, r => by
    subst e
    exact .inl ⟨by cases ds <;> rfl, rfl⟩
  | p :: kvs, ks, ds, e, r => by
    subst e
    cases ds with
    | nil => cases (show p.2 :: kvs.map Prod.snd = [] from r)
    | cons d ds =>
      obtain ⟨x, xs, e2, rx, rxs⟩ := r
      have e3 : p.2 = x ∧ kvs.map Prod.snd = xs := by simpa using e2
      have eg : getK ((p :: kvs).map Prod.fst) (d :: ds) y = if p.1 = y then some d else getK (kvs.map Prod.fst) ds y := rfl
      rw [eg]
      by_cases z : p.1 = y
      · rw [if_pos z, valV_pos z]
        exact .inr ⟨d, p.2, rfl, rfl, by rw [e3.1]; exact RepF.of rx⟩
      · rw [if_neg z, valV_neg z]
        exact getK_rep rfl (by rw [e3.2]; exact RepsF.of rxs)
def eDG2 (m n o : M D) : M D := bnd m fun x => bnd (ofO (dkOf x)) fun p => bnd n fun y => bnd o fun z => ofO ((keyOf y).map fun k => (getK p.1 p.2 k).getD z)
@[simp] theorem s_eDG2 (m n o : M D) (ρ : En) : eDG2 m n o ρ = bnd m (fun x => bnd (ofO (dkOf x)) fun p => bnd n fun y => bnd o fun z => ofO ((keyOf y).map fun k => (getK p.1 p.2 k).getD z)) ρ := rfl
theorem pem_dget2 {o e f : Expr} {m n k : M D} {apos cpos : Pos} (hu : X.A.units + 1 < cLine) (ho : PEM X W q1 o m) (he : PEM X W q2 e n) (hf : PEM X W q3 f k) (mm : M2 X o "get" apos e f cpos := by exact ⟨rfl, rfl, rfl, rfl⟩) : PEM X W false (.Call (.Attribute o "get" apos) [e, f] [] cpos) (eDG2 m n k) :=
  pe_imp (pe_dget2 hu ho he hf mm) fun σ H Q h => by
    obtain ⟨B, F, ρ, fp, r0, ρ', E, hm, post⟩ := h
    refine can_bnd E hm post.err fun d ρ1 B1 H1 fp1 x hm1 s1 E1 rx _ => ?_
    cases d with
    | dk ow ks ds =>
      cases ow with
      | true => simp [bnd, ofO, dkOf] at hm1
      | false =>
        have hm1 : bnd n (fun y => bnd k fun z => ofO ((keyOf y).map fun k => (getK ks ds k).getD z)) ρ1 = some (r0, ρ') := hm1
        have rx0 : RepF X.K B1 (.dk false ks ds) x := rx
        obtain ⟨a, kvs, rfl, hB, hk, rr⟩ := rx0
        refine ⟨a, rfl, .inl ⟨kvs, .inl (E1.bh _ _ hB)⟩, ?_⟩
        refine can_bnd E1 hm1 (fun x e => (post.err x e).up s1) fun y ρ2 B2 H2 fp2 v hm2 s2 E2 ry _ => ?_
        refine can_bnd E2 hm2 (fun x e => (post.err x e).up (s1.trans s2)) fun z ρ3 B3 H3 fp3 w hm3 s3 E3 rz _ => ?_
        obtain ⟨u, e1, e2, e3⟩ := ofO_some hm3
        subst e2 e3
        obtain ⟨ky, h5, rfl⟩ := Option.map_eq_some_iff.mp e1
        have ev := keyOf_rep h5 ry
        subst ev
        have hH3 : H3 a = some (.dK kvs) := E3.bh _ _ (s3 _ _ (s2 _ _ hB))
        have rr3 := RepsF.mono (s2.trans s3) (RepsF.of rr)
        refine ⟨_, DGet.k hH3, post B3 H3 fp3 _ (s1.trans (s2.trans s3)) E3 ?_ fun z => by cases z⟩
        rcases getK_rep hk rr3 (y := ky) with ⟨g1, g2⟩ | ⟨d2, v2, g1, g2, g3⟩
        · rw [g1, g2]; exact rz
        · rw [g1, g2]; exact g3
    | _ => simp [bnd, ofO, dkOf] at hm1
/-- {'x': a, 'y': b, 'z': c}, a, b, c ints -/
theorem pem_dict3 {x y z : Str} {i j k : Int} {j1 j2 j3 j4 j5 j6 : Nat} {p1 p2 p3 p4 p5 p6 pos : Pos} (hxy : x ≠ y := by decide) (hxz : x ≠ z := by decide) (hyz : y ≠ z := by decide) :
    PEM X W true (.Dict [some (.Constant (.str x) j1 p1), some (.Constant (.str y) j2 p2), some (.Constant (.str z) j3 p3)] [.Constant (.int i) j4 p4, .Constant (.int j) j5 p5, .Constant (.int k) j6 p6] pos) (rt (.dk false [.inr x, .inr y, .inr z] [.int i, .int j, .int k])) :=
  pe_imp (pe_disp (pps_cons pe_str pe_int (pps_cons pe_str pe_int (pps_cons pe_str pe_int pps_nil))) (by rfl) (by rfl) (fun z => by cases z) (Nat.le_add_left 3 12)) fun σ H Q h => by
    obtain ⟨B, F, ρ, fp, r0, ρ', E, hm, post⟩ := h
    obtain ⟨e1, e2⟩ := rt_some hm
    subst e1 e2
    refine fun p hp => ⟨upd_same, [(.inr x, .int i), (.inr y, .int j), (.inr z, .int k)], rfl, Nat.le_add_left 3 12, ?_⟩
    have mg : mergeK [] [((.inr x : Key), V.int i), (.inr y, .int j), (.inr z, .int k)] = [(.inr x, .int i), (.inr y, .int j), (.inr z, .int k)] := by
      have n1 : ¬ ((.inr x : Key) = .inr y) := fun e => hxy (Sum.inr.inj e)
      have n2 : ¬ ((.inr x : Key) = .inr z) := fun e => hxz (Sum.inr.inj e)
      have n3 : ¬ ((.inr y : Key) = .inr z) := fun e => hyz (Sum.inr.inj e)
      simp [mergeK, putK, n1, n2, n3]
    rw [upd_upd, mg]
    exact post (upd B p (.dK [(.inr x, .int i), (.inr y, .int j), (.inr z, .int k)])) _ fp (.ref p) (Ext.obj E.bh hp _).bb (E.ext (Ext.obj E.bh hp _)) ⟨p, _, rfl, upd_same, rfl, RepsF.cons rfl (RepsF.cons rfl (RepsF.cons rfl RepsF.nil))⟩ fun _ => ⟨rfl, rfl, Ext.obj E.bh hp _⟩
/-- len(x), x an own list -/
def eLenO (i : Nat) : M D := fun ρ => match ρ[i]? with
  | some (some (.lst true ds)) => some (.ok (.int ds.length), ρ)
  | _ => none
@[simp] theorem s_eLenO (i : Nat) (ρ : En) : eLenO i ρ = match ρ[i]? with
  | some (some (.lst true ds)) => some (.ok (.int ds.length), ρ)
  | _ => none := rfl
theorem pem_lenO (i : Nat) {x : Str} {p p2 pos : Pos} (hg : Gl X "len") (hm : X.mg "len" = none) (hN : X.N[i]? = some x := by rfl) (hv : Vis X.env.scope x := by first | exact Or.inl rfl | exact Or.inr (Or.inl rfl) | exact Or.inr (Or.inr rfl))
    (hd : (x == ("__debug__" : Str)) = false := by decide) (hcd : (x == ("__classdict__" : Str)) = false := by decide) (hs : starEach (.Name x p2 :: []) X.env = (false, eval (.Name x p2) X.env) :: starEach [] X.env := by rfl) : PEM X W true (.Call (.Name "len" p) [.Name x p2] [] pos) (eLenO i) :=
  pe_imp (pe_callB call_len hg hm (by decide +kernel) (pa_cons (pe_var (i := i) hN hv hd hcd) pa_nil hs)) fun σ H Q h => by
    obtain ⟨B, F, ρ, fp, r, ρ', E, hm', post⟩ := h
    unfold eLenO at hm'
    split at hm'
    · rename_i ds e
      cases hm'
      obtain ⟨v, h1, a, xs, T, rfl, S0, hx, p0, r0⟩ := E.rep i _ e
      exact ⟨.ref a, h1, _, ds.length, rfl, .inl ⟨xs, SqL.of hx, (Reps.length r0).symm⟩, post B H fp _ (fun _ _ z => z) E rfl fun _ => ⟨rfl, rfl, Ext.refl E.bh⟩⟩
    · cases hm'
end
end G

namespace G
open PySem PySem.Spec PyProof.Rows L2
section
variable {X : Cx} {W : WX} {q q1 q2 q3 : Bool} {P : Nat → Bool}
theorem po_imp {X : Cx} {e : Option Expr} {t t' : TO} (h : PO X e t) (i : ∀ σ H Q, t' σ H Q → t σ H Q) : PO X e t' := ⟨fun pins s σ H Q I hw => h.run pins s σ H Q I (i σ H Q hw)⟩
abbrev relO : L2.St → Hp → Option Int → Option Int → Prop := fun _ _ b c => b = c
def POM (X : Cx) (W : WX) (q : Bool) (e : Option Expr) (m : M (Option Int)) : Prop := PO X e (can X.K X.mg W relO q m)
def asI : D → Option (Option Int)
  | .int i => some (some i)
  | _ => none
@[simp] theorem s_asI (i : Int) : asI (.int i) = some (some i) := rfl
def eI (m : M D) : M (Option Int) := bnd m fun d => ofO (asI d)
@[simp] theorem s_eI (m : M D) (ρ : En) : eI m ρ = bnd m (fun d => ofO (asI d)) ρ := rfl
theorem pom_none : POM X W true none (rt none) := po_imp po_none fun σ H Q h => by
  obtain ⟨B, F, ρ, fp, r, ρ', E, hm, post⟩ := h
  obtain ⟨e1, e2⟩ := rt_some hm
  subst e1 e2
  exact post B H fp none (fun _ _ z => z) E rfl fun _ => ⟨rfl, rfl, Ext.refl E.bh⟩
theorem pom_some {e : Expr} {m : M D} (h : PEM X W q e m) : POM X W q (some e) (eI m) := po_imp (po_some h) fun σ H Q hq =>
  can_map (rel' := relO) (f := asI) hq fun a b B1 H1 w e rl k => by
    cases a <;> simp [asI] at e
    subst e
    cases (show w = V.int _ from rl)
    exact ⟨_, rfl, k _ rfl⟩
/-- the items of ds[lo:hi] -/
def cutD (ds : List D) (lo hi : Option Int) : List D := (ds.drop (HT.sIx ds.length 0 lo)).take (HT.sIx ds.length ds.length hi - HT.sIx ds.length 0 lo)
def slcD : D → Option Int → Option Int → Option D
  | .tup ds, lo, hi => some (.tup (cutD ds lo hi))
  | .lst false ds, lo, hi => some (.lst false (cutD ds lo hi))
  | .str z, lo, hi => if z.length ≤ 1000000 then some (.str (cutS z lo hi)) else none
  | _, _, _ => none
@[simp] theorem s_slcT (ds : List D) (lo hi : Option Int) : slcD (.tup ds) lo hi = some (.tup (cutD ds lo hi)) := rfl
@[simp] theorem s_slcL (ds : List D) (lo hi : Option Int) : slcD (.lst false ds) lo hi = some (.lst false (cutD ds lo hi)) := rfl
theorem cut_rep {K : PySem.W.Frag} {B : Hp} {ds : List D} {xs : List V} {lo hi : Option Int} (h : RepsF K B ds xs) : RepsF K B (cutD ds lo hi) (cutV xs lo hi) := by
  unfold cutD cutV
  rw [h.length]
  exact RepsF.take _ (RepsF.drop _ h)
theorem cut_whole {K : PySem.W.Frag} {B : Hp} {ds : List D} {xs : List V} {lo hi : Option Int} (h : RepsF K B ds xs) (w : HT.sIx xs.length 0 lo = 0 ∧ HT.sIx xs.length xs.length hi = xs.length) : cutD ds lo hi = ds := by
  unfold cutD
  rw [← h.length, w.1, w.2, List.drop_zero, Nat.sub_zero, h.length, List.take_length]
def eSl (m : M D) (l h : M (Option Int)) : M D := bnd m fun x => bnd l fun a => bnd h fun b => ofO (slcD x a b)
@[simp] theorem s_eSl (m : M D) (l h : M (Option Int)) (ρ : En) : eSl m l h ρ = bnd m (fun x => bnd l fun a => bnd h fun b => ofO (slcD x a b)) ρ := rfl
theorem slc_sem {K : PySem.W.Frag} {B H : Hp} {x z : D} {u : V} {lo hi : Option Int} (s : Same B H) (rx : RepF K B x u) (e : slcD x lo hi = some z) {Q : VK} (k : ∀ B' H' w, Ext B H B' H' → RepF K B' z w → Q w H') :
    rSlA K u lo hi H Q ∨ rSlL K u lo hi H Q ∨ rSlS u lo hi H Q := by
  cases x with
  | tup ds =>
    cases (show some (D.tup (cutD ds lo hi)) = some z from e)
    obtain ⟨a, xs, rfl, qa, r⟩ := rx
    refine .inl ⟨a, xs, rfl, sqT_mono s qa, fun w => k B H _ (Ext.refl s) ?_, fun _ => sem_obj s (repT s (cut_rep (RepsF.of r))) k⟩
    rw [cut_whole (RepsF.of r) w]
    exact ⟨a, xs, rfl, qa, r⟩
  | lst o ds =>
    cases o with
    | true => cases e
    | false =>
      cases (show some (D.lst false (cutD ds lo hi)) = some z from e)
      obtain ⟨a, xs, rfl, qa, r⟩ := rx
      exact .inr (.inl ⟨a, xs, rfl, sqL_mono s (sqL_of qa), sem_obj s (repL s (cut_rep (RepsF.of r))) k⟩)
  | str z' =>
    have e : (if z'.length ≤ 1000000 then some (D.str (cutS z' lo hi)) else none) = some z := e
    by_cases hl : z'.length ≤ 1000000
    · rw [if_pos hl] at e
      cases e
      cases (show u = V.str _ from rx)
      exact .inr (.inr ⟨_, rfl, mil hl, k B H _ (Ext.refl s) rfl⟩)
    · rw [if_neg hl] at e; cases e
  | _ => cases e
theorem pem_slice {e : Expr} {lo hi : Option Expr} {m : M D} {l h : M (Option Int)} {p2 pos : Pos} (he : PEM X W q1 e m) (hl : POM X W q2 lo l) (hh : POM X W q3 hi h) : PEM X W (q1 && (q2 && q3)) (.Subscript e (.Slice lo hi none p2) pos) (eSl m l h) := by
  refine pe_imp (pe_slice (SlR.or sl_tupA (SlR.or sl_list sl_str)) he hl hh) fun σ H Q hq => ?_
  obtain ⟨B, F, ρ, fp, r0, ρ', E, hm, post⟩ := hq
  refine can_bnd E hm post.err fun d ρ1 B1 H1 fp1 x hm1 s1 E1 rx k1 => ?_
  refine can_bnd E1 hm1 (fun x e => (post.err x e).up s1) fun a ρ2 B2 H2 fp2 y hm2 s2 E2 ry k2 => ?_
  refine can_bnd E2 hm2 (fun x e => (post.err x e).up (s1.trans s2)) fun b ρ3 B3 H3 fp3 z hm3 s3 E3 rz k3 => ?_
  obtain ⟨z, e1, e2, e3⟩ := ofO_some hm3
  subst e2 e3
  cases (show a = _ from ry)
  cases (show b = _ from rz)
  refine slc_sem E3.bh (rx.mono (s2.trans s3)) e1 fun B4 H4 w ex rw => post B4 H4 fp3 w (s1.trans (s2.trans (s3.trans ex.bb))) (E3.ext ex) rw fun qq => ?_
  obtain ⟨qa, qbc⟩ := and_t qq
  obtain ⟨qb, qc⟩ := and_t qbc
  obtain ⟨a1, a2, a3⟩ := k1 qa
  obtain ⟨b1, b2, b3⟩ := k2 qb
  obtain ⟨c1, c2, c3⟩ := k3 qc
  exact ⟨c1.trans (b1.trans a1), c2.trans (b2.trans a2), a3.trans (b3.trans (c3.trans ex))⟩
def zipD (ds es : List D) : List D := List.zipWith (fun x y => D.tup [x, y]) ds es
theorem zipD_get {ds es : List D} {i : Nat} {d : D} (h : (zipD ds es)[i]? = some d) : ∃ x y, ds[i]? = some x ∧ es[i]? = some y ∧ d = .tup [x, y] := by
  unfold zipD at h
  obtain ⟨x, y, h1, h2, h3⟩ := List.getElem?_zipWith_eq_some.mp h
  exact ⟨x, y, h1, h2, h3.symm⟩
theorem zipD_len (ds es : List D) : (zipD ds es).length = min ds.length es.length := by simp [zipD]
theorem walks_z {K : PySem.W.Frag} {B : Hp} {a b : Addr} {ds es : List D} {xs ys : List V} (h : SqL K B a xs) (h2 : SqL K B b ys) (r : RepsF K B ds xs) (r2 : RepsF K B es ys) : WalksD K (Itz K a b) B (zipD ds es) := fun B2 H sb sh i => by
  have hl := r.length
  have hl2 := r2.length
  have hq := sqL_mono sh (sqL_mono sb h)
  have hq2 := sqL_mono sh (sqL_mono sb h2)
  refine ⟨fun d e => ?_, fun hi => ⟨xs, ys, hq, hq2, by rw [zipD_len] at hi; omega⟩⟩
  obtain ⟨x', y', h1, h2, rfl⟩ := zipD_get e
  obtain ⟨x, hx, rx⟩ := Reps.get r h1
  obtain ⟨y, hy, ry⟩ := Reps.get r2 h2
  refine ⟨⟨xs, ys, x, y, hq, hq2, hx, hy⟩, fun v H' hh => ?_⟩
  obtain ⟨T, x2, y2, rfl, hT, rfl, hxx, hyy⟩ := hh
  have e1 := hxx xs hq
  have e2 := hyy ys hq2
  rw [hx] at e1
  rw [hy] at e2
  cases e1
  cases e2
  exact ⟨upd B2 T (.tup [x, y]), Ext.obj sh hT _, repT sh (RepsF.cons (RepF.mono sb rx) (RepsF.cons (RepF.mono sb ry) RepsF.nil)) T hT⟩
theorem walks_zT {K : PySem.W.Frag} {B : Hp} {a b : Addr} {ds es : List D} {xs ys : List V} (h : SqT K B a xs) (h2 : SqT K B b ys) (r : RepsF K B ds xs) (r2 : RepsF K B es ys) : WalksD K (RZ.ItzT K a b) B (zipD ds es) := fun B2 H sb sh i => by
  have hl := r.length
  have hl2 := r2.length
  have hq := sqT_mono sh (sqT_mono sb h)
  have hq2 := sqT_mono sh (sqT_mono sb h2)
  refine ⟨fun d e => ?_, fun hi => ⟨xs, ys, hq, hq2, by rw [zipD_len] at hi; omega⟩⟩
  obtain ⟨x', y', h1, h2, rfl⟩ := zipD_get e
  obtain ⟨x, hx, rx⟩ := Reps.get r h1
  obtain ⟨y, hy, ry⟩ := Reps.get r2 h2
  refine ⟨⟨xs, ys, x, y, hq, hq2, hx, hy⟩, fun v H' hh => ?_⟩
  obtain ⟨T, x2, y2, rfl, hT, rfl, hxx, hyy⟩ := hh
  have e1 := hxx xs hq
  have e2 := hyy ys hq2
  rw [hx] at e1
  rw [hy] at e2
  cases e1
  cases e2
  exact ⟨upd B2 T (.tup [x, y]), Ext.obj sh hT _, repT sh (RepsF.cons (RepF.mono sb rx) (RepsF.cons (RepF.mono sb ry) RepsF.nil)) T hT⟩
def zipA : List D → Option (List D)
  | [.tup ds, .tup es] => some (zipD ds es)
  | [.lst false ds, .lst false es] => some (zipD ds es)
  | _ => none
@[simp] theorem s_zipA1 (ds es : List D) : zipA [.tup ds, .tup es] = some (zipD ds es) := rfl
@[simp] theorem s_zipA2 (ds es : List D) : zipA [.lst false ds, .lst false es] = some (zipD ds es) := rfl
theorem pim_zipA {X : Cx} {W : WX} {q : Bool} {e e2 : Expr} {m : M (List D)} {p pos tpos : Pos} {elts : List Expr} {kk : Nat} (hg : Gl X "zip") (hm : X.mg "zip" = none) (ha : PAM X W q [e, e2] m)
    (hs : starEach [e, e2] X.env = (false, eval e X.env) :: starEach [e2] X.env := by rfl) (hpl : (backTo pos (starEach [e2] X.env)).any (·.1) = false := by rfl) :
    PIM X W q (.Tuple elts kk tpos) (.Call (.Name "zip" p) [e, e2] [] pos) (iRng zipA m) :=
  pi_imp (RZ.pi_zipA hg hm ha hs hpl) fun σ H R h => can_I h fun a ds B H1 w e sh rl k => by
    unfold zipA at e
    split at e
    · cases e
      obtain ⟨v, vs, e1, ⟨a, xs, rfl, q, r⟩, v2, vs2, e2, ⟨a2, xs2, rfl, q2, r2⟩, e3⟩ := rl
      subst e1
      cases e2
      rw [show vs2 = [] from e3]
      exact ⟨a, a2, xs, xs2, rfl, .inr ⟨sqT_mono sh q, sqT_mono sh q2, k _ (walks_zT q q2 (RepsF.of r) (RepsF.of r2))⟩⟩
    · cases e
      obtain ⟨v, vs, e1, ⟨a, xs, rfl, q, r⟩, v2, vs2, e2, ⟨a2, xs2, rfl, q2, r2⟩, e3⟩ := rl
      subst e1
      cases e2
      rw [show vs2 = [] from e3]
      exact ⟨a, a2, xs, xs2, rfl, .inl ⟨sqL_mono sh (sqL_of q), sqL_mono sh (sqL_of q2), k _ (walks_z (sqL_of q) (sqL_of q2) (RepsF.of r) (RepsF.of r2))⟩⟩
    · cases e
def tgLst (n : Nat) (t : List D → M Fl) : D → M Fl
  | .lst false ds => if ds.length = n then t ds else fun _ => none
  | _ => fun _ => none
theorem ptg_lst {es : List Expr} {k : Nat} {t : List D → M Fl} {n : Nat} {pos : Pos} (hc : X.calm = true) (h : PTgs X P es t) (hn : (assignEach es X.env).length = n := by rfl) (hst : (assignEach es X.env).findIdx? (·.1) = none := by rfl) : PTg X P (.Tuple es k pos) (tgLst n t) :=
  pg_imp (pg_lst hc h hn hst) fun v σ H Q h => by
    obtain ⟨B, F, ρ, fp, d, ρ', E, rv, hm, post⟩ := h
    unfold tgLst at hm
    split at hm
    · split at hm
      · rename_i ds hl
        obtain ⟨a, xs, e, q, r⟩ := rv
        exact ⟨a, xs, e, sqL_mono E.bh (sqL_of q), r.length.trans hl, B, F, ρ, fp, ds, ρ', E, RepsF.of r, hm, post⟩
      · cases hm
    · cases hm
theorem tgLst_ok {n : Nat} {t : List D → M Fl} (h1 : ∀ ds ρ r ρ', t ds ρ = some (r, ρ') → r = .ok .nx) : ∀ d ρ r ρ', tgLst n t d ρ = some (r, ρ') → r = .ok .nx := fun d ρ r ρ' h => by
  unfold tgLst at h
  split at h
  · split at h
    · exact h1 _ _ _ _ h
    · cases h
  · cases h
def tChain3 (r r' r2 : R2) (ta tb tc td : TE) : TE := fun σ H Q => ta σ H fun x H1 => tb σ H1 fun y H2 => r x y H2 fun z H3 => ∃ k, z = .bl k ∧
  (if k = true then tc σ H3 fun w' H4 => r' y w' H4 fun z2 H5 => ∃ k2, z2 = .bl k2 ∧ (if k2 = true then td σ H5 fun w2 H6 => r2 w' w2 H6 Q else Q (.bl false) H5) else Q (.bl false) H3)
theorem pt_chain3 {op op' op2 : CmpOp} {r r' r2 : R2} {a b c d : Expr} {ta tb tc td : TE} {pos : Pos} (ho : OpR X (compareOp op) r) (ho' : OpR X (compareOp op') r') (ho2 : OpR X (compareOp op2) r2) (ha : PE X a ta) (hb : PE X b tb) (hc : PE X c tc) (hd : PE X d td)
    (hm : lastMarks [op, op', op2] [b, c, d] = false := by with_unfolding_all rfl) : PT X (.Compare a [op, op', op2] [b, c, d] pos) (tTest (tChain3 r r' r2 ta tb tc td)) := by
  refine ⟨fun pins s σ H Q I h => ?_⟩
  refine isTrue_chain (thn (ha.run pins s σ H _ I h) fun v s1 ⟨x, H1, I1, r1, q1⟩ => test_link (thn (hb.run pins s1 σ H1 _ I1 q1) fun u s2 ⟨y, H2, I2, r2, q2⟩ =>
    thn (ho pins s2 σ H2 x y v u _ I2 r1 r2 q2) fun d s3 ⟨z, H3, I3, r3, k, e, q3⟩ => ?_)) hm
  subst e
  cases r3
  refine wpAny_truthy_bool ?_
  cases k with
  | false =>
    obtain ⟨k', e', q'⟩ := q3
    cases e'
    exact ite_ff ⟨H3, I3, q'⟩
  | true =>
    refine ite_tt (test_link (thn (hc.run pins s3 σ H3 _ I3 q3) fun w' s4 ⟨z', H4, I4, r4, q4⟩ => thn (ho' pins s4 σ H4 y z' u w' _ I4 r2 r4 q4) fun d' s5 ⟨z2, H5, I5, r5, k2, e2, q5⟩ => ?_))
    subst e2
    cases r5
    refine wpAny_truthy_bool ?_
    cases k2 with
    | false =>
      obtain ⟨k', e', q'⟩ := q5
      cases e'
      exact ite_ff ⟨H5, I5, q'⟩
    | true =>
      refine ite_tt (test_last (thn (hd.run pins s5 σ H5 _ I5 q5) fun w2 s6 ⟨z3, H6, I6, r6, q6⟩ => thn (ho2 pins s6 σ H6 z' z3 w' w2 _ I6 r4 r6 q6) fun d' s7 ⟨z4, H7, I7, r7, k3, e3, q7⟩ => ?_))
      subst e3
      cases r7
      exact wpAny_truthy_bool ⟨H7, I7, q7⟩
def eChain3 (g g' g2 : D → D → Option D) (m n o p : M D) : M D := bnd m fun x => bnd n fun y => bnd (ofO ((g x y).bind asB)) fun k => if k = true then bnd o fun z => bnd (ofO ((g' y z).bind asB)) fun k => if k = true then bnd p fun w => ofO (g2 z w) else rt (.bl false) else rt (.bl false)
@[simp] theorem s_eChain3 (g g' g2 : D → D → Option D) (m n o p : M D) (ρ : En) : eChain3 g g' g2 m n o p ρ = bnd m (fun x => bnd n fun y => bnd (ofO ((g x y).bind asB)) fun k => if k = true then bnd o fun z => bnd (ofO ((g' y z).bind asB)) fun k => if k = true then bnd p fun w => ofO (g2 z w) else rt (.bl false) else rt (.bl false)) ρ := rfl
theorem can_chain3 {K : PySem.W.Frag} {mg : Str → Option Value} {q4 : Bool} {r r' r2 : R2} {g g' g2 : D → D → Option D} {m n o p : M D} (sem : OpSem K r g) (sem' : OpSem K r' g') (sem2 : OpSem K r2 g2) {σ : L2.St} {H : Hp} {Q : VK}
    (h : can K mg W (relE K) (q1 && q2 && q3 && q4) (eChain3 g g' g2 m n o p) σ H Q) : tChain3 r r' r2 (can K mg W (relE K) q1 m) (can K mg W (relE K) q2 n) (can K mg W (relE K) q3 o) (can K mg W (relE K) q4 p) σ H Q := by
  obtain ⟨B, F, ρ, fp, r0, ρ', E, hm, post⟩ := h
  refine can_bnd E hm post.err fun d ρ1 B1 H1 fp1 x hm1 s1 E1 rx k1 => ?_
  refine can_bnd E1 hm1 (fun x e => (post.err x e).up s1) fun d2 ρ2 B2 H2 fp2 y hm2 s2 E2 ry k2 => ?_
  cases eg : g d d2 with
  | none => simp [eg, bnd, ofO] at hm2
  | some z =>
    cases ez : asB z with
    | none => simp [eg, ez, bnd, ofO] at hm2
    | some k =>
      simp only [eg, ez, bnd, ofO, Option.bind_some] at hm2
      refine sem B2 H2 d d2 z x y E2.bh (rx.mono s2) ry eg _ fun B3 H3 w ex rw => ?_
      rw [asB_some ez] at rw
      refine ⟨k, rw, ?_⟩
      have q2' : (q1 && q2 && q3 && q4) = true → ρ2 = ρ ∧ fp2 = fp ∧ Ext B H B3 H3 := fun qq => by
        obtain ⟨qa, qb⟩ := and_t qq
        obtain ⟨qa, qc⟩ := and_t qa
        obtain ⟨qa, qd⟩ := and_t qa
        obtain ⟨a1, a2, a3⟩ := k1 qa
        obtain ⟨b1, b2, b3⟩ := k2 qd
        exact ⟨b1.trans a1, b2.trans a2, a3.trans (b3.trans ex)⟩
      cases k with
      | false =>
        rw [if_neg (by decide)] at hm2 ⊢
        obtain ⟨e1, e2⟩ := rt_some hm2
        subst e1 e2
        exact post B3 H3 fp2 (.bl false) (s1.trans (s2.trans ex.bb)) (E2.ext ex) rfl q2'
      | true =>
        rw [if_pos rfl] at hm2 ⊢
        refine can_bnd (E2.ext ex) hm2 (fun x e => (post.err x e).up (s1.trans (s2.trans ex.bb))) fun d4 ρ4 B4 H4 fp4 v hm4 s4 E4 rv k4 => ?_
        cases eg2 : g' d2 d4 with
        | none => simp [eg2, bnd, ofO] at hm4
        | some z2 =>
          cases ez2 : asB z2 with
          | none => simp [eg2, ez2, bnd, ofO] at hm4
          | some kk =>
            simp only [eg2, ez2, bnd, ofO, Option.bind_some] at hm4
            refine sem' B4 H4 d2 d4 z2 y v E4.bh ((ry.mono ex.bb).mono s4) rv eg2 _ fun B5 H5 w5 ex5 rw5 => ?_
            rw [asB_some ez2] at rw5
            refine ⟨kk, rw5, ?_⟩
            have q4' : (q1 && q2 && q3 && q4) = true → ρ4 = ρ ∧ fp4 = fp ∧ Ext B H B5 H5 := fun qq => by
              obtain ⟨a1, a2, a3⟩ := q2' qq
              obtain ⟨b1, b2, b3⟩ := k4 (and_t (and_t qq).1).2
              exact ⟨b1.trans a1, b2.trans a2, a3.trans (b3.trans ex5)⟩
            cases kk with
            | false =>
              rw [if_neg (by decide)] at hm4 ⊢
              obtain ⟨e1, e2⟩ := rt_some hm4
              subst e1 e2
              exact post B5 H5 fp4 (.bl false) (s1.trans (s2.trans (ex.bb.trans (s4.trans ex5.bb)))) (E4.ext ex5) rfl q4'
            | true =>
              rw [if_pos rfl] at hm4 ⊢
              refine can_bnd (E4.ext ex5) hm4 (fun x e => (post.err x e).up (s1.trans (s2.trans (ex.bb.trans (s4.trans ex5.bb))))) fun d6 ρ6 B6 H6 fp6 v6 hm6 s6 E6 rv6 k6 => ?_
              obtain ⟨t, e1, e2, e3⟩ := ofO_some hm6
              subst e2 e3
              refine sem2 B6 H6 d4 d6 t v v6 E6.bh ((rv.mono ex5.bb).mono s6) rv6 e1 Q fun B7 H7 w7 ex7 rw7 => post B7 H7 fp6 w7 (s1.trans (s2.trans (ex.bb.trans (s4.trans (ex5.bb.trans (s6.trans ex7.bb)))))) (E6.ext ex7) rw7 fun qq => ?_
              obtain ⟨a1, a2, a3⟩ := q4' qq
              obtain ⟨b1, b2, b3⟩ := k6 (and_t qq).2
              exact ⟨b1.trans a1, b2.trans a2, a3.trans (b3.trans ex7)⟩
theorem ptm_chain3 {op op' op2 : CmpOp} {g g' g2 : D → D → Option D} {a b c d : Expr} {m n o p : M D} {q4 : Bool} {pos : Pos} (s : OpS X (compareOp op) g) (s' : OpS X (compareOp op') g') (s2 : OpS X (compareOp op2) g2) (ha : PEM X W q1 a m) (hb : PEM X W q2 b n) (hc : PEM X W q3 c o) (hd : PEM X W q4 d p) (hm : lastMarks [op, op', op2] [b, c, d] = false := by rfl) :
    PTM X W (q1 && q2 && q3 && q4) (.Compare a [op, op', op2] [b, c, d] pos) (tB (eChain3 g g' g2 m n o p)) := by
  obtain ⟨r, hr, sem⟩ := s
  obtain ⟨r', hr', sem'⟩ := s'
  obtain ⟨r2, hr2, sem2⟩ := s2
  exact pt_imp (pt_chain3 hr hr' hr2 ha hb hc hd hm) fun σ H Q h => can_chain3 sem sem' sem2 (can_tB h)
def ownL : D → Option D
  | .tup ds => some (.lst true ds)
  | .sq ds => some (.lst true ds)
  | .lst false ds => some (.lst true ds)
  | _ => none
@[simp] theorem s_ownL1 (ds : List D) : ownL (.tup ds) = some (.lst true ds) := rfl
@[simp] theorem s_ownL2 (ds : List D) : ownL (.sq ds) = some (.lst true ds) := rfl
@[simp] theorem s_ownL3 (ds : List D) : ownL (.lst false ds) = some (.lst true ds) := rfl
def eLst (m : M (List D)) : M D := bnd m fun ds => ofO (f1 ownL ds)
@[simp] theorem s_eLst (m : M (List D)) (ρ : En) : eLst m ρ = bnd m (fun ds => ofO (f1 ownL ds)) ρ := rfl
theorem ownL_some {K : PySem.W.Frag} {B : Hp} {d z : D} {x : V} (h : ownL d = some z) (r : RepF K B d x) : ∃ a ys ds, x = .ref a ∧ (SqL K B a ys ∨ SqT K B a ys) ∧ RepsF K B ds ys ∧ z = .lst true ds := by
  cases d with
  | tup ds =>
    cases h
    obtain ⟨a, ys, rfl, q, r⟩ := r
    exact ⟨a, ys, ds, rfl, .inr q, RepsF.of r, rfl⟩
  | sq ds =>
    cases h
    obtain ⟨a, ys, rfl, q, r⟩ := r
    exact ⟨a, ys, ds, rfl, .inl q, RepsF.of r, rfl⟩
  | lst o ds =>
    cases o with
    | true => cases h
    | false =>
      cases h
      obtain ⟨a, ys, rfl, q, r⟩ := r
      exact ⟨a, ys, ds, rfl, .inl (sqL_of q), RepsF.of r, rfl⟩
  | _ => cases h
theorem peo_list {e : Expr} {m : M (List D)} {p pos : Pos} (hg : Gl X "list") (hm : X.mg "list" = none) (ha : PAM X W q [e] m) 
    (he : starEach [e] X.env = (false, eval e X.env) :: starEach [] X.env := by rfl) (hpl : (backTo pos (starEach [] X.env)).any (·.1) = false := by rfl) : PEO X W (.Call (.Name "list" p) [e] [] pos) (eLst m) :=
  pe_imp (pe_callTy call_list_of hg hm (by decide +kernel) ha (by decide) (by decide) he hpl) fun σ H Q hq => by
    obtain ⟨B, F, ρ, fp, r, ρ', E, hm, post⟩ := hq
    refine can_bnd E hm (fun x e => by subst e; exact post) fun ds ρ1 B1 H1 fp1 xs hm1 s1 E1 rxs _ => ?_
    obtain ⟨z, e1, e2, e3⟩ := ofO_some hm1
    subst e2 e3
    match ds, rxs, e1 with
    | [d], ⟨x, xs', ex, rx, rn⟩, e1 =>
      subst ex
      rw [show xs' = [] from rn]
      obtain ⟨a, ys, ds, rfl, sq, rs, rfl⟩ := ownL_some (show ownL d = some z from e1) rx
      refine ⟨a, ys, rfl, sq.imp (sqL_mono E1.bh) (sqT_mono E1.bh), fun p hp => ?_⟩
      have hFp : F p = none := E1.fh.free hp
      refine post B1 (upd H1 p (.lst ys)) fp1 (.ref p) (fun a => a = p) s1 (E1.ext (Ext.obj0 E1.bh hp _)) ⟨⟨p, ys, noT, rfl, rfl, upd_same, ⟨fun _ _ z => z.elim, fun _ _ _ z => z.elim⟩, RepsF.to rs⟩, fun a z => ?_⟩
      have z : a = p := z
      subst z
      exact ⟨E1.bh.free hp, hFp, by rw [upd_same]; simp, fun i z => E1.live i a z hp⟩
    | [], _, e1 => cases e1
    | _ :: _ :: _, _, e1 => simp [f1] at e1
end
end G

namespace G
open PySem L2
/-- a loop that goes back at the first place where P holds -/
theorem forM_first {tgt : D → M Fl} {b : M Fl} (I : En → Prop) (P : Nat → Prop) (r : Nat → D) : ∀ (items : List D) (k : Nat) (ρ : En),
    (∀ i d ρ, items[i]? = some d → I ρ → ∃ ρ1 ρ2, tgt d ρ = some (.ok .nx, ρ1) ∧ I ρ2 ∧ ((P (k + i) ∧ b ρ1 = some (.ok (.rt (r (k + i))), ρ2)) ∨ (¬ P (k + i) ∧ b ρ1 = some (.ok .nx, ρ2)))) → I ρ →
    ∃ ρ', I ρ' ∧ ((∃ i, i < items.length ∧ P (k + i) ∧ (∀ j, j < i → ¬ P (k + j)) ∧ forM tgt b items ρ = some (.ok (.rt (r (k + i))), ρ')) ∨
      ((∀ i, i < items.length → ¬ P (k + i)) ∧ forM tgt b items ρ = some (.ok .nx, ρ')))
  | [], k, ρ, _, h => ⟨ρ, h, .inr ⟨fun i hi => absurd hi (Nat.not_lt_zero _), rfl⟩⟩
  | d :: ds, k, ρ, step, h => by
    obtain ⟨ρ1, ρ2, h1, h2, h3⟩ := step 0 d ρ rfl h
    rw [Nat.add_zero] at h3
    rcases h3 with ⟨p, h3⟩ | ⟨p, h3⟩
    · refine ⟨ρ2, h2, .inl ⟨0, by simp, p, fun j hj => absurd hj (Nat.not_lt_zero _), ?_⟩⟩
      show bnd (tgt d) (fun _ => bnd b (loopF (forM tgt b ds))) ρ = _
      simp only [bnd, h1, h3, loopF, rt, Nat.add_zero]
    · obtain ⟨ρ', h4, h5⟩ := forM_first I P r ds (k + 1) ρ2 (fun i d' ρ hd hi => by
        have := step (i + 1) d' ρ (by simpa using hd) hi
        rw [show k + (i + 1) = k + 1 + i by omega] at this
        exact this) h2
      have e : forM tgt b (d :: ds) ρ = forM tgt b ds ρ2 := by
        show bnd (tgt d) (fun _ => bnd b (loopF (forM tgt b ds))) ρ = _
        simp only [bnd, h1, h3, loopF]
      rw [e]
      refine ⟨ρ', h4, ?_⟩
      rcases h5 with ⟨i, hi, p2, h6, h7⟩ | ⟨h6, h7⟩
      · refine .inl ⟨i + 1, by simp; omega, by rw [show k + (i + 1) = k + 1 + i by omega]; exact p2, fun j hj => ?_, by rw [show k + (i + 1) = k + 1 + i by omega]; exact h7⟩
        cases j with
        | zero => exact p
        | succ j =>
          rw [show k + (j + 1) = k + 1 + j by omega]
          exact h6 j (by omega)
      · refine .inr ⟨fun i hi => ?_, h7⟩
        cases i with
        | zero => exact p
        | succ i =>
          rw [show k + (i + 1) = k + 1 + i by omega]
          exact h6 i (by simpa using hi)
/-- a comprehension with a test -/
theorem compL_flt {vs : List Nat} {tgt : D → M Fl} {c : M Bool} {e : M D} {ρ : En} (p : Nat → Bool) (g : Nat → D) : ∀ (ds : List D) (k : Nat),
    (∀ i d, ds[i]? = some d → ∃ ρ1 ρ2, tgt d ρ = some (.ok .nx, ρ1) ∧ c ρ1 = some (.ok (p (k + i)), ρ2) ∧ (p (k + i) = true → ∃ ρ3, e ρ2 = some (.ok (g (k + i)), ρ3) ∧ wipeE vs 0 ρ3 = ρ) ∧ (p (k + i) = false → wipeE vs 0 ρ2 = ρ)) →
    compL vs tgt c e ds ρ = some (((List.range ds.length).filter fun i => p (k + i)).map fun i => g (k + i), ρ)
  | [], k, _ => rfl
  | d :: ds, k, h => by
    obtain ⟨ρ1, ρ2, h1, h2, h3, h4⟩ := h 0 d rfl
    rw [Nat.add_zero] at h2 h3 h4
    have ih := compL_flt (vs := vs) (tgt := tgt) (c := c) (e := e) (ρ := ρ) p g ds (k + 1) fun i d' hd => by
      have := h (i + 1) d' hd
      rw [show k + (i + 1) = k + 1 + i by omega] at this
      exact this
    have er : ((List.range (d :: ds).length).filter fun i => p (k + i)).map (fun i => g (k + i)) = (if p k = true then [g k] else []) ++ ((List.range ds.length).filter fun i => p (k + 1 + i)).map fun i => g (k + 1 + i) := by
      rw [List.length_cons, List.range_succ_eq_map, List.filter_cons, Nat.add_zero, List.filter_map]
      have e1 : ((fun i => p (k + i)) ∘ Nat.succ) = fun i => p (k + 1 + i) := by
        funext i
        show p (k + (i + 1)) = _
        rw [show k + (i + 1) = k + 1 + i by omega]
      rw [e1]
      have e2 : ((List.range ds.length).filter fun i => p (k + 1 + i)).map ((fun i => g (k + i)) ∘ Nat.succ) = ((List.range ds.length).filter fun i => p (k + 1 + i)).map fun i => g (k + 1 + i) := by
        refine List.map_congr_left fun i _ => ?_
        show g (k + (i + 1)) = _
        rw [show k + (i + 1) = k + 1 + i by omega]
      by_cases hp : p k = true
      · rw [if_pos hp, if_pos hp, List.map_cons, List.map_map, e2]; rfl
      · rw [if_neg hp, if_neg hp, List.map_map, e2]; rfl
    unfold compL
    rw [h1]
    simp only
    rw [h2]
    cases hp : p k with
    | true =>
      obtain ⟨ρ3, h5, h6⟩ := h3 hp
      simp only
      rw [h5]
      simp only
      rw [h6, ih, er, if_pos hp]
      rfl
    | false =>
      simp only
      rw [h4 hp, ih, er, if_neg (by rw [hp]; decide)]
      rfl
/-- a comprehension without a test -/
theorem compL_all {vs : List Nat} {tgt : D → M Fl} {e : M D} {ρ : En} (g : Nat → D) (ds : List D) (h : ∀ i d, ds[i]? = some d → ∃ ρ1 ρ2, tgt d ρ = some (.ok .nx, ρ1) ∧ e ρ1 = some (.ok (g i), ρ2) ∧ wipeE vs 0 ρ2 = ρ) :
    compL vs tgt (rt true) e ds ρ = some ((List.range ds.length).map g, ρ) := by
  have := compL_flt (vs := vs) (tgt := tgt) (c := rt true) (e := e) (ρ := ρ) (fun _ => true) g ds 0 fun i d hd => by
    obtain ⟨ρ1, ρ2, h1, h2, h3⟩ := h i d hd
    rw [Nat.zero_add]
    exact ⟨ρ1, ρ1, h1, rfl, fun _ => ⟨ρ2, h2, h3⟩, fun z => by cases z⟩
  rw [this, List.filter_eq_self.mpr fun _ _ => rfl]
  simp
theorem cut_from (ds : List D) (k : Nat) : cutD ds (some (k : Int)) none = ds.drop k := by
  unfold cutD
  rw [HT.sIx_nat, HT.sIx_none]
  rcases Nat.le_total k ds.length with h | h
  · rw [Nat.min_eq_left h, List.take_of_length_le]
    rw [List.length_drop]; omega
  · rw [Nat.min_eq_right h, List.drop_eq_nil_of_le (Nat.le_refl _), List.drop_eq_nil_of_le h, List.take_nil]
theorem cut_to (ds : List D) (k : Nat) : cutD ds none (some (k : Int)) = ds.take k := by
  unfold cutD
  rw [HT.sIx_nat, HT.sIx_none, List.drop_zero, Nat.sub_zero]
  rcases Nat.le_total k ds.length with h | h
  · rw [Nat.min_eq_left h]
  · rw [Nat.min_eq_right h, List.take_length, List.take_of_length_le h]
theorem cut_mid (ds : List D) (j k : Nat) : cutD ds (some (j : Int)) (some (k : Int)) = (ds.take k).drop j := by
  unfold cutD
  rw [HT.sIx_nat, HT.sIx_nat, List.drop_take]
  rcases Nat.le_total j ds.length with h | h
  · rw [Nat.min_eq_left h]
    rcases Nat.le_total k ds.length with h2 | h2
    · rw [Nat.min_eq_left h2]
    · rw [Nat.min_eq_right h2, List.take_of_length_le (by rw [List.length_drop]; omega), List.take_of_length_le (by rw [List.length_drop]; omega)]
  · rw [Nat.min_eq_right h, List.drop_eq_nil_of_le (Nat.le_refl _), List.drop_eq_nil_of_le h, List.take_nil, List.take_nil]
@[simp] theorem s_compR (o : Bool) (vs : List Nat) (it : M (List D)) (tgt : D → M Fl) (c : M Bool) (e : M D) (ρ : En) : eCompR o vs it tgt c e ρ = bnd it (fun ds ρ => if ds.length ≤ 1000000 then match compL vs tgt c e ds (wipeE vs 0 ρ) with
  | some (ys, ρ') => some (.ok (.lst o ys), backE vs 0 ρ ρ')
  | none => none
  else none) ρ := rfl
theorem enum_len (k : Nat) (ds : List D) : (enumD k ds).length = ds.length := by
  induction ds generalizing k with
  | nil => rfl
  | cons d ds ih => simp [enumD, ih]
theorem rng1_int (j : Int) (h : -(2 ^ 62) ≤ j ∧ j < 2 ^ 62) : rng1 [.int j] = some (rngD 0 j.toNat) := if_pos h
theorem rng2_int (i j : Int) (h : -(2 ^ 62) ≤ i ∧ i < 2 ^ 62 ∧ -(2 ^ 62) ≤ j ∧ j < 2 ^ 62) : rng2 [.int i, .int j] = some (rngD i (j - i).toNat) := if_pos h
@[simp] theorem s_isnNN : isnD .non .non = some (.bl false) := rfl
@[simp] theorem s_isNN : isD .non .non = some (.bl true) := rfl
@[simp] theorem s_isnTN (ds : List D) : isnD (.tup ds) .non = some (.bl true) := rfl
@[simp] theorem s_isTN (ds : List D) : isD (.tup ds) .non = some (.bl false) := rfl
theorem s_addL (a b : List D) : addD (.lst false a) (.lst false b) = if a.length + b.length ≤ 1000000 then some (.lst false (a ++ b)) else none := rfl
theorem s_addT (a b : List D) : addD (.tup a) (.tup b) = if a.length + b.length ≤ 1000000 then some (.tup (a ++ b)) else none := rfl
end G

namespace PySem.W
open PySem PySem.Calls PySem.NumText PyProof.Rows
namespace KIN
theorem wp_text2 {prog : Program} {w : World} {A : Around} {E : Value → Shared → Prop} {s : Shared} {Q : Value → Shared → Prop} {v : Value} {text : List Nat} {n : Int} (hn : s.heap.NoDigits)
    (hs : ¬ (text.takeWhile (· != 0)).length ≤ 640) (hr : (int_private% "readNumeral") 4300 10 (text.takeWhile (· != 0)) = (int_private% "Numeral.value") n)
    (ha : ((text.takeWhile (· != 0)).length == text.length) = true) (h : Q (.int n s.toks) { s with toks := s.toks + 1 }) :
    wpAny (model prog w) A ((int_private% "intFromText") v text 10) Q E s := by
  obtain ⟨mc, hns, hnone⟩ := hn
  obtain ⟨hp, g, d, tk, os⟩ := s
  repeat (any_goals (first
    | assumption
    | (with_reducible refine wpAny_ite_false (decide_eq_false hs) ?_)
    | (with_reducible refine wpAny_ite_true (decide_eq_true ha) ?_)
    | (with_reducible refine wpAny_nsGet hns ?_; rw [hnone])
    | wp_step))
  all_goals (try rw [hr])
  all_goals (try dsimp only)
  repeat (any_goals (first
    | assumption
    | (with_reducible refine wpAny_ite_true (decide_eq_true ha) ?_)
    | wp_step))
set_option maxHeartbeats 4000000 in
theorem meets_text {x : PySem.Str} {u : Tok} {n : Int} (hl : x.length ≤ sizeLine) (hn : PySem.intText? x = some n) :
    Meets (Builtin.«int.__new__» ⟨[.type "int", .str x u], []⟩) (fun _ R s => s.heap.NoDigits ∧ R (.ok (.ret (.int n s.toks))) { s with toks := s.toks + 1 }) :=
  .of_wp fun prog w A R s h => by
    obtain ⟨hd, h⟩ := h
    obtain ⟨hp, g, d, tk, os⟩ := s
    have f1 := F.conv_sub_int
    have f2 := F.madeHere_int
    have f3 := str_int
    have f4 := str_idx
    have f5 := str_trunc
    have f6 : typeOf (.str x u) = pure (.type "str") := rfl
    by_cases hs : (numSeenOf x).length ≤ 640
    · have hr : (int_private% "readNumeral") 0 10 (numSeenOf x) = (int_private% "Numeral.value") n ∧ ((numSeenOf x).length == (numTextOf x).length) = true := by
        rcases read0 x hs with ⟨m, h1, h2, h3⟩ | ⟨h1, _⟩
        · rw [hn] at h1
          injection h1 with h1
          subst h1
          exact ⟨h3, h2⟩
        · rw [hn] at h1
          cases h1
      have hk := Hid.mk (And.intro hs hr)
      have hd := Hid.mk hd
      clear hs hr hl hn
      repeat (any_goals (first
        | assumption
        | ((with_reducible show wpAny _ _ ((int_private% "intFromText") _ _ _) _ _ _); refine wp_text hk.out.1 hk.out.2.1 hk.out.2.2 ?_)
        | wp_step))
      all_goals first | exact ⟨_, rfl, h⟩ | skip
    · have hr : (int_private% "readNumeral") 4300 10 (numSeenOf x) = (int_private% "Numeral.value") n ∧ ((numSeenOf x).length == (numTextOf x).length) = true := by
        rcases read4300 x hl with ⟨m, h1, h2, h3⟩ | ⟨h1, _⟩
        · rw [hn] at h1
          injection h1 with h1
          subst h1
          exact ⟨h3, h2⟩
        · rw [hn] at h1
          cases h1
      have hk := Hid.mk (And.intro hs (And.intro hr hd))
      clear hs hr hl hn hd
      repeat (any_goals (first
        | assumption
        | ((with_reducible show wpAny _ _ ((int_private% "intFromText") _ _ _) _ _ _); refine wp_text2 hk.out.2.2 hk.out.1 hk.out.2.1.1 hk.out.2.1.2 ?_)
        | wp_step))
      all_goals first | exact ⟨_, rfl, h⟩ | skip
end KIN
end PySem.W
namespace G
open PySem PySem.Spec PyProof.Rows L2
section
variable {X : Cx} {W : WX} {q q1 q2 q3 : Bool} {P : Nat → Bool}
theorem call_int_text (nd : X.base.NoDigits) : CallR X (.type "int") (fun xs H Q => ∃ a n, xs = [.str a] ∧ PySem.intText? a = some n ∧ a.length ≤ sizeLine ∧ Q (.int n) H) := by
  intro pins s σ H xs us Q I rs h
  obtain ⟨a, n, rfl, hn, hl, h⟩ := h
  have hd : s.heap.NoDigits := nd.keeps I.bk
  cases rs with
  | cons r1 rs =>
    cases rs
    obtain ⟨t, rfl⟩ := r1
    exact call_int_1 (PySem.W.KIN.meets_text hl hn) ⟨hd, typeIs_int _ _ _, ⟨.int n, H, I.tok _, ⟨_, rfl⟩, h⟩⟩
def intTD : D → Option D
  | .str a => if a.length ≤ 1000000 then (PySem.intText? a).map .int else none
  | .int i => some (.int i)
  | .bl b => some (.int (if b then 1 else 0))
  | _ => none
@[simp] theorem s_intTD1 (i : Int) : intTD (.int i) = some (.int i) := rfl
theorem s_intTD2 (a : Str) (h : a.length ≤ 1000000) : intTD (.str a) = (PySem.intText? a).map .int := if_pos h
theorem cd_intT (nd : X.base.NoDigits) : CallS X (.type "int") (f1 intTD) := ⟨_, CallR.or call_int1 (call_int_text nd), f1_sem fun B H x z u s rx e Q k => by
  cases x with
  | int i =>
    cases e
    cases (show u = V.int _ from rx)
    exact .inl (.inl ⟨_, rfl, k B H _ (Ext.refl s) rfl⟩)
  | bl b =>
    cases e
    cases (show u = V.bl _ from rx)
    exact .inl (.inr ⟨_, rfl, k B H _ (Ext.refl s) rfl⟩)
  | str a =>
    cases (show u = V.str _ from rx)
    have e : (if a.length ≤ 1000000 then (PySem.intText? a).map D.int else none) = some z := e
    by_cases hl : a.length ≤ 1000000
    · rw [if_pos hl] at e
      obtain ⟨n, hn, rfl⟩ := Option.map_eq_some_iff.mp e
      exact .inr ⟨a, n, rfl, hn, mil hl, k B H _ (Ext.refl s) rfl⟩
    · rw [if_neg hl] at e; cases e
  | _ => cases e⟩
def strD : D → Option D
  | .int i => if i.natAbs.log2 < 1920 then some (.str (toString i)) else none
  | _ => none
theorem s_strD (i : Int) (h : i.natAbs.log2 < 1920) : strD (.int i) = some (.str (toString i)) := if_pos h
theorem cd_str : CallS X (.type "str") (f1 strD) := ⟨_, call_str_int, f1_sem fun B H x z u s rx e Q k => by
  cases x with
  | int i =>
    cases (show u = V.int _ from rx)
    have e : (if i.natAbs.log2 < 1920 then some (D.str (toString i)) else none) = some z := e
    by_cases hl : i.natAbs.log2 < 1920
    · rw [if_pos hl] at e
      cases e
      exact ⟨_, rfl, hl, k B H _ (Ext.refl s) rfl⟩
    · rw [if_neg hl] at e; cases e
  | _ => cases e⟩
def fmtD : D → Option D
  | .int i => if i.natAbs.log2 < 1920 then some (.str (toString i)) else none
  | .str y => if y.length ≤ 1000000 then some (.str y) else none
  | _ => none
theorem s_fmtD (i : Int) (h : i.natAbs.log2 < 1920) : fmtD (.int i) = some (.str (toString i)) := if_pos h
theorem s_fmtS (y : Str) (h : y.length ≤ 1000000) : fmtD (.str y) = some (.str y) := if_pos h
theorem pem_fmt {e : Expr} {m : M D} {pos : Pos} (h : PEM X W q e m) : PEM X W q (.FormattedValue e (-1) none pos) (eUn fmtD m) := by
  refine pe_imp (pe_fmt h) fun σ H Q hq => ?_
  obtain ⟨B, F, ρ, fp, r0, ρ', E, hm, post⟩ := hq
  refine can_bnd E hm post.err fun d ρ1 B1 H1 fp1 x hm1 s1 E1 rx k1 => ?_
  obtain ⟨z, e1, e2, e3⟩ := ofO_some hm1
  subst e2 e3
  cases d with
  | int i =>
    cases (show x = V.int _ from rx)
    have e1 : (if i.natAbs.log2 < 1920 then some (D.str (toString i)) else none) = some z := e1
    by_cases hl : i.natAbs.log2 < 1920
    · rw [if_pos hl] at e1
      cases e1
      exact .inr ⟨i, rfl, hl, post B1 H1 fp1 _ s1 E1 rfl k1⟩
    · rw [if_neg hl] at e1; cases e1
  | str y =>
    cases (show x = V.str _ from rx)
    have e1 : (if y.length ≤ 1000000 then some (D.str y) else none) = some z := e1
    by_cases hl : y.length ≤ 1000000
    · rw [if_pos hl] at e1
      cases e1
      exact .inl ⟨y, rfl, mil hl, post B1 H1 fp1 _ s1 E1 rfl k1⟩
    · rw [if_neg hl] at e1; cases e1
  | _ => cases e1
abbrev relS : L2.St → Hp → D → Str → Prop := fun _ _ d s => d = .str s
def PJM (X : Cx) (W : WX) (q : Bool) (es : List Expr) (n : Str → M D) : Prop := ∃ ts, PJ X es ts ∧ ∀ acc σ H Q, can X.K X.mg W relS q (n acc) σ H Q → tJs ts acc σ H Q
def jNil : Str → M D := fun acc => rt (.str acc)
def jPut (n : Str → M D) (acc : Str) : D → M D
  | .str y => if (acc ++ y).length ≤ 1000000 then n (acc ++ y) else fun _ => none
  | _ => fun _ => none
def jCons (m : M D) (n : Str → M D) : Str → M D := fun acc => bnd m (jPut n acc)
@[simp] theorem s_jNil (acc : Str) (ρ : En) : jNil acc ρ = some (.ok (.str acc), ρ) := rfl
@[simp] theorem s_jCons (m : M D) (n : Str → M D) (acc : Str) (ρ : En) : jCons m n acc ρ = bnd m (jPut n acc) ρ := rfl
@[simp] theorem s_jPut (n : Str → M D) (acc y : Str) : jPut n acc (.str y) = if (acc ++ y).length ≤ 1000000 then n (acc ++ y) else fun _ => none := rfl
theorem pjm_nil : PJM X W true [] jNil := ⟨[], .nil, fun acc σ H Q hq => by
  obtain ⟨B, F, ρ, fp, r, ρ', E, hm, post⟩ := hq
  obtain ⟨e1, e2⟩ := rt_some hm
  subst e1 e2
  exact post B H fp acc (fun _ _ z => z) E rfl fun _ => ⟨rfl, rfl, Ext.refl E.bh⟩⟩
theorem pjm_cons {e : Expr} {es : List Expr} {m : M D} {n : Str → M D} (he : PEM X W q1 e m) (hr : PJM X W q2 es n) : PJM X W (q1 && q2) (e :: es) (jCons m n) := by
  obtain ⟨ts, pj, hj⟩ := hr
  refine ⟨_, .cons he pj, fun acc σ H Q hq => ?_⟩
  obtain ⟨B, F, ρ, fp, r, ρ', E, hm, post⟩ := hq
  refine can_bnd E hm post.err fun d ρ1 B1 H1 fp1 x hm1 s1 E1 rx k1 => ?_
  cases d with
  | str y =>
    cases (show x = V.str _ from rx)
    have hm1 : (if (acc ++ y).length ≤ 1000000 then n (acc ++ y) else fun _ => none) ρ1 = some (r, ρ') := hm1
    by_cases hl : (acc ++ y).length ≤ 1000000
    · rw [if_pos hl] at hm1
      refine ⟨y, rfl, mil hl, hj _ σ H1 Q ⟨B1, F, ρ1, fp1, r, ρ', E1, hm1, ?_⟩⟩
      cases r with
      | error x => exact (post.err x rfl).up s1
      | ok a =>
        refine fun B' H' fp' w s' E' rl qq => post B' H' fp' w (s1.trans s') E' rl fun hq => ?_
        obtain ⟨qa, qb⟩ := and_t hq
        obtain ⟨a1, a2, a3⟩ := k1 qa
        obtain ⟨b1, b2, b3⟩ := qq qb
        exact ⟨b1.trans a1, b2.trans a2, a3.trans b3⟩
    · rw [if_neg hl] at hm1; cases hm1
  | _ => cases hm1
theorem pem_joined {v1 v2 : Expr} {rest : List Expr} {n : Str → M D} {pos : Pos} (h : PJM X W q (v1 :: v2 :: rest) n) : PEM X W q (.JoinedStr (v1 :: v2 :: rest) pos) (n Str.empty) := by
  obtain ⟨ts, pj, hj⟩ := h
  refine pe_imp (pe_joined pj) fun σ H Q hq => hj _ σ H _ ?_
  obtain ⟨B, F, ρ, fp, r, ρ', E, hm, post⟩ := hq
  refine ⟨B, F, ρ, fp, r, ρ', E, hm, ?_⟩
  cases r with
  | error x => exact post
  | ok a => exact fun B' H' fp' w s' E' rl qq => post B' H' fp' _ s' E' (by rw [show a = .str w from rl]; rfl) qq
def chars (z : Str) : List D := z.cps.toList.map fun c => .str ⟨#[c]⟩
def charsD : D → Option (List D)
  | .str z => some (chars z)
  | _ => none
@[simp] theorem s_charsD (z : Str) : charsD (.str z) = some (chars z) := rfl
def iChars (m : M D) : M (List D) := bnd m fun d => ofO (charsD d)
@[simp] theorem s_iChars (m : M D) (ρ : En) : iChars m ρ = bnd m (fun d => ofO (charsD d)) ρ := rfl
theorem walks_str {K : PySem.W.Frag} {B : Hp} {z : Str} : WalksD K (Its z) B (chars z) := fun B2 H sb sh i => by
  refine ⟨fun d e => ?_, fun hi => by show z.cps.size ≤ i; simpa [chars] using hi⟩
  unfold chars at e
  rw [List.getElem?_map] at e
  obtain ⟨c, hc, rfl⟩ := Option.map_eq_some_iff.mp e
  rw [Array.getElem?_toList] at hc
  refine ⟨?_, fun v H' hy => ?_⟩
  · rcases Nat.lt_or_ge i z.cps.size with q | q
    · exact q
    · rw [Array.getElem?_eq_none q] at hc; cases hc
  · obtain ⟨rfl, c', hc', rfl⟩ := hy
    rw [hc] at hc'
    cases hc'
    exact ⟨B2, Ext.refl sh, rfl⟩
theorem pim_str {tg e : Expr} {m : M D} (h : PEM X W q e m) : PIM X W q tg e (iChars m) :=
  pi_imp (pi_str h) fun σ H R hc => by
    obtain ⟨B, F, ρ, fp, r, ρ', E, hm, post⟩ := hc
    refine can_bnd E hm (fun x e => by subst e; exact post) fun d ρ1 B1 H1 fp1 v hm1 s1 E1 rv k1 => ?_
    obtain ⟨ds, e1, e2, e3⟩ := ofO_some hm1
    subst e2 e3
    cases d with
    | str z =>
      cases e1
      cases (show v = V.str _ from rv)
      exact ⟨z, rfl, post B1 H1 fp1 (Its z) s1 E1 walks_str k1⟩
    | _ => cases e1
def sgn (x : Str) : Option Nat := match x.cps.toList with
  | [c] => some c
  | _ => none
@[simp] theorem s_sgn (c : Nat) : sgn ⟨#[c]⟩ = some c := rfl
theorem sgn_some {x : Str} {c : Nat} (h : sgn x = some c) : x = ⟨#[c]⟩ := by
  unfold sgn at h
  split at h
  · rename_i c' e
    cases h
    obtain ⟨⟨l⟩⟩ := x
    simp only at e
    subst e
    rfl
  · cases h
def inS : D → D → Option D
  | .str x, .str z => (sgn x).map fun c => .bl (decide (c ∈ z.cps.toList))
  | _, _ => none
def ninS : D → D → Option D
  | .str x, .str z => (sgn x).map fun c => .bl (!decide (c ∈ z.cps.toList))
  | _, _ => none
@[simp] theorem s_inS (c : Nat) (z : Str) : inS (.str ⟨#[c]⟩) (.str z) = some (.bl (decide (c ∈ z.cps.toList))) := rfl
@[simp] theorem s_ninS (c : Nat) (z : Str) : ninS (.str ⟨#[c]⟩) (.str z) = some (.bl (!decide (c ∈ z.cps.toList))) := rfl
theorem od_inS : OpS X (compareOp .In) inS := ⟨_, op_in_sign, fun B H x y z u v s rx ry e Q k => by
  cases x with
  | str a =>
    cases y with
    | str t =>
      obtain ⟨c, hc, rfl⟩ := Option.map_eq_some_iff.mp (show (sgn a).map (fun c => D.bl (decide (c ∈ t.cps.toList))) = some z from e)
      rw [sgn_some hc] at rx
      cases (show u = V.str _ from rx)
      cases (show v = V.str _ from ry)
      exact ⟨c, _, rfl, rfl, k B H _ (Ext.refl s) rfl⟩
    | _ => cases e
  | _ => cases y <;> cases e⟩
theorem od_ninS : OpS X (compareOp .NotIn) ninS := ⟨_, op_notIn_sign, fun B H x y z u v s rx ry e Q k => by
  cases x with
  | str a =>
    cases y with
    | str t =>
      obtain ⟨c, hc, rfl⟩ := Option.map_eq_some_iff.mp (show (sgn a).map (fun c => D.bl (!decide (c ∈ t.cps.toList))) = some z from e)
      rw [sgn_some hc] at rx
      cases (show u = V.str _ from rx)
      cases (show v = V.str _ from ry)
      exact ⟨c, _, rfl, rfl, k B H _ (Ext.refl s) rfl⟩
    | _ => cases e
  | _ => cases y <;> cases e⟩
def splitD (b : Str) : D → Option D
  | .str a => if (b.length == 0) = false ∧ a.length ≤ 1000000 then some (.lst false ((Txt.split a b).map .str)) else none
  | _ => none
theorem s_split (a b : Str) (h : (b.length == 0) = false) (h2 : a.length ≤ 1000000) : splitD b (.str a) = some (.lst false ((Txt.split a b).map .str)) := if_pos ⟨h, h2⟩
theorem strs_rep {K : PySem.W.Frag} {B : Hp} : ∀ ys : List Str, RepsF K B (ys.map .str) (ys.map V.str)
  | [] => RepsF.nil
  | y :: ys => RepsF.cons rfl (strs_rep ys)
theorem pem_split {o : Expr} {b : Str} {m : M D} {j} {p apos pos : Pos} (h : PEM X W q o m)
    (hs : starEach [.Constant (.str b) j p] X.env = [(false, eval (.Constant (.str b) j p) X.env)] := by rfl) (hbase : attributeBase o "split" X.env (eval o X.env) = eval o X.env := by rfl) (hline : (apos.endLine == pos.line) = true := by rfl) :
    PEM X W q (.Call (.Attribute o "split" apos) [.Constant (.str b) j p] [] pos) (eUn (splitD b) m) := by
  refine pe_imp (pe_split h pe_str hs hbase hline) fun σ H Q hq => ?_
  obtain ⟨B, F, ρ, fp, r0, ρ', E, hm, post⟩ := hq
  refine can_bnd E hm post.err fun d ρ1 B1 H1 fp1 x hm1 s1 E1 rx k1 => ?_
  obtain ⟨z, e1, e2, e3⟩ := ofO_some hm1
  subst e2 e3
  cases d with
  | str a =>
    cases (show x = V.str _ from rx)
    have e1 : (if (b.length == 0) = false ∧ a.length ≤ 1000000 then some (D.lst false ((Txt.split a b).map .str)) else none) = some z := e1
    by_cases hl : (b.length == 0) = false ∧ a.length ≤ 1000000
    · rw [if_pos hl] at e1
      cases e1
      refine ⟨⟨a, rfl⟩, a, b, rfl, rfl, hl.1, by rw [sizeLine_eq]; omega, fun p hp => ?_⟩
      have ex := Ext.obj E1.bh hp (.lst ((Txt.split a b).map V.str))
      refine post _ _ fp1 _ (s1.trans ex.bb) (E1.ext ex) (repL E1.bh (strs_rep _) p hp) fun qq => ?_
      obtain ⟨a1, a2, a3⟩ := k1 qq
      exact ⟨a1, a2, a3.trans ex⟩
    · rw [if_neg hl] at e1; cases e1
  | _ => cases e1
def repS (z : Str) (n : Nat) : Str := ⟨(List.replicate n z.cps).foldl (· ++ ·) #[]⟩
theorem rep_size (a : Array Nat) : ∀ (n : Nat) (acc : Array Nat), ((List.replicate n a).foldl (· ++ ·) acc).size = acc.size + n * a.size
  | 0, acc => by simp
  | n + 1, acc => by
    rw [List.replicate_succ, List.foldl_cons, rep_size a n, Array.size_append, Nat.succ_mul]
    omega
theorem repS_len (z : Str) (n : Nat) : (repS z n).length = n * z.length := by
  show ((List.replicate n z.cps).foldl (· ++ ·) #[]).size = _
  rw [rep_size]
  simp
  rfl
theorem op_repS : OpR X (binaryOp .Mult) (fun x y H Q => ∃ (z : Str) (n : Nat), x = .str z ∧ y = .int (n : Int) ∧ 2 ≤ n ∧ z.length ≠ 0 ∧ z.length * n ≤ 1000000 ∧ Q (.str (repS z n)) H) := by
  intro pins s σ H x y v u Q I rx ry h
  obtain ⟨z, n, rfl, rfl, hn, hz, hl, q⟩ := h
  obtain ⟨t, rfl⟩ := rx
  obtain ⟨t2, rfl⟩ := ry
  have hn1 : n ≤ 1000000 := Nat.le_trans (Nat.le_mul_of_pos_left n (Nat.pos_of_ne_zero hz)) hl
  have hzl : z.length ≤ 1000000 := Nat.le_trans (Nat.le_mul_of_pos_right z.length (by omega)) hl
  have c0 : (decide ((n : Int) < -(2 ^ 63 : Int)) || decide ((n : Int) ≥ 2 ^ 63)) = false := by
    rw [decide_eq_false (by omega), decide_eq_false (by omega)]; rfl
  have n1 : ¬ (n : Int) < 1 := by omega
  have n2 : ((n : Int) == 1 || z.length == 0) = false := by
    rw [Bool.or_eq_false_iff]
    exact ⟨beq_eq_false_iff_ne.mpr (by omega), beq_eq_false_iff_ne.mpr hz⟩
  refine P.mul_str c0 (fun _ _ => ?_) (fun _ _ => ?_) ?_
  · have h1 : (z.length : Int) * n ≤ 1000000 := by rw [← Int.natCast_mul]; omega
    have h2 : (z.length : Int) ≤ (2 ^ 63 - 1) / n := by
      rw [Int.le_ediv_iff_mul_le (by omega)]
      omega
    omega
  · unfold PySem.Builtin.Str.tooLong
    rw [Int.toNat_natCast, sizeLine_eq]
    exact decide_eq_false (by omega)
  · rw [if_neg n1, if_neg (by rw [n2]; decide), Int.toNat_natCast]
    refine ⟨?_, .str (repS z n), H, I.tok _, ⟨_, rfl⟩, q⟩
    have := repS_len z n
    rw [Nat.mul_comm] at this
    show (repS z n).length ≤ sizeLine
    rw [this, sizeLine_eq]
    omega
def mulSD : D → D → Option D
  | .str z, .int k => if 2 ≤ k ∧ z.length ≠ 0 ∧ z.length * k.toNat ≤ 1000000 then some (.str (repS z k.toNat)) else none
  | _, _ => none
theorem s_mulS (z : Str) (k : Int) (h : 2 ≤ k ∧ z.length ≠ 0 ∧ z.length * k.toNat ≤ 1000000) : mulSD (.str z) (.int k) = some (.str (repS z k.toNat)) := if_pos h
theorem od_mulS : OpS X (binaryOp .Mult) mulSD := ⟨_, op_repS, fun B H x y z u v s rx ry e Q k => by
  cases x with
  | str z' =>
    cases y with
    | int i =>
      have e : (if 2 ≤ i ∧ z'.length ≠ 0 ∧ z'.length * i.toNat ≤ 1000000 then some (D.str (repS z' i.toNat)) else none) = some z := e
      by_cases h : 2 ≤ i ∧ z'.length ≠ 0 ∧ z'.length * i.toNat ≤ 1000000
      · rw [if_pos h] at e
        cases e
        cases (show u = V.str _ from rx)
        cases (show v = V.int _ from ry)
        obtain ⟨n, rfl⟩ := Int.eq_ofNat_of_zero_le (show 0 ≤ i by omega)
        rw [Int.toNat_natCast] at h k
        exact ⟨z', n, rfl, rfl, by omega, h.2.1, h.2.2, k B H _ (Ext.refl s) rfl⟩
      · rw [if_neg h] at e; cases e
    | _ => cases e
  | _ => cases y <;> cases e⟩
end
end G

namespace G
open PySem PySem.Spec PyProof.Rows L2
section
variable {X : Cx} {W : WX} {q q1 q2 q3 : Bool} {P : Nat → Bool}
def augI (i : Nat) (b : Int) : M Fl := fun ρ => match ρ[i]? with
  | some (some (.int a)) => put i (.int (a + b)) ρ
  | _ => none
@[simp] theorem s_augI (i : Nat) (b : Int) (ρ : En) : augI i b ρ = match ρ[i]? with
  | some (some (.int a)) => put i (.int (a + b)) ρ
  | _ => none := rfl
theorem psm_augI {i : Nat} {x : Str} {b : Int} {j} {p pos pos' : Pos} (hN : X.N.Nodup) (hi : X.N[i]? = some x) (hx : Loc X.env.scope x) (hp : P i = false := by rfl)
    (hf : X.fn x = true ∨ X.env.scope.names.lookup x = some .local := by first | exact .inl rfl | exact .inr rfl | assumption) : PSM X W P (.AugAssign (.Name x pos') .Add (.Constant (.int b) j p) pos) (augI i b) :=
  ps_imp (ps_aug hN hi hx pe_int ip_add hf) fun D σ H h => by
    obtain ⟨B, F, ρ, fp, r, ρ', E, hm, post⟩ := h
    unfold augI at hm
    split at hm
    · rename_i a e
      obtain ⟨v, h1, h2⟩ := E.rep i _ e
      cases (show v = V.int a from h2)
      obtain ⟨hl, e1, e2⟩ := put_some hm
      subst e1 e2
      exact ⟨.int a, h1, a, b, rfl, rfl, post B H _ _ (fun _ _ z => z) (E.set hl (ValOk.of rfl)) (Pin.set hp)⟩
    · cases hm
def strsOf : List D → Option (List Str)
  | [] => some []
  | .str s :: ds => (strsOf ds).map (s :: ·)
  | _ => none
@[simp] theorem s_strs0 : strsOf [] = some [] := rfl
@[simp] theorem s_strs1 (s : Str) (ds : List D) : strsOf (.str s :: ds) = (strsOf ds).map (s :: ·) := rfl
theorem strsOf_rep {K : PySem.W.Frag} {B : Hp} : ∀ {ds : List D} {ss : List Str} {xs : List V}, strsOf ds = some ss → RepsF K B ds xs → xs = ss.map V.str
  | [], ss, xs, h, r => by cases h; exact r
  | d :: ds, ss, xs, h, ⟨x, xs', e, r, rs⟩ => by
    cases d with
    | str s =>
      obtain ⟨ss', h1, rfl⟩ := Option.map_eq_some_iff.mp (show (strsOf ds).map (s :: ·) = some ss from h)
      rw [e, strsOf_rep h1 (RepsF.of rs), show x = V.str s from r]
      rfl
    | _ => cases h
def joinD (b : Str) : D → Option D
  | .lst false ds => (strsOf ds).bind fun ys => if (ys.map (·.length)).sum + ys.length * b.length ≤ 1000000 then some (.str (Txt.join b ys)) else none
  | .tup ds => (strsOf ds).bind fun ys => if (ys.map (·.length)).sum + ys.length * b.length ≤ 1000000 then some (.str (Txt.join b ys)) else none
  | _ => none
theorem joinB {b : Str} {ds : List D} {z : D} (h : ((strsOf ds).bind fun ys => if (ys.map (·.length)).sum + ys.length * b.length ≤ 1000000 then some (D.str (Txt.join b ys)) else none) = some z) : ∃ ys, strsOf ds = some ys ∧ (ys.map (·.length)).sum + ys.length * b.length ≤ 1000000 ∧ z = .str (Txt.join b ys) := by
  cases e : strsOf ds with
  | none => rw [e] at h; cases h
  | some ys =>
    rw [e] at h
    have h : (if (ys.map (·.length)).sum + ys.length * b.length ≤ 1000000 then some (D.str (Txt.join b ys)) else none) = some z := h
    by_cases hl : (ys.map (·.length)).sum + ys.length * b.length ≤ 1000000
    · rw [if_pos hl] at h
      cases h
      exact ⟨ys, rfl, hl, rfl⟩
    · rw [if_neg hl] at h; cases h
theorem pem_join {e : Expr} {b : Str} {m : M D} {j} {p apos pos : Pos} (h : PEM X W q e m) (hs : starEach [e] X.env = [(false, eval e X.env)] := by rfl)
    (hbase : attributeBase (.Constant (.str b) j p) "join" X.env (eval (.Constant (.str b) j p) X.env) = eval (.Constant (.str b) j p) X.env := by rfl) (hline : (apos.endLine == pos.line) = true := by rfl) :
    PEM X W q (.Call (.Attribute (.Constant (.str b) j p) "join" apos) [e] [] pos) (eUn (joinD b) m) := by
  refine pe_imp (pe_join pe_str h hs hbase hline) fun σ H Q hq => ?_
  obtain ⟨B, F, ρ, fp, r0, ρ', E, hm, post⟩ := hq
  refine ⟨⟨b, rfl⟩, ?_⟩
  refine can_bnd E hm post.err fun d ρ1 B1 H1 fp1 x hm1 s1 E1 rx k1 => ?_
  obtain ⟨z, e1, e2, e3⟩ := ofO_some hm1
  subst e2 e3
  cases d with
  | lst o ds =>
    cases o with
    | true => cases e1
    | false =>
      obtain ⟨ys, h1, h2, rfl⟩ := joinB e1
      obtain ⟨a, xs, rfl, qa, rr⟩ := rx
      have := strsOf_rep h1 (RepsF.of rr)
      subst this
      exact ⟨b, a, ys, rfl, rfl, .inl (sqL_mono E1.bh (sqL_of qa)), by omega, post B1 H1 fp1 _ s1 E1 rfl k1⟩
  | tup ds =>
    obtain ⟨ys, h1, h2, rfl⟩ := joinB e1
    obtain ⟨a, xs, rfl, qa, rr⟩ := rx
    have := strsOf_rep h1 (RepsF.of rr)
    subst this
    exact ⟨b, a, ys, rfl, rfl, .inr (sqT_mono E1.bh qa), by omega, post B1 H1 fp1 _ s1 E1 rfl k1⟩
  | _ => cases e1
inductive DispS : List (Option Expr) → List Expr → List (Str × Str) → Prop
  | nil : DispS [] [] []
  | cons {x v : Str} {j1 j2} {p1 p2 : Pos} {ks : List (Option Expr)} {vs : List Expr} {l : List (Str × Str)} (h : DispS ks vs l) : DispS (some (.Constant (.str x) j1 p1) :: ks) (.Constant (.str v) j2 p2 :: vs) ((x, v) :: l)
theorem DispS.pps {pos : Pos} {ks : List (Option Expr)} {vs : List Expr} {l : List (Str × Str)} (h : DispS ks vs l) : PPs X pos ks vs (l.map fun kv => (tC (.str kv.1), tC (.str kv.2))) := by
  induction h with
  | nil => exact pps_nil
  | cons h ih => exact pps_cons pe_str pe_str ih
theorem DispS.pairs {l : List (Str × Str)} {σ : L2.St} {H : Hp} : ∀ {Q : List (V × V) → Hp → Prop}, Q (l.map fun kv => (V.str kv.1, V.str kv.2)) H → tPairs (l.map fun kv => (tC (.str kv.1), tC (.str kv.2))) σ H Q := by
  induction l with
  | nil => exact fun h => h
  | cons kv l ih => exact fun h => ih h
def ksOf (l : List (Str × Str)) : List Key := l.map fun kv => .inr kv.1
def vsOf' (l : List (Str × Str)) : List D := l.map fun kv => .str kv.2
def kvOf (l : List (Str × Str)) : List (Key × V) := l.map fun kv => (.inr kv.1, .str kv.2)
theorem merge_new : ∀ (more kvs : List (Key × V)), (∀ k ∈ more.map Prod.fst, k ∉ kvs.map Prod.fst) → (more.map Prod.fst).Nodup → mergeK kvs more = kvs ++ more
  | [], kvs, _, _ => by simp [mergeK]
  | kv :: more, kvs, h, nd => by
    rw [List.map_cons, List.nodup_cons] at nd
    have h1 : putK kvs kv.1 kv.2 = kvs ++ [kv] := by
      unfold putK
      rw [if_neg]
      intro z
      obtain ⟨p, hp, e⟩ := List.any_eq_true.mp z
      exact h kv.1 (by simp) (List.mem_map.mpr ⟨p, hp, of_decide_eq_true e⟩)
    show mergeK (putK kvs kv.1 kv.2) more = _
    rw [h1, merge_new more (kvs ++ [kv]) (fun k hk hm => by
      rw [List.map_append] at hm
      rcases List.mem_append.mp hm with z | z
      · exact h k (by rw [List.map_cons]; exact List.mem_cons_of_mem _ hk) z
      · have : k = kv.1 := by simpa using z
        rw [this] at hk
        exact nd.1 hk) nd.2, List.append_assoc]
    rfl
theorem kv_fst (l : List (Str × Str)) : (kvOf l).map Prod.fst = ksOf l := by simp [kvOf, ksOf]
theorem kv_snd (l : List (Str × Str)) : (kvOf l).map Prod.snd = l.map fun kv => V.str kv.2 := by simp [kvOf]
theorem vs_rep {K : PySem.W.Frag} {B : Hp} : ∀ l : List (Str × Str), RepsF K B (vsOf' l) (l.map fun kv => V.str kv.2)
  | [] => RepsF.nil
  | kv :: l => RepsF.cons rfl (vs_rep l)
def dkS (o : Bool) (l : List (Str × Str)) : D := .dk o (ksOf l) (vsOf' l)
theorem peo_dictS {ks : List (Option Expr)} {vs : List Expr} {l : List (Str × Str)} {pos : Pos} (h : DispS ks vs l) (nd : (ksOf l).Nodup) (hall : ks.all (·.isSome) = true) (hl : ks.length = vs.length) (h0 : ks ≠ []) (h15 : ks.length ≤ 15) (hl2 : l.length ≤ 15) : PEO X W (.Dict ks vs pos) (rt (dkS true l)) :=
  pe_imp (pe_disp h.pps hall hl h0 h15) fun σ H Q hq => by
    obtain ⟨B, F, ρ, fp, r, ρ', E, hm, post⟩ := hq
    obtain ⟨e1, e2⟩ := rt_some hm
    subst e1 e2
    refine fun p hp => DispS.pairs ⟨upd_same, kvOf l, by simp [kvOf, kV], by simp [kvOf]; exact hl2, ?_⟩
    have mg : mergeK [] (kvOf l) = kvOf l := by
      rw [merge_new (kvOf l) [] (fun k _ hm => by cases hm) (by rw [kv_fst]; exact nd)]
      rfl
    rw [upd_upd, mg]
    have hFp : F p = none := E.fh.free hp
    refine post B (upd H p (.dK (kvOf l))) fp (.ref p) (fun a => a = p) (fun _ _ z => z) (E.ext (Ext.obj0 E.bh hp _)) ⟨⟨p, kvOf l, noT, rfl, rfl, upd_same, kv_fst l, ⟨fun _ _ z => z.elim, fun _ _ _ z => z.elim⟩, ?_⟩, fun a z => ?_⟩
    · rw [kv_snd]
      exact RepsF.to (vs_rep l)
    · have z : a = p := z
      subst z
      exact ⟨E.bh.free hp, hFp, by rw [upd_same]; simp, fun i z => E.live i a z hp⟩
end
end G

namespace G
open PySem PySem.Spec PyProof.Rows L2
def Ites (z : Str) : It :=
  ⟨fun i _ => i < z.cps.size, fun i H v H' => ∃ T c, v = .ref T ∧ H T = none ∧ z.cps[i]? = some c ∧ H' = upd H T (.tup [.int (i : Nat), .str ⟨#[c]⟩]), fun i _ => z.cps.size ≤ i⟩
theorem turn_enumS {P : Program} {w : World} {K : PySem.W.Frag} {elts : List Expr} {kk : Nat} {tpos : Pos} (z : Str) (t : Tok) (e it : Addr) :
    Turn P w K (.Tuple elts kk tpos) (Ites z) [e, it] e (fun i h => (∃ old, IsEnum h e it ((i : Nat) : Int) old) ∧ h.IsStrIter it (strIterType z) z t i ∧ e ≠ it ∧ i ≤ z.cps.size) where
  mem := by simp
  obj := fun i h st b hb => by
    obtain ⟨⟨old, he⟩, ⟨o, ho, hc, hd⟩, _⟩ := st
    have q : b = e ∨ b = it := by simpa using hb
    rcases q with rfl | rfl
    · exact ⟨_, he, fun v z => nomatch z⟩
    · exact ⟨o, ho, fun v z => by rw [hd] at z; cases z⟩
  keep := fun i h h' st k => by
    obtain ⟨⟨old, he⟩, ⟨o, ho, hc, hd⟩, hne⟩ := st
    exact ⟨⟨old, k e (by simp) _ he⟩, ⟨o, k it (by simp) _ ho, hc, hd⟩, hne⟩
  item := by
    intro X hP hw hK hc i pins s σ H E I hf st hg
    subst hP hw hK
    obtain ⟨⟨old, he⟩, hit, hne, hle⟩ := st
    have hel : e < s.heap.objs.size := Heap.lt_size he
    have hil : it < s.heap.objs.size := by obtain ⟨_, q, _⟩ := hit; exact Heap.lt_size q
    have Dr := Draws.text (prog := X.prog) (w := X.w) (A := X.A.in1) (I.ok.hd hc) it z t
    refine wpAny_pyNext_enum_itemD Dr he hit hg hne (by simp [hne]) fun y h' tk hy ho hit' hT hsz hk => ?_
    obtain ⟨c, u, hcx, rfl⟩ := hy
    refine ⟨_, rfl, wpAny_letOwnedTupleGo_enum (s := { s with heap := h', toks := tk + 1 }) ho fun h'' he' sb => ?_⟩
    have hT2 : h''.get? s.heap.objs.size = some { cls := .type "tuple", data := .seq #[.int i tk, .str ⟨#[c]⟩ u] } := (sb.2 _ (Nat.ne_of_gt hel)).trans hT
    have new : ObjOk X.prog X.w (upd H s.heap.objs.size (.tup [.int (i : Nat), .str ⟨#[c]⟩])) h'' s.heap.objs.size (.tup [.int (i : Nat), .str ⟨#[c]⟩]) :=
      ⟨by show 2 ≤ sizeLine; decide, [.int i tk, .str ⟨#[c]⟩ u], .cons ⟨_, rfl⟩ (.cons ⟨_, rfl⟩ .nil), ⟨_, hT2, rfl, _, rfl⟩⟩
    have I1 : Inv X pins σ (upd H s.heap.objs.size (.tup [.int (i : Nat), .str ⟨#[c]⟩])) { s with heap := h'', toks := tk + 1 } :=
      I.turnedNew (ch := [e, it]) (fun b ob hb q => (sb.2 b (fun z => hb (by simp [z]))).trans (hk b ob (fun z => hb (by simp [z])) (fun z => hb (by simp [z])) q)) hf (Nat.le_refl _) new
    obtain ⟨o2, ho2, hc2, hd2⟩ := hit'
    refine ⟨.ref s.heap.objs.size, _, I1, rfl, ⟨_, c, rfl, I.hok.fresh (Nat.le_refl _), hcx, rfl⟩, ⟨⟨.str ⟨#[c]⟩ u, ?_⟩, ⟨o2, (sb.2 it (Ne.symm hne)).trans ho2, hc2, hd2⟩, hne, hg⟩, fun b hb => ?_⟩
    · have e1 : ((i + 1 : Nat) : Int) = (i : Int) + 1 := by omega
      rw [e1]
      exact he'
    · have hb' : b < s.heap.objs.size := by
        have q : b = e ∨ b = it := by simpa using hb
        rcases q with rfl | rfl
        · exact hel
        · exact hil
      rw [upd_ne (Nat.ne_of_lt hb')]
      exact (hf b hb).1
  done := by
    intro X hP hw hK hc i pins s σ H E I hf st hg
    subst hP hw hK
    obtain ⟨⟨old, he⟩, hit, hne, hle⟩ := st
    obtain ⟨f0, f1, f2, f3, f4, f5⟩ := hf it (by simp)
    have ei : i = z.cps.size := Nat.le_antisymm hle hg
    have Dr := Draws.text (prog := X.prog) (w := X.w) (A := X.A.in1) (I.ok.hd hc) it z t
    exact wpAny_pyNext_enum_endD Dr he (by rw [← ei]; exact hit) fun h' eb => ⟨rfl, I.turned (t' := s.toks) (fun b ob hb z => eb b ob hb z) f0 f1 f3 f4 f5⟩
  self := fun A i s Q E st h => let ⟨⟨_, he⟩, _⟩ := st; wpAny_pyIter_enum he h
def iEnumS (ta : TA) : TI := fun σ H R => ta σ H fun vs H1 => ∃ z, vs = [.str z] ∧ R (Ites z) H1
theorem pi_enumS {X : Cx} {e : Expr} {ta : TA} {p pos tpos : Pos} {elts : List Expr} {kk : Nat} (hg : Gl X "enumerate") (hm : X.mg "enumerate" = none) (ha : PA X [e] ta) (hs : starEach [e] X.env = [(false, eval e X.env)] := by rfl) :
    PI X (.Tuple elts kk tpos) (.Call (.Name "enumerate" p) [e] [] pos) (iEnumS ta) := by
  refine ⟨fun pins s σ H R I h => ?_⟩
  refine Call_ (ld_blt I hg hm boot_enumerate (PyProof.Rows.callWith_type1 (thn (ha.run pos pins s σ H _ I h) fun us s1 hh => ?_) hs rfl))
  obtain ⟨vs, H1, I1, r1, z, rfl, q⟩ := hh
  obtain ⟨u, rfl, ru⟩ := vals1 r1
  obtain ⟨t, rfl⟩ := ru
  refine call_enumerate_str fun h' he hit hsz hk => wpAny_pyIter_enum he ?_
  have I2 : Inv X pins σ H1 { s1 with heap := h' } := I1.kept (t' := s1.toks) hk
  refine ⟨s1.heap.objs.size + 1, [s1.heap.objs.size + 1, s1.heap.objs.size], _, _, H1, rfl, I2, turn_enumS z t (s1.heap.objs.size + 1) s1.heap.objs.size, ⟨⟨.none, he⟩, hit, Nat.succ_ne_self _, Nat.zero_le _⟩, fun b hb => ?_, q⟩
  have hle : s1.heap.objs.size ≤ b := by
    have z : b = s1.heap.objs.size + 1 ∨ b = s1.heap.objs.size := by simpa using hb
    rcases z with z | z
    · rw [z]; exact Nat.le_succ _
    · rw [z]; exact Nat.le_refl _
  exact I1.fpOk hle (I1.hok.fresh hle)
theorem chars_get {z : Str} {i : Nat} {d : D} (h : (chars z)[i]? = some d) : ∃ c, z.cps[i]? = some c ∧ d = .str ⟨#[c]⟩ := by
  unfold chars at h
  rw [List.getElem?_map] at h
  obtain ⟨c, hc, rfl⟩ := Option.map_eq_some_iff.mp h
  rw [Array.getElem?_toList] at hc
  exact ⟨c, hc, rfl⟩
theorem chars_len (z : Str) : (chars z).length = z.cps.size := by simp [chars]
theorem lt_of_get {α : Type} {a : Array α} {i : Nat} {c : α} (h : a[i]? = some c) : i < a.size := by
  rcases Nat.lt_or_ge i a.size with q | q
  · exact q
  · rw [Array.getElem?_eq_none q] at h; cases h
theorem walks_eS {K : PySem.W.Frag} {B : Hp} (z : Str) : WalksD K (Ites z) B (enumD 0 (chars z)) := fun B2 H sb sh i => by
  refine ⟨fun d e => ?_, fun hi => by rw [enumD_len, chars_len] at hi; exact hi⟩
  rw [enumD_get, Nat.zero_add] at e
  obtain ⟨d', hd, rfl⟩ := Option.map_eq_some_iff.mp e
  obtain ⟨c, hc, rfl⟩ := chars_get hd
  refine ⟨lt_of_get hc, fun v H' hy => ?_⟩
  obtain ⟨T, c', rfl, hT, hc', rfl⟩ := hy
  rw [hc] at hc'
  cases hc'
  exact ⟨upd B2 T (.tup [.int (i : Nat), .str ⟨#[c]⟩]), Ext.obj sh hT _, repT sh (RepsF.cons (show RepF K B2 (.int (i : Nat)) (.int (i : Nat)) from rfl) (RepsF.cons (show RepF K B2 (.str ⟨#[c]⟩) (.str ⟨#[c]⟩) from rfl) RepsF.nil)) T hT⟩
def enumS : List D → Option (List D)
  | [d] => (charsD d).map (enumD 0)
  | _ => none
@[simp] theorem s_enumS (z : Str) : enumS [.str z] = some (enumD 0 (chars z)) := rfl
theorem pim_enumS {X : Cx} {W : WX} {q : Bool} {e : Expr} {m : M (List D)} {p pos tpos : Pos} {elts : List Expr} {kk : Nat} (hg : Gl X "enumerate") (hm : X.mg "enumerate" = none) (ha : PAM X W q [e] m) (hs : starEach [e] X.env = [(false, eval e X.env)] := by rfl) :
    PIM X W q (.Tuple elts kk tpos) (.Call (.Name "enumerate" p) [e] [] pos) (iRng enumS m) :=
  pi_imp (pi_enumS hg hm ha hs) fun σ H R h => can_I h fun a ds B H1 w e sh rl k => by
    match a, rl, e with
    | [d], ⟨v, vs, e1, rv, e2⟩, e =>
      subst e1
      rw [show vs = [] from e2]
      obtain ⟨ds', e3, rfl⟩ := Option.map_eq_some_iff.mp (show (charsD d).map (enumD 0) = some ds from e)
      cases d with
      | str z =>
        cases e3
        cases (show v = V.str z from rv)
        exact ⟨z, rfl, k _ (walks_eS z)⟩
      | _ => cases e3
    | [], _, e => cases e
    | _ :: _ :: _, _, e => simp [enumS] at e
def Itzs (K : PySem.W.Frag) (a : Addr) (z : Str) : It :=
  ⟨fun i H => ∃ (xs : List V) (x : V), SqT K H a xs ∧ xs[i]? = some x ∧ i < z.cps.size,
    fun i H v H' => ∃ T x c, v = .ref T ∧ H T = none ∧ H' = upd H T (.tup [x, .str ⟨#[c]⟩]) ∧ (∀ xs, SqT K H a xs → xs[i]? = some x) ∧ z.cps[i]? = some c,
    fun i H => ∃ xs : List V, SqT K H a xs ∧ (xs.length ≤ i ∨ z.cps.size ≤ i)⟩
/-- an iterator at its end, wherever that is -/
theorem Draws.tupEnd {prog : Program} {w : World} {A : Around} (hh : A.handled = none) (it t : Addr) (items : Array Value) (i : Nat) (h : items[i]? = none) :
    Draws prog w A it [it, t] i (fun _ _ => True) (fun j h => j = i ∧ h.IsTupleIter it t i ∧ h.IsTuple t items) where
  live := fun _ _ st => let ⟨o, ho, _⟩ := st.2.1; ⟨o, ho⟩
  frame := fun _ _ _ st hk => ⟨st.1, st.2.1.at fun o e => hk it (by simp) o e, st.2.2.at fun o e => hk t (by simp) o e⟩
  item := fun j s Q E hi st hQ => absurd st.1 (Nat.ne_of_lt hi)
  done := fun s Q E st hE => wpAny_nextOf_tuple_end hh st.2.1 st.2.2 h hE
theorem turn_zipS {P : Program} {w : World} {K : PySem.W.Frag} {elts : List Expr} {kk : Nat} {tpos : Pos} {a y TI TO i1 i2 : Addr} (z : Str) (t : Tok) (S : ZipSep2 y TI TO i1 i2 [i1, a] [i2]) (hai : a ≠ i1) :
    Turn P w K (.Tuple elts kk tpos) (Itzs K a z) [y, TI, TO, i1, i2] y (fun i h => IsZip h y TI TO .none ∧ IsTupOf2 h TI (.ref i1) (.ref i2) ∧ (∃ x y, IsTupOf2 h TO x y) ∧ h.IsTupleIter i1 a i ∧ h.IsStrIter i2 (strIterType z) z t i ∧ i ≤ z.cps.size) where
  mem := by simp
  obj := fun i h st c hc => by
    obtain ⟨hz, hTI, ⟨x, y, hTO⟩, ⟨o1, e1, _, d1⟩, ⟨o2, e2, _, d2⟩, _⟩ := st
    simp only [List.mem_cons, List.not_mem_nil, or_false] at hc
    rcases hc with q | q | q | q | q
    · rw [q]; exact ⟨_, hz, fun v q => nomatch q⟩
    · rw [q]; exact ⟨_, hTI, fun v q => nomatch q⟩
    · rw [q]; exact ⟨_, hTO, fun v q => nomatch q⟩
    · rw [q]; exact ⟨o1, e1, fun v q => by rw [d1] at q; cases q⟩
    · rw [q]; exact ⟨o2, e2, fun v q => by rw [d2] at q; cases q⟩
  keep := fun i h h' st k => by
    obtain ⟨hz, hTI, ⟨x, y', hTO⟩, h1, ⟨o2, e2, c2, d2⟩, hle⟩ := st
    exact ⟨k y (by simp) _ hz, k TI (by simp) _ hTI, ⟨x, y', k TO (by simp) _ hTO⟩, h1.at fun o q => k i1 (by simp) o q, ⟨o2, k i2 (by simp) _ e2, c2, d2⟩, hle⟩
  item := by
    intro X hP hw hK hc i pins s σ H E I hf st hg
    subst hP hw hK
    obtain ⟨hz, hTI, ⟨x0, y0, hTO⟩, h1, h2, hle⟩ := st
    obtain ⟨xs, x, hqx, hx, hlt2⟩ := hg
    obtain ⟨its, rv, p, _⟩ := I.tuple hqx
    obtain ⟨u, hu, ru⟩ := rv.get hx
    have hu' : its.toArray[i]? = some u := by simpa using hu
    have D1 := Draws.tuple (prog := X.prog) (w := X.w) (A := X.A.in1) (I.ok.hd hc) i1 a hai its.toArray
    have D2 := Draws.text (prog := X.prog) (w := X.w) (A := X.A.in1) (I.ok.hd hc) i2 z t
    have hzl : y < s.heap.objs.size := Heap.lt_size hz
    refine wpAny_pyNext_zipD2_item S D1 D2 hz hTI hTO ⟨h1, show s.heap.IsTuple a its.toArray from p⟩ h2 (lt_of_get hu') hlt2 fun u1 u2 h' tk hy1 hy2 z' TO' st1 st2 hT hsz hk => ?_
    have e1 : u1 = u := by rw [hu'] at hy1; exact (Option.some.inj hy1).symm
    subst e1
    obtain ⟨c, t2, hcx, rfl⟩ := hy2
    refine ⟨_, rfl, wpAny_letOwnedTupleGo_zip (s := { s with heap := h', toks := tk }) z' fun h'' z'' sb => ?_⟩
    have hT2 : h''.get? s.heap.objs.size = some { cls := .type "tuple", data := .seq #[u1, .str ⟨#[c]⟩ t2] } := (sb.2 _ (Nat.ne_of_gt hzl)).trans hT
    have new : ObjOk X.prog X.w (upd H s.heap.objs.size (.tup [x, .str ⟨#[c]⟩])) h'' s.heap.objs.size (.tup [x, .str ⟨#[c]⟩]) :=
      ⟨by show 2 ≤ sizeLine; decide, [u1, .str ⟨#[c]⟩ t2], .cons ru (.cons ⟨_, rfl⟩ .nil), ⟨_, hT2, rfl, _, rfl⟩⟩
    have I1 : Inv X pins σ (upd H s.heap.objs.size (.tup [x, .str ⟨#[c]⟩])) { s with heap := h'', toks := tk } :=
      I.turnedNew (t' := tk) (ch := [y, TI, TO, i1, i2]) (fun c o hb q => (sb.2 c (fun q' => hb (by simp [q']))).trans (hk c o (fun q' => hb (by simp [q'])) (fun q' => hb (by simp [q'])) (fun q' => hb (by simp [q'])) (fun q' => hb (by simp [q'])) q)) hf (Nat.le_refl _) new
    obtain ⟨o2, ho2, c2, d2⟩ := st2
    refine ⟨.ref s.heap.objs.size, _, I1, rfl, ⟨_, x, c, rfl, I.hok.fresh (Nat.le_refl _), rfl, fun l hl => by rw [I.tuple_inj hl hqx]; exact hx, hcx⟩, ⟨z'', ?_, ⟨u1, .str ⟨#[c]⟩ t2, ?_⟩, ?_, ⟨o2, ?_, c2, d2⟩, hlt2⟩, fun c hcm => ?_⟩
    · exact (sb.2 _ S.TIz).trans (hk _ _ S.TIz S.TITO S.TIi1 S.TIi2 hTI)
    · exact (sb.2 _ S.TOz).trans TO'
    · exact st1.1.at fun o q => (sb.2 _ (Ne.symm S.zi1)).trans q
    · exact (sb.2 _ (Ne.symm S.zi2)).trans ho2
    · have hlt : c < s.heap.objs.size := by
        simp only [List.mem_cons, List.not_mem_nil, or_false] at hcm
        rcases hcm with q | q | q | q | q
        · rw [q]; exact hzl
        · rw [q]; exact Heap.lt_size hTI
        · rw [q]; exact Heap.lt_size hTO
        · rw [q]; obtain ⟨_, e1, _⟩ := h1; exact Heap.lt_size e1
        · rw [q]; obtain ⟨_, e2, _⟩ := h2; exact Heap.lt_size e2
      rw [upd_ne (Nat.ne_of_lt hlt)]
      exact (hf c hcm).1
  done := by
    intro X hP hw hK hc i pins s σ H E I hf st hg
    subst hP hw hK
    obtain ⟨hz, hTI, ⟨x0, y0, hTO⟩, h1, h2, hle⟩ := st
    obtain ⟨xs, hqx, hend⟩ := hg
    obtain ⟨its, rv, p, _⟩ := I.tuple hqx
    have l1 := rv.length
    have D2 := Draws.text (prog := X.prog) (w := X.w) (A := X.A.in1) (I.ok.hd hc) i2 z t
    have fin : ∀ h' tk, (∀ c o, c ≠ y → c ≠ TO → c ≠ i1 → c ≠ i2 → s.heap.get? c = some o → h'.get? c = some o) → (none : Option Value) = none ∧ Inv X pins σ H { s with heap := h', toks := tk } := fun h' tk hk => ⟨rfl, I.turnedL (t' := tk) (ch := [y, TI, TO, i1, i2]) (fun c o hb q =>
      hk c o (fun q' => hb (by simp [q'])) (fun q' => hb (by simp [q'])) (fun q' => hb (by simp [q'])) (fun q' => hb (by simp [q'])) q) hf⟩
    by_cases hi : its.toArray.size ≤ i
    · exact wpAny_pyNext_zipD2_end S (Draws.tupEnd (prog := X.prog) (w := X.w) (A := X.A.in1) (I.ok.hd hc) i1 a its.toArray i (Array.getElem?_eq_none hi)) D2 hz hTI hTO ⟨rfl, h1, show s.heap.IsTuple a its.toArray from p⟩ h2 (Nat.le_refl _) hle (.inl rfl) fin
    · have D1 := Draws.tuple (prog := X.prog) (w := X.w) (A := X.A.in1) (I.ok.hd hc) i1 a hai its.toArray
      have hs : its.toArray.size = xs.length := by simp [l1]
      exact wpAny_pyNext_zipD2_end S D1 D2 hz hTI hTO ⟨h1, show s.heap.IsTuple a its.toArray from p⟩ h2 (by omega) hle (.inr (by omega)) fin
  self := fun A i s Q E st h => wpAny_pyIter_zip st.1 h
def iZipS (K : PySem.W.Frag) (ta : TA) : TI := fun σ H R => ta σ H fun vs H1 => ∃ a xs z, vs = [.ref a, .str z] ∧ SqT K H1 a xs ∧ R (Itzs K a z) H1
theorem pi_zipS {X : Cx} {e e2 : Expr} {ta : TA} {p pos tpos : Pos} {elts : List Expr} {kk : Nat} (hg : Gl X "zip") (hm : X.mg "zip" = none) (ha : PA X [e, e2] ta)
    (hs : starEach [e, e2] X.env = (false, eval e X.env) :: starEach [e2] X.env := by rfl) (hpl : (backTo pos (starEach [e2] X.env)).any (·.1) = false := by rfl) :
    PI X (.Tuple elts kk tpos) (.Call (.Name "zip" p) [e, e2] [] pos) (iZipS X.K ta) := by
  refine ⟨fun pins s σ H R I h => ?_⟩
  refine Call_ (ld_blt I hg hm PyProof.Rows.boot_zip (PyProof.Rows.callWith_type1 (thn (ha.run pos pins s σ H _ I h) fun us s1 hh => ?_) hs hpl))
  obtain ⟨vs, H1, I1, r1, a, xs, z, rfl, hqx, q⟩ := hh
  cases r1 with
  | cons r rr =>
    cases rr with
    | cons r' rr =>
      cases rr
      cases r
      obtain ⟨t, rfl⟩ := r'
      obtain ⟨its, rv, p1, _⟩ := I1.tuple hqx
      have hal : a < s1.heap.objs.size := by obtain ⟨_, z, _⟩ := p1; exact Heap.lt_size z
      refine zip_begins2 (begins_tuple a its.toArray) (begins_text z t) (show s1.heap.IsTuple a its.toArray from p1) trivial fun h' hz hTI hTO h1 h2 hsz hk => wpAny_pyIter_zip hz ?_
      have I2 : Inv X pins σ H1 { s1 with heap := h' } := I1.kept (t' := s1.toks) hk
      refine ⟨s1.heap.objs.size + 4, [s1.heap.objs.size + 4, s1.heap.objs.size + 2, s1.heap.objs.size + 3, s1.heap.objs.size, s1.heap.objs.size + 1], _, _, H1, rfl, I2,
        turn_zipS z t (zip_sep2 (fp1 := [a]) (fp2 := []) (fun b hb => by simp at hb; rw [hb]; exact hal) (fun b hb => by cases hb)) (Nat.ne_of_lt hal), ⟨hz, hTI, ⟨_, _, hTO⟩, ⟨_, h1, rfl, rfl⟩, ⟨_, h2, rfl, rfl⟩, Nat.zero_le _⟩, fun c hcm => ?_, q⟩
      have hle : s1.heap.objs.size ≤ c := by
        simp only [List.mem_cons, List.not_mem_nil, or_false] at hcm
        rcases hcm with z | z | z | z | z
        · rw [z]; exact Nat.le_add_right _ _
        · rw [z]; exact Nat.le_add_right _ _
        · rw [z]; exact Nat.le_add_right _ _
        · rw [z]; exact Nat.le_refl _
        · rw [z]; exact Nat.le_add_right _ _
      exact I1.fpOk hle (I1.hok.fresh hle)
theorem walks_zS {K : PySem.W.Frag} {B : Hp} {a : Addr} {ds : List D} {xs : List V} (z : Str) (h : SqT K B a xs) (r : RepsF K B ds xs) : WalksD K (Itzs K a z) B (zipD ds (chars z)) := fun B2 H sb sh i => by
  have hl := r.length
  have hq := sqT_mono sh (sqT_mono sb h)
  refine ⟨fun d e => ?_, fun hi => ⟨xs, hq, by rw [zipD_len, chars_len] at hi; omega⟩⟩
  obtain ⟨x', y', h1, h2, rfl⟩ := zipD_get e
  obtain ⟨x, hx, rx⟩ := Reps.get r h1
  obtain ⟨c, hc, rfl⟩ := chars_get h2
  refine ⟨⟨xs, x, hq, hx, lt_of_get hc⟩, fun v H' hh => ?_⟩
  obtain ⟨T, x2, c2, rfl, hT, rfl, hxx, hc2⟩ := hh
  have e1 := hxx xs hq
  rw [hx] at e1
  cases e1
  rw [hc] at hc2
  cases hc2
  exact ⟨upd B2 T (.tup [x, .str ⟨#[c]⟩]), Ext.obj sh hT _, repT sh (RepsF.cons (RepF.mono sb rx) (RepsF.cons (show RepF K B2 (.str ⟨#[c]⟩) (.str ⟨#[c]⟩) from rfl) RepsF.nil)) T hT⟩
def zipS : List D → Option (List D)
  | [.tup ds, .str z] => some (zipD ds (chars z))
  | _ => none
@[simp] theorem s_zipS (ds : List D) (z : Str) : zipS [.tup ds, .str z] = some (zipD ds (chars z)) := rfl
theorem pim_zipS {X : Cx} {W : WX} {q : Bool} {e e2 : Expr} {m : M (List D)} {p pos tpos : Pos} {elts : List Expr} {kk : Nat} (hg : Gl X "zip") (hm : X.mg "zip" = none) (ha : PAM X W q [e, e2] m)
    (hs : starEach [e, e2] X.env = (false, eval e X.env) :: starEach [e2] X.env := by rfl) (hpl : (backTo pos (starEach [e2] X.env)).any (·.1) = false := by rfl) :
    PIM X W q (.Tuple elts kk tpos) (.Call (.Name "zip" p) [e, e2] [] pos) (iRng zipS m) :=
  pi_imp (pi_zipS hg hm ha hs hpl) fun σ H R h => can_I h fun a ds B H1 w e sh rl k => by
    unfold zipS at e
    split at e
    · cases e
      obtain ⟨v, vs, e1, ⟨a, xs, rfl, q, r⟩, v2, vs2, e2, rz, e3⟩ := rl
      subst e1
      cases e2
      rw [show vs2 = [] from e3]
      cases (show v2 = V.str _ from rz)
      exact ⟨a, xs, _, rfl, sqT_mono sh q, k _ (walks_zS _ q (RepsF.of r))⟩
    · cases e
end G

namespace G
open PySem PySem.Spec PyProof.Rows L2
def lookS : List (Str × Str) → Str → Option Str
  | [], _ => none
  | (x, v) :: l, z => if x = z then some v else lookS l z
@[simp] theorem s_lookS0 (z : Str) : lookS [] z = none := rfl
@[simp] theorem s_lookS1 (x v : Str) (l : List (Str × Str)) (z : Str) : lookS ((x, v) :: l) z = if x = z then some v else lookS l z := rfl
inductive Ents (P : Params) : List DictEntry → List (Str × Str) → Prop
  | nil : Ents P [] []
  | cons {x v : Str} {t u : Tok} {es : List DictEntry} {l : List (Str × Str)} (h : Ents P es l) : Ents P (⟨PyData.keyHash P x, .str x t, .str v u⟩ :: es) ((x, v) :: l)
theorem Ents.lit {P : Params} {es : List DictEntry} {l : List (Str × Str)} (h : Ents P es l) : PySem.W.KeysLit P es := by
  induction h with
  | nil => trivial
  | cons h ih => exact ⟨⟨_, _, rfl, rfl⟩, ih⟩
theorem Ents.noref {P : Params} {es : List DictEntry} {l : List (Str × Str)} (h : Ents P es l) : es.any (·.refKey) = false := by
  induction h with
  | nil => rfl
  | cons h ih => rw [List.any_cons, ih]; rfl
theorem Ents.find {P : Params} {es : List DictEntry} {l : List (Str × Str)} (h : Ents P es l) (z : Str) :
    (lookS l z = none ∧ es.find? (fun d => d.key.isStr z) = none) ∨ ∃ v u e, lookS l z = some v ∧ es.find? (fun d => d.key.isStr z) = some e ∧ e.val = .str v u := by
  induction h with
  | nil => exact .inl ⟨rfl, rfl⟩
  | @cons x v t u es l h ih =>
    have e0 : (Value.str x t).isStr z = (x == z) := rfl
    by_cases e : x = z
    · refine .inr ⟨v, u, ⟨PyData.keyHash P x, .str x t, .str v u⟩, ?_, ?_, rfl⟩
      · rw [s_lookS1, if_pos e]
      · rw [List.find?_cons_of_pos]
        show (Value.str x t).isStr z = true
        rw [e0]
        exact beq_iff_eq.mpr e
    · have e1 : ¬ ((Value.str x t).isStr z = true) := by
        rw [e0]
        exact fun q => e (beq_iff_eq.mp q)
      rw [s_lookS1, if_neg e, List.find?_cons_of_neg (by exact e1)]
      exact ih
structure Kd (K : PySem.W.Frag) (w : World) (mg : Str → Option Value) (x : Str) (l : List (Str × Str)) : Prop where
  ex : ∃ d es n, mg x = some (.ref d) ∧ KDict K w d es n ∧ ∀ z, (lookS l z = none ∧ PySem.W.nsIn K d z = some none) ∨ ∃ v u, lookS l z = some v ∧ PySem.W.nsIn K d z = some (some (.str v u))
theorem Kd.of {K : PySem.W.Frag} {w : World} {mg : Str → Option Value} {x : Str} {l : List (Str × Str)} {d : Addr} {es : List DictEntry} {n : Nat} (hm : mg x = some (.ref d)) (hl : K.lookup d = some ⟨.type "dict", none, .dict es.toArray n, #[]⟩) (low : (d == sysModules) = false) (h : Ents w.params es l) : Kd K w mg x l := by
  refine ⟨d, es.toArray, n, hm, ⟨hl, h.lit, low⟩, fun z => ?_⟩
  unfold PySem.W.nsIn
  rw [hl]
  dsimp only
  rcases h.find z with ⟨h1, h2⟩ | ⟨v, u, e, h1, h2, h3⟩
  · refine .inl ⟨h1, ?_⟩
    rw [h2]
    dsimp only
    rw [h.noref]
    rfl
  · refine .inr ⟨v, u, h1, ?_⟩
    rw [h2, ← h3]
section
variable {X : Cx} {W : WX} {q q1 q2 q3 : Bool} {P : Nat → Bool}
/-- what the dict answers, d otherwise -/
def orS (o : Option Str) (d : D) : D := match o with
  | none => d
  | some v => .str v
@[simp] theorem s_orS0 (d : D) : orS none d = d := rfl
@[simp] theorem s_orS1 (v : Str) (d : D) : orS (some v) d = .str v := rfl
def kget (l : List (Str × Str)) (y z : D) : Option D := match y with
  | .str s => some (orS (lookS l s) z)
  | _ => none
@[simp] theorem s_kget (l : List (Str × Str)) (s : Str) (z : D) : kget l (.str s) z = some (orS (lookS l s) z) := rfl
def tKG2 (l : List (Str × Str)) (te tf : TE) : TE := fun σ H Q => te σ H fun y H1 => tf σ H1 fun z H2 => ∃ s, y = .str s ∧ Q ((lookS l s).elim z V.str) H2
def tKG1 (l : List (Str × Str)) (te : TE) : TE := fun σ H Q => te σ H fun y H1 => ∃ s, y = .str s ∧ Q ((lookS l s).elim V.non V.str) H1
theorem kd_at {K : PySem.W.Frag} {w : World} {d : Addr} {es : Array DictEntry} {n : Nat} (D : KDict K w d es n) {s : Shared} (hK : K.In s.heap) : ∀ b, Value.ref d = .ref b → ∃ ob, s.heap.get? b = some ob ∧ ob.dict = none := fun b q => by
  cases q
  exact ⟨_, hK _ _ D.at_, rfl⟩
theorem pe_kget2 {x : Str} {l : List (Str × Str)} {e f : Expr} {te tf : TE} {p apos cpos : Pos} (hd : Kd X.K X.w X.mg x l) (hg : Gl X x) (he : PE X e te) (hf : PE X f tf) (m : M2 X (.Name x p) "get" apos e f cpos) (hdb : (x == ("__debug__" : Str)) = false := by decide) :
    PE X (.Call (.Attribute (.Name x p) "get" apos) [e, f] [] cpos) (tKG2 l te tf) := by
  obtain ⟨d, es, n, hm, D, hz⟩ := hd
  refine ⟨fun pins s σ H Q I h => ?_⟩
  refine wpAny_Call_method m.base m.few m.line PySem.F.plainAttrs_dict PySem.F.slot_dict_get PySem.F.type_dict_get (ld_glob I hg hm ?_ hdb)
  refine ⟨kd_type D I, kd_at D I.kIn, ?_⟩
  rw [m.trees]
  refine Calls.callWith_builtin rfl (Calls.evalArgs_plain (Calls.spliced_cons (thn (he.run pins s σ H _ I h) fun iv s2 hh =>
    Calls.spliced_cons ?_)))
  obtain ⟨y, H2, I2, ry, q2⟩ := hh
  refine thn (hf.run pins s2 σ H2 _ I2 q2) fun fv s3 hh => Calls.spliced_nil ?_
  obtain ⟨z, H3, I3, rz, sy, ey, q3⟩ := hh
  subst ey
  obtain ⟨t, rfl⟩ := (show ∃ t, iv = Value.str sy t from ry)
  refine call_meetsIn PySem.F.slot_dict_get (kd_type D I3) PySem.F.entry_dict_get (PySem.F.args_dict_get_3 _ _ _) (meets_dict_get_default (strKind X.prog X.w) d (PySem.strKind_is X.prog X.w sy t) D.low fv) ⟨_, PySem.W.mapOf_K (prog := X.prog) I3.kIn D.at_ D.lit, ?_⟩
  rcases hz sy with ⟨h1, h2⟩ | ⟨v, u, h1, h2⟩
  · rw [PySem.W.find_K D.at_ h2]
    rw [h1] at q3
    exact ⟨z, H3, I3.tok _, rz, q3⟩
  · rw [PySem.W.find_K D.at_ h2]
    rw [h1] at q3
    exact ⟨.str v, H3, I3.tok _, ⟨u, rfl⟩, q3⟩
theorem pe_kget1 {x : Str} {l : List (Str × Str)} {e : Expr} {te : TE} {p apos cpos : Pos} (hd : Kd X.K X.w X.mg x l) (hg : Gl X x) (he : PE X e te) (m : M1 X (.Name x p) "get" apos e cpos) (hdb : (x == ("__debug__" : Str)) = false := by decide) :
    PE X (.Call (.Attribute (.Name x p) "get" apos) [e] [] cpos) (tKG1 l te) := by
  obtain ⟨d, es, n, hm, D, hz⟩ := hd
  refine ⟨fun pins s σ H Q I h => ?_⟩
  refine wpAny_Call_method m.base m.few m.line PySem.F.plainAttrs_dict PySem.F.slot_dict_get PySem.F.type_dict_get (ld_glob I hg hm ?_ hdb)
  refine ⟨kd_type D I, kd_at D I.kIn, ?_⟩
  rw [m.trees]
  refine Calls.callWith_builtin rfl (Calls.evalArgs_plain (Calls.spliced_cons (thn (he.run pins s σ H _ I h) fun iv s2 hh => Calls.spliced_nil ?_)))
  obtain ⟨y, H2, I2, ry, sy, ey, q2⟩ := hh
  subst ey
  obtain ⟨t, rfl⟩ := (show ∃ t, iv = Value.str sy t from ry)
  refine call_meetsIn PySem.F.slot_dict_get (kd_type D I2) PySem.F.entry_dict_get (PySem.F.args_dict_get_2 _ _) (meets_dict_get (strKind X.prog X.w) d (PySem.strKind_is X.prog X.w sy t) D.low) ⟨_, PySem.W.mapOf_K (prog := X.prog) I2.kIn D.at_ D.lit, ?_⟩
  rcases hz sy with ⟨h1, h2⟩ | ⟨v, u, h1, h2⟩
  · rw [PySem.W.find_K D.at_ h2]
    rw [h1] at q2
    exact ⟨.non, H2, I2.tok _, rfl, q2⟩
  · rw [PySem.W.find_K D.at_ h2]
    rw [h1] at q2
    exact ⟨.str v, H2, I2.tok _, ⟨u, rfl⟩, q2⟩
theorem orS_rep {K : PySem.W.Frag} {B : Hp} (o : Option Str) {z : D} {v : V} (r : RepF K B z v) : RepF K B (orS o z) (o.elim v V.str) := by
  cases o with
  | none => exact r
  | some y => exact rfl
theorem kget_some {l : List (Str × Str)} {y z u : D} (h : kget l y z = some u) : ∃ s, y = .str s ∧ u = orS (lookS l s) z := by
  cases y <;> simp [kget] at h
  exact ⟨_, rfl, h.symm⟩
theorem pem_kget2 {x : Str} {l : List (Str × Str)} {e f : Expr} {m n : M D} {p apos cpos : Pos} (hd : Kd X.K X.w X.mg x l) (hg : Gl X x) (he : PEM X W q1 e m) (hf : PEM X W q2 f n) (mm : M2 X (.Name x p) "get" apos e f cpos := by exact ⟨rfl, rfl, rfl, rfl⟩) (hdb : (x == ("__debug__" : Str)) = false := by decide) :
    PEM X W (q1 && q2) (.Call (.Attribute (.Name x p) "get" apos) [e, f] [] cpos) (eOp (kget l) m n) :=
  pe_imp (pe_kget2 hd hg he hf mm hdb) fun σ H Q h => by
    obtain ⟨B, F, ρ, fp, r0, ρ', E, hm, post⟩ := h
    refine can_bnd E hm post.err fun d ρ1 B1 H1 fp1 x hm1 s1 E1 rx k1 => ?_
    refine can_bnd E1 hm1 (fun x e => (post.err x e).up s1) fun d2 ρ2 B2 H2 fp2 y hm2 s2 E2 ry k2 => ?_
    obtain ⟨z, e1, e2, e3⟩ := ofO_some hm2
    subst e2 e3
    obtain ⟨s, rfl, rfl⟩ := kget_some e1
    cases (show x = V.str s from rx)
    refine ⟨s, rfl, post B2 H2 fp2 _ (s1.trans s2) E2 (orS_rep _ ry) fun qq => ?_⟩
    obtain ⟨qa, qb⟩ := and_t qq
    obtain ⟨a1, a2, a3⟩ := k1 qa
    obtain ⟨b1, b2, b3⟩ := k2 qb
    exact ⟨b1.trans a1, b2.trans a2, a3.trans b3⟩
theorem pem_kget1 {x : Str} {l : List (Str × Str)} {e : Expr} {m : M D} {p apos cpos : Pos} (hd : Kd X.K X.w X.mg x l) (hg : Gl X x) (he : PEM X W q e m) (mm : M1 X (.Name x p) "get" apos e cpos := by exact ⟨rfl, rfl, rfl, rfl⟩) (hdb : (x == ("__debug__" : Str)) = false := by decide) :
    PEM X W q (.Call (.Attribute (.Name x p) "get" apos) [e] [] cpos) (eUn (fun y => kget l y .non) m) :=
  pe_imp (pe_kget1 hd hg he mm hdb) fun σ H Q h => by
    obtain ⟨B, F, ρ, fp, r0, ρ', E, hm, post⟩ := h
    refine can_bnd E hm post.err fun d ρ1 B1 H1 fp1 x hm1 s1 E1 rx k1 => ?_
    obtain ⟨z, e1, e2, e3⟩ := ofO_some hm1
    subst e2 e3
    obtain ⟨s, rfl, rfl⟩ := kget_some e1
    cases (show x = V.str s from rx)
    exact ⟨s, rfl, post B1 H1 fp1 _ s1 E1 (orS_rep _ (show RepF X.K B1 .non .non from rfl)) k1⟩
def dixD (x y : D) : Option D := (dkOf x).bind fun p => (keyOf y).bind fun k => getK p.1 p.2 k
@[simp] theorem s_dixD (ks : List Key) (ds : List D) (y : D) : dixD (.dk false ks ds) y = (keyOf y).bind fun k => getK ks ds k := rfl
theorem dkOf_some {x : D} {p : List Key × List D} (h : dkOf x = some p) : x = .dk false p.1 p.2 := by
  unfold dkOf at h
  split at h
  · cases h; rfl
  · cases h
theorem dixD_some {x y z : D} (h : dixD x y = some z) : ∃ ks ds k, x = .dk false ks ds ∧ keyOf y = some k ∧ getK ks ds k = some z := by
  obtain ⟨p, h1, h2⟩ := Option.bind_eq_some_iff.mp h
  obtain ⟨k, h3, h4⟩ := Option.bind_eq_some_iff.mp h2
  exact ⟨p.1, p.2, k, dkOf_some h1, h3, h4⟩
theorem pem_dix {o i : Expr} {m n : M D} {pos : Pos} (hu : X.A.units + 1 < cLine) (ho : PEM X W q1 o m) (hi : PEM X W q2 i n) (hs : NoSl i := by intro _ _; rfl) : PEM X W (q1 && q2) (.Subscript o i pos) (eOp dixD m n) :=
  pe_imp (pe_dget hu ho hi hs) fun σ H Q h => by
    obtain ⟨B, F, ρ, fp, r0, ρ', E, hm, post⟩ := h
    refine can_bnd E hm post.err fun d ρ1 B1 H1 fp1 x hm1 s1 E1 rx k1 => ?_
    refine can_bnd E1 hm1 (fun x e => (post.err x e).up s1) fun d2 ρ2 B2 H2 fp2 y hm2 s2 E2 ry k2 => ?_
    obtain ⟨z, e1, e2, e3⟩ := ofO_some hm2
    subst e2 e3
    obtain ⟨ks, ds, k, rfl, h5, h6⟩ := dixD_some e1
    obtain ⟨a, kvs, rfl, hB, hk, rr⟩ := (show RepF X.K B1 (.dk false ks ds) x from rx)
    have ev := keyOf_rep h5 ry
    subst ev
    have hH2 : H2 a = some (.dK kvs) := E2.bh _ _ (s2 _ _ hB)
    rcases getK_rep hk (RepsF.mono s2 (RepsF.of rr)) (y := k) with ⟨g1, g2⟩ | ⟨d2, v2, g1, g2, g3⟩
    · rw [h6] at g1; cases g1
    · rw [h6] at g1
      cases g1
      refine ⟨a, v2, rfl, by have := DGet.k (k := k) hH2; rw [g2] at this; exact this, post B2 H2 fp2 _ (s1.trans s2) E2 g3 fun qq => ?_⟩
      obtain ⟨qa, qb⟩ := and_t qq
      obtain ⟨a1, a2, a3⟩ := k1 qa
      obtain ⟨b1, b2, b3⟩ := k2 qb
      exact ⟨b1.trans a1, b2.trans a2, a3.trans b3⟩
def dinD (x y : D) : Option D := (keyOf x).bind fun k => (dkOf y).map fun p => .bl (getK p.1 p.2 k).isSome
def dninD (x y : D) : Option D := (keyOf x).bind fun k => (dkOf y).map fun p => .bl (!(getK p.1 p.2 k).isSome)
@[simp] theorem s_dinD (x : D) (ks : List Key) (ds : List D) : dinD x (.dk false ks ds) = (keyOf x).map fun k => .bl (getK ks ds k).isSome := by cases x <;> rfl
@[simp] theorem s_dninD (x : D) (ks : List Key) (ds : List D) : dninD x (.dk false ks ds) = (keyOf x).map fun k => .bl (!(getK ks ds k).isSome) := by cases x <;> rfl
@[simp] theorem s_keyOfS (z : Str) : keyOf (.str z) = some (.inr z) := rfl
@[simp] theorem s_keyOfI (z : Int) : keyOf (.int z) = some (.inl z) := rfl
theorem can_din {K : PySem.W.Frag} {mg : Str → Option Value} {f : Bool → Bool} {m n : M D} {σ : L2.St} {H : Hp} {Q : VK}
    (h : can K mg W (relE K) (q1 && q2) (eOp (fun x y => (keyOf x).bind fun k => (dkOf y).map fun p => .bl (f (getK p.1 p.2 k).isSome)) m n) σ H Q) :
    can K mg W (relE K) q1 m σ H fun y H1 => can K mg W (relE K) q2 n σ H1 fun x H2 => ∃ a o, x = .ref a ∧ DGet H2 a y o ∧ Q (.bl (f o.isSome)) H2 := by
  obtain ⟨B, F, ρ, fp, r0, ρ', E, hm, post⟩ := h
  refine can_bnd E hm post.err fun d ρ1 B1 H1 fp1 x hm1 s1 E1 rx k1 => ?_
  refine can_bnd E1 hm1 (fun x e => (post.err x e).up s1) fun d2 ρ2 B2 H2 fp2 y hm2 s2 E2 ry k2 => ?_
  obtain ⟨z, e1, e2, e3⟩ := ofO_some hm2
  subst e2 e3
  obtain ⟨k, h5, h6⟩ := Option.bind_eq_some_iff.mp e1
  obtain ⟨p, h7, rfl⟩ := Option.map_eq_some_iff.mp h6
  have e4 := dkOf_some h7
  subst e4
  obtain ⟨ks, ds⟩ := p
  obtain ⟨a, kvs, rfl, hB, hk, rr⟩ := (show RepF K B2 (.dk false ks ds) y from ry)
  have ev := keyOf_rep h5 rx
  subst ev
  have hH2 : H2 a = some (.dK kvs) := E2.bh _ _ hB
  have fin : ∀ v : V, RepF K B2 (D.bl (f (getK ks ds k).isSome)) v → Q v H2 := fun v rv => post B2 H2 fp2 v (s1.trans s2) E2 rv fun qq => by
    obtain ⟨qa, qb⟩ := and_t qq
    obtain ⟨a1, a2, a3⟩ := k1 qa
    obtain ⟨b1, b2, b3⟩ := k2 qb
    exact ⟨b1.trans a1, b2.trans a2, a3.trans b3⟩
  refine ⟨a, valV kvs k, rfl, DGet.k hH2, ?_⟩
  rcases getK_rep hk (RepsF.of rr) (y := k) with ⟨g1, g2⟩ | ⟨d2, v2, g1, g2, g3⟩
  · rw [g2]; exact fin _ (by rw [g1]; rfl)
  · rw [g2]; exact fin _ (by rw [g1]; rfl)
theorem pem_din {i o : Expr} {m n : M D} {pos : Pos} (hu : X.A.units + 1 < cLine) (hi : PEM X W q1 i m) (ho : PEM X W q2 o n) (h1 : behindInMarks .In o = false := by first | exact nomark _ | rfl) : PEM X W (q1 && q2) (.Compare i [.In] [o] pos) (eOp dinD m n) :=
  pe_imp (pe_cmp (pc_din hu hi ho) h1) fun σ H Q h => can_din (f := id) h
theorem pem_dnin {i o : Expr} {m n : M D} {pos : Pos} (hu : X.A.units + 1 < cLine) (hi : PEM X W q1 i m) (ho : PEM X W q2 o n) (h1 : behindInMarks .NotIn o = false := by first | exact nomark _ | rfl) : PEM X W (q1 && q2) (.Compare i [.NotIn] [o] pos) (eOp dninD m n) :=
  pe_imp (pe_cmp (pc_dnotin hu hi ho) h1) fun σ H Q h => can_din (f := Bool.not) h
theorem ptm_din {i o : Expr} {m n : M D} {pos : Pos} (hu : X.A.units + 1 < cLine) (hi : PEM X W q1 i m) (ho : PEM X W q2 o n) (h1 : behindInMarks .In o = false := by first | exact nomark _ | rfl) : PTM X W (q1 && q2) (.Compare i [.In] [o] pos) (tB (eOp dinD m n)) :=
  pt_imp (pt_cmp (pc_din hu hi ho) h1) fun σ H Q h => can_din (f := id) (can_tB h)
theorem ptm_dnin {i o : Expr} {m n : M D} {pos : Pos} (hu : X.A.units + 1 < cLine) (hi : PEM X W q1 i m) (ho : PEM X W q2 o n) (h1 : behindInMarks .NotIn o = false := by first | exact nomark _ | rfl) : PTM X W (q1 && q2) (.Compare i [.NotIn] [o] pos) (tB (eOp dninD m n)) :=
  pt_imp (pt_cmp (pc_dnotin hu hi ho) h1) fun σ H Q h => can_din (f := Bool.not) (can_tB h)
def dputS (i : Nat) (k v : Str) : M Fl := fun ρ => match ρ[i]? with
  | some (some (.dk true ks ds)) => if (ks.any fun q => decide (q = (Sum.inr k : Key))) = true ∨ 1000 < ks.length ∨ isFs ds = false then none else some (.ok .nx, ρ.set i (some (.dk true (ks ++ [.inr k]) (ds ++ [.str v]))))
  | _ => none
@[simp] theorem s_dputS (i : Nat) (k v : Str) (ρ : En) : dputS i k v ρ = match ρ[i]? with
  | some (some (.dk true ks ds)) => if (ks.any fun q => decide (q = (Sum.inr k : Key))) = true ∨ 1000 < ks.length ∨ isFs ds = false then none else some (.ok .nx, ρ.set i (some (.dk true (ks ++ [.inr k]) (ds ++ [.str v]))))
  | _ => none := rfl
theorem psm_dputS {i : Nat} {x k v : Str} {xp sp pos kp vp : Pos} {j1 j2} (hu : X.A.units + 1 < cLine) (hN : X.N[i]? = some x) (hv : Vis X.env.scope x := by first | exact Or.inl rfl | exact Or.inr (Or.inl rfl) | exact Or.inr (Or.inr rfl))
    (hd : (x == ("__debug__" : Str)) = false := by decide) (hcd : (x == ("__classdict__" : Str)) = false := by decide)
    (hs : swapsWith (.Constant (.str v) j2 vp) (some (.Subscript (.Name x xp) (.Constant (.str k) j1 kp) sp)) pos.line X.env = pure false := by rfl) :
    PSM X W P (.Assign [.Subscript (.Name x xp) (.Constant (.str k) j1 kp) sp] (.Constant (.str v) j2 vp) pos) (dputS i k v) :=
  ps_imp (ps_dput hu (pe_var (i := i) hN hv hd hcd) pe_str pe_str hs) fun D σ H h => by
    obtain ⟨B, F, ρ, fp, r, ρ', E, hm, post⟩ := h
    unfold dputS at hm
    split at hm
    case h_2 => cases hm
    case h_1 ks ds e0 =>
    split at hm
    case isTrue => cases hm
    case isFalse hc =>
    cases hm
    have c1 : (Sum.inr k : Key) ∉ ks := fun z => hc (.inl (List.any_eq_true.mpr ⟨_, z, decide_eq_true rfl⟩))
    have c2 : ks.length ≤ 1000 := Nat.le_of_not_lt fun z => hc (.inr (.inl z))
    have c3 : isFs ds = true := by
      cases q : isFs ds with
      | true => rfl
      | false => exact absurd (.inr (.inr q)) hc
    obtain ⟨u, h2, a0, kvs, T0, rfl, S0, hx0, hk0, p0, r0⟩ := E.rep i _ e0
    refine ⟨.ref a0, h2, a0, _, rfl, DPut.k (k := .inr k) hx0 (by
      have : kvs.length = ks.length := by rw [← hk0, List.length_map]
      have : sizeLine = 16777216 := sizeLine_eq
      omega), ?_⟩
    have hput : putK kvs (.inr k) (V.str v) = kvs ++ [(.inr k, .str v)] := by
      unfold putK
      rw [if_neg]
      intro z
      obtain ⟨p, hp, e⟩ := List.any_eq_true.mp z
      refine c1 ?_
      rw [← hk0]
      exact List.mem_map.mpr ⟨p, hp, of_decide_eq_true e⟩
    rw [hput]
    have rf : RepsF X.K B ds (kvs.map Prod.snd) := Reps.isFs' ds c3 r0
    have hB : B a0 = none := (E.out i a0 S0).1
    have hF : F a0 = none := (E.out i a0 S0).2
    have hi : i < ρ.length := by
      rcases Nat.lt_or_ge i ρ.length with z | z
      · exact z
      · rw [List.getElem?_eq_none z] at e0; cases e0
    refine post B (upd H a0 (.dK (kvs ++ [(.inr k, .str v)]))) σ fp (fun _ _ z => z) ⟨fun b o e => ?_, fun b o e => ?_, E.bf, fun j d' e => ?_, E.apart, E.out, fun j b z => ?_, by rw [List.length_set]; exact E.len⟩ Pin.refl
    · have : b ≠ a0 := fun z => by rw [z, hB] at e; cases e
      rw [upd_ne this]; exact E.bh b o e
    · have : b ≠ a0 := fun z => by rw [z, hF] at e; cases e
      rw [upd_ne this]; exact E.fh b o e
    · by_cases hj : i = j
      · subst hj
        rw [List.getElem?_set_self hi] at e
        cases e
        exact ⟨.ref a0, h2, a0, _, noT, rfl, S0, upd_same, by rw [List.map_append, hk0]; rfl, ⟨fun _ _ z => z.elim, fun _ _ _ z => z.elim⟩, RepsF.to (by rw [List.map_append]; exact RepsF.append rf (RepsF.cons rfl RepsF.nil))⟩
      · rw [List.getElem?_set_ne hj] at e
        obtain ⟨u, g1, g2⟩ := E.rep j d' e
        exact ⟨u, g1, Rep.mono (fun _ _ z => z) d' (fun b z => upd_ne fun q => hj (E.apart i j b (by rw [q]; exact S0) z)) (fun _ z => z) g2⟩
    · by_cases q : b = a0
      · rw [q, upd_same]; simp
      · rw [upd_ne q]; exact E.live j b z
def catO (i : Nat) (d : D) : M D := fun ρ => match ρ[i]?, d with
  | some (some (.lst true ds)), .lst false es => if isFs ds = true ∧ ds.length + es.length ≤ 1000000 then some (.ok (.lst true (ds ++ es)), ρ) else none
  | _, _ => none
def eCatO (i : Nat) (m : M D) : M D := fun ρ => match ρ[i]? with
  | some (some (.lst true _)) => bnd m (catO i) ρ
  | _ => none
@[simp] theorem s_catO (i : Nat) (d : D) (ρ : En) : catO i d ρ = match ρ[i]?, d with
  | some (some (.lst true ds)), .lst false es => if isFs ds = true ∧ ds.length + es.length ≤ 1000000 then some (.ok (.lst true (ds ++ es)), ρ) else none
  | _, _ => none := rfl
@[simp] theorem s_eCatO (i : Nat) (m : M D) (ρ : En) : eCatO i m ρ = match ρ[i]? with
  | some (some (.lst true _)) => bnd m (catO i) ρ
  | _ => none := rfl
theorem peo_catO {i : Nat} {x : Str} {e : Expr} {m : M D} {p pos : Pos} (he : PEM X W q e m) (hN : X.N[i]? = some x := by rfl) (hv : Vis X.env.scope x := by first | exact Or.inl rfl | exact Or.inr (Or.inl rfl) | exact Or.inr (Or.inr rfl))
    (hd : (x == ("__debug__" : Str)) = false := by decide) (hcd : (x == ("__classdict__" : Str)) = false := by decide) : PEO X W (.BinOp (.Name x p) .Add e pos) (eCatO i m) :=
  pe_imp (pe_op op_cat (pe_var (i := i) hN hv hd hcd) he) fun σ H Q hq => by
    obtain ⟨B, F, ρ, fp, r, ρ', E, hm, post⟩ := hq
    unfold eCatO at hm
    split at hm
    case h_2 => cases hm
    case h_1 ds0 e0 =>
    obtain ⟨v, h2, a0, xs0, T0, e1, S0, hx0, p0, r0⟩ := E.rep i _ e0
    subst e1
    refine ⟨.ref a0, h2, ?_⟩
    refine can_bnd E hm (fun x e => by subst e; exact post) fun kd ρ2 B2 H2 fp2 iv hm2 s2 E2 rk _ => ?_
    unfold catO at hm2
    split at hm2
    case h_2 => cases hm2
    case h_1 ds1 es e3 =>
    split at hm2
    case isFalse => cases hm2
    case isTrue hc =>
    cases hm2
    obtain ⟨v1, h3, a1, xs1, T1, e5, S1, hx1, p1, r1⟩ := E2.rep i _ e3
    rw [h2] at h3
    cases h3
    cases e5
    have rf : RepsF X.K B2 ds1 xs1 := Reps.isFs' ds1 hc.1 r1
    obtain ⟨b, ys, rfl, hb, rb⟩ := (show RepF X.K B2 (.lst false es) iv from rk)
    refine ⟨a0, b, xs1, ys, rfl, rfl, hx1, E2.bh _ _ hb, ?_, fun p hp => ?_⟩
    · have l1 := rf.length
      have l2 := Reps.length rb
      have : sizeLine = 16777216 := sizeLine_eq
      omega
    have hFp : F p = none := E2.fh.free hp
    refine post B2 (upd H2 p (.lst (xs1 ++ ys))) fp2 (.ref p) (fun a => a = p) s2 (E2.ext (Ext.obj0 E2.bh hp _)) ⟨⟨p, _, noT, rfl, rfl, upd_same, ⟨fun _ _ z => z.elim, fun _ _ _ z => z.elim⟩, RepsF.to (RepsF.append rf (RepsF.of rb))⟩, fun a z => ?_⟩
    have z : a = p := z
    subst z
    exact ⟨E2.bh.free hp, hFp, by rw [upd_same]; simp, fun i z => E2.live i a z hp⟩
end
end G

namespace G
open PySem PySem.Spec PyProof.Rows L2
def replD (y z : Str) : D → Option D
  | .str x => if x.length + (x.length + 1) * z.length ≤ 16777216 then some (.str (Txt.replace x y z)) else none
  | _ => none
@[simp] theorem s_replD (y z x : Str) : replD y z (.str x) = if x.length + (x.length + 1) * z.length ≤ 16777216 then some (.str (Txt.replace x y z)) else none := rfl
theorem replD_some {y z : Str} {d u : D} (h : replD y z d = some u) : ∃ x, d = .str x ∧ x.length + (x.length + 1) * z.length ≤ 16777216 ∧ u = .str (Txt.replace x y z) := by
  cases d with
  | str x =>
    rw [s_replD] at h
    by_cases hl : x.length + (x.length + 1) * z.length ≤ 16777216
    · rw [if_pos hl] at h
      cases h
      exact ⟨x, rfl, hl, rfl⟩
    · rw [if_neg hl] at h; cases h
  | _ => cases h
/-- behind it a token is out -/
def PES (X : Cx) (e : Expr) (t : TE) : Prop :=
  ∀ (pins : List (Addr × Obj)) (s : Shared) (σ : L2.St) (H : Hp) (Q : VK), Inv X pins σ H s → t σ H Q → wpAny (model X.prog X.w) X.A (eval e X.env) (fun v s1 => 1 ≤ s1.toks ∧ EP X pins σ Q v s1) X.xe s
section
variable {X : Cx} {W : WX} {q q1 q2 q3 : Bool} {P : Nat → Bool}
theorem pes_ixC {r : R2} {a : Expr} {ta tb : TE} {k : Int} {j : Nat} {cp pos : Pos} (hr : IxR X r) (ha : PE X a ta) (hb : ∀ σ H Q, tb σ H Q → Q (.int k) H) (hs : PlainIx (.Constant (.int k) j cp) := by intro _ _; rfl) : PES X (.Subscript a (.Constant (.int k) j cp) pos) (tOp r ta tb) := by
  intro pins s σ H Q I h
  refine Subscript_ (thn (ha.run pins s σ H _ I h) fun v s1 hh => ?_)
  obtain ⟨x, H1, I1, r1, q1⟩ := hh
  refine wpAny_Constant_int ?_
  refine wpAny_mono (PySem.wpAny_toks (hr a _ pins { s1 with toks := s1.toks + 1 } σ H1 x (.int k) v (.int k s1.toks) Q (I1.tok _) r1 ⟨_, rfl⟩ (hb _ _ _ q1) (hs _ _))) (fun u s2 hh => ⟨?_, hh.2⟩) fun _ _ z => z.2
  exact Nat.le_trans (Nat.le_add_left 1 _) hh.1
theorem pes_dget {o i : Expr} {td ty : TE} {pos : Pos} (hu : X.A.units + 1 < cLine) (ho : PE X o td) (hi : PES X i ty) (hs : NoSl i := by intro _ _; rfl) : PES X (.Subscript o i pos) (tDGet td ty) := by
  intro pins s σ H Q I h
  refine subD_of PySem.F.slot_dict_getitem.lookup hs (thn (ho.run pins s σ H _ I h) fun u s1 ⟨x, H1, I1, rx, q1⟩ => thn (hi pins s1 σ H1 _ I1 q1) fun iv s2 hh => ?_)
  obtain ⟨hk, y, H2, I2, ry, a, v, ex, g, q2⟩ := hh
  subst ex
  obtain rfl : u = Value.ref a := rx
  refine ⟨dict_typeIs I2 g, wpAny_mono (PySem.wpAny_toks (d_getItem hu I2 g ry fun w' s3 I3 rw' => (⟨v, H2, I3, rw', q2⟩ : EP X pins σ Q w' s3))) (fun _ _ hh => ⟨Nat.le_trans hk hh.1, hh.2⟩) fun _ _ z => z.2⟩
theorem pe_replS {o : Expr} {to : TE} {y z : Str} {j k : Nat} {c0 c1 apos pos : Pos} (ho : PES X o to) (hyz : (y == z) = false := by decide)
    (hst : starEach [.Constant (.str y) j c0, .Constant (.str z) k c1] X.env = [(false, eval (.Constant (.str y) j c0) X.env), (false, eval (.Constant (.str z) k c1) X.env)] := by rfl)
    (hbase : attributeBase o "replace" X.env (eval o X.env) = eval o X.env := by rfl) (hline : (apos.endLine == pos.line) = true := by rfl) :
    PE X (.Call (.Attribute o "replace" apos) [.Constant (.str y) j c0, .Constant (.str z) k c1] [] pos) (CwR.tReplC to y z) := by
  refine ⟨fun pins s σ H Q I h => ?_⟩
  refine PySem.Call_method2 hbase hst hline (thn (ho pins s σ H _ I h) fun v s1 hh => ?_)
  obtain ⟨hk, v', H1, I1, r1, x, e1, hb, q⟩ := hh
  subst e1
  obtain ⟨tx, e2⟩ := r1
  subst e2
  refine ⟨"str", _, PySem.F.plainAttrs_str, PySem.F.slot_str_replace, PySem.F.type_str_replace, typeIs_str _ _ _, (fun _ e => nomatch e), Calls.callWith_builtin rfl (Calls.evalArgs_plain (Calls.spliced_cons ?_))⟩
  refine Calls.Constant_str (Calls.spliced_cons (Calls.Constant_str (Calls.spliced_nil ?_)))
  exact PySem.SC.replace (show s1.toks ≠ 0 by omega) (show s1.toks + 1 ≠ 0 by omega) (show s1.toks ≠ s1.toks + 1 by omega) hyz hb fun t' k => ⟨.str (Txt.replace x y z), H1, I1.tok k, ⟨t', rfl⟩, q⟩
theorem can_rt {K : PySem.W.Frag} {mg : Str → Option Value} {d : D} {v : V} (hd : ∀ B, RepF K B d v) {σ : L2.St} {H : Hp} {Q : VK} (h : can K mg W (relE K) true (rt d) σ H Q) : Q v H := by
  obtain ⟨B, F, ρ, fp, r, ρ', E, hm, post⟩ := h
  obtain ⟨e1, e2⟩ := rt_some hm
  subst e1 e2
  exact post B H fp v (fun _ _ z => z) E (hd B) fun _ => ⟨rfl, rfl, Ext.refl E.bh⟩
theorem can_mono {K : PySem.W.Frag} {mg : Str → Option Value} {m : M D} {σ : L2.St} {H : Hp} {Z Z' : VK} (h : can K mg W (relE K) q m σ H Z) (f : ∀ x H, Z x H → Z' x H) : can K mg W (relE K) q m σ H Z' := by
  obtain ⟨B, F, ρ, fp, r, ρ', E, hm, post⟩ := h
  refine ⟨B, F, ρ, fp, r, ρ', E, hm, ?_⟩
  cases r with
  | error x => exact post
  | ok d => exact fun B' H' fp' w s E' rl qq => f _ _ (post B' H' fp' w s E' rl qq)
theorem can_replC {K : PySem.W.Frag} {mg : Str → Option Value} {m : M D} {y z : Str} {σ : L2.St} {H : Hp} {Q : VK} (h : can K mg W (relE K) q (eUn (replD y z) m) σ H Q) : CwR.tReplC (can K mg W (relE K) q m) y z σ H Q := by
  obtain ⟨B, F, ρ, fp, r0, ρ', E, hm, post⟩ := h
  refine can_bnd E hm post.err fun d ρ1 B1 H1 fp1 x hm1 s1 E1 rx k1 => ?_
  obtain ⟨u, e1, e2, e3⟩ := ofO_some hm1
  subst e2 e3
  obtain ⟨s, rfl, hl, rfl⟩ := replD_some e1
  cases (show x = V.str s from rx)
  exact ⟨s, rfl, hl, post B1 H1 fp1 _ s1 E1 rfl k1⟩
theorem can_dix {K : PySem.W.Frag} {mg : Str → Option Value} {m n : M D} {σ : L2.St} {H : Hp} {Q : VK} (h : can K mg W (relE K) (q1 && q2) (eOp dixD m n) σ H Q) : tDGet (can K mg W (relE K) q1 m) (can K mg W (relE K) q2 n) σ H Q := by
  obtain ⟨B, F, ρ, fp, r0, ρ', E, hm, post⟩ := h
  refine can_bnd E hm post.err fun d ρ1 B1 H1 fp1 x hm1 s1 E1 rx k1 => ?_
  refine can_bnd E1 hm1 (fun x e => (post.err x e).up s1) fun d2 ρ2 B2 H2 fp2 y hm2 s2 E2 ry k2 => ?_
  obtain ⟨z, e1, e2, e3⟩ := ofO_some hm2
  subst e2 e3
  obtain ⟨ks, ds, k, rfl, h5, h6⟩ := dixD_some e1
  obtain ⟨a, kvs, rfl, hB, hk, rr⟩ := (show RepF K B1 (.dk false ks ds) x from rx)
  have ev := keyOf_rep h5 ry
  subst ev
  have hH2 : H2 a = some (.dK kvs) := E2.bh _ _ (s2 _ _ hB)
  rcases getK_rep hk (RepsF.mono s2 (RepsF.of rr)) (y := k) with ⟨g1, g2⟩ | ⟨d2, v2, g1, g2, g3⟩
  · rw [h6] at g1; cases g1
  · rw [h6] at g1
    cases g1
    refine ⟨a, v2, rfl, by have := DGet.k (k := k) hH2; rw [g2] at this; exact this, post B2 H2 fp2 _ (s1.trans s2) E2 g3 fun qq => ?_⟩
    obtain ⟨qa, qb⟩ := and_t qq
    obtain ⟨a1, a2, a3⟩ := k1 qa
    obtain ⟨b1, b2, b3⟩ := k2 qb
    exact ⟨b1.trans a1, b2.trans a2, a3.trans b3⟩
/-- d[w[k]].replace(y, z) -/
theorem pem_replS {o w : Expr} {m n : M D} {y z : Str} {i : Int} {j0 j k : Nat} {cp ip opos c0 c1 apos pos : Pos} (hu : X.A.units + 1 < cLine) (ho : PEM X W q1 o m) (hw : PEM X W q2 w n) (hyz : (y == z) = false := by decide)
    (hs : PlainIx (.Constant (.int i) j0 cp) := by intro _ _; rfl) (hns : NoSl (.Subscript w (.Constant (.int i) j0 cp) ip) := by intro _ _; rfl)
    (hst : starEach [.Constant (.str y) j c0, .Constant (.str z) k c1] X.env = [(false, eval (.Constant (.str y) j c0) X.env), (false, eval (.Constant (.str z) k c1) X.env)] := by rfl)
    (hbase : attributeBase (.Subscript o (.Subscript w (.Constant (.int i) j0 cp) ip) opos) "replace" X.env (eval (.Subscript o (.Subscript w (.Constant (.int i) j0 cp) ip) opos) X.env) = eval (.Subscript o (.Subscript w (.Constant (.int i) j0 cp) ip) opos) X.env := by rfl) (hline : (apos.endLine == pos.line) = true := by rfl) :
    PEM X W (q1 && (q2 && true)) (.Call (.Attribute (.Subscript o (.Subscript w (.Constant (.int i) j0 cp) ip) opos) "replace" apos) [.Constant (.str y) j c0, .Constant (.str z) k c1] [] pos) (eUn (replD y z) (eOp dixD m (eOp ixD n (rt (.int i))))) := by
  obtain ⟨r, hr, sem⟩ := (id_ix : IxS X ixD)
  refine pe_imp (pe_replS (pes_dget hu ho (pes_ixC (tb := can X.K X.mg W (relE X.K) true (rt (.int i))) hr hw (fun σ H Q h => can_rt (d := .int i) (v := .int i) (fun _ => rfl) h) hs) hns) hyz hst hbase hline) fun σ H Q h => ?_
  have h1 := can_dix (can_replC h)
  exact can_mono h1 fun x H1 hx => can_op sem hx
def PETM (X : Cx) (W : WX) (q : Bool) (e : Expr) (m : M D) : Prop := PET X e (can X.K X.mg W (relE X.K) q m)
def PATM (X : Cx) (W : WX) (q : Bool) (es : List Expr) (m : M (List D)) : Prop := PAT X es (can X.K X.mg W (relA X.K) q m)
def PSTM (X : Cx) (W : WX) (P : Nat → Bool) (st : Stmt) (m : M Fl) : Prop := PST X st (canS X.K X.mg W P m)
def PSsTM (X : Cx) (W : WX) (P : Nat → Bool) (sts : List Stmt) (m : M Fl) : Prop := PSsT X sts (canS X.K X.mg W P m)
theorem pet_imp {e : Expr} {t t' : TE} (h : PET X e t) (i : ∀ σ H Q, t' σ H Q → t σ H Q) : PET X e t' := fun pins s σ H Q h0 I hw => h pins s σ H Q h0 I (i σ H Q hw)
theorem pat_imp {es : List Expr} {t t' : TA} (h : PAT X es t) (i : ∀ σ H Q, t' σ H Q → t σ H Q) : PAT X es t' := fun pos pins s σ H Q h0 I hw => h pos pins s σ H Q h0 I (i σ H Q hw)
theorem pst_imp {st : Stmt} {t t' : TS} (h : PST X st t) (i : ∀ D σ H, t' D σ H → t D σ H) : PST X st t' := fun pins s σ H D h0 I hw => h pins s σ H D h0 I (i D σ H hw)
theorem psst_imp {sts : List Stmt} {t t' : TS} (h : PSsT X sts t) (i : ∀ D σ H, t' D σ H → t D σ H) : PSsT X sts t' := fun pins s σ H D h0 I hw => h pins s σ H D h0 I (i D σ H hw)
theorem petm_of {e : Expr} {m : M D} (h : PEM X W q e m) : PETM X W q e m := CwR.PET.of h
theorem petm_repl {o : Expr} {m : M D} {y z : Str} {j k : Nat} {c0 c1 apos pos : Pos} (ho : PEM X W q o m) (hyz : (y == z) = false := by decide)
    (hst : starEach [.Constant (.str y) j c0, .Constant (.str z) k c1] X.env = [(false, eval (.Constant (.str y) j c0) X.env), (false, eval (.Constant (.str z) k c1) X.env)] := by rfl)
    (hbase : attributeBase o "replace" X.env (eval o X.env) = eval o X.env := by rfl) (hline : (apos.endLine == pos.line) = true := by rfl) :
    PETM X W q (.Call (.Attribute o "replace" apos) [.Constant (.str y) j c0, .Constant (.str z) k c1] [] pos) (eUn (replD y z) m) :=
  pet_imp (CwR.pet_replC ho hyz hst hbase hline) fun σ H Q h => can_replC h
theorem patm_nil : PATM X W true [] aNil := fun pos pins s σ H Q h0 I h => (pam_nil (X := X) (W := W)).run pos pins s σ H Q I h
theorem patm_cons {e : Expr} {es : List Expr} {m : M D} {n : M (List D)} (ha : PETM X W q1 e m) (hr : PATM X W q2 es n) (hs : starEach (e :: es) X.env = (false, eval e X.env) :: starEach es X.env := by rfl) : PATM X W (q1 && q2) (e :: es) (aCons m n) := by
  refine pat_imp (pat_cons ha hr hs) fun σ H Q h => ?_
  obtain ⟨B, F, ρ, fp, r0, ρ', E, hm, post⟩ := h
  refine can_bnd E hm post.err fun d ρ1 B1 H1 fp1 x hm1 s1 E1 rx k1 => ?_
  refine can_bnd E1 hm1 (fun x e => (post.err x e).up s1) fun ds ρ2 B2 H2 fp2 xs hm2 s2 E2 rxs k2 => ?_
  obtain ⟨e2, e3⟩ := rt_some hm2
  subst e2 e3
  exact post B2 H2 fp2 _ (s1.trans s2) E2 (RepsF.cons (rx.mono s2) rxs) (quiet2 k1 k2)
theorem petm_callQ {k n : Nat} {g : Fn} {x : Str} {p pos : Pos} {e : Expr} {es : List Expr} {m : M (List D)} (C : Cal X.prog X.w X.K X.mg X.base k x n g)
    (hg : X.A.guards = some []) (hr : Room k X.A) (tk : Takes X W) (gl : Gl X x) (ha : PATM X W q (e :: es) m)
    (hdb : (x == ("__debug__" : Str)) = false := by decide) (he : starEach (e :: es) X.env = (false, eval e X.env) :: starEach es X.env := by rfl) (hpl : (backTo pos (starEach es X.env)).any (·.1) = false := by rfl) :
    PETM X W q (.Call (.Name x p) (e :: es) [] pos) (eCallQ g m) := by
  intro pins s σ H Q h0 I h
  have h := can_callQ C.len h
  obtain ⟨⟨f, fd, ps, sp, ds, dvd, F, hm, hk, hb, hv, hi⟩, l⟩ := C
  apply wpAny_Call_Name_kw
  apply ld_glob I gl hm _ hdb
  apply PySem.W.callWith_K (h₀ := X.base) I.ok.mod.kin hk _ he hpl
  apply thn (ha pos pins s σ H _ h0 I h)
  intro us s1 hh
  obtain ⟨vs, H1, I1, r, q⟩ := hh
  have q := hi _ _ _ _ q
  constructor
  · exact I1.kIn
  have rr : Vals (vs ++ dvd) (us ++ ds) := r.append hv
  have hl : (us ++ ds).length = ps.length := rr.length.symm.trans (F.len _ _ _ _ q)
  have b : BindsTo s1 fd ⟨us, []⟩ (ps.zip (us ++ ds)) := hb s1 us I1.kIn hl
  apply wpAny_call
  apply codeAny_mono (F.run X.A X.stack s1 H1 ⟨us, []⟩ (us ++ ds) (vs ++ dvd) Q _ hg hr I1.env0 b rr q)
  intro res s' hq
  match res, hq with
  | .error er, hq => exact tk er s' (XE.of_call I1 (fun _ _ _ w => w) hq)
  | .ok (.ret u), hq => exact I1.after hq
theorem pstm_set {i : Nat} {x : Str} {e : Expr} {m : M D} {pos pos' : Pos} (hN : X.N.Nodup) (hi : X.N[i]? = some x) (hx : Loc X.env.scope x) (he : PETM X W q e m) (hp : P i = false := by rfl) (hs : swapsWith e (some (.Name x pos')) pos.line X.env = pure false := by rfl)
    (hf : X.fn x = true ∨ X.env.scope.names.lookup x = some .local := by first | exact .inl rfl | exact .inr rfl | assumption) : PSTM X W P (.Assign [.Name x pos'] e pos) (bnd m (put i)) := by
  refine pst_imp (t := tAsg (can X.K X.mg W (relE X.K) q m) (gName i)) ?_ fun D σ H h => canE_S h fun d B ρ1 F H1 fp1 v r ρ' hm E vo post => ?_
  · intro pins s σ H D h0 I h
    refine wpAny_Assign_Name (thn (he pins s σ H _ h0 I h) fun v s1 hh => ?_) hs
    obtain ⟨y, H1, I1, r1, q1⟩ := hh
    exact store_ok I1 hN hi hx r1 (fun s2 I2 => ⟨_, H1, I2, q1⟩) hf
  · obtain ⟨hl, e1, e2⟩ := put_some hm
    subst e1 e2
    exact post B H1 _ _ (fun _ _ z => z) (E.set hl (ValOk.of vo)) (Pin.set hp)
theorem canS_seq {K : PySem.W.Frag} {mg : Str → Option Value} {m n : M Fl} {D : Ends} {σ : L2.St} {H : Hp} (h : canS K mg W P (sSeq m n) D σ H) : tSeq (canS K mg W P m) (canS K mg W P n) D σ H := by
  obtain ⟨B, F, ρ, fp, r, ρ', E, hm, post⟩ := h
  unfold sSeq bnd at hm
  cases e1 : m ρ with
  | none => rw [e1] at hm; cases hm
  | some p =>
    obtain ⟨r1, ρ1⟩ := p
    rw [e1] at hm
    refine ⟨B, F, ρ, fp, r1, ρ1, E, e1, ?_⟩
    cases r1 with
    | error x => cases hm; exact post
    | ok f =>
      cases f with
      | nx => exact fun B' H' σ' fp' s E' p => ⟨B', F, ρ1, fp', r, ρ', E', hm, post.up s p⟩
      | bk => cases hm; exact post
      | ct => cases hm; exact post
      | rt d => cases hm; exact post
theorem psstm_of {sts : List Stmt} {m : M Fl} (h : PSsM X W P sts m) : PSsTM X W P sts m := PSsT.of h
theorem pstm_of {st : Stmt} {m : M Fl} (h : PSM X W P st m) : PSTM X W P st m := PST.of h
theorem psstm_cons {st : Stmt} {rest : List Stmt} {m n : M Fl} (h1 : PSTM X W P st m) (h2 : PSsTM X W P rest n) : PSsTM X W P (st :: rest) (sSeq m n) := psst_imp (psst_cons h1 h2) fun D σ H h => canS_seq h
/-- if "text" in e: ..: behind it a token is out -/
theorem pssm_tok {g : D → D → Option D} {c : Str} {j : Nat} {cp p1 pos : Pos} {op : CmpOp} {b : Expr} {as bs rest : List Stmt} {n : M D} {m1 m2 mr : M Fl} (s : OpS X (compareOp op) g) (hb : PEM X W q b n) (hA : PSsM X W P as m1) (hB : PSsM X W P bs m2) (hR : PSsTM X W P rest mr)
    (hm : behindInMarks op b = false := by first | exact nomark _ | rfl) :
    PSsM X W P (.If (.Compare (.Constant (.str c) j cp) [op] [b] p1) as bs pos :: rest) (sSeq (bnd (tB (eOp g (rt (.str c)) n)) fun k => if k = true then m1 else m2) mr) := by
  obtain ⟨r, hr, sem⟩ := s
  refine pss_imp (t := tSeq (tIfS (tTest (tOp r (can X.K X.mg W (relE X.K) true (rt (.str c))) (can X.K X.mg W (relE X.K) q n))) (canS X.K X.mg W P m1) (canS X.K X.mg W P m2)) (canS X.K X.mg W P mr)) ?_ fun D σ H h => ?_
  · refine ⟨fun pins s0 σ H D I h => ?_⟩
    have h := can_rt (K := X.K) (mg := X.mg) (W := W) (d := .str c) (v := .str c) (fun _ => rfl) h
    refine wpAny_execs_cons (wpAny_If ?_)
    refine wpAny_isTrue_Compare1 (Calls.Constant_str ?_) hm
    refine wpAny_mono (PySem.wpAny_toks (hb.run pins { s0 with toks := s0.toks + 1 } σ H _ (I.tok _) h)) (fun u s2 hh => ?_) fun _ _ z => z.2
    obtain ⟨hk, y, H2, I2, r2, q2⟩ := hh
    refine wpAny_mono (PySem.wpAny_toks (hr pins s2 σ H2 (.str c) y _ u _ I2 ⟨_, rfl⟩ r2 q2)) (fun cv s3 hh => ?_) fun _ _ z => z.2
    obtain ⟨hk2, z, H3, I3, r3, k, e, q3⟩ := hh
    subst e
    cases r3
    have hk3 : 1 ≤ s3.toks := Nat.le_trans (Nat.le_trans (Nat.le_add_left 1 s0.toks) hk) hk2
    refine wpAny_truthy_bool ?_
    have fin : ∀ {f : Flow} {s4 : Shared}, s3.toks ≤ s4.toks → SP X pins { D with nx := fun σ' H' => canS X.K X.mg W P mr D σ' H' } f s4 → (match f with
        | .next => wpAny (model X.prog X.w) X.A (execs rest X.env) (SP X pins D) X.xe s4
        | f => SP X pins D f s4) := fun {f s4} hk4 q => by
      cases f with
      | next =>
        obtain ⟨σ', H', I', q⟩ := q
        exact hR pins s4 σ' H' D (Nat.le_trans hk3 hk4) I' q
      | ret v => exact q
      | brk => exact q
      | cont => exact q
    cases k with
    | true =>
      refine wpAny_mono (PySem.wpAny_toks (hA.run pins s3 σ H3 _ I3 q3)) (fun f s4 hh => ?_) fun _ _ z => z.2
      have := fin hh.1 hh.2
      cases f <;> exact this
    | false =>
      refine wpAny_mono (PySem.wpAny_toks (hB.run pins s3 σ H3 _ I3 q3)) (fun f s4 hh => ?_) fun _ _ z => z.2
      have := fin hh.1 hh.2
      cases f <;> exact this
  · have h := canS_seq h
    have h2 := canE_S (q := true && q) (rel := relT) (m := tB (eOp g (rt (.str c)) n)) h fun k B ρ1 F H1 fp1 w r ρ' hm E rl post => by
      have rl : k = w := rl
      subst rl
      exact (show (if k = true then canS X.K X.mg W P m1 { D with nx := fun σ' H' => canS X.K X.mg W P mr D σ' H' } σ H1 else canS X.K X.mg W P m2 { D with nx := fun σ' H' => canS X.K X.mg W P mr D σ' H' } σ H1) from by
        cases k with
        | true => rw [if_pos rfl] at hm ⊢; exact ⟨B, F, ρ1, fp1, r, ρ', E, hm, post⟩
        | false => rw [if_neg (by decide)] at hm ⊢; exact ⟨B, F, ρ1, fp1, r, ρ', E, hm, post⟩)
    exact can_op' (q1 := true) sem h2
end
end G

namespace Law
open PySem L2 G
def top (i : Nat) : Stmt := PySem.Challenge.pw_legpairs_k11_wrong_texts_of_steps.main.body.getD i (.Pass ⟨0, 0, 0, 0⟩)
abbrev sBegun : Stmt := top 19
abbrev sNext : Stmt := top 20
end Law
namespace G
open PySem L2
def toInts : List D → Option (List Int)
  | [] => some []
  | .int i :: ds => (toInts ds).map (i :: ·)
  | _ :: _ => none
theorem toInts_rep {K : PySem.W.Frag} {B H : Hp} : ∀ {ds : List D} {ns : List Int} {xs : List V} {T : Nat → FS}, toInts ds = some ns → Reps K B H ds xs T → xs = ns.map V.int
  | [], ns, xs, _, h, r => by simp [toInts] at h; subst h; exact r
  | d :: ds, ns, xs, _, h, ⟨x, xs', e, r, rs⟩ => by
    cases d <;> simp [toInts] at h
    obtain ⟨ns', h1, rfl⟩ := h
    rw [e, toInts_rep h1 rs, show x = _ from r]
    rfl
def bigs (ns : List Int) : List Int := ns.filter fun i => decide ((10 : Int) ^ 18 ≤ i)
def gBegun : Fn
  | [.sq ds] => match toInts ds with
    | some ns => if ns.length ≤ 1000000 then some (.ok (.drw ns (bigs ns) 0), [none]) else none
    | none => none
  | _ => none
theorem gBegun_len : ∀ ds r, gBegun ds = some r → ds.length = 1 := fun ds r h => by
  unfold gBegun at h
  split at h
  · rfl
  · cases h
/-- what _law_begun's reading comes to -/
theorem begun_end {K : PySem.W.Frag} {mg : Str → Option Value} {vs : List V} {H : Hp} {Q : VK} {E : XK} (h : spM K mg 1 gBegun vs H Q E) : ∃ (a : Addr) (ns : List Int), vs = [.ref a] ∧ SqL K H a (ns.map V.int) ∧ ns.length ≤ 1000000 ∧
    ∀ p c l H', p ≠ c → p ≠ l → c ≠ l → H p = none → H c = none → H l = none → Same H H' → H' p = some (.dK [(.inr "cells", .ref c), (.inr "left", .ref l), (.inr "at", .int 0)]) → H' c = some (.lst (ns.map V.int)) → H' l = some (.lst ((bigs ns).map V.int)) → Q (.ref p) H' := by
  obtain ⟨hv, B, F, ds, fp, r, ρ', E0, hm, post⟩ := h
  unfold gBegun at hm
  split at hm
  case h_2 => cases hm
  case h_1 ds0 =>
  split at hm
  case h_2 => cases hm
  case h_1 ns hns =>
  split at hm
  case isFalse => cases hm
  case isTrue hl =>
  cases hm
  obtain ⟨v, h1, a, xs, e1, hq, hr⟩ := E0.rep 0 _ rfl
  subst e1
  have hxs := toInts_rep hns hr
  subst hxs
  match vs, hv, h1 with
  | [x], _, h1 =>
    have : x = .ref a := by simpa using h1
    subst this
    refine ⟨a, ns, rfl, sqL_mono E0.bh hq, hl, fun p c l H' n1 n2 n3 hp hc hl sm d1 d2 d3 => ?_⟩
    have fr : ∀ b, H b = none → F b = none ∧ B b = none := fun b hb => ⟨E0.fh.free hb, E0.bh.free hb⟩
    refine post B H' noT (.ref p) (fun b => b = p ∨ b = c ∨ b = l) (fun _ _ z => z) ⟨E0.bh.trans sm, E0.fh.trans sm, E0.bf, fun i d e => ?_, fun _ _ _ z => z.elim, fun _ _ z => z.elim, fun _ _ z => z.elim, by simp⟩
      ⟨⟨p, c, l, rfl, .inl rfl, .inr (.inl rfl), .inr (.inr rfl), n1, n2, n3, d1, d2, d3⟩, fun b z => ?_⟩
    · cases i <;> simp at e
    · rcases z with rfl | rfl | rfl
      · exact ⟨(fr _ hp).2, (fr _ hp).1, by rw [d1]; simp, fun _ z => z.elim⟩
      · exact ⟨(fr _ hc).2, (fr _ hc).1, by rw [d2]; simp, fun _ z => z.elim⟩
      · exact ⟨(fr _ hl).2, (fr _ hl).1, by rw [d3]; simp, fun _ z => z.elim⟩
abbrev kC : Key := .inr "cells"
abbrev kL : Key := .inr "left"
abbrev kA : Key := .inr "at"
abbrev kvD (p r : Addr) (k : Int) : List (Key × V) := [(.inr "cells", .ref p), (.inr "left", .ref r), (.inr "at", .int k)]
theorem k12 : ¬ kC = kL := by decide +kernel
theorem k13 : ¬ kC = kA := by decide +kernel
theorem k23 : ¬ kL = kA := by decide +kernel
theorem v_cells {p r : Addr} {k : Int} : valV (kvD p r k) kC = some (.ref p) := valV_pos rfl
theorem v_left {p r : Addr} {k : Int} : valV (kvD p r k) kL = some (.ref r) := (valV_neg k12).trans (valV_pos rfl)
theorem v_at {p r : Addr} {k : Int} : valV (kvD p r k) kA = some (.int k) := (valV_neg k13).trans ((valV_neg k23).trans (valV_pos rfl))
theorem p_left {p r r' : Addr} {k : Int} : putK (kvD p r k) kL (.ref r') = kvD p r' k := by
  have h1 : kL ≠ kA := k23
  have h2 : kC ≠ kL := k12
  unfold putK kvD
  simp only [List.any_cons, List.map_cons, List.map_nil, decide_eq_true (rfl : kL = kL), Bool.or_true, Bool.true_or, if_true, if_neg h2, if_neg (Ne.symm h1), decide_eq_false h2, decide_eq_false (Ne.symm h1), Bool.false_or, Bool.or_false, decide_true]
theorem p_at {p r : Addr} {k k' : Int} : putK (kvD p r k) kA (.int k') = kvD p r k' := by
  have h1 : kL ≠ kA := k23
  have h2 : kC ≠ kA := k13
  unfold putK kvD
  simp only [List.any_cons, List.map_cons, List.map_nil, decide_eq_true (rfl : kA = kA), Bool.or_true, Bool.true_or, if_true, if_neg h2, if_neg h1, decide_eq_false h2, decide_eq_false h1, Bool.false_or, Bool.or_false, decide_true]
/-- the draws' state, as it has come from H0 -/
structure DS (H0 : Hp) (a p r0 : Addr) (c : List Int) (H : Hp) (r : Addr) (l : List Int) (k : Int) : Prop where
  da : H a = some (.dK (kvD p r k))
  dp : H p = some (.lst (c.map V.int))
  dr : H r = some (.lst (l.map V.int))
  n1 : a ≠ p
  n2 : a ≠ r
  n3 : p ≠ r
  old : r = r0 ∨ H0 r = none
  rest : ∀ b o, H0 b = some o → b ≠ a → b ≠ r0 → H b = some o
  dom : ∀ b, H b = none → H0 b = none
theorem upd_none {H : Hp} {p b : Addr} {o : HO} (h : upd H p o b = none) : b ≠ p ∧ H b = none := by
  by_cases z : b = p
  · subst z; rw [upd_same] at h; cases h
  · rw [upd_ne z] at h; exact ⟨z, h⟩
section
variable {H0 H : Hp} {a p r0 r : Addr} {c l : List Int} {k : Int}
theorem DS.new (d : DS H0 a p r0 c H r l k) {q : Addr} (hq : H q = none) {o : HO} : DS H0 a p r0 c (upd H q o) r l k := by
  have s := Same.new (o := o) hq
  exact ⟨s _ _ d.da, s _ _ d.dp, s _ _ d.dr, d.n1, d.n2, d.n3, d.old, fun b u e h1 h2 => s _ _ (d.rest b u e h1 h2), fun b h => d.dom b (upd_none h).2⟩
theorem DS.left (d : DS H0 a p r0 c H r l k) {q : Addr} {l' : List Int} (hq : H q = some (.lst (l'.map V.int))) (h0 : H0 q = none) (hp : q ≠ p) : DS H0 a p r0 c (upd H a (.dK (kvD p q k))) q l' k := by
  have na : a ≠ q := ne_of d.da hq (by intro z; cases z)
  refine ⟨upd_same, by rw [upd_ne (Ne.symm d.n1)]; exact d.dp, by rw [upd_ne (Ne.symm na)]; exact hq, d.n1, na, Ne.symm hp, .inr h0, fun b o e h1 h2 => by rw [upd_ne h1]; exact d.rest b o e h1 h2, fun b h => d.dom b (upd_none h).2⟩
theorem DS.at (d : DS H0 a p r0 c H r l k) (k' : Int) : DS H0 a p r0 c (upd H a (.dK (kvD p r k'))) r l k' :=
  ⟨upd_same, by rw [upd_ne (Ne.symm d.n1)]; exact d.dp, by rw [upd_ne (Ne.symm d.n2)]; exact d.dr, d.n1, d.n2, d.n3, d.old, fun b o e h1 h2 => by rw [upd_ne h1]; exact d.rest b o e h1 h2, fun b h => d.dom b (upd_none h).2⟩
theorem DS.item (d : DS H0 a p r0 c H r l k) (l' : List Int) : DS H0 a p r0 c (upd H r (.lst (l'.map V.int))) r l' k := by
  refine ⟨by rw [upd_ne d.n2]; exact d.da, by rw [upd_ne d.n3]; exact d.dp, upd_same, d.n1, d.n2, d.n3, d.old, fun b o e h1 h2 => ?_, fun b h => d.dom b (upd_none h).2⟩
  have : b ≠ r := by
    rcases d.old with z | z
    · rw [z]; exact h2
    · exact ne_of_none e z
  rw [upd_ne this]; exact d.rest b o e h1 h2
end
def dropZ : List Int → List Int
  | [] => []
  | x :: r => if x = 0 then dropZ r else x :: r
def cellAt (c : List Int) (k : Int) : Int := if c = [] then 3 else c.getD (k % c.length).toNat 0
def mixV (cell k : Int) : Int := (((cell % 2147483629 + 7919 * k + 19 * k * k) * 48271) % 2147483647 + 104729 * k) * 69621 % 2147483587 / 11
def gNext : Fn
  | [.drw c l k, .int n] => if 0 < n ∧ n.natAbs.log2 < 9000 ∧ 0 ≤ k ∧ k < 2 ^ 40 then match dropZ l with
    | x :: r => some (.ok (.int (x % n)), [some (.drw c (x / n :: r) k), none])
    | [] => some (.ok (.int (mixV (cellAt c (k + 1)) (k + 1) % n)), [some (.drw c [] (k + 1)), none])
    else none
  | _ => none
theorem gNext_len : ∀ ds r, gNext ds = some r → ds.length = 2 := fun ds r h => by
  unfold gNext at h
  split at h
  · rfl
  · cases h
theorem canLay_ints : ∀ l : List Int, PyData.canLayAll0 (l.map PyData.int) = true
  | [] => rfl
  | i :: l => by simp only [List.map_cons, PyData.canLayAll0, PyData.canLay0, canLay_ints l, Bool.and_self]
theorem depth_ints : ∀ l : List Int, PyData.depthAll (l.map PyData.int) = 0
  | [] => rfl
  | i :: l => by simp only [List.map_cons, PyData.depthAll, PyData.depth, depth_ints l]; rfl
theorem shaped_ints (l : List Int) : SeqAt.shaped (.list (l.map PyData.int)) = true := by
  simp only [SeqAt.shaped, PyData.canLay0, canLay_ints, PyData.depth, depth_ints]; rfl
theorem eqv_nil (l : List Int) : PyData.eqv (.list (l.map PyData.int)) (.list []) = l.isEmpty := by
  cases l <;> simp [PyData.eqv, PyData.eqvAll]
theorem dpAll_ints {K : PySem.W.Frag} {H : Hp} : ∀ l : List Int, DpAll K H (l.map V.int) (l.map PyData.int)
  | [] => .nil
  | i :: l => .cons (.int i) (dpAll_ints l)
section
variable {K : PySem.W.Frag} {H0 H : Hp} {a p r0 r : Addr} {c l : List Int} {k : Int}
theorem DS.gl (d : DS H0 a p r0 c H r l k) : DGet H a (.str "left") (some (.ref r)) := by
  have := DGet.k (k := kL) d.da
  rw [v_left] at this; exact this
theorem DS.gc (d : DS H0 a p r0 c H r l k) : DGet H a (.str "cells") (some (.ref p)) := by
  have := DGet.k (k := kC) d.da
  rw [v_cells] at this; exact this
theorem DS.ga (d : DS H0 a p r0 c H r l k) : DGet H a (.str "at") (some (.int k)) := by
  have := DGet.k (k := kA) d.da
  rw [v_at] at this; exact this
theorem DS.pl (d : DS H0 a p r0 c H r l k) {q : Addr} {l' : List Int} : DPut H a (.str "left") (.ref q) (upd H a (.dK (kvD p q k))) := by
  have := DPut.k (k := kL) (v := .ref q) d.da (by show 3 < sizeLine; rw [sizeLine_eq]; decide)
  rw [p_left] at this; exact this
theorem DS.pa (d : DS H0 a p r0 c H r l k) {k' : Int} : DPut H a (.str "at") (.int k') (upd H a (.dK (kvD p r k'))) := by
  have := DPut.k (k := kA) (v := .int k') d.da (by show 3 < sizeLine; rw [sizeLine_eq]; decide)
  rw [p_at] at this; exact this
theorem dp_ints {xs : List Int} {b : Addr} (h : H b = some (.lst (xs.map V.int))) : Dp K H (.ref b) (.list (xs.map PyData.int)) := .lst (SqL.of h) (dpAll_ints xs)
/-- xs != [] -/
theorem ne_nil {xs : List Int} {b q : Addr} {Q : VK} (h : H b = some (.lst (xs.map V.int))) (hq : H q = none) (k : Q (.bl (!xs.isEmpty)) (upd H q (.lst []))) : rNeD K (.ref b) (.ref q) (upd H q (.lst [])) Q :=
  ⟨_, .list [], dp_ints (xs := xs) (Same.new hq _ _ h), .lst (SqL.of upd_same) .nil, shaped_ints xs, rfl, by rw [eqv_nil]; exact k⟩
end
/-- what _law_next's reading comes to -/
theorem next_end {K : PySem.W.Frag} {mg : Str → Option Value} {vs : List V} {H : Hp} {Q : VK} {E : XK} (h : spM K mg 2 gNext vs H Q E) : ∃ (a p r : Addr) (c l : List Int) (k n : Int), vs = [.ref a, .int n] ∧ DS H a p r c H r l k ∧ 0 < n ∧ n.natAbs.log2 < 9000 ∧ 0 ≤ k ∧ k < 2 ^ 40 ∧
    (∀ x t H' r', dropZ l = x :: t → DS H a p r c H' r' (x / n :: t) k → Q (.int (x % n)) H') ∧ ∀ H' r', dropZ l = [] → DS H a p r c H' r' [] (k + 1) → Q (.int (mixV (cellAt c (k + 1)) (k + 1) % n)) H' := by
  obtain ⟨hv, B, F, ds, fp, rr, ρ', E0, hm, post⟩ := h
  unfold gNext at hm
  split at hm
  case h_2 => cases hm
  case h_1 c l k n =>
  split at hm
  case isFalse => cases hm
  case isTrue hc =>
  obtain ⟨v, h1, a, p, r, e1, sa, sp, sr, n1, n2, n3, ha, hp, hr⟩ := E0.rep 0 _ rfl
  obtain ⟨v2, h2, e2⟩ := E0.rep 1 _ rfl
  have e2 : v2 = .int n := e2
  subst e1 e2
  match vs, hv, h1, h2 with
  | [x, y], _, h1, h2 =>
  have hx : x = .ref a := by simpa using h1
  have hy : y = .int n := by simpa using h2
  subst hx hy
  have fin : ∀ {H' r' l' k'}, DS H a p r c H' r' l' k' → ∀ i : Int, ∃ fp', EnvOk K B F H' [some (.ref a), some (.int n)] [some (.drw c l' k'), none] fp' ∧ (∀ b, fp' 1 b → False) := fun {H' r' l' k'} d i => by
    have nB : ∀ b o, B b = some o → b ≠ a ∧ b ≠ r := fun b o e => ⟨fun z => (by rw [z, (E0.out 0 a sa).1] at e; cases e), fun z => (by rw [z, (E0.out 0 r sr).1] at e; cases e)⟩
    have nF : ∀ b o, F b = some o → b ≠ a ∧ b ≠ r := fun b o e => ⟨fun z => (by rw [z, (E0.out 0 a sa).2] at e; cases e), fun z => (by rw [z, (E0.out 0 r sr).2] at e; cases e)⟩
    have out : ∀ b, (b = a ∨ b = p ∨ b = r') → B b = none ∧ F b = none ∧ H' b ≠ none := fun b z => by
      rcases z with rfl | rfl | rfl
      · exact ⟨(E0.out 0 _ sa).1, (E0.out 0 _ sa).2, by rw [d.da]; simp⟩
      · exact ⟨(E0.out 0 _ sp).1, (E0.out 0 _ sp).2, by rw [d.dp]; simp⟩
      · refine ⟨?_, ?_, by rw [d.dr]; simp⟩
        · rcases d.old with z | z
          · rw [z]; exact (E0.out 0 r sr).1
          · exact E0.bh.free z
        · rcases d.old with z | z
          · rw [z]; exact (E0.out 0 r sr).2
          · exact E0.fh.free z
    refine ⟨fun j b => j = 0 ∧ (b = a ∨ b = p ∨ b = r'), ⟨fun b o e => d.rest b o (E0.bh b o e) (nB b o e).1 (nB b o e).2, fun b o e => d.rest b o (E0.fh b o e) (nF b o e).1 (nF b o e).2, E0.bf, fun j d' e => ?_, fun j j' b z1 z2 => by rw [z1.1, z2.1], fun j b z => ⟨(out b z.2).1, (out b z.2).2.1⟩, fun j b z => (out b z.2).2.2, by simp⟩, fun b z => by simp at z⟩
    match j, e with
    | 0, e =>
      have e : D.drw c l' k' = d' := by simpa using e
      subst e
      exact ⟨.ref a, rfl, a, p, r', rfl, ⟨rfl, .inl rfl⟩, ⟨rfl, .inr (.inl rfl)⟩, ⟨rfl, .inr (.inr rfl)⟩, d.n1, d.n2, d.n3, d.da, d.dp, d.dr⟩
    | 1, e => simp at e
    | j + 2, e => simp at e
  refine ⟨a, p, r, c, l, k, n, rfl, ⟨ha, hp, hr, n1, n2, n3, .inl rfl, fun _ _ e _ _ => e, fun _ e => e⟩, hc.1, hc.2.1, hc.2.2.1, hc.2.2.2, fun x t H' r' ez d => ?_, fun H' r' ez d => ?_⟩
  · rw [ez] at hm
    cases hm
    obtain ⟨fp', E', _⟩ := fin d 0
    exact post B H' fp' _ noF (fun _ _ z => z) E' (ValOk.of rfl)
  · rw [ez] at hm
    cases hm
    obtain ⟨fp', E', _⟩ := fin d 0
    exact post B H' fp' _ noF (fun _ _ z => z) E' (ValOk.of rfl)
end G
namespace Law
open PySem PySem.Spec PyProof.Rows L2 G
section
variable {P : Program} {w : World} {K : PySem.W.Frag} {mg : Str → Option Value} {base : Heap}
theorem scBegun : FnScope ["script", "cell"] ["script"] (defScope sBegun) := ⟨rfl, rfl, rfl, by decide +kernel, rfl, by decide +kernel, by decide +kernel⟩
theorem ok_begun {f : Addr} {fd : FuncData} (F : FunD K "_law_begun" "_law_begun" (defArgs sBegun) (defBody sBegun) (defScope sBegun) [] [] f fd) (mList : mg "list" = none) : FnG P w K mg base 1 f fd ["script"] (spM K mg 1 gBegun) := by
  refine fnG_of F scBegun (fun vs H Q E h => h.1) fun cdv A outer s H vs Q E hg hr h => ?_
  obtain ⟨a, ns, rfl, hS, hl, k⟩ := begun_end h
  refine ⟨_, pss_one (ps_ret (pe_disp (pps_cons pe_str (pe_callTy call_list_of (by rfl) mList (by decide +kernel) (pa_cons (pv 0) pa_nil))
    (pps_cons pe_str (pe_lc (own := [("cell", 1)]) (g := gName 1) (tt := tTest (tOp (rI0 fun i j => .bl (decide (j ≤ i))) (tVar 1) (tOp (rI CPow fun i j => .int (i ^ j.toNat)) (tC (.int 10)) (tC (.int 18))))) (te := tVar 1) rfl scBegun.nd (pi_list (pv 0)) (blkOk_by (N := ["script", "cell"]) (sc := defScope sBegun) (by decide +kernel))
        (fun _ _ _ _ _ => pg_name (i := 1) scBegun.nd rfl (Or.inl rfl)) (fun _ _ _ _ _ => pts_one (pt_cmpR op_ge (pv 1) (pe_op op_pow pe_int pe_int) (nomark _))) (fun _ _ _ _ _ => pv 1))
    (pps_cons pe_str pe_int pps_nil))) (by rfl) (by rfl) (fun z => by cases z) (by decide))), ?_⟩
  intro p hp
  have s1 : Same H (upd H p (.dK [])) := Same.new hp
  refine ⟨_, rfl, a, _, rfl, .inl (s1.seq hS), fun c hc => ?_⟩
  have hc0 : H c = none := s1.free hc
  have npc : p ≠ c := fun e => by rw [← e, upd_same] at hc; cases hc
  have s2 : Same (upd H p (.dK [])) (upd (upd H p (.dK [])) c (.lst (ns.map V.int))) := Same.new hc
  refine ⟨_, rfl, a, rfl, ⟨_, (s1.trans s2).seq hS⟩, fun l hl' => ?_⟩
  have hl0 : H l = none := (s1.trans s2).free hl'
  have npl : p ≠ l := fun e => by rw [← e, upd_ne npc, upd_same] at hl'; cases hl'
  have ncl : c ≠ l := fun e => by rw [← e, upd_same] at hl'; cases hl'
  refine lc_list (K := K) (a := a) (xs := ns.map V.int) (fun i H' => H' = upd (upd (upd H p (.dK [])) c (.lst (ns.map V.int))) l (.lst ((bigs (ns.take i)).map V.int))) ?_ (fun i H' _ e => ?_) (fun i x H' hx e => ?_) (fun H' e => ?_)
  · rfl
  · subst e
    exact ((s1.trans s2).trans (Same.new hl')).seq hS
  · subst e
    obtain ⟨n, hn, rfl⟩ : ∃ n, ns[i]? = some n ∧ x = V.int n := by
      rw [List.getElem?_map] at hx
      obtain ⟨n, h1, h2⟩ := Option.map_eq_some_iff.mp hx
      exact ⟨n, h1, h2.symm⟩
    have hi : i < ns.length := by
      rcases Nat.lt_or_ge i ns.length with z | z
      · exact z
      · rw [List.getElem?_eq_none z] at hn; cases hn
    have ht : ns.take (i + 1) = ns.take i ++ [n] := by rw [List.take_succ, hn]; rfl
    refine ⟨rfl, _, rfl, _, _, rfl, rfl, ⟨by decide, by decide, by decide⟩, n, 10 ^ 18, rfl, rfl, _, rfl, ?_⟩
    have hb : bigs (ns.take (i + 1)) = bigs (ns.take i) ++ (if decide ((10 : Int) ^ 18 ≤ n) = true then [n] else []) := by
      rw [ht]; unfold bigs; rw [List.filter_append, List.filter_cons, List.filter_nil]
    by_cases z : (10 : Int) ^ 18 ≤ n
    · have z' : decide ((10 : Int) ^ 18 ≤ n) = true := decide_eq_true z
      rw [z'] at hb
      refine (if_pos z').mpr ⟨_, rfl, _, upd_same, ?_, ?_⟩
      · refine Nat.lt_of_le_of_lt (m := 1000000) ?_ (by rw [sizeLine_eq]; decide)
        have : (bigs (ns.take i)).length ≤ (ns.take i).length := List.length_filter_le _ _
        simp only [List.length_map]
        rw [List.length_take] at this
        omega
      · rw [upd_upd, hb]; simp
    · have z' : decide ((10 : Int) ^ 18 ≤ n) = false := decide_eq_false z
      rw [z'] at hb
      refine (if_neg (by rw [z']; simp)).mpr ?_
      rw [hb]; simp
  · subst e
    rw [List.length_map, List.take_length]
    refine ⟨by rw [upd_ne npl, upd_ne npc, upd_same], [(.inr "cells", .ref c), (.inr "left", .ref l), (.inr "at", .int 0)], rfl, (by show 3 ≤ 15; decide), ?_⟩
    refine k p c l _ npc npl ncl hp hc0 hl0 (fun b o e => ?_) upd_same ?_ ?_
    · have nb : b ≠ p := ne_of_none e hp
      rw [upd_ne nb, upd_ne (ne_of_none e hl0), upd_ne (ne_of_none e hc0), upd_ne nb]; exact e
    · rw [upd_ne npc.symm, upd_ne ncl, upd_same]
    · rw [upd_ne npl.symm, upd_same]
theorem scNext : FnScope ["m", "many", "rest", "k", "cell", "mixed"] ["m", "many"] (defScope sNext) := ⟨rfl, rfl, rfl, by decide +kernel, rfl, by decide +kernel, by decide +kernel⟩
set_option pp.deepTerms false in
set_option pp.deepTerms.threshold 8 in
theorem ok_next {f : Addr} {fd : FuncData} (F : FunD K "_law_next" "_law_next" (defArgs sNext) (defBody sNext) (defScope sNext) [] [] f fd) (mInt : mg "int" = none) (mLen : mg "len" = none) : FnG P w K mg base 1 f fd ["m", "many"] (spM K mg 2 gNext) := by
  refine fnG_of F scNext (fun vs H Q E h => h.1) fun cdv A outer s H vs Q E hg hr h => ?_
  obtain ⟨a, p, r, c, l, k, n, rfl, d0, hn, hn9, hk0, hk, q1, q2⟩ := next_end h
  have hu := hr.units
  have hu1 := hu_of hr
  refine ⟨_, pss_cons (ps_while (passes_of rfl) (PW.pt (pw_and (pt_cmpR (op_neD hu) (pe_dget hu1 (pv 0) pe_str (fun _ _ => rfl)) (pe_lst pa_nil) (nomark _)) (pw_and1 (pt_cmpR op_eq (pe_ix ix_list (pe_dget hu1 (pv 0) pe_str (fun _ _ => rfl)) pe_int (fun _ _ => rfl)) pe_int (nomark _)))))
      (pss_one (ps_dput hu1 (pv 0) pe_str (pe_slice sl_list (pe_dget hu1 (pv 0) pe_str (fun _ _ => rfl)) (po_some pe_int) po_none) rfl)))
    (pss_cons (ps_if (pt_cmpR (op_neD hu) (pe_dget hu1 (pv 0) pe_str (fun _ _ => rfl)) (pe_lst pa_nil) (nomark _))
      (pss_cons (ps_set (i := 2) scNext.nd rfl (Or.inl rfl) (pe_callTy call_int1 (by rfl) mInt (by decide +kernel) (pa_cons (pe_ix ix_list (pe_dget hu1 (pv 0) pe_str (fun _ _ => rfl)) pe_int (fun _ _ => rfl)) pa_nil)))
        (pss_cons (ps_asg (pe_op op_fdivW (pv 2) (pv 1)) (pg_sub (pe_dget hu1 (pv 0) pe_str (fun _ _ => rfl)) pe_int set_list)) (pss_one (ps_ret (pe_op op_mod (pv 2) (pv 1)))))) pss_nil)
    (pss_cons (ps_set (i := 3) scNext.nd rfl (Or.inl rfl) (pe_op op_add (pe_dget hu1 (pv 0) pe_str (fun _ _ => rfl)) pe_int))
    (pss_cons (ps_dput hu1 (pv 0) pe_str (pv 3) rfl)
    (pss_cons (ps_set (i := 4) scNext.nd rfl (Or.inl rfl) (pe_ifExp (pt_cmpR (op_neD hu) (pe_dget hu1 (pv 0) pe_str (fun _ _ => rfl)) (pe_lst pa_nil) (nomark _))
        (pe_ix ix_list (pe_dget hu1 (pv 0) pe_str (fun _ _ => rfl)) (pe_op op_mod (pe_callTy call_int1 (by rfl) mInt (by decide +kernel) (pa_cons (pv 3) pa_nil)) (pe_callB call_len (by rfl) mLen (by decide +kernel) (pa_cons (pe_dget hu1 (pv 0) pe_str (fun _ _ => rfl)) pa_nil))) (fun _ _ => rfl)) pe_int))
    (pss_cons (ps_set (i := 5) scNext.nd rfl (Or.inl rfl) (pe_op op_mul (pe_callTy call_int1 (by rfl) mInt (by decide +kernel) (pa_cons (pe_op op_add (pe_op op_add (pe_op op_mod (pe_callTy call_int1 (by rfl) mInt (by decide +kernel) (pa_cons (pv 4) pa_nil)) pe_int) (pe_op op_mul pe_int (pv 3))) (pe_op op_mul (pe_op op_mul pe_int (pv 3)) (pv 3))) pa_nil)) pe_int))
    (pss_cons (ps_set (i := 5) scNext.nd rfl (Or.inl rfl) (pe_op op_mul (pe_callTy call_int1 (by rfl) mInt (by decide +kernel) (pa_cons (pe_op op_add (pe_op op_mod (pe_callTy call_int1 (by rfl) mInt (by decide +kernel) (pa_cons (pv 5) pa_nil)) pe_int) (pe_op op_mul pe_int (pv 3))) pa_nil)) pe_int))
    (pss_one (ps_ret (pe_op op_mod (pe_callTy call_int1 (by rfl) mInt (by decide +kernel) (pa_cons (pe_op op_fdiv (pe_op op_mod (pe_callTy call_int1 (by rfl) mInt (by decide +kernel) (pa_cons (pv 5) pa_nil)) pe_int) pe_int) pa_nil)) (pv 1)))))))))), ?_⟩
  refine ⟨fun m σ H' => ∃ r' l', σ = [some (.ref a), some (.int n), none, none, none, none] ∧ DS H a p r c H' r' l' k ∧ dropZ l' = dropZ l ∧ m = l'.length, ⟨l.length, r, l, rfl, d0, rfl, rfl⟩, ?_⟩
  rintro m σ H1 ⟨r1, l1, rfl, d1, ez, rfl⟩
  refine ⟨_, rfl, a, .ref r1, rfl, d1.gl, Nat.zero_le _, fun q hq => ne_nil d1.dr hq ⟨_, rfl, ?_⟩⟩
  have d2 := d1.new (o := .lst []) hq
  have hk1 : (0 : Int) ≤ k + 1 ∧ k + 1 < 2 ^ 41 := ⟨by omega, by omega⟩
  match l1, ez, d1, d2 with
  | [], ez, d1, d2 =>
    refine iteF ?_
    refine ⟨_, rfl, a, .ref r1, rfl, d2.gl, Nat.zero_le _, fun q' hq' => ne_nil d2.dr hq' ⟨_, rfl, iteF ?_⟩⟩
    have d3 := d2.new (o := .lst []) hq'
    refine ⟨_, rfl, a, .int k, rfl, d3.ga, k, 1, rfl, rfl, ?_⟩
    refine ⟨_, rfl, _, rfl, a, _, rfl, d3.pa, ?_⟩
    have d4 := d3.at (k + 1)
    refine ⟨_, rfl, a, .ref p, rfl, d4.gc, Nat.zero_le _, fun q2' hq2 => ne_nil d4.dp hq2 ⟨_, rfl, ?_⟩⟩
    have d5 := d4.new (o := .lst []) hq2
    have fin : ∀ {H' : Hp} (cv : Int), DS H a p r c H' r1 [] (k + 1) → cv = cellAt c (k + 1) → Q (.int (mixV cv (k + 1) % n)) H' := fun cv d e => by
      subst e; exact q2 _ r1 ez.symm d
    have m1 : CMul 7919 (k + 1) := .inl ⟨by decide, by decide⟩
    have m2 : CMul 19 (k + 1) := .inl ⟨by decide, by decide⟩
    have m3 : CMul (19 * (k + 1)) (k + 1) := .inr ⟨by omega, by omega⟩
    have m4 : ∀ u : Int, CMul u 48271 := fun _ => .inr (by decide)
    have m6 : ∀ u : Int, CMul u 69621 := fun _ => .inr (by decide)
    have z1 : (0 : Int) < 2147483629 := by decide
    have z2 : (0 : Int) < 2147483647 := by decide
    have z3 : (0 : Int) < 2147483587 := by decide
    have m5 : CMul 104729 (k + 1) := .inl ⟨by decide, by decide⟩
    rcases List.eq_nil_or_concat c with hc | hc
    · subst hc
      refine iteF ?_
      refine ⟨_, rfl, .inl ⟨_, rfl, 3, 2147483629, rfl, rfl, z1, _, rfl, 7919, k + 1, rfl, rfl, m1, _, _, rfl, rfl, _, rfl, 19, k + 1, rfl, rfl, m2, _, rfl, _, k + 1, rfl, rfl, m3, _, _, rfl, rfl, .inl ⟨_, rfl, _, 48271, rfl, rfl, m4 _, ?_⟩⟩⟩
      refine ⟨_, rfl, .inl ⟨_, rfl, _, 2147483647, rfl, rfl, z2, _, rfl, 104729, k + 1, rfl, rfl, m5, _, _, rfl, rfl, .inl ⟨_, rfl, _, 69621, rfl, rfl, m6 _, ?_⟩⟩⟩
      exact ⟨_, rfl, .inl ⟨_, rfl, _, 2147483587, rfl, rfl, z3, _, 11, rfl, rfl, ⟨by decide, by decide⟩, .inl ⟨_, rfl, _, rfl, _, n, rfl, rfl, hn, fin 3 d5 rfl⟩⟩⟩
    · have he : c.isEmpty = false := by obtain ⟨_, _, rfl⟩ := hc; simp
      have hl : (0 : Int) < c.length := by obtain ⟨_, _, rfl⟩ := hc; simp
      rw [he]
      refine iteT ?_
      have e1 : 0 ≤ (k + 1) % (c.length : Int) := Int.emod_nonneg _ (by omega)
      have e2 : (k + 1) % (c.length : Int) < c.length := Int.emod_lt_of_pos _ hl
      refine ⟨_, rfl, a, .ref p, rfl, d5.gc, _, rfl, .inl ⟨_, rfl, _, rfl, a, .ref p, rfl, d5.gc, _, c.length, rfl, ?_, k + 1, c.length, rfl, rfl, hl, p, _, (k + 1) % (c.length : Int), .int (cellAt c (k + 1)), rfl, rfl, SqL.of d5.dp, ?_, ?_⟩⟩
      · exact .inl ⟨_, SqL.of d5.dp, by rw [List.length_map]⟩
      · have hj : ((k + 1) % (c.length : Int)).toNat < c.length := by omega
        have := atI_nat (xs := c.map V.int) (j := ((k + 1) % (c.length : Int)).toNat) (v := .int (c.getD ((k + 1) % (c.length : Int)).toNat 0)) (by
          rw [List.getElem?_map, List.getElem?_eq_getElem hj, List.getD_eq_getElem?_getD, List.getElem?_eq_getElem hj]; rfl)
        rw [Int.toNat_of_nonneg e1] at this
        rw [this]
        unfold cellAt
        rw [if_neg (fun z => by rw [z] at he; cases he)]
      refine ⟨_, rfl, .inl ⟨_, rfl, cellAt c (k + 1), 2147483629, rfl, rfl, z1, _, rfl, 7919, k + 1, rfl, rfl, m1, _, _, rfl, rfl, _, rfl, 19, k + 1, rfl, rfl, m2, _, rfl, _, k + 1, rfl, rfl, m3, _, _, rfl, rfl, .inl ⟨_, rfl, _, 48271, rfl, rfl, m4 _, ?_⟩⟩⟩
      refine ⟨_, rfl, .inl ⟨_, rfl, _, 2147483647, rfl, rfl, z2, _, rfl, 104729, k + 1, rfl, rfl, m5, _, _, rfl, rfl, .inl ⟨_, rfl, _, 69621, rfl, rfl, m6 _, ?_⟩⟩⟩
      exact ⟨_, rfl, .inl ⟨_, rfl, _, 2147483587, rfl, rfl, z3, _, 11, rfl, rfl, ⟨by decide, by decide⟩, .inl ⟨_, rfl, _, rfl, _, n, rfl, rfl, hn, fin _ d5 rfl⟩⟩⟩
  | x :: t, ez, d1, d2 =>
    refine iteT ?_
    refine ⟨_, rfl, a, .ref r1, rfl, d2.gl, r1, _, 0, .int x, rfl, rfl, SqL.of d2.dr, ?_, ?_⟩
    · exact atI_nat (j := 0) rfl
    by_cases z : x = 0
    · subst z
      refine ⟨rfl, _, rfl, ?_⟩
      refine ite2 (fun _ => ?_) (fun c => absurd (decide_eq_true rfl) c)
      refine ⟨fun σ' H' => ∃ r' l', σ' = [some (.ref a), some (.int n), none, none, none, none] ∧ DS H a p r c H' r' l' k ∧ dropZ l' = dropZ l ∧ t.length = l'.length, fun σ' H' h' => ⟨t.length, by simp, h'⟩, ?_⟩
      refine ⟨_, rfl, a, .ref r1, rfl, d2.gl, 1, rfl, r1, _, rfl, SqL.of d2.dr, fun q' hq' => ⟨_, rfl, a, _, rfl, DS.pl (l' := t) (d2.new hq'), ?_⟩⟩
      have hc : cutV ((0 :: t).map V.int) (some 1) none = t.map V.int := by simp [cutV, HT.sIx, List.take_of_length_le]
      exact ⟨q', t, rfl, DS.left (d2.new hq') (by rw [upd_same, hc]) (d2.dom _ hq') (ne_of_none d2.dp hq').symm, by rw [← ez]; simp [dropZ], rfl⟩
    · refine ⟨rfl, _, rfl, ?_⟩
      refine ite2 (fun c => absurd (V.int.inj (of_decide_eq_true c)) z) (fun _ => ?_)
      refine ⟨_, rfl, a, .ref r1, rfl, d2.gl, Nat.zero_le _, fun q' hq' => ne_nil d2.dr hq' ⟨_, rfl, iteT ?_⟩⟩
      have d3 := d2.new (o := .lst []) hq'
      refine ⟨_, rfl, a, .ref r1, rfl, d3.gl, r1, _, 0, .int x, rfl, rfl, SqL.of d3.dr, ?_, ?_⟩
      · exact atI_nat (j := 0) rfl
      refine .inl ⟨x, rfl, ?_⟩
      refine ⟨_, rfl, _, rfl, x, n, rfl, rfl, ⟨hn, hn9⟩, ?_⟩
      have ez' : dropZ l = x :: t := by rw [← ez]; simp [dropZ, z]
      exact ⟨_, rfl, a, .ref r1, rfl, d3.gl, r1, _, 0, 0, rfl, rfl, d3.dr, by simp [ixN], _, rfl, _, rfl, x, n, rfl, rfl, hn, q1 x t _ r1 ez' (d3.item (x / n :: t))⟩
theorem gL_begun (D : Df K mg "_law_begun" sBegun []) (z_list : mg "list" = none) : Cal P w K mg base 1 "_law_begun" 1 gBegun := by
  obtain ⟨f, fd, F, hm⟩ := D.ex
  exact .of (ok_begun F z_list) hm F.kp (F.bindsN fun _ _ _ _ _ _ us hl => match us, hl with | [_], _ => rfl) gBegun_len
theorem gL_next (D : Df K mg "_law_next" sNext []) (z_int : mg "int" = none) (z_len : mg "len" = none) : Cal P w K mg base 1 "_law_next" 2 gNext := by
  obtain ⟨f, fd, F, hm⟩ := D.ex
  exact .of (ok_next F z_int z_len) hm F.kp (F.bindsN fun _ _ _ _ _ _ us hl => match us, hl with | [_, _], _ => rfl) gNext_len
end
end Law

namespace Law
open PySem PySem.Spec PyProof.Rows L2 G
section
variable {P : Program} {w : World} {K : PySem.W.Frag} {mg : Str → Option Value} {base : Heap}
abbrev g_law_begun : Fn := gBegun
abbrev g_law_next : Fn := gNext
def d_FORMS : List (Str × Str) := [("scale", "nw"), ("sum", "nn"), ("drop", "n"), ("contract", "n"), ("split", "nnn"), ("square", "n")]
def d_EDITS : List (Str × Str) := [("weight", "nw"), ("edge", "ccw"), ("without", "n"), ("leg", "c"), ("unleg", "n")]
abbrev s_form_of : Stmt := top 10
theorem sc_form_of : FnScope ["word"] ["word"] (defScope s_form_of) := ⟨rfl, rfl, rfl, by decide +kernel, rfl, by decide +kernel, by decide +kernel⟩
noncomputable def m_form_of : M Fl := sRet (eOp (kget d_FORMS) (eName 0) (eUn (fun y => kget d_EDITS y .non) (eName 0)))
noncomputable def g_form_of : Fn := fnM [false] 0 m_form_of
theorem okF_form_of {f : Addr} {fd : FuncData} (F : FunD K "form_of" "form_of" (defArgs s_form_of) (defBody s_form_of) (defScope s_form_of) [] [] f fd) (k_EDITS : Kd K w mg "EDITS" d_EDITS) (k_FORMS : Kd K w mg "FORMS" d_FORMS) : FnG P w K mg base 1 f fd ["word"] (spM K mg 1 g_form_of) :=
  fnG_M (nl := 0) (mask := [false]) (k := 0) F sc_form_of rfl rfl (fun cdv A outer s H E hg hr tk => have hu64 := hu64_of hr; have hu80 := hu80_of hr; have hu1 := hu_of hr; pssm_one (psm_ret (peo_of (pem_kget2 k_FORMS (by rfl) (pem_name 0) (pem_kget1 k_EDITS (by rfl) (pem_name 0))))))
theorem ok_form_of (F : Df K mg "form_of" s_form_of []) (k_EDITS : Kd K w mg "EDITS" d_EDITS) (k_FORMS : Kd K w mg "FORMS" d_FORMS) : Cal P w K mg base 1 "form_of" 1 g_form_of := by
  obtain ⟨f, fd, F, hm⟩ := F.ex
  exact .of (okF_form_of F k_EDITS k_FORMS) hm F.kp (F.bindsN fun _ _ _ _ _ _ us hl => match us, hl with | [_], _ => rfl) fnM_len
abbrev s_ra_digits : Stmt := top 5
theorem sc_ra_digits : FnScope ["word", "sign"] ["word"] (defScope s_ra_digits) := ⟨rfl, rfl, rfl, by decide +kernel, rfl, by decide +kernel, by decide +kernel⟩
noncomputable def b_ra_digits_1 : M D := eOp inS (eName 1) (rt (.str "0123456789"))
noncomputable def m_ra_digits : M Fl := sSeq (sIf (tOrM (tNotM (tB (eChain ltD leD (rt (.int 0)) (eFn (f1 lenD) (aCons (eName 0) aNil)) (rt (.int 1000))))) (tNotM (tB (eFn (f1 allD) (aCons (eCompR false [1] (iChars (eName 0)) (put 1) (rt true) b_ra_digits_1) aNil))))) (sRet (eUn negD (rt (.int 1)))) sNx) (sSeq (sIf (tAndM (tB (eOp eqD (eOp ixD (eName 0) (rt (.int 0))) (rt (.str "0")))) (tB (eOp neD (eName 0) (rt (.str "0"))))) (sRet (eUn negD (rt (.int 1)))) sNx) (sRet (eFn (f1 intTD) (aCons (eName 0) aNil))))
noncomputable def g_ra_digits : Fn := fnM [false] 1 m_ra_digits
theorem okF_ra_digits {f : Addr} {fd : FuncData} (F : FunD K "ra_digits" "ra_digits" (defArgs s_ra_digits) (defBody s_ra_digits) (defScope s_ra_digits) [] [] f fd) (z_all : mg "all" = none) (z_int : mg "int" = none) (z_len : mg "len" = none) (k_MOST_DIGITS : Kc K mg "MOST_DIGITS" (.int 1000)) (nd : base.NoDigits) : FnG P w K mg base 1 f fd ["word"] (spM K mg 1 g_ra_digits) :=
  fnG_M (nl := 1) (mask := [false]) (k := 0) F sc_ra_digits rfl rfl (fun cdv A outer s H E hg hr tk => have hu64 := hu64_of hr; have hu80 := hu80_of hr; have hu1 := hu_of hr; pssm_cons (psm_if (ptm_of_pwm (pwm_or (ptm_not (ptm_chain od_lt od_le pem_int (pem_callB cd_len (by rfl) z_len (by decide +kernel) (pam_cons (pem_name 0) pam_nil)) (pem_glob k_MOST_DIGITS (by rfl)))) (pwm_or1 (ptm_not (ptm_val (pem_callB (cd_all rfl) (by rfl) z_all (by decide +kernel) (pam_cons (pem_comp (own := [("sign", 1)]) ⟨rfl, sc_ra_digits.nd, ⟨_, pim_str (pem_name 0)⟩, blkOk_by (N := ["word", "sign"]) (sc := defScope s_ra_digits) (by decide +kernel), (fun _ _ _ _ _ => ptg_name (i := 1) sc_ra_digits.nd rfl (Or.inl rfl)), ⟨_, fun _ _ _ _ _ => ptsm_nil⟩, ⟨_, fun _ _ _ _ _ => pem_cmp od_inS (pem_name 1) pem_str⟩, put_ok⟩) pam_nil))))))) (pssm_one (psm_ret (peo_of (pem_un ud_neg pem_int)))) pssm_nil) (pssm_cons (psm_if (ptm_of_pwm (pwm_and (ptm_cmp (od_eq hu64) (pem_ix id_ix (pem_name 0) pem_int) pem_str) (pwm_and1 (ptm_cmp (od_ne hu64) (pem_name 0) pem_str)))) (pssm_one (psm_ret (peo_of (pem_un ud_neg pem_int)))) pssm_nil) (pssm_one (psm_ret (peo_of (pem_callTy (cd_intT nd) (by rfl) z_int (by decide +kernel) (pam_cons (pem_name 0) pam_nil)))))))
theorem ok_ra_digits (F : Df K mg "ra_digits" s_ra_digits []) (z_all : mg "all" = none) (z_int : mg "int" = none) (z_len : mg "len" = none) (k_MOST_DIGITS : Kc K mg "MOST_DIGITS" (.int 1000)) (nd : base.NoDigits) : Cal P w K mg base 1 "ra_digits" 1 g_ra_digits := by
  obtain ⟨f, fd, F, hm⟩ := F.ex
  exact .of (okF_ra_digits F z_all z_int z_len k_MOST_DIGITS nd) hm F.kp (F.bindsN fun _ _ _ _ _ _ us hl => match us, hl with | [_], _ => rfl) fnM_len
abbrev s_ra_divisor : Stmt := top 4
theorem sc_ra_divisor : FnScope ["one", "other"] ["one", "other"] (defScope s_ra_divisor) := ⟨rfl, rfl, rfl, by decide +kernel, rfl, by decide +kernel, by decide +kernel⟩
noncomputable def b_ra_divisor_1 : M Fl := bnd (aCons (eName 1) (aCons (eOp modD (eName 0) (eName 1)) aNil)) (putP 0 1)
noncomputable def m_ra_divisor : M Fl := sSeq (bnd (aCons (eFn (f1 absD) (aCons (eName 0) aNil)) (aCons (eFn (f1 absD) (aCons (eName 1) aNil)) aNil)) (putP 0 1)) (sSeq (whileM (tB (eOp neD (eName 1) (rt (.int 0)))) b_ra_divisor_1 big) (sRet (eName 0)))
noncomputable def g_ra_divisor : Fn := fnM [false, false] 0 m_ra_divisor
theorem okF_ra_divisor {f : Addr} {fd : FuncData} (F : FunD K "ra_divisor" "ra_divisor" (defArgs s_ra_divisor) (defBody s_ra_divisor) (defScope s_ra_divisor) [] [] f fd) (z_abs : mg "abs" = none) : FnG P w K mg base 1 f fd ["one", "other"] (spM K mg 2 g_ra_divisor) :=
  fnG_M (nl := 0) (mask := [false, false]) (k := 0) F sc_ra_divisor rfl rfl (fun cdv A outer s H E hg hr tk => have hu64 := hu64_of hr; have hu80 := hu80_of hr; have hu1 := hu_of hr; pssm_cons (psm_par (i := 0) (j := 1) rfl sc_ra_divisor.nd rfl rfl rfl rfl (pam_cons (pem_callB cd_abs (by rfl) z_abs (by decide +kernel) (pam_cons (pem_name 0) pam_nil)) (pam_cons (pem_callB cd_abs (by rfl) z_abs (by decide +kernel) (pam_cons (pem_name 1) pam_nil)) pam_nil))) (pssm_cons (psm_while big (passes_of rfl) (ptm_cmp (od_ne hu64) (pem_name 1) pem_int) (pssm_one (psm_par (i := 0) (j := 1) rfl sc_ra_divisor.nd rfl rfl rfl rfl (pam_cons (pem_name 1) (pam_cons (pem_op od_mod (pem_name 0) (pem_name 1)) pam_nil))))) (pssm_one (psm_ret (peo_of (pem_name 0))))))
theorem ok_ra_divisor (F : Df K mg "ra_divisor" s_ra_divisor []) (z_abs : mg "abs" = none) : Cal P w K mg base 1 "ra_divisor" 2 g_ra_divisor := by
  obtain ⟨f, fd, F, hm⟩ := F.ex
  exact .of (okF_ra_divisor F z_abs) hm F.kp (F.bindsN fun _ _ _ _ _ _ us hl => match us, hl with | [_, _], _ => rfl) fnM_len
abbrev s_ra_read : Stmt := top 6
theorem sc_ra_read : FnScope ["word", "sign", "rest", "parts", "top", "bottom"] ["word"] (defScope s_ra_read) := ⟨rfl, rfl, rfl, by decide +kernel, rfl, by decide +kernel, by decide +kernel⟩
noncomputable def m_ra_read : M Fl := sSeq (bnd (eIf (tB (eOp eqD (eSl (eName 0) (rt none) (eI (rt (.int 1)))) (rt (.str "-")))) (eFn gTup (aCons (eUn negD (rt (.int 1))) (aCons (eSl (eName 0) (eI (rt (.int 1))) (rt none)) aNil))) (eFn gTup (aCons (rt (.int 1)) (aCons (eName 0) aNil)))) (tgTup 2 (tgCons (put 1) (tgCons (put 2) tgNil)))) (sSeq (sSet 3 (eUn (splitD "/") (eName 2))) (sSeq (sIf (tB (eOp gtD (eFn (f1 lenD) (aCons (eName 3) aNil)) (rt (.int 2)))) (sRet (rt .non)) sNx) (sSeq (bnd (aCons (eCallQ g_ra_digits (aCons (eOp ixD (eName 3) (rt (.int 0))) aNil)) (aCons (eIf (tB (eOp eqD (eFn (f1 lenD) (aCons (eName 3) aNil)) (rt (.int 2)))) (eCallQ g_ra_digits (aCons (eOp ixD (eName 3) (rt (.int 1))) aNil)) (rt (.int 1))) aNil)) (putP 4 5)) (sSeq (sIf (tOrM (tB (eOp ltD (eName 4) (rt (.int 0)))) (tOrM (tAndM (tB (eOp ltD (eName 1) (rt (.int 0)))) (tB (eOp eqD (eName 4) (rt (.int 0))))) (tAndM (tB (eOp eqD (eFn (f1 lenD) (aCons (eName 3) aNil)) (rt (.int 2)))) (tB (eOp ltD (eName 5) (rt (.int 2))))))) (sRet (rt .non)) sNx) (sRet (eIf (tB (eOp eqD (eCallQ g_ra_divisor (aCons (eName 4) (aCons (eName 5) aNil))) (rt (.int 1)))) (eFn gTup (aCons (eOp mulD (eName 1) (eName 4)) (aCons (eName 5) aNil))) (rt .non)))))))
noncomputable def g_ra_read : Fn := fnM [false] 5 m_ra_read
theorem okF_ra_read {f : Addr} {fd : FuncData} (F : FunD K "ra_read" "ra_read" (defArgs s_ra_read) (defBody s_ra_read) (defScope s_ra_read) [] [] f fd) (c_ra_digits : Cal P w K mg base 1 "ra_digits" 1 g_ra_digits) (c_ra_divisor : Cal P w K mg base 1 "ra_divisor" 2 g_ra_divisor) (z_len : mg "len" = none) : FnG P w K mg base 2 f fd ["word"] (spM K mg 1 g_ra_read) :=
  fnG_M (nl := 5) (mask := [false]) (k := 1) F sc_ra_read rfl rfl (fun cdv A outer s H E hg hr tk => have hu64 := hu64_of hr; have hu80 := hu80_of hr; have hu1 := hu_of hr; pssm_cons (psm_asg (pem_if (ptm_cmp (od_eq hu64) (pem_slice (pem_name 0) pom_none (pom_some pem_int)) pem_str) (pem_tup (pam_cons (pem_un ud_neg pem_int) (pam_cons (pem_slice (pem_name 0) (pom_some pem_int) pom_none) pam_nil))) (pem_tup (pam_cons pem_int (pam_cons (pem_name 0) pam_nil)))) (ptg_tup rfl (ptgs_cons (ptg_name (i := 1) sc_ra_read.nd rfl (Or.inl rfl)) (ptgs_cons (ptg_name (i := 2) sc_ra_read.nd rfl (Or.inl rfl)) ptgs_nil))) (hok := tgTup_ok (tgCons_ok put_ok (tgCons_ok put_ok tgNil_ok)))) (pssm_cons (psm_set (i := 3) sc_ra_read.nd rfl (Or.inl rfl) (peo_of (pem_split (pem_name 2)))) (pssm_cons (psm_if (ptm_cmp od_gt (pem_callB cd_len (by rfl) z_len (by decide +kernel) (pam_cons (pem_name 3) pam_nil)) pem_int) (pssm_one (psm_ret (peo_of pem_non))) pssm_nil) (pssm_cons (psm_par (i := 4) (j := 5) rfl sc_ra_read.nd rfl rfl rfl rfl (pam_cons (pem_callQ c_ra_digits hg (hr.mono (by decide)) tk (by rfl) (pam_cons (pem_ix id_ix (pem_name 3) pem_int) pam_nil)) (pam_cons (pem_if (ptm_cmp (od_eq hu64) (pem_callB cd_len (by rfl) z_len (by decide +kernel) (pam_cons (pem_name 3) pam_nil)) pem_int) (pem_callQ c_ra_digits hg (hr.mono (by decide)) tk (by rfl) (pam_cons (pem_ix id_ix (pem_name 3) pem_int) pam_nil)) pem_int) pam_nil))) (pssm_cons (psm_if (ptm_of_pwm (pwm_or (ptm_cmp od_lt (pem_name 4) pem_int) (pwm_or (ptm_of_pwm (pwm_and (ptm_cmp od_lt (pem_name 1) pem_int) (pwm_and1 (ptm_cmp (od_eq hu64) (pem_name 4) pem_int)))) (pwm_or1 (ptm_of_pwm (pwm_and (ptm_cmp (od_eq hu64) (pem_callB cd_len (by rfl) z_len (by decide +kernel) (pam_cons (pem_name 3) pam_nil)) pem_int) (pwm_and1 (ptm_cmp od_lt (pem_name 5) pem_int)))))))) (pssm_one (psm_ret (peo_of pem_non))) pssm_nil) (pssm_one (psm_ret (peo_of (pem_if (ptm_cmp (od_eq hu64) (pem_callQ c_ra_divisor hg (hr.mono (by decide)) tk (by rfl) (pam_cons (pem_name 4) (pam_cons (pem_name 5) pam_nil))) pem_int) (pem_tup (pam_cons (pem_op od_mul (pem_name 1) (pem_name 4)) (pam_cons (pem_name 5) pam_nil))) pem_non)))))))))
theorem ok_ra_read (F : Df K mg "ra_read" s_ra_read []) (c_ra_digits : Cal P w K mg base 1 "ra_digits" 1 g_ra_digits) (c_ra_divisor : Cal P w K mg base 1 "ra_divisor" 2 g_ra_divisor) (z_len : mg "len" = none) : Cal P w K mg base 2 "ra_read" 1 g_ra_read := by
  obtain ⟨f, fd, F, hm⟩ := F.ex
  exact .of (okF_ra_read F c_ra_digits c_ra_divisor z_len) hm F.kp (F.bindsN fun _ _ _ _ _ _ us hl => match us, hl with | [_], _ => rfl) fnM_len
abbrev s_tx_number : Stmt := top 13
theorem sc_tx_number : FnScope ["word", "found"] ["word"] (defScope s_tx_number) := ⟨rfl, rfl, rfl, by decide +kernel, rfl, by decide +kernel, by decide +kernel⟩
noncomputable def m_tx_number : M Fl := sSeq (sSet 1 (eIf (tB (eOp leD (eFn (f1 lenD) (aCons (eName 0) aNil)) (rt (.int 3)))) (eCallQ g_ra_digits (aCons (eName 0) aNil)) (eUn negD (rt (.int 1))))) (sRet (eIf (tB (eOp eqD (eName 1) (eUn negD (rt (.int 1))))) (rt .non) (eName 1)))
noncomputable def g_tx_number : Fn := fnM [false] 1 m_tx_number
theorem okF_tx_number {f : Addr} {fd : FuncData} (F : FunD K "tx_number" "tx_number" (defArgs s_tx_number) (defBody s_tx_number) (defScope s_tx_number) [] [] f fd) (c_ra_digits : Cal P w K mg base 1 "ra_digits" 1 g_ra_digits) (z_len : mg "len" = none) (k_MOST_SIGNS : Kc K mg "MOST_SIGNS" (.int 3)) : FnG P w K mg base 2 f fd ["word"] (spM K mg 1 g_tx_number) :=
  fnG_M (nl := 1) (mask := [false]) (k := 1) F sc_tx_number rfl rfl (fun cdv A outer s H E hg hr tk => have hu64 := hu64_of hr; have hu80 := hu80_of hr; have hu1 := hu_of hr; pssm_cons (psm_set (i := 1) sc_tx_number.nd rfl (Or.inl rfl) (peo_of (pem_if (ptm_cmp od_le (pem_callB cd_len (by rfl) z_len (by decide +kernel) (pam_cons (pem_name 0) pam_nil)) (pem_glob k_MOST_SIGNS (by rfl))) (pem_callQ c_ra_digits hg (hr.mono (by decide)) tk (by rfl) (pam_cons (pem_name 0) pam_nil)) (pem_un ud_neg pem_int)))) (pssm_one (psm_ret (peo_of (pem_if (ptm_cmp (od_eq hu64) (pem_name 1) (pem_un ud_neg pem_int)) pem_non (pem_name 1))))))
theorem ok_tx_number (F : Df K mg "tx_number" s_tx_number []) (c_ra_digits : Cal P w K mg base 1 "ra_digits" 1 g_ra_digits) (z_len : mg "len" = none) (k_MOST_SIGNS : Kc K mg "MOST_SIGNS" (.int 3)) : Cal P w K mg base 2 "tx_number" 1 g_tx_number := by
  obtain ⟨f, fd, F, hm⟩ := F.ex
  exact .of (okF_tx_number F c_ra_digits z_len k_MOST_SIGNS) hm F.kp (F.bindsN fun _ _ _ _ _ _ us hl => match us, hl with | [_], _ => rfl) fnM_len
abbrev s_tx_thing : Stmt := top 14
theorem sc_tx_thing : FnScope ["word", "sort"] ["word", "sort"] (defScope s_tx_thing) := ⟨rfl, rfl, rfl, by decide +kernel, rfl, by decide +kernel, by decide +kernel⟩
noncomputable def m_tx_thing : M Fl := sSeq (sIf (tB (eOp eqD (eName 1) (rt (.str "w")))) (sRet (eCallQ g_ra_read (aCons (eName 0) aNil))) sNx) (sSeq (sIf (tAndM (tB (eOp eqD (eName 1) (rt (.str "e")))) (tB (eOp eqD (eName 0) (rt (.str "leg"))))) (sRet (eUn negD (rt (.int 1)))) sNx) (sRet (eCallQ g_tx_number (aCons (eName 0) aNil))))
noncomputable def g_tx_thing : Fn := fnM [false, false] 0 m_tx_thing
theorem okF_tx_thing {f : Addr} {fd : FuncData} (F : FunD K "tx_thing" "tx_thing" (defArgs s_tx_thing) (defBody s_tx_thing) (defScope s_tx_thing) [] [] f fd) (c_ra_read : Cal P w K mg base 2 "ra_read" 1 g_ra_read) (c_tx_number : Cal P w K mg base 2 "tx_number" 1 g_tx_number) : FnG P w K mg base 3 f fd ["word", "sort"] (spM K mg 2 g_tx_thing) :=
  fnG_M (nl := 0) (mask := [false, false]) (k := 2) F sc_tx_thing rfl rfl (fun cdv A outer s H E hg hr tk => have hu64 := hu64_of hr; have hu80 := hu80_of hr; have hu1 := hu_of hr; pssm_cons (psm_if (ptm_cmp (od_eq hu64) (pem_name 1) pem_str) (pssm_one (psm_ret (peo_of (pem_callQ c_ra_read hg (hr.mono (by decide)) tk (by rfl) (pam_cons (pem_name 0) pam_nil))))) pssm_nil) (pssm_cons (psm_if (ptm_of_pwm (pwm_and (ptm_cmp (od_eq hu64) (pem_name 1) pem_str) (pwm_and1 (ptm_cmp (od_eq hu64) (pem_name 0) pem_str)))) (pssm_one (psm_ret (peo_of (pem_un ud_neg pem_int)))) pssm_nil) (pssm_one (psm_ret (peo_of (pem_callQ c_tx_number hg (hr.mono (by decide)) tk (by rfl) (pam_cons (pem_name 0) pam_nil)))))))
theorem ok_tx_thing (F : Df K mg "tx_thing" s_tx_thing []) (c_ra_read : Cal P w K mg base 2 "ra_read" 1 g_ra_read) (c_tx_number : Cal P w K mg base 2 "tx_number" 1 g_tx_number) : Cal P w K mg base 3 "tx_thing" 2 g_tx_thing := by
  obtain ⟨f, fd, F, hm⟩ := F.ex
  exact .of (okF_tx_thing F c_ra_read c_tx_number) hm F.kp (F.bindsN fun _ _ _ _ _ _ us hl => match us, hl with | [_, _], _ => rfl) fnM_len
abbrev s_tx_things : Stmt := top 15
theorem sc_tx_things : FnScope ["words", "form", "found", "number", "sort", "thing"] ["words", "form"] (defScope s_tx_things) := ⟨rfl, rfl, rfl, by decide +kernel, rfl, by decide +kernel, by decide +kernel⟩
noncomputable def b_tx_things_1 : M Fl := sSeq (sSet 5 (eIf (tB (eOp ltD (eOp addD (eName 3) (rt (.int 1))) (eFn (f1 lenD) (aCons (eName 0) aNil)))) (eCallQ g_tx_thing (aCons (eOp ixD (eName 0) (eOp addD (eName 3) (rt (.int 1)))) (aCons (eName 4) aNil))) (rt .non))) (sSeq (sIf (tB (eOp isD (eName 5) (rt .non))) (sRet (eOp addD (eName 3) (rt (.int 2)))) sNx) (sApp 2 (eName 5)))
noncomputable def m_tx_things : M Fl := sSeq (sSet 2 (eOwn aNil)) (sSeq (sFor (iRng enumS (aCons (eName 1) aNil)) (tgTup 2 (tgCons (put 3) (tgCons (put 4) tgNil))) b_tx_things_1) (fzSl 2 (sRet (eIf (tB (eOp eqD (eFn (f1 lenD) (aCons (eName 0) aNil)) (eOp addD (eFn (f1 lenD) (aCons (eName 1) aNil)) (rt (.int 1))))) (eName 2) (eOp addD (eFn (f1 lenD) (aCons (eName 1) aNil)) (rt (.int 2)))))))
noncomputable def g_tx_things : Fn := fnM [false, false] 4 m_tx_things
theorem okF_tx_things {f : Addr} {fd : FuncData} (F : FunD K "tx_things" "tx_things" (defArgs s_tx_things) (defBody s_tx_things) (defScope s_tx_things) [] [] f fd) (c_tx_thing : Cal P w K mg base 3 "tx_thing" 2 g_tx_thing) (z_enumerate : mg "enumerate" = none) (z_len : mg "len" = none) : FnG P w K mg base 4 f fd ["words", "form"] (spM K mg 2 g_tx_things) :=
  fnG_M (nl := 4) (mask := [false, false]) (k := 3) F sc_tx_things rfl rfl (fun cdv A outer s H E hg hr tk => have hu64 := hu64_of hr; have hu80 := hu80_of hr; have hu1 := hu_of hr; pssm_cons (psm_set (i := 2) sc_tx_things.nd rfl (Or.inl rfl) (peo_lst pam_nil)) (pssm_cons (psm_for (passes_of rfl) rfl (pim_enumS (by rfl) z_enumerate (pam_cons (pem_name 1) pam_nil)) (ptg_tup rfl (ptgs_cons (ptg_name (i := 3) sc_tx_things.nd rfl (Or.inl rfl)) (ptgs_cons (ptg_name (i := 4) sc_tx_things.nd rfl (Or.inl rfl)) ptgs_nil))) (pssm_cons (psm_set (i := 5) sc_tx_things.nd rfl (Or.inl rfl) (peo_of (pem_if (ptm_cmp od_lt (pem_op od_add (pem_name 3) pem_int) (pem_callB cd_len (by rfl) z_len (by decide +kernel) (pam_cons (pem_name 0) pam_nil))) (pem_callQ c_tx_thing hg (hr.mono (by decide)) tk (by rfl) (pam_cons (pem_ix id_ix (pem_name 0) (pem_op od_add (pem_name 3) pem_int)) (pam_cons (pem_name 4) pam_nil))) pem_non))) (pssm_cons (psm_if (ptm_cmp od_is (pem_name 5) pem_non) (pssm_one (psm_ret (peo_of (pem_op od_add (pem_name 3) pem_int)))) pssm_nil) (pssm_one (psm_append (i := 2) (pem_name 5) rfl)))) (hok := tgTup_ok (tgCons_ok put_ok (tgCons_ok put_ok tgNil_ok)))) (pssm_fz 2 (pssm_one (psm_ret (peo_of (pem_if (ptm_cmp (od_eq hu64) (pem_callB cd_len (by rfl) z_len (by decide +kernel) (pam_cons (pem_name 0) pam_nil)) (pem_op od_add (pem_callB cd_len (by rfl) z_len (by decide +kernel) (pam_cons (pem_name 1) pam_nil)) pem_int)) (pem_name 2) (pem_op od_add (pem_callB cd_len (by rfl) z_len (by decide +kernel) (pam_cons (pem_name 1) pam_nil)) pem_int))))))))
theorem ok_tx_things (F : Df K mg "tx_things" s_tx_things []) (c_tx_thing : Cal P w K mg base 3 "tx_thing" 2 g_tx_thing) (z_enumerate : mg "enumerate" = none) (z_len : mg "len" = none) : Cal P w K mg base 4 "tx_things" 2 g_tx_things := by
  obtain ⟨f, fd, F, hm⟩ := F.ex
  exact .of (okF_tx_things F c_tx_thing z_enumerate z_len) hm F.kp (F.bindsN fun _ _ _ _ _ _ us hl => match us, hl with | [_, _], _ => rfl) fnM_len
abbrev s_tx_grouped : Stmt := top 16
theorem sc_tx_grouped : FnScope ["things", "form", "found", "at", "sort"] ["things", "form"] (defScope s_tx_grouped) := ⟨rfl, rfl, rfl, by decide +kernel, rfl, by decide +kernel, by decide +kernel⟩
noncomputable def b_tx_grouped_1 : M Fl := sIf (tB (eOp eqD (eName 4) (rt (.str "c")))) (sSeq (sApp 2 (eFn gTup (aCons (eOp ixD (eName 0) (eName 3)) (aCons (eOp ixD (eName 0) (eOp addD (eName 3) (rt (.int 1)))) aNil)))) (augI 3 2)) (sSeq (sApp 2 (eOp ixD (eName 0) (eName 3))) (augI 3 1))
noncomputable def m_tx_grouped : M Fl := sSeq (bnd (aCons (eOwn aNil) (aCons (rt (.int 0)) aNil)) (putP 2 3)) (sSeq (sFor (iChars (eName 1)) (put 4) b_tx_grouped_1) (fzSl 2 (sRet (eFn (f1 tupleD) (aCons (eName 2) aNil)))))
noncomputable def g_tx_grouped : Fn := fnM [false, false] 3 m_tx_grouped
theorem okF_tx_grouped {f : Addr} {fd : FuncData} (F : FunD K "tx_grouped" "tx_grouped" (defArgs s_tx_grouped) (defBody s_tx_grouped) (defScope s_tx_grouped) [] [] f fd) (z_tuple : mg "tuple" = none) : FnG P w K mg base 1 f fd ["things", "form"] (spM K mg 2 g_tx_grouped) :=
  fnG_M (nl := 3) (mask := [false, false]) (k := 0) F sc_tx_grouped rfl rfl (fun cdv A outer s H E hg hr tk => have hu64 := hu64_of hr; have hu80 := hu80_of hr; have hu1 := hu_of hr; pssm_cons (psm_parO (i := 2) (j := 3) rfl sc_tx_grouped.nd rfl rfl rfl rfl (pao_cons (peo_lst pam_nil) (pao_cons (peo_of pem_int) pao_nil))) (pssm_cons (psm_for (passes_of rfl) rfl (pim_str (pem_name 1)) (ptg_name (i := 4) sc_tx_grouped.nd rfl (Or.inl rfl)) (pssm_one (psm_if (ptm_cmp (od_eq hu64) (pem_name 4) pem_str) (pssm_cons (psm_append (i := 2) (pem_tup (pam_cons (pem_ix id_ix (pem_name 0) (pem_name 3)) (pam_cons (pem_ix id_ix (pem_name 0) (pem_op od_add (pem_name 3) pem_int)) pam_nil))) rfl) (pssm_one (psm_augI (i := 3) sc_tx_grouped.nd rfl (Or.inl rfl)))) (pssm_cons (psm_append (i := 2) (pem_ix id_ix (pem_name 0) (pem_name 3)) rfl) (pssm_one (psm_augI (i := 3) sc_tx_grouped.nd rfl (Or.inl rfl)))))) (hok := put_ok)) (pssm_fz 2 (pssm_one (psm_ret (peo_of (pem_callTy cd_tuple (by rfl) z_tuple (by decide +kernel) (pam_cons (pem_name 2) pam_nil))))))))
theorem ok_tx_grouped (F : Df K mg "tx_grouped" s_tx_grouped []) (z_tuple : mg "tuple" = none) : Cal P w K mg base 1 "tx_grouped" 2 g_tx_grouped := by
  obtain ⟨f, fd, F, hm⟩ := F.ex
  exact .of (okF_tx_grouped F z_tuple) hm F.kp (F.bindsN fun _ _ _ _ _ _ us hl => match us, hl with | [_, _], _ => rfl) fnM_len
abbrev s_read_step : Stmt := top 17
theorem sc_read_step : FnScope ["text", "words", "form", "things"] ["text"] (defScope s_read_step) := ⟨rfl, rfl, rfl, by decide +kernel, rfl, by decide +kernel, by decide +kernel⟩
noncomputable def m_read_step : M Fl := sSeq (sIf (tNotM (tB (eFn (f2 isiD) (aCons (eName 0) (aCons (rt (.ty "str")) aNil))))) (raiseF "BadRow" ["row", "word"] (aCons (rt (.int 0)) (aCons (rt (.int 0)) aNil))) sNx) (sSeq (sSet 1 (eUn (splitD " ") (eName 0))) (sSeq (sSet 2 (eCallQ g_form_of (aCons (eOp ixD (eName 1) (rt (.int 0))) aNil))) (sSeq (sIf (tB (eOp inB (rt (.str "")) (eName 1))) (raiseF "BadRow" ["row", "word"] (aCons (rt (.int 1)) (aCons (rt (.int 0)) aNil))) sNx) (sSeq (sIf (tB (eOp isD (eName 2) (rt .non))) (raiseF "BadRow" ["row", "word"] (aCons (rt (.int 1)) (aCons (rt (.int 1)) aNil))) sNx) (sSeq (sSet 3 (eCallQ g_tx_things (aCons (eName 1) (aCons (eUn (replD "c" "nn") (eName 2)) aNil)))) (sSeq (sIf (tNotM (tB (eFn (f2 isiD) (aCons (eName 3) (aCons (rt (.ty "list")) aNil))))) (raiseF "BadRow" ["row", "word"] (aCons (rt (.int 1)) (aCons (eName 3) aNil))) sNx) (sRet (eOp addD (eFn gTup (aCons (eOp ixD (eName 1) (rt (.int 0))) aNil)) (eCallQ g_tx_grouped (aCons (eName 3) (aCons (eName 2) aNil)))))))))))
noncomputable def g_read_step : Fn := fnM [false] 3 m_read_step
theorem okF_read_step {f : Addr} {fd : FuncData} (F : FunD K "read_step" "read_step" (defArgs s_read_step) (defBody s_read_step) (defScope s_read_step) [] [] f fd) (c_form_of : Cal P w K mg base 1 "form_of" 1 g_form_of) (c_tx_things : Cal P w K mg base 4 "tx_things" 2 g_tx_things) (c_tx_grouped : Cal P w K mg base 1 "tx_grouped" 2 g_tx_grouped) (z_isinstance : mg "isinstance" = none) (z_list : mg "list" = none) (z_str : mg "str" = none) (x_BadRow : Xf P K mg "BadRow" ["row", "word"]) : FnG P w K mg base 5 f fd ["text"] (spM K mg 1 g_read_step) :=
  fnG_M (nl := 3) (mask := [false]) (k := 4) F sc_read_step rfl rfl (fun cdv A outer s H E hg hr tk => have hu64 := hu64_of hr; have hu80 := hu80_of hr; have hu1 := hu_of hr; pssm_cons (psm_if (ptm_not (ptm_val (pem_callB cd_isi (by rfl) z_isinstance (by decide +kernel) (pam_cons (pem_name 0) (pam_cons (pem_ty (by rfl) z_str (by decide +kernel)) pam_nil))))) (pssm_one (psm_raiseF x_BadRow rfl tk hr (by rfl) (pam_cons pem_int (pam_cons pem_int pam_nil)))) pssm_nil) (pssm_cons (psm_set (i := 1) sc_read_step.nd rfl (Or.inl rfl) (peo_of (pem_split (pem_name 0)))) (pssm_cons (psm_set (i := 2) sc_read_step.nd rfl (Or.inl rfl) (peo_of (pem_callQ c_form_of hg (hr.mono (by decide)) tk (by rfl) (pam_cons (pem_ix id_ix (pem_name 1) pem_int) pam_nil)))) (pssm_tok od_in (pem_name 1) (pssm_one (psm_raiseF x_BadRow rfl tk hr (by rfl) (pam_cons pem_int (pam_cons pem_int pam_nil)))) pssm_nil (psstm_cons (pstm_of (psm_if (ptm_cmp od_is (pem_name 2) pem_non) (pssm_one (psm_raiseF x_BadRow rfl tk hr (by rfl) (pam_cons pem_int (pam_cons pem_int pam_nil)))) pssm_nil)) (psstm_cons (pstm_set (i := 3) sc_read_step.nd rfl (Or.inl rfl) (petm_callQ c_tx_things hg (hr.mono (by decide)) tk (by rfl) (patm_cons (petm_of (pem_name 1)) (patm_cons (petm_repl (pem_name 2)) patm_nil)))) (psstm_of (pssm_cons (psm_if (ptm_not (ptm_val (pem_callB cd_isi (by rfl) z_isinstance (by decide +kernel) (pam_cons (pem_name 3) (pam_cons (pem_ty (by rfl) z_list (by decide +kernel)) pam_nil))))) (pssm_one (psm_raiseF x_BadRow rfl tk hr (by rfl) (pam_cons pem_int (pam_cons (pem_name 3) pam_nil)))) pssm_nil) (pssm_one (psm_ret (peo_of (pem_op od_add (pem_tup (pam_cons (pem_ix id_ix (pem_name 1) pem_int) pam_nil)) (pem_callQ c_tx_grouped hg (hr.mono (by decide)) tk (by rfl) (pam_cons (pem_name 3) (pam_cons (pem_name 2) pam_nil)))))))))))))))
theorem ok_read_step (F : Df K mg "read_step" s_read_step []) (c_form_of : Cal P w K mg base 1 "form_of" 1 g_form_of) (c_tx_things : Cal P w K mg base 4 "tx_things" 2 g_tx_things) (c_tx_grouped : Cal P w K mg base 1 "tx_grouped" 2 g_tx_grouped) (z_isinstance : mg "isinstance" = none) (z_list : mg "list" = none) (z_str : mg "str" = none) (x_BadRow : Xf P K mg "BadRow" ["row", "word"]) : Cal P w K mg base 5 "read_step" 1 g_read_step := by
  obtain ⟨f, fd, F, hm⟩ := F.ex
  exact .of (okF_read_step F c_form_of c_tx_things c_tx_grouped z_isinstance z_list z_str x_BadRow) hm F.kp (F.bindsN fun _ _ _ _ _ _ us hl => match us, hl with | [_], _ => rfl) fnM_len
abbrev s_law_outcome : Stmt := top 30
theorem sc_law_outcome : FnScope ["thing", "found", "e"] ["thing"] (defScope s_law_outcome) := ⟨rfl, rfl, rfl, by decide +kernel, rfl, by decide +kernel, by decide +kernel⟩
noncomputable def b_law_outcome_1 : Addr → Addr → M Fl := fun a d => sSet 1 (eFn gTup (aCons (eXf 2 a d "row") (aCons (eXf 2 a d "word") aNil)))
noncomputable def b_law_outcome_2 : M Fl := sSet 1 (eFn gLst (aCons (eCallQ g_read_step (aCons (eName 0) aNil)) aNil))
noncomputable def m_law_outcome : M Fl := sSeq (sSet 1 (rt (.str "begun"))) (sSeq (tryA "BadRow" 2 [] b_law_outcome_2 b_law_outcome_1) (sRet (eName 1)))
noncomputable def g_law_outcome : Fn := fnM [false] 2 m_law_outcome
theorem okF_law_outcome {f : Addr} {fd : FuncData} (F : FunD K "_law_outcome" "_law_outcome" (defArgs s_law_outcome) (defBody s_law_outcome) (defScope s_law_outcome) [] [] f fd) (c_read_step : Cal P w K mg base 5 "read_step" 1 g_read_step) (x_BadRow : Xf P K mg "BadRow" ["row", "word"]) : FnG P w K mg base 6 f fd ["thing"] (spM K mg 1 g_law_outcome) :=
  fnG_M (nl := 2) (mask := [false]) (k := 5) F sc_law_outcome rfl rfl (fun cdv A outer s H E hg hr tk => have hu64 := hu64_of hr; have hu80 := hu80_of hr; have hu1 := hu_of hr; pssm_cons (psm_set (i := 1) sc_law_outcome.nd rfl (Or.inl rfl) (peo_of pem_str)) (pssm_cons (psm_tryF (i := 2) x_BadRow rfl rfl sc_law_outcome.nd rfl rfl (by rfl) tk rfl (fun W1 pn xe tk hp => pssm_one (psm_set (i := 1) sc_law_outcome.nd rfl (Or.inl rfl) (peo_of (pem_lst (pam_cons (pem_callQ c_read_step hg (hr.mono (by decide)) tk (by rfl) (pam_cons (pem_name 0) pam_nil)) pam_nil))))) (fun C a d oe pn hmC hz hdat => pssm_one (psm_set (i := 1) sc_law_outcome.nd rfl (Or.inl rfl) (peo_of (pem_tup (pam_cons (pem_xf (i := 2) x_BadRow hmC (by decide) hz hdat (pe_var (i := 2) rfl (Or.inl rfl) (by decide) (by decide))) (pam_cons (pem_xf (i := 2) x_BadRow hmC (by decide) hz hdat (pe_var (i := 2) rfl (Or.inl rfl) (by decide) (by decide))) pam_nil))))))) (pssm_one (psm_ret (peo_of (pem_name 1))))))
theorem ok_law_outcome (F : Df K mg "_law_outcome" s_law_outcome []) (c_read_step : Cal P w K mg base 5 "read_step" 1 g_read_step) (x_BadRow : Xf P K mg "BadRow" ["row", "word"]) : Cal P w K mg base 6 "_law_outcome" 1 g_law_outcome := by
  obtain ⟨f, fd, F, hm⟩ := F.ex
  exact .of (okF_law_outcome F c_read_step x_BadRow) hm F.kp (F.bindsN fun _ _ _ _ _ _ us hl => match us, hl with | [_], _ => rfl) fnM_len
abbrev s_law_forms : Stmt := top 25
theorem sc_law_forms : FnScope ["found"] [] (defScope s_law_forms) := ⟨rfl, rfl, rfl, by decide +kernel, rfl, by decide +kernel, by decide +kernel⟩
noncomputable def m_law_forms : M Fl := sSeq (sSet 0 (rt (dkS true [("scale", "nw"), ("sum", "nn"), ("drop", "n"), ("contract", "n"), ("split", "nnn"), ("square", "n"), ("weight", "nw")]))) (sSeq (dputS 0 "edge" "ccw") (sSeq (dputS 0 "without" "n") (sSeq (dputS 0 "leg" "c") (sSeq (dputS 0 "unleg" "n") (fzSl 0 (sRet (eName 0)))))))
noncomputable def g_law_forms : Fn := fnM [] 1 m_law_forms
theorem okF_law_forms {f : Addr} {fd : FuncData} (F : FunD K "_law_forms" "_law_forms" (defArgs s_law_forms) (defBody s_law_forms) (defScope s_law_forms) [] [] f fd) : FnG P w K mg base 1 f fd [] (spM K mg 0 g_law_forms) :=
  fnG_M (nl := 1) (mask := []) (k := 0) F sc_law_forms rfl rfl (fun cdv A outer s H E hg hr tk => have hu64 := hu64_of hr; have hu80 := hu80_of hr; have hu1 := hu_of hr; pssm_cons (psm_set (i := 0) sc_law_forms.nd rfl (Or.inl rfl) (peo_dictS (.cons (.cons (.cons (.cons (.cons (.cons (.cons .nil))))))) (by decide) (by rfl) (by rfl) (by simp) (by decide) (by decide))) (pssm_cons (psm_dputS (i := 0) hu1 rfl) (pssm_cons (psm_dputS (i := 0) hu1 rfl) (pssm_cons (psm_dputS (i := 0) hu1 rfl) (pssm_cons (psm_dputS (i := 0) hu1 rfl) (pssm_fz 0 (pssm_one (psm_ret (peo_of (pem_name 0))))))))))
theorem ok_law_forms (F : Df K mg "_law_forms" s_law_forms []) : Cal P w K mg base 1 "_law_forms" 0 g_law_forms := by
  obtain ⟨f, fd, F, hm⟩ := F.ex
  exact .of (okF_law_forms F ) hm F.kp (F.bindsN fun _ _ _ _ _ _ us hl => match us, hl with | [], _ => rfl) fnM_len
abbrev s_law_word : Stmt := top 24
theorem sc_law_word : FnScope ["number"] ["number"] (defScope s_law_word) := ⟨rfl, rfl, rfl, by decide +kernel, rfl, by decide +kernel, by decide +kernel⟩
noncomputable def m_law_word : M Fl := sRet (eIf (tB (eOp eqD (eOp ixD (eName 0) (rt (.int 1))) (rt (.int 1)))) (eFn (f1 strD) (aCons (eOp ixD (eName 0) (rt (.int 0))) aNil)) (eOp addD (eOp addD (eFn (f1 strD) (aCons (eOp ixD (eName 0) (rt (.int 0))) aNil)) (rt (.str "/"))) (eFn (f1 strD) (aCons (eOp ixD (eName 0) (rt (.int 1))) aNil))))
noncomputable def g_law_word : Fn := fnM [false] 0 m_law_word
theorem okF_law_word {f : Addr} {fd : FuncData} (F : FunD K "_law_word" "_law_word" (defArgs s_law_word) (defBody s_law_word) (defScope s_law_word) [] [] f fd) (z_str : mg "str" = none) : FnG P w K mg base 1 f fd ["number"] (spM K mg 1 g_law_word) :=
  fnG_M (nl := 0) (mask := [false]) (k := 0) F sc_law_word rfl rfl (fun cdv A outer s H E hg hr tk => have hu64 := hu64_of hr; have hu80 := hu80_of hr; have hu1 := hu_of hr; pssm_one (psm_ret (peo_of (pem_if (ptm_cmp (od_eq hu64) (pem_ix id_ix (pem_name 0) pem_int) pem_int) (pem_callTy cd_str (by rfl) z_str (by decide +kernel) (pam_cons (pem_ix id_ix (pem_name 0) pem_int) pam_nil)) (pem_op od_add (pem_op od_add (pem_callTy cd_str (by rfl) z_str (by decide +kernel) (pam_cons (pem_ix id_ix (pem_name 0) pem_int) pam_nil)) pem_str) (pem_callTy cd_str (by rfl) z_str (by decide +kernel) (pam_cons (pem_ix id_ix (pem_name 0) pem_int) pam_nil)))))))
theorem ok_law_word (F : Df K mg "_law_word" s_law_word []) (z_str : mg "str" = none) : Cal P w K mg base 1 "_law_word" 1 g_law_word := by
  obtain ⟨f, fd, F, hm⟩ := F.ex
  exact .of (okF_law_word F z_str) hm F.kp (F.bindsN fun _ _ _ _ _ _ us hl => match us, hl with | [_], _ => rfl) fnM_len
abbrev s_law_step_text : Stmt := top 28
theorem sc_law_step_text : FnScope ["step", "words", "part", "form"] ["step"] (defScope s_law_step_text) := ⟨rfl, rfl, rfl, by decide +kernel, rfl, by decide +kernel, by decide +kernel⟩
noncomputable def b_law_step_text_1 : M Fl := sIf (tB (eOp eqD (eName 3) (rt (.str "c")))) (sSet 1 (eCatO 1 (eFn gLst (aCons (eFn (f1 strD) (aCons (eOp ixD (eName 2) (rt (.int 0))) aNil)) (aCons (eFn (f1 strD) (aCons (eOp ixD (eName 2) (rt (.int 1))) aNil)) aNil))))) (sApp 1 (eIf (tB (eOp eqD (eName 3) (rt (.str "w")))) (eCallQ g_law_word (aCons (eName 2) aNil)) (eFn (f1 strD) (aCons (eName 2) aNil))))
noncomputable def m_law_step_text : M Fl := sSeq (sSet 1 (eOwn (aCons (eOp ixD (eName 0) (rt (.int 0))) aNil))) (sSeq (sFor (iRng zipS (aCons (eSl (eName 0) (eI (rt (.int 1))) (rt none)) (aCons (eOp dixD (eCall0 g_law_forms) (eOp ixD (eName 0) (rt (.int 0)))) aNil))) (tgTup 2 (tgCons (put 2) (tgCons (put 3) tgNil))) b_law_step_text_1) (fzSl 1 (sRet (eUn (joinD " ") (eName 1)))))
noncomputable def g_law_step_text : Fn := fnM [false] 3 m_law_step_text
theorem okF_law_step_text {f : Addr} {fd : FuncData} (F : FunD K "_law_step_text" "_law_step_text" (defArgs s_law_step_text) (defBody s_law_step_text) (defScope s_law_step_text) [] [] f fd) (c_law_forms : Cal P w K mg base 1 "_law_forms" 0 g_law_forms) (c_law_word : Cal P w K mg base 1 "_law_word" 1 g_law_word) (z_str : mg "str" = none) (z_zip : mg "zip" = none) : FnG P w K mg base 2 f fd ["step"] (spM K mg 1 g_law_step_text) :=
  fnG_M (nl := 3) (mask := [false]) (k := 1) F sc_law_step_text rfl rfl (fun cdv A outer s H E hg hr tk => have hu64 := hu64_of hr; have hu80 := hu80_of hr; have hu1 := hu_of hr; pssm_cons (psm_set (i := 1) sc_law_step_text.nd rfl (Or.inl rfl) (peo_lst (pam_cons (pem_ix id_ix (pem_name 0) pem_int) pam_nil))) (pssm_cons (psm_for (passes_of rfl) rfl (pim_zipS (by rfl) z_zip (pam_cons (pem_slice (pem_name 0) (pom_some pem_int) pom_none) (pam_cons (pem_dix hu1 (pem_call0 c_law_forms hg (hr.mono (by decide)) tk (by rfl)) (pem_ix id_ix (pem_name 0) pem_int)) pam_nil))) (ptg_tup rfl (ptgs_cons (ptg_name (i := 2) sc_law_step_text.nd rfl (Or.inl rfl)) (ptgs_cons (ptg_name (i := 3) sc_law_step_text.nd rfl (Or.inl rfl)) ptgs_nil))) (pssm_one (psm_if (ptm_cmp (od_eq hu64) (pem_name 3) pem_str) (pssm_one (psm_set (i := 1) sc_law_step_text.nd rfl (Or.inl rfl) (peo_catO (i := 1) (pem_lst (pam_cons (pem_callTy cd_str (by rfl) z_str (by decide +kernel) (pam_cons (pem_ix id_ix (pem_name 2) pem_int) pam_nil)) (pam_cons (pem_callTy cd_str (by rfl) z_str (by decide +kernel) (pam_cons (pem_ix id_ix (pem_name 2) pem_int) pam_nil)) pam_nil)))))) (pssm_one (psm_append (i := 1) (pem_if (ptm_cmp (od_eq hu64) (pem_name 3) pem_str) (pem_callQ c_law_word hg (hr.mono (by decide)) tk (by rfl) (pam_cons (pem_name 2) pam_nil)) (pem_callTy cd_str (by rfl) z_str (by decide +kernel) (pam_cons (pem_name 2) pam_nil))) rfl)))) (hok := tgTup_ok (tgCons_ok put_ok (tgCons_ok put_ok tgNil_ok)))) (pssm_fz 1 (pssm_one (psm_ret (peo_of (pem_join (pem_name 1))))))))
theorem ok_law_step_text (F : Df K mg "_law_step_text" s_law_step_text []) (c_law_forms : Cal P w K mg base 1 "_law_forms" 0 g_law_forms) (c_law_word : Cal P w K mg base 1 "_law_word" 1 g_law_word) (z_str : mg "str" = none) (z_zip : mg "zip" = none) : Cal P w K mg base 2 "_law_step_text" 1 g_law_step_text := by
  obtain ⟨f, fd, F, hm⟩ := F.ex
  exact .of (okF_law_step_text F c_law_forms c_law_word z_str z_zip) hm F.kp (F.bindsN fun _ _ _ _ _ _ us hl => match us, hl with | [_], _ => rfl) fnM_len
abbrev s_law_divisor : Stmt := top 21
theorem sc_law_divisor : FnScope ["one", "other"] ["one", "other"] (defScope s_law_divisor) := ⟨rfl, rfl, rfl, by decide +kernel, rfl, by decide +kernel, by decide +kernel⟩
noncomputable def b_law_divisor_1 : M Fl := bnd (aCons (eName 1) (aCons (eOp modD (eFn (f1 intD) (aCons (eName 0) aNil)) (eName 1)) aNil)) (putP 0 1)
noncomputable def m_law_divisor : M Fl := sSeq (bnd (aCons (eFn (f1 absD) (aCons (eName 0) aNil)) (aCons (eFn (f1 absD) (aCons (eName 1) aNil)) aNil)) (putP 0 1)) (sSeq (whileM (tB (eOp neD (eName 1) (rt (.int 0)))) b_law_divisor_1 big) (sRet (eName 0)))
noncomputable def g_law_divisor : Fn := fnM [false, false] 0 m_law_divisor
theorem okF_law_divisor {f : Addr} {fd : FuncData} (F : FunD K "_law_divisor" "_law_divisor" (defArgs s_law_divisor) (defBody s_law_divisor) (defScope s_law_divisor) [] [] f fd) (z_abs : mg "abs" = none) (z_int : mg "int" = none) : FnG P w K mg base 1 f fd ["one", "other"] (spM K mg 2 g_law_divisor) :=
  fnG_M (nl := 0) (mask := [false, false]) (k := 0) F sc_law_divisor rfl rfl (fun cdv A outer s H E hg hr tk => have hu64 := hu64_of hr; have hu80 := hu80_of hr; have hu1 := hu_of hr; pssm_cons (psm_par (i := 0) (j := 1) rfl sc_law_divisor.nd rfl rfl rfl rfl (pam_cons (pem_callB cd_abs (by rfl) z_abs (by decide +kernel) (pam_cons (pem_name 0) pam_nil)) (pam_cons (pem_callB cd_abs (by rfl) z_abs (by decide +kernel) (pam_cons (pem_name 1) pam_nil)) pam_nil))) (pssm_cons (psm_while big (passes_of rfl) (ptm_cmp (od_ne hu64) (pem_name 1) pem_int) (pssm_one (psm_par (i := 0) (j := 1) rfl sc_law_divisor.nd rfl rfl rfl rfl (pam_cons (pem_name 1) (pam_cons (pem_op od_mod (pem_callTy cd_int (by rfl) z_int (by decide +kernel) (pam_cons (pem_name 0) pam_nil)) (pem_name 1)) pam_nil))))) (pssm_one (psm_ret (peo_of (pem_name 0))))))
theorem ok_law_divisor (F : Df K mg "_law_divisor" s_law_divisor []) (z_abs : mg "abs" = none) (z_int : mg "int" = none) : Cal P w K mg base 1 "_law_divisor" 2 g_law_divisor := by
  obtain ⟨f, fd, F, hm⟩ := F.ex
  exact .of (okF_law_divisor F z_abs z_int) hm F.kp (F.bindsN fun _ _ _ _ _ _ us hl => match us, hl with | [_, _], _ => rfl) fnM_len
abbrev s_law_pair : Stmt := top 22
theorem sc_law_pair : FnScope ["top", "bottom", "divisor"] ["top", "bottom"] (defScope s_law_pair) := ⟨rfl, rfl, rfl, by decide +kernel, rfl, by decide +kernel, by decide +kernel⟩
noncomputable def m_law_pair : M Fl := sSeq (sSet 2 (eCallQ g_law_divisor (aCons (eName 0) (aCons (eName 1) aNil)))) (sSeq (sIf (tB (eOp ltD (eName 1) (rt (.int 0)))) (sSet 2 (eUn negD (eName 2))) sNx) (sRet (eFn gTup (aCons (eOp fdivD (eName 0) (eName 2)) (aCons (eOp fdivD (eName 1) (eName 2)) aNil)))))
noncomputable def g_law_pair : Fn := fnM [false, false] 1 m_law_pair
theorem okF_law_pair {f : Addr} {fd : FuncData} (F : FunD K "_law_pair" "_law_pair" (defArgs s_law_pair) (defBody s_law_pair) (defScope s_law_pair) [] [] f fd) (c_law_divisor : Cal P w K mg base 1 "_law_divisor" 2 g_law_divisor) : FnG P w K mg base 2 f fd ["top", "bottom"] (spM K mg 2 g_law_pair) :=
  fnG_M (nl := 1) (mask := [false, false]) (k := 1) F sc_law_pair rfl rfl (fun cdv A outer s H E hg hr tk => have hu64 := hu64_of hr; have hu80 := hu80_of hr; have hu1 := hu_of hr; pssm_cons (psm_set (i := 2) sc_law_pair.nd rfl (Or.inl rfl) (peo_of (pem_callQ c_law_divisor hg (hr.mono (by decide)) tk (by rfl) (pam_cons (pem_name 0) (pam_cons (pem_name 1) pam_nil))))) (pssm_cons (psm_if (ptm_cmp od_lt (pem_name 1) pem_int) (pssm_one (psm_set (i := 2) sc_law_pair.nd rfl (Or.inl rfl) (peo_of (pem_un ud_neg (pem_name 2))))) pssm_nil) (pssm_one (psm_ret (peo_of (pem_tup (pam_cons (pem_op od_fdiv (pem_name 0) (pem_name 2)) (pam_cons (pem_op od_fdiv (pem_name 1) (pem_name 2)) pam_nil))))))))
theorem ok_law_pair (F : Df K mg "_law_pair" s_law_pair []) (c_law_divisor : Cal P w K mg base 1 "_law_divisor" 2 g_law_divisor) : Cal P w K mg base 2 "_law_pair" 2 g_law_pair := by
  obtain ⟨f, fd, F, hm⟩ := F.ex
  exact .of (okF_law_pair F c_law_divisor) hm F.kp (F.bindsN fun _ _ _ _ _ _ us hl => match us, hl with | [_, _], _ => rfl) fnM_len
abbrev s_law_weight : Stmt := top 23
theorem sc_law_weight : FnScope ["m", "way"] ["m"] (defScope s_law_weight) := ⟨rfl, rfl, rfl, by decide +kernel, rfl, by decide +kernel, by decide +kernel⟩
noncomputable def m_law_weight : M Fl := sSeq (sSet 1 (eFz (eCall g_law_next (gSl 0 (gV (rt (.int 8)) gNil))))) (sSeq (sIf (tB (eOp ltD (eName 1) (rt (.int 3)))) (sRet (eFn gTup (aCons (eOp subD (eName 1) (rt (.int 1))) (aCons (rt (.int 1)) aNil)))) sNx) (sSeq (sIf (tB (eOp eqD (eName 1) (rt (.int 3)))) (sRet (eCallQ g_law_pair (aCons (eOp subD (eFz (eCall g_law_next (gSl 0 (gV (eOp powD (rt (.int 10)) (rt (.int 30))) gNil)))) (eOp powD (rt (.int 10)) (rt (.int 20)))) (aCons (eOp addD (rt (.int 1)) (eFz (eCall g_law_next (gSl 0 (gV (eOp powD (rt (.int 10)) (rt (.int 9))) gNil))))) aNil)))) sNx) (sRet (eCallQ g_law_pair (aCons (eOp subD (eFz (eCall g_law_next (gSl 0 (gV (rt (.int 19)) gNil)))) (rt (.int 9))) (aCons (eOp addD (rt (.int 1)) (eFz (eCall g_law_next (gSl 0 (gV (rt (.int 7)) gNil))))) aNil))))))
noncomputable def g_law_weight : Fn := fnM [true] 1 m_law_weight
theorem okF_law_weight {f : Addr} {fd : FuncData} (F : FunD K "_law_weight" "_law_weight" (defArgs s_law_weight) (defBody s_law_weight) (defScope s_law_weight) [] [] f fd) (c_law_next : Cal P w K mg base 1 "_law_next" 2 g_law_next) (c_law_pair : Cal P w K mg base 2 "_law_pair" 2 g_law_pair) : FnG P w K mg base 3 f fd ["m"] (spM K mg 1 g_law_weight) :=
  fnG_M (nl := 1) (mask := [true]) (k := 2) F sc_law_weight rfl rfl (fun cdv A outer s H E hg hr tk => have hu64 := hu64_of hr; have hu80 := hu80_of hr; have hu1 := hu_of hr; pssm_cons (psm_set (i := 1) sc_law_weight.nd rfl (Or.inl rfl) (peo_of (pem_fz (peo_call c_law_next hg (hr.mono (by decide)) tk (by rfl) (pgm_s 0 (pgm_v pem_int pgm_nil)))))) (pssm_cons (psm_if (ptm_cmp od_lt (pem_name 1) pem_int) (pssm_one (psm_ret (peo_of (pem_tup (pam_cons (pem_op od_sub (pem_name 1) pem_int) (pam_cons pem_int pam_nil)))))) pssm_nil) (pssm_cons (psm_if (ptm_cmp (od_eq hu64) (pem_name 1) pem_int) (pssm_one (psm_ret (peo_of (pem_callQ c_law_pair hg (hr.mono (by decide)) tk (by rfl) (pam_cons (pem_op od_sub (pem_fz (peo_call c_law_next hg (hr.mono (by decide)) tk (by rfl) (pgm_s 0 (pgm_v (pem_op od_pow pem_int pem_int) pgm_nil)))) (pem_op od_pow pem_int pem_int)) (pam_cons (pem_op od_add pem_int (pem_fz (peo_call c_law_next hg (hr.mono (by decide)) tk (by rfl) (pgm_s 0 (pgm_v (pem_op od_pow pem_int pem_int) pgm_nil))))) pam_nil)))))) pssm_nil) (pssm_one (psm_ret (peo_of (pem_callQ c_law_pair hg (hr.mono (by decide)) tk (by rfl) (pam_cons (pem_op od_sub (pem_fz (peo_call c_law_next hg (hr.mono (by decide)) tk (by rfl) (pgm_s 0 (pgm_v pem_int pgm_nil)))) pem_int) (pam_cons (pem_op od_add pem_int (pem_fz (peo_call c_law_next hg (hr.mono (by decide)) tk (by rfl) (pgm_s 0 (pgm_v pem_int pgm_nil))))) pam_nil)))))))))
theorem ok_law_weight (F : Df K mg "_law_weight" s_law_weight []) (c_law_next : Cal P w K mg base 1 "_law_next" 2 g_law_next) (c_law_pair : Cal P w K mg base 2 "_law_pair" 2 g_law_pair) : Cal P w K mg base 3 "_law_weight" 1 g_law_weight := by
  obtain ⟨f, fd, F, hm⟩ := F.ex
  exact .of (okF_law_weight F c_law_next c_law_pair) hm F.kp (F.bindsN fun _ _ _ _ _ _ us hl => match us, hl with | [_], _ => rfl) fnM_len
abbrev s_law_part : Stmt := top 26
theorem sc_law_part : FnScope ["m", "form"] ["m", "form"] (defScope s_law_part) := ⟨rfl, rfl, rfl, by decide +kernel, rfl, by decide +kernel, by decide +kernel⟩
noncomputable def m_law_part (gr : Fn) : M Fl := sSeq (sIf (tB (eOp eqD (eName 1) (rt (.str "w")))) (sRet (eFz (eCall g_law_weight (gSl 0 gNil)))) sNx) (sSeq (sIf (tB (eOp eqD (eName 1) (rt (.str "c")))) (sRet (eFn gTup (aCons (eFz (eCall gr (gSl 0 (gV (rt (.str "n")) gNil)))) (aCons (eFz (eCall gr (gSl 0 (gV (rt (.str "n")) gNil)))) aNil)))) sNx) (sRet (eOp ixD (eFn gLst (aCons (eFz (eCall g_law_next (gSl 0 (gV (rt (.int 10)) gNil)))) (aCons (eFz (eCall g_law_next (gSl 0 (gV (rt (.int 1000)) gNil)))) (aCons (rt (.int 0)) (aCons (rt (.int 999)) aNil))))) (eFz (eCall g_law_next (gSl 0 (gV (rt (.int 4)) gNil)))))))
noncomputable def gf_law_part : Nat → Fn
  | 0 => fnM [true, false] 0 (fun _ => none)
  | j + 1 => fnM [true, false] 0 (m_law_part (gf_law_part j))
noncomputable def g_law_part : Fn := gf_law_part 2
theorem okR_law_part {f : Addr} {fd : FuncData} (F : FunD K "_law_part" "_law_part" (defArgs s_law_part) (defBody s_law_part) (defScope s_law_part) [] [] f fd) (c_law_weight : Cal P w K mg base 3 "_law_weight" 1 g_law_weight) (c_law_next : Cal P w K mg base 1 "_law_next" 2 g_law_next) {gr : Fn} {l : Nat} (hL : 3 ≤ l) (cr : Cal P w K mg base l "_law_part" 2 gr) : FnG P w K mg base (l + 1) f fd ["m", "form"] (spM K mg 2 (fnM [true, false] 0 (m_law_part gr))) :=
  fnG_M (nl := 0) (mask := [true, false]) (k := l) F sc_law_part rfl rfl (fun cdv A outer s H E hg hr tk => have hu64 := hu64_of hr; have hu80 := hu80_of hr; have hu1 := hu_of hr; pssm_cons (psm_if (ptm_cmp (od_eq hu64) (pem_name 1) pem_str) (pssm_one (psm_ret (peo_of (pem_fz (peo_call c_law_weight hg (hr.mono (by omega)) tk (by rfl) (pgm_s 0 pgm_nil)))))) pssm_nil) (pssm_cons (psm_if (ptm_cmp (od_eq hu64) (pem_name 1) pem_str) (pssm_one (psm_ret (peo_of (pem_tup (pam_cons (pem_fz (peo_call cr hg (hr.mono (by omega)) tk (by rfl) (pgm_s 0 (pgm_v pem_str pgm_nil)))) (pam_cons (pem_fz (peo_call cr hg (hr.mono (by omega)) tk (by rfl) (pgm_s 0 (pgm_v pem_str pgm_nil)))) pam_nil)))))) pssm_nil) (pssm_one (psm_ret (peo_of (pem_ix id_ix (pem_lst (pam_cons (pem_fz (peo_call c_law_next hg (hr.mono (by omega)) tk (by rfl) (pgm_s 0 (pgm_v pem_int pgm_nil)))) (pam_cons (pem_fz (peo_call c_law_next hg (hr.mono (by omega)) tk (by rfl) (pgm_s 0 (pgm_v pem_int pgm_nil)))) (pam_cons pem_int (pam_cons pem_int pam_nil))))) (pem_fz (peo_call c_law_next hg (hr.mono (by omega)) tk (by rfl) (pgm_s 0 (pgm_v pem_int pgm_nil))))))))))
theorem ok0_law_part {f : Addr} {fd : FuncData} (F : FunD K "_law_part" "_law_part" (defArgs s_law_part) (defBody s_law_part) (defScope s_law_part) [] [] f fd) : FnG P w K mg base 1 f fd ["m", "form"] (spM K mg 2 (fnM [true, false] 0 (fun _ => none))) :=
  fnG_M (nl := 0) (mask := [true, false]) (k := 0) F sc_law_part rfl rfl (fun cdv A outer s H E hg hr tk => pssm_never)
theorem okA_law_part (F : Df K mg "_law_part" s_law_part []) (c_law_weight : Cal P w K mg base 3 "_law_weight" 1 g_law_weight) (c_law_next : Cal P w K mg base 1 "_law_next" 2 g_law_next) : ∀ j : Nat, Cal P w K mg base (4 + j) "_law_part" 2 (gf_law_part j)
  | 0 => by
    obtain ⟨f, fd, F, hm⟩ := F.ex
    exact Cal.mono (.of (ok0_law_part F) hm F.kp (F.bindsN fun _ _ _ _ _ _ us hl => match us, hl with | [_, _], _ => rfl) fnM_len) (by omega)
  | j + 1 => by
    have ih := okA_law_part F c_law_weight c_law_next j
    obtain ⟨f, fd, F, hm⟩ := F.ex
    exact .of (okR_law_part F c_law_weight c_law_next (l := 4 + j) (by omega) ih) hm F.kp (F.bindsN fun _ _ _ _ _ _ us hl => match us, hl with | [_, _], _ => rfl) fnM_len
theorem ok_law_part (F : Df K mg "_law_part" s_law_part []) (c_law_weight : Cal P w K mg base 3 "_law_weight" 1 g_law_weight) (c_law_next : Cal P w K mg base 1 "_law_next" 2 g_law_next) : Cal P w K mg base 6 "_law_part" 2 g_law_part := okA_law_part F c_law_weight c_law_next 2
abbrev s_law_step_drawn : Stmt := top 27
theorem sc_law_step_drawn : FnScope ["m", "word", "chosen", "form"] ["m"] (defScope s_law_step_drawn) := ⟨rfl, rfl, rfl, by decide +kernel, rfl, by decide +kernel, by decide +kernel⟩
noncomputable def b_law_step_drawn_1 : M D := eFz (eCall g_law_part (gSl 0 (gV (eName 3) gNil)))
noncomputable def m_law_step_drawn : M Fl := sSeq (sSet 1 (eFn gLst (aCons (rt (.str "scale")) (aCons (rt (.str "sum")) (aCons (rt (.str "drop")) (aCons (rt (.str "contract")) (aCons (rt (.str "split")) (aCons (rt (.str "square")) (aCons (rt (.str "weight")) (aCons (rt (.str "edge")) (aCons (rt (.str "without")) (aCons (rt (.str "leg")) (aCons (rt (.str "unleg")) aNil))))))))))))) (sSeq (sSet 2 (eOp ixD (eName 1) (eFz (eCall g_law_next (gSl 0 (gV (rt (.int 11)) gNil)))))) (sRet (eOp addD (eFn gTup (aCons (eName 2) aNil)) (eFn (f1 tupleD) (aCons (eCompR false [3] (iChars (eOp dixD (eCall0 g_law_forms) (eName 2))) (put 3) (rt true) b_law_step_drawn_1) aNil)))))
noncomputable def g_law_step_drawn : Fn := fnM [true] 3 m_law_step_drawn
theorem okF_law_step_drawn {f : Addr} {fd : FuncData} (F : FunD K "_law_step_drawn" "_law_step_drawn" (defArgs s_law_step_drawn) (defBody s_law_step_drawn) (defScope s_law_step_drawn) [] [] f fd) (c_law_next : Cal P w K mg base 1 "_law_next" 2 g_law_next) (c_law_forms : Cal P w K mg base 1 "_law_forms" 0 g_law_forms) (c_law_part : Cal P w K mg base 6 "_law_part" 2 g_law_part) (z_tuple : mg "tuple" = none) : FnG P w K mg base 7 f fd ["m"] (spM K mg 1 g_law_step_drawn) :=
  fnG_M (nl := 3) (mask := [true]) (k := 6) F sc_law_step_drawn rfl rfl (fun cdv A outer s H E hg hr tk => have hu64 := hu64_of hr; have hu80 := hu80_of hr; have hu1 := hu_of hr; pssm_cons (psm_set (i := 1) sc_law_step_drawn.nd rfl (Or.inl rfl) (peo_of (pem_lst (pam_cons pem_str (pam_cons pem_str (pam_cons pem_str (pam_cons pem_str (pam_cons pem_str (pam_cons pem_str (pam_cons pem_str (pam_cons pem_str (pam_cons pem_str (pam_cons pem_str (pam_cons pem_str pam_nil)))))))))))))) (pssm_cons (psm_set (i := 2) sc_law_step_drawn.nd rfl (Or.inl rfl) (peo_of (pem_ix id_ix (pem_name 1) (pem_fz (peo_call c_law_next hg (hr.mono (by decide)) tk (by rfl) (pgm_s 0 (pgm_v pem_int pgm_nil))))))) (pssm_one (psm_ret (peo_of (pem_op od_add (pem_tup (pam_cons (pem_name 2) pam_nil)) (pem_callTy cd_tuple (by rfl) z_tuple (by decide +kernel) (pam_cons (pem_comp (own := [("form", 3)]) ⟨rfl, sc_law_step_drawn.nd, ⟨_, pim_str (pem_dix hu1 (pem_call0 c_law_forms hg (hr.mono (by decide)) tk (by rfl)) (pem_name 2))⟩, blkOk_by (N := ["m", "word", "chosen", "form"]) (sc := defScope s_law_step_drawn) (by decide +kernel), (fun _ _ _ _ _ => ptg_name (i := 3) sc_law_step_drawn.nd rfl (Or.inl rfl)), ⟨_, fun _ _ _ _ _ => ptsm_nil⟩, ⟨_, fun _ _ _ _ _ => pem_fz (peo_call c_law_part hg (hr.mono (by decide)) takes0 (by rfl) (pgm_s 0 (pgm_v (pem_name 3) pgm_nil)))⟩, put_ok⟩) pam_nil))))))))
theorem ok_law_step_drawn (F : Df K mg "_law_step_drawn" s_law_step_drawn []) (c_law_next : Cal P w K mg base 1 "_law_next" 2 g_law_next) (c_law_forms : Cal P w K mg base 1 "_law_forms" 0 g_law_forms) (c_law_part : Cal P w K mg base 6 "_law_part" 2 g_law_part) (z_tuple : mg "tuple" = none) : Cal P w K mg base 7 "_law_step_drawn" 1 g_law_step_drawn := by
  obtain ⟨f, fd, F, hm⟩ := F.ex
  exact .of (okF_law_step_drawn F c_law_next c_law_forms c_law_part z_tuple) hm F.kp (F.bindsN fun _ _ _ _ _ _ us hl => match us, hl with | [_], _ => rfl) fnM_len
abbrev s_law_read : Stmt := top 29
theorem sc_law_read : FnScope ["word", "sign", "rest", "parts", "part", "x", "top", "bottom"] ["word"] (defScope s_law_read) := ⟨rfl, rfl, rfl, by decide +kernel, rfl, by decide +kernel, by decide +kernel⟩
noncomputable def b_law_read_1 : M D := eName 5
noncomputable def b_law_read_2 : M Bool := tB (eOp ninS (eName 5) (rt (.str "0123456789")))
noncomputable def b_law_read_3 : M Fl := sSeq (sIf (tOrM (tB (eOp eqD (eName 4) (rt (.str "")))) (tOrM (tB (eOp gtD (eFn (f1 lenD) (aCons (eName 4) aNil)) (rt (.int 1000)))) (tB (eOp neD (eCompR false [5] (iChars (eName 4)) (put 5) b_law_read_2 b_law_read_1) (eFn gLst aNil))))) (sRet (rt .non)) sNx) (sIf (tAndM (tB (eOp eqD (eOp ixD (eName 4) (rt (.int 0))) (rt (.str "0")))) (tB (eOp neD (eName 4) (rt (.str "0"))))) (sRet (rt .non)) sNx)
noncomputable def m_law_read : M Fl := sSeq (bnd (eIf (tB (eOp eqD (eSl (eName 0) (rt none) (eI (rt (.int 1)))) (rt (.str "-")))) (eFn gTup (aCons (eUn negD (rt (.int 1))) (aCons (eSl (eName 0) (eI (rt (.int 1))) (rt none)) aNil))) (eFn gTup (aCons (rt (.int 1)) (aCons (eName 0) aNil)))) (tgTup 2 (tgCons (put 1) (tgCons (put 2) tgNil)))) (sSeq (sSet 3 (eUn (splitD "/") (eName 2))) (sSeq (sFor (iItems (eName 3)) (put 4) b_law_read_3) (sSeq (sIf (tOrM (tB (eOp gtD (eFn (f1 lenD) (aCons (eName 3) aNil)) (rt (.int 2)))) (tAndM (tB (eOp ltD (eName 1) (rt (.int 0)))) (tB (eOp eqD (eOp ixD (eName 3) (rt (.int 0))) (rt (.str "0")))))) (sRet (rt .non)) sNx) (sSeq (bnd (aCons (eFn (f1 intTD) (aCons (eOp ixD (eName 3) (rt (.int 0))) aNil)) (aCons (eIf (tB (eOp eqD (eFn (f1 lenD) (aCons (eName 3) aNil)) (rt (.int 2)))) (eFn (f1 intTD) (aCons (eOp ixD (eName 3) (rt (.int 1))) aNil)) (rt (.int 1))) aNil)) (putP 6 7)) (sSeq (sIf (tOrM (tAndM (tB (eOp eqD (eFn (f1 lenD) (aCons (eName 3) aNil)) (rt (.int 2)))) (tB (eOp ltD (eName 7) (rt (.int 2))))) (tB (eOp neD (eCallQ g_law_divisor (aCons (eName 6) (aCons (eName 7) aNil))) (rt (.int 1))))) (sRet (rt .non)) sNx) (sRet (eFn gTup (aCons (eOp mulD (eName 1) (eName 6)) (aCons (eName 7) aNil)))))))))
noncomputable def g_law_read : Fn := fnM [false] 7 m_law_read
theorem okF_law_read {f : Addr} {fd : FuncData} (F : FunD K "_law_read" "_law_read" (defArgs s_law_read) (defBody s_law_read) (defScope s_law_read) [] [] f fd) (c_law_divisor : Cal P w K mg base 1 "_law_divisor" 2 g_law_divisor) (z_int : mg "int" = none) (z_len : mg "len" = none) (nd : base.NoDigits) : FnG P w K mg base 2 f fd ["word"] (spM K mg 1 g_law_read) :=
  fnG_M (nl := 7) (mask := [false]) (k := 1) F sc_law_read rfl rfl (fun cdv A outer s H E hg hr tk => have hu64 := hu64_of hr; have hu80 := hu80_of hr; have hu1 := hu_of hr; pssm_cons (psm_asg (pem_if (ptm_cmp (od_eq hu64) (pem_slice (pem_name 0) pom_none (pom_some pem_int)) pem_str) (pem_tup (pam_cons (pem_un ud_neg pem_int) (pam_cons (pem_slice (pem_name 0) (pom_some pem_int) pom_none) pam_nil))) (pem_tup (pam_cons pem_int (pam_cons (pem_name 0) pam_nil)))) (ptg_tup rfl (ptgs_cons (ptg_name (i := 1) sc_law_read.nd rfl (Or.inl rfl)) (ptgs_cons (ptg_name (i := 2) sc_law_read.nd rfl (Or.inl rfl)) ptgs_nil))) (hok := tgTup_ok (tgCons_ok put_ok (tgCons_ok put_ok tgNil_ok)))) (pssm_cons (psm_set (i := 3) sc_law_read.nd rfl (Or.inl rfl) (peo_of (pem_split (pem_name 2)))) (pssm_cons (psm_for (passes_of rfl) rfl (pim_items (pem_name 3)) (ptg_name (i := 4) sc_law_read.nd rfl (Or.inl rfl)) (pssm_cons (psm_if (ptm_of_pwm (pwm_or (ptm_cmp (od_eq hu64) (pem_name 4) pem_str) (pwm_or (ptm_cmp od_gt (pem_callB cd_len (by rfl) z_len (by decide +kernel) (pam_cons (pem_name 4) pam_nil)) pem_int) (pwm_or1 (ptm_cmp (od_ne hu64) (pem_comp (own := [("x", 5)]) ⟨rfl, sc_law_read.nd, ⟨_, pim_str (pem_name 4)⟩, blkOk_by (N := ["word", "sign", "rest", "parts", "part", "x", "top", "bottom"]) (sc := defScope s_law_read) (by decide +kernel), (fun _ _ _ _ _ => ptg_name (i := 5) sc_law_read.nd rfl (Or.inl rfl)), ⟨_, fun _ _ _ _ _ => ptsm_one (ptm_cmp od_ninS (pem_name 5) pem_str)⟩, ⟨_, fun _ _ _ _ _ => pem_name 5⟩, put_ok⟩) (pem_lst pam_nil)))))) (pssm_one (psm_ret (peo_of pem_non))) pssm_nil) (pssm_one (psm_if (ptm_of_pwm (pwm_and (ptm_cmp (od_eq hu64) (pem_ix id_ix (pem_name 4) pem_int) pem_str) (pwm_and1 (ptm_cmp (od_ne hu64) (pem_name 4) pem_str)))) (pssm_one (psm_ret (peo_of pem_non))) pssm_nil))) (hok := put_ok)) (pssm_cons (psm_if (ptm_of_pwm (pwm_or (ptm_cmp od_gt (pem_callB cd_len (by rfl) z_len (by decide +kernel) (pam_cons (pem_name 3) pam_nil)) pem_int) (pwm_or1 (ptm_of_pwm (pwm_and (ptm_cmp od_lt (pem_name 1) pem_int) (pwm_and1 (ptm_cmp (od_eq hu64) (pem_ix id_ix (pem_name 3) pem_int) pem_str))))))) (pssm_one (psm_ret (peo_of pem_non))) pssm_nil) (pssm_cons (psm_par (i := 6) (j := 7) rfl sc_law_read.nd rfl rfl rfl rfl (pam_cons (pem_callTy (cd_intT nd) (by rfl) z_int (by decide +kernel) (pam_cons (pem_ix id_ix (pem_name 3) pem_int) pam_nil)) (pam_cons (pem_if (ptm_cmp (od_eq hu64) (pem_callB cd_len (by rfl) z_len (by decide +kernel) (pam_cons (pem_name 3) pam_nil)) pem_int) (pem_callTy (cd_intT nd) (by rfl) z_int (by decide +kernel) (pam_cons (pem_ix id_ix (pem_name 3) pem_int) pam_nil)) pem_int) pam_nil))) (pssm_cons (psm_if (ptm_of_pwm (pwm_or (ptm_of_pwm (pwm_and (ptm_cmp (od_eq hu64) (pem_callB cd_len (by rfl) z_len (by decide +kernel) (pam_cons (pem_name 3) pam_nil)) pem_int) (pwm_and1 (ptm_cmp od_lt (pem_name 7) pem_int)))) (pwm_or1 (ptm_cmp (od_ne hu64) (pem_callQ c_law_divisor hg (hr.mono (by decide)) tk (by rfl) (pam_cons (pem_name 6) (pam_cons (pem_name 7) pam_nil))) pem_int)))) (pssm_one (psm_ret (peo_of pem_non))) pssm_nil) (pssm_one (psm_ret (peo_of (pem_tup (pam_cons (pem_op od_mul (pem_name 1) (pem_name 6)) (pam_cons (pem_name 7) pam_nil))))))))))))
theorem ok_law_read (F : Df K mg "_law_read" s_law_read []) (c_law_divisor : Cal P w K mg base 1 "_law_divisor" 2 g_law_divisor) (z_int : mg "int" = none) (z_len : mg "len" = none) (nd : base.NoDigits) : Cal P w K mg base 2 "_law_read" 1 g_law_read := by
  obtain ⟨f, fd, F, hm⟩ := F.ex
  exact .of (okF_law_read F c_law_divisor z_int z_len nd) hm F.kp (F.bindsN fun _ _ _ _ _ _ us hl => match us, hl with | [_], _ => rfl) fnM_len
abbrev s_law_index : Stmt := top 31
theorem sc_law_index : FnScope ["word", "x"] ["word"] (defScope s_law_index) := ⟨rfl, rfl, rfl, by decide +kernel, rfl, by decide +kernel, by decide +kernel⟩
noncomputable def b_law_index_1 : M D := eName 1
noncomputable def b_law_index_2 : M Bool := tB (eOp ninS (eName 1) (rt (.str "0123456789")))
noncomputable def m_law_index : M Fl := sSeq (sIf (tOrM (tNotM (tB (eChain leD leD (rt (.int 1)) (eFn (f1 lenD) (aCons (eName 0) aNil)) (rt (.int 3))))) (tB (eOp neD (eCompR false [1] (iChars (eName 0)) (put 1) b_law_index_2 b_law_index_1) (eFn gLst aNil)))) (sRet (rt .non)) sNx) (sRet (eIf (tAndM (tB (eOp eqD (eOp ixD (eName 0) (rt (.int 0))) (rt (.str "0")))) (tB (eOp neD (eName 0) (rt (.str "0"))))) (rt .non) (eFn (f1 intTD) (aCons (eName 0) aNil))))
noncomputable def g_law_index : Fn := fnM [false] 1 m_law_index
theorem okF_law_index {f : Addr} {fd : FuncData} (F : FunD K "_law_index" "_law_index" (defArgs s_law_index) (defBody s_law_index) (defScope s_law_index) [] [] f fd) (z_int : mg "int" = none) (z_len : mg "len" = none) (nd : base.NoDigits) : FnG P w K mg base 1 f fd ["word"] (spM K mg 1 g_law_index) :=
  fnG_M (nl := 1) (mask := [false]) (k := 0) F sc_law_index rfl rfl (fun cdv A outer s H E hg hr tk => have hu64 := hu64_of hr; have hu80 := hu80_of hr; have hu1 := hu_of hr; pssm_cons (psm_if (ptm_of_pwm (pwm_or (ptm_not (ptm_chain od_le od_le pem_int (pem_callB cd_len (by rfl) z_len (by decide +kernel) (pam_cons (pem_name 0) pam_nil)) pem_int)) (pwm_or1 (ptm_cmp (od_ne hu64) (pem_comp (own := [("x", 1)]) ⟨rfl, sc_law_index.nd, ⟨_, pim_str (pem_name 0)⟩, blkOk_by (N := ["word", "x"]) (sc := defScope s_law_index) (by decide +kernel), (fun _ _ _ _ _ => ptg_name (i := 1) sc_law_index.nd rfl (Or.inl rfl)), ⟨_, fun _ _ _ _ _ => ptsm_one (ptm_cmp od_ninS (pem_name 1) pem_str)⟩, ⟨_, fun _ _ _ _ _ => pem_name 1⟩, put_ok⟩) (pem_lst pam_nil))))) (pssm_one (psm_ret (peo_of pem_non))) pssm_nil) (pssm_one (psm_ret (peo_of (pem_if (ptm_of_pwm (pwm_and (ptm_cmp (od_eq hu64) (pem_ix id_ix (pem_name 0) pem_int) pem_str) (pwm_and1 (ptm_cmp (od_ne hu64) (pem_name 0) pem_str)))) pem_non (pem_callTy (cd_intT nd) (by rfl) z_int (by decide +kernel) (pam_cons (pem_name 0) pam_nil)))))))
theorem ok_law_index (F : Df K mg "_law_index" s_law_index []) (z_int : mg "int" = none) (z_len : mg "len" = none) (nd : base.NoDigits) : Cal P w K mg base 1 "_law_index" 1 g_law_index := by
  obtain ⟨f, fd, F, hm⟩ := F.ex
  exact .of (okF_law_index F z_int z_len nd) hm F.kp (F.bindsN fun _ _ _ _ _ _ us hl => match us, hl with | [_], _ => rfl) fnM_len
abbrev s_law_due : Stmt := top 32
theorem sc_law_due : FnScope ["text", "words", "form", "things", "place", "thing"] ["text"] (defScope s_law_due) := ⟨rfl, rfl, rfl, by decide +kernel, rfl, by decide +kernel, by decide +kernel⟩
noncomputable def b_law_due_1 : M Fl := sSeq (sIf (tB (eOp geD (eName 4) (eFn (f1 lenD) (aCons (eName 1) aNil)))) (sRet (eFn gTup (aCons (rt (.int 1)) (aCons (eOp addD (eName 4) (rt (.int 1))) aNil)))) sNx) (sSeq (sSet 5 (eIf (tB (eOp eqD (eOp ixD (eName 2) (eOp subD (eName 4) (rt (.int 1)))) (rt (.str "w")))) (eCallQ g_law_read (aCons (eOp ixD (eName 1) (eName 4)) aNil)) (eCallQ g_law_index (aCons (eOp ixD (eName 1) (eName 4)) aNil)))) (sSeq (sIf (tB (eOp isD (eName 5) (rt .non))) (sRet (eFn gTup (aCons (rt (.int 1)) (aCons (eOp addD (eName 4) (rt (.int 1))) aNil)))) sNx) (sApp 3 (eName 5))))
noncomputable def m_law_due : M Fl := sSeq (sSet 1 (eUn (splitD " ") (eName 0))) (sSeq (sIf (tB (eOp inB (rt (.str "")) (eName 1))) (sRet (eFn gTup (aCons (rt (.int 1)) (aCons (rt (.int 0)) aNil)))) sNx) (sSeq (sIf (tB (eOp dninD (eOp ixD (eName 1) (rt (.int 0))) (eCall0 g_law_forms))) (sRet (eFn gTup (aCons (rt (.int 1)) (aCons (rt (.int 1)) aNil)))) sNx) (sSeq (bnd (aCons (eUn (replD "c" "nn") (eOp dixD (eCall0 g_law_forms) (eOp ixD (eName 1) (rt (.int 0))))) (aCons (eOwn aNil) aNil)) (putP 2 3)) (sSeq (sFor (iRng rng2 (aCons (rt (.int 1)) (aCons (eOp addD (eFn (f1 lenD) (aCons (eName 2) aNil)) (rt (.int 1))) aNil))) (put 4) b_law_due_1) (sSeq (sIf (tB (eOp gtD (eFn (f1 lenD) (aCons (eName 1) aNil)) (eOp addD (eFn (f1 lenD) (aCons (eName 2) aNil)) (rt (.int 1))))) (sRet (eFn gTup (aCons (rt (.int 1)) (aCons (eOp addD (eFn (f1 lenD) (aCons (eName 2) aNil)) (rt (.int 2))) aNil)))) sNx) (fzSl 3 (sSeq (sIf (tB (eOp eqD (eOp ixD (eName 1) (rt (.int 0))) (rt (.str "edge")))) (sSet 3 (eFn gLst (aCons (eFn gTup (aCons (eOp ixD (eName 3) (rt (.int 0))) (aCons (eOp ixD (eName 3) (rt (.int 1))) aNil))) (aCons (eFn gTup (aCons (eOp ixD (eName 3) (rt (.int 2))) (aCons (eOp ixD (eName 3) (rt (.int 3))) aNil))) (aCons (eOp ixD (eName 3) (rt (.int 4))) aNil))))) sNx) (sSeq (sIf (tB (eOp eqD (eOp ixD (eName 1) (rt (.int 0))) (rt (.str "leg")))) (sSet 3 (eFn gLst (aCons (eFn gTup (aCons (eOp ixD (eName 3) (rt (.int 0))) (aCons (eOp ixD (eName 3) (rt (.int 1))) aNil))) aNil))) sNx) (sRet (eFn gLst (aCons (eOp addD (eFn gTup (aCons (eOp ixD (eName 1) (rt (.int 0))) aNil)) (eFn (f1 tupleD) (aCons (eName 3) aNil))) aNil)))))))))))
noncomputable def g_law_due : Fn := fnM [false] 5 m_law_due
theorem okF_law_due {f : Addr} {fd : FuncData} (F : FunD K "_law_due" "_law_due" (defArgs s_law_due) (defBody s_law_due) (defScope s_law_due) [] [] f fd) (c_law_forms : Cal P w K mg base 1 "_law_forms" 0 g_law_forms) (c_law_read : Cal P w K mg base 2 "_law_read" 1 g_law_read) (c_law_index : Cal P w K mg base 1 "_law_index" 1 g_law_index) (z_len : mg "len" = none) (z_range : mg "range" = none) (z_tuple : mg "tuple" = none) : FnG P w K mg base 3 f fd ["text"] (spM K mg 1 g_law_due) :=
  fnG_M (nl := 5) (mask := [false]) (k := 2) F sc_law_due rfl rfl (fun cdv A outer s H E hg hr tk => have hu64 := hu64_of hr; have hu80 := hu80_of hr; have hu1 := hu_of hr; pssm_cons (psm_set (i := 1) sc_law_due.nd rfl (Or.inl rfl) (peo_of (pem_split (pem_name 0)))) (pssm_cons (psm_if (ptm_cmp od_in pem_str (pem_name 1)) (pssm_one (psm_ret (peo_of (pem_tup (pam_cons pem_int (pam_cons pem_int pam_nil)))))) pssm_nil) (pssm_cons (psm_if (ptm_dnin hu1 (pem_ix id_ix (pem_name 1) pem_int) (pem_call0 c_law_forms hg (hr.mono (by decide)) tk (by rfl))) (pssm_one (psm_ret (peo_of (pem_tup (pam_cons pem_int (pam_cons pem_int pam_nil)))))) pssm_nil) (pssm_cons (psm_parO (i := 2) (j := 3) rfl sc_law_due.nd rfl rfl rfl rfl (pao_cons (peo_of (pem_replS hu1 (pem_call0 c_law_forms hg (hr.mono (by decide)) tk (by rfl)) (pem_name 1))) (pao_cons (peo_lst pam_nil) pao_nil))) (pssm_cons (psm_for (passes_of rfl) rfl (pim_range2 (by rfl) z_range (pam_cons pem_int (pam_cons (pem_op od_add (pem_callB cd_len (by rfl) z_len (by decide +kernel) (pam_cons (pem_name 2) pam_nil)) pem_int) pam_nil))) (ptg_name (i := 4) sc_law_due.nd rfl (Or.inl rfl)) (pssm_cons (psm_if (ptm_cmp od_ge (pem_name 4) (pem_callB cd_len (by rfl) z_len (by decide +kernel) (pam_cons (pem_name 1) pam_nil))) (pssm_one (psm_ret (peo_of (pem_tup (pam_cons pem_int (pam_cons (pem_op od_add (pem_name 4) pem_int) pam_nil)))))) pssm_nil) (pssm_cons (psm_set (i := 5) sc_law_due.nd rfl (Or.inl rfl) (peo_of (pem_if (ptm_cmp (od_eq hu64) (pem_ix id_ix (pem_name 2) (pem_op od_sub (pem_name 4) pem_int)) pem_str) (pem_callQ c_law_read hg (hr.mono (by decide)) tk (by rfl) (pam_cons (pem_ix id_ix (pem_name 1) (pem_name 4)) pam_nil)) (pem_callQ c_law_index hg (hr.mono (by decide)) tk (by rfl) (pam_cons (pem_ix id_ix (pem_name 1) (pem_name 4)) pam_nil))))) (pssm_cons (psm_if (ptm_cmp od_is (pem_name 5) pem_non) (pssm_one (psm_ret (peo_of (pem_tup (pam_cons pem_int (pam_cons (pem_op od_add (pem_name 4) pem_int) pam_nil)))))) pssm_nil) (pssm_one (psm_append (i := 3) (pem_name 5) rfl))))) (hok := put_ok)) (pssm_cons (psm_if (ptm_cmp od_gt (pem_callB cd_len (by rfl) z_len (by decide +kernel) (pam_cons (pem_name 1) pam_nil)) (pem_op od_add (pem_callB cd_len (by rfl) z_len (by decide +kernel) (pam_cons (pem_name 2) pam_nil)) pem_int)) (pssm_one (psm_ret (peo_of (pem_tup (pam_cons pem_int (pam_cons (pem_op od_add (pem_callB cd_len (by rfl) z_len (by decide +kernel) (pam_cons (pem_name 2) pam_nil)) pem_int) pam_nil)))))) pssm_nil) (pssm_fz 3 (pssm_cons (psm_if (ptm_cmp (od_eq hu64) (pem_ix id_ix (pem_name 1) pem_int) pem_str) (pssm_one (psm_set (i := 3) sc_law_due.nd rfl (Or.inl rfl) (peo_of (pem_lst (pam_cons (pem_tup (pam_cons (pem_ix id_ix (pem_name 3) pem_int) (pam_cons (pem_ix id_ix (pem_name 3) pem_int) pam_nil))) (pam_cons (pem_tup (pam_cons (pem_ix id_ix (pem_name 3) pem_int) (pam_cons (pem_ix id_ix (pem_name 3) pem_int) pam_nil))) (pam_cons (pem_ix id_ix (pem_name 3) pem_int) pam_nil))))))) pssm_nil) (pssm_cons (psm_if (ptm_cmp (od_eq hu64) (pem_ix id_ix (pem_name 1) pem_int) pem_str) (pssm_one (psm_set (i := 3) sc_law_due.nd rfl (Or.inl rfl) (peo_of (pem_lst (pam_cons (pem_tup (pam_cons (pem_ix id_ix (pem_name 3) pem_int) (pam_cons (pem_ix id_ix (pem_name 3) pem_int) pam_nil))) pam_nil))))) pssm_nil) (pssm_one (psm_ret (peo_of (pem_lst (pam_cons (pem_op od_add (pem_tup (pam_cons (pem_ix id_ix (pem_name 1) pem_int) pam_nil)) (pem_callTy cd_tuple (by rfl) z_tuple (by decide +kernel) (pam_cons (pem_name 3) pam_nil))) pam_nil))))))))))))))
theorem ok_law_due (F : Df K mg "_law_due" s_law_due []) (c_law_forms : Cal P w K mg base 1 "_law_forms" 0 g_law_forms) (c_law_read : Cal P w K mg base 2 "_law_read" 1 g_law_read) (c_law_index : Cal P w K mg base 1 "_law_index" 1 g_law_index) (z_len : mg "len" = none) (z_range : mg "range" = none) (z_tuple : mg "tuple" = none) : Cal P w K mg base 3 "_law_due" 1 g_law_due := by
  obtain ⟨f, fd, F, hm⟩ := F.ex
  exact .of (okF_law_due F c_law_forms c_law_read c_law_index z_len z_range z_tuple) hm F.kp (F.bindsN fun _ _ _ _ _ _ us hl => match us, hl with | [_], _ => rfl) fnM_len
abbrev s_law_bent : Stmt := top 33
theorem sc_law_bent : FnScope ["m", "text", "way", "kept", "place", "sign", "words", "at", "some", "word"] ["m", "text"] (defScope s_law_bent) := ⟨rfl, rfl, rfl, by decide +kernel, rfl, by decide +kernel, by decide +kernel⟩
noncomputable def m_law_bent : M Fl := sSeq (sSet 2 (eFz (eCall g_law_next (gSl 0 (gV (rt (.int 6)) gNil))))) (sSeq (sIf (tB (eOp ltD (eName 2) (rt (.int 2)))) (sSeq (bnd (aCons (eFz (eCall g_law_next (gSl 0 (gV (eOp addD (eFn (f1 lenD) (aCons (eName 1) aNil)) (rt (.int 1))) gNil)))) (aCons (eOp ixD (rt (.str "0123456789 -/legdropx")) (eFz (eCall g_law_next (gSl 0 (gV (rt (.int 21)) gNil))))) aNil)) (putP 4 5)) (sSeq (sSet 3 (eIf (tB (eOp eqD (eFz (eCall g_law_next (gSl 0 (gV (rt (.int 2)) gNil)))) (rt (.int 0)))) (eSl (eName 1) (eI (eName 4)) (rt none)) (eSl (eName 1) (eI (eOp addD (eName 4) (rt (.int 1)))) (rt none)))) (sRet (eOp addD (eOp addD (eSl (eName 1) (rt none) (eI (eName 4))) (eIf (tB (eOp eqD (eName 2) (rt (.int 0)))) (eName 5) (rt (.str "")))) (eName 3))))) sNx) (sSeq (sSet 6 (eUn (splitD " ") (eName 1))) (sSeq (sSet 7 (eFz (eCall g_law_next (gSl 0 (gV (eFn (f1 lenD) (aCons (eName 6) aNil)) gNil))))) (sSeq (sSet 8 (eFn gLst (aCons (rt (.str "0")) (aCons (rt (.str "7")) (aCons (rt (.str "999")) (aCons (rt (.str "1000")) (aCons (rt (.str "00")) (aCons (rt (.str "")) (aCons (rt (.str "1/2")) (aCons (rt (.str "-1")) (aCons (rt (.str "leg")) (aCons (rt (.str "edge")) (aCons (rt (.str "drop")) (aCons (rt (.str "\n")) aNil)))))))))))))) (sSeq (sSet 9 (eOp ixD (eName 8) (eFz (eCall g_law_next (gSl 0 (gV (rt (.int 12)) gNil)))))) (sSeq (sIf (tB (eOp eqD (eName 2) (rt (.int 2)))) (sRet (eUn (joinD " ") (eOp addD (eSl (eName 6) (rt none) (eI (eName 7))) (eSl (eName 6) (eI (eOp addD (eName 7) (rt (.int 1)))) (rt none))))) sNx) (sSeq (sIf (tB (eOp eqD (eName 2) (rt (.int 3)))) (sRet (eUn (joinD " ") (eOp addD (eOp addD (eSl (eName 6) (rt none) (eI (eName 7))) (eFn gLst (aCons (eName 9) aNil))) (eSl (eName 6) (eI (eName 7)) (rt none))))) sNx) (sRet (eIf (tB (eOp eqD (eName 2) (rt (.int 4)))) (eUn (joinD " ") (eOp addD (eSl (eName 6) (rt none) (eI (eOp addD (eName 7) (rt (.int 1))))) (eSl (eName 6) (eI (eName 7)) (rt none)))) (eUn (joinD " ") (eOp addD (eOp addD (eSl (eName 6) (rt none) (eI (eName 7))) (eFn gLst (aCons (eName 9) aNil))) (eSl (eName 6) (eI (eOp addD (eName 7) (rt (.int 1)))) (rt none)))))))))))))
noncomputable def g_law_bent : Fn := fnM [true, false] 8 m_law_bent
theorem okF_law_bent {f : Addr} {fd : FuncData} (F : FunD K "_law_bent" "_law_bent" (defArgs s_law_bent) (defBody s_law_bent) (defScope s_law_bent) [] [] f fd) (c_law_next : Cal P w K mg base 1 "_law_next" 2 g_law_next) (z_len : mg "len" = none) : FnG P w K mg base 2 f fd ["m", "text"] (spM K mg 2 g_law_bent) :=
  fnG_M (nl := 8) (mask := [true, false]) (k := 1) F sc_law_bent rfl rfl (fun cdv A outer s H E hg hr tk => have hu64 := hu64_of hr; have hu80 := hu80_of hr; have hu1 := hu_of hr; pssm_cons (psm_set (i := 2) sc_law_bent.nd rfl (Or.inl rfl) (peo_of (pem_fz (peo_call c_law_next hg (hr.mono (by decide)) tk (by rfl) (pgm_s 0 (pgm_v pem_int pgm_nil)))))) (pssm_cons (psm_if (ptm_cmp od_lt (pem_name 2) pem_int) (pssm_cons (psm_par (i := 4) (j := 5) rfl sc_law_bent.nd rfl rfl rfl rfl (pam_cons (pem_fz (peo_call c_law_next hg (hr.mono (by decide)) tk (by rfl) (pgm_s 0 (pgm_v (pem_op od_add (pem_callB cd_len (by rfl) z_len (by decide +kernel) (pam_cons (pem_name 1) pam_nil)) pem_int) pgm_nil)))) (pam_cons (pem_ix id_ix pem_str (pem_fz (peo_call c_law_next hg (hr.mono (by decide)) tk (by rfl) (pgm_s 0 (pgm_v pem_int pgm_nil))))) pam_nil))) (pssm_cons (psm_set (i := 3) sc_law_bent.nd rfl (Or.inl rfl) (peo_of (pem_if (ptm_cmp (od_eq hu64) (pem_fz (peo_call c_law_next hg (hr.mono (by decide)) tk (by rfl) (pgm_s 0 (pgm_v pem_int pgm_nil)))) pem_int) (pem_slice (pem_name 1) (pom_some (pem_name 4)) pom_none) (pem_slice (pem_name 1) (pom_some (pem_op od_add (pem_name 4) pem_int)) pom_none)))) (pssm_one (psm_ret (peo_of (pem_op od_add (pem_op od_add (pem_slice (pem_name 1) pom_none (pom_some (pem_name 4))) (pem_if (ptm_cmp (od_eq hu64) (pem_name 2) pem_int) (pem_name 5) pem_str)) (pem_name 3))))))) pssm_nil) (pssm_cons (psm_set (i := 6) sc_law_bent.nd rfl (Or.inl rfl) (peo_of (pem_split (pem_name 1)))) (pssm_cons (psm_set (i := 7) sc_law_bent.nd rfl (Or.inl rfl) (peo_of (pem_fz (peo_call c_law_next hg (hr.mono (by decide)) tk (by rfl) (pgm_s 0 (pgm_v (pem_callB cd_len (by rfl) z_len (by decide +kernel) (pam_cons (pem_name 6) pam_nil)) pgm_nil)))))) (pssm_cons (psm_set (i := 8) sc_law_bent.nd rfl (Or.inl rfl) (peo_of (pem_lst (pam_cons pem_str (pam_cons pem_str (pam_cons pem_str (pam_cons pem_str (pam_cons pem_str (pam_cons pem_str (pam_cons pem_str (pam_cons pem_str (pam_cons pem_str (pam_cons pem_str (pam_cons pem_str (pam_cons pem_str pam_nil))))))))))))))) (pssm_cons (psm_set (i := 9) sc_law_bent.nd rfl (Or.inl rfl) (peo_of (pem_ix id_ix (pem_name 8) (pem_fz (peo_call c_law_next hg (hr.mono (by decide)) tk (by rfl) (pgm_s 0 (pgm_v pem_int pgm_nil))))))) (pssm_cons (psm_if (ptm_cmp (od_eq hu64) (pem_name 2) pem_int) (pssm_one (psm_ret (peo_of (pem_join (pem_op od_add (pem_slice (pem_name 6) pom_none (pom_some (pem_name 7))) (pem_slice (pem_name 6) (pom_some (pem_op od_add (pem_name 7) pem_int)) pom_none)))))) pssm_nil) (pssm_cons (psm_if (ptm_cmp (od_eq hu64) (pem_name 2) pem_int) (pssm_one (psm_ret (peo_of (pem_join (pem_op od_add (pem_op od_add (pem_slice (pem_name 6) pom_none (pom_some (pem_name 7))) (pem_lst (pam_cons (pem_name 9) pam_nil))) (pem_slice (pem_name 6) (pom_some (pem_name 7)) pom_none)))))) pssm_nil) (pssm_one (psm_ret (peo_of (pem_if (ptm_cmp (od_eq hu64) (pem_name 2) pem_int) (pem_join (pem_op od_add (pem_slice (pem_name 6) pom_none (pom_some (pem_op od_add (pem_name 7) pem_int))) (pem_slice (pem_name 6) (pom_some (pem_name 7)) pom_none))) (pem_join (pem_op od_add (pem_op od_add (pem_slice (pem_name 6) pom_none (pom_some (pem_name 7))) (pem_lst (pam_cons (pem_name 9) pam_nil))) (pem_slice (pem_name 6) (pom_some (pem_op od_add (pem_name 7) pem_int)) pom_none)))))))))))))))
theorem ok_law_bent (F : Df K mg "_law_bent" s_law_bent []) (c_law_next : Cal P w K mg base 1 "_law_next" 2 g_law_next) (z_len : mg "len" = none) : Cal P w K mg base 2 "_law_bent" 2 g_law_bent := by
  obtain ⟨f, fd, F, hm⟩ := F.ex
  exact .of (okF_law_bent F c_law_next z_len) hm F.kp (F.bindsN fun _ _ _ _ _ _ us hl => match us, hl with | [_, _], _ => rfl) fnM_len
abbrev s_law : Stmt := top 34
theorem sc_law : FnScope ["script", "m", "thing", "some", "far", "due", "text", "turn", "k"] ["script"] (defScope s_law) := ⟨rfl, rfl, rfl, by decide +kernel, rfl, by decide +kernel, by decide +kernel⟩
noncomputable def b_law_1 : M Fl := sIf (tB (eOp neD (eFn reprD (aCons (eCallQ g_law_outcome (aCons (eName 2) aNil)) aNil)) (rt (.str "(0, 0)")))) (sRet (rt (.bl false))) sNx
noncomputable def b_law_2 : M D := eCallQ g_law_outcome (aCons (eName 6) aNil)
noncomputable def b_law_3 : M Fl := sSeq (sIf (tB (eOp neD (eFn reprD (aCons (eCallQ g_law_outcome (aCons (eName 6) aNil)) aNil)) (eFn reprD (aCons (eCallQ g_law_due (aCons (eName 6) aNil)) aNil)))) (sRet (rt (.bl false))) sNx) (sSet 6 (eFz (eCall g_law_bent (gSl 1 (gV (eName 6) gNil)))))
noncomputable def b_law_4 : M Fl := sSeq (sSet 6 (eCallQ g_law_step_text (aCons (eFz (eCall g_law_step_drawn (gSl 1 gNil))) aNil))) (sFor (iRng rng1 (aCons (rt (.int 3)) aNil)) (put 8) b_law_3)
noncomputable def m_law : M Fl := sSeq (sSet 1 (eCall g_law_begun (gV (eName 0) gNil))) (sSeq (sFor (iItems (eFn gLst (aCons (rt .non) (aCons (rt (.int 0)) (aCons (rt (.bl true)) (aCons (eFn gLst (aCons (rt (.str "drop 1")) aNil)) (aCons (eFn gTup (aCons (rt (.str "drop")) (aCons (rt (.int 1)) aNil))) (aCons (rt (.dk false [] [])) aNil)))))))) (put 2) b_law_1) (sSeq (sSet 3 (eFn gLst (aCons (rt (.str "")) (aCons (rt (.str " ")) (aCons (rt (.str "drop")) (aCons (rt (.str "drop 1 2")) (aCons (rt (.str "drop  1")) (aCons (rt (.str "turn 0")) (aCons (rt (.str "scale 0 2/4")) (aCons (rt (.str "drop 1000")) (aCons (rt (.str "drop 01")) aNil))))))))))) (sSeq (sSet 4 (eOp mulSD (rt (.str "9")) (rt (.int 5000)))) (sSeq (sSet 3 (eOp addD (eName 3) (eFn gLst (aCons (rt (.str "drop 1\n")) (aCons (rt (.str "Drop 1")) (aCons (eOp addD (rt (.str "scale 0 ")) (eName 4)) (aCons (eOp addD (rt (.str "weight 0 1/")) (eName 4)) (aCons (eOp addD (rt (.str "drop ")) (eName 4)) aNil)))))))) (sSeq (sSet 5 (rt (.str "[(1, 0), (1, 0), (1, 2), (1, 3), (1, 0), (1, 1), (1, 3), (1, 2), (1, 2), (1, 2), (1, 1)"))) (sSeq (sSet 5 (eOp addD (eName 5) (rt (.str ", (1, 3), (1, 3), (1, 2)]")))) (sSeq (sIf (tB (eOp neD (eFn reprD (aCons (eCompR false [6] (iItems (eName 3)) (put 6) (rt true) b_law_2) aNil)) (eName 5))) (sRet (rt (.bl false))) sNx) (sSeq (sFor (iRng rng1 (aCons (eOp addD (rt (.int 3)) (eFn (f2 minD) (aCons (eFn (f1 lenD) (aCons (eName 0) aNil)) (aCons (rt (.int 8)) aNil)))) aNil)) (put 7) b_law_4) (sRet (rt (.bl true)))))))))))
noncomputable def g_law : Fn := fnM [false] 8 m_law
theorem okF_law {f : Addr} {fd : FuncData} (F : FunD K "law" "law" (defArgs s_law) (defBody s_law) (defScope s_law) [] [] f fd) (c_law_begun : Cal P w K mg base 1 "_law_begun" 1 g_law_begun) (c_law_outcome : Cal P w K mg base 6 "_law_outcome" 1 g_law_outcome) (c_law_step_text : Cal P w K mg base 2 "_law_step_text" 1 g_law_step_text) (c_law_step_drawn : Cal P w K mg base 7 "_law_step_drawn" 1 g_law_step_drawn) (c_law_due : Cal P w K mg base 3 "_law_due" 1 g_law_due) (c_law_bent : Cal P w K mg base 2 "_law_bent" 2 g_law_bent) (z_len : mg "len" = none) (z_min : mg "min" = none) (z_range : mg "range" = none) (z_repr : mg "repr" = none) (nd : base.NoDigits) : FnG P w K mg base 8 f fd ["script"] (spM K mg 1 g_law) :=
  fnG_M (nl := 8) (mask := [false]) (k := 7) F sc_law rfl rfl (fun cdv A outer s H E hg hr tk => have hu64 := hu64_of hr; have hu80 := hu80_of hr; have hu1 := hu_of hr; pssm_cons (psm_set (i := 1) sc_law.nd rfl (Or.inl rfl) (peo_call c_law_begun hg (hr.mono (by decide)) tk (by rfl) (pgm_v (pem_name 0) pgm_nil))) (pssm_cons (psm_for (passes_of rfl) rfl (pim_items (pem_lst (pam_cons pem_non (pam_cons pem_int (pam_cons pem_bl (pam_cons (pem_lst (pam_cons pem_str pam_nil)) (pam_cons (pem_tup (pam_cons pem_str (pam_cons pem_int pam_nil))) (pam_cons pem_dict0 pam_nil)))))))) (ptg_name (i := 2) sc_law.nd rfl (Or.inl rfl)) (pssm_one (psm_if (ptm_cmp (od_ne hu64) (pem_callB (cd_repr nd hg hu80) (by rfl) z_repr (by decide +kernel) (pam_cons (pem_callQ c_law_outcome hg (hr.mono (by decide)) tk (by rfl) (pam_cons (pem_name 2) pam_nil)) pam_nil)) pem_str) (pssm_one (psm_ret (peo_of pem_bl))) pssm_nil)) (hok := put_ok)) (pssm_cons (psm_set (i := 3) sc_law.nd rfl (Or.inl rfl) (peo_of (pem_lst (pam_cons pem_str (pam_cons pem_str (pam_cons pem_str (pam_cons pem_str (pam_cons pem_str (pam_cons pem_str (pam_cons pem_str (pam_cons pem_str (pam_cons pem_str pam_nil)))))))))))) (pssm_cons (psm_set (i := 4) sc_law.nd rfl (Or.inl rfl) (peo_of (pem_op od_mulS pem_str pem_int))) (pssm_cons (psm_set (i := 3) sc_law.nd rfl (Or.inl rfl) (peo_of (pem_op od_add (pem_name 3) (pem_lst (pam_cons pem_str (pam_cons pem_str (pam_cons (pem_op od_add pem_str (pem_name 4)) (pam_cons (pem_op od_add pem_str (pem_name 4)) (pam_cons (pem_op od_add pem_str (pem_name 4)) pam_nil))))))))) (pssm_cons (psm_set (i := 5) sc_law.nd rfl (Or.inl rfl) (peo_of pem_str)) (pssm_cons (psm_set (i := 5) sc_law.nd rfl (Or.inl rfl) (peo_of (pem_op od_add (pem_name 5) pem_str))) (pssm_cons (psm_if (ptm_cmp (od_ne hu64) (pem_callB (cd_repr nd hg hu80) (by rfl) z_repr (by decide +kernel) (pam_cons (pem_comp (own := [("text", 6)]) ⟨rfl, sc_law.nd, ⟨_, pim_items (pem_name 3)⟩, blkOk_by (N := ["script", "m", "thing", "some", "far", "due", "text", "turn", "k"]) (sc := defScope s_law) (by decide +kernel), (fun _ _ _ _ _ => ptg_name (i := 6) sc_law.nd rfl (Or.inl rfl)), ⟨_, fun _ _ _ _ _ => ptsm_nil⟩, ⟨_, fun _ _ _ _ _ => pem_callQ c_law_outcome hg (hr.mono (by decide)) takes0 (by rfl) (pam_cons (pem_name 6) pam_nil)⟩, put_ok⟩) pam_nil)) (pem_name 5)) (pssm_one (psm_ret (peo_of pem_bl))) pssm_nil) (pssm_cons (psm_for (passes_of rfl) rfl (pim_range1 (by rfl) z_range (pam_cons (pem_op od_add pem_int (pem_callB (cd_min rfl) (by rfl) z_min (by decide +kernel) (pam_cons (pem_callB cd_len (by rfl) z_len (by decide +kernel) (pam_cons (pem_name 0) pam_nil)) (pam_cons pem_int pam_nil)))) pam_nil)) (ptg_name (i := 7) sc_law.nd rfl (Or.inl rfl)) (pssm_cons (psm_set (i := 6) sc_law.nd rfl (Or.inl rfl) (peo_of (pem_callQ c_law_step_text hg (hr.mono (by decide)) tk (by rfl) (pam_cons (pem_fz (peo_call c_law_step_drawn hg (hr.mono (by decide)) tk (by rfl) (pgm_s 1 pgm_nil))) pam_nil)))) (pssm_one (psm_for (passes_of rfl) rfl (pim_range1 (by rfl) z_range (pam_cons pem_int pam_nil)) (ptg_name (i := 8) sc_law.nd rfl (Or.inl rfl)) (pssm_cons (psm_if (ptm_cmp (od_ne hu64) (pem_callB (cd_repr nd hg hu80) (by rfl) z_repr (by decide +kernel) (pam_cons (pem_callQ c_law_outcome hg (hr.mono (by decide)) tk (by rfl) (pam_cons (pem_name 6) pam_nil)) pam_nil)) (pem_callB (cd_repr nd hg hu80) (by rfl) z_repr (by decide +kernel) (pam_cons (pem_callQ c_law_due hg (hr.mono (by decide)) tk (by rfl) (pam_cons (pem_name 6) pam_nil)) pam_nil))) (pssm_one (psm_ret (peo_of pem_bl))) pssm_nil) (pssm_one (psm_set (i := 6) sc_law.nd rfl (Or.inl rfl) (peo_of (pem_fz (peo_call c_law_bent hg (hr.mono (by decide)) tk (by rfl) (pgm_s 1 (pgm_v (pem_name 6) pgm_nil)))))))) (hok := put_ok)))) (hok := put_ok)) (pssm_one (psm_ret (peo_of pem_bl))))))))))))
theorem ok_law (F : Df K mg "law" s_law []) (c_law_begun : Cal P w K mg base 1 "_law_begun" 1 g_law_begun) (c_law_outcome : Cal P w K mg base 6 "_law_outcome" 1 g_law_outcome) (c_law_step_text : Cal P w K mg base 2 "_law_step_text" 1 g_law_step_text) (c_law_step_drawn : Cal P w K mg base 7 "_law_step_drawn" 1 g_law_step_drawn) (c_law_due : Cal P w K mg base 3 "_law_due" 1 g_law_due) (c_law_bent : Cal P w K mg base 2 "_law_bent" 2 g_law_bent) (z_len : mg "len" = none) (z_min : mg "min" = none) (z_range : mg "range" = none) (z_repr : mg "repr" = none) (nd : base.NoDigits) : Cal P w K mg base 8 "law" 1 g_law := by
  obtain ⟨f, fd, F, hm⟩ := F.ex
  exact .of (okF_law F c_law_begun c_law_outcome c_law_step_text c_law_step_drawn c_law_due c_law_bent z_len z_min z_range z_repr nd) hm F.kp (F.bindsN fun _ _ _ _ _ _ us hl => match us, hl with | [_], _ => rfl) fnM_len

end
end Law

namespace Law
open PySem L2 G
theorem g_div (a b : Int) (h : b.natAbs < big) : g_ra_divisor [.int a, .int b] = some (.ok (.int (Int.gcd a b)), [none, none]) := by
  have key := loop_gcd (c := tB (eOp neD (eName 1) (rt (.int 0)))) (body := b_ra_divisor_1) (fun a b => by simp) (fun a b h => by simp [b_ra_divisor_1, h, fmod_nat]) big a.natAbs b.natAbs h
  simp only [g_ra_divisor, m_ra_divisor]
  simp [abs_nat, key]
  rfl
theorem g_ldiv (a b : Int) (h : b.natAbs < big) : g_law_divisor [.int a, .int b] = some (.ok (.int (Int.gcd a b)), [none, none]) := by
  have key := loop_gcd (c := tB (eOp neD (eName 1) (rt (.int 0)))) (body := b_law_divisor_1) (fun a b => by simp) (fun a b h => by simp [b_law_divisor_1, h, fmod_nat]) big a.natAbs b.natAbs h
  simp only [g_law_divisor, m_law_divisor]
  simp [abs_nat, key]
  rfl
/-- a fraction in lowest terms -/
def sg (t b : Int) : Int := if b < 0 then -(Int.gcd t b : Int) else Int.gcd t b
def rp (t b : Int) : Int × Int := (t.fdiv (sg t b), b.fdiv (sg t b))
abbrev dT (x : Int × Int) : D := .tup [.int x.1, .int x.2]
theorem sg_ne {t b : Int} (h : b ≠ 0) : sg t b ≠ 0 := by
  have : 0 < Int.gcd t b := Int.gcd_pos_of_ne_zero_right _ h
  unfold sg
  split <;> omega
theorem sg_abs {t b : Int} : (sg t b).natAbs = Int.gcd t b := by
  unfold sg
  split <;> omega
theorem sg_le {t b : Int} (h : b ≠ 0) : (sg t b).natAbs ≤ b.natAbs := by
  rw [sg_abs]
  exact Nat.le_of_dvd (by omega) (Int.gcd_dvd_natAbs_right ..)
theorem g_lpair (t b : Int) (h : b ≠ 0) (h2 : b.natAbs < 2 ^ 9000) : g_law_pair [.int t, .int b] = some (.ok (dT (rp t b)), [none, none]) := by
  have hb : b.natAbs < big := lt_big h2 (by decide)
  have key := g_ldiv t b hb
  have h3 : (sg t b).natAbs < 2 ^ 9000 := Nat.lt_of_le_of_lt (sg_le h) h2
  have h4 := log2_of h3 (by decide)
  have h5 : sg t b ≠ 0 := sg_ne h
  simp only [g_law_pair, m_law_pair]
  by_cases z : b < 0
  · have e : sg t b = -(Int.gcd t b : Int) := by unfold sg; rw [if_pos z]
    rw [e] at h4 h5
    have h6 : (t.gcd b).log2 < 9000 := by simpa using h4
    simp [key, z, h, h4, h5, h6, rp, e]
  · have e : sg t b = (Int.gcd t b : Int) := by unfold sg; rw [if_neg z]
    rw [e] at h4 h5
    have h6 : (t.gcd b).log2 < 9000 := by simpa using h4
    simp [key, z, h, h4, h5, h6, rp, e]
theorem rp_spec {t b : Int} (h : b ≠ 0) : ∃ u v, rp t b = (u, v) ∧ t = sg t b * u ∧ b = sg t b * v ∧ 0 < v ∧ Int.gcd u v = 1 := by
  have hs : sg t b ≠ 0 := sg_ne h
  have hd : ∀ z : Int, ((Int.gcd t b : Int) ∣ z) → sg t b ∣ z := fun z hz => by
    unfold sg
    split
    · exact Int.neg_dvd.mpr hz
    · exact hz
  obtain ⟨u, hu⟩ := hd t (Int.gcd_dvd_left ..)
  obtain ⟨v, hv⟩ := hd b (Int.gcd_dvd_right ..)
  have hv0 : 0 < v := by
    have gp : 0 < Int.gcd t b := Int.gcd_pos_of_ne_zero_right _ h
    by_cases z : b < 0
    · have e : sg t b = -(Int.gcd t b : Int) := by unfold sg; rw [if_pos z]
      rw [e] at hv
      rcases Int.lt_or_le 0 v with q | q
      · exact q
      · have : 0 ≤ -(Int.gcd t b : Int) * v := Int.mul_nonneg_of_nonpos_of_nonpos (by omega) q
        omega
    · have e : sg t b = (Int.gcd t b : Int) := by unfold sg; rw [if_neg z]
      rw [e] at hv
      rcases Int.lt_or_le 0 v with q | q
      · exact q
      · have : (Int.gcd t b : Int) * v ≤ 0 := Int.mul_nonpos_of_nonneg_of_nonpos (by omega) q
        omega
  refine ⟨u, v, ?_, hu, hv, hv0, ?_⟩
  · unfold rp
    have e1 : t.fdiv (sg t b) = u := by
      conv => lhs; rw [show t.fdiv (sg t b) = (sg t b * u).fdiv (sg t b) from by rw [← hu]]
      exact Int.mul_fdiv_cancel_left _ hs
    have e2 : b.fdiv (sg t b) = v := by
      conv => lhs; rw [show b.fdiv (sg t b) = (sg t b * v).fdiv (sg t b) from by rw [← hv]]
      exact Int.mul_fdiv_cancel_left _ hs
    rw [e1, e2]
  · have e : Int.gcd t b = (sg t b).natAbs * Int.gcd u v := by
      conv => lhs; rw [show Int.gcd t b = Int.gcd (sg t b * u) (sg t b * v) from by rw [← hu, ← hv]]
      exact Int.gcd_mul_left ..
    rw [sg_abs] at e
    have gp : 0 < Int.gcd t b := Int.gcd_pos_of_ne_zero_right _ h
    have : Int.gcd t b * 1 = Int.gcd t b * Int.gcd u v := by rw [Nat.mul_one]; exact e
    exact (Nat.eq_of_mul_eq_mul_left gp this).symm
theorem dvd_cop {k m n : Int} (h : k ∣ m * n) (g : Int.gcd k m = 1) : k ∣ n := by
  have h1 : k.natAbs ∣ m.natAbs * n.natAbs := by rw [← Int.natAbs_mul]; exact Int.natAbs_dvd_natAbs.mpr h
  have g1 : Nat.Coprime k.natAbs m.natAbs := g
  exact Int.natAbs_dvd_natAbs.mp (g1.dvd_of_dvd_mul_left h1)
theorem low_unique {u v u' v' : Int} (h1 : 0 < v) (h2 : 0 < v') (g1 : Int.gcd u v = 1) (g2 : Int.gcd u' v' = 1) (e : u * v' = u' * v) : u = u' ∧ v = v' := by
  have d1 : v ∣ v' := by
    have : v ∣ u * v' := ⟨u', by rw [e, Int.mul_comm]⟩
    exact dvd_cop this (by rw [Int.gcd_comm]; exact g1)
  have d2 : v' ∣ v := by
    have : v' ∣ u' * v := ⟨u, by rw [← e, Int.mul_comm]⟩
    exact dvd_cop this (by rw [Int.gcd_comm]; exact g2)
  have ev : v = v' := Int.dvd_antisymm (by omega) (by omega) d1 d2
  subst ev
  exact ⟨Int.eq_of_mul_eq_mul_right (by omega) e, rfl⟩
/-- the fraction t over b in lowest terms is u over v -/
theorem rp_eq {t b u v : Int} (h : b ≠ 0) (hv : 0 < v) (g : Int.gcd u v = 1) (e : u * b = t * v) : rp t b = (u, v) := by
  obtain ⟨u', v', e1, ht, hb, hv', g'⟩ := rp_spec (t := t) h
  rw [e1]
  have hs : sg t b ≠ 0 := sg_ne h
  have e2 : u' * v = u * v' := by
    have q : sg t b * (u * v') = sg t b * (u' * v) := by
      rw [← Int.mul_left_comm, ← Int.mul_assoc (sg t b) u' v, ← hb, ← ht]
      exact e
    exact (Int.eq_of_mul_eq_mul_left hs q).symm
  obtain ⟨q1, q2⟩ := low_unique hv' hv g' g e2
  rw [q1, q2]
structure Nm (n : Nat) (x : Int × Int) : Prop where
  pos : 0 < x.2
  cop : Int.gcd x.1 x.2 = 1
  s1 : x.1.natAbs < 2 ^ n
  s2 : x.2.natAbs < 2 ^ n
theorem Nm.more {n m : Nat} {x : Int × Int} (h : Nm n x) (hn : n ≤ m) : Nm m x :=
  ⟨h.pos, h.cop, Nat.lt_of_lt_of_le h.s1 (Nat.pow_le_pow_right (by decide) hn), Nat.lt_of_lt_of_le h.s2 (Nat.pow_le_pow_right (by decide) hn)⟩
theorem rp_nm {t b : Int} {n : Nat} (h : b ≠ 0) (h1 : t.natAbs < 2 ^ n) (h2 : b.natAbs < 2 ^ n) : Nm n (rp t b) := by
  obtain ⟨u, v, e, ht, hb, hv, g⟩ := rp_spec (t := t) h
  rw [e]
  have hs : 0 < (sg t b).natAbs := by have := sg_ne (t := t) h; omega
  have a1 : t.natAbs = (sg t b).natAbs * u.natAbs := by rw [← Int.natAbs_mul, ← ht]
  have a2 : b.natAbs = (sg t b).natAbs * v.natAbs := by rw [← Int.natAbs_mul, ← hb]
  have b1 : u.natAbs ≤ t.natAbs := by rw [a1]; exact Nat.le_mul_of_pos_left _ hs
  have b2 : v.natAbs ≤ b.natAbs := by rw [a2]; exact Nat.le_mul_of_pos_left _ hs
  exact ⟨hv, g, Nat.lt_of_le_of_lt b1 h1, Nat.lt_of_le_of_lt b2 h2⟩
theorem sz_mul {i j : Int} {n m : Nat} (h1 : i.natAbs < 2 ^ n) (h2 : j.natAbs < 2 ^ m) : (i * j).natAbs < 2 ^ (n + m) := by
  rw [Int.natAbs_mul, Nat.pow_add]
  exact Nat.mul_lt_mul'' h1 h2
theorem sz_add {i j : Int} {n : Nat} (h1 : i.natAbs < 2 ^ n) (h2 : j.natAbs < 2 ^ n) : (i + j).natAbs < 2 ^ (n + 1) := by
  rw [Nat.pow_succ]
  omega
theorem sz_sub {i j : Int} {n : Nat} (h1 : i.natAbs < 2 ^ n) (h2 : j.natAbs < 2 ^ n) : (i - j).natAbs < 2 ^ (n + 1) := by
  rw [Nat.pow_succ]
  omega
theorem mul_ok {i j : Int} {n m : Nat} (h1 : i.natAbs < 2 ^ n) (h2 : j.natAbs < 2 ^ m) (hn : n + m < 1000000) (n0 : 0 < n) (m0 : 0 < m) : i.natAbs.log2 + j.natAbs.log2 < 1000000 := by
  have := log2_of h1 n0
  have := log2_of h2 m0
  omega
theorem big_of {n : Nat} {b : Int} (h : b.natAbs < 2 ^ n) (hn : n ≤ 9000) : b.natAbs < big := lt_big h (by omega)
theorem to9 {n : Nat} {b : Int} (h : b.natAbs < 2 ^ n) (hn : n ≤ 9000) : b.natAbs < 2 ^ 9000 := Nat.lt_of_lt_of_le h (Nat.pow_le_pow_right (by decide) hn)
theorem dig_of {n : Nat} {i : Int} (h : i.natAbs < 2 ^ n) (hn : n ≤ 4001) : i.natAbs < digLim :=
  Nat.lt_of_lt_of_le h (Nat.le_trans (Nat.pow_le_pow_right (by decide) hn) (by decide +kernel))
@[simp] theorem s_comp (o : Bool) (vs : List Nat) (it : M (List D)) (tgt : D → M Fl) (c : M Bool) (e : M D) (ρ : En) : eCompR o vs it tgt c e ρ = bnd it (fun ds ρ => if ds.length ≤ 1000000 then match compL vs tgt c e ds (wipeE vs 0 ρ) with
  | some (ys, ρ') => some (.ok (.lst o ys), backE vs 0 ρ ρ')
  | none => none
  else none) ρ := rfl
@[simp] theorem s_wipe0 (vs : List Nat) (k : Nat) : wipeE vs k [] = [] := rfl
@[simp] theorem s_wipe1 (vs : List Nat) (k : Nat) (o : Option D) (ρ : En) : wipeE vs k (o :: ρ) = (if k ∈ vs then none else o) :: wipeE vs (k + 1) ρ := rfl
@[simp] theorem s_bk0 (vs : List Nat) (k : Nat) : backE vs k [] [] = [] := rfl
@[simp] theorem s_bk1 (vs : List Nat) (k : Nat) (o o' : Option D) (ρ ρ' : En) : backE vs k (o :: ρ) (o' :: ρ') = (if k ∈ vs then keepF o else o') :: backE vs (k + 1) ρ ρ' := rfl
end Law

namespace Law
open PySem L2 G
theorem v_next {c l : List Int} {k n : Int} (hn : 0 < n) (h9 : n.natAbs.log2 < 9000) (k0 : 0 ≤ k) (k1 : k < 2 ^ 40) : ∃ l' k' v, gNext [.drw c l k, .int n] = some (.ok (.int v), [some (.drw c l' k'), none]) ∧ 0 ≤ v ∧ v < n ∧ k ≤ k' ∧ k' ≤ k + 1 := by
  unfold gNext
  simp only
  rw [if_pos ⟨hn, h9, k0, k1⟩]
  split
  · exact ⟨_, _, _, rfl, Int.emod_nonneg _ (by omega), Int.emod_lt_of_pos _ hn, by omega, by omega⟩
  · exact ⟨_, _, _, rfl, Int.emod_nonneg _ (by omega), Int.emod_lt_of_pos _ hn, by omega, by omega⟩
theorem v_weight {c l : List Int} {k : Int} (k0 : 0 ≤ k) (k1 : k + 3 < 2 ^ 40) : ∃ l' k' x, g_law_weight [.drw c l k] = some (.ok (dT x), [some (.drw c l' k')]) ∧ Nm 100 x ∧ k ≤ k' ∧ k' ≤ k + 3 := by
  obtain ⟨l1, k1', w, e1, w0, w1, a1, a2⟩ := v_next (c := c) (l := l) (k := k) (n := 8) (by decide) (by decide +kernel) k0 (by omega)
  simp only [g_law_weight, m_law_weight]
  by_cases z0 : w < 3
  · refine ⟨l1, k1', (w - 1, 1), ?_, ⟨Int.one_pos, Int.gcd_one_right .., by show (w - 1).natAbs < 2 ^ 100; omega, by show Int.natAbs 1 < 2 ^ 100; decide⟩, by omega, by omega⟩
    simp [e1, z0]
  by_cases z1 : w = 3
  · subst z1
    obtain ⟨l2, k2, v, e2, v0, v1, b1, b2⟩ := v_next (c := c) (l := l1) (k := k1') (n := 10 ^ 30) (by decide) (by decide +kernel) (by omega) (by omega)
    obtain ⟨l3, k3, x, e3, x0, x1, c1, c2⟩ := v_next (c := c) (l := l2) (k := k2) (n := 10 ^ 9) (by decide) (by decide +kernel) (by omega) (by omega)
    have p := g_lpair (v - 10 ^ 20) (1 + x) (by omega) (to9 (n := 100) (by omega) (by decide))
    refine ⟨l3, k3, rp (v - 10 ^ 20) (1 + x), ?_, rp_nm (by omega) (by omega) (by omega), by omega, by omega⟩
    simp at e2 e3 p
    simp [e1, e2, e3, bits10, p]
  · obtain ⟨l2, k2, v, e2, v0, v1, b1, b2⟩ := v_next (c := c) (l := l1) (k := k1') (n := 19) (by decide) (by decide +kernel) (by omega) (by omega)
    obtain ⟨l3, k3, x, e3, x0, x1, c1, c2⟩ := v_next (c := c) (l := l2) (k := k2) (n := 7) (by decide) (by decide +kernel) (by omega) (by omega)
    have p := g_lpair (v - 9) (1 + x) (by omega) (to9 (n := 100) (by omega) (by decide))
    refine ⟨l3, k3, rp (v - 9) (1 + x), ?_, rp_nm (by omega) (by omega) (by omega), by omega, by omega⟩
    simp [e1, e2, e3, eq_false z0, eq_false z1, p]



theorem rng_mem {n : Nat} {i : Nat} {d : D} (h : (rngD 0 n)[i]? = some d) : i < n ∧ d = .int i := by
  unfold rngD at h
  rw [List.getElem?_map] at h
  obtain ⟨j, h1, rfl⟩ := Option.map_eq_some_iff.mp h
  have hi : i < n := by
    rcases Nat.lt_or_ge i n with z | z
    · exact z
    · rw [List.getElem?_eq_none (by simpa using z)] at h1; cases h1
  rw [List.getElem?_range hi] at h1
  cases h1
  exact ⟨hi, by simp⟩
theorem rng1_int (j : Int) (h : -(2 ^ 62) ≤ j ∧ j < 2 ^ 62) : rng1 [.int j] = some (rngD 0 j.toNat) := if_pos h
theorem rng1_nat (m : Nat) (h : m ≤ 1000) : rng1 [.int (m : Int)] = some (rngD 0 m) := by
  have := rng1_int (m : Int) (by omega)
  rw [this, Int.toNat_natCast]
end Law

namespace Law
open PySem L2 G
abbrev cs (w : Str) : List Nat := w.cps.toList
theorem len_cs (w : Str) : w.length = (cs w).length := by simp [cs, Str.length]
theorem DG : cs ("0123456789" : Str) = [48, 49, 50, 51, 52, 53, 54, 55, 56, 57] := by decide +kernel
theorem mem_DG (c : Nat) : c ∈ cs ("0123456789" : Str) ↔ 48 ≤ c ∧ c ≤ 57 := by
  rw [DG]
  simp only [List.mem_cons, List.not_mem_nil, or_false]
  omega
def dg (w : Str) : Bool := (cs w).all fun c => decide (c ∈ cs ("0123456789" : Str))
theorem dg_all {w : Str} (h : dg w = true) : PySem.NumText.AllDigits (cs w) := fun c hc => by
  have := List.all_eq_true.mp h c hc
  exact (mem_DG c).mp (of_decide_eq_true this)
/-- a text of digits that tells a number -/
def good (w : Str) : Bool := decide (0 < w.length) && decide (w.length ≤ 1000) && dg w && !(decide ((cs w)[0]? = some 48) && !decide (w = "0"))
def val (w : Str) : Nat := PySem.NumText.digitsVal (cs w)
theorem good_parts {w : Str} (h : good w = true) : 0 < w.length ∧ w.length ≤ 1000 ∧ dg w = true ∧ ((cs w)[0]? = some 48 → w = "0") := by
  unfold good at h
  simp only [Bool.and_eq_true, decide_eq_true_eq, Bool.not_eq_true', Bool.and_eq_false_iff, decide_eq_false_iff_not, Bool.not_eq_false'] at h
  obtain ⟨⟨⟨h1, h2⟩, h3⟩, h4⟩ := h
  exact ⟨h1, h2, h3, fun z => h4.resolve_left fun q => q z⟩
theorem val_int {w : Str} (h : good w = true) : PySem.intText? w = some (val w : Int) := by
  obtain ⟨h1, h2, h3, _⟩ := good_parts h
  refine PySem.intText_digits (dg_all h3) ?_ (by omega)
  intro e
  rw [len_cs, show cs w = [] from e] at h1
  exact absurd h1 (by decide)
theorem val_zero {w : Str} (h : good w = true) : val w = 0 ↔ w = "0" := by
  obtain ⟨h1, h2, h3, h4⟩ := good_parts h
  constructor
  · intro z
    cases e : cs w with
    | nil => rw [len_cs, e] at h1; exact absurd h1 (by decide)
    | cons c r =>
      have hc := dg_all h3 c (by rw [e]; exact List.mem_cons_self ..)
      by_cases h48 : c = 48
      · exact h4 (by rw [e, h48]; rfl)
      · have := PySem.NumText.digitsVal_pos (c := c) (cs := r) (by omega)
        unfold val at z
        rw [e] at z
        omega
  · rintro rfl
    decide +kernel
theorem fold_lt : ∀ (l : List Nat) (a : Nat), (∀ c ∈ l, c ≤ 57) → l.foldl (fun acc c => acc * 10 + (c - 48)) a < (a + 1) * 10 ^ l.length
  | [], a, _ => by simp
  | c :: l, a, h => by
    have ih := fold_lt l (a * 10 + (c - 48)) fun d hd => h d (List.mem_cons_of_mem _ hd)
    have hc := h c (List.mem_cons_self ..)
    rw [List.foldl_cons, List.length_cons]
    refine Nat.lt_of_lt_of_le ih ?_
    rw [Nat.pow_succ, Nat.mul_comm (10 ^ l.length) 10, ← Nat.mul_assoc]
    exact Nat.mul_le_mul_right _ (by omega)
theorem val_lt {w : Str} (h : good w = true) : val w < 10 ^ w.length := by
  obtain ⟨h1, h2, h3, h4⟩ := good_parts h
  have := fold_lt (cs w) 0 fun c hc => (dg_all h3 c hc).2
  rw [len_cs]
  simpa [val, PySem.NumText.digitsVal] using this
theorem fs_chars (w : Str) : isFs (chars w) = true := by
  unfold chars
  generalize w.cps.toList = l
  induction l with
  | nil => rfl
  | cons c l ih => rw [List.map_cons, s_isFs1, ih]; rfl
theorem len_chars (w : Str) : (chars w).length = w.length := by simp [chars, Str.length]
theorem chars_at {w : Str} {i : Nat} {d : D} (h : (chars w)[i]? = some d) : ∃ c, (cs w)[i]? = some c ∧ d = .str ⟨#[c]⟩ := by
  unfold chars at h
  rw [List.getElem?_map] at h
  obtain ⟨c, hc, rfl⟩ := Option.map_eq_some_iff.mp h
  exact ⟨c, hc, rfl⟩
def dgi (w : Str) (i : Nat) : Bool := match (cs w)[i]? with
  | some c => decide (c ∈ cs ("0123456789" : Str))
  | none => false
theorem dgi_at {w : Str} {i c : Nat} (h : (cs w)[i]? = some c) : dgi w i = decide (c ∈ cs ("0123456789" : Str)) := by unfold dgi; rw [h]
theorem c_dg (w : Str) : compL [1] (put 1) (rt true) b_ra_digits_1 (chars w) [some (.str w), none] = some ((List.range w.length).map fun i => D.bl (dgi w i), [some (.str w), none]) := by
  rw [compL_all (fun i => D.bl (dgi w i)) (chars w) fun i d hd => ?_, len_chars]
  obtain ⟨c, hc, rfl⟩ := chars_at hd
  refine ⟨[some (.str w), some (.str ⟨#[c]⟩)], [some (.str w), some (.str ⟨#[c]⟩)], rfl, ?_, by simp [wipeE]⟩
  rw [dgi_at hc]
  simp [b_ra_digits_1]
theorem bls_map (f : Nat → Bool) (is : List Nat) : blsOf (is.map fun i => D.bl (f i)) = some (is.map f) := by
  induction is with
  | nil => rfl
  | cons i is ih => simp [blsOf, ih]
theorem all_dgi (w : Str) : ((List.range w.length).map (dgi w)).all id = dg w := by
  have key : dg w = true ↔ ∀ i, i < w.length → dgi w i = true := by
    unfold dg
    rw [List.all_eq_true]
    constructor
    · intro h i hi
      rw [len_cs] at hi
      have e := List.getElem?_eq_getElem hi
      rw [dgi_at e]
      exact h _ (List.getElem_mem _)
    · intro h c hc
      obtain ⟨i, hi⟩ := List.mem_iff_getElem?.mp hc
      have hlt : i < (cs w).length := by
        rcases Nat.lt_or_ge i (cs w).length with z | z
        · exact z
        · rw [List.getElem?_eq_none z] at hi; cases hi
      have := h i (by rw [len_cs]; exact hlt)
      rw [dgi_at hi] at this
      exact this
  rw [Bool.eq_iff_iff, key, List.all_eq_true]
  constructor
  · intro h i hi
    exact h _ (List.mem_map.mpr ⟨i, List.mem_range.mpr hi, rfl⟩)
  · intro h b hb
    obtain ⟨i, hi, rfl⟩ := List.mem_map.mp hb
    exact h i (List.mem_range.mp hi)
theorem ix0 {w : Str} {c : Nat} (hl : w.length ≤ 1000000) (h : (cs w)[0]? = some c) : ixD (.str w) (.int 0) = some (.str ⟨#[c]⟩) := by
  have e : ixD (.str w) (.int 0) = if w.length ≤ 1000000 then (atI w.cps.toList 0).map fun c => D.str ⟨#[c]⟩ else none := rfl
  have e2 : atI w.cps.toList 0 = some c := atI_nat (j := 0) h
  rw [e, if_pos hl, e2]
  rfl
theorem one_zero (c : Nat) : (⟨#[c]⟩ : Str) = "0" ↔ c = 48 := by
  have e : ("0" : Str) = ⟨#[48]⟩ := by decide +kernel
  rw [e]
  constructor
  · intro h; injection h with h; injection h with h; injection h
  · rintro rfl; rfl
theorem v_len {w : Str} (hl : w.length ≤ 1000000) : lenD (.str w) = some (.int w.length) := by
  first | rfl | exact if_pos hl
theorem v_digits {w : Str} (hl : w.length ≤ 1000000) : g_ra_digits [.str w] = some (.ok (.int (if good w = true then (val w : Int) else -1)), [none]) := by
  have c := c_dg w
  have b := bls_map (dgi w) (List.range w.length)
  have a := all_dgi w
  have lc : (chars w).length ≤ 1000000 := by rw [len_chars]; exact hl
  have it := s_intTD2 w hl
  have hlen : lenD (.str w) = some (.int w.length) := v_len hl
  by_cases h0 : 0 < w.length
  · by_cases h1 : w.length ≤ 1000
    · have h0i : (0 : Int) < w.length := by omega
      have h1i : (w.length : Int) ≤ 1000 := by omega
      by_cases h2 : dg w = true
      · rw [h2] at a
        obtain ⟨c0, hc0⟩ : ∃ c0, (cs w)[0]? = some c0 := ⟨_, List.getElem?_eq_getElem (by rw [← len_cs]; exact h0)⟩
        have ix := ix0 hl hc0
        by_cases h3 : c0 = 48
        · by_cases h4 : w = "0"
          · have g : good w = true := by unfold good; simp [h0, h1, h2, eq_true h4]
            rw [val_int g] at it
            rw [if_pos g]
            have z : (⟨#[c0]⟩ : Str) = "0" := (one_zero c0).mpr h3
            rw [z] at ix
            generalize (List.range w.length).map (fun i => D.bl (dgi w i)) = L at *
            simp only [g_ra_digits, m_ra_digits]
            simp [eChain, h0, h1, h0i, h1i, lc, wipeE, backE, keepF, c, allD, b, a, ix, eq_true h4, hlen, it]
          · have g : ¬ good w = true := fun g => h4 ((good_parts g).2.2.2 (by rw [hc0, h3]))
            rw [if_neg g]
            have z : (⟨#[c0]⟩ : Str) = "0" := (one_zero c0).mpr h3
            rw [z] at ix
            generalize (List.range w.length).map (fun i => D.bl (dgi w i)) = L at *
            simp only [g_ra_digits, m_ra_digits]
            simp [eChain, h0, h1, h0i, h1i, lc, wipeE, backE, keepF, c, allD, b, a, ix, eq_false h4, hlen]
        · have g : good w = true := by
            unfold good
            rw [hc0]
            simp [h0, h1, h2, h3]
          rw [val_int g] at it
          rw [if_pos g]
          have z : ¬ (⟨#[c0]⟩ : Str) = "0" := fun q => h3 ((one_zero c0).mp q)
          generalize (List.range w.length).map (fun i => D.bl (dgi w i)) = L at *
          simp only [g_ra_digits, m_ra_digits]
          simp [eChain, h0, h1, h0i, h1i, lc, wipeE, backE, keepF, c, allD, b, a, ix, z, hlen, it]
      · have g : ¬ good w = true := fun g => h2 (good_parts g).2.2.1
        rw [if_neg g]
        rw [Bool.eq_false_iff.mpr h2] at a
        generalize (List.range w.length).map (fun i => D.bl (dgi w i)) = L at *
        simp only [g_ra_digits, m_ra_digits]
        simp [eChain, h0, h1, h0i, h1i, lc, wipeE, backE, keepF, c, allD, b, a, hlen]
    · have g : ¬ good w = true := fun g => h1 (good_parts g).2.1
      rw [if_neg g]
      have h0i : (0 : Int) < w.length := by omega
      have h1i : ¬ (w.length : Int) ≤ 1000 := by omega
      simp only [g_ra_digits, m_ra_digits]
      simp [eChain, h0, h1, h0i, h1i, hlen]
  · have g : ¬ good w = true := fun g => h0 (good_parts g).1
    rw [if_neg g]
    have h0i : ¬ (0 : Int) < w.length := by omega
    simp only [g_ra_digits, m_ra_digits]
    simp [eChain, h0, h0i, hlen]

end Law

namespace Law
open PySem L2 G
noncomputable def t_ra_read : M Fl := sSeq (sSet 3 (eUn (splitD "/") (eName 2))) (sSeq (sIf (tB (eOp gtD (eFn (f1 lenD) (aCons (eName 3) aNil)) (rt (.int 2)))) (sRet (rt .non)) sNx) (sSeq (bnd (aCons (eCallQ g_ra_digits (aCons (eOp ixD (eName 3) (rt (.int 0))) aNil)) (aCons (eIf (tB (eOp eqD (eFn (f1 lenD) (aCons (eName 3) aNil)) (rt (.int 2)))) (eCallQ g_ra_digits (aCons (eOp ixD (eName 3) (rt (.int 1))) aNil)) (rt (.int 1))) aNil)) (putP 4 5)) (sSeq (sIf (tOrM (tB (eOp ltD (eName 4) (rt (.int 0)))) (tOrM (tAndM (tB (eOp ltD (eName 1) (rt (.int 0)))) (tB (eOp eqD (eName 4) (rt (.int 0))))) (tAndM (tB (eOp eqD (eFn (f1 lenD) (aCons (eName 3) aNil)) (rt (.int 2)))) (tB (eOp ltD (eName 5) (rt (.int 2))))))) (sRet (rt .non)) sNx) (sRet (eIf (tB (eOp eqD (eCallQ g_ra_divisor (aCons (eName 4) (aCons (eName 5) aNil))) (rt (.int 1)))) (eFn gTup (aCons (eOp mulD (eName 1) (eName 4)) (aCons (eName 5) aNil))) (rt .non))))))
theorem t_ra_read_eq : m_ra_read = sSeq (bnd (eIf (tB (eOp eqD (eSl (eName 0) (rt none) (eI (rt (.int 1)))) (rt (.str "-")))) (eFn gTup (aCons (eUn negD (rt (.int 1))) (aCons (eSl (eName 0) (eI (rt (.int 1))) (rt none)) aNil))) (eFn gTup (aCons (rt (.int 1)) (aCons (eName 0) aNil)))) (tgTup 2 (tgCons (put 1) (tgCons (put 2) tgNil)))) t_ra_read := rfl
noncomputable def t_law_read : M Fl := sSeq (sSet 3 (eUn (splitD "/") (eName 2))) (sSeq (sFor (iItems (eName 3)) (put 4) b_law_read_3) (sSeq (sIf (tOrM (tB (eOp gtD (eFn (f1 lenD) (aCons (eName 3) aNil)) (rt (.int 2)))) (tAndM (tB (eOp ltD (eName 1) (rt (.int 0)))) (tB (eOp eqD (eOp ixD (eName 3) (rt (.int 0))) (rt (.str "0")))))) (sRet (rt .non)) sNx) (sSeq (bnd (aCons (eFn (f1 intTD) (aCons (eOp ixD (eName 3) (rt (.int 0))) aNil)) (aCons (eIf (tB (eOp eqD (eFn (f1 lenD) (aCons (eName 3) aNil)) (rt (.int 2)))) (eFn (f1 intTD) (aCons (eOp ixD (eName 3) (rt (.int 1))) aNil)) (rt (.int 1))) aNil)) (putP 6 7)) (sSeq (sIf (tOrM (tAndM (tB (eOp eqD (eFn (f1 lenD) (aCons (eName 3) aNil)) (rt (.int 2)))) (tB (eOp ltD (eName 7) (rt (.int 2))))) (tB (eOp neD (eCallQ g_law_divisor (aCons (eName 6) (aCons (eName 7) aNil))) (rt (.int 1))))) (sRet (rt .non)) sNx) (sRet (eFn gTup (aCons (eOp mulD (eName 1) (eName 6)) (aCons (eName 7) aNil))))))))
theorem t_law_read_eq : m_law_read = sSeq (bnd (eIf (tB (eOp eqD (eSl (eName 0) (rt none) (eI (rt (.int 1)))) (rt (.str "-")))) (eFn gTup (aCons (eUn negD (rt (.int 1))) (aCons (eSl (eName 0) (eI (rt (.int 1))) (rt none)) aNil))) (eFn gTup (aCons (rt (.int 1)) (aCons (eName 0) aNil)))) (tgTup 2 (tgCons (put 1) (tgCons (put 2) tgNil)))) t_law_read := rfl
theorem val_big {w : Str} (h : good w = true) : val w < 2 ^ 4000 := by
  have h1 := val_lt h
  have h2 := (good_parts h).2.1
  have h3 : (10 : Nat) ^ w.length ≤ 10 ^ 1000 := Nat.pow_le_pow_right (by decide) h2
  have h4 : (10 : Nat) ^ 1000 ≤ 16 ^ 1000 := Nat.pow_le_pow_left (by decide) 1000
  have h5 : (16 : Nat) ^ 1000 = 2 ^ 4000 := by rw [show (16 : Nat) = 2 ^ 4 from rfl, ← Nat.pow_mul]
  rw [← h5]
  exact Nat.lt_of_lt_of_le h1 (Nat.le_trans h3 h4)
def rdp (sg : Int) : List Str → Option (Int × Int)
  | [p] => if good p = true ∧ ¬ (sg < 0 ∧ val p = 0) then some (sg * val p, 1) else none
  | [p, q] => if good p = true ∧ good q = true ∧ ¬ (sg < 0 ∧ val p = 0) ∧ 2 ≤ val q ∧ Nat.gcd (val p) (val q) = 1 then some (sg * val p, (val q : Int)) else none
  | _ => none
def resD : Option (Int × Int) → D
  | some x => dT x
  | none => .non
abbrev sp (r : Str) : List Str := Txt.split r "/"
theorem slash_ok : (("/" : Str).length == 0) = false := by decide +kernel
theorem l_ix0 (d : D) (ds : List D) : ixD (.lst false (d :: ds)) (.int 0) = some d := atI_nat (j := 0) rfl
theorem l_ix1 (d e : D) (ds : List D) : ixD (.lst false (d :: e :: ds)) (.int 1) = some e := atI_nat (j := 1) rfl
theorem fs_strs : ∀ ys : List Str, isFs (ys.map D.str) = true
  | [] => rfl
  | y :: ys => by rw [List.map_cons, s_isFs1, fs_strs ys]; rfl
theorem sgm {sg : Int} (hs : sg = 1 ∨ sg = -1) {a : Nat} (h : a < 2 ^ 4000) : sg.natAbs.log2 + a.log2 < 1000000 := by
  have := mul_ok (i := sg) (j := (a : Int)) (n := 1) (m := 4000) (by rcases hs with rfl | rfl <;> decide) (by rw [Int.natAbs_natCast]; exact h) (by decide) (by decide) (by decide)
  rw [Int.natAbs_natCast] at this
  exact this
def fin (o : Rs Fl) : Option (Except Xn D × En) := match o with
  | some (.error x, ρ) => some (.error x, keep [false] ρ)
  | some (.ok (.rt d), ρ) => some (.ok d, keep [false] ρ)
  | some (.ok .nx, ρ) => some (.ok .non, keep [false] ρ)
  | _ => none
@[simp] theorem s_fin (d : D) (x : Option D) (ρ : En) : fin (some (.ok (.rt d), x :: ρ)) = some (.ok d, [none]) := by
  show some (Except.ok d, keep [false] (x :: ρ)) = _
  cases ρ <;> rfl
theorem tl_read {t r : Str} {sg : Int} {ps : List Str} (hs : sg = 1 ∨ sg = -1) (hl : r.length ≤ 1000000) (hp : sp r = ps) (hps : ∀ p ∈ ps, p.length ≤ 1000000) (hne : ps ≠ []) : fin (t_ra_read [some (.str t), some (.int sg), some (.str r), none, none, none]) = some (.ok (resD (rdp sg ps)), [none]) := by
  have sl := s_split r "/" slash_ok hl
  rw [show Txt.split r "/" = ps from hp] at sl
  match ps, hne, hps, sl with
  | [p], _, hps, sl =>
    have d := v_digits (hps p (by simp))
    have g1 := g_div (val p) 1 (big_of (n := 1) (by decide) (by decide))
    by_cases g : good p = true
    · rw [if_pos g] at d
      have m := sgm hs (val_big g)
      rw [Int.gcd_one_right] at g1
      by_cases z : sg < 0 ∧ val p = 0
      · have e : rdp sg [p] = none := if_neg fun h => h.2 z
        rw [e]
        simp [t_ra_read, sl, l_ix0, d, z.1, z.2, resD]
      · have e : rdp sg [p] = some (sg * val p, 1) := if_pos ⟨g, z⟩
        rw [e]
        have nn : ¬ (val p : Int) < 0 := by omega
        by_cases z1 : sg < 0
        · have z2 : ¬ (val p : Int) = 0 := fun q => z ⟨z1, by omega⟩
          have z2n : ¬ val p = 0 := fun q => z ⟨z1, q⟩
          simp [t_ra_read, sl, l_ix0, d, z1, z2, z2n, nn, g1, m, resD]
        · simp [t_ra_read, sl, l_ix0, d, z1, nn, g1, m, resD]
    · rw [if_neg g] at d
      have e : rdp sg [p] = none := if_neg fun h => g h.1
      rw [e]
      simp [t_ra_read, sl, l_ix0, d, resD]
  | [p, q], _, hps, sl =>
    have d := v_digits (hps p (by simp))
    have d2 := v_digits (hps q (by simp))
    by_cases g : good p = true
    · rw [if_pos g] at d
      have nn : ¬ (val p : Int) < 0 := by omega
      have m := sgm hs (val_big g)
      by_cases h : good q = true
      · rw [if_pos h] at d2
        have g1 := g_div (val p) (val q) (big_of (n := 4000) (by rw [Int.natAbs_natCast]; exact val_big h) (by decide))
        rw [Int.gcd_natCast_natCast] at g1
        by_cases z : sg < 0 ∧ val p = 0
        · have e : rdp sg [p, q] = none := if_neg fun h => h.2.2.1 z
          rw [e]
          simp [t_ra_read, sl, l_ix0, l_ix1, d, d2, z.1, z.2, resD]
        · by_cases b2 : 2 ≤ val q
          · have b2i : ¬ (val q : Int) < 2 := by omega
            have b2n : ¬ val q < 2 := by omega
            have zz : ¬ sg < 0 ∨ ¬ (val p : Int) = 0 := by
              by_cases z1 : sg < 0
              · exact .inr fun q => z ⟨z1, by omega⟩
              · exact .inl z1
            by_cases gc : Nat.gcd (val p) (val q) = 1
            · have e : rdp sg [p, q] = some (sg * val p, (val q : Int)) := if_pos ⟨g, h, z, b2, gc⟩
              rw [e]
              rw [gc] at g1
              have zn : (¬ (val p : Int) = 0) → ¬ val p = 0 := fun h q => h (by omega)
              rcases zz with z1 | z1
              · simp [t_ra_read, sl, l_ix0, l_ix1, d, d2, z1, nn, b2i, b2n, g1, m, resD]
              · have z1n := zn z1
                by_cases z2 : sg < 0 <;> simp [t_ra_read, sl, l_ix0, l_ix1, d, d2, z1, z1n, z2, nn, b2i, b2n, g1, m, resD]
            · have e : rdp sg [p, q] = none := if_neg fun h => gc h.2.2.2.2
              rw [e]
              have gci : ¬ ((Nat.gcd (val p) (val q) : Nat) : Int) = 1 := fun z => gc (by omega)
              have zn : (¬ (val p : Int) = 0) → ¬ val p = 0 := fun h q => h (by omega)
              rcases zz with z1 | z1
              · simp [t_ra_read, sl, l_ix0, l_ix1, d, d2, z1, nn, b2i, b2n, g1, gci, gc, resD]
              · have z1n := zn z1
                by_cases z2 : sg < 0 <;> simp [t_ra_read, sl, l_ix0, l_ix1, d, d2, z1, z1n, z2, nn, b2i, b2n, g1, gci, gc, resD]
          · have e : rdp sg [p, q] = none := if_neg fun h => b2 h.2.2.2.1
            rw [e]
            have b2i : (val q : Int) < 2 := by omega
            have b2n : val q < 2 := by omega
            by_cases z1 : sg < 0 <;> by_cases z2 : val p = 0 <;> simp [t_ra_read, sl, l_ix0, l_ix1, d, d2, z1, z2, nn, b2i, b2n, resD]
      · rw [if_neg h] at d2
        have e : rdp sg [p, q] = none := if_neg fun k => h k.2.1
        rw [e]
        by_cases z1 : sg < 0 <;> by_cases z2 : val p = 0 <;> simp [t_ra_read, sl, l_ix0, l_ix1, d, d2, z1, z2, nn, resD]
    · rw [if_neg g] at d
      have e : rdp sg [p, q] = none := if_neg fun k => g k.1
      rw [e]
      by_cases h : good q = true
      · rw [if_pos h] at d2
        simp [t_ra_read, sl, l_ix0, l_ix1, d, d2, resD]
      · rw [if_neg h] at d2
        simp [t_ra_read, sl, l_ix0, l_ix1, d, d2, resD]
  | p :: q :: x :: l, _, hps, sl =>
    have e : rdp sg (p :: q :: x :: l) = none := rfl
    rw [e]
    have fl := fs_strs l
    have big : (2 : Int) < l.length + 1 + 1 + 1 := by omega
    simp [t_ra_read, sl, fl, big, resD]

end Law

namespace Law
open PySem L2 G
def sg1 (w : Str) (i : Nat) : D := match (cs w)[i]? with
  | some c => .str ⟨#[c]⟩
  | none => .non
theorem sg1_at {w : Str} {i c : Nat} (h : (cs w)[i]? = some c) : sg1 w i = .str ⟨#[c]⟩ := by unfold sg1; rw [h]
def odd (w : Str) : List D := ((List.range w.length).filter fun i => !dgi w i).map (sg1 w)
theorem c_odd (w : Str) {o0 o1 o2 o3 o6 o7 : Option D} : compL [5] (put 5) b_law_read_2 b_law_read_1 (chars w) [o0, o1, o2, o3, some (.str w), none, o6, o7] = some (odd w, [o0, o1, o2, o3, some (.str w), none, o6, o7]) := by
  have := compL_flt (vs := [5]) (tgt := put 5) (c := b_law_read_2) (e := b_law_read_1) (ρ := [o0, o1, o2, o3, some (.str w), none, o6, o7]) (fun i => !dgi w i) (sg1 w) (chars w) 0 (fun i d hd => by
    obtain ⟨c, hc, rfl⟩ := chars_at hd
    rw [Nat.zero_add, dgi_at hc, sg1_at hc]
    refine ⟨[o0, o1, o2, o3, some (.str w), some (.str ⟨#[c]⟩), o6, o7], [o0, o1, o2, o3, some (.str w), some (.str ⟨#[c]⟩), o6, o7], rfl, ?_, fun _ => ⟨[o0, o1, o2, o3, some (.str w), some (.str ⟨#[c]⟩), o6, o7], by simp [b_law_read_1], by simp [wipeE]⟩, fun _ => by simp [wipeE]⟩
    simp [b_law_read_2])
  rw [this, len_chars]
  simp only [Nat.zero_add]
  rfl
theorem odd_mem {w : Str} {d : D} (h : d ∈ odd w) : ∃ c, c ∈ cs w ∧ d = .str ⟨#[c]⟩ ∧ c ∉ cs ("0123456789" : Str) := by
  unfold odd at h
  obtain ⟨i, hi, rfl⟩ := List.mem_map.mp h
  obtain ⟨h1, h2⟩ := List.mem_filter.mp hi
  have hlt := List.mem_range.mp h1
  rw [len_cs] at hlt
  have e := List.getElem?_eq_getElem hlt
  rw [dgi_at e] at h2
  exact ⟨_, List.getElem_mem _, sg1_at e, by simpa using h2⟩
theorem odd_nil {w : Str} : odd w = [] ↔ dg w = true := by
  constructor
  · intro h
    unfold dg
    rw [List.all_eq_true]
    intro c hc
    obtain ⟨i, hi⟩ := List.mem_iff_getElem?.mp hc
    by_cases z : c ∈ cs ("0123456789" : Str)
    · exact decide_eq_true z
    · have hlt : i < w.length := by
        rw [len_cs]
        rcases Nat.lt_or_ge i (cs w).length with q | q
        · exact q
        · rw [List.getElem?_eq_none q] at hi; cases hi
      have : sg1 w i ∈ odd w := List.mem_map.mpr ⟨i, List.mem_filter.mpr ⟨List.mem_range.mpr hlt, by rw [dgi_at hi]; simpa using z⟩, rfl⟩
      rw [h] at this; cases this
  · intro h
    cases e : odd w with
    | nil => rfl
    | cons d l =>
      obtain ⟨c, h1, _, h3⟩ := odd_mem (w := w) (d := d) (by rw [e]; exact List.mem_cons_self ..)
      exact absurd (of_decide_eq_true (List.all_eq_true.mp h c h1)) h3
theorem ok1 : ∀ c, c < 128 → (PyData.str ⟨#[c]⟩).canLay0 = true := by decide +kernel
theorem pys_signs : ∀ l : List D, (∀ d ∈ l, ∃ c, c < 128 ∧ d = .str ⟨#[c]⟩) → ∃ ps, pys l = some ps ∧ PyData.canLayAll0 ps = true ∧ PyData.depthAll ps ≤ 1 ∧ ps.length = l.length
  | [], _ => ⟨[], rfl, rfl, by decide, rfl⟩
  | d :: l, h => by
    obtain ⟨c, hc, rfl⟩ := h d (List.mem_cons_self ..)
    obtain ⟨ps, h1, h2, h3, h4⟩ := pys_signs l fun e he => h e (List.mem_cons_of_mem _ he)
    refine ⟨.str ⟨#[c]⟩ :: ps, by simp [pys, py, h1], ?_, ?_, by simp [h4]⟩
    · have := ok1 c hc
      simp only [PyData.canLayAll0, h2, Bool.and_true]
      exact this
    · simp only [PyData.depthAll, PyData.depth]
      omega
theorem ne_nil {l : List D} (h : ∀ d ∈ l, ∃ c, c < 128 ∧ d = .str ⟨#[c]⟩) : neD (.lst false l) (.lst false []) = some (.bl (!decide (l = []))) := by
  obtain ⟨ps, h1, h2, h3, h4⟩ := pys_signs l h
  have s1 : SeqAt.shaped (.list ps) = true := by
    simp only [SeqAt.shaped, PyData.canLay0, PyData.depth, h2]
    simp
    omega
  have e : eqP (.lst false l) (.lst false []) = some (PyData.eqv (.list ps) (.list [])) := by
    simp only [eqP, py, h1, pys, Option.map_some]
    rw [if_pos ⟨s1, by decide⟩]
  have e2 : PyData.eqv (.list ps) (.list []) = decide (l = []) := by
    cases l with
    | nil =>
      cases ps with
      | nil => rfl
      | cons p ps => simp at h4
    | cons d l =>
      cases ps with
      | nil => simp at h4
      | cons p ps => simp [PyData.eqv, PyData.eqvAll]
  show (eqP _ _).map (fun b => D.bl !b) = _
  rw [e, e2]
  rfl
theorem fs_odd (w : Str) : isFs (odd w) = true := by
  have : ∀ l : List D, (∀ d ∈ l, ∃ c : Nat, d = .str ⟨#[c]⟩) → isFs l = true := fun l => by
    induction l with
    | nil => exact fun _ => rfl
    | cons d l ih =>
      intro h
      obtain ⟨c, rfl⟩ := h d (List.mem_cons_self ..)
      rw [s_isFs1, ih fun e he => h e (List.mem_cons_of_mem _ he)]; rfl
  exact this _ fun d hd => by
    obtain ⟨c, _, h, _⟩ := odd_mem hd
    exact ⟨c, h⟩
/-- a part, judged by the law -/
theorem b3 {w : Str} (hl : w.length ≤ 1000000) (h128 : ∀ c ∈ cs w, c < 128) {o0 o1 o2 o3 o6 o7 : Option D} :
    b_law_read_3 [o0, o1, o2, o3, some (.str w), none, o6, o7] = some (.ok (if good w = true then .nx else .rt .non), [o0, o1, o2, o3, some (.str w), none, o6, o7]) := by
  have c := c_odd w (o0 := o0) (o1 := o1) (o2 := o2) (o3 := o3) (o6 := o6) (o7 := o7)
  have lc : (chars w).length ≤ 1000000 := by rw [len_chars]; exact hl
  have hlen : lenD (.str w) = some (.int w.length) := v_len hl
  have ne := ne_nil (l := odd w) fun d hd => by
    obtain ⟨c, h1, h2, _⟩ := odd_mem hd
    exact ⟨c, h128 c h1, h2⟩
  have em : w = "" ↔ w.length = 0 := by
    constructor
    · rintro rfl; rfl
    · intro z
      have h := List.eq_nil_of_length_eq_zero (l := cs w) (by rw [← len_cs]; exact z)
      exact TL.ext_tl (h.trans rfl)
  by_cases h0 : w.length = 0
  · have g : ¬ good w = true := fun g => by have := (good_parts g).1; omega
    rw [if_neg g]
    simp [b_law_read_3, eq_true (em.mpr h0)]
  · have hne : ¬ w = "" := fun z => h0 (em.mp z)
    by_cases h1 : w.length ≤ 1000
    · have h1i : ¬ (1000 : Int) < w.length := by omega
      have h1n : ¬ 1000 < w.length := by omega
      by_cases h2 : dg w = true
      · have e := odd_nil.mpr h2
        rw [e] at ne c
        have ne : neD (.lst false []) (.lst false []) = some (.bl false) := ne
        obtain ⟨c0, hc0⟩ : ∃ c0, (cs w)[0]? = some c0 := ⟨_, List.getElem?_eq_getElem (by rw [← len_cs]; omega)⟩
        have ix := ix0 hl hc0
        by_cases h3 : c0 = 48
        · have z : (⟨#[c0]⟩ : Str) = "0" := (one_zero c0).mpr h3
          rw [z] at ix
          by_cases h4 : w = "0"
          · have g : good w = true := by unfold good; simp [show 0 < w.length by omega, h1, h2, eq_true h4]
            rw [if_pos g]
            simp [b_law_read_3, eq_false hne, hlen, h1i, h1n, lc, wipeE, backE, keepF, c, ne, ix, eq_true h4]
          · have g : ¬ good w = true := fun g => h4 ((good_parts g).2.2.2 (by rw [hc0, h3]))
            rw [if_neg g]
            simp [b_law_read_3, eq_false hne, hlen, h1i, h1n, lc, wipeE, backE, keepF, c, ne, ix, eq_false h4]
        · have g : good w = true := by
            unfold good
            rw [hc0]
            simp [show 0 < w.length by omega, h1, h2, h3]
          rw [if_pos g]
          have z : ¬ (⟨#[c0]⟩ : Str) = "0" := fun q => h3 ((one_zero c0).mp q)
          simp [b_law_read_3, eq_false hne, hlen, h1i, h1n, lc, wipeE, backE, keepF, c, ne, ix, eq_false z]
      · have g : ¬ good w = true := fun g => h2 (good_parts g).2.2.1
        rw [if_neg g]
        rw [decide_eq_false (fun z => h2 (odd_nil.mp z))] at ne
        have fo := fs_odd w
        generalize odd w = O at *
        simp [b_law_read_3, eq_false hne, hlen, h1i, h1n, lc, wipeE, backE, keepF, c, ne, fo]
    · have g : ¬ good w = true := fun g => h1 (good_parts g).2.1
      rw [if_neg g]
      have h1i : (1000 : Int) < w.length := by omega
      have h1n : 1000 < w.length := by omega
      simp [b_law_read_3, eq_false hne, hlen, h1i, h1n]

end Law

namespace Law
open PySem L2 G
theorem strs_at {ps : List Str} {i : Nat} {d : D} (h : (ps.map D.str)[i]? = some d) : ∃ p, ps[i]? = some p ∧ d = .str p := by
  rw [List.getElem?_map] at h
  obtain ⟨p, hp, rfl⟩ := Option.map_eq_some_iff.mp h
  exact ⟨p, hp, rfl⟩
theorem lt_of {α : Type} {xs : List α} {i : Nat} {x : α} (h : xs[i]? = some x) : i < xs.length := by
  rcases Nat.lt_or_ge i xs.length with z | z
  · exact z
  · rw [List.getElem?_eq_none z] at h; cases h
/-- the law's loop over the parts -/
theorem loop3 {t r : Str} {sg : Int} {ps : List Str} (hps : ∀ p ∈ ps, p.length ≤ 1000000 ∧ ∀ c ∈ cs p, c < 128) :
    ∃ o4, ((∃ p ∈ ps, ¬ good p = true) ∧ G.forM (put 4) b_law_read_3 (ps.map D.str) [some (.str t), some (.int sg), some (.str r), some (.lst false (ps.map D.str)), none, none, none, none] = some (.ok (.rt .non), [some (.str t), some (.int sg), some (.str r), some (.lst false (ps.map D.str)), o4, none, none, none])) ∨
      ((∀ p ∈ ps, good p = true) ∧ G.forM (put 4) b_law_read_3 (ps.map D.str) [some (.str t), some (.int sg), some (.str r), some (.lst false (ps.map D.str)), none, none, none, none] = some (.ok .nx, [some (.str t), some (.int sg), some (.str r), some (.lst false (ps.map D.str)), o4, none, none, none])) := by
  obtain ⟨ρ', ⟨o4, rfl⟩, h⟩ := forM_first (tgt := put 4) (b := b_law_read_3) (fun ρ => ∃ o4, ρ = [some (.str t), some (.int sg), some (.str r), some (.lst false (ps.map D.str)), o4, none, none, none]) (fun i => ∃ p, ps[i]? = some p ∧ ¬ good p = true) (fun _ => .non) (ps.map D.str) 0 [some (.str t), some (.int sg), some (.str r), some (.lst false (ps.map D.str)), none, none, none, none]
    (fun i d ρ hd hI => by
      obtain ⟨o4, rfl⟩ := hI
      obtain ⟨p, hp, rfl⟩ := strs_at hd
      obtain ⟨h1, h2⟩ := hps p (List.mem_of_getElem? hp)
      have b := b3 h1 h2 (o0 := some (.str t)) (o1 := some (.int sg)) (o2 := some (.str r)) (o3 := some (.lst false (ps.map D.str))) (o6 := none) (o7 := none)
      refine ⟨[some (.str t), some (.int sg), some (.str r), some (.lst false (ps.map D.str)), some (.str p), none, none, none], [some (.str t), some (.int sg), some (.str r), some (.lst false (ps.map D.str)), some (.str p), none, none, none], rfl, ⟨_, rfl⟩, ?_⟩
      rw [Nat.zero_add]
      by_cases g : good p = true
      · rw [if_pos g] at b
        refine .inr ⟨fun ⟨p', h3, h4⟩ => ?_, b⟩
        rw [hp] at h3; cases h3; exact h4 g
      · rw [if_neg g] at b
        exact .inl ⟨⟨p, hp, g⟩, b⟩) ⟨_, rfl⟩
  simp only [Nat.zero_add, List.length_map] at h
  refine ⟨o4, ?_⟩
  rcases h with ⟨i, hi, ⟨p, hp, g⟩, _, h⟩ | ⟨hall, h⟩
  · exact .inl ⟨⟨p, List.mem_of_getElem? hp, g⟩, h⟩
  · refine .inr ⟨fun p hp => ?_, h⟩
    obtain ⟨i, hi⟩ := List.mem_iff_getElem?.mp hp
    by_cases g : good p = true
    · exact g
    · exact absurd ⟨p, hi, g⟩ (hall i (lt_of hi))
theorem rdp_bad {sg : Int} {ps : List Str} (h : ∃ p ∈ ps, ¬ good p = true) : rdp sg ps = none := by
  obtain ⟨p, hp, g⟩ := h
  match ps, hp with
  | [a], hp =>
    rw [List.mem_singleton] at hp
    subst hp
    exact if_neg fun h => g h.1
  | [a, b], hp =>
    refine if_neg fun h => ?_
    rcases List.mem_cons.mp hp with rfl | z
    · exact g h.1
    · rw [List.mem_singleton] at z
      subst z
      exact g h.2.1
  | a :: b :: c :: l, _ => rfl
theorem tl_law {t r : Str} {sg : Int} {ps : List Str} (hs : sg = 1 ∨ sg = -1) (hl : r.length ≤ 1000000) (hp : sp r = ps) (hps : ∀ p ∈ ps, p.length ≤ 1000000 ∧ ∀ c ∈ cs p, c < 128) (hne : ps ≠ []) :
    fin (t_law_read [some (.str t), some (.int sg), some (.str r), none, none, none, none, none]) = some (.ok (resD (rdp sg ps)), [none]) := by
  have sl := s_split r "/" slash_ok hl
  rw [show Txt.split r "/" = ps from hp] at sl
  obtain ⟨o4, ⟨hb, lp⟩ | ⟨hg, lp⟩⟩ := loop3 (t := t) (r := r) (sg := sg) hps
  · rw [rdp_bad hb]
    have fp := fs_strs ps
    generalize ps.map D.str = L at *
    simp [t_law_read, sl, fp, lp, resD]
  · match ps, hne, hps, hg, sl, lp with
    | [p], _, hps, hg, sl, lp =>
      have g := hg p (by simp)
      have it := s_intTD2 p (hps p (by simp)).1
      rw [val_int g] at it
      have g1 := g_ldiv (val p) 1 (big_of (n := 1) (by decide) (by decide))
      rw [Int.gcd_one_right] at g1
      have m := sgm hs (val_big g)
      have vz := val_zero g
      by_cases z : sg < 0 ∧ val p = 0
      · have e : rdp sg [p] = none := if_neg fun h => h.2 z
        rw [e]
        simp at lp
        simp [t_law_read, sl, lp, l_ix0, z.1, eq_true (vz.mp z.2), resD]
      · have e : rdp sg [p] = some (sg * val p, 1) := if_pos ⟨g, z⟩
        rw [e]
        simp at lp
        by_cases z1 : sg < 0
        · have z2 : ¬ p = "0" := fun q => z ⟨z1, vz.mpr q⟩
          simp [t_law_read, sl, lp, l_ix0, z1, eq_false z2, it, g1, m, resD]
        · simp [t_law_read, sl, lp, l_ix0, z1, it, g1, m, resD]
    | [p, q], _, hps, hg, sl, lp =>
      have g := hg p (by simp)
      have h := hg q (by simp)
      have it := s_intTD2 p (hps p (by simp)).1
      have it2 := s_intTD2 q (hps q (by simp)).1
      rw [val_int g] at it
      rw [val_int h] at it2
      have g1 := g_ldiv (val p) (val q) (big_of (n := 4000) (by rw [Int.natAbs_natCast]; exact val_big h) (by decide))
      rw [Int.gcd_natCast_natCast] at g1
      have m := sgm hs (val_big g)
      have vz := val_zero g
      simp at lp
      by_cases z : sg < 0 ∧ val p = 0
      · have e : rdp sg [p, q] = none := if_neg fun h => h.2.2.1 z
        rw [e]
        simp [t_law_read, sl, lp, l_ix0, l_ix1, z.1, eq_true (vz.mp z.2), resD]
      · have zz : ¬ sg < 0 ∨ ¬ p = "0" := by
          by_cases z1 : sg < 0
          · exact .inr fun q => z ⟨z1, vz.mpr q⟩
          · exact .inl z1
        by_cases b2 : 2 ≤ val q
        · have b2i : ¬ (val q : Int) < 2 := by omega
          have b2n : ¬ val q < 2 := by omega
          by_cases gc : Nat.gcd (val p) (val q) = 1
          · have e : rdp sg [p, q] = some (sg * val p, (val q : Int)) := if_pos ⟨g, h, z, b2, gc⟩
            rw [e]
            rw [gc] at g1
            rcases zz with z1 | z1
            · simp [t_law_read, sl, lp, l_ix0, l_ix1, z1, it, it2, b2i, b2n, g1, m, resD]
            · by_cases z2 : sg < 0 <;> simp [t_law_read, sl, lp, l_ix0, l_ix1, eq_false z1, z2, it, it2, b2i, b2n, g1, m, resD]
          · have e : rdp sg [p, q] = none := if_neg fun h => gc h.2.2.2.2
            rw [e]
            have gci : ¬ ((Nat.gcd (val p) (val q) : Nat) : Int) = 1 := fun z => gc (by omega)
            rcases zz with z1 | z1
            · simp [t_law_read, sl, lp, l_ix0, l_ix1, z1, it, it2, b2i, b2n, g1, gci, gc, resD]
            · by_cases z2 : sg < 0 <;> simp [t_law_read, sl, lp, l_ix0, l_ix1, eq_false z1, z2, it, it2, b2i, b2n, g1, gci, gc, resD]
        · have e : rdp sg [p, q] = none := if_neg fun h => b2 h.2.2.2.1
          rw [e]
          have b2i : (val q : Int) < 2 := by omega
          have b2n : val q < 2 := by omega
          rcases zz with z1 | z1
          · simp [t_law_read, sl, lp, l_ix0, l_ix1, z1, it, it2, b2i, b2n, resD]
          · by_cases z2 : sg < 0 <;> simp [t_law_read, sl, lp, l_ix0, l_ix1, eq_false z1, z2, it, it2, b2i, b2n, resD]
    | p :: q :: x :: l, _, hps, hg, sl, lp =>
      have e : rdp sg (p :: q :: x :: l) = none := rfl
      rw [e]
      have fl := fs_strs l
      have big : (2 : Int) < l.length + 1 + 1 + 1 := by omega
      simp at lp
      simp [t_law_read, sl, lp, fl, big, resD]
theorem spl_mem (S : List Nat) : ∀ (k : Nat) (acc l z : List Nat), z ∈ TL.spl S k acc l → ∀ c ∈ z, c ∈ acc ∨ c ∈ l
  | 0, acc, [], z, h, c, hc => by
    unfold TL.spl at h
    rw [List.mem_singleton] at h
    subst h
    exact .inl hc
  | k + 1, acc, [], z, h, c, hc => by
    unfold TL.spl at h
    rw [List.mem_singleton] at h
    subst h
    exact .inl hc
  | 0, acc, a :: l, z, h, c, hc => by
    unfold TL.spl at h
    split at h
    · rcases List.mem_cons.mp h with rfl | h
      · exact .inl hc
      · rcases spl_mem S _ [] l z h c hc with q | q
        · cases q
        · exact .inr (List.mem_cons_of_mem _ q)
    · rcases spl_mem S 0 _ l z h c hc with q | q
      · rcases List.mem_append.mp q with q | q
        · exact .inl q
        · rw [List.mem_singleton] at q
          exact .inr (by rw [q]; exact List.mem_cons_self ..)
      · exact .inr (List.mem_cons_of_mem _ q)
  | k + 1, acc, a :: l, z, h, c, hc => by
    unfold TL.spl at h
    rcases spl_mem S k acc l z h c hc with q | q
    · exact .inl q
    · exact .inr (List.mem_cons_of_mem _ q)
theorem slash_cs : cs ("/" : Str) = [47] := by decide +kernel
theorem sp_spl (r : Str) : (sp r).map cs = TL.spl [47] 0 [] (cs r) := by
  have := TL.split_spl r "/" (by rw [show TL.tl ("/" : Str) = [47] from slash_cs]; simp) (TL.kind_ok (by decide +kernel))
  rw [show TL.tl ("/" : Str) = [47] from slash_cs] at this
  exact this
theorem sp_chars {r p : Str} (h : p ∈ sp r) : ∀ c ∈ cs p, c ∈ cs r := fun c hc => by
  have : cs p ∈ TL.spl [47] 0 [] (cs r) := by
    rw [← sp_spl]
    exact List.mem_map.mpr ⟨p, h, rfl⟩
  rcases spl_mem _ _ _ _ _ this c hc with q | q
  · cases q
  · exact q
theorem sp_ne (r : Str) : sp r ≠ [] := by
  intro h
  have := PyProof.Rows.split_pos r "/"
  rw [show Txt.split r "/" = [] from h] at this
  exact absurd this (by decide)
theorem sp_len {r p : Str} (h : p ∈ sp r) : p.length ≤ r.length := PyProof.Rows.part_short h
theorem sp_one {r : Str} (h : 47 ∉ cs r) : sp r = [r] := by
  have := sp_spl r
  rw [TL.spl_last1 h, List.nil_append] at this
  cases e : sp r with
  | nil => rw [e] at this; cases this
  | cons p l =>
    rw [e, List.map_cons] at this
    injection this with h1 h2
    rw [List.map_eq_nil_iff.mp h2, TL.ext_tl h1]
theorem sp_two {a b : Str} (ha : 47 ∉ cs a) (hb : 47 ∉ cs b) : sp (a ++ "/" ++ b) = [a, b] := by
  have e : cs (a ++ "/" ++ b) = cs a ++ ([47] ++ cs b) := by
    have h1 : cs (a ++ "/" ++ b) = TL.tl (a ++ "/") ++ TL.tl b := TL.tl_append _ _
    have h2 : TL.tl (a ++ "/") = TL.tl a ++ TL.tl "/" := TL.tl_append _ _
    rw [h1, h2, show TL.tl ("/" : Str) = [47] from slash_cs, List.append_assoc]
  have := sp_spl (a ++ "/" ++ b)
  rw [e, TL.spl_part1 ha, TL.spl_last1 hb, List.nil_append, List.nil_append] at this
  cases e : sp (a ++ "/" ++ b) with
  | nil => rw [e] at this; cases this
  | cons p l =>
    rw [e, List.map_cons] at this
    injection this with h1 h2
    cases l with
    | nil => cases h2
    | cons q l =>
      rw [List.map_cons] at h2
      injection h2 with h2 h3
      rw [List.map_eq_nil_iff.mp h3, TL.ext_tl h1, TL.ext_tl h2]

end Law

namespace Law
open PySem L2 G
def rd (t : Str) : Option (Int × Int) := if cutS t none (some 1) = "-" then rdp (-1) (sp (cutS t (some 1) none)) else rdp 1 (sp t)
theorem cs_to (z : Str) (k : Nat) : cs (cutS z none (some (k : Int))) = (cs z).take k := by
  show ((z.cps.toList.drop (HT.sIx z.length 0 none)).take (HT.sIx z.length z.length (some (k : Int)) - HT.sIx z.length 0 none)) = _
  rw [HT.sIx_nat, HT.sIx_none, List.drop_zero, Nat.sub_zero, len_cs]
  rcases Nat.le_total k (cs z).length with h | h
  · rw [Nat.min_eq_left h]
  · rw [Nat.min_eq_right h, List.take_of_length_le h, List.take_of_length_le (Nat.le_refl _)]
theorem cs_from (z : Str) (k : Nat) : cs (cutS z (some (k : Int)) none) = (cs z).drop k := by
  show ((z.cps.toList.drop (HT.sIx z.length 0 (some (k : Int)))).take (HT.sIx z.length z.length none - HT.sIx z.length 0 (some (k : Int)))) = _
  rw [HT.sIx_nat, HT.sIx_none, len_cs]
  rcases Nat.le_total k (cs z).length with h | h
  · rw [Nat.min_eq_left h, List.take_of_length_le]
    show ((cs z).drop k).length ≤ _
    rw [List.length_drop]
    exact Nat.le_refl _
  · rw [Nat.min_eq_right h, Nat.sub_self, List.take_zero, List.drop_eq_nil_of_le h]
theorem len_to (z : Str) (k : Nat) : (cutS z none (some (k : Int))).length ≤ z.length := by
  rw [len_cs, cs_to, len_cs, List.length_take]; omega
theorem len_from (z : Str) (k : Nat) : (cutS z (some (k : Int)) none).length ≤ z.length := by
  rw [len_cs, cs_from, len_cs, List.length_drop]; omega
/-- texts of plain signs -/
structure Tx (t : Str) : Prop where
  l : t.length ≤ 100000
  c : ∀ c ∈ cs t, c < 128
theorem Tx.from {t : Str} (h : Tx t) (k : Nat) : Tx (cutS t (some (k : Int)) none) := ⟨Nat.le_trans (len_from t k) h.l, fun c hc => h.c c (by rw [cs_from] at hc; exact List.mem_of_mem_drop hc)⟩
theorem Tx.parts {t : Str} (h : Tx t) : ∀ p ∈ sp t, p.length ≤ 1000000 ∧ ∀ c ∈ cs p, c < 128 := fun p hp => ⟨by have := sp_len hp; have := h.l; omega, fun c hc => h.c c (sp_chars hp c hc)⟩
theorem slc_s {t : Str} (h : t.length ≤ 1000000) (lo hi : Option Int) : slcD (.str t) lo hi = some (.str (cutS t lo hi)) := if_pos h
theorem v_read {t : Str} (h : Tx t) : g_ra_read [.str t] = some (.ok (resD (rd t)), [none]) := by
  have hl : t.length ≤ 1000000 := by have := h.l; omega
  have s1 := slc_s hl none (some 1)
  have s2 := slc_s hl (some 1) none
  have e : g_ra_read [.str t] = fin (m_ra_read [some (.str t), none, none, none, none, none]) := rfl
  rw [e, t_ra_read_eq]
  unfold rd
  by_cases z : cutS t none (some 1) = "-"
  · rw [if_pos z]
    have k := tl_read (t := t) (sg := -1) (.inr rfl) (by have := (h.from 1).l; simp at this ⊢; omega) rfl (fun p hp => ((h.from 1).parts p hp).1) (sp_ne _)
    simp at k
    simp [s1, s2, eq_true z]
    exact k
  · rw [if_neg z]
    have k := tl_read (t := t) (sg := 1) (.inl rfl) hl rfl (fun p hp => (h.parts p hp).1) (sp_ne _)
    simp [s1, s2, eq_false z]
    exact k
theorem v_lread {t : Str} (h : Tx t) : g_law_read [.str t] = some (.ok (resD (rd t)), [none]) := by
  have hl : t.length ≤ 1000000 := by have := h.l; omega
  have s1 := slc_s hl none (some 1)
  have s2 := slc_s hl (some 1) none
  have e : g_law_read [.str t] = fin (m_law_read [some (.str t), none, none, none, none, none, none, none]) := rfl
  rw [e, t_law_read_eq]
  unfold rd
  by_cases z : cutS t none (some 1) = "-"
  · rw [if_pos z]
    have k := tl_law (t := t) (sg := -1) (.inr rfl) (by have := (h.from 1).l; simp at this ⊢; omega) rfl (fun p hp => (h.from 1).parts p hp) (sp_ne _)
    simp at k
    simp [s1, s2, eq_true z]
    exact k
  · rw [if_neg z]
    have k := tl_law (t := t) (sg := 1) (.inl rfl) hl rfl (fun p hp => h.parts p hp) (sp_ne _)
    simp [s1, s2, eq_false z]
    exact k
theorem fs_res (o : Option (Int × Int)) : isF (resD o) = true := by cases o <;> rfl
theorem rep_of {d : D} (p : PyData) (hp : py d = some p) (k1 : okB p = true) (k3 : (PyData.shown p).length ≤ 1000000) (k2 : PyData.depth p ≤ 64) : reprD [d] = some (.str (PyData.shown p)) := by
  simp only [reprD, hp]
  rw [if_pos ⟨k1, k3, k2⟩]
theorem rdp_bound {sg : Int} {ps : List Str} {x : Int × Int} (hs : sg = 1 ∨ sg = -1) (h : rdp sg ps = some x) : x.1.natAbs < 2 ^ 4000 ∧ x.2.natAbs < 2 ^ 4000 := by
  have one : Int.natAbs 1 < 2 ^ 4000 := Nat.lt_of_lt_of_le (m := 2 ^ 1) (by decide) (Nat.pow_le_pow_right (by decide) (by decide))
  have ab : ∀ v : Nat, v < 2 ^ 4000 → (sg * v).natAbs < 2 ^ 4000 := fun v hv => by
    rw [Int.natAbs_mul, Int.natAbs_natCast]
    rcases hs with rfl | rfl <;> simpa using hv
  match ps, h with
  | [p], h =>
    have h : (if good p = true ∧ ¬ (sg < 0 ∧ val p = 0) then some (sg * val p, (1 : Int)) else none) = some x := h
    split at h
    · rename_i g
      cases h
      exact ⟨ab _ (val_big g.1), one⟩
    · cases h
  | [p, q], h =>
    have h : (if good p = true ∧ good q = true ∧ ¬ (sg < 0 ∧ val p = 0) ∧ 2 ≤ val q ∧ Nat.gcd (val p) (val q) = 1 then some (sg * val p, (val q : Int)) else none) = some x := h
    split at h
    · rename_i g
      cases h
      exact ⟨ab _ (val_big g.1), by rw [Int.natAbs_natCast]; exact val_big g.2.1⟩
    · cases h
end Law

namespace Law
open PySem L2 G
open PySem.NumText PyProof.Rows in
theorem dig_chars (m : Nat) : ∀ c ∈ (Nat.toDigits 10 m).map Char.toNat, 48 ≤ c ∧ c ≤ 57 := fun c hc => by
  obtain ⟨ch, hch, e⟩ := List.mem_map.mp hc
  have r := digit_range (Nat.isDigit_of_mem_toDigits (by decide) (by decide) hch)
  rw [← e]
  exact r
theorem char48 : ∀ d : Nat, d < 10 → (Nat.digitChar d).toNat = 48 → d = 0 := by decide
theorem head0 (m : Nat) : ((Nat.toDigits 10 m).map Char.toNat)[0]? = some 48 → m = 0 := by
  induction m using Nat.strongRecOn with
  | _ m ih =>
    intro h
    by_cases h10 : m < 10
    · rw [Nat.toDigits_of_lt_base h10] at h
      have h : some (Nat.digitChar m).toNat = some 48 := h
      injection h with h
      exact char48 m h10 h
    · have hm : m % 10 < 10 := Nat.mod_lt m (by decide)
      have t : Nat.toDigits 10 (m / 10) ++ Nat.toDigits 10 (m % 10) = Nat.toDigits 10 (10 * (m / 10) + m % 10) := Nat.toDigits_append_toDigits (by decide) (by omega) hm
      rw [Nat.div_add_mod] at t
      rw [← t, List.map_append] at h
      have ne : ((Nat.toDigits 10 (m / 10)).map Char.toNat) ≠ [] := by
        intro e
        have := PySem.W.KIN.val_back (m / 10)
        rw [e] at this
        have : (0 : Nat) = m / 10 := this
        omega
      have : ((Nat.toDigits 10 (m / 10)).map Char.toNat)[0]? = some 48 := by
        cases e : (Nat.toDigits 10 (m / 10)).map Char.toNat with
        | nil => exact absurd e ne
        | cons a l => rw [e] at h; exact h
      have := ih (m / 10) (by omega) this
      omega
/-- the digits of a number -/
abbrev tn (m : Nat) : Str := Str.ofString (toString ((m : Nat) : Int))
theorem cs_tn (m : Nat) : cs (tn m) = (Nat.toDigits 10 m).map Char.toNat := PySem.W.KIN.signs_num m
theorem len_int {i : Int} (h : i.natAbs < 2 ^ 110) : (Str.ofString (toString i)).length ≤ 50 := by
  rw [PySem.ofString_length]
  have : i.natAbs < 10 ^ 40 := Nat.lt_trans h (by decide +kernel)
  have := PySem.int_text_length_le10 (k := 40) (by decide) this
  omega
theorem len_tn {m : Nat} (h : m < 2 ^ 110) : (tn m).length ≤ 50 := len_int (by rw [Int.natAbs_natCast]; exact h)
theorem tn_dg (m : Nat) : dg (tn m) = true := by
  unfold dg
  rw [List.all_eq_true]
  intro c hc
  rw [cs_tn] at hc
  exact decide_eq_true ((mem_DG c).mpr (dig_chars m c hc))
theorem tn_ne (m : Nat) : 0 < (tn m).length := by
  rw [len_cs, cs_tn]
  rcases Nat.eq_zero_or_pos ((Nat.toDigits 10 m).map Char.toNat).length with z | z
  · have e := List.eq_nil_of_length_eq_zero z
    have v := PySem.W.KIN.val_back m
    rw [e] at v
    have v : (0 : Nat) = m := v
    subst v
    exact absurd e (by decide)
  · exact z
theorem tn_good {m : Nat} (h : m < 2 ^ 110) : good (tn m) = true := by
  unfold good
  have l := len_tn h
  by_cases z : (cs (tn m))[0]? = some 48
  · rw [cs_tn] at z
    have := head0 m z
    subst this
    decide +kernel
  · rw [decide_eq_false z, decide_eq_true (tn_ne m), decide_eq_true (show (tn m).length ≤ 1000 by omega), tn_dg]
    rfl
theorem tn_val (m : Nat) : val (tn m) = m := by
  unfold val
  rw [cs_tn]
  exact PySem.W.KIN.val_back m
theorem tn_free (m : Nat) : 47 ∉ cs (tn m) := fun h => by
  rw [cs_tn] at h
  have := dig_chars m 47 h
  omega
theorem tn_tx {m : Nat} (h : m < 2 ^ 110) : Tx (tn m) := ⟨by have := len_tn h; omega, fun c hc => by rw [cs_tn] at hc; have := dig_chars m c hc; omega⟩
theorem cs_app (a b : Str) : cs (a ++ b) = cs a ++ cs b := TL.tl_append a b
theorem neg_text (m : Nat) (h : 0 < m) : Str.ofString (toString (-((m : Nat) : Int))) = "-" ++ tn m := by
  obtain ⟨k, rfl⟩ : ∃ k, m = k + 1 := ⟨m - 1, by omega⟩
  show Str.ofString (toString (Int.negSucc k)) = _
  show Str.ofString ("-" ++ Nat.repr (k + 1)) = Str.ofString "-" ++ Str.ofString (Nat.repr (k + 1))
  refine TL.ext_tl ?_
  show cs (Str.ofString ("-" ++ Nat.repr (k + 1))) = cs (Str.ofString "-" ++ Str.ofString (Nat.repr (k + 1)))
  rw [cs_app]
  show (Str.ofString _).cps.toList = (Str.ofString _).cps.toList ++ (Str.ofString _).cps.toList
  rw [PyProof.Rows.signs_ofString, PyProof.Rows.signs_ofString, PyProof.Rows.signs_ofString, String.toList_append, List.map_append]
/-- a number's text behind its sign -/
def body (a b : Nat) : Str := if b = 1 then tn a else tn a ++ "/" ++ tn b
def due (x : Int × Int) : Str := if x.2 = 1 then Str.ofString (toString x.1) else Str.ofString (toString x.1) ++ "/" ++ Str.ofString (toString x.2)
theorem app_assoc (a b c : Str) : a ++ b ++ c = a ++ (b ++ c) := TL.ext_tl (by
  show cs (a ++ b ++ c) = cs (a ++ (b ++ c))
  rw [cs_app, cs_app, cs_app, cs_app, List.append_assoc])
theorem sp_body {a b : Nat} : sp (body a b) = if b = 1 then [tn a] else [tn a, tn b] := by
  unfold body
  by_cases z : b = 1
  · rw [if_pos z, if_pos z, sp_one (tn_free a)]
  · rw [if_neg z, if_neg z, sp_two (tn_free a) (tn_free b)]
theorem body_tx {a b : Nat} (ha : a < 2 ^ 110) (hb : b < 2 ^ 110) : (body a b).length ≤ 101 ∧ (∀ c ∈ cs (body a b), c < 128) ∧ (cs (body a b))[0]? ≠ some 45 := by
  have l1 := len_tn ha
  have l2 := len_tn hb
  have c1 := (tn_tx ha).c
  have c2 := (tn_tx hb).c
  have hd : ∀ l : List Nat, ((cs (tn a)) ++ l)[0]? ≠ some 45 := fun l h => by
    have n0 := tn_ne a
    rw [len_cs] at n0
    rw [List.getElem?_append_left n0] at h
    have hm := List.mem_of_getElem? h
    rw [cs_tn] at hm
    have := dig_chars a 45 hm
    omega
  unfold body
  by_cases z : b = 1
  · rw [if_pos z]
    exact ⟨by omega, c1, by have := hd []; rwa [List.append_nil] at this⟩
  · rw [if_neg z]
    refine ⟨?_, fun c hc => ?_, ?_⟩
    · rw [len_cs, cs_app, cs_app, List.length_append, List.length_append, slash_cs, ← len_cs, ← len_cs]
      simp
      omega
    · rw [cs_app, cs_app, slash_cs] at hc
      rcases List.mem_append.mp hc with hc | hc
      · rcases List.mem_append.mp hc with hc | hc
        · exact c1 c hc
        · rw [List.mem_singleton] at hc; omega
      · exact c2 c hc
    · rw [cs_app, cs_app, List.append_assoc]
      exact hd _
theorem minus_cs : cs ("-" : Str) = [45] := by decide +kernel
theorem cut_minus (t : Str) : cutS t none (some 1) = "-" ↔ (cs t)[0]? = some 45 := by
  have e := cs_to t 1
  constructor
  · intro h
    have h2 : cs (cutS t none (some ((1 : Nat) : Int))) = [45] := by
      show cs (cutS t none (some 1)) = _
      rw [h, minus_cs]
    rw [h2] at e
    cases hc : cs t with
    | nil => rw [hc] at e; cases e
    | cons a l => rw [hc] at e; injection e with e1 _; rw [← e1]; rfl
  · intro h
    refine TL.ext_tl ?_
    show cs (cutS t none (some ((1 : Nat) : Int))) = cs "-"
    rw [e, minus_cs]
    cases hc : cs t with
    | nil => rw [hc] at h; cases h
    | cons a l => rw [hc] at h; injection h with h; rw [h]; rfl
theorem rd_plain {t : Str} (h : (cs t)[0]? ≠ some 45) : rd t = rdp 1 (sp t) := if_neg fun z => h ((cut_minus t).mp z)
theorem rd_minus (t : Str) : rd ("-" ++ t) = rdp (-1) (sp t) := by
  have h : (cs ("-" ++ t))[0]? = some 45 := by rw [cs_app, minus_cs]; rfl
  unfold rd
  rw [if_pos ((cut_minus _).mpr h)]
  have e : cutS ("-" ++ t) (some 1) none = t := TL.ext_tl (by
    show cs (cutS ("-" ++ t) (some ((1 : Nat) : Int)) none) = cs t
    rw [cs_from, cs_app, minus_cs]
    rfl)
  rw [e]
theorem rdp_body {sg : Int} {a b : Nat} (ha : a < 2 ^ 110) (hb : b < 2 ^ 110) (hb0 : 0 < b) (hg : Nat.gcd a b = 1) (hs : ¬ (sg < 0 ∧ a = 0)) : rdp sg (sp (body a b)) = some (sg * a, (b : Int)) := by
  rw [sp_body]
  by_cases z : b = 1
  · rw [if_pos z, z]
    show (if good (tn a) = true ∧ ¬ (sg < 0 ∧ val (tn a) = 0) then some (sg * val (tn a), (1 : Int)) else none) = _
    rw [if_pos ⟨tn_good ha, by rw [tn_val]; exact hs⟩, tn_val]
    rfl
  · rw [if_neg z]
    show (if good (tn a) = true ∧ good (tn b) = true ∧ ¬ (sg < 0 ∧ val (tn a) = 0) ∧ 2 ≤ val (tn b) ∧ Nat.gcd (val (tn a)) (val (tn b)) = 1 then some (sg * val (tn a), (val (tn b) : Int)) else none) = _
    rw [tn_val, tn_val, if_pos ⟨tn_good ha, tn_good hb, hs, by omega, hg⟩]
theorem due_rd {x : Int × Int} (h : Nm 110 x) : Tx (due x) ∧ rd (due x) = some x ∧ (due x).length ≤ 102 := by
  obtain ⟨i, j⟩ := x
  have hp : 0 < j := h.pos
  have s1 : i.natAbs < 2 ^ 110 := h.s1
  have s2 : j.natAbs < 2 ^ 110 := h.s2
  have hg : Int.gcd i j = 1 := h.cop
  obtain ⟨b, rfl⟩ := Int.eq_ofNat_of_zero_le (show 0 ≤ j by omega)
  rw [Int.natAbs_natCast] at s2
  have hb0 : 0 < b := by omega
  rcases Int.le_total 0 i with hi | hi
  · obtain ⟨a, rfl⟩ := Int.eq_ofNat_of_zero_le hi
    rw [Int.natAbs_natCast] at s1
    have e : due ((a : Int), (b : Int)) = body a b := by
      unfold due body
      by_cases z : b = 1
      · rw [if_pos z, if_pos (by rw [z]; rfl)]
      · rw [if_neg z, if_neg (fun q => z (by omega))]
    obtain ⟨l, c, hd⟩ := body_tx s1 s2
    rw [e]
    refine ⟨⟨by omega, c⟩, ?_, by omega⟩
    rw [rd_plain hd, rdp_body s1 s2 hb0 (by rw [Int.gcd_natCast_natCast] at hg; exact hg) (fun q => absurd q.1 (by decide)), Int.one_mul]
  · rcases Int.lt_or_eq_of_le hi with hi | hi
    · obtain ⟨a, rfl⟩ : ∃ a : Nat, i = -(a : Int) := ⟨i.natAbs, by omega⟩
      rw [Int.natAbs_neg, Int.natAbs_natCast] at s1
      have ha : 0 < a := by omega
      have e : due (-(a : Int), (b : Int)) = "-" ++ body a b := by
        unfold due body
        rw [neg_text a ha]
        by_cases z : b = 1
        · rw [if_pos z, if_pos (by rw [z]; rfl)]
        · rw [if_neg z, if_neg (fun q => z (by omega)), app_assoc, app_assoc, app_assoc]
      obtain ⟨l, c, hd⟩ := body_tx s1 s2
      rw [e]
      have ll : ("-" ++ body a b).length ≤ 102 := by
        rw [len_cs, cs_app, minus_cs, List.length_append, ← len_cs]
        simp
        omega
      refine ⟨⟨by omega, fun d hd => ?_⟩, ?_, ll⟩
      · rw [cs_app, minus_cs] at hd
        rcases List.mem_append.mp hd with hd | hd
        · rw [List.mem_singleton] at hd; omega
        · exact c d hd
      · rw [rd_minus, rdp_body s1 s2 hb0 (by
          have hg : Nat.gcd (Int.natAbs (-(a : Int))) (Int.natAbs (b : Int)) = 1 := hg
          rw [Int.natAbs_neg, Int.natAbs_natCast, Int.natAbs_natCast] at hg
          exact hg) (fun q => by omega)]
        rw [show (-1 : Int) * (a : Int) = -(a : Int) by omega]
    · subst hi
      have e : due ((0 : Int), (b : Int)) = body 0 b := by
        unfold due body
        by_cases z : b = 1
        · rw [if_pos z, if_pos (by rw [z]; rfl)]; rfl
        · rw [if_neg z, if_neg (fun q => z (by omega))]; rfl
      obtain ⟨l, c, hd⟩ := body_tx (a := 0) (by decide) s2
      rw [e]
      refine ⟨⟨by omega, c⟩, ?_, by omega⟩
      rw [rd_plain hd, rdp_body (by decide) s2 hb0 (by simpa using hg) (fun q => absurd q.1 (by decide)), Int.one_mul]
      rfl

end Law

namespace Law
open PySem L2 G
abbrev sb (r : Str) : List Str := Txt.split r " "
theorem blank_ok : ((" " : Str).length == 0) = false := by decide +kernel
theorem blank_cs : cs (" " : Str) = [32] := by decide +kernel
theorem sb_spl (r : Str) : (sb r).map cs = TL.spl [32] 0 [] (cs r) := by
  have := TL.split_spl r " " (by rw [show TL.tl (" " : Str) = [32] from blank_cs]; simp) (TL.kind_ok (by decide +kernel))
  rw [show TL.tl (" " : Str) = [32] from blank_cs] at this
  exact this
theorem sb_chars {r p : Str} (h : p ∈ sb r) : ∀ c ∈ cs p, c ∈ cs r := fun c hc => by
  have : cs p ∈ TL.spl [32] 0 [] (cs r) := by rw [← sb_spl]; exact List.mem_map.mpr ⟨p, h, rfl⟩
  rcases spl_mem _ _ _ _ _ this c hc with z | z
  · cases z
  · exact z
theorem sb_ne (r : Str) : sb r ≠ [] := by
  intro h
  have := PyProof.Rows.split_pos r " "
  rw [show Txt.split r " " = [] from h] at this
  exact absurd this (by decide)
theorem sb_len {r p : Str} (h : p ∈ sb r) : p.length ≤ r.length := PyProof.Rows.part_short h
theorem Tx.words {t : Str} (h : Tx t) : ∀ p ∈ sb t, Tx p := fun p hp => ⟨by have := sb_len hp; have := h.l; omega, fun c hc => h.c c (sb_chars hp c hc)⟩
theorem s_sb {t : Str} (h : Tx t) : splitD " " (.str t) = some (.lst false ((sb t).map D.str)) := s_split t " " blank_ok (by have := h.l; omega)
def idxD (w : Str) : D := if w.length ≤ 3 ∧ good w = true then .int (val w) else .non
theorem fs_idx (w : Str) : isF (idxD w) = true := by unfold idxD; split <;> rfl
theorem v_txnum {w : Str} (hl : w.length ≤ 1000000) : g_tx_number [.str w] = some (.ok (idxD w), [none]) := by
  have d := v_digits hl
  have hlen : lenD (.str w) = some (.int w.length) := v_len hl
  by_cases h3 : w.length ≤ 3
  · have h3i : (w.length : Int) ≤ 3 := by omega
    by_cases g : good w = true
    · rw [if_pos g] at d
      have e : idxD w = .int (val w) := if_pos ⟨h3, g⟩
      rw [e]
      have nn : ¬ (val w : Int) = -1 := by omega
      simp only [g_tx_number, m_tx_number]
      simp [hlen, h3, h3i, d, nn]
    · rw [if_neg g] at d
      have e : idxD w = .non := if_neg fun z => g z.2
      rw [e]
      simp only [g_tx_number, m_tx_number]
      simp [hlen, h3, h3i, d]
  · have h3i : ¬ (w.length : Int) ≤ 3 := by omega
    have e : idxD w = .non := if_neg fun z => h3 z.1
    rw [e]
    simp only [g_tx_number, m_tx_number]
    simp [hlen, h3, h3i]
theorem c_oddI (w : Str) : compL [1] (put 1) b_law_index_2 b_law_index_1 (chars w) [some (.str w), none] = some (odd w, [some (.str w), none]) := by
  have := compL_flt (vs := [1]) (tgt := put 1) (c := b_law_index_2) (e := b_law_index_1) (ρ := [some (.str w), none]) (fun i => !dgi w i) (sg1 w) (chars w) 0 (fun i d hd => by
    obtain ⟨c, hc, rfl⟩ := chars_at hd
    rw [Nat.zero_add, dgi_at hc, sg1_at hc]
    refine ⟨[some (.str w), some (.str ⟨#[c]⟩)], [some (.str w), some (.str ⟨#[c]⟩)], rfl, ?_, fun _ => ⟨[some (.str w), some (.str ⟨#[c]⟩)], by simp [b_law_index_1], by simp [wipeE]⟩, fun _ => by simp [wipeE]⟩
    simp [b_law_index_2])
  rw [this, len_chars]
  simp only [Nat.zero_add]
  rfl
theorem v_index {w : Str} (h : Tx w) : g_law_index [.str w] = some (.ok (idxD w), [none]) := by
  have hl : w.length ≤ 1000000 := by have := h.l; omega
  have c := c_oddI w
  have lc : (chars w).length ≤ 1000000 := by rw [len_chars]; exact hl
  have hlen : lenD (.str w) = some (.int w.length) := v_len hl
  have it := s_intTD2 w hl
  have ne := ne_nil (l := odd w) fun d hd => by
    obtain ⟨c, h1, h2, _⟩ := odd_mem hd
    exact ⟨c, h.c c h1, h2⟩
  by_cases h0 : 0 < w.length
  · have h0i : (1 : Int) ≤ w.length := by omega
    have h0n : 1 ≤ w.length := h0
    by_cases h3 : w.length ≤ 3
    · have h3i : (w.length : Int) ≤ 3 := by omega
      by_cases h2 : dg w = true
      · have e := odd_nil.mpr h2
        rw [e] at ne c
        have ne : neD (.lst false []) (.lst false []) = some (.bl false) := ne
        obtain ⟨c0, hc0⟩ : ∃ c0, (cs w)[0]? = some c0 := ⟨_, List.getElem?_eq_getElem (by rw [← len_cs]; omega)⟩
        have ix := ix0 hl hc0
        by_cases h4 : c0 = 48
        · have z : (⟨#[c0]⟩ : Str) = "0" := (one_zero c0).mpr h4
          rw [z] at ix
          by_cases h5 : w = "0"
          · have g : good w = true := by unfold good; simp [h0, show w.length ≤ 1000 by omega, h2, eq_true h5]
            rw [val_int g] at it
            rw [show idxD w = .int (val w) from if_pos ⟨h3, g⟩]
            simp only [g_law_index, m_law_index]
            simp [eChain, hlen, h0i, h0n, h3, h3i, lc, wipeE, backE, keepF, c, ne, ix, eq_true h5, it]
          · have g : ¬ good w = true := fun g => h5 ((good_parts g).2.2.2 (by rw [hc0, h4]))
            rw [show idxD w = .non from if_neg fun z => g z.2]
            simp only [g_law_index, m_law_index]
            simp [eChain, hlen, h0i, h0n, h3, h3i, lc, wipeE, backE, keepF, c, ne, ix, eq_false h5]
        · have g : good w = true := by
            unfold good
            rw [hc0]
            simp [h0, show w.length ≤ 1000 by omega, h2, h4]
          rw [val_int g] at it
          rw [show idxD w = .int (val w) from if_pos ⟨h3, g⟩]
          have z : ¬ (⟨#[c0]⟩ : Str) = "0" := fun q => h4 ((one_zero c0).mp q)
          simp only [g_law_index, m_law_index]
          simp [eChain, hlen, h0i, h0n, h3, h3i, lc, wipeE, backE, keepF, c, ne, ix, eq_false z, it]
      · have g : ¬ good w = true := fun g => h2 (good_parts g).2.2.1
        rw [show idxD w = .non from if_neg fun z => g z.2]
        rw [decide_eq_false (fun z => h2 (odd_nil.mp z))] at ne
        have fo := fs_odd w
        generalize odd w = O at *
        simp only [g_law_index, m_law_index]
        simp [eChain, hlen, h0i, h0n, h3, h3i, lc, wipeE, backE, keepF, c, ne, fo]
    · have h3i : ¬ (w.length : Int) ≤ 3 := by omega
      rw [show idxD w = .non from if_neg fun z => h3 z.1]
      simp only [g_law_index, m_law_index]
      simp [eChain, hlen, h0i, h0n, h3, h3i]
  · have h0i : ¬ (1 : Int) ≤ w.length := by omega
    have h0n : ¬ 1 ≤ w.length := h0
    rw [show idxD w = .non from if_neg fun z => h0 (good_parts z.2).1]
    simp only [g_law_index, m_law_index]
    simp [eChain, hlen, h0i, h0n]
def thD (c : Nat) (w : Str) : D := if c = 119 then resD (rd w) else idxD w
theorem fs_th (c : Nat) (w : Str) : isF (thD c w) = true := by unfold thD; split; exact fs_res _; exact fs_idx _
theorem sw : ("w" : Str) = ⟨#[119]⟩ ∧ ("e" : Str) = ⟨#[101]⟩ ∧ ("n" : Str) = ⟨#[110]⟩ ∧ ("c" : Str) = ⟨#[99]⟩ := by decide +kernel
theorem v_thing {c : Nat} {w : Str} (hc : c = 119 ∨ c = 110) (h : Tx w) : g_tx_thing [.str w, .str ⟨#[c]⟩] = some (.ok (thD c w), [none, none]) := by
  have r := v_read h
  have x := v_txnum (w := w) (by have := h.l; omega)
  have f1 := fs_res (rd w)
  have f2 := fs_idx w
  rcases hc with rfl | rfl
  · have e : thD 119 w = resD (rd w) := if_pos rfl
    rw [e, ← sw.1]
    generalize resD (rd w) = R at *
    simp only [g_tx_thing, m_tx_thing]
    simp [r, f1]
  · have e : thD 110 w = idxD w := if_neg (by decide)
    have n1 : ¬ ("n" : Str) = "w" := by decide +kernel
    have n2 : ¬ ("n" : Str) = "e" := by decide +kernel
    rw [e, ← sw.2.2.1]
    generalize idxD w = R at *
    simp only [g_tx_thing, m_tx_thing]
    simp [x, f2, n1, n2]
end Law

namespace Law
open PySem L2 G
abbrev sgc (c : Nat) : D := .str ⟨#[c]⟩
def isNonB : D → Bool
  | .non => true
  | _ => false
theorem is_th (c : Nat) (w : Str) : isD (thD c w) .non = some (.bl (isNonB (thD c w))) := by
  unfold thD
  split
  · cases rd w <;> rfl
  · unfold idxD
    split <;> rfl
def thG (W : List Str) (i c : Nat) : D := match W[i + 1]? with
  | some w => thD c w
  | none => .non
theorem thG_some {W : List Str} {i c : Nat} {w : Str} (h : W[i + 1]? = some w) : thG W i c = thD c w := by unfold thG; rw [h]
theorem thG_none {W : List Str} {i c : Nat} (h : W[i + 1]? = none) : thG W i c = .non := by unfold thG; rw [h]
def consX (d : D) : Except Nat (List D) → Except Nat (List D)
  | .error n => .error n
  | .ok ds => .ok (d :: ds)
theorem consX_ok {d : D} {x : Except Nat (List D)} {ds : List D} (h : consX d x = .ok ds) : ∃ es, x = .ok es ∧ ds = d :: es := by
  cases x with
  | error n => cases h
  | ok es => cases h; exact ⟨es, rfl, rfl⟩
def thL (W : List Str) : List Nat → Nat → Except Nat (List D)
  | [], _ => .ok []
  | c :: fs, i => if isNonB (thG W i c) = true then .error (i + 2) else consX (thG W i c) (thL W fs (i + 1))
theorem thL_bad {W : List Str} {c : Nat} {fs : List Nat} {i : Nat} (h : isNonB (thG W i c) = true) : thL W (c :: fs) i = .error (i + 2) := if_pos h
theorem thL_ok {W : List Str} {c : Nat} {fs : List Nat} {i : Nat} (h : isNonB (thG W i c) = false) : thL W (c :: fs) i = consX (thG W i c) (thL W fs (i + 1)) := if_neg (by rw [h]; decide)
theorem fs_thG (W : List Str) (i c : Nat) : isF (thG W i c) = true := by
  unfold thG
  split
  · exact fs_th _ _
  · rfl
theorem thL_fs {W : List Str} : ∀ {fs : List Nat} {i : Nat} {ds : List D}, thL W fs i = .ok ds → isFs ds = true ∧ ds.length = fs.length
  | [], i, ds, h => by cases h; exact ⟨rfl, rfl⟩
  | c :: fs, i, ds, h => by
    cases hb : isNonB (thG W i c) with
    | true => rw [thL_bad hb] at h; cases h
    | false =>
      rw [thL_ok hb] at h
      obtain ⟨ds', e, rfl⟩ := consX_ok h
      obtain ⟨h1, h2⟩ := thL_fs e
      exact ⟨by rw [s_isFs1, fs_thG, h1]; rfl, by rw [List.length_cons, h2, List.length_cons]⟩
def resT (x : Except Nat (List D)) (f : Nat → D) : Fl := match x with
  | .error n => .rt (f n)
  | .ok _ => .nx
theorem resT_cons (d : D) (x : Except Nat (List D)) (f : Nat → D) : resT (consX d x) f = resT x f := by cases x <;> rfl
theorem isFs_snoc {ds : List D} {d : D} (h : isFs ds = true) (hd : isF d = true) : isFs (ds ++ [d]) = true := by
  induction ds with
  | nil => rw [List.nil_append, s_isFs1, hd]; rfl
  | cons a l ih =>
    rw [s_isFs1, Bool.and_eq_true] at h
    rw [List.cons_append, s_isFs1, h.1, ih h.2]; rfl
/-- the program's loop over the form -/
theorem lp_things {W : List Str} (hW : ∀ w ∈ W, Tx w) {F : D} : ∀ (fs : List Nat) (i : Nat) (fd : List D) (o3 o4 o5 : Option D), (∀ c ∈ fs, c = 119 ∨ c = 110) → isFs fd = true → fd.length + fs.length ≤ 100 →
    ∃ p3 p4 p5 fd', G.forM (tgTup 2 (tgCons (put 3) (tgCons (put 4) tgNil))) b_tx_things_1 (enumD i (fs.map sgc)) [some (.lst false (W.map D.str)), some F, some (.lst true fd), o3, o4, o5] =
      some (.ok (resT (thL W fs i) fun n => .int n), [some (.lst false (W.map D.str)), some F, some (.lst true fd'), p3, p4, p5]) ∧ ∀ ds, thL W fs i = .ok ds → fd' = fd ++ ds
  | [], i, fd, o3, o4, o5, _, _, _ => ⟨o3, o4, o5, fd, rfl, fun ds h => by cases h; simp⟩
  | c :: fs, i, fd, o3, o4, o5, hc, hf, hl => by
    have fl := fs_strs W
    have hc0 := hc c (List.mem_cons_self ..)
    have un : ∀ (d : D) (l : List D) (ρ : En), G.forM (tgTup 2 (tgCons (put 3) (tgCons (put 4) tgNil))) b_tx_things_1 (d :: l) ρ = bnd (tgTup 2 (tgCons (put 3) (tgCons (put 4) tgNil)) d) (fun _ => bnd b_tx_things_1 (loopF (G.forM (tgTup 2 (tgCons (put 3) (tgCons (put 4) tgNil))) b_tx_things_1 l))) ρ := fun _ _ _ => rfl
    have hl1 : fd.length ≤ 1000000 := by simp only [List.length_cons] at hl; omega
    show ∃ p3 p4 p5 fd', G.forM (tgTup 2 (tgCons (put 3) (tgCons (put 4) tgNil))) b_tx_things_1 (.tup [.int i, sgc c] :: enumD (i + 1) (fs.map sgc)) [some (.lst false (W.map D.str)), some F, some (.lst true fd), o3, o4, o5] = _ ∧ _
    have ei : ((i : Int) + 1) = ((i + 1 : Nat) : Int) := by omega
    cases hw : W[i + 1]? with
    | none =>
      have hge : ¬ (i : Int) + 1 < W.length := by
        have := List.getElem?_eq_none_iff.mp hw
        omega
      have hgn : ¬ i + 1 < W.length := by omega
      have hb : isNonB (thG W i c) = true := by rw [thG_none hw]; rfl
      rw [thL_bad hb]
      have isn : isD .non .non = some (.bl true) := rfl
      refine ⟨some (.int i), some (sgc c), some .non, fd, ?_, fun ds h => by cases h⟩
      rw [un]
      generalize G.forM (tgTup 2 (tgCons (put 3) (tgCons (put 4) tgNil))) b_tx_things_1 (enumD (i + 1) (fs.map sgc)) = K at *
      simp [b_tx_things_1, fl, hge, hgn, isn, loopF, resT]
    | some w =>
      have hlt : (i : Int) + 1 < W.length := by
        have := lt_of hw
        omega
      have hln : i + 1 < W.length := by omega
      have tw := hW w (List.mem_of_getElem? hw)
      have q := v_thing hc0 tw
      have isn := is_th c w
      have ft := fs_th c w
      have ix : ixD (.lst false (W.map D.str)) (.int ((i : Int) + 1)) = some (.str w) := by
        rw [ei]
        exact atI_nat (j := i + 1) (by rw [List.getElem?_map, hw]; rfl)
      have eg : thG W i c = thD c w := thG_some hw
      cases hb : isNonB (thD c w) with
      | true =>
        rw [thL_bad (by rw [eg]; exact hb)]
        rw [hb] at isn
        refine ⟨some (.int i), some (sgc c), some (thD c w), fd, ?_, fun ds h => by cases h⟩
        rw [un]
        generalize thD c w = R at *
        generalize G.forM (tgTup 2 (tgCons (put 3) (tgCons (put 4) tgNil))) b_tx_things_1 (enumD (i + 1) (fs.map sgc)) = K at *
        simp [b_tx_things_1, fl, hlt, hln, isn, ix, q, ft, loopF, resT]
      | false =>
        rw [thL_ok (by rw [eg]; exact hb), eg]
        rw [hb] at isn
        obtain ⟨p3, p4, p5, fd', h1, h2⟩ := lp_things hW (F := F) fs (i + 1) (fd ++ [thD c w]) (some (.int i)) (some (sgc c)) (some (thD c w)) (fun c hc' => hc c (List.mem_cons_of_mem _ hc')) (isFs_snoc hf ft) (by simp only [List.length_append, List.length_cons, List.length_nil] at hl ⊢; omega)
        refine ⟨p3, p4, p5, fd', ?_, fun ds h => ?_⟩
        · rw [un]
          rw [resT_cons]
          generalize thD c w = R at *
          generalize resT (thL W fs (i + 1)) (fun n => .int n) = T at *
          generalize G.forM (tgTup 2 (tgCons (put 3) (tgCons (put 4) tgNil))) b_tx_things_1 (enumD (i + 1) (fs.map sgc)) = K at *
          simp [b_tx_things_1, fl, hlt, hln, isn, ix, q, ft, loopF, hf, hl1, h1]
        · obtain ⟨ds', e, rfl⟩ := consX_ok h
          rw [h2 ds' e, List.append_assoc]
          rfl
end Law

namespace Law
open PySem L2 G
theorem fz_th (c : Nat) (w : Str) : fz (thD c w) = thD c w := by
  unfold thD
  split
  · cases rd w <;> rfl
  · unfold idxD
    split <;> rfl
theorem fz_thG (W : List Str) (i c : Nat) : fz (thG W i c) = thG W i c := by
  unfold thG
  split
  · exact fz_th _ _
  · rfl
theorem thL_fz {W : List Str} : ∀ {fs : List Nat} {i : Nat} {ds : List D}, thL W fs i = .ok ds → fzs ds = ds
  | [], i, ds, h => by cases h; rfl
  | c :: fs, i, ds, h => by
    cases hb : isNonB (thG W i c) with
    | true => rw [thL_bad hb] at h; cases h
    | false =>
      rw [thL_ok hb] at h
      obtain ⟨ds', e, rfl⟩ := consX_ok h
      rw [s_fzs1, fz_thG, thL_fz e]
theorem thL_le {W : List Str} : ∀ {fs : List Nat} {i : Nat} {ds : List D}, thL W fs i = .ok ds → fs = [] ∨ i + fs.length < W.length
  | [], i, ds, h => .inl rfl
  | c :: fs, i, ds, h => by
    refine .inr ?_
    cases hb : isNonB (thG W i c) with
    | true => rw [thL_bad hb] at h; cases h
    | false =>
      rw [thL_ok hb] at h
      cases hw : W[i + 1]? with
      | none => rw [thG_none hw] at hb; cases hb
      | some w =>
        have := lt_of hw
        obtain ⟨ds', e, rfl⟩ := consX_ok h
        rw [List.length_cons]
        rcases thL_le e with rfl | z
        · simp; omega
        · omega
def endT (W : List Str) (n : Nat) : Except Nat (List D) → Except Nat (List D)
  | .error k => .error k
  | .ok ds => if W.length = n + 1 then .ok ds else .error (n + 2)
def thgs (W : List Str) (Fs : Str) : Except Nat (List D) := endT W Fs.length (thL W (cs Fs) 0)
def thgD : Except Nat (List D) → D
  | .error n => .int n
  | .ok ds => .lst false ds
theorem v_things {W : List Str} (hW : ∀ w ∈ W, Tx w) {Fs : Str} (hF : ∀ c ∈ cs Fs, c = 119 ∨ c = 110) (hn : Fs.length ≤ 50) : g_tx_things [.lst false (W.map D.str), .str Fs] = some (.ok (thgD (thgs W Fs)), [none, none]) := by
  have ec : enumS [.str Fs] = some (enumD 0 ((cs Fs).map sgc)) := rfl
  have hl : lenD (.str Fs) = some (.int Fs.length) := v_len (by omega)
  obtain ⟨p3, p4, p5, fd', h1, h2⟩ := lp_things hW (F := .str Fs) (cs Fs) 0 [] none none none hF rfl (by rw [← len_cs]; simp; omega)
  have fl := fs_strs W
  unfold thgs
  have lw : (W.map D.str).length = W.length := List.length_map ..
  generalize W.map D.str = L at *
  cases e : thL W (cs Fs) 0 with
  | error n =>
    rw [e] at h1
    simp only [resT] at h1
    show _ = some (Except.ok (D.int n), [none, none])
    simp only [g_tx_things, m_tx_things]
    generalize enumD 0 ((cs Fs).map sgc) = EE at *
    simp [fl, ec, h1]
  | ok ds =>
    rw [e] at h1
    simp only [resT] at h1
    have := h2 ds e
    rw [List.nil_append] at this
    subst this
    have hz := thL_fz e
    obtain ⟨hf, _⟩ := thL_fs e
    by_cases hq : W.length = Fs.length + 1
    · have hqi : (W.length : Int) = Fs.length + 1 := by omega
      rw [show endT W Fs.length (.ok fd') = .ok fd' from if_pos hq]
      show _ = some (Except.ok (D.lst false fd'), [none, none])
      simp only [g_tx_things, m_tx_things]
      generalize enumD 0 ((cs Fs).map sgc) = EE at *
      simp [fl, ec, h1, lw, hl, hq, hqi, hz, hf]
    · have hqi : ¬ (W.length : Int) = Fs.length + 1 := by omega
      rw [show endT W Fs.length (.ok fd') = .error (Fs.length + 2) from if_neg hq]
      show _ = some (Except.ok (D.int ((Fs.length + 2 : Nat) : Int)), [none, none])
      simp only [g_tx_things, m_tx_things]
      generalize enumD 0 ((cs Fs).map sgc) = EE at *
      simp [fl, ec, h1, lw, hl, hq, hqi, hz, hf]
theorem rngD_succ (lo : Int) (n : Nat) : rngD lo (n + 1) = .int lo :: rngD (lo + 1) n := by
  unfold rngD
  rw [List.range_succ_eq_map, List.map_cons, List.map_map]
  congr 1
  · simp
  · refine List.map_congr_left fun i _ => ?_
    show D.int (lo + ((i + 1 : Nat) : Int)) = D.int (lo + 1 + (i : Int))
    congr 1
    omega
/-- the law's loop over the form -/
theorem lp_due {W : List Str} (hW : ∀ w ∈ W, Tx w) {Fs : Str} (hn : Fs.length ≤ 50) {T : D} : ∀ (fs : List Nat) (i : Nat) (fd : List D) (o4 o5 : Option D), (cs Fs).drop i = fs → (∀ c ∈ fs, c = 119 ∨ c = 110) → isFs fd = true → fd.length + fs.length ≤ 100 →
    ∃ p4 p5 fd', G.forM (put 4) b_law_due_1 (rngD ((i : Int) + 1) fs.length) [some T, some (.lst false (W.map D.str)), some (.str Fs), some (.lst true fd), o4, o5] =
      some (.ok (resT (thL W fs i) fun n => .tup [.int 1, .int n]), [some T, some (.lst false (W.map D.str)), some (.str Fs), some (.lst true fd'), p4, p5]) ∧ ∀ ds, thL W fs i = .ok ds → fd' = fd ++ ds
  | [], i, fd, o4, o5, _, _, _, _ => ⟨o4, o5, fd, rfl, fun ds h => by cases h; simp⟩
  | c :: fs, i, fd, o4, o5, hd, hc, hf, hl => by
    have fl := fs_strs W
    have hc0 := hc c (List.mem_cons_self ..)
    have hci : (cs Fs)[i]? = some c := by
      have : ((cs Fs).drop i)[0]? = some c := by rw [hd]; rfl
      rw [List.getElem?_drop] at this
      exact this
    have hd' : (cs Fs).drop (i + 1) = fs := by rw [← List.drop_drop, hd]; rfl
    have un : ∀ (d : D) (l : List D) (ρ : En), G.forM (put 4) b_law_due_1 (d :: l) ρ = bnd (put 4 d) (fun _ => bnd b_law_due_1 (loopF (G.forM (put 4) b_law_due_1 l))) ρ := fun _ _ _ => rfl
    have hl1 : fd.length ≤ 1000000 := by simp only [List.length_cons] at hl; omega
    rw [List.length_cons, rngD_succ]
    have ei : ((i : Int) + 1) = ((i + 1 : Nat) : Int) := by omega
    have ixF : ixD (.str Fs) (.int ((i : Int) + 1 - 1)) = some (sgc c) := by
      have e : ixD (.str Fs) (.int (i : Int)) = if Fs.length ≤ 1000000 then (atI Fs.cps.toList (i : Int)).map fun c => D.str ⟨#[c]⟩ else none := rfl
      have e2 : atI Fs.cps.toList (i : Int) = some c := atI_nat hci
      rw [show (i : Int) + 1 - 1 = i by omega, e, if_pos (by omega), e2]
      rfl
    rw [show (i : Int) + 1 - 1 = i by omega] at ixF
    have sgw : ∀ c : Nat, ((⟨#[c]⟩ : Str) = "w") ↔ c = 119 := fun c => by
      rw [sw.1]
      constructor
      · intro h; injection h with h; injection h with h; injection h
      · rintro rfl; rfl
    cases hw : W[i + 1]? with
    | none =>
      have hge : (W.length : Int) ≤ (i : Int) + 1 := by
        have := List.getElem?_eq_none_iff.mp hw
        omega
      have hgn : W.length ≤ i + 1 := by omega
      have hb : isNonB (thG W i c) = true := by rw [thG_none hw]; rfl
      rw [thL_bad hb]
      have e1 : (((i + 2 : Nat) : Nat) : Int) = (i : Int) + 1 + 1 := by omega
      refine ⟨some (.int ((i : Int) + 1)), o5, fd, ?_, fun ds h => by cases h⟩
      rw [un]
      generalize G.forM (put 4) b_law_due_1 (rngD ((i : Int) + 1 + 1) fs.length) = K at *
      simp [b_law_due_1, fl, hge, hgn, loopF, resT, e1]
    | some w =>
      have hlt : ¬ (W.length : Int) ≤ (i : Int) + 1 := by
        have := lt_of hw
        omega
      have hln : ¬ W.length ≤ i + 1 := by omega
      have tw := hW w (List.mem_of_getElem? hw)
      have q1 := v_lread tw
      have q2 := v_index tw
      have isn := is_th c w
      have ft := fs_th c w
      have ix : ixD (.lst false (W.map D.str)) (.int ((i : Int) + 1)) = some (.str w) := by
        rw [ei]
        exact atI_nat (j := i + 1) (by rw [List.getElem?_map, hw]; rfl)
      have eg : thG W i c = thD c w := thG_some hw
      have rv : ∃ b : Bool, (⟨#[c]⟩ : Str) = "w" ↔ b = true := ⟨decide (c = 119), by rw [sgw]; simp⟩
      have f1 := fs_res (rd w)
      have f2 := fs_idx w
      have e1 : (((i + 2 : Nat) : Nat) : Int) = (i : Int) + 1 + 1 := by omega
      cases hb : isNonB (thD c w) with
      | true =>
        rw [thL_bad (by rw [eg]; exact hb)]
        rw [hb] at isn
        refine ⟨some (.int ((i : Int) + 1)), some (thD c w), fd, ?_, fun ds h => by cases h⟩
        rw [un]
        generalize G.forM (put 4) b_law_due_1 (rngD ((i : Int) + 1 + 1) fs.length) = K at *
        rcases hc0 with rfl | rfl
        · have e : thD 119 w = resD (rd w) := if_pos rfl
          rw [e] at isn ⊢
          generalize resD (rd w) = R at *
          simp [b_law_due_1, fl, hlt, hln, isn, ix, ixF, q1, f1, (sgw 119).mpr rfl, loopF, resT, e1]
        · have e : thD 110 w = idxD w := if_neg (by decide)
          have n1 : ¬ (⟨#[110]⟩ : Str) = "w" := fun z => absurd ((sgw 110).mp z) (by decide)
          rw [e] at isn ⊢
          generalize idxD w = R at *
          simp [b_law_due_1, fl, hlt, hln, isn, ix, ixF, q2, f2, eq_false n1, loopF, resT, e1]
      | false =>
        rw [thL_ok (by rw [eg]; exact hb), eg]
        rw [hb] at isn
        obtain ⟨p4, p5, fd', h1, h2⟩ := lp_due hW hn (T := T) fs (i + 1) (fd ++ [thD c w]) (some (.int ((i : Int) + 1))) (some (thD c w)) hd' (fun c hc' => hc c (List.mem_cons_of_mem _ hc')) (isFs_snoc hf ft) (by simp only [List.length_append, List.length_cons, List.length_nil] at hl ⊢; omega)
        rw [show (((i + 1 : Nat) : Int) + 1) = (i : Int) + 1 + 1 by omega] at h1
        refine ⟨p4, p5, fd', ?_, fun ds h => ?_⟩
        · rw [un]
          rw [resT_cons]
          generalize resT (thL W fs (i + 1)) (fun n => .tup [.int 1, .int n]) = TT at *
          generalize G.forM (put 4) b_law_due_1 (rngD ((i : Int) + 1 + 1) fs.length) = K at *
          rcases hc0 with rfl | rfl
          · have e : thD 119 w = resD (rd w) := if_pos rfl
            rw [e] at isn h1 ft
            generalize resD (rd w) = R at *
            simp [b_law_due_1, fl, hlt, hln, isn, ix, ixF, q1, f1, (sgw 119).mpr rfl, loopF, hf, hl1, h1]
          · have e : thD 110 w = idxD w := if_neg (by decide)
            have n1 : ¬ (⟨#[110]⟩ : Str) = "w" := fun z => absurd ((sgw 110).mp z) (by decide)
            rw [e] at isn h1 ft
            generalize idxD w = R at *
            simp [b_law_due_1, fl, hlt, hln, isn, ix, ixF, q2, f2, eq_false n1, loopF, hf, hl1, h1]
        · obtain ⟨ds', e, rfl⟩ := consX_ok h
          rw [h2 ds' e, List.append_assoc]
          rfl
end Law

namespace Law
open PySem L2 G
def allF : List (Str × Str) := d_FORMS ++ d_EDITS
def formS (w : Str) : Option Str := lookS allF w
theorem lookS_app (a b : List (Str × Str)) (z : Str) : lookS (a ++ b) z = match lookS a z with
    | some v => some v
    | none => lookS b z := by
  induction a with
  | nil => rfl
  | cons x a ih =>
    obtain ⟨x, v⟩ := x
    rw [List.cons_append, s_lookS1, s_lookS1, ih]
    by_cases h : x = z
    · rw [if_pos h, if_pos h]
    · rw [if_neg h, if_neg h]
theorem lookS_mem {l : List (Str × Str)} {z v : Str} (h : lookS l z = some v) : (z, v) ∈ l := by
  induction l with
  | nil => cases h
  | cons x a ih =>
    obtain ⟨x, u⟩ := x
    rw [s_lookS1] at h
    by_cases e : x = z
    · rw [if_pos e] at h
      cases h
      rw [e]
      exact List.mem_cons_self ..
    · rw [if_neg e] at h
      exact List.mem_cons_of_mem _ (ih h)
theorem v_form (w : Str) : g_form_of [.str w] = some (.ok (orS (formS w) .non), [none]) := by
  have e : orS (lookS d_FORMS w) (orS (lookS d_EDITS w) .non) = orS (formS w) .non := by
    unfold formS allF
    rw [lookS_app]
    cases lookS d_FORMS w <;> rfl
  have f : isF (orS (formS w) .non) = true := by cases formS w <;> rfl
  rw [← e] at f ⊢
  simp only [g_form_of, m_form_of]
  simp [f]
theorem getK_look (l : List (Str × Str)) (w : Str) : getK (ksOf l) (vsOf' l) (.inr w) = (lookS l w).map D.str := by
  induction l with
  | nil => rfl
  | cons x l ih =>
    obtain ⟨x, v⟩ := x
    have e : getK (ksOf ((x, v) :: l)) (vsOf' ((x, v) :: l)) (.inr w) = if (Sum.inr x : Key) = .inr w then some (.str v) else getK (ksOf l) (vsOf' l) (.inr w) := rfl
    rw [e, ih, s_lookS1]
    by_cases h : x = w
    · rw [if_pos (by rw [h]), if_pos h]; rfl
    · rw [if_neg (fun z => h (Sum.inr.inj z)), if_neg h]
def F7 : List (Str × Str) := [("scale", "nw"), ("sum", "nn"), ("drop", "n"), ("contract", "n"), ("split", "nnn"), ("square", "n"), ("weight", "nw")]
def F8 : List (Str × Str) := F7 ++ [(("edge" : Str), ("ccw" : Str))]
def F9 : List (Str × Str) := F8 ++ [(("without" : Str), ("n" : Str))]
def F10 : List (Str × Str) := F9 ++ [(("leg" : Str), ("c" : Str))]
theorem put_new (l : List (Str × Str)) {k v : Str} (h : k ∉ l.map Prod.fst) (hl : l.length ≤ 1000) : dputS 0 k v [some (dkS true l)] = some (.ok .nx, [some (dkS true (l ++ [(k, v)]))]) := by
  have e1 : ((ksOf l).any fun q => decide (q = (Sum.inr k : Key))) = false := by
    rw [Bool.eq_false_iff]
    intro z
    obtain ⟨q, hq, e⟩ := List.any_eq_true.mp z
    obtain ⟨p, hp, rfl⟩ := List.mem_map.mp hq
    exact h (List.mem_map.mpr ⟨p, hp, Sum.inr.inj (of_decide_eq_true e)⟩)
  have e2 : isFs (vsOf' l) = true := by
    clear h hl e1
    induction l with
    | nil => rfl
    | cons p l ih => show isFs (.str p.2 :: vsOf' l) = true; rw [s_isFs1, ih]; rfl
  have e3 : (ksOf l).length = l.length := by simp [ksOf]
  have c : ¬ (((ksOf l).any fun q => decide (q = (Sum.inr k : Key))) = true ∨ 1000 < (ksOf l).length ∨ isFs (vsOf' l) = false) := by
    rw [e1, e2, e3]
    simp
    omega
  have e4 : dkS true (l ++ [(k, v)]) = .dk true (ksOf l ++ [.inr k]) (vsOf' l ++ [.str v]) := by simp [dkS, ksOf, vsOf']
  rw [e4]
  show (if ((ksOf l).any fun q => decide (q = (Sum.inr k : Key))) = true ∨ 1000 < (ksOf l).length ∨ isFs (vsOf' l) = false then none else _) = _
  rw [if_neg c]
  rfl
theorem allF_eq : allF = F10 ++ [(("unleg" : Str), ("n" : Str))] := by decide +kernel
theorem nd4 : ("edge" : Str) ∉ F7.map Prod.fst ∧ ("without" : Str) ∉ F8.map Prod.fst ∧ ("leg" : Str) ∉ F9.map Prod.fst ∧ ("unleg" : Str) ∉ F10.map Prod.fst := by decide +kernel
theorem vs_fz (l : List (Str × Str)) : fzs (vsOf' l) = vsOf' l := by
  induction l with
  | nil => rfl
  | cons p l ih => show fzs (.str p.2 :: vsOf' l) = _; rw [s_fzs1, ih]; rfl
abbrev formsD : D := .dk false (ksOf allF) (vsOf' allF)
theorem v_forms : g_law_forms [] = some (.ok formsD, []) := by
  obtain ⟨n1, n2, n3, n4⟩ := nd4
  have p1 := put_new F7 (v := "ccw") n1 (by decide)
  have p2 := put_new F8 (v := "n") n2 (by decide)
  have p3 := put_new F9 (v := "c") n3 (by decide)
  have p4 := put_new F10 (v := "n") n4 (by decide)
  rw [← allF_eq] at p4
  have fz1 : fz (dkS true allF) = formsD := by
    show D.dk false (ksOf allF) (fzs (vsOf' allF)) = _
    rw [vs_fz]
  have ff : isF formsD = true := rfl
  have e7 : dkS true [("scale", "nw"), ("sum", "nn"), ("drop", "n"), ("contract", "n"), ("split", "nnn"), ("square", "n"), ("weight", "nw")] = dkS true F7 := rfl
  rw [show F7 ++ [(("edge" : Str), ("ccw" : Str))] = F8 from rfl] at p1
  rw [show F8 ++ [(("without" : Str), ("n" : Str))] = F9 from rfl] at p2
  rw [show F9 ++ [(("leg" : Str), ("c" : Str))] = F10 from rfl] at p3
  simp only [g_law_forms, m_law_forms, e7]
  generalize dkS true F7 = d0 at *
  generalize dkS true F8 = d1 at *
  generalize dkS true F9 = d2 at *
  generalize dkS true F10 = d3 at *
  generalize dkS true allF = d4 at *
  generalize formsD = d5 at *
  simp [-s_dputS, p1, p2, p3, p4, fz1, ff]
theorem sg_c : sgc 99 = .str "c" ∧ sgc 119 = .str "w" ∧ sgc 110 = .str "n" := by
  obtain ⟨h1, _, h3, h4⟩ := sw
  exact ⟨by rw [h4], by rw [h1], by rw [h3]⟩
theorem chars_cs (z : Str) : chars z = (cs z).map sgc := rfl
theorem chs : charsD (.str "ccw") = some [.str "c", .str "c", .str "w"] ∧ charsD (.str "c") = some [.str "c"] ∧ charsD (.str "nw") = some [.str "n", .str "w"] ∧ charsD (.str "nn") = some [.str "n", .str "n"] ∧ charsD (.str "n") = some [.str "n"] ∧ charsD (.str "nnn") = some [.str "n", .str "n", .str "n"] := by
  obtain ⟨h1, h2, h3⟩ := sg_c
  have c : cs ("ccw" : Str) = [99, 99, 119] ∧ cs ("c" : Str) = [99] ∧ cs ("nw" : Str) = [110, 119] ∧ cs ("nn" : Str) = [110, 110] ∧ cs ("n" : Str) = [110] ∧ cs ("nnn" : Str) = [110, 110, 110] := by decide +kernel
  obtain ⟨c1, c2, c3, c4, c5, c6⟩ := c
  simp only [s_charsD, chars_cs, c1, c2, c3, c4, c5, c6, List.map_cons, List.map_nil, h1, h2, h3, and_self]
theorem sne : ¬ ("w" : Str) = "c" ∧ ¬ ("n" : Str) = "c" := by decide +kernel
def grpD (F : Str) (ds : List D) : List D := if F = "ccw" then (match ds with
    | [a, b, c, d, e] => [.tup [a, b], .tup [c, d], e]
    | _ => ds) else if F = "c" then (match ds with
    | [a, b] => [.tup [a, b]]
    | _ => ds) else ds
def repF (F : Str) : Str := Txt.replace F "c" "nn"
theorem reps : cs (repF "ccw") = [110, 110, 110, 110, 119] ∧ cs (repF "c") = [110, 110] ∧ cs (repF "nw") = [110, 119] ∧ cs (repF "nn") = [110, 110] ∧ cs (repF "n") = [110] ∧ cs (repF "nnn") = [110, 110, 110] := by decide +kernel
theorem lst_ix {ds : List D} {k : Nat} {d : D} (h : ds[k]? = some d) : ixD (.lst false ds) (.int (k : Int)) = some d := atI_nat h
def six : List Str := ["ccw", "c", "nw", "nn", "n", "nnn"]
theorem v_grouped {F : Str} (hF : F ∈ six) {ds : List D} (hl : ds.length = (cs (repF F)).length) (hf : ∀ d ∈ ds, isF d = true ∧ fz d = d) : g_tx_grouped [.lst false ds, .str F] = some (.ok (.tup (grpD F ds)), [none, none]) := by
  obtain ⟨c1, c2, c3, c4, c5, c6⟩ := chs
  obtain ⟨r1, r2, r3, r4, r5, r6⟩ := reps
  obtain ⟨n1, n2⟩ := sne
  have g1 : ¬ ("c" : Str) = "ccw" := by decide +kernel
  have g3 : ¬ ("nw" : Str) = "ccw" ∧ ¬ ("nw" : Str) = "c" := by decide +kernel
  have g4 : ¬ ("nn" : Str) = "ccw" ∧ ¬ ("nn" : Str) = "c" := by decide +kernel
  have g5 : ¬ ("n" : Str) = "ccw" ∧ ¬ ("n" : Str) = "c" := by decide +kernel
  have g6 : ¬ ("nnn" : Str) = "ccw" ∧ ¬ ("nnn" : Str) = "c" := by decide +kernel
  simp only [six, List.mem_cons, List.not_mem_nil, or_false] at hF
  rcases hF with rfl | rfl | rfl | rfl | rfl | rfl
  · rw [r1] at hl
    match ds, hl, hf with
    | [a, b, c, d, e], _, hf =>
      have ha := hf a (by simp)
      have hb := hf b (by simp)
      have hc := hf c (by simp)
      have hd := hf d (by simp)
      have he := hf e (by simp)
      have i0 := lst_ix (ds := [a, b, c, d, e]) (k := 0) rfl
      have i1 := lst_ix (ds := [a, b, c, d, e]) (k := 1) rfl
      have i2 := lst_ix (ds := [a, b, c, d, e]) (k := 2) rfl
      have i3 := lst_ix (ds := [a, b, c, d, e]) (k := 3) rfl
      have i4 := lst_ix (ds := [a, b, c, d, e]) (k := 4) rfl
      have gg : grpD "ccw" [a, b, c, d, e] = [.tup [a, b], .tup [c, d], e] := if_pos rfl
      have ft : ∀ x y : D, isF (.tup [x, y]) = true := fun _ _ => rfl
      have fzt : ∀ x y : D, fz (.tup [x, y]) = .tup [x, y] := fun _ _ => rfl
      rw [gg]
      simp only [g_tx_grouped, m_tx_grouped]
      simp at i0 i1 i2 i3 i4
      simp [b_tx_grouped_1, G.forM, loopF, tupleD, c1, n1, i0, i1, i2, i3, i4, ha, hb, hc, hd, he, ft, fzt]
  · rw [r2] at hl
    match ds, hl, hf with
    | [a, b], _, hf =>
      have ha := hf a (by simp)
      have hb := hf b (by simp)
      have i0 := lst_ix (ds := [a, b]) (k := 0) rfl
      have i1 := lst_ix (ds := [a, b]) (k := 1) rfl
      have gg : grpD "c" [a, b] = [.tup [a, b]] := by unfold grpD; rw [if_neg g1, if_pos rfl]
      have ft : ∀ x y : D, isF (.tup [x, y]) = true := fun _ _ => rfl
      have fzt : ∀ x y : D, fz (.tup [x, y]) = .tup [x, y] := fun _ _ => rfl
      rw [gg]
      simp only [g_tx_grouped, m_tx_grouped]
      simp at i0 i1
      simp [b_tx_grouped_1, G.forM, loopF, tupleD, c2, i0, i1, ha, hb, ft, fzt]
  · rw [r3] at hl
    match ds, hl, hf with
    | [a, b], _, hf =>
      have ha := hf a (by simp)
      have hb := hf b (by simp)
      have i0 := lst_ix (ds := [a, b]) (k := 0) rfl
      have i1 := lst_ix (ds := [a, b]) (k := 1) rfl
      have gg : grpD "nw" [a, b] = [a, b] := by unfold grpD; rw [if_neg g3.1, if_neg g3.2]
      rw [gg]
      simp only [g_tx_grouped, m_tx_grouped]
      simp at i0 i1
      simp [b_tx_grouped_1, G.forM, loopF, tupleD, c3, n1, n2, i0, i1, ha, hb]
  · rw [r4] at hl
    match ds, hl, hf with
    | [a, b], _, hf =>
      have ha := hf a (by simp)
      have hb := hf b (by simp)
      have i0 := lst_ix (ds := [a, b]) (k := 0) rfl
      have i1 := lst_ix (ds := [a, b]) (k := 1) rfl
      have gg : grpD "nn" [a, b] = [a, b] := by unfold grpD; rw [if_neg g4.1, if_neg g4.2]
      rw [gg]
      simp only [g_tx_grouped, m_tx_grouped]
      simp at i0 i1
      simp [b_tx_grouped_1, G.forM, loopF, tupleD, c4, n1, n2, i0, i1, ha, hb]
  · rw [r5] at hl
    match ds, hl, hf with
    | [a], _, hf =>
      have ha := hf a (by simp)
      have i0 := lst_ix (ds := [a]) (k := 0) rfl
      have gg : grpD "n" [a] = [a] := by unfold grpD; rw [if_neg g5.1, if_neg g5.2]
      rw [gg]
      simp only [g_tx_grouped, m_tx_grouped]
      simp at i0
      simp [b_tx_grouped_1, G.forM, loopF, tupleD, c5, n2, i0, ha]
  · rw [r6] at hl
    match ds, hl, hf with
    | [a, b, c], _, hf =>
      have ha := hf a (by simp)
      have hb := hf b (by simp)
      have hc := hf c (by simp)
      have i0 := lst_ix (ds := [a, b, c]) (k := 0) rfl
      have i1 := lst_ix (ds := [a, b, c]) (k := 1) rfl
      have i2 := lst_ix (ds := [a, b, c]) (k := 2) rfl
      have gg : grpD "nnn" [a, b, c] = [a, b, c] := by unfold grpD; rw [if_neg g6.1, if_neg g6.2]
      rw [gg]
      simp only [g_tx_grouped, m_tx_grouped]
      simp at i0 i1 i2
      simp [b_tx_grouped_1, G.forM, loopF, tupleD, c6, n2, i0, i1, i2, ha, hb, hc]
end Law

namespace Law
open PySem L2 G
def emB (W : List Str) : Bool := inV (.str "") (W.map V.str)
theorem vs_strs (W : List Str) : vsOf (W.map D.str) = some (W.map V.str) := by
  induction W with
  | nil => rfl
  | cons w W ih =>
    show (vOf (.str w)).bind (fun v => (vsOf (W.map D.str)).map (v :: ·)) = _
    rw [ih]
    rfl
theorem in_em (W : List Str) : inB (.str "") (.lst false (W.map D.str)) = some (.bl (emB W)) := by
  show ((vOf (.str "")).bind fun v => (seqOf (.lst false (W.map D.str))).bind fun ds => (vsOf ds).map fun vs => inV v vs).map D.bl = _
  show (((vsOf (W.map D.str)).map fun vs => inV (.str "") vs)).map D.bl = _
  rw [vs_strs]
  rfl
theorem allF_six : ∀ p ∈ allF, p.2 ∈ six := by decide +kernel
theorem form_six {w F : Str} (h : formS w = some F) : F ∈ six := allF_six _ (lookS_mem h)
theorem six_ok : ∀ F ∈ six, (∀ c ∈ cs (repF F), c = 119 ∨ c = 110) ∧ (repF F).length ≤ 50 ∧ F.length ≤ 3 := by decide +kernel
theorem rep_F {F : Str} (h : F ∈ six) : replD "c" "nn" (.str F) = some (.str (repF F)) := by
  have := (six_ok F h).2.2
  have l2 : ("nn" : Str).length = 2 := by decide +kernel
  rw [s_replD, l2, if_pos (by omega)]
  rfl
def br (v : Nat) : Xn := ⟨"BadRow", [("word", .int v), ("row", .int 1)]⟩
def finD (w : Str) (F : Str) : Except Nat (List D) → Except Nat D
  | .error n => .error n
  | .ok ds => .ok (.tup (.str w :: grpD F ds))
/-- what is read -/
def readX (W : List Str) (w : Str) : Except Nat D := if emB W = true then .error 0 else match formS w with
  | none => .error 1
  | some F => finD w F (thgs W (repF F))
theorem thgs_ok {W : List Str} {F : Str} {ds : List D} (h : thgs W F = .ok ds) : thL W (cs F) 0 = .ok ds ∧ W.length = F.length + 1 := by
  unfold thgs at h
  cases e : thL W (cs F) 0 with
  | error n => rw [e] at h; cases h
  | ok es =>
    rw [e] at h
    have h : (if W.length = F.length + 1 then Except.ok es else Except.error (F.length + 2)) = Except.ok ds := h
    split at h
    · cases h; exact ⟨rfl, ‹_›⟩
    · cases h
theorem thL_all {W : List Str} : ∀ {fs : List Nat} {i : Nat} {ds : List D}, thL W fs i = .ok ds → ∀ d ∈ ds, ∃ j c, d = thG W j c
  | [], i, ds, h, d, hd => by cases h; cases hd
  | c :: fs, i, ds, h, d, hd => by
    cases hb : isNonB (thG W i c) with
    | true => rw [thL_bad hb] at h; cases h
    | false =>
      rw [thL_ok hb] at h
      obtain ⟨ds', e, rfl⟩ := consX_ok h
      rcases List.mem_cons.mp hd with rfl | hd
      · exact ⟨i, c, rfl⟩
      · exact thL_all e d hd
theorem fs_grp {F : Str} {ds : List D} (h : isFs ds = true) : isFs (grpD F ds) = true := by
  have tp : ∀ l : List D, isF (.tup l) = true := fun _ => rfl
  unfold grpD
  split
  · split
    · simp at h ⊢
      exact h.2.2.2.2
    · exact h
  · split
    · split
      · simp
      · exact h
    · exact h
theorem len_grp {F : Str} {ds : List D} (h : ds.length ≤ 100) : (grpD F ds).length ≤ 100 := by
  unfold grpD
  split
  · split
    · simp
    · exact h
  · split
    · split
      · simp
      · exact h
    · exact h
def rdR : Except Nat D → Except Xn D
  | .error n => .error (br n)
  | .ok d => .ok d
theorem v_readstep {t : Str} (h : Tx t) {w : Str} {W' : List Str} (hw : sb t = w :: W') : g_read_step [.str t] = some (rdR (readX (sb t) w), [none]) := by
  have s1 := s_sb h
  have hW := h.words
  have i := in_em (sb t)
  have i2 : isiD (.str t) (.ty "str") = some (.bl true) := rfl
  have v1 := v_form w
  have fl := fs_strs (sb t)
  have ix : ixD (.lst false ((sb t).map D.str)) (.int 0) = some (.str w) := by rw [hw]; exact l_ix0 _ _
  have vt := fun {F : Str} (hF : F ∈ six) => v_things hW (six_ok _ hF).1 (six_ok _ hF).2.1
  have in0 : isD .non .non = some (.bl true) := rfl
  have in1 : ∀ F : Str, isD (.str F) .non = some (.bl false) := fun _ => rfl
  unfold readX
  generalize hS : sb t = W at *
  by_cases e : emB W = true
  · rw [if_pos e]
    rw [e] at i
    have fo : isF (orS (formS w) .non) = true := by cases formS w <;> rfl
    generalize W.map D.str = L at *
    generalize orS (formS w) .non = FO at *
    show _ = some (Except.error (br 0), [none])
    simp only [g_read_step, m_read_step]
    simp [i2, s1, fl, ix, v1, fo, i, br]
  · rw [if_neg e]
    rw [Bool.eq_false_iff.mpr e] at i
    cases ef : formS w with
    | none =>
      rw [ef] at v1
      generalize W.map D.str = L at *
      show _ = some (Except.error (br 1), [none])
      simp only [g_read_step, m_read_step]
      simp [i2, s1, fl, ix, v1, i, in0, br]
    | some F =>
      rw [ef] at v1
      have hF := form_six ef
      have vt := vt hF
      have rp := rep_F hF
      have io := in1 F
      show _ = some (rdR (finD w F (thgs W (repF F))), [none])
      cases eg : thgs W (repF F) with
      | error n =>
        rw [eg] at vt
        simp only [thgD] at vt
        have i3 : isiD (.int (n : Int)) (.ty "list") = some (.bl false) := rfl
        generalize W.map D.str = L at *
        show _ = some (Except.error (br n), [none])
        simp only [g_read_step, m_read_step]
        simp [i2, s1, fl, ix, v1, i, io, rp, vt, i3, br]
      | ok ds =>
        rw [eg] at vt
        simp only [thgD] at vt
        obtain ⟨el, _⟩ := thgs_ok eg
        obtain ⟨fd, ld⟩ := thL_fs el
        have vg := v_grouped hF ld fun d hd => by
          obtain ⟨j, c, rfl⟩ := thL_all el d hd
          exact ⟨fs_thG _ _ _, fz_thG _ _ _⟩
        have i3 : isiD (.lst false ds) (.ty "list") = some (.bl true) := rfl
        have ll : ds.length ≤ 100 := by
          have := (six_ok F hF).2.1
          rw [ld, ← len_cs]
          omega
        have lg := len_grp (F := F) ll
        have fg := fs_grp (F := F) fd
        have ad : addD (.tup [.str w]) (.tup (grpD F ds)) = some (.tup (.str w :: grpD F ds)) := by
          show (if [D.str w].length + (grpD F ds).length ≤ 1000000 then some (D.tup ([D.str w] ++ grpD F ds)) else none) = _
          rw [if_pos (by simp; omega)]
          rfl
        have fT : ∀ l : List D, isF (.tup l) = true := fun _ => rfl
        show _ = some (Except.ok (D.tup (.str w :: grpD F ds)), [none])
        generalize W.map D.str = L at *
        generalize grpD F ds = GD at *
        simp only [g_read_step, m_read_step]
        simp [i2, s1, fl, ix, v1, i, io, rp, vt, i3, fd, vg, ad, fT]
def outX : Except Nat D → D
  | .error n => .tup [.int 1, .int n]
  | .ok d => .lst false [d]
theorem v_outcome {t : Str} (h : Tx t) {w : Str} {W' : List Str} (hw : sb t = w :: W') : g_law_outcome [.str t] = some (.ok (outX (readX (sb t) w)), [none]) := by
  have r := v_readstep h hw
  cases e : readX (sb t) w with
  | ok d =>
    have fd : isF d = true := by
      unfold readX at e
      split at e
      · cases e
      · split at e
        · cases e
        · rename_i F _
          cases eg : thgs (sb t) (repF F) with
          | error n => rw [eg] at e; cases e
          | ok ds => rw [eg] at e; cases e; rfl
    rw [e] at r
    simp only [rdR] at r
    have hb : b_law_outcome_2 [some (.str t), some (.str "begun"), none] = some (.ok .nx, [some (.str t), some (.lst false [d]), none]) := by
      simp [b_law_outcome_2, r, fd]
    have e := s_tryA_ok (c := "BadRow") (i := 2) (known := []) (s := b_law_outcome_1) hb
    show _ = some (Except.ok (D.lst false [d]), [none])
    simp only [g_law_outcome, m_law_outcome]
    simp [e, fd]
  | error n =>
    rw [e] at r
    simp only [rdR, br] at r
    have hb : b_law_outcome_2 [some (.str t), some (.str "begun"), none] = some (.error ⟨"BadRow", [("word", .int n), ("row", .int 1)]⟩, [some (.str t), some (.str "begun"), none]) := by
      simp [b_law_outcome_2, r]
    have ne : (("row" : Str) == "word") = false := by decide +kernel
    have lk : ∀ x y : D, List.lookup ("row" : Str) [(("word" : Str), x), (("row" : Str), y)] = some y := fun x y => by simp [List.lookup, ne]
    have lk2 : ∀ x y : D, List.lookup ("word" : Str) [(("word" : Str), x), (("row" : Str), y)] = some x := fun x y => by simp [List.lookup]
    have e := s_tryA_err (c := "BadRow") (i := 2) (known := []) (s := b_law_outcome_1) (f := .nx) (ρ2 := [some (.str t), some (.tup [.int 1, .int n]), none]) hb rfl (by simp) (by simp) (fun a d => ⟨_, by simp [b_law_outcome_1, eXf, lk, lk2]; rfl, rfl⟩)
    show _ = some (Except.ok (D.tup [.int 1, .int n]), [none])
    simp only [g_law_outcome, m_law_outcome]
    simp [e]
end Law

namespace Law
open PySem L2 G
theorem dn_form (w : Str) : dninD (.str w) formsD = some (.bl (!(formS w).isSome)) := by
  have e : dninD (.str w) formsD = some (.bl (!(getK (ksOf allF) (vsOf' allF) (.inr w)).isSome)) := rfl
  rw [e, getK_look]
  cases h : lookS allF w <;> simp [formS, h]
theorem dx_form {w F : Str} (h : formS w = some F) : dixD formsD (.str w) = some (.str F) := by
  have e : dixD formsD (.str w) = getK (ksOf allF) (vsOf' allF) (.inr w) := rfl
  rw [e, getK_look, show lookS allF w = some F from h]
  rfl
theorem names_ok : ∀ p ∈ allF, (p.1 = "edge" ↔ p.2 = "ccw") ∧ (p.1 = "leg" ↔ p.2 = "c") := by decide +kernel
noncomputable def t_due : M Fl := sSeq (sIf (tB (eOp gtD (eFn (f1 lenD) (aCons (eName 1) aNil)) (eOp addD (eFn (f1 lenD) (aCons (eName 2) aNil)) (rt (.int 1))))) (sRet (eFn gTup (aCons (rt (.int 1)) (aCons (eOp addD (eFn (f1 lenD) (aCons (eName 2) aNil)) (rt (.int 2))) aNil)))) sNx) (fzSl 3 (sSeq (sIf (tB (eOp eqD (eOp ixD (eName 1) (rt (.int 0))) (rt (.str "edge")))) (sSet 3 (eFn gLst (aCons (eFn gTup (aCons (eOp ixD (eName 3) (rt (.int 0))) (aCons (eOp ixD (eName 3) (rt (.int 1))) aNil))) (aCons (eFn gTup (aCons (eOp ixD (eName 3) (rt (.int 2))) (aCons (eOp ixD (eName 3) (rt (.int 3))) aNil))) (aCons (eOp ixD (eName 3) (rt (.int 4))) aNil))))) sNx) (sSeq (sIf (tB (eOp eqD (eOp ixD (eName 1) (rt (.int 0))) (rt (.str "leg")))) (sSet 3 (eFn gLst (aCons (eFn gTup (aCons (eOp ixD (eName 3) (rt (.int 0))) (aCons (eOp ixD (eName 3) (rt (.int 1))) aNil))) aNil))) sNx) (sRet (eFn gLst (aCons (eOp addD (eFn gTup (aCons (eOp ixD (eName 1) (rt (.int 0))) aNil)) (eFn (f1 tupleD) (aCons (eName 3) aNil))) aNil))))))
theorem due_eq : m_law_due = sSeq (sSet 1 (eUn (splitD " ") (eName 0))) (sSeq (sIf (tB (eOp inB (rt (.str "")) (eName 1))) (sRet (eFn gTup (aCons (rt (.int 1)) (aCons (rt (.int 0)) aNil)))) sNx) (sSeq (sIf (tB (eOp dninD (eOp ixD (eName 1) (rt (.int 0))) (eCall0 g_law_forms))) (sRet (eFn gTup (aCons (rt (.int 1)) (aCons (rt (.int 1)) aNil)))) sNx) (sSeq (bnd (aCons (eUn (replD "c" "nn") (eOp dixD (eCall0 g_law_forms) (eOp ixD (eName 1) (rt (.int 0))))) (aCons (eOwn aNil) aNil)) (putP 2 3)) (sSeq (sFor (iRng rng2 (aCons (rt (.int 1)) (aCons (eOp addD (eFn (f1 lenD) (aCons (eName 2) aNil)) (rt (.int 1))) aNil))) (put 4) b_law_due_1) t_due)))) := rfl
/-- behind the loop -/
theorem v_tdue {t w F : Str} {L ds : List D} {o4 o5 : Option D} (hw : formS w = some F) (fl : isFs L = true) (ix : ixD (.lst false L) (.int 0) = some (.str w)) (hl : ds.length = (repF F).length) (fd : isFs ds = true) (hz : fzs ds = ds) (hL : (repF F).length + 1 ≤ L.length) :
    fin (t_due [some (.str t), some (.lst false L), some (.str (repF F)), some (.lst true ds), o4, o5]) = some (.ok (outX (finD w F (if L.length = (repF F).length + 1 then .ok ds else .error ((repF F).length + 2)))), [none]) := by
  have hF := form_six hw
  have hn := (six_ok F hF).2.1
  have hlen : lenD (.str (repF F)) = some (.int (repF F).length) := v_len (by omega)
  obtain ⟨k1, k2⟩ := names_ok _ (lookS_mem hw)
  have k1 : w = "edge" ↔ F = "ccw" := k1
  have k2 : w = "leg" ↔ F = "c" := k2
  by_cases q : L.length = (repF F).length + 1
  · have qi : ¬ ((repF F).length : Int) + 1 < L.length := by omega
    have qn : ¬ (repF F).length + 1 < L.length := by omega
    rw [if_pos q]
    have ad : ∀ l : List D, l.length ≤ 100 → addD (.tup [.str w]) (.tup l) = some (.tup (.str w :: l)) := fun l hl => by
      show (if [D.str w].length + l.length ≤ 1000000 then some (D.tup ([D.str w] ++ l)) else none) = _
      rw [if_pos (by simp; omega)]
      rfl
    have fT : ∀ l : List D, isF (.tup l) = true := fun _ => rfl
    show _ = some (Except.ok (D.lst false [.tup (.str w :: grpD F ds)]), [none])
    by_cases c1 : F = "ccw"
    · have w1 := k1.mpr c1
      subst c1
      have w2 : ¬ w = "leg" := by rw [w1]; decide +kernel
      have l5 : ds.length = 5 := by rw [hl, len_cs, reps.1]; rfl
      match ds, l5, fd, hz with
      | [a, b, c, d, e], _, fd, hz =>
        have i0 := lst_ix (ds := [a, b, c, d, e]) (k := 0) rfl
        have i1 := lst_ix (ds := [a, b, c, d, e]) (k := 1) rfl
        have i2 := lst_ix (ds := [a, b, c, d, e]) (k := 2) rfl
        have i3 := lst_ix (ds := [a, b, c, d, e]) (k := 3) rfl
        have i4 := lst_ix (ds := [a, b, c, d, e]) (k := 4) rfl
        have gg : grpD "ccw" [a, b, c, d, e] = [.tup [a, b], .tup [c, d], e] := if_pos rfl
        have a1 := ad [.tup [a, b], .tup [c, d], e] (by simp)
        rw [gg]
        simp at i0 i1 i2 i3 i4 fd hz
        simp [t_due, fl, ix, hlen, qi, qn, hz, eq_true w1, eq_false w2, i0, i1, i2, i3, i4, fd, fT, tupleD, a1]
    · have w1 : ¬ w = "edge" := fun z => c1 (k1.mp z)
      by_cases c2 : F = "c"
      · have w2 := k2.mpr c2
        subst c2
        have l2 : ds.length = 2 := by rw [hl, len_cs, reps.2.1]; rfl
        match ds, l2, fd, hz with
        | [a, b], _, fd, hz =>
          have i0 := lst_ix (ds := [a, b]) (k := 0) rfl
          have i1 := lst_ix (ds := [a, b]) (k := 1) rfl
          have gg : grpD "c" [a, b] = [.tup [a, b]] := by unfold grpD; rw [if_neg c1, if_pos rfl]
          have a1 := ad [.tup [a, b]] (by simp)
          rw [gg]
          simp at i0 i1 fd hz
          simp [t_due, fl, ix, hlen, qi, qn, hz, eq_false w1, eq_true w2, i0, i1, fd, fT, tupleD, a1]
      · have w2 : ¬ w = "leg" := fun z => c2 (k2.mp z)
        have gg : grpD F ds = ds := by unfold grpD; rw [if_neg c1, if_neg c2]
        have a1 := ad ds (by omega)
        rw [gg]
        simp [t_due, fl, ix, hlen, qi, qn, hz, eq_false w1, eq_false w2, fd, fT, tupleD, a1]
  · have qi : ((repF F).length : Int) + 1 < L.length := by omega
    have qn : (repF F).length + 1 < L.length := by omega
    rw [if_neg q]
    show _ = some (Except.ok (D.tup [.int 1, .int (((repF F).length + 2 : Nat) : Int)]), [none])
    have e : ((((repF F).length + 2 : Nat)) : Int) = ((repF F).length : Int) + 2 := by omega
    rw [e]
    simp [t_due, fl, hlen, qi, qn]
theorem v_due {t : Str} (h : Tx t) {w : Str} {W' : List Str} (hw : sb t = w :: W') : g_law_due [.str t] = some (.ok (outX (readX (sb t) w)), [none]) := by
  have s1 := s_sb h
  have hW := h.words
  have i := in_em (sb t)
  have fl := fs_strs (sb t)
  have ix : ixD (.lst false ((sb t).map D.str)) (.int 0) = some (.str w) := by rw [hw]; exact l_ix0 _ _
  have dn := dn_form w
  have vf := v_forms
  have ff : isF formsD = true := rfl
  have lL : ((sb t).map D.str).length = (sb t).length := List.length_map ..
  have e0 : g_law_due [.str t] = fin (m_law_due [some (.str t), none, none, none, none, none]) := rfl
  rw [e0, due_eq]
  unfold readX
  generalize hS : sb t = W at *
  by_cases e : emB W = true
  · rw [if_pos e]
    rw [e] at i
    generalize W.map D.str = L at *
    show _ = some (Except.ok (D.tup [.int 1, .int 0]), [none])
    simp [s1, fl, i]
  · rw [if_neg e]
    rw [Bool.eq_false_iff.mpr e] at i
    cases ef : formS w with
    | none =>
      rw [ef] at dn
      generalize W.map D.str = L at *
      generalize formsD = FD at *
      show _ = some (Except.ok (D.tup [.int 1, .int 1]), [none])
      simp [s1, fl, ix, i, vf, ff, dn]
    | some F =>
      have dx := dx_form ef
      rw [ef] at dn
      have hF := form_six ef
      have rp := rep_F hF
      obtain ⟨o1, o2, o3⟩ := six_ok F hF
      have hlen : lenD (.str (repF F)) = some (.int (repF F).length) := v_len (by omega)
      have rn : rng2 [.int 1, .int ((repF F).length + 1)] = some (rngD 1 (cs (repF F)).length) := by
        have := rng2_int 1 ((repF F).length + 1) (by omega)
        rw [this, ← len_cs, show (((repF F).length : Int) + 1 - 1).toNat = (repF F).length by omega]
      obtain ⟨p4, p5, fd', h1, h2⟩ := lp_due hW o2 (T := .str t) (cs (repF F)) 0 [] none none rfl o1 rfl (by rw [← len_cs]; simp; omega)
      rw [show (((0 : Nat) : Int) + 1) = 1 from rfl] at h1
      show _ = some (Except.ok (outX (finD w F (endT W (repF F).length (thL W (cs (repF F)) 0)))), [none])
      cases et : thL W (cs (repF F)) 0 with
      | error n =>
        rw [et] at h1
        simp only [resT] at h1
        generalize W.map D.str = L at *
        generalize formsD = FD at *
        generalize rngD 1 (cs (repF F)).length = RR at *
        show _ = some (Except.ok (D.tup [.int 1, .int n]), [none])
        simp [s1, fl, ix, i, vf, ff, dn, dx, rp, hlen, rn, h1]
      | ok ds =>
        rw [et] at h1
        simp only [resT] at h1
        have := h2 ds et
        rw [List.nil_append] at this
        subst this
        obtain ⟨fd, ld⟩ := thL_fs et
        have hz := thL_fz et
        have hle : (repF F).length + 1 ≤ W.length := by
          rcases thL_le et with z | z
          · exfalso
            have : ∀ F ∈ six, cs (repF F) ≠ [] := by decide +kernel
            exact this F hF z
          · rw [← len_cs] at z; omega
        have k := v_tdue (t := t) (L := W.map D.str) (o4 := p4) (o5 := p5) ef fl ix (by rw [ld, ← len_cs]) fd hz (by rw [lL]; exact hle)
        rw [lL] at k
        show _ = some (Except.ok (outX (finD w F (if W.length = (repF F).length + 1 then Except.ok fd' else Except.error ((repF F).length + 2)))), [none])
        generalize outX (finD w F (if W.length = (repF F).length + 1 then Except.ok fd' else Except.error ((repF F).length + 2))) = Z at *
        generalize W.map D.str = L at *
        generalize formsD = FD at *
        generalize rngD 1 (cs (repF F)).length = RR at *
        simp [s1, fl, ix, i, vf, ff, dn, dx, rp, hlen, rn, h1]
        exact k
end Law

namespace Law
open PySem L2 G
def RP (n k : Nat) (d : D) : Prop := ∃ p, py d = some p ∧ okB p = true ∧ p.shown.length ≤ n ∧ p.depth ≤ k
def RPs (n k : Nat) (ds : List D) : Prop := ∃ ps, pys ds = some ps ∧ okBs ps = true ∧ ((PyData.shownAll ps).map (·.length)).sum ≤ n * ds.length ∧ (PyData.shownAll ps).length = ds.length ∧ PyData.depthAll ps ≤ k
theorem RP.more {n m k l : Nat} {d : D} (h : RP n k d) (h1 : n ≤ m) (h2 : k ≤ l) : RP m l d := by
  obtain ⟨p, a, b, c, e⟩ := h
  exact ⟨p, a, b, by omega, by omega⟩
theorem RPs.of {n k : Nat} : ∀ {ds : List D}, (∀ d ∈ ds, RP n k d) → RPs n k ds
  | [], _ => ⟨[], rfl, rfl, by simp [PyData.shownAll], rfl, by simp [PyData.depthAll]⟩
  | d :: ds, h => by
    obtain ⟨p, a, b, c, e⟩ := h d (List.mem_cons_self ..)
    obtain ⟨ps, a', b', c', l', e'⟩ := RPs.of fun d hd => h d (List.mem_cons_of_mem _ hd)
    refine ⟨p :: ps, by simp [pys, a, a'], by simp [okBs, b, b'], ?_, by simp [PyData.shownAll, l'], ?_⟩
    · simp only [PyData.shownAll, List.map_cons, List.sum_cons, List.length_cons, Nat.mul_add, Nat.mul_one]
      omega
    · simp only [PyData.depthAll]
      omega
theorem RP.tup {n k : Nat} {ds : List D} (h : ∀ d ∈ ds, RP n k d) : RP ((n + 2) * ds.length + 3) (k + 1) (.tup ds) := by
  obtain ⟨ps, a, b, c, l, e⟩ := RPs.of h
  have t := tupleText_len_le (PyData.shownAll ps)
  refine ⟨.tuple ps, by simp [py, a], by simpa [okB] using b, ?_, ?_⟩
  · simp only [PyData.shown, Nat.add_mul]; omega
  · simp only [PyData.depth]; omega
theorem RP.lst {n k : Nat} {ds : List D} (h : ∀ d ∈ ds, RP n k d) : RP ((n + 2) * ds.length + 3) (k + 1) (.lst false ds) := by
  obtain ⟨ps, a, b, c, l, e⟩ := RPs.of h
  have t := listText_len_le (PyData.shownAll ps)
  refine ⟨.list ps, by simp [py, a], by simpa [okB] using b, ?_, ?_⟩
  · simp only [PyData.shown, Nat.add_mul]; omega
  · simp only [PyData.depth]; omega
theorem RP.rep {n k : Nat} {d : D} (h : RP n k d) (hn : n ≤ 1000000) (hk : k ≤ 64) : ∃ s, reprD [d] = some (.str s) := by
  obtain ⟨p, a, b, c, e⟩ := h
  exact ⟨_, rep_of p a b (by omega) (by omega)⟩
theorem RP.int {i : Int} (h : i.natAbs < digLim) : RP 4301 0 (.int i) := by
  refine ⟨.int i, rfl, by simpa [okB] using h, ?_, by simp [PyData.depth]⟩
  have h1 : (Str.ofString (toString i)).length ≤ 4301 := by rw [PySem.ofString_length]; exact int_text_length_le10 (k := 4300) (by decide) h
  simp only [PyData.shown]
  exact h1
theorem RP.str {w : Str} (h : ∀ c ∈ cs w, c < 128) (hl : w.length ≤ 10) : RP 108 0 (.str w) := by
  have l := PyData.shown_le 8 (by decide) (.str w) (by
    simp only [PyData.leavesShort, List.all_eq_true, decide_eq_true_eq]
    exact fun c hc => Nat.lt_trans (h c hc) (by decide))
  simp only [PyData.weight] at l
  have e : w.length = w.cps.size := rfl
  exact ⟨.str w, rfl, rfl, by omega, by simp [PyData.depth]⟩
theorem dig_small {n : Nat} (h : n < 2 ^ 4000) : ((n : Nat) : Int).natAbs < digLim := dig_of (n := 4000) (by rw [Int.natAbs_natCast]; exact h) (by decide)
theorem rd_bound {t : Str} {x : Int × Int} (e : rd t = some x) : x.1.natAbs < 2 ^ 4000 ∧ x.2.natAbs < 2 ^ 4000 := by
  unfold rd at e
  split at e
  · exact rdp_bound (.inr rfl) e
  · exact rdp_bound (.inl rfl) e
theorem rp_th {c : Nat} {w : Str} (h : isNonB (thD c w) = false) : RP 8609 1 (thD c w) := by
  unfold thD at h ⊢
  split
  · rename_i hc
    rw [if_pos hc] at h
    cases e : rd w with
    | none => rw [e] at h; cases h
    | some x =>
      obtain ⟨b1, b2⟩ := rd_bound e
      have := RP.tup (n := 4301) (k := 0) (ds := [.int x.1, .int x.2]) fun d hd => by
        simp only [List.mem_cons, List.not_mem_nil, or_false] at hd
        rcases hd with rfl | rfl
        · exact .int (dig_of b1 (by decide))
        · exact .int (dig_of b2 (by decide))
      exact this
  · rename_i hc
    rw [if_neg hc] at h
    unfold idxD at h ⊢
    split
    · rename_i g
      exact (RP.int (dig_small (val_big g.2))).more (by decide) (by decide)
    · rename_i g
      rw [if_neg g] at h; cases h
theorem rp_all {W : List Str} : ∀ {fs : List Nat} {i : Nat} {ds : List D}, thL W fs i = .ok ds → ∀ d ∈ ds, RP 8609 1 d
  | [], i, ds, h, d, hd => by cases h; cases hd
  | c :: fs, i, ds, h, d, hd => by
    cases hb : isNonB (thG W i c) with
    | true => rw [thL_bad hb] at h; cases h
    | false =>
      rw [thL_ok hb] at h
      obtain ⟨ds', e, rfl⟩ := consX_ok h
      rcases List.mem_cons.mp hd with rfl | hd
      · cases hw : W[i + 1]? with
        | none => rw [thG_none hw] at hb; cases hb
        | some w =>
          rw [thG_some hw] at hb ⊢
          exact rp_th hb
      · exact rp_all e d hd
theorem thL_err {W : List Str} : ∀ {fs : List Nat} {i n : Nat}, thL W fs i = .error n → n ≤ i + fs.length + 1
  | [], i, n, h => by cases h
  | c :: fs, i, n, h => by
    cases hb : isNonB (thG W i c) with
    | true => rw [thL_bad hb] at h; cases h; simp only [List.length_cons]; omega
    | false =>
      rw [thL_ok hb] at h
      cases e : thL W fs (i + 1) with
      | error m =>
        rw [e] at h
        cases h
        have := thL_err e
        simp only [List.length_cons]; omega
      | ok ds => rw [e] at h; cases h
theorem rp_grp {F : Str} {ds : List D} (h : ∀ d ∈ ds, RP 8609 1 d) : (∀ d ∈ grpD F ds, RP 17225 2 d) ∧ (grpD F ds).length ≤ max ds.length 5 := by
  have up : ∀ d ∈ ds, RP 17225 2 d := fun d hd => (h d hd).more (by decide) (by decide)
  have two : ∀ a b : D, a ∈ ds → b ∈ ds → RP 17225 2 (.tup [a, b]) := fun a b ha hb => RP.tup (n := 8609) (k := 1) (ds := [a, b]) fun d hd => by
    simp only [List.mem_cons, List.not_mem_nil, or_false] at hd
    rcases hd with rfl | rfl
    · exact h _ ha
    · exact h _ hb
  unfold grpD
  split
  · split
    · rename_i a b c d e
      refine ⟨fun x hx => ?_, by simp⟩
      simp only [List.mem_cons, List.not_mem_nil, or_false] at hx
      rcases hx with rfl | rfl | rfl
      · exact two _ _ (by simp) (by simp)
      · exact two _ _ (by simp) (by simp)
      · exact up _ (by simp)
    · exact ⟨up, Nat.le_max_left _ _⟩
  · split
    · split
      · rename_i a b
        refine ⟨fun x hx => ?_, by simp⟩
        simp only [List.mem_cons, List.not_mem_nil, or_false] at hx
        subst hx
        exact two _ _ (by simp) (by simp)
      · exact ⟨up, Nat.le_max_left _ _⟩
    · exact ⟨up, Nat.le_max_left _ _⟩
theorem allF_short : ∀ p ∈ allF, p.1.length ≤ 10 ∧ (∀ c ∈ cs p.1, c < 128) := by decide +kernel
theorem six_len : ∀ F ∈ six, (repF F).length ≤ 5 := by decide +kernel
theorem rp_outX {W : List Str} {w : Str} : RP 200000 5 (outX (readX W w)) := by
  have err : ∀ n : Nat, n ≤ 100 → RP 200000 5 (outX (.error n)) := fun n hn => by
    refine (RP.tup (n := 4301) (k := 0) (ds := [.int 1, .int (n : Int)]) fun d hd => ?_).more (by simp) (by decide)
    simp only [List.mem_cons, List.not_mem_nil, or_false] at hd
    have b : ∀ m : Nat, m ≤ 100 → m < 2 ^ 4000 := fun m hm => Nat.lt_of_le_of_lt hm (Nat.lt_of_lt_of_le (m := 2 ^ 7) (by decide) (Nat.pow_le_pow_right (by decide) (by decide)))
    rcases hd with rfl | rfl
    · exact .int (dig_small (n := 1) (b 1 (by decide)))
    · exact .int (dig_small (b n hn))
  unfold readX
  split
  · exact err 0 (by decide)
  · split
    · exact err 1 (by decide)
    · rename_i F hF
      have h6 := form_six hF
      have l5 := six_len F h6
      cases eg : thgs W (repF F) with
      | error n =>
        refine err n ?_
        unfold thgs at eg
        cases et : thL W (cs (repF F)) 0 with
        | error m =>
          rw [et] at eg
          cases eg
          have := thL_err et
          rw [← len_cs] at this
          omega
        | ok ds =>
          rw [et] at eg
          have eg : (if W.length = (repF F).length + 1 then Except.ok ds else Except.error ((repF F).length + 2)) = Except.error n := eg
          split at eg
          · cases eg
          · cases eg; omega
      | ok ds =>
        obtain ⟨el, _⟩ := thgs_ok eg
        obtain ⟨_, ld⟩ := thL_fs el
        obtain ⟨g1, g2⟩ := rp_grp (F := F) (rp_all el)
        have ws := allF_short _ (lookS_mem hF)
        have wl : ds.length ≤ 5 := by rw [ld, ← len_cs]; exact l5
        have t := RP.tup (n := 17225) (k := 2) (ds := .str w :: grpD F ds) fun d hd => by
          rcases List.mem_cons.mp hd with rfl | hd
          · exact (RP.str ws.2 ws.1).more (by decide) (by decide)
          · exact g1 d hd
        have tl : (17225 + 2) * (D.str w :: grpD F ds).length + 3 ≤ 110000 := by
          simp only [List.length_cons]
          have : (grpD F ds).length ≤ 5 := by omega
          omega
        exact (RP.lst (n := 110000) (k := 3) (ds := [.tup (.str w :: grpD F ds)]) fun d hd => by
          rw [List.mem_singleton] at hd
          subst hd
          exact t.more tl (by decide)).more (by simp) (by decide)
end Law

namespace Law
open PySem L2 G
theorem empty_app (a : Str) : Str.empty ++ a = a := TL.ext_tl (by
  show cs (Str.empty ++ a) = cs a
  rw [cs_app]
  rfl)
theorem log_of {i : Int} (h : i.natAbs < 2 ^ 110) : i.natAbs.log2 < 1920 := Nat.lt_trans (log2_of (n := 110) h (by decide)) (by decide)
theorem len_app (a b : Str) : (a ++ b).length = a.length + b.length := by rw [len_cs, cs_app, List.length_append, ← len_cs, ← len_cs]
theorem sign_ix {S : Str} {v : Int} (hS : S.length ≤ 1000000) (h0 : 0 ≤ v) (h1 : v < S.length) : ∃ c, c ∈ cs S ∧ ixD (.str S) (.int v) = some (.str ⟨#[c]⟩) := by
  obtain ⟨k, rfl⟩ := Int.eq_ofNat_of_zero_le h0
  have hk : k < (cs S).length := by rw [← len_cs]; omega
  have e : ixD (.str S) (.int (k : Int)) = if S.length ≤ 1000000 then (atI S.cps.toList (k : Int)).map fun c => D.str ⟨#[c]⟩ else none := rfl
  have e2 : atI S.cps.toList (k : Int) = some (cs S)[k] := atI_nat (List.getElem?_eq_getElem hk)
  exact ⟨_, List.getElem_mem hk, by rw [e, if_pos hS, e2]; rfl⟩
theorem one_cs (c : Nat) : cs (⟨#[c]⟩ : Str) = [c] := rfl
theorem s_addS (a b : Str) (h : a.length + b.length ≤ 1000000) : addD (.str a) (.str b) = some (.str (a ++ b)) := if_pos h

theorem fold_app (a : Array Nat) : ∀ (n : Nat) (acc : Array Nat), ((List.replicate n a).foldl (· ++ ·) acc).toList = acc.toList ++ (List.replicate n a.toList).flatten
  | 0, acc => by simp
  | n + 1, acc => by
    rw [List.replicate_succ, List.foldl_cons, fold_app a n, Array.toList_append, List.replicate_succ, List.flatten_cons, List.append_assoc]
theorem cs_rep (z : Str) (n : Nat) : cs (repS z n) = (List.replicate n (cs z)).flatten := by
  show ((List.replicate n z.cps).foldl (· ++ ·) #[]).toList = _
  rw [fold_app]
  rfl
theorem rep_mem {z : Str} {n c : Nat} (h : c ∈ cs (repS z n)) : c ∈ cs z := by
  rw [cs_rep] at h
  obtain ⟨l, hl, hc⟩ := List.mem_flatten.mp h
  rw [(List.mem_replicate.mp hl).2] at hc
  exact hc
theorem flat_one (a : Nat) : ∀ n : Nat, (List.replicate n [a]).flatten = List.replicate n a
  | 0 => rfl
  | n + 1 => by rw [List.replicate_succ, List.flatten_cons, flat_one a n, List.replicate_succ]; rfl
theorem bad_of {w : Str} (h : 1000 < w.length) : ¬ good w = true := fun g => by have := (good_parts g).2.1; omega
theorem tx2 {a b : Str} (ha : ∀ c ∈ cs a, c < 128) (hb : ∀ c ∈ cs b, c < 128) (hl : a.length + b.length ≤ 100000) : Tx (a ++ b) := ⟨by rw [len_app]; exact hl, fun x hx => by
  rw [cs_app] at hx
  rcases List.mem_append.mp hx with hx | hx
  · exact ha x hx
  · exact hb x hx⟩
end Law

namespace Law
open PySem L2 G
def wt (W : List Str) : Nat := (W.map (·.length)).sum + W.length
theorem wt_app (A B : List Str) : wt (A ++ B) = wt A + wt B := by simp [wt]; omega
theorem wt_split (W : List Str) (a : Nat) : wt (W.take a) + wt (W.drop a) = wt W := by rw [← wt_app, List.take_append_drop]
theorem wt_one (w : Str) : wt [w] = w.length + 1 := by simp [wt]
theorem l_blank : (" " : Str).length = 1 := by decide +kernel
theorem wt_join : ∀ W : List Str, W ≠ [] → (Str.join " " W).length + 1 = wt W
  | [], h => absurd rfl h
  | [x], _ => by show x.length + 1 = _; rw [wt_one]
  | x :: y :: r, _ => by
    have ih := wt_join (y :: r) (by simp)
    show (x ++ " " ++ Str.join " " (y :: r)).length + 1 = _
    rw [len_app, len_app, l_blank, show x :: y :: r = [x] ++ (y :: r) from rfl, wt_app, wt_one]
    omega
theorem wt_sb (t : Str) : wt (sb t) = t.length + 1 := by
  have := wt_join (sb t) (sb_ne t)
  rw [show Str.join " " (sb t) = t from StrLaws.join_split t " "] at this
  omega
theorem strs_of : ∀ W : List Str, strsOf (W.map D.str) = some W
  | [] => rfl
  | w :: W => by rw [List.map_cons, s_strs1, strs_of W]; rfl
theorem s_join {W : List Str} (h : wt W ≤ 1000000) : joinD " " (.lst false (W.map D.str)) = some (.str (Txt.join " " W)) := by
  show ((strsOf (W.map D.str)).bind fun ys => if (ys.map (·.length)).sum + ys.length * (" " : Str).length ≤ 1000000 then some (D.str (Txt.join " " ys)) else none) = _
  rw [strs_of]
  show (if (W.map (·.length)).sum + W.length * (" " : Str).length ≤ 1000000 then some (D.str (Txt.join " " W)) else none) = _
  rw [l_blank, if_pos (by unfold wt at h; omega)]
theorem len_join (W : List Str) : (Txt.join " " W).length ≤ wt W := by
  rw [TL.join_eq]
  have := StrLaws.join_length_le " " W
  rw [l_blank] at this
  unfold wt
  omega
theorem tx_join {W : List Str} (h : ∀ w ∈ W, ∀ c ∈ cs w, c < 128) (hl : wt W ≤ 100000) : Tx (Txt.join " " W) := by
  have l := len_join W
  refine ⟨by omega, fun c hc => ?_⟩
  rw [TL.join_eq] at hc
  rcases (PyProof.Rows.mem_join " " c W).mp hc with ⟨t, ht, hc⟩ | ⟨_, hc⟩
  · exact h t ht c hc
  · have hc : c ∈ cs (" " : Str) := hc
    rw [blank_cs, List.mem_singleton] at hc
    omega
theorem ix_lst {ds : List D} {v : Int} (h0 : 0 ≤ v) (h1 : v < ds.length) : ∃ d, ixD (.lst false ds) (.int v) = some d ∧ d ∈ ds := by
  obtain ⟨k, rfl⟩ := Int.eq_ofNat_of_zero_le h0
  have hk : k < ds.length := by omega
  exact ⟨ds[k], atI_nat (List.getElem?_eq_getElem hk), List.getElem_mem _⟩
def some12 : List Str := ["0", "7", "999", "1000", "00", "", "1/2", "-1", "leg", "edge", "drop", "\n"]
theorem some_ok : ∀ w ∈ some12, w.length ≤ 4 ∧ ∀ c ∈ cs w, c < 128 := by decide +kernel
theorem S21 : ("0123456789 -/legdropx" : Str).length = 21 ∧ ∀ c ∈ cs ("0123456789 -/legdropx" : Str), c < 128 := by decide +kernel
theorem s_addLL {A B : List Str} (h : A.length + B.length ≤ 1000000) : addD (.lst false (A.map D.str)) (.lst false (B.map D.str)) = some (.lst false ((A ++ B).map D.str)) := by
  show (if (A.map D.str).length + (B.map D.str).length ≤ 1000000 then some (D.lst false (A.map D.str ++ B.map D.str)) else none) = _
  rw [if_pos (by simpa using h), List.map_append]
theorem wt_len (W : List Str) : W.length ≤ wt W := by unfold wt; omega
noncomputable def t_bentA : M Fl := (sSeq (bnd (aCons (eFz (eCall g_law_next (gSl 0 (gV (eOp addD (eFn (f1 lenD) (aCons (eName 1) aNil)) (rt (.int 1))) gNil)))) (aCons (eOp ixD (rt (.str "0123456789 -/legdropx")) (eFz (eCall g_law_next (gSl 0 (gV (rt (.int 21)) gNil))))) aNil)) (putP 4 5)) (sSeq (sSet 3 (eIf (tB (eOp eqD (eFz (eCall g_law_next (gSl 0 (gV (rt (.int 2)) gNil)))) (rt (.int 0)))) (eSl (eName 1) (eI (eName 4)) (rt none)) (eSl (eName 1) (eI (eOp addD (eName 4) (rt (.int 1)))) (rt none)))) (sRet (eOp addD (eOp addD (eSl (eName 1) (rt none) (eI (eName 4))) (eIf (tB (eOp eqD (eName 2) (rt (.int 0)))) (eName 5) (rt (.str "")))) (eName 3)))))
theorem v_bentA {c l : List Int} {k w : Int} {t : Str} (h : Tx t) (hl : t.length ≤ 30000) (h0 : 0 ≤ k) (h1 : k < 2 ^ 39) : ∃ l' k' t' o3 o4 o5, t_bentA [some (.drw c l k), some (.str t), some (.int w), none, none, none, none, none, none, none] = some (.ok (.rt (.str t')), [some (.drw c l' k'), some (.str t), some (.int w), o3, o4, o5, none, none, none, none]) ∧ Tx t' ∧ t'.length ≤ t.length + 1 ∧ k ≤ k' ∧ k' ≤ k + 3 := by
  have h9 : (((t.length + 1 : Nat) : Int)).natAbs.log2 < 9000 := log2_of (n := 9000) (by rw [Int.natAbs_natCast]; exact Nat.lt_of_le_of_lt (m := 30001) (by omega) (Nat.lt_of_lt_of_le (m := 2 ^ 15) (by decide) (Nat.pow_le_pow_right (by decide) (by decide)))) (by decide)
  obtain ⟨l1, k1, pl, e1, u0, u1, a1, a2⟩ := v_next (c := c) (l := l) (k := k) (n := ((t.length + 1 : Nat) : Int)) (by omega) h9 h0 (by omega)
  obtain ⟨l2, k2, sv, e2, v0, v1, b1, b2⟩ := v_next (c := c) (l := l1) (k := k1) (n := 21) (by decide) (by decide +kernel) (by omega) (by omega)
  obtain ⟨l3, k3, z, e3, w0, w1, c1, c2⟩ := v_next (c := c) (l := l2) (k := k2) (n := 2) (by decide) (by decide +kernel) (by omega) (by omega)
  obtain ⟨p, rfl⟩ := Int.eq_ofNat_of_zero_le u0
  obtain ⟨s21, sc⟩ := S21
  obtain ⟨d, hd, ix⟩ := sign_ix (S := "0123456789 -/legdropx") (by rw [s21]; decide) v0 (by rw [s21]; exact v1)
  have hlm : t.length ≤ 1000000 := by omega
  have hlen := v_len hlm
  have sa := slc_s hlm none (some (p : Int))
  have sb := slc_s hlm (some (p : Int)) none
  have sb2 := slc_s hlm (some ((p : Int) + 1)) none
  have la : (cs (cutS t none (some (p : Int)))).length ≤ p := by rw [cs_to, List.length_take]; omega
  have lb : (cs (cutS t (some (p : Int)) none)).length = t.length - p := by rw [cs_from, List.length_drop, ← len_cs]
  have lb2 : (cs (cutS t (some ((p : Int) + 1)) none)).length ≤ t.length - p := by
    have := cs_from t (p + 1)
    rw [show (((p + 1 : Nat)) : Int) = (p : Int) + 1 by omega] at this
    rw [this, List.length_drop, ← len_cs]
    omega
  have ca : ∀ c ∈ cs (cutS t none (some (p : Int))), c < 128 := fun c hc => h.c c (by rw [cs_to] at hc; exact List.mem_of_mem_take hc)
  have cb : ∀ c ∈ cs (cutS t (some (p : Int)) none), c < 128 := (h.from p).c
  have cb2 : ∀ c ∈ cs (cutS t (some ((p : Int) + 1)) none), c < 128 := by
    have := (h.from (p + 1)).c
    rw [show (((p + 1 : Nat)) : Int) = (p : Int) + 1 by omega] at this
    exact this
  rw [← len_cs] at la lb lb2
  have hpl : p ≤ t.length := by omega
  generalize cutS t none (some (p : Int)) = A at *
  generalize cutS t (some (p : Int)) none = B at *
  generalize cutS t (some ((p : Int) + 1)) none = C at *
  have ld : (⟨#[d]⟩ : Str).length = 1 := rfl
  have cd : ∀ c ∈ cs (⟨#[d]⟩ : Str), c < 128 := fun c hc => by
    rw [one_cs, List.mem_singleton] at hc
    subst hc
    exact sc _ hd
  have tx : ∀ a b c : Str, (∀ x ∈ cs a, x < 128) → (∀ x ∈ cs b, x < 128) → (∀ x ∈ cs c, x < 128) → a.length + b.length + c.length ≤ 100000 → Tx (a ++ b ++ c) := fun a b c ha hb hc hl => ⟨by rw [len_app, len_app]; exact hl, fun x hx => by
    rw [cs_app, cs_app] at hx
    rcases List.mem_append.mp hx with hx | hx
    · rcases List.mem_append.mp hx with hx | hx
      · exact ha x hx
      · exact hb x hx
    · exact hc x hx⟩
  have e1' := e1
  rw [show ((t.length + 1 : Nat) : Int) = (t.length : Int) + 1 by omega] at e1'
  generalize (⟨#[d]⟩ : Str) = X at *
  have le : ("" : Str).length = 0 := rfl
  have ce : ∀ c ∈ cs ("" : Str), c < 128 := fun c hc => by cases hc
  have p1 := s_addS A X (by omega)
  have p2 := s_addS (A ++ X) B (by rw [len_app]; omega)
  have p3 := s_addS (A ++ X) C (by rw [len_app]; omega)
  have p4 := s_addS A "" (by omega)
  have p5 := s_addS (A ++ "") C (by rw [len_app]; omega)
  have p6 := s_addS (A ++ "") B (by rw [len_app]; omega)
  by_cases zw : w = 0
  · by_cases zz : z = 0
    · refine ⟨l3, k3, A ++ X ++ B, some (.str B), some (.int p), some (.str X), ?_, tx _ _ _ ca cd cb (by omega), by rw [len_app, len_app]; omega, by omega, by omega⟩
      simp [t_bentA, hlen, e1', e2, e3, ix, sa, sb, p1, p2, zw, zz]
    · refine ⟨l3, k3, A ++ X ++ C, some (.str C), some (.int p), some (.str X), ?_, tx _ _ _ ca cd cb2 (by omega), by rw [len_app, len_app]; omega, by omega, by omega⟩
      simp [t_bentA, hlen, e1', e2, e3, ix, sa, sb2, p1, p3, zw, eq_false zz]
  · by_cases zz : z = 0
    · refine ⟨l3, k3, A ++ "" ++ B, some (.str B), some (.int p), some (.str X), ?_, tx _ _ _ ca ce cb (by omega), by rw [len_app, len_app]; omega, by omega, by omega⟩
      simp [t_bentA, hlen, e1', e2, e3, ix, sa, sb, p4, p6, eq_false zw, zz]
    · refine ⟨l3, k3, A ++ "" ++ C, some (.str C), some (.int p), some (.str X), ?_, tx _ _ _ ca ce cb2 (by omega), by rw [len_app, len_app]; omega, by omega, by omega⟩
      simp [t_bentA, hlen, e1', e2, e3, ix, sa, sb2, p4, p5, eq_false zw, eq_false zz]
end Law

namespace Law
open PySem L2 G
noncomputable def t_bentB : M Fl := (sSeq (sSet 6 (eUn (splitD " ") (eName 1))) (sSeq (sSet 7 (eFz (eCall g_law_next (gSl 0 (gV (eFn (f1 lenD) (aCons (eName 6) aNil)) gNil))))) (sSeq (sSet 8 (eFn gLst (aCons (rt (.str "0")) (aCons (rt (.str "7")) (aCons (rt (.str "999")) (aCons (rt (.str "1000")) (aCons (rt (.str "00")) (aCons (rt (.str "")) (aCons (rt (.str "1/2")) (aCons (rt (.str "-1")) (aCons (rt (.str "leg")) (aCons (rt (.str "edge")) (aCons (rt (.str "drop")) (aCons (rt (.str "\n")) aNil)))))))))))))) (sSeq (sSet 9 (eOp ixD (eName 8) (eFz (eCall g_law_next (gSl 0 (gV (rt (.int 12)) gNil)))))) (sSeq (sIf (tB (eOp eqD (eName 2) (rt (.int 2)))) (sRet (eUn (joinD " ") (eOp addD (eSl (eName 6) (rt none) (eI (eName 7))) (eSl (eName 6) (eI (eOp addD (eName 7) (rt (.int 1)))) (rt none))))) sNx) (sSeq (sIf (tB (eOp eqD (eName 2) (rt (.int 3)))) (sRet (eUn (joinD " ") (eOp addD (eOp addD (eSl (eName 6) (rt none) (eI (eName 7))) (eFn gLst (aCons (eName 9) aNil))) (eSl (eName 6) (eI (eName 7)) (rt none))))) sNx) (sRet (eIf (tB (eOp eqD (eName 2) (rt (.int 4)))) (eUn (joinD " ") (eOp addD (eSl (eName 6) (rt none) (eI (eOp addD (eName 7) (rt (.int 1))))) (eSl (eName 6) (eI (eName 7)) (rt none)))) (eUn (joinD " ") (eOp addD (eOp addD (eSl (eName 6) (rt none) (eI (eName 7))) (eFn gLst (aCons (eName 9) aNil))) (eSl (eName 6) (eI (eOp addD (eName 7) (rt (.int 1)))) (rt none))))))))))))
theorem bent_eq : m_law_bent = sSeq (sSet 2 (eFz (eCall g_law_next (gSl 0 (gV (rt (.int 6)) gNil))))) (sSeq (sIf (tB (eOp ltD (eName 2) (rt (.int 2)))) t_bentA sNx) t_bentB) := rfl
theorem wt_take (W : List Str) (a : Nat) : wt (W.take a) ≤ wt W := by have := wt_split W a; omega
theorem wt_drop (W : List Str) (a : Nat) : wt (W.drop a) ≤ wt W := by have := wt_split W a; omega
theorem v_bentB {c l : List Int} {k w : Int} {t : Str} (h : Tx t) (hl : t.length ≤ 30000) (h0 : 0 ≤ k) (h1 : k < 2 ^ 39) : ∃ l' k' t' o6 o7 o8 o9, t_bentB [some (.drw c l k), some (.str t), some (.int w), none, none, none, none, none, none, none] = some (.ok (.rt (.str t')), [some (.drw c l' k'), some (.str t), some (.int w), none, none, none, o6, o7, o8, o9]) ∧ Tx t' ∧ t'.length ≤ 2 * t.length + 8 ∧ k ≤ k' ∧ k' ≤ k + 3 := by
  have s1 := s_sb h
  have w1 := wt_sb t
  have wl := wt_len (sb t)
  have wc : ∀ w ∈ sb t, ∀ c ∈ cs w, c < 128 := fun w hw => (h.words w hw).c
  have n0 : 0 < (sb t).length := List.length_pos_iff.mpr (sb_ne t)
  have fl := fs_strs (sb t)
  have lL : ((sb t).map D.str).length = (sb t).length := List.length_map ..
  generalize sb t = W at *
  have h9 : ((W.length : Nat) : Int).natAbs.log2 < 9000 := log2_of (n := 9000) (by rw [Int.natAbs_natCast]; exact Nat.lt_of_le_of_lt (m := 30001) (by omega) (Nat.lt_of_lt_of_le (m := 2 ^ 15) (by decide) (Nat.pow_le_pow_right (by decide) (by decide)))) (by decide)
  obtain ⟨l1, k1, pl, e1, u0, u1, a1, a2⟩ := v_next (c := c) (l := l) (k := k) (n := ((W.length : Nat) : Int)) (by omega) h9 h0 (by omega)
  obtain ⟨l2, k2, sv, e2, v0, v1, b1, b2⟩ := v_next (c := c) (l := l1) (k := k1) (n := 12) (by decide) (by decide +kernel) (by omega) (by omega)
  obtain ⟨p, rfl⟩ := Int.eq_ofNat_of_zero_le u0
  obtain ⟨d, ix, hd⟩ := ix_lst (ds := some12.map D.str) v0 (by simpa [some12] using v1)
  obtain ⟨z, hz, rfl⟩ := List.mem_map.mp hd
  obtain ⟨zl, zc⟩ := some_ok z hz
  have es : some12.map D.str = [.str "0", .str "7", .str "999", .str "1000", .str "00", .str "", .str "1/2", .str "-1", .str "leg", .str "edge", .str "drop", .str "\n"] := rfl
  rw [es] at ix
  have c1 : cutD (W.map D.str) none (some (p : Int)) = (W.take p).map D.str := by rw [cut_to, List.map_take]
  have c2 : cutD (W.map D.str) (some (p : Int)) none = (W.drop p).map D.str := by rw [cut_from, List.map_drop]
  have c3 : cutD (W.map D.str) none (some ((p : Int) + 1)) = (W.take (p + 1)).map D.str := by
    rw [show (p : Int) + 1 = ((p + 1 : Nat) : Int) by omega, cut_to, List.map_take]
  have c4 : cutD (W.map D.str) (some ((p : Int) + 1)) none = (W.drop (p + 1)).map D.str := by
    rw [show (p : Int) + 1 = ((p + 1 : Nat) : Int) by omega, cut_from, List.map_drop]
  have t1 := wt_take W p
  have t2 := wt_take W (p + 1)
  have d1 := wt_drop W p
  have d2 := wt_drop W (p + 1)
  have sp := wt_split W p
  have m1 : ∀ w ∈ W.take p, ∀ c ∈ cs w, c < 128 := fun w hw => wc w (List.mem_of_mem_take hw)
  have m2 : ∀ w ∈ W.take (p + 1), ∀ c ∈ cs w, c < 128 := fun w hw => wc w (List.mem_of_mem_take hw)
  have m3 : ∀ w ∈ W.drop p, ∀ c ∈ cs w, c < 128 := fun w hw => wc w (List.mem_of_mem_drop hw)
  have m4 : ∀ w ∈ W.drop (p + 1), ∀ c ∈ cs w, c < 128 := fun w hw => wc w (List.mem_of_mem_drop hw)
  have m5 : ∀ w ∈ [z], ∀ c ∈ cs w, c < 128 := fun w hw => by rw [List.mem_singleton] at hw; subst hw; exact zc
  have ap : ∀ {A B : List Str}, (∀ w ∈ A, ∀ c ∈ cs w, c < 128) → (∀ w ∈ B, ∀ c ∈ cs w, c < 128) → ∀ w ∈ A ++ B, ∀ c ∈ cs w, c < 128 := fun ha hb w hw => (List.mem_append.mp hw).elim (ha w) (hb w)
  have q1 := wt_len (W.take p)
  have q2 := wt_len (W.take (p + 1))
  have q3 := wt_len (W.drop p)
  have q4 := wt_len (W.drop (p + 1))
  have z1 := wt_one z
  have A1 := s_addLL (A := W.take p) (B := W.drop (p + 1)) (by omega)
  have A2 := s_addLL (A := W.take p) (B := [z]) (by simp only [List.length_cons, List.length_nil]; omega)
  have A3 := s_addLL (A := W.take p ++ [z]) (B := W.drop p) (by simp only [List.length_append, List.length_cons, List.length_nil]; omega)
  have A4 := s_addLL (A := W.take (p + 1)) (B := W.drop p) (by omega)
  have A5 := s_addLL (A := W.take p ++ [z]) (B := W.drop (p + 1)) (by simp only [List.length_append, List.length_cons, List.length_nil]; omega)
  have Z1 : [z].map D.str = [D.str z] := rfl
  rw [Z1] at A2
  by_cases x2 : w = 2
  · have J := s_join (W := W.take p ++ W.drop (p + 1)) (by rw [wt_app]; omega)
    have T := tx_join (ap m1 m4) (W := W.take p ++ W.drop (p + 1)) (by rw [wt_app]; omega)
    have Q := len_join (W.take p ++ W.drop (p + 1))
    rw [wt_app] at Q
    refine ⟨l2, k2, Txt.join " " (W.take p ++ W.drop (p + 1)), some (.lst false (W.map D.str)), some (.int p), some (.lst false (some12.map D.str)), some (.str z), ?_, T, by omega, by omega, by omega⟩
    rw [es]
    generalize (W.take p ++ W.drop (p + 1)).map D.str = L5 at *
    generalize (W.take p).map D.str = L1 at *
    generalize (W.drop (p + 1)).map D.str = L2 at *
    generalize W.map D.str = L at *
    simp [t_bentB, s1, fl, lL, e1, e2, ix, x2, c1, c4, A1, J]
  · by_cases x3 : w = 3
    · have J := s_join (W := W.take p ++ [z] ++ W.drop p) (by rw [wt_app, wt_app]; omega)
      have T := tx_join (ap (ap m1 m5) m3) (W := W.take p ++ [z] ++ W.drop p) (by rw [wt_app, wt_app]; omega)
      have Q := len_join (W.take p ++ [z] ++ W.drop p)
      rw [wt_app, wt_app] at Q
      refine ⟨l2, k2, Txt.join " " (W.take p ++ [z] ++ W.drop p), some (.lst false (W.map D.str)), some (.int p), some (.lst false (some12.map D.str)), some (.str z), ?_, T, by omega, by omega, by omega⟩
      rw [es]
      generalize (W.take p ++ [z] ++ W.drop p).map D.str = L5 at *
      generalize (W.take p ++ [z]).map D.str = L6 at *
      generalize (W.take p).map D.str = L1 at *
      generalize (W.drop p).map D.str = L2 at *
      generalize W.map D.str = L at *
      simp [t_bentB, s1, fl, lL, e1, e2, ix, x2, x3, c1, c2, A2, A3, J]
    · by_cases x4 : w = 4
      · have J := s_join (W := W.take (p + 1) ++ W.drop p) (by rw [wt_app]; omega)
        have T := tx_join (ap m2 m3) (W := W.take (p + 1) ++ W.drop p) (by rw [wt_app]; omega)
        have Q := len_join (W.take (p + 1) ++ W.drop p)
        rw [wt_app] at Q
        refine ⟨l2, k2, Txt.join " " (W.take (p + 1) ++ W.drop p), some (.lst false (W.map D.str)), some (.int p), some (.lst false (some12.map D.str)), some (.str z), ?_, T, by omega, by omega, by omega⟩
        rw [es]
        generalize (W.take (p + 1) ++ W.drop p).map D.str = L5 at *
        generalize (W.take (p + 1)).map D.str = L1 at *
        generalize (W.drop p).map D.str = L2 at *
        generalize W.map D.str = L at *
        simp [t_bentB, s1, fl, lL, e1, e2, ix, x2, x3, x4, c2, c3, A4, J]
      · have J := s_join (W := W.take p ++ [z] ++ W.drop (p + 1)) (by rw [wt_app, wt_app]; omega)
        have T := tx_join (ap (ap m1 m5) m4) (W := W.take p ++ [z] ++ W.drop (p + 1)) (by rw [wt_app, wt_app]; omega)
        have Q := len_join (W.take p ++ [z] ++ W.drop (p + 1))
        rw [wt_app, wt_app] at Q
        refine ⟨l2, k2, Txt.join " " (W.take p ++ [z] ++ W.drop (p + 1)), some (.lst false (W.map D.str)), some (.int p), some (.lst false (some12.map D.str)), some (.str z), ?_, T, by omega, by omega, by omega⟩
        rw [es]
        generalize (W.take p ++ [z] ++ W.drop (p + 1)).map D.str = L5 at *
        generalize (W.take p ++ [z]).map D.str = L6 at *
        generalize (W.take p).map D.str = L1 at *
        generalize (W.drop (p + 1)).map D.str = L2 at *
        generalize W.map D.str = L at *
        simp [t_bentB, s1, fl, lL, e1, e2, ix, x2, x3, x4, c1, c4, A2, A5, J]
def finM (o : Rs Fl) : Option (Except Xn D × En) := match o with
  | some (.error x, ρ) => some (.error x, keep [true, false] ρ)
  | some (.ok (.rt d), ρ) => some (.ok d, keep [true, false] ρ)
  | some (.ok .nx, ρ) => some (.ok .non, keep [true, false] ρ)
  | _ => none
theorem v_bent {c l : List Int} {k : Int} {t : Str} (h : Tx t) (hl : t.length ≤ 30000) (h0 : 0 ≤ k) (h1 : k < 2 ^ 38) : ∃ l' k' t', g_law_bent [.drw c l k, .str t] = some (.ok (.str t'), [some (.drw c l' k'), none]) ∧ Tx t' ∧ t'.length ≤ 2 * t.length + 8 ∧ k ≤ k' ∧ k' ≤ k + 4 := by
  obtain ⟨l1, k1, w, e1, u0, u1, a1, a2⟩ := v_next (c := c) (l := l) (k := k) (n := 6) (by decide) (by decide +kernel) h0 (by omega)
  have e0 : g_law_bent [.drw c l k, .str t] = finM (m_law_bent [some (.drw c l k), some (.str t), none, none, none, none, none, none, none, none]) := rfl
  rw [e0, bent_eq]
  by_cases z : w < 2
  · obtain ⟨l2, k2, t', o3, o4, o5, q, tx, ql, b1, b2⟩ := v_bentA (c := c) (l := l1) (k := k1) (w := w) h hl (by omega) (by omega)
    refine ⟨l2, k2, t', ?_, tx, by omega, by omega, by omega⟩
    simp [e1, z, q, finM]
  · obtain ⟨l2, k2, t', o6, o7, o8, o9, q, tx, ql, b1, b2⟩ := v_bentB (c := c) (l := l1) (k := k1) (w := w) h hl (by omega) (by omega)
    refine ⟨l2, k2, t', ?_, tx, by omega, by omega, by omega⟩
    simp [e1, z, q, finM]
end Law

namespace Law
open PySem L2 G
/-- a part of a step, drawn -/
def PartOk (c : Nat) (d : D) : Prop := (c = 119 ∧ ∃ x, d = dT x ∧ Nm 100 x) ∨ (c = 110 ∧ ∃ v : Int, d = .int v ∧ 0 ≤ v ∧ v < 1000) ∨ (c = 99 ∧ ∃ a b : Int, d = .tup [.int a, .int b] ∧ (0 ≤ a ∧ a < 1000) ∧ 0 ≤ b ∧ b < 1000)
theorem PartOk.f {c : Nat} {d : D} (h : PartOk c d) : isF d = true ∧ fz d = d := by
  rcases h with ⟨_, x, rfl, _⟩ | ⟨_, v, rfl, _⟩ | ⟨_, a, b, rfl, _⟩ <;> exact ⟨rfl, rfl⟩
theorem v_partN {c l : List Int} {k : Int} {j : Nat} (h0 : 0 ≤ k) (h1 : k < 2 ^ 39) : ∃ l' k' v, gf_law_part (j + 1) [.drw c l k, .str "n"] = some (.ok (.int v), [some (.drw c l' k'), none]) ∧ 0 ≤ v ∧ v < 1000 ∧ k ≤ k' ∧ k' ≤ k + 3 := by
  obtain ⟨l1, k1, v1, e1, u0, u1, a1, a2⟩ := v_next (c := c) (l := l) (k := k) (n := 10) (by decide) (by decide +kernel) h0 (by omega)
  obtain ⟨l2, k2, v2, e2, w0, w1, b1, b2⟩ := v_next (c := c) (l := l1) (k := k1) (n := 1000) (by decide) (by decide +kernel) (by omega) (by omega)
  obtain ⟨l3, k3, v3, e3, x0, x1, c1, c2⟩ := v_next (c := c) (l := l2) (k := k2) (n := 4) (by decide) (by decide +kernel) (by omega) (by omega)
  obtain ⟨d, ix, hd⟩ := ix_lst (ds := [.int v1, .int v2, .int 0, .int 999]) x0 (by simpa using x1)
  have n1 : ¬ ("n" : Str) = "w" := by decide +kernel
  have n2 : ¬ ("n" : Str) = "c" := by decide +kernel
  obtain ⟨v, rfl, hv⟩ : ∃ v : Int, d = .int v ∧ 0 ≤ v ∧ v < 1000 := by
    simp only [List.mem_cons, List.not_mem_nil, or_false] at hd
    rcases hd with rfl | rfl | rfl | rfl
    · exact ⟨_, rfl, by omega, by omega⟩
    · exact ⟨_, rfl, by omega, by omega⟩
    · exact ⟨_, rfl, by omega, by omega⟩
    · exact ⟨_, rfl, by omega, by omega⟩
  refine ⟨l3, k3, v, ?_, hv.1, hv.2, by omega, by omega⟩
  simp only [gf_law_part, m_law_part]
  simp [e1, e2, e3, ix, n1, n2]
theorem v_part {c l : List Int} {k : Int} {f : Nat} (hf : f = 119 ∨ f = 110 ∨ f = 99) (h0 : 0 ≤ k) (h1 : k < 2 ^ 38) : ∃ l' k' d, g_law_part [.drw c l k, sgc f] = some (.ok d, [some (.drw c l' k'), none]) ∧ PartOk f d ∧ k ≤ k' ∧ k' ≤ k + 6 := by
  obtain ⟨s1, s2, s3⟩ := sg_c
  rcases hf with rfl | rfl | rfl
  · obtain ⟨l1, k1, x, e1, hx, a1, a2⟩ := v_weight (c := c) (l := l) (k := k) h0 (by omega)
    refine ⟨l1, k1, dT x, ?_, .inl ⟨rfl, x, rfl, hx⟩, by omega, by omega⟩
    rw [s2]
    have f1 : isF (dT x) = true := rfl
    have f2 : fz (dT x) = dT x := rfl
    generalize dT x = X at *
    simp only [g_law_part, gf_law_part, m_law_part]
    simp [e1, f1, f2]
  · obtain ⟨l1, k1, v, e1, v0, v1, a1, a2⟩ := v_partN (c := c) (l := l) (k := k) (j := 1) h0 (by omega)
    refine ⟨l1, k1, .int v, ?_, .inr (.inl ⟨rfl, v, rfl, v0, v1⟩), by omega, by omega⟩
    rw [s3]
    exact e1
  · obtain ⟨l1, k1, v, e1, v0, v1, a1, a2⟩ := v_partN (c := c) (l := l) (k := k) (j := 0) h0 (by omega)
    obtain ⟨l2, k2, u, e2, u0, u1, b1, b2⟩ := v_partN (c := c) (l := l1) (k := k1) (j := 0) (by omega) (by omega)
    refine ⟨l2, k2, .tup [.int v, .int u], ?_, .inr (.inr ⟨rfl, v, u, rfl, ⟨v0, v1⟩, u0, u1⟩), by omega, by omega⟩
    rw [s1]
    have n1 : ¬ ("c" : Str) = "w" := by decide +kernel
    have e3 : g_law_part [.drw c l k, .str "c"] = fnM [true, false] 0 (m_law_part (gf_law_part 1)) [.drw c l k, .str "c"] := rfl
    rw [e3]
    have e1 : gf_law_part 1 [.drw c l k, .str "n"] = _ := e1
    have e2 : gf_law_part 1 [.drw c l1 k1, .str "n"] = _ := e2
    generalize gf_law_part 1 = GR at *
    simp only [m_law_part]
    simp [e1, e2, n1]
inductive Parts2 : List Nat → List D → Prop
  | nil : Parts2 [] []
  | cons {f : Nat} {fs : List Nat} {d : D} {ds : List D} (h : PartOk f d) (hs : Parts2 fs ds) : Parts2 (f :: fs) (d :: ds)
theorem Parts2.fs {fs : List Nat} {ds : List D} (h : Parts2 fs ds) : isFs ds = true ∧ fzs ds = ds ∧ ds.length = fs.length := by
  induction h with
  | nil => exact ⟨rfl, rfl, rfl⟩
  | cons h hs ih =>
    obtain ⟨a, b⟩ := h.f
    exact ⟨by rw [s_isFs1, a, ih.1]; rfl, by rw [s_fzs1, b, ih.2.1], by simp [ih.2.2]⟩
theorem c_parts {c : List Int} {o1 o2 : Option D} : ∀ (fs : List Nat) (l : List Int) (k : Int), (∀ f ∈ fs, f = 119 ∨ f = 110 ∨ f = 99) → 0 ≤ k → k + 6 * fs.length < 2 ^ 38 →
    ∃ l' k' ds, compL [3] (put 3) (rt true) b_law_step_drawn_1 (fs.map sgc) [some (.drw c l k), o1, o2, none] = some (ds, [some (.drw c l' k'), o1, o2, none]) ∧ Parts2 fs ds ∧ k ≤ k' ∧ k' ≤ k + 6 * fs.length
  | [], l, k, _, _, _ => ⟨l, k, [], rfl, .nil, by omega, by simp⟩
  | f :: fs, l, k, hf, h0, h1 => by
    simp only [List.length_cons] at h1
    obtain ⟨l1, k1, d, e1, p, a1, a2⟩ := v_part (c := c) (l := l) (k := k) (hf f (List.mem_cons_self ..)) h0 (by omega)
    obtain ⟨l2, k2, ds, e2, ps, b1, b2⟩ := c_parts (c := c) (o1 := o1) (o2 := o2) fs l1 k1 (fun f hf' => hf f (List.mem_cons_of_mem _ hf')) (by omega) (by omega)
    obtain ⟨f1, f2⟩ := p.f
    refine ⟨l2, k2, d :: ds, ?_, .cons p ps, by omega, by simp only [List.length_cons]; omega⟩
    have q : b_law_step_drawn_1 [some (.drw c l k), o1, o2, some (sgc f)] = some (.ok d, [some (.drw c l1 k1), o1, o2, some (sgc f)]) := by
      simp [b_law_step_drawn_1, e1, f1, f2]
    have w : wipeE [3] 0 [some (.drw c l1 k1), o1, o2, some (sgc f)] = [some (.drw c l1 k1), o1, o2, none] := by simp [wipeE]
    show (match put 3 (sgc f) [some (.drw c l k), o1, o2, none] with
    | some (.ok .nx, ρ1) => match (rt true : M Bool) ρ1 with
      | some (.ok true, ρ2) => match b_law_step_drawn_1 ρ2 with
        | some (.ok y, ρ3) => match compL [3] (put 3) (rt true) b_law_step_drawn_1 (fs.map sgc) (wipeE [3] 0 ρ3) with
          | some (ys, ρ4) => some (y :: ys, ρ4)
          | none => none
        | _ => none
      | some (.ok false, ρ2) => compL [3] (put 3) (rt true) b_law_step_drawn_1 (fs.map sgc) (wipeE [3] 0 ρ2)
      | _ => none
    | _ => none) = _
    have e3 : put 3 (sgc f) [some (.drw c l k), o1, o2, none] = some (.ok .nx, [some (.drw c l k), o1, o2, some (sgc f)]) := rfl
    rw [e3]
    simp only [rt, q, w, e2]
theorem names11 : allF.map Prod.fst = (["scale", "sum", "drop", "contract", "split", "square", "weight", "edge", "without", "leg", "unleg"] : List Str) := by decide +kernel
theorem six_cs : ∀ F ∈ six, (∀ c ∈ cs F, c = 119 ∨ c = 110 ∨ c = 99) ∧ (cs F).length ≤ 3 := by decide +kernel
theorem allF_look : ∀ p ∈ allF, formS p.1 = some p.2 := by decide +kernel
theorem v_drawn {c l : List Int} {k : Int} (h0 : 0 ≤ k) (h1 : k < 2 ^ 36) : ∃ l' k' w F ds, g_law_step_drawn [.drw c l k] = some (.ok (.tup (.str w :: ds)), [some (.drw c l' k')]) ∧ formS w = some F ∧ Parts2 (cs F) ds ∧ k ≤ k' ∧ k' ≤ k + 19 := by
  obtain ⟨l1, k1, v, e1, v0, v1, a1, a2⟩ := v_next (c := c) (l := l) (k := k) (n := 11) (by decide) (by decide +kernel) h0 (by omega)
  have nm : allF.map (fun p => D.str p.1) = [.str "scale", .str "sum", .str "drop", .str "contract", .str "split", .str "square", .str "weight", .str "edge", .str "without", .str "leg", .str "unleg"] := by
    have : allF.map (fun p => D.str p.1) = (allF.map Prod.fst).map D.str := by rw [List.map_map]; rfl
    rw [this, names11]; rfl
  obtain ⟨d, ix, hd⟩ := ix_lst (ds := allF.map (fun p => D.str p.1)) v0 (by rw [nm]; simpa using v1)
  rw [nm] at ix
  obtain ⟨⟨w, F⟩, hm, rfl⟩ := List.mem_map.mp hd
  have hl : formS w = some F := allF_look _ hm
  have h6 := form_six hl
  obtain ⟨hc, hl3⟩ := six_cs F h6
  obtain ⟨l2, k2, ds, e2, ps, b1, b2⟩ := c_parts (c := c) (o1 := some (.lst false (allF.map (fun p => D.str p.1)))) (o2 := some (.str w)) (cs F) l1 k1 hc (by omega) (by omega)
  rw [nm] at e2
  obtain ⟨f1, f2, f3⟩ := ps.fs
  have dx := dx_form hl
  have vf := v_forms
  have ff : isF formsD = true := rfl
  have ch : charsD (.str F) = some ((cs F).map sgc) := rfl
  have lc : ((cs F).map sgc).length ≤ 1000000 := by rw [List.length_map]; omega
  have ad : addD (.tup [.str w]) (.tup ds) = some (.tup (.str w :: ds)) := by
    show (if [D.str w].length + ds.length ≤ 1000000 then some (D.tup ([D.str w] ++ ds)) else none) = _
    have d3 : ds.length ≤ 3 := by omega
    rw [if_pos (by show 1 + ds.length ≤ 1000000; omega)]
    rfl
  refine ⟨l2, k2, w, F, ds, ?_, hl, ps, by omega, by omega⟩
  generalize (cs F).map sgc = CC at *
  generalize formsD = FD at *
  simp only [g_law_step_drawn, m_law_step_drawn]
  simp [e1, ix, vf, ff, dx, ch, lc, wipeE, backE, keepF, e2, tupleD, ad]
def WT (w : Str) : Prop := w.length ≤ 102 ∧ ∀ c ∈ cs w, c < 128
theorem v_word {x : Int × Int} (h : Nm 110 x) : g_law_word [dT x] = some (.ok (.str (due x)), [none]) := by
  have f1 := s_strD x.1 (log_of h.s1)
  have f2 := s_strD x.2 (log_of h.s2)
  have l1 := len_int h.s1
  have l2 := len_int h.s2
  unfold due
  by_cases z : x.2 = 1
  · rw [if_pos z]
    simp only [g_law_word, m_law_word]
    simp [eq_true z, f1]
  · rw [if_neg z]
    generalize Str.ofString (toString x.1) = a at *
    generalize Str.ofString (toString x.2) = b at *
    have ls : ("/" : Str).length = 1 := by decide +kernel
    have p1 := s_addS a "/" (by omega)
    have p2 := s_addS (a ++ "/") b (by rw [len_app]; omega)
    simp only [g_law_word, m_law_word]
    simp [eq_false z, f1, f2, p1, p2]
theorem wt_int {v : Int} (h0 : 0 ≤ v) (h1 : v < 1000) : WT (Str.ofString (toString v)) := by
  obtain ⟨n, rfl⟩ := Int.eq_ofNat_of_zero_le h0
  have hn : n < 2 ^ 110 := Nat.lt_trans (m := 1000) (by omega) (by decide)
  exact ⟨Nat.le_trans (len_tn hn) (by decide), (tn_tx hn).c⟩
theorem wt_due {x : Int × Int} (h : Nm 110 x) : WT (due x) := ⟨(due_rd h).2.2, (due_rd h).1.c⟩
theorem lp_text {T : D} : ∀ (fs : List Nat) (ds : List D) (ws : List Str) (o2 o3 : Option D), Parts2 fs ds → ws.length + 2 * fs.length ≤ 100 →
    ∃ p2 p3 ws', G.forM (tgTup 2 (tgCons (put 2) (tgCons (put 3) tgNil))) b_law_step_text_1 (zipD ds (fs.map sgc)) [some T, some (.lst true (ws.map D.str)), o2, o3] = some (.ok .nx, [some T, some (.lst true ((ws ++ ws').map D.str)), p2, p3]) ∧ (∀ w ∈ ws', WT w) ∧ ws'.length ≤ 2 * fs.length
  | [], _, ws, o2, o3, .nil, _ => ⟨o2, o3, [], (by rw [List.append_nil]; rfl), (fun _ h => by cases h), by simp⟩
  | f :: fs, _, ws, o2, o3, .cons (d := d) (ds := ds) h hs, hl => by
    have un : ∀ (d : D) (l : List D) (ρ : En), G.forM (tgTup 2 (tgCons (put 2) (tgCons (put 3) tgNil))) b_law_step_text_1 (d :: l) ρ = bnd (tgTup 2 (tgCons (put 2) (tgCons (put 3) tgNil)) d) (fun _ => bnd b_law_step_text_1 (loopF (G.forM (tgTup 2 (tgCons (put 2) (tgCons (put 3) tgNil))) b_law_step_text_1 l))) ρ := fun _ _ _ => rfl
    simp only [List.length_cons] at hl
    have fl := fs_strs ws
    have l1 : ws.length ≤ 1000000 := by omega
    obtain ⟨s1, s2, s3⟩ := sg_c
    have n1 : ¬ ("w" : Str) = "c" := by decide +kernel
    have n2 : ¬ ("n" : Str) = "c" := by decide +kernel
    have n3 : ¬ ("n" : Str) = "w" := by decide +kernel
    have go : ∀ (w : Str) (o2 o3 : Option D), WT w → ∃ p2 p3 ws', G.forM (tgTup 2 (tgCons (put 2) (tgCons (put 3) tgNil))) b_law_step_text_1 (zipD ds (fs.map sgc)) [some T, some (.lst true (ws.map D.str ++ [.str w])), o2, o3] = some (.ok .nx, [some T, some (.lst true ((ws ++ ws').map D.str)), p2, p3]) ∧ (∀ w ∈ ws', WT w) ∧ ws'.length ≤ 2 * (fs.length + 1) := fun w o2 o3 hw => by
      obtain ⟨p2, p3, ws', e, hW, hL⟩ := lp_text (T := T) fs ds (ws ++ [w]) o2 o3 hs (by simp only [List.length_append, List.length_cons, List.length_nil]; omega)
      refine ⟨p2, p3, w :: ws', ?_, fun z hz => ?_, by simp only [List.length_cons]; omega⟩
      · rw [List.map_append] at e
        rw [show ws ++ w :: ws' = ws ++ [w] ++ ws' by simp]
        exact e
      · rcases List.mem_cons.mp hz with rfl | hz
        · exact hw
        · exact hW z hz
    show ∃ p2 p3 ws', G.forM (tgTup 2 (tgCons (put 2) (tgCons (put 3) tgNil))) b_law_step_text_1 (.tup [d, sgc f] :: zipD ds (fs.map sgc)) _ = _ ∧ _
    rcases h with ⟨rfl, x, rfl, hx⟩ | ⟨rfl, v, rfl, v0, v1⟩ | ⟨rfl, a, b, rfl, ⟨a0, a1⟩, b0, b1⟩
    · have hx := hx.more (m := 110) (by decide)
      obtain ⟨p2, p3, ws', e, hW, hL⟩ := go (due x) (some (dT x)) (some (.str "w")) (wt_due hx)
      refine ⟨p2, p3, ws', ?_, hW, hL⟩
      rw [un, s2]
      have vw := v_word hx
      have fd := fs_strs ws
      generalize G.forM (tgTup 2 (tgCons (put 2) (tgCons (put 3) tgNil))) b_law_step_text_1 (zipD ds (fs.map sgc)) = K at *
      have lL : (ws.map D.str).length ≤ 1000000 := by rw [List.length_map]; omega
      generalize ws.map D.str = L at *
      generalize due x = du at *
      simp at e vw
      simp [b_law_step_text_1, loopF, n1, vw, fd, lL, e]
    · have fv := s_strD v (Nat.lt_trans (log2_of (n := 100) (i := v) (by omega) (by decide)) (by decide))
      obtain ⟨p2, p3, ws', e, hW, hL⟩ := go (Str.ofString (toString v)) (some (.int v)) (some (.str "n")) (wt_int v0 v1)
      refine ⟨p2, p3, ws', ?_, hW, hL⟩
      rw [un, s3]
      have fd := fs_strs ws
      generalize G.forM (tgTup 2 (tgCons (put 2) (tgCons (put 3) tgNil))) b_law_step_text_1 (zipD ds (fs.map sgc)) = K at *
      have lL : (ws.map D.str).length ≤ 1000000 := by rw [List.length_map]; omega
      generalize ws.map D.str = L at *
      generalize Str.ofString (toString v) = du at *
      simp at e
      simp [b_law_step_text_1, loopF, n2, n3, fv, fd, lL, e]
    · have fa := s_strD a (Nat.lt_trans (log2_of (n := 100) (i := a) (by omega) (by decide)) (by decide))
      have fb := s_strD b (Nat.lt_trans (log2_of (n := 100) (i := b) (by omega) (by decide)) (by decide))
      have wa := wt_int a0 a1
      have wb := wt_int b0 b1
      obtain ⟨p2, p3, ws', e, hW, hL⟩ := lp_text (T := T) fs ds (ws ++ [Str.ofString (toString a), Str.ofString (toString b)]) (some (.tup [.int a, .int b])) (some (.str "c")) hs (by simp only [List.length_append, List.length_cons, List.length_nil]; omega)
      refine ⟨p2, p3, [Str.ofString (toString a), Str.ofString (toString b)] ++ ws', ?_, fun z hz => ?_, by simp only [List.length_append, List.length_cons, List.length_nil]; omega⟩
      · rw [un, s1]
        rw [← List.append_assoc]
        rw [List.map_append] at e
        have fd := fs_strs ws
        have lL : (ws.map D.str).length ≤ 1000000 := by rw [List.length_map]; omega
        have l2 : (ws.map D.str).length + 2 ≤ 1000000 := by rw [List.length_map]; omega
        generalize G.forM (tgTup 2 (tgCons (put 2) (tgCons (put 3) tgNil))) b_law_step_text_1 (zipD ds (fs.map sgc)) = K at *
        generalize (ws ++ [Str.ofString (toString a), Str.ofString (toString b)] ++ ws').map D.str = R at *
        generalize ws.map D.str = L at *
        generalize Str.ofString (toString a) = ta at *
        generalize Str.ofString (toString b) = tb at *
        simp at e
        simp [b_law_step_text_1, loopF, fa, fb, fd, lL, l2, e]
      · rcases List.mem_append.mp hz with hz | hz
        · simp only [List.mem_cons, List.not_mem_nil, or_false] at hz
          rcases hz with rfl | rfl
          · exact wa
          · exact wb
        · exact hW z hz
end Law

namespace Law
open PySem L2 G
theorem v_steptext {w F : Str} {ds : List D} (hw : formS w = some F) (ps : Parts2 (cs F) ds) : ∃ t, g_law_step_text [.tup (.str w :: ds)] = some (.ok (.str t), [none]) ∧ Tx t ∧ t.length ≤ 1000 := by
  have h6 := form_six hw
  obtain ⟨hc, hl3⟩ := six_cs F h6
  obtain ⟨f1, f2, f3⟩ := ps.fs
  have ws := allF_short _ (lookS_mem hw)
  obtain ⟨p2, p3, ws', e, hW, hL⟩ := lp_text (T := .tup (.str w :: ds)) (cs F) ds [w] none none ps (by simp only [List.length_cons, List.length_nil]; omega)
  have dx := dx_form hw
  have vf := v_forms
  have ff : isF formsD = true := rfl
  have ix : ixD (.tup (.str w :: ds)) (.int 0) = some (.str w) := atI_nat (j := 0) rfl
  have cu : cutD (.str w :: ds) (some 1) none = ds := cut_from (.str w :: ds) 1
  have zz : zipS [.tup ds, .str F] = some (zipD ds ((cs F).map sgc)) := rfl
  have wsum : wt ([w] ++ ws') ≤ 1000 := by
    have a1 : ∀ l : List Str, (∀ w ∈ l, WT w) → wt l ≤ 103 * l.length := fun l => by
      induction l with
      | nil => intro _; simp [wt]
      | cons x l ih =>
        intro h
        have := ih fun w hw => h w (List.mem_cons_of_mem _ hw)
        have hx := (h x (List.mem_cons_self ..)).1
        rw [show x :: l = [x] ++ l from rfl, wt_app, wt_one]
        simp only [List.length_append, List.length_cons, List.length_nil]
        omega
    have := a1 ws' hW
    have hw1 : w.length ≤ 10 := ws.1
    rw [wt_app, wt_one]
    omega
  have J := s_join (W := [w] ++ ws') (by omega)
  have T := tx_join (W := [w] ++ ws') (fun x hx => by
    rcases List.mem_append.mp hx with hx | hx
    · rw [List.mem_singleton] at hx; subst hx; exact ws.2
    · exact (hW x hx).2) (by omega)
  have Q := len_join ([w] ++ ws')
  refine ⟨Txt.join " " ([w] ++ ws'), ?_, T, by omega⟩
  have fzl : fzs (([w] ++ ws').map D.str) = ([w] ++ ws').map D.str := by
    have : ∀ l : List Str, fzs (l.map D.str) = l.map D.str := fun l => by
      induction l with
      | nil => rfl
      | cons x l ih => rw [List.map_cons, s_fzs1, ih]; rfl
    exact this _
  have fs1 := fs_strs ([w] ++ ws')
  have e : G.forM (tgTup 2 (tgCons (put 2) (tgCons (put 3) tgNil))) b_law_step_text_1 (zipD ds ((cs F).map sgc)) [some (.tup (.str w :: ds)), some (.lst true [.str w]), none, none] = _ := e
  generalize zipD ds ((cs F).map sgc) = ZZ at *
  generalize ([w] ++ ws').map D.str = LL at *
  generalize Txt.join " " ([w] ++ ws') = TT at *
  generalize formsD = FD at *
  simp only [g_law_step_text, m_law_step_text]
  simp [ix, vf, ff, dx, cu, zz, e, fzl, fs1, J]
def ofL (l : List Nat) : Str := ⟨l.toArray⟩
theorem ofL_cs (l : List Str) : l = (l.map cs).map ofL := by
  induction l with
  | nil => rfl
  | cons a l ih => rw [List.map_cons, List.map_cons, ← ih]; rfl
theorem sp_ofL (t : Str) : sp t = (TL.spl [47] 0 [] (cs t)).map ofL := by rw [← sp_spl, ← ofL_cs]
theorem sb_ofL (t : Str) : sb t = (TL.spl [32] 0 [] (cs t)).map ofL := by rw [← sb_spl, ← ofL_cs]
def rdK (t : Str) : Option (Int × Int) := if (cs t)[0]? = some 45 then rdp (-1) ((TL.spl [47] 0 [] ((cs t).drop 1)).map ofL) else rdp 1 ((TL.spl [47] 0 [] (cs t)).map ofL)
theorem rd_K (t : Str) : rd t = rdK t := by
  unfold rd rdK
  by_cases z : (cs t)[0]? = some 45
  · rw [if_pos ((cut_minus t).mpr z), if_pos z, sp_ofL]
    have := cs_from t 1
    rw [show cs (cutS t (some 1) none) = (cs t).drop 1 from this]
  · rw [if_neg (fun q => z ((cut_minus t).mp q)), if_neg z, sp_ofL]
def nonK (c : Nat) (w : Str) : Bool := if c = 119 then (rdK w).isNone else !(decide (w.length ≤ 3) && good w)
theorem non_K (c : Nat) (w : Str) : isNonB (thD c w) = nonK c w := by
  unfold thD nonK
  split
  · rw [rd_K]
    cases rdK w <;> rfl
  · unfold idxD
    split
    · rename_i h
      rw [decide_eq_true h.1, h.2]; rfl
    · rename_i h
      cases g : good w with
      | false => simp [isNonB]
      | true =>
        have : ¬ w.length ≤ 3 := fun z => h ⟨z, g⟩
        simp [isNonB, this]
def errK (W : List Str) : List Nat → Nat → Option Nat
  | [], _ => none
  | c :: fs, i => match W[i + 1]? with
    | none => some (i + 2)
    | some w => if nonK c w = true then some (i + 2) else errK W fs (i + 1)
theorem err_K {W : List Str} : ∀ {fs : List Nat} {i n : Nat}, errK W fs i = some n → thL W fs i = .error n
  | [], i, n, h => by cases h
  | c :: fs, i, n, h => by
    unfold errK at h
    cases hw : W[i + 1]? with
    | none =>
      rw [hw] at h
      cases h
      exact thL_bad (by rw [thG_none hw]; rfl)
    | some w =>
      rw [hw] at h
      simp only at h
      by_cases b : nonK c w = true
      · rw [if_pos b] at h
        cases h
        exact thL_bad (by rw [thG_some hw, non_K]; exact b)
      · rw [if_neg b] at h
        rw [thL_ok (by rw [thG_some hw, non_K]; exact Bool.eq_false_iff.mpr b), err_K h]
        rfl
theorem err_N {W : List Str} : ∀ {fs : List Nat} {i : Nat}, errK W fs i = none → ∃ ds, thL W fs i = .ok ds
  | [], i, h => ⟨[], rfl⟩
  | c :: fs, i, h => by
    unfold errK at h
    cases hw : W[i + 1]? with
    | none => rw [hw] at h; cases h
    | some w =>
      rw [hw] at h
      simp only at h
      by_cases b : nonK c w = true
      · rw [if_pos b] at h; cases h
      · rw [if_neg b] at h
        obtain ⟨ds, e⟩ := err_N h
        exact ⟨_, by rw [thL_ok (by rw [thG_some hw, non_K]; exact Bool.eq_false_iff.mpr b), e]; rfl⟩
def readK (W : List Str) (w : Str) : Option Nat := if emB W = true then some 0 else match formS w with
  | none => some 1
  | some F => match errK W (cs (repF F)) 0 with
    | some n => some n
    | none => if W.length = (repF F).length + 1 then none else some ((repF F).length + 2)
theorem read_K {W : List Str} {w : Str} {n : Nat} (h : readK W w = some n) : readX W w = .error n := by
  unfold readK at h
  unfold readX
  by_cases e : emB W = true
  · rw [if_pos e] at h ⊢
    cases h; rfl
  · rw [if_neg e] at h ⊢
    cases ef : formS w with
    | none => rw [ef] at h; cases h; rfl
    | some F =>
      rw [ef] at h
      simp only at h
      show finD w F (endT W (repF F).length (thL W (cs (repF F)) 0)) = _
      cases ek : errK W (cs (repF F)) 0 with
      | some m =>
        rw [ek] at h
        cases h
        rw [err_K ek]
        rfl
      | none =>
        rw [ek] at h
        simp only at h
        obtain ⟨ds, e⟩ := err_N ek
        rw [e]
        by_cases q : W.length = (repF F).length + 1
        · rw [if_pos q] at h; cases h
        · rw [if_neg q] at h
          cases h
          rw [show endT W (repF F).length (.ok ds) = .error ((repF F).length + 2) from if_neg q]
          rfl
theorem out_err {t : Str} (h : Tx t) {w : Str} {W' : List Str} (hw : sb t = w :: W') {n : Nat} (r : readK (w :: W') w = some n) : g_law_outcome [.str t] = some (.ok (.tup [.int 1, .int n]), [none]) := by
  have o := v_outcome h hw
  rw [hw, read_K r] at o
  exact o
def T11 : List (Str × Nat) := [("", 0), (" ", 0), ("drop", 2), ("drop 1 2", 3), ("drop  1", 0), ("turn 0", 1), ("scale 0 2/4", 3), ("drop 1000", 2), ("drop 01", 2), ("drop 1\n", 2), ("Drop 1", 1)]
def chk (t : Str) : Option Nat := match (TL.spl [32] 0 [] (cs t)).map ofL with
  | w :: W' => readK (w :: W') w
  | [] => none
theorem T11_ok : ∀ p ∈ T11, chk p.1 = some p.2 ∧ p.1.length ≤ 100 ∧ ∀ c ∈ cs p.1, c < 128 := by decide +kernel
theorem T11_out : ∀ p ∈ T11, g_law_outcome [.str p.1] = some (.ok (.tup [.int 1, .int p.2]), [none]) := fun p hp => by
  obtain ⟨h1, h2, h3⟩ := T11_ok p hp
  have tx : Tx p.1 := ⟨by omega, h3⟩
  have e := sb_ofL p.1
  unfold chk at h1
  cases q : (TL.spl [32] 0 [] (cs p.1)).map ofL with
  | nil => rw [q] at h1; cases h1
  | cons w W' =>
    rw [q] at h1 e
    exact out_err tx e h1
end Law

namespace Law
open PySem L2 G
def chkL (l : List Nat) : Option Nat := match (TL.spl [32] 0 [] l).map ofL with
  | w :: W' => readK (w :: W') w
  | [] => none
abbrev N9 : Str := repS "9" 5000
theorem cs9 : cs ("9" : Str) = [57] := by decide +kernel
theorem cs_F9 : cs N9 = List.replicate 5000 57 := by rw [cs_rep, cs9, flat_one]
theorem len_F9 : N9.length = 5000 := by rw [len_cs, cs_F9, List.length_replicate]
theorem mem_F9 {c : Nat} (h : c ∈ cs N9) : c < 128 := by
  rw [cs_F9] at h
  rw [(List.mem_replicate.mp h).2]
  decide
theorem far_ok : chkL (cs "scale 0 " ++ List.replicate 5000 57) = some 3 ∧ chkL (cs "weight 0 1/" ++ List.replicate 5000 57) = some 3 ∧ chkL (cs "drop " ++ List.replicate 5000 57) = some 2 := by decide +kernel
theorem far_cs : (("scale 0 " : Str).length ≤ 20 ∧ ∀ c ∈ cs ("scale 0 " : Str), c < 128) ∧ (("weight 0 1/" : Str).length ≤ 20 ∧ ∀ c ∈ cs ("weight 0 1/" : Str), c < 128) ∧ (("drop " : Str).length ≤ 20 ∧ ∀ c ∈ cs ("drop " : Str), c < 128) := by decide +kernel
theorem far_out {a : Str} {n : Nat} (ha : a.length ≤ 20 ∧ ∀ c ∈ cs a, c < 128) (h : chkL (cs a ++ List.replicate 5000 57) = some n) : g_law_outcome [.str (a ++ N9)] = some (.ok (.tup [.int 1, .int n]), [none]) := by
  have lf := len_F9
  have tx : Tx (a ++ N9) := tx2 ha.2 (fun c hc => mem_F9 hc) (by omega)
  have e := sb_ofL (a ++ N9)
  rw [cs_app, cs_F9] at e
  unfold chkL at h
  cases q : (TL.spl [32] 0 [] (cs a ++ List.replicate 5000 57)).map ofL with
  | nil => rw [q] at h; cases h
  | cons w W' =>
    rw [q] at h e
    exact out_err tx e h
def T14 : List (Str × Nat) := T11 ++ [("scale 0 " ++ N9, 3), ("weight 0 1/" ++ N9, 3), ("drop " ++ N9, 2)]
theorem T14_out : ∀ p ∈ T14, g_law_outcome [.str p.1] = some (.ok (.tup [.int 1, .int p.2]), [none]) := fun p hp => by
  obtain ⟨f1, f2, f3⟩ := far_ok
  obtain ⟨c1, c2, c3⟩ := far_cs
  rcases List.mem_append.mp hp with h | h
  · exact T11_out p h
  · simp only [List.mem_cons, List.not_mem_nil, or_false] at h
    rcases h with rfl | rfl | rfl
    · exact far_out c1 f1
    · exact far_out c2 f2
    · exact far_out c3 f3
def o14 : List Nat := [0, 0, 2, 3, 0, 1, 3, 2, 2, 2, 1, 3, 3, 2]
theorem T14_snd : T14.map Prod.snd = o14 := rfl
def g14 (i : Nat) : D := .tup [.int 1, .int (((o14)[i]?.getD 0 : Nat) : Int)]
theorem c14 {ρ : En} (a0 a1 a2 a3 a4 a5 a7 a8 : Option D) (hρ : ρ = [a0, a1, a2, a3, a4, a5, none, a7, a8]) : compL [6] (put 6) (rt true) b_law_2 (T14.map fun p => D.str p.1) ρ = some ((List.range 14).map g14, ρ) := by
  subst hρ
  have := compL_all (vs := [6]) (tgt := put 6) (e := b_law_2) (ρ := [a0, a1, a2, a3, a4, a5, none, a7, a8]) g14 (T14.map fun p => D.str p.1) fun i d hd => by
    rw [List.getElem?_map] at hd
    cases hp : T14[i]? with
    | none => rw [hp] at hd; cases hd
    | some p =>
      rw [hp] at hd
      cases hd
      have o := T14_out p (List.mem_of_getElem? hp)
      have eg : g14 i = .tup [.int 1, .int p.2] := by
        unfold g14
        rw [← T14_snd, List.getElem?_map, hp]
        rfl
      rw [eg]
      refine ⟨[a0, a1, a2, a3, a4, a5, some (.str p.1), a7, a8], [a0, a1, a2, a3, a4, a5, some (.str p.1), a7, a8], rfl, ?_, rfl⟩
      simp [b_law_2, o]
  rw [this]
  rfl
theorem rep14 : reprD [.lst false ((List.range 14).map g14)] = some (.str ("[(1, 0), (1, 0), (1, 2), (1, 3), (1, 0), (1, 1), (1, 3), (1, 2), (1, 2), (1, 2), (1, 1)" ++ ", (1, 3), (1, 3), (1, 2)]")) := by
  have e := rep_of (d := .lst false ((List.range 14).map g14)) (.list (o14.map fun n : Nat => .tuple [.int 1, .int (n : Int)])) rfl (by decide +kernel) (by decide +kernel) (by decide +kernel)
  rw [e]
  have : PyData.shown (.list (o14.map fun n : Nat => .tuple [.int 1, .int (n : Int)])) = "[(1, 0), (1, 0), (1, 2), (1, 3), (1, 0), (1, 1), (1, 3), (1, 2), (1, 2), (1, 2), (1, 1)" ++ ", (1, 3), (1, 3), (1, 2)]" := by decide +kernel
  rw [this]
theorem rep00 : reprD [.tup [.int 0, .int 0]] = some (.str "(0, 0)") := by
  have e := rep_of (d := .tup [.int 0, .int 0]) (.tuple [.int 0, .int 0]) rfl (by decide +kernel) (by decide +kernel) (by decide +kernel)
  rw [e]
  have : PyData.shown (.tuple [.int 0, .int 0]) = "(0, 0)" := by decide +kernel
  rw [this]
theorem out_other {d : D} (fd : isF d = true) (h : isiD d (.ty "str") = some (.bl false)) : g_law_outcome [d] = some (.ok (.tup [.int 0, .int 0]), [none]) := by
  have r : g_read_step [d] = some (.error ⟨"BadRow", [("word", .int 0), ("row", .int 0)]⟩, [none]) := by
    simp only [g_read_step, m_read_step]
    simp [h, fd]
  have hb : b_law_outcome_2 [some d, some (.str "begun"), none] = some (.error ⟨"BadRow", [("word", .int 0), ("row", .int 0)]⟩, [some d, some (.str "begun"), none]) := by
    simp [b_law_outcome_2, r, fd]
  have ne : (("row" : Str) == "word") = false := by decide +kernel
  have lk : ∀ x y : D, List.lookup ("row" : Str) [(("word" : Str), x), (("row" : Str), y)] = some y := fun x y => by simp [List.lookup, ne]
  have lk2 : ∀ x y : D, List.lookup ("word" : Str) [(("word" : Str), x), (("row" : Str), y)] = some x := fun x y => by simp [List.lookup]
  have e := s_tryA_err (c := "BadRow") (i := 2) (known := []) (s := b_law_outcome_1) (f := .nx) (ρ2 := [some d, some (.tup [.int 0, .int 0]), none]) hb rfl (by simp) (by simp) (fun a d => ⟨_, by simp [b_law_outcome_1, eXf, lk, lk2]; rfl, rfl⟩)
  simp only [g_law_outcome, m_law_outcome]
  simp [e]
def things : List D := [.non, .int 0, .bl true, .lst false [.str "drop 1"], .tup [.str "drop", .int 1], .dk false [] []]
theorem things_no : ∀ d ∈ things, isF d = true ∧ g_law_outcome [d] = some (.ok (.tup [.int 0, .int 0]), [none]) := fun d hd => by
  simp only [things, List.mem_cons, List.not_mem_nil, or_false] at hd
  rcases hd with rfl | rfl | rfl | rfl | rfl | rfl <;> exact ⟨rfl, out_other rfl rfl⟩
theorem fs_outX (W : List Str) (w : Str) : isF (outX (readX W w)) = true := by
  unfold readX
  split
  · rfl
  · split
    · rfl
    · rename_i F _
      cases thgs W (repF F) with
      | error n => rfl
      | ok ds => rfl
end Law

namespace Law
open PySem L2 G
def IB (s : D) (c : List Int) (k0 : Int) (o2 o3 o4 o5 o7 : Option D) (i : Nat) (ρ : En) : Prop := ∃ (l : List Int) (k : Int) (t : Str) (o8 : Option D), ρ = [some s, some (.drw c l k), o2, o3, o4, o5, some (.str t), o7, o8] ∧ k0 ≤ k ∧ k ≤ k0 + 4 * i ∧ Tx t ∧ t.length + 8 ≤ 1008 * 2 ^ i
theorem t_b {s : D} {c : List Int} {k0 : Int} {o2 o3 o4 o5 o7 : Option D} {i : Nat} {d : D} {ρ : En} (hi : i < 3) (h0 : 0 ≤ k0) (h1 : k0 < 2 ^ 35) (h : IB s c k0 o2 o3 o4 o5 o7 i ρ) :
    ∃ ρ1 ρ2 f, put 8 d ρ = some (.ok .nx, ρ1) ∧ b_law_3 ρ1 = some (.ok f, ρ2) ∧ (f = .nx ∨ f = .ct) ∧ IB s c k0 o2 o3 o4 o5 o7 (i + 1) ρ2 := by
  obtain ⟨l, k, t, o8, rfl, ha, hb, tx, hl⟩ := h
  have ht : t.length ≤ 8000 := by
    have : (2 : Nat) ^ i ≤ 2 ^ 2 := Nat.pow_le_pow_right (by decide) (by omega)
    omega
  obtain ⟨l1, k1, t', e1, tx', hl', a1, a2⟩ := v_bent (c := c) (l := l) (k := k) tx (by omega) (by omega) (by omega)
  cases hw : sb t with
  | nil => exact absurd hw (sb_ne t)
  | cons w W' =>
    have q1 := v_outcome tx hw
    have q2 := v_due tx hw
    obtain ⟨rs, hr⟩ := (rp_outX (W := sb t) (w := w)).rep (by decide) (by decide)
    have fr := fs_outX (sb t) w
    refine ⟨_, [some s, some (.drw c l1 k1), o2, o3, o4, o5, some (.str t'), o7, some d], .nx, rfl, ?_, .inl rfl, l1, k1, t', _, rfl, by omega, by omega, tx', by rw [Nat.pow_succ]; omega⟩
    generalize outX (readX (sb t) w) = R at *
    simp [b_law_3, e1, q1, q2, fr, hr]
def IL (s : D) (c : List Int) (o2 o3 o4 o5 : Option D) (i : Nat) (ρ : En) : Prop := ∃ (l : List Int) (k : Int) (o6 o7 o8 : Option D), ρ = [some s, some (.drw c l k), o2, o3, o4, o5, o6, o7, o8] ∧ 0 ≤ k ∧ k ≤ 50 * i
theorem t_l {s : D} {c : List Int} {o2 o3 o4 o5 : Option D} {i : Nat} {d : D} {ρ : En} (hi : i < 100) (h : IL s c o2 o3 o4 o5 i ρ) : ∃ ρ1 ρ2 f, put 7 d ρ = some (.ok .nx, ρ1) ∧ b_law_4 ρ1 = some (.ok f, ρ2) ∧ (f = .nx ∨ f = .ct) ∧ IL s c o2 o3 o4 o5 (i + 1) ρ2 := by
  obtain ⟨l, k, o6, o7, o8, rfl, k0, k1⟩ := h
  obtain ⟨l1, k1', w, F, ds, e1, hw, ps, a1, a2⟩ := v_drawn (c := c) (l := l) (k := k) k0 (by omega)
  obtain ⟨t, e2, tx, tl⟩ := v_steptext hw ps
  have r3 : rng1 [.int 3] = some (rngD 0 3) := rng1_int 3 (by decide)
  obtain ⟨ρ', e6, l6, k6, t6, p8, rfl, g1, g2, _, _⟩ := forM_inv (tgt := put 8) (b := b_law_3) (IB s c k1' o2 o3 o4 o5 (some d)) (rngD 0 3) 0 [some s, some (.drw c l1 k1'), o2, o3, o4, o5, some (.str t), some d, o8]
    (fun j y ρ hy hI => t_b (by have := (rng_mem hy).1; omega) (by omega) (by omega) hI) ⟨_, _, _, _, rfl, Int.le_refl _, by omega, tx, by omega⟩
  have lr : (rngD 0 3).length = 3 := by simp [rngD]
  rw [lr] at g2
  refine ⟨_, [some s, some (.drw c l6 k6), o2, o3, o4, o5, some (.str t6), some d, p8], .nx, rfl, ?_, .inl rfl, l6, k6, _, _, _, rfl, by omega, by omega⟩
  generalize rngD 0 3 = R at *
  simp [b_law_4, e1, e2, r3, e6]
theorem always (ns : List Int) (hl : ns.length ≤ 63) (_ : ∀ z ∈ ns, Builtin.Int.intBits z ≤ 1048576) : ∃ ρr, g_law [.sq (ns.map D.int)] = some (.ok (.bl true), ρr) := by
  have hi : ∀ ns : List Int, toInts (ns.map D.int) = some ns := fun ns => by
    induction ns with
    | nil => rfl
    | cons i ns ih => simp [toInts, ih]
  have e1 : g_law_begun [.sq (ns.map D.int)] = some (.ok (.drw ns (bigs ns) 0), [none]) := by
    show gBegun _ = _
    unfold gBegun
    simp only [hi]
    rw [if_pos (by omega)]
  have n1 : (3 + (if (8 : Int) < (ns.length : Int) then 8 else (ns.length : Int))).toNat ≤ 12 := by split <;> omega
  have n2 := rng1_int (3 + (if (8 : Int) < (ns.length : Int) then 8 else (ns.length : Int))) ⟨by split <;> omega, by split <;> omega⟩
  generalize hN : (3 + (if (8 : Int) < (ns.length : Int) then 8 else (ns.length : Int))) = N at n1 n2
  have r0 := rep00
  obtain ⟨ρ', l1, c2, rfl⟩ := forM_inv (tgt := put 2) (b := b_law_1) (fun _ ρ => ∃ o2, ρ = [some (.sq (ns.map D.int)), some (.drw ns (bigs ns) 0), o2, none, none, none, none, none, none]) things 0 [some (.sq (ns.map D.int)), some (.drw ns (bigs ns) 0), none, none, none, none, none, none, none]
    (fun j y ρ hy hI => by
      obtain ⟨o2, rfl⟩ := hI
      obtain ⟨f, q⟩ := things_no y (List.mem_of_getElem? hy)
      refine ⟨_, [some (.sq (ns.map D.int)), some (.drw ns (bigs ns) 0), some y, none, none, none, none, none, none], .nx, rfl, ?_, .inl rfl, _, rfl⟩
      simp [b_law_1, f, q, r0]) ⟨_, rfl⟩
  have lf := len_F9
  obtain ⟨c1, c22, c3⟩ := far_cs
  have p1 := s_addS "scale 0 " N9 (by omega)
  have p2 := s_addS "weight 0 1/" N9 (by omega)
  have p3 := s_addS "drop " N9 (by omega)
  have p4 := s_addS "[(1, 0), (1, 0), (1, 2), (1, 3), (1, 0), (1, 1), (1, 3), (1, 2), (1, 2), (1, 2), (1, 1)" ", (1, 3), (1, 3), (1, 2)]" (by decide +kernel)
  have m9 : mulSD (.str "9") (.int 5000) = some (.str N9) := s_mulS _ _ ⟨by decide, by decide +kernel, by decide +kernel⟩
  have cc := fun (a0 a1 a2 a3 a4 a5 a7 a8 : Option D) => c14 a0 a1 a2 a3 a4 a5 a7 a8 rfl
  have et : (T14.map fun p => D.str p.1) = [.str "", .str " ", .str "drop", .str "drop 1 2", .str "drop  1", .str "turn 0", .str "scale 0 2/4", .str "drop 1000", .str "drop 01"] ++ [.str "drop 1\n", .str "Drop 1", .str ("scale 0 " ++ N9), .str ("weight 0 1/" ++ N9), .str ("drop " ++ N9)] := rfl
  have pw : addD (.lst false [.str "", .str " ", .str "drop", .str "drop 1 2", .str "drop  1", .str "turn 0", .str "scale 0 2/4", .str "drop 1000", .str "drop 01"]) (.lst false [.str "drop 1\n", .str "Drop 1", .str ("scale 0 " ++ N9), .str ("weight 0 1/" ++ N9), .str ("drop " ++ N9)]) = some (.lst false (T14.map fun p => D.str p.1)) := by
    rw [s_addL, if_pos (by simp), et]
  have fl : isFs (T14.map fun p => D.str p.1) = true := by rw [et]; rfl
  have ll : (T14.map fun p => D.str p.1).length ≤ 1000000 := by rw [et]; decide
  have rp := rep14
  have f14 : isFs ((List.range 14).map g14) = true := rfl
  obtain ⟨ρ3, l3, l, k, a6, a7, a8, rfl, _, _⟩ := forM_inv (tgt := put 7) (b := b_law_4) (IL (.sq (ns.map D.int)) ns c2 (some (.lst false (T14.map fun p => D.str p.1))) (some (.str N9)) (some (.str ("[(1, 0), (1, 0), (1, 2), (1, 3), (1, 0), (1, 1), (1, 3), (1, 2), (1, 2), (1, 2), (1, 1)" ++ ", (1, 3), (1, 3), (1, 2)]")))) (rngD 0 N.toNat) 0
    [some (.sq (ns.map D.int)), some (.drw ns (bigs ns) 0), c2, some (.lst false (T14.map fun p => D.str p.1)), some (.str N9), some (.str ("[(1, 0), (1, 0), (1, 2), (1, 3), (1, 0), (1, 1), (1, 3), (1, 2), (1, 2), (1, 2), (1, 1)" ++ ", (1, 3), (1, 3), (1, 2)]")), none, none, none]
    (fun i d ρ hd hI => t_l (by
      have := (rng_mem hd).1
      omega) hI) ⟨_, _, _, _, _, rfl, by omega, by omega⟩
  refine ⟨[none], ?_⟩
  have l1 : G.forM (put 2) b_law_1 [.non, .int 0, .bl true, .lst false [.str "drop 1"], .tup [.str "drop", .int 1], .dk false [] []] [some (.sq (ns.map D.int)), some (.drw ns (bigs ns) 0), none, none, none, none, none, none, none] = _ := l1
  generalize (T14.map fun p => D.str p.1) = TT at *
  generalize ("scale 0 " ++ N9) = A1 at *
  generalize ("weight 0 1/" ++ N9) = A2 at *
  generalize ("drop " ++ N9) = A3 at *
  generalize N9 = F at *
  generalize ("[(1, 0), (1, 0), (1, 2), (1, 3), (1, 0), (1, 1), (1, 3), (1, 2), (1, 2), (1, 2), (1, 1)" ++ ", (1, 3), (1, 3), (1, 2)]" : Str) = DU at *
  generalize (List.range 14).map g14 = GG at *
  simp only [g_law, m_law]
  simp [e1, l1, m9, p1, p2, p3, pw, p4, fl, ll, wipeE, backE, keepF, cc, f14, rp, hN, n2, l3]
end Law

namespace Law
open PySem PySem.Spec PySem.W PySem.XF PyProof.Rows PySem.HandSPX L2 G
def sx_BadRow : Stmt := inClass (top 1) 0
theorem cell_sx_BadRow : ∀ x ∈ (defScope sx_BadRow).names, x.2 ≠ .cell := by decide +kernel
theorem nm_sx_BadRow : ∀ y ∈ ("self" : Str) :: ["row", "word"], (defScope sx_BadRow).names.lookup y = some .local ∧ (y == ("__debug__" : Str)) = false := by decide +kernel
theorem ba_sx_BadRow (qual : Str) (cc cda : Addr) (doc pm ct : Value) (an : Option Addr) : ∀ us : List Value, us.length = ["row", "word"].length + 1 → bindArgs (fnX "__init__" qual (defArgs sx_BadRow) (defBody sx_BadRow) (defScope sx_BadRow) [("__class__", cc)] .none .none doc pm an (.ref cda) ct) ⟨us, []⟩ = pure ((("self" : Str) :: ["row", "word"]).zip us) := fun us h => match us, h with | [_, _, _], _ => rfl
theorem ev_sx_BadRow (qual : Str) (fI cda cc : Addr) : ∃ p0 p1 p2 p3 p4 p5 j sts, defBody sx_BadRow = .Expr (.Call (.Attribute (.Call (.Name "super" p0) [] [] p1) "__init__" p2) [.Constant (.str "this text cannot be read") j p3] [] p4) p5 :: sts ∧ Sets ["row", "word"] sts ∧
      ∀ (L : Addr), interactive (ksEnv qual (defScope sx_BadRow) L fI (.ref cda) cc) = false ∧ swapsWith (.Call (.Attribute (.Call (.Name "super" p0) [] [] p1) "__init__" p2) [.Constant (.str "this text cannot be read") j p3] [] p4) none p5.line (ksEnv qual (defScope sx_BadRow) L fI (.ref cda) cc) = pure false ∧
        ∃ pl : Sem Bool, eval (.Call (.Attribute (.Call (.Name "super" p0) [] [] p1) "__init__" p2) [.Constant (.str "this text cannot be read") j p3] [] p4) (ksEnv qual (defScope sx_BadRow) L fI (.ref cda) cc) = (do
          let ov ← attributeBase (.Call (.Name "super" p0) [] [] p1) "__init__" (ksEnv qual (defScope sx_BadRow) L fI (.ref cda) cc) (eval (.Call (.Name "super" p0) [] [] p1) (ksEnv qual (defScope sx_BadRow) L fI (.ref cda) cc))
          standAt p2.atName
          let (f, first) ← holding [ov] (getMethod ov "__init__" pl)
          callWith p4 f first (backTo p4 (starEach [.Constant (.str "this text cannot be read") j p3] (ksEnv qual (defScope sx_BadRow) L fI (.ref cda) cc))) []) :=
  ⟨_, _, _, _, _, _, _, _, rfl, ⟨⟨_, _, _, _, rfl⟩, ⟨⟨_, _, _, _, rfl⟩, trivial⟩⟩, fun _ => ⟨rfl, rfl, _, rfl⟩⟩
theorem all_mk {w : World} {K : PySem.W.Frag} {h : Heap} {mg : Str → Option Value} {fa : Addr} (X : K.In h) (G : h.Ns mainGlobals mg) (hfa : mg "law" = some (.ref fa))
    {od0 an0 : Option Addr} {sl0 : Array (Option Value)} {oc0 kV0 dc0 pm0 cd0 ct0 : Value} {f0 : Addr}
    {od1 an1 : Option Addr} {sl1 : Array (Option Value)} {oc1 kV1 dc1 pm1 cd1 ct1 : Value} {f1 : Addr}
    {od2 an2 : Option Addr} {sl2 : Array (Option Value)} {oc2 kV2 dc2 pm2 cd2 ct2 : Value} {f2 : Addr}
    {od3 an3 : Option Addr} {sl3 : Array (Option Value)} {oc3 kV3 dc3 pm3 cd3 ct3 : Value} {f3 : Addr}
    {od4 an4 : Option Addr} {sl4 : Array (Option Value)} {oc4 kV4 dc4 pm4 cd4 ct4 : Value} {f4 : Addr}
    {od5 an5 : Option Addr} {sl5 : Array (Option Value)} {oc5 kV5 dc5 pm5 cd5 ct5 : Value} {f5 : Addr}
    {od6 an6 : Option Addr} {sl6 : Array (Option Value)} {oc6 kV6 dc6 pm6 cd6 ct6 : Value} {f6 : Addr}
    {od7 an7 : Option Addr} {sl7 : Array (Option Value)} {oc7 kV7 dc7 pm7 cd7 ct7 : Value} {f7 : Addr}
    {od8 an8 : Option Addr} {sl8 : Array (Option Value)} {oc8 kV8 dc8 pm8 cd8 ct8 : Value} {f8 : Addr}
    {od9 an9 : Option Addr} {sl9 : Array (Option Value)} {oc9 kV9 dc9 pm9 cd9 ct9 : Value} {f9 : Addr}
    {od10 an10 : Option Addr} {sl10 : Array (Option Value)} {oc10 kV10 dc10 pm10 cd10 ct10 : Value} {f10 : Addr}
    {od11 an11 : Option Addr} {sl11 : Array (Option Value)} {oc11 kV11 dc11 pm11 cd11 ct11 : Value} {f11 : Addr}
    {od12 an12 : Option Addr} {sl12 : Array (Option Value)} {oc12 kV12 dc12 pm12 cd12 ct12 : Value} {f12 : Addr}
    {od13 an13 : Option Addr} {sl13 : Array (Option Value)} {oc13 kV13 dc13 pm13 cd13 ct13 : Value} {f13 : Addr}
    {od14 an14 : Option Addr} {sl14 : Array (Option Value)} {oc14 kV14 dc14 pm14 cd14 ct14 : Value} {f14 : Addr}
    {od15 an15 : Option Addr} {sl15 : Array (Option Value)} {oc15 kV15 dc15 pm15 cd15 ct15 : Value} {f15 : Addr}
    {od16 an16 : Option Addr} {sl16 : Array (Option Value)} {oc16 kV16 dc16 pm16 cd16 ct16 : Value} {f16 : Addr}
    {od17 an17 : Option Addr} {sl17 : Array (Option Value)} {oc17 kV17 dc17 pm17 cd17 ct17 : Value} {f17 : Addr}
    {od18 an18 : Option Addr} {sl18 : Array (Option Value)} {oc18 kV18 dc18 pm18 cd18 ct18 : Value} {f18 : Addr}
    {od19 an19 : Option Addr} {sl19 : Array (Option Value)} {oc19 kV19 dc19 pm19 cd19 ct19 : Value} {f19 : Addr}
    {od20 an20 : Option Addr} {sl20 : Array (Option Value)} {oc20 kV20 dc20 pm20 cd20 ct20 : Value} {f20 : Addr}
    {od21 an21 : Option Addr} {sl21 : Array (Option Value)} {oc21 kV21 dc21 pm21 cd21 ct21 : Value} {f21 : Addr}
    {od22 an22 : Option Addr} {sl22 : Array (Option Value)} {oc22 kV22 dc22 pm22 cd22 ct22 : Value} {f22 : Addr}
    {od23 an23 : Option Addr} {sl23 : Array (Option Value)} {oc23 kV23 dc23 pm23 cd23 ct23 : Value} {f23 : Addr}
    {od24 an24 : Option Addr} {sl24 : Array (Option Value)} {oc24 kV24 dc24 pm24 cd24 ct24 : Value} {f24 : Addr}
    {CBadRow fIBadRow NBadRow cdaBadRow ccBadRow : Addr} {nmBadRow qBadRow fnBadRow : Str} {bsBadRow subBadRow : List Value} {snBadRow : List Str} {abBadRow : Bool} {colBadRow : Option Bool} {ddBadRow odBadRow anBadRow cddBadRow cldBadRow : Option Addr} {k0BadRow k1BadRow k2BadRow k3BadRow k5BadRow : Option Value} {ocBadRow docBadRow pmBadRow ctBadRow cclBadRow clBadRow : Value} {oslBadRow ccsBadRow cslBadRow : Array (Option Value)} {vsBadRow : Array Value} {tfBadRow : Tok}
    {KTEDITS : Addr} {knEDITS : Nat} {ktEDITS_0 kuEDITS_0 : Tok} {ktEDITS_1 kuEDITS_1 : Tok} {ktEDITS_2 kuEDITS_2 : Tok} {ktEDITS_3 kuEDITS_3 : Tok} {ktEDITS_4 kuEDITS_4 : Tok}
    {KTFORMS : Addr} {knFORMS : Nat} {ktFORMS_0 kuFORMS_0 : Tok} {ktFORMS_1 kuFORMS_1 : Tok} {ktFORMS_2 kuFORMS_2 : Tok} {ktFORMS_3 kuFORMS_3 : Tok} {ktFORMS_4 kuFORMS_4 : Tok} {ktFORMS_5 kuFORMS_5 : Tok}
    {ktMOST_DIGITS : Tok}
    {ktMOST_SIGNS : Tok}
    (a0 : PySem.W.nsIn K mainGlobals "_law_begun" = some (some (.ref f0)))
    (l0 : K.lookup f0 = some ⟨oc0, od0, .func (PySem.W.fnOf "_law_begun" "_law_begun" (defArgs sBegun) (defBody sBegun) (defScope sBegun) .none kV0 dc0 pm0 an0 cd0 ct0), sl0⟩)
    (c0 : PySem.W.codeIn K cd0 "_law_begun" = true)
    (k0 : PySem.W.keepIn K (.ref f0) = true)
    (a1 : PySem.W.nsIn K mainGlobals "form_of" = some (some (.ref f1)))
    (l1 : K.lookup f1 = some ⟨oc1, od1, .func (PySem.W.fnOf "form_of" "form_of" (defArgs s_form_of) (defBody s_form_of) (defScope s_form_of) .none kV1 dc1 pm1 an1 cd1 ct1), sl1⟩)
    (c1 : PySem.W.codeIn K cd1 "form_of" = true)
    (k1 : PySem.W.keepIn K (.ref f1) = true)
    (a2 : PySem.W.nsIn K mainGlobals "ra_digits" = some (some (.ref f2)))
    (l2 : K.lookup f2 = some ⟨oc2, od2, .func (PySem.W.fnOf "ra_digits" "ra_digits" (defArgs s_ra_digits) (defBody s_ra_digits) (defScope s_ra_digits) .none kV2 dc2 pm2 an2 cd2 ct2), sl2⟩)
    (c2 : PySem.W.codeIn K cd2 "ra_digits" = true)
    (k2 : PySem.W.keepIn K (.ref f2) = true)
    (a3 : PySem.W.nsIn K mainGlobals "ra_divisor" = some (some (.ref f3)))
    (l3 : K.lookup f3 = some ⟨oc3, od3, .func (PySem.W.fnOf "ra_divisor" "ra_divisor" (defArgs s_ra_divisor) (defBody s_ra_divisor) (defScope s_ra_divisor) .none kV3 dc3 pm3 an3 cd3 ct3), sl3⟩)
    (c3 : PySem.W.codeIn K cd3 "ra_divisor" = true)
    (k3 : PySem.W.keepIn K (.ref f3) = true)
    (a4 : PySem.W.nsIn K mainGlobals "ra_read" = some (some (.ref f4)))
    (l4 : K.lookup f4 = some ⟨oc4, od4, .func (PySem.W.fnOf "ra_read" "ra_read" (defArgs s_ra_read) (defBody s_ra_read) (defScope s_ra_read) .none kV4 dc4 pm4 an4 cd4 ct4), sl4⟩)
    (c4 : PySem.W.codeIn K cd4 "ra_read" = true)
    (k4 : PySem.W.keepIn K (.ref f4) = true)
    (a5 : PySem.W.nsIn K mainGlobals "tx_number" = some (some (.ref f5)))
    (l5 : K.lookup f5 = some ⟨oc5, od5, .func (PySem.W.fnOf "tx_number" "tx_number" (defArgs s_tx_number) (defBody s_tx_number) (defScope s_tx_number) .none kV5 dc5 pm5 an5 cd5 ct5), sl5⟩)
    (c5 : PySem.W.codeIn K cd5 "tx_number" = true)
    (k5 : PySem.W.keepIn K (.ref f5) = true)
    (a6 : PySem.W.nsIn K mainGlobals "tx_thing" = some (some (.ref f6)))
    (l6 : K.lookup f6 = some ⟨oc6, od6, .func (PySem.W.fnOf "tx_thing" "tx_thing" (defArgs s_tx_thing) (defBody s_tx_thing) (defScope s_tx_thing) .none kV6 dc6 pm6 an6 cd6 ct6), sl6⟩)
    (c6 : PySem.W.codeIn K cd6 "tx_thing" = true)
    (k6 : PySem.W.keepIn K (.ref f6) = true)
    (a7 : PySem.W.nsIn K mainGlobals "tx_things" = some (some (.ref f7)))
    (l7 : K.lookup f7 = some ⟨oc7, od7, .func (PySem.W.fnOf "tx_things" "tx_things" (defArgs s_tx_things) (defBody s_tx_things) (defScope s_tx_things) .none kV7 dc7 pm7 an7 cd7 ct7), sl7⟩)
    (c7 : PySem.W.codeIn K cd7 "tx_things" = true)
    (k7 : PySem.W.keepIn K (.ref f7) = true)
    (a8 : PySem.W.nsIn K mainGlobals "tx_grouped" = some (some (.ref f8)))
    (l8 : K.lookup f8 = some ⟨oc8, od8, .func (PySem.W.fnOf "tx_grouped" "tx_grouped" (defArgs s_tx_grouped) (defBody s_tx_grouped) (defScope s_tx_grouped) .none kV8 dc8 pm8 an8 cd8 ct8), sl8⟩)
    (c8 : PySem.W.codeIn K cd8 "tx_grouped" = true)
    (k8 : PySem.W.keepIn K (.ref f8) = true)
    (a9 : PySem.W.nsIn K mainGlobals "read_step" = some (some (.ref f9)))
    (l9 : K.lookup f9 = some ⟨oc9, od9, .func (PySem.W.fnOf "read_step" "read_step" (defArgs s_read_step) (defBody s_read_step) (defScope s_read_step) .none kV9 dc9 pm9 an9 cd9 ct9), sl9⟩)
    (c9 : PySem.W.codeIn K cd9 "read_step" = true)
    (k9 : PySem.W.keepIn K (.ref f9) = true)
    (a10 : PySem.W.nsIn K mainGlobals "_law_outcome" = some (some (.ref f10)))
    (l10 : K.lookup f10 = some ⟨oc10, od10, .func (PySem.W.fnOf "_law_outcome" "_law_outcome" (defArgs s_law_outcome) (defBody s_law_outcome) (defScope s_law_outcome) .none kV10 dc10 pm10 an10 cd10 ct10), sl10⟩)
    (c10 : PySem.W.codeIn K cd10 "_law_outcome" = true)
    (k10 : PySem.W.keepIn K (.ref f10) = true)
    (a11 : PySem.W.nsIn K mainGlobals "_law_forms" = some (some (.ref f11)))
    (l11 : K.lookup f11 = some ⟨oc11, od11, .func (PySem.W.fnOf "_law_forms" "_law_forms" (defArgs s_law_forms) (defBody s_law_forms) (defScope s_law_forms) .none kV11 dc11 pm11 an11 cd11 ct11), sl11⟩)
    (c11 : PySem.W.codeIn K cd11 "_law_forms" = true)
    (k11 : PySem.W.keepIn K (.ref f11) = true)
    (a12 : PySem.W.nsIn K mainGlobals "_law_word" = some (some (.ref f12)))
    (l12 : K.lookup f12 = some ⟨oc12, od12, .func (PySem.W.fnOf "_law_word" "_law_word" (defArgs s_law_word) (defBody s_law_word) (defScope s_law_word) .none kV12 dc12 pm12 an12 cd12 ct12), sl12⟩)
    (c12 : PySem.W.codeIn K cd12 "_law_word" = true)
    (k12 : PySem.W.keepIn K (.ref f12) = true)
    (a13 : PySem.W.nsIn K mainGlobals "_law_step_text" = some (some (.ref f13)))
    (l13 : K.lookup f13 = some ⟨oc13, od13, .func (PySem.W.fnOf "_law_step_text" "_law_step_text" (defArgs s_law_step_text) (defBody s_law_step_text) (defScope s_law_step_text) .none kV13 dc13 pm13 an13 cd13 ct13), sl13⟩)
    (c13 : PySem.W.codeIn K cd13 "_law_step_text" = true)
    (k13 : PySem.W.keepIn K (.ref f13) = true)
    (a14 : PySem.W.nsIn K mainGlobals "_law_next" = some (some (.ref f14)))
    (l14 : K.lookup f14 = some ⟨oc14, od14, .func (PySem.W.fnOf "_law_next" "_law_next" (defArgs sNext) (defBody sNext) (defScope sNext) .none kV14 dc14 pm14 an14 cd14 ct14), sl14⟩)
    (c14 : PySem.W.codeIn K cd14 "_law_next" = true)
    (k14 : PySem.W.keepIn K (.ref f14) = true)
    (a15 : PySem.W.nsIn K mainGlobals "_law_divisor" = some (some (.ref f15)))
    (l15 : K.lookup f15 = some ⟨oc15, od15, .func (PySem.W.fnOf "_law_divisor" "_law_divisor" (defArgs s_law_divisor) (defBody s_law_divisor) (defScope s_law_divisor) .none kV15 dc15 pm15 an15 cd15 ct15), sl15⟩)
    (c15 : PySem.W.codeIn K cd15 "_law_divisor" = true)
    (k15 : PySem.W.keepIn K (.ref f15) = true)
    (a16 : PySem.W.nsIn K mainGlobals "_law_pair" = some (some (.ref f16)))
    (l16 : K.lookup f16 = some ⟨oc16, od16, .func (PySem.W.fnOf "_law_pair" "_law_pair" (defArgs s_law_pair) (defBody s_law_pair) (defScope s_law_pair) .none kV16 dc16 pm16 an16 cd16 ct16), sl16⟩)
    (c16 : PySem.W.codeIn K cd16 "_law_pair" = true)
    (k16 : PySem.W.keepIn K (.ref f16) = true)
    (a17 : PySem.W.nsIn K mainGlobals "_law_weight" = some (some (.ref f17)))
    (l17 : K.lookup f17 = some ⟨oc17, od17, .func (PySem.W.fnOf "_law_weight" "_law_weight" (defArgs s_law_weight) (defBody s_law_weight) (defScope s_law_weight) .none kV17 dc17 pm17 an17 cd17 ct17), sl17⟩)
    (c17 : PySem.W.codeIn K cd17 "_law_weight" = true)
    (k17 : PySem.W.keepIn K (.ref f17) = true)
    (a18 : PySem.W.nsIn K mainGlobals "_law_part" = some (some (.ref f18)))
    (l18 : K.lookup f18 = some ⟨oc18, od18, .func (PySem.W.fnOf "_law_part" "_law_part" (defArgs s_law_part) (defBody s_law_part) (defScope s_law_part) .none kV18 dc18 pm18 an18 cd18 ct18), sl18⟩)
    (c18 : PySem.W.codeIn K cd18 "_law_part" = true)
    (k18 : PySem.W.keepIn K (.ref f18) = true)
    (a19 : PySem.W.nsIn K mainGlobals "_law_step_drawn" = some (some (.ref f19)))
    (l19 : K.lookup f19 = some ⟨oc19, od19, .func (PySem.W.fnOf "_law_step_drawn" "_law_step_drawn" (defArgs s_law_step_drawn) (defBody s_law_step_drawn) (defScope s_law_step_drawn) .none kV19 dc19 pm19 an19 cd19 ct19), sl19⟩)
    (c19 : PySem.W.codeIn K cd19 "_law_step_drawn" = true)
    (k19 : PySem.W.keepIn K (.ref f19) = true)
    (a20 : PySem.W.nsIn K mainGlobals "_law_read" = some (some (.ref f20)))
    (l20 : K.lookup f20 = some ⟨oc20, od20, .func (PySem.W.fnOf "_law_read" "_law_read" (defArgs s_law_read) (defBody s_law_read) (defScope s_law_read) .none kV20 dc20 pm20 an20 cd20 ct20), sl20⟩)
    (c20 : PySem.W.codeIn K cd20 "_law_read" = true)
    (k20 : PySem.W.keepIn K (.ref f20) = true)
    (a21 : PySem.W.nsIn K mainGlobals "_law_index" = some (some (.ref f21)))
    (l21 : K.lookup f21 = some ⟨oc21, od21, .func (PySem.W.fnOf "_law_index" "_law_index" (defArgs s_law_index) (defBody s_law_index) (defScope s_law_index) .none kV21 dc21 pm21 an21 cd21 ct21), sl21⟩)
    (c21 : PySem.W.codeIn K cd21 "_law_index" = true)
    (k21 : PySem.W.keepIn K (.ref f21) = true)
    (a22 : PySem.W.nsIn K mainGlobals "_law_due" = some (some (.ref f22)))
    (l22 : K.lookup f22 = some ⟨oc22, od22, .func (PySem.W.fnOf "_law_due" "_law_due" (defArgs s_law_due) (defBody s_law_due) (defScope s_law_due) .none kV22 dc22 pm22 an22 cd22 ct22), sl22⟩)
    (c22 : PySem.W.codeIn K cd22 "_law_due" = true)
    (k22 : PySem.W.keepIn K (.ref f22) = true)
    (a23 : PySem.W.nsIn K mainGlobals "_law_bent" = some (some (.ref f23)))
    (l23 : K.lookup f23 = some ⟨oc23, od23, .func (PySem.W.fnOf "_law_bent" "_law_bent" (defArgs s_law_bent) (defBody s_law_bent) (defScope s_law_bent) .none kV23 dc23 pm23 an23 cd23 ct23), sl23⟩)
    (c23 : PySem.W.codeIn K cd23 "_law_bent" = true)
    (k23 : PySem.W.keepIn K (.ref f23) = true)
    (a24 : PySem.W.nsIn K mainGlobals "law" = some (some (.ref f24)))
    (l24 : K.lookup f24 = some ⟨oc24, od24, .func (PySem.W.fnOf "law" "law" (defArgs s_law) (defBody s_law) (defScope s_law) .none kV24 dc24 pm24 an24 cd24 ct24), sl24⟩)
    (c24 : PySem.W.codeIn K cd24 "law" = true)
    (k24 : PySem.W.keepIn K (.ref f24) = true)
    (z_abs : PySem.W.nsIn K mainGlobals "abs" = some none)
    (z_all : PySem.W.nsIn K mainGlobals "all" = some none)
    (z_enumerate : PySem.W.nsIn K mainGlobals "enumerate" = some none)
    (z_int : PySem.W.nsIn K mainGlobals "int" = some none)
    (z_isinstance : PySem.W.nsIn K mainGlobals "isinstance" = some none)
    (z_len : PySem.W.nsIn K mainGlobals "len" = some none)
    (z_list : PySem.W.nsIn K mainGlobals "list" = some none)
    (z_min : PySem.W.nsIn K mainGlobals "min" = some none)
    (z_range : PySem.W.nsIn K mainGlobals "range" = some none)
    (z_repr : PySem.W.nsIn K mainGlobals "repr" = some none)
    (z_str : PySem.W.nsIn K mainGlobals "str" = some none)
    (z_tuple : PySem.W.nsIn K mainGlobals "tuple" = some none)
    (z_zip : PySem.W.nsIn K mainGlobals "zip" = some none)
    (yaBadRow : PySem.W.nsIn K mainGlobals "BadRow" = some (some (.ref CBadRow)))
    (ycBadRow : K.lookup CBadRow = some (excClassObj nmBadRow qBadRow CBadRow NBadRow bsBadRow [.type "ValueError", .type "Exception", .type "BaseException", .type "object"] true snBadRow subBadRow abBadRow colBadRow ddBadRow k0BadRow k1BadRow k2BadRow k3BadRow k5BadRow "ValueError.__new__"))
    (ysBadRow : PySem.W.findIn K (.ref CBadRow) "__setattr__" = some (some (.builtin "object.__setattr__")))
    (ygBadRow : PySem.W.findIn K (.ref CBadRow) "__getattribute__" = some (some (.builtin "BaseException.__getattribute__")))
    (yhBadRow : PySem.W.findIn K (.ref CBadRow) "__getattr__" = some none)
    (yn0BadRow : PySem.W.findIn K (.ref CBadRow) "row" = some none)
    (yn1BadRow : PySem.W.findIn K (.ref CBadRow) "word" = some none)
    (yiBadRow : PySem.W.findIn K (.ref CBadRow) "__init__" = some (some (.ref fIBadRow)))
    (ytBadRow : PySem.W.typeIn K (.ref fIBadRow) = some (.type "function"))
    (yoBadRow : PySem.W.nsIn K cStatics "thirdparty.any" = some none)
    (yvBadRow : PySem.W.subIn K (.ref CBadRow) (.type "ValueError") = some true)
    (ymBadRow : PySem.W.mroIn K CBadRow (.ref CBadRow) = some true)
    (yfBadRow : K.lookup fIBadRow = some ⟨ocBadRow, odBadRow, .func (fnX "__init__" "BadRow.__init__" (defArgs sx_BadRow) (defBody sx_BadRow) (defScope sx_BadRow) [("__class__", ccBadRow)] .none .none docBadRow pmBadRow anBadRow (.ref cdaBadRow) ctBadRow), oslBadRow⟩)
    (ydBadRow : PySem.W.codeIn K (.ref cdaBadRow) "BadRow.__init__" = true)
    (yeBadRow : K.lookup cdaBadRow = some ⟨cclBadRow, cddBadRow, .fields vsBadRow, ccsBadRow⟩)
    (ypBadRow : vsBadRow[2]? = some (.str fnBadRow tfBadRow))
    (yqBadRow : ((PySem.Challenge.pw_legpairs_k11_wrong_texts_of_steps.main.file : Str) == fnBadRow) = true)
    (ylBadRow : K.lookup ccBadRow = some ⟨clBadRow, cldBadRow, .cell (some (.ref CBadRow)), cslBadRow⟩)
    (ykBadRow : PySem.W.keepIn K (.ref CBadRow) = true)
    (ybBadRow : PySem.W.subIn K (.ref CBadRow) (.type "BaseException") = some true)
    (yyBadRow : PySem.W.typeIn K (.ref CBadRow) = some (.type "type"))
    (yjBadRow : PySem.W.isClsIn K CBadRow = true)
    (yxBadRow : PySem.W.subIn K (.ref CBadRow) (.ref CBadRow) = some true)
    (yrBadRow : PySem.W.hasDictIn K CBadRow = true)
    (yzBadRow : PySem.W.alongIn K "__init__" [.type "ValueError", .type "Exception", .type "BaseException", .type "object"] = some (some (.builtin "ValueError.__init__")))
    (yuBadRow : PySem.W.nsIn K mainGlobals "super" = some none)
    (kaEDITS : PySem.W.nsIn K mainGlobals "EDITS" = some (some (.ref KTEDITS)))
    (klEDITS : K.lookup KTEDITS = some ⟨.type "dict", none, .dict [⟨PyData.keyHash w.params "weight", .str "weight" ktEDITS_0, .str "nw" kuEDITS_0⟩, ⟨PyData.keyHash w.params "edge", .str "edge" ktEDITS_1, .str "ccw" kuEDITS_1⟩, ⟨PyData.keyHash w.params "without", .str "without" ktEDITS_2, .str "n" kuEDITS_2⟩, ⟨PyData.keyHash w.params "leg", .str "leg" ktEDITS_3, .str "c" kuEDITS_3⟩, ⟨PyData.keyHash w.params "unleg", .str "unleg" ktEDITS_4, .str "n" kuEDITS_4⟩].toArray knEDITS, #[]⟩)
    (koEDITS : (KTEDITS == sysModules) = false)
    (kaFORMS : PySem.W.nsIn K mainGlobals "FORMS" = some (some (.ref KTFORMS)))
    (klFORMS : K.lookup KTFORMS = some ⟨.type "dict", none, .dict [⟨PyData.keyHash w.params "scale", .str "scale" ktFORMS_0, .str "nw" kuFORMS_0⟩, ⟨PyData.keyHash w.params "sum", .str "sum" ktFORMS_1, .str "nn" kuFORMS_1⟩, ⟨PyData.keyHash w.params "drop", .str "drop" ktFORMS_2, .str "n" kuFORMS_2⟩, ⟨PyData.keyHash w.params "contract", .str "contract" ktFORMS_3, .str "n" kuFORMS_3⟩, ⟨PyData.keyHash w.params "split", .str "split" ktFORMS_4, .str "nnn" kuFORMS_4⟩, ⟨PyData.keyHash w.params "square", .str "square" ktFORMS_5, .str "n" kuFORMS_5⟩].toArray knFORMS, #[]⟩)
    (koFORMS : (KTFORMS == sysModules) = false)
    (kaMOST_DIGITS : PySem.W.nsIn K mainGlobals "MOST_DIGITS" = some (some (.int 1000 ktMOST_DIGITS)))
    (kaMOST_SIGNS : PySem.W.nsIn K mainGlobals "MOST_SIGNS" = some (some (.int 3 ktMOST_SIGNS)))
    : ∃ fd : FuncData, (∀ (t : Shared) (u : Value), BindsTo t fd ⟨[u], []⟩ [("script", u)]) ∧ ∀ base : Heap, K.In base → base.Ns mainGlobals mg → base.NoDigits → FnG PySem.Challenge.pw_legpairs_k11_wrong_texts_of_steps w K mg base 8 fa fd ["script"] (spM K mg 1 g_law) := by
  have e := hfa.symm.trans (PySem.W.mg_of X G a24)
  cases e
  have F0 : FunD K "_law_begun" "_law_begun" (defArgs sBegun) (defBody sBegun) (defScope sBegun) [] [] f0 _ := ⟨⟨_, _, _, _, _, _, _, _, _, _, rfl, l0, c0, .inl ⟨rfl, rfl⟩, .inl rfl⟩, k0⟩
  have D0 : Df K mg "_law_begun" sBegun [] := ⟨_, _, F0, PySem.W.mg_of X G a0⟩
  have F1 : FunD K "form_of" "form_of" (defArgs s_form_of) (defBody s_form_of) (defScope s_form_of) [] [] f1 _ := ⟨⟨_, _, _, _, _, _, _, _, _, _, rfl, l1, c1, .inl ⟨rfl, rfl⟩, .inl rfl⟩, k1⟩
  have D1 : Df K mg "form_of" s_form_of [] := ⟨_, _, F1, PySem.W.mg_of X G a1⟩
  have F2 : FunD K "ra_digits" "ra_digits" (defArgs s_ra_digits) (defBody s_ra_digits) (defScope s_ra_digits) [] [] f2 _ := ⟨⟨_, _, _, _, _, _, _, _, _, _, rfl, l2, c2, .inl ⟨rfl, rfl⟩, .inl rfl⟩, k2⟩
  have D2 : Df K mg "ra_digits" s_ra_digits [] := ⟨_, _, F2, PySem.W.mg_of X G a2⟩
  have F3 : FunD K "ra_divisor" "ra_divisor" (defArgs s_ra_divisor) (defBody s_ra_divisor) (defScope s_ra_divisor) [] [] f3 _ := ⟨⟨_, _, _, _, _, _, _, _, _, _, rfl, l3, c3, .inl ⟨rfl, rfl⟩, .inl rfl⟩, k3⟩
  have D3 : Df K mg "ra_divisor" s_ra_divisor [] := ⟨_, _, F3, PySem.W.mg_of X G a3⟩
  have F4 : FunD K "ra_read" "ra_read" (defArgs s_ra_read) (defBody s_ra_read) (defScope s_ra_read) [] [] f4 _ := ⟨⟨_, _, _, _, _, _, _, _, _, _, rfl, l4, c4, .inl ⟨rfl, rfl⟩, .inl rfl⟩, k4⟩
  have D4 : Df K mg "ra_read" s_ra_read [] := ⟨_, _, F4, PySem.W.mg_of X G a4⟩
  have F5 : FunD K "tx_number" "tx_number" (defArgs s_tx_number) (defBody s_tx_number) (defScope s_tx_number) [] [] f5 _ := ⟨⟨_, _, _, _, _, _, _, _, _, _, rfl, l5, c5, .inl ⟨rfl, rfl⟩, .inl rfl⟩, k5⟩
  have D5 : Df K mg "tx_number" s_tx_number [] := ⟨_, _, F5, PySem.W.mg_of X G a5⟩
  have F6 : FunD K "tx_thing" "tx_thing" (defArgs s_tx_thing) (defBody s_tx_thing) (defScope s_tx_thing) [] [] f6 _ := ⟨⟨_, _, _, _, _, _, _, _, _, _, rfl, l6, c6, .inl ⟨rfl, rfl⟩, .inl rfl⟩, k6⟩
  have D6 : Df K mg "tx_thing" s_tx_thing [] := ⟨_, _, F6, PySem.W.mg_of X G a6⟩
  have F7 : FunD K "tx_things" "tx_things" (defArgs s_tx_things) (defBody s_tx_things) (defScope s_tx_things) [] [] f7 _ := ⟨⟨_, _, _, _, _, _, _, _, _, _, rfl, l7, c7, .inl ⟨rfl, rfl⟩, .inl rfl⟩, k7⟩
  have D7 : Df K mg "tx_things" s_tx_things [] := ⟨_, _, F7, PySem.W.mg_of X G a7⟩
  have F8 : FunD K "tx_grouped" "tx_grouped" (defArgs s_tx_grouped) (defBody s_tx_grouped) (defScope s_tx_grouped) [] [] f8 _ := ⟨⟨_, _, _, _, _, _, _, _, _, _, rfl, l8, c8, .inl ⟨rfl, rfl⟩, .inl rfl⟩, k8⟩
  have D8 : Df K mg "tx_grouped" s_tx_grouped [] := ⟨_, _, F8, PySem.W.mg_of X G a8⟩
  have F9 : FunD K "read_step" "read_step" (defArgs s_read_step) (defBody s_read_step) (defScope s_read_step) [] [] f9 _ := ⟨⟨_, _, _, _, _, _, _, _, _, _, rfl, l9, c9, .inl ⟨rfl, rfl⟩, .inl rfl⟩, k9⟩
  have D9 : Df K mg "read_step" s_read_step [] := ⟨_, _, F9, PySem.W.mg_of X G a9⟩
  have F10 : FunD K "_law_outcome" "_law_outcome" (defArgs s_law_outcome) (defBody s_law_outcome) (defScope s_law_outcome) [] [] f10 _ := ⟨⟨_, _, _, _, _, _, _, _, _, _, rfl, l10, c10, .inl ⟨rfl, rfl⟩, .inl rfl⟩, k10⟩
  have D10 : Df K mg "_law_outcome" s_law_outcome [] := ⟨_, _, F10, PySem.W.mg_of X G a10⟩
  have F11 : FunD K "_law_forms" "_law_forms" (defArgs s_law_forms) (defBody s_law_forms) (defScope s_law_forms) [] [] f11 _ := ⟨⟨_, _, _, _, _, _, _, _, _, _, rfl, l11, c11, .inl ⟨rfl, rfl⟩, .inl rfl⟩, k11⟩
  have D11 : Df K mg "_law_forms" s_law_forms [] := ⟨_, _, F11, PySem.W.mg_of X G a11⟩
  have F12 : FunD K "_law_word" "_law_word" (defArgs s_law_word) (defBody s_law_word) (defScope s_law_word) [] [] f12 _ := ⟨⟨_, _, _, _, _, _, _, _, _, _, rfl, l12, c12, .inl ⟨rfl, rfl⟩, .inl rfl⟩, k12⟩
  have D12 : Df K mg "_law_word" s_law_word [] := ⟨_, _, F12, PySem.W.mg_of X G a12⟩
  have F13 : FunD K "_law_step_text" "_law_step_text" (defArgs s_law_step_text) (defBody s_law_step_text) (defScope s_law_step_text) [] [] f13 _ := ⟨⟨_, _, _, _, _, _, _, _, _, _, rfl, l13, c13, .inl ⟨rfl, rfl⟩, .inl rfl⟩, k13⟩
  have D13 : Df K mg "_law_step_text" s_law_step_text [] := ⟨_, _, F13, PySem.W.mg_of X G a13⟩
  have F14 : FunD K "_law_next" "_law_next" (defArgs sNext) (defBody sNext) (defScope sNext) [] [] f14 _ := ⟨⟨_, _, _, _, _, _, _, _, _, _, rfl, l14, c14, .inl ⟨rfl, rfl⟩, .inl rfl⟩, k14⟩
  have D14 : Df K mg "_law_next" sNext [] := ⟨_, _, F14, PySem.W.mg_of X G a14⟩
  have F15 : FunD K "_law_divisor" "_law_divisor" (defArgs s_law_divisor) (defBody s_law_divisor) (defScope s_law_divisor) [] [] f15 _ := ⟨⟨_, _, _, _, _, _, _, _, _, _, rfl, l15, c15, .inl ⟨rfl, rfl⟩, .inl rfl⟩, k15⟩
  have D15 : Df K mg "_law_divisor" s_law_divisor [] := ⟨_, _, F15, PySem.W.mg_of X G a15⟩
  have F16 : FunD K "_law_pair" "_law_pair" (defArgs s_law_pair) (defBody s_law_pair) (defScope s_law_pair) [] [] f16 _ := ⟨⟨_, _, _, _, _, _, _, _, _, _, rfl, l16, c16, .inl ⟨rfl, rfl⟩, .inl rfl⟩, k16⟩
  have D16 : Df K mg "_law_pair" s_law_pair [] := ⟨_, _, F16, PySem.W.mg_of X G a16⟩
  have F17 : FunD K "_law_weight" "_law_weight" (defArgs s_law_weight) (defBody s_law_weight) (defScope s_law_weight) [] [] f17 _ := ⟨⟨_, _, _, _, _, _, _, _, _, _, rfl, l17, c17, .inl ⟨rfl, rfl⟩, .inl rfl⟩, k17⟩
  have D17 : Df K mg "_law_weight" s_law_weight [] := ⟨_, _, F17, PySem.W.mg_of X G a17⟩
  have F18 : FunD K "_law_part" "_law_part" (defArgs s_law_part) (defBody s_law_part) (defScope s_law_part) [] [] f18 _ := ⟨⟨_, _, _, _, _, _, _, _, _, _, rfl, l18, c18, .inl ⟨rfl, rfl⟩, .inl rfl⟩, k18⟩
  have D18 : Df K mg "_law_part" s_law_part [] := ⟨_, _, F18, PySem.W.mg_of X G a18⟩
  have F19 : FunD K "_law_step_drawn" "_law_step_drawn" (defArgs s_law_step_drawn) (defBody s_law_step_drawn) (defScope s_law_step_drawn) [] [] f19 _ := ⟨⟨_, _, _, _, _, _, _, _, _, _, rfl, l19, c19, .inl ⟨rfl, rfl⟩, .inl rfl⟩, k19⟩
  have D19 : Df K mg "_law_step_drawn" s_law_step_drawn [] := ⟨_, _, F19, PySem.W.mg_of X G a19⟩
  have F20 : FunD K "_law_read" "_law_read" (defArgs s_law_read) (defBody s_law_read) (defScope s_law_read) [] [] f20 _ := ⟨⟨_, _, _, _, _, _, _, _, _, _, rfl, l20, c20, .inl ⟨rfl, rfl⟩, .inl rfl⟩, k20⟩
  have D20 : Df K mg "_law_read" s_law_read [] := ⟨_, _, F20, PySem.W.mg_of X G a20⟩
  have F21 : FunD K "_law_index" "_law_index" (defArgs s_law_index) (defBody s_law_index) (defScope s_law_index) [] [] f21 _ := ⟨⟨_, _, _, _, _, _, _, _, _, _, rfl, l21, c21, .inl ⟨rfl, rfl⟩, .inl rfl⟩, k21⟩
  have D21 : Df K mg "_law_index" s_law_index [] := ⟨_, _, F21, PySem.W.mg_of X G a21⟩
  have F22 : FunD K "_law_due" "_law_due" (defArgs s_law_due) (defBody s_law_due) (defScope s_law_due) [] [] f22 _ := ⟨⟨_, _, _, _, _, _, _, _, _, _, rfl, l22, c22, .inl ⟨rfl, rfl⟩, .inl rfl⟩, k22⟩
  have D22 : Df K mg "_law_due" s_law_due [] := ⟨_, _, F22, PySem.W.mg_of X G a22⟩
  have F23 : FunD K "_law_bent" "_law_bent" (defArgs s_law_bent) (defBody s_law_bent) (defScope s_law_bent) [] [] f23 _ := ⟨⟨_, _, _, _, _, _, _, _, _, _, rfl, l23, c23, .inl ⟨rfl, rfl⟩, .inl rfl⟩, k23⟩
  have D23 : Df K mg "_law_bent" s_law_bent [] := ⟨_, _, F23, PySem.W.mg_of X G a23⟩
  have F24 : FunD K "law" "law" (defArgs s_law) (defBody s_law) (defScope s_law) [] [] fa _ := ⟨⟨_, _, _, _, _, _, _, _, _, _, rfl, l24, c24, .inl ⟨rfl, rfl⟩, .inl rfl⟩, k24⟩
  have D24 : Df K mg "law" s_law [] := ⟨_, _, F24, PySem.W.mg_of X G a24⟩
  have z_abs := PySem.W.mg_none_of X G z_abs
  have z_all := PySem.W.mg_none_of X G z_all
  have z_enumerate := PySem.W.mg_none_of X G z_enumerate
  have z_int := PySem.W.mg_none_of X G z_int
  have z_isinstance := PySem.W.mg_none_of X G z_isinstance
  have z_len := PySem.W.mg_none_of X G z_len
  have z_list := PySem.W.mg_none_of X G z_list
  have z_min := PySem.W.mg_none_of X G z_min
  have z_range := PySem.W.mg_none_of X G z_range
  have z_repr := PySem.W.mg_none_of X G z_repr
  have z_str := PySem.W.mg_none_of X G z_str
  have z_tuple := PySem.W.mg_none_of X G z_tuple
  have z_zip := PySem.W.mg_none_of X G z_zip
  have x_BadRow : Xf PySem.Challenge.pw_legpairs_k11_wrong_texts_of_steps K mg "BadRow" ["row", "word"] := ⟨⟨CBadRow, fIBadRow, "this text cannot be read", PySem.W.mg_of X G yaBadRow,
    ⟨⟨_, _, _, _, _, _, _, _, _, _, _, _, _, _, _, ycBadRow, by decide, yzBadRow⟩, ysBadRow, (fun f hf => by simp only [List.mem_cons, List.not_mem_nil, or_false] at hf; rcases hf with rfl | rfl <;> first | exact yn0BadRow | exact yn1BadRow), yiBadRow, ytBadRow, yoBadRow, yvBadRow, ymBadRow,
      ⟨_, _, _, _, _, _, _, _, _, _, _, _, _, _, _, _, _, _, _, _, _, _, _, yfBadRow, ydBadRow, yeBadRow, ypBadRow, yqBadRow, ylBadRow, rfl, rfl, rfl, rfl, rfl, cell_sx_BadRow, rfl, rfl, nm_sx_BadRow, ba_sx_BadRow _ _ _ _ _ _ _, ev_sx_BadRow _ _ _ _⟩, rfl⟩,
    ykBadRow, ybBadRow, yyBadRow, exm_own ybBadRow yjBadRow yyBadRow yxBadRow, ⟨ygBadRow, yhBadRow, ybBadRow, yrBadRow⟩⟩, by decide, by decide, by decide, by decide, PySem.W.mg_none_of X G yuBadRow⟩
  have k_EDITS : Kd K w mg "EDITS" d_EDITS := .of (PySem.W.mg_of X G kaEDITS) klEDITS koEDITS (.cons (.cons (.cons (.cons (.cons .nil)))))
  have k_FORMS : Kd K w mg "FORMS" d_FORMS := .of (PySem.W.mg_of X G kaFORMS) klFORMS koFORMS (.cons (.cons (.cons (.cons (.cons (.cons .nil))))))
  have k_MOST_DIGITS : Kc K mg "MOST_DIGITS" (.int 1000) := .int (PySem.W.mg_of X G kaMOST_DIGITS)
  have k_MOST_SIGNS : Kc K mg "MOST_SIGNS" (.int 3) := .int (PySem.W.mg_of X G kaMOST_SIGNS)
  refine ⟨_, F24.bindsA1, fun base KB GB nd => ?_⟩
  have c_law_begun := gL_begun (P := PySem.Challenge.pw_legpairs_k11_wrong_texts_of_steps) (w := w) (base := base) D0 z_list
  have c_form_of := ok_form_of (P := PySem.Challenge.pw_legpairs_k11_wrong_texts_of_steps) (w := w) (base := base) D1 k_EDITS k_FORMS
  have c_ra_digits := ok_ra_digits (P := PySem.Challenge.pw_legpairs_k11_wrong_texts_of_steps) (w := w) (base := base) D2 z_all z_int z_len k_MOST_DIGITS nd
  have c_ra_divisor := ok_ra_divisor (P := PySem.Challenge.pw_legpairs_k11_wrong_texts_of_steps) (w := w) (base := base) D3 z_abs
  have c_ra_read := ok_ra_read (P := PySem.Challenge.pw_legpairs_k11_wrong_texts_of_steps) (w := w) (base := base) D4 c_ra_digits c_ra_divisor z_len
  have c_tx_number := ok_tx_number (P := PySem.Challenge.pw_legpairs_k11_wrong_texts_of_steps) (w := w) (base := base) D5 c_ra_digits z_len k_MOST_SIGNS
  have c_tx_thing := ok_tx_thing (P := PySem.Challenge.pw_legpairs_k11_wrong_texts_of_steps) (w := w) (base := base) D6 c_ra_read c_tx_number
  have c_tx_things := ok_tx_things (P := PySem.Challenge.pw_legpairs_k11_wrong_texts_of_steps) (w := w) (base := base) D7 c_tx_thing z_enumerate z_len
  have c_tx_grouped := ok_tx_grouped (P := PySem.Challenge.pw_legpairs_k11_wrong_texts_of_steps) (w := w) (base := base) D8 z_tuple
  have c_read_step := ok_read_step (P := PySem.Challenge.pw_legpairs_k11_wrong_texts_of_steps) (w := w) (base := base) D9 c_form_of c_tx_things c_tx_grouped z_isinstance z_list z_str x_BadRow
  have c_law_outcome := ok_law_outcome (P := PySem.Challenge.pw_legpairs_k11_wrong_texts_of_steps) (w := w) (base := base) D10 c_read_step x_BadRow
  have c_law_forms := ok_law_forms (P := PySem.Challenge.pw_legpairs_k11_wrong_texts_of_steps) (w := w) (base := base) D11 
  have c_law_word := ok_law_word (P := PySem.Challenge.pw_legpairs_k11_wrong_texts_of_steps) (w := w) (base := base) D12 z_str
  have c_law_step_text := ok_law_step_text (P := PySem.Challenge.pw_legpairs_k11_wrong_texts_of_steps) (w := w) (base := base) D13 c_law_forms c_law_word z_str z_zip
  have c_law_next := gL_next (P := PySem.Challenge.pw_legpairs_k11_wrong_texts_of_steps) (w := w) (base := base) D14 z_int z_len
  have c_law_divisor := ok_law_divisor (P := PySem.Challenge.pw_legpairs_k11_wrong_texts_of_steps) (w := w) (base := base) D15 z_abs z_int
  have c_law_pair := ok_law_pair (P := PySem.Challenge.pw_legpairs_k11_wrong_texts_of_steps) (w := w) (base := base) D16 c_law_divisor
  have c_law_weight := ok_law_weight (P := PySem.Challenge.pw_legpairs_k11_wrong_texts_of_steps) (w := w) (base := base) D17 c_law_next c_law_pair
  have c_law_part := ok_law_part (P := PySem.Challenge.pw_legpairs_k11_wrong_texts_of_steps) (w := w) (base := base) D18 c_law_weight c_law_next
  have c_law_step_drawn := ok_law_step_drawn (P := PySem.Challenge.pw_legpairs_k11_wrong_texts_of_steps) (w := w) (base := base) D19 c_law_next c_law_forms c_law_part z_tuple
  have c_law_read := ok_law_read (P := PySem.Challenge.pw_legpairs_k11_wrong_texts_of_steps) (w := w) (base := base) D20 c_law_divisor z_int z_len nd
  have c_law_index := ok_law_index (P := PySem.Challenge.pw_legpairs_k11_wrong_texts_of_steps) (w := w) (base := base) D21 z_int z_len nd
  have c_law_due := ok_law_due (P := PySem.Challenge.pw_legpairs_k11_wrong_texts_of_steps) (w := w) (base := base) D22 c_law_forms c_law_read c_law_index z_len z_range z_tuple
  have c_law_bent := ok_law_bent (P := PySem.Challenge.pw_legpairs_k11_wrong_texts_of_steps) (w := w) (base := base) D23 c_law_next z_len
  exact okF_law (P := PySem.Challenge.pw_legpairs_k11_wrong_texts_of_steps) (w := w) (base := base) F24 c_law_begun c_law_outcome c_law_step_text c_law_step_drawn c_law_due c_law_bent z_len z_min z_range z_repr nd

end Law

open PySem PySem.W PyProof.Rows in
set_option maxRecDepth 100000 in
set_option maxHeartbeats 0 in
theorem PySem.Challenge.cw_legpairs_k11_wrong_texts_of_steps_holds : PySem.Challenge.rw_legpairs_k11_wrong_texts_of_steps.Holds := by
  w_on; o_law; k_head; (case hw => w_witness2)
  k_fill
  refine G.walkG (l := PySem.Challenge.rw_legpairs_k11_wrong_texts_of_steps) (g := Law.g_law) (k := 8) (x := "script") rfl (by decide) rfl ⟨rfl, by decide, by decide⟩ rfl (fun w h Y => PySem.W.kIn_of Y) ?F Law.always
  case F =>
    intro w mg fa h KX G hmg
    refine' Law.all_mk KX G hmg ?a0 ?l0 ?c0 ?k0 ?a1 ?l1 ?c1 ?k1 ?a2 ?l2 ?c2 ?k2 ?a3 ?l3 ?c3 ?k3 ?a4 ?l4 ?c4 ?k4 ?a5 ?l5 ?c5 ?k5 ?a6 ?l6 ?c6 ?k6 ?a7 ?l7 ?c7 ?k7 ?a8 ?l8 ?c8 ?k8 ?a9 ?l9 ?c9 ?k9 ?a10 ?l10 ?c10 ?k10 ?a11 ?l11 ?c11 ?k11 ?a12 ?l12 ?c12 ?k12 ?a13 ?l13 ?c13 ?k13 ?a14 ?l14 ?c14 ?k14 ?a15 ?l15 ?c15 ?k15 ?a16 ?l16 ?c16 ?k16 ?a17 ?l17 ?c17 ?k17 ?a18 ?l18 ?c18 ?k18 ?a19 ?l19 ?c19 ?k19 ?a20 ?l20 ?c20 ?k20 ?a21 ?l21 ?c21 ?k21 ?a22 ?l22 ?c22 ?k22 ?a23 ?l23 ?c23 ?k23 ?a24 ?l24 ?c24 ?k24 ?z_abs ?z_all ?z_enumerate ?z_int ?z_isinstance ?z_len ?z_list ?z_min ?z_range ?z_repr ?z_str ?z_tuple ?z_zip ?yaBadRow ?ycBadRow ?ysBadRow ?ygBadRow ?yhBadRow ?yn0BadRow ?yn1BadRow ?yiBadRow ?ytBadRow ?yoBadRow ?yvBadRow ?ymBadRow ?yfBadRow ?ydBadRow ?yeBadRow ?ypBadRow ?yqBadRow ?ylBadRow ?ykBadRow ?ybBadRow ?yyBadRow ?yjBadRow ?yxBadRow ?yrBadRow ?yzBadRow ?yuBadRow ?kaEDITS ?klEDITS ?koEDITS ?kaFORMS ?klFORMS ?koFORMS ?kaMOST_DIGITS ?kaMOST_SIGNS
    (case a0 => k_is)
    (case l0 => k_is)
    (case c0 => k_is)
    (case k0 => k_is)
    (case a1 => k_is)
    (case l1 => k_is)
    (case c1 => k_is)
    (case k1 => k_is)
    (case a2 => k_is)
    (case l2 => k_is)
    (case c2 => k_is)
    (case k2 => k_is)
    (case a3 => k_is)
    (case l3 => k_is)
    (case c3 => k_is)
    (case k3 => k_is)
    (case a4 => k_is)
    (case l4 => k_is)
    (case c4 => k_is)
    (case k4 => k_is)
    (case a5 => k_is)
    (case l5 => k_is)
    (case c5 => k_is)
    (case k5 => k_is)
    (case a6 => k_is)
    (case l6 => k_is)
    (case c6 => k_is)
    (case k6 => k_is)
    (case a7 => k_is)
    (case l7 => k_is)
    (case c7 => k_is)
    (case k7 => k_is)
    (case a8 => k_is)
    (case l8 => k_is)
    (case c8 => k_is)
    (case k8 => k_is)
    (case a9 => k_is)
    (case l9 => k_is)
    (case c9 => k_is)
    (case k9 => k_is)
    (case a10 => k_is)
    (case l10 => k_is)
    (case c10 => k_is)
    (case k10 => k_is)
    (case a11 => k_is)
    (case l11 => k_is)
    (case c11 => k_is)
    (case k11 => k_is)
    (case a12 => k_is)
    (case l12 => k_is)
    (case c12 => k_is)
    (case k12 => k_is)
    (case a13 => k_is)
    (case l13 => k_is)
    (case c13 => k_is)
    (case k13 => k_is)
    (case a14 => k_is)
    (case l14 => k_is)
    (case c14 => k_is)
    (case k14 => k_is)
    (case a15 => k_is)
    (case l15 => k_is)
    (case c15 => k_is)
    (case k15 => k_is)
    (case a16 => k_is)
    (case l16 => k_is)
    (case c16 => k_is)
    (case k16 => k_is)
    (case a17 => k_is)
    (case l17 => k_is)
    (case c17 => k_is)
    (case k17 => k_is)
    (case a18 => k_is)
    (case l18 => k_is)
    (case c18 => k_is)
    (case k18 => k_is)
    (case a19 => k_is)
    (case l19 => k_is)
    (case c19 => k_is)
    (case k19 => k_is)
    (case a20 => k_is)
    (case l20 => k_is)
    (case c20 => k_is)
    (case k20 => k_is)
    (case a21 => k_is)
    (case l21 => k_is)
    (case c21 => k_is)
    (case k21 => k_is)
    (case a22 => k_is)
    (case l22 => k_is)
    (case c22 => k_is)
    (case k22 => k_is)
    (case a23 => k_is)
    (case l23 => k_is)
    (case c23 => k_is)
    (case k23 => k_is)
    (case a24 => k_is)
    (case l24 => k_is)
    (case c24 => k_is)
    (case k24 => k_is)
    (case z_abs => k_is)
    (case z_all => k_is)
    (case z_enumerate => k_is)
    (case z_int => k_is)
    (case z_isinstance => k_is)
    (case z_len => k_is)
    (case z_list => k_is)
    (case z_min => k_is)
    (case z_range => k_is)
    (case z_repr => k_is)
    (case z_str => k_is)
    (case z_tuple => k_is)
    (case z_zip => k_is)
    (case yaBadRow => k_is)
    (case ycBadRow => k_is)
    (case ysBadRow => k_is)
    (case ygBadRow => k_is)
    (case yhBadRow => k_is)
    (case yn0BadRow => k_is)
    (case yn1BadRow => k_is)
    (case yiBadRow => k_is)
    (case ytBadRow => k_is)
    (case yoBadRow => k_is)
    (case yvBadRow => k_is)
    (case ymBadRow => k_is)
    (case yfBadRow => k_is)
    (case ydBadRow => k_is)
    (case yeBadRow => k_is)
    (case ypBadRow => first | rfl | k_is)
    (case yqBadRow => first | rfl | k_is)
    (case ylBadRow => k_is)
    (case ykBadRow => k_is)
    (case ybBadRow => k_is)
    (case yyBadRow => k_is)
    (case yjBadRow => k_is)
    (case yxBadRow => first | rfl | k_is)
    (case yrBadRow => k_is)
    (case yzBadRow => first | rfl | k_is)
    (case yuBadRow => k_is)
    (case kaEDITS => k_is)
    (case klEDITS => k_is)
    (case koEDITS => first | rfl | decide)
    (case kaFORMS => k_is)
    (case klFORMS => k_is)
    (case koFORMS => first | rfl | decide)
    (case kaMOST_DIGITS => k_is)
    (case kaMOST_SIGNS => k_is)

#print axioms PySem.Challenge.cw_legpairs_k11_wrong_texts_of_steps_holds

