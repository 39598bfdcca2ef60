import PyProof.Rows.All
import Wide.All
import OpenK.AllK
import Wide.FinOn
import HandS.ForMost
import HandS.TupAny
import HandS.Flow
import KE.KDictKeyed
import KE.SortData
import KE.DataCmp
import HandS.Wide
import HandS.IsInst
import HandS.TupLe
import HandS.Deep
import HandS.TupMul
import KE.DataEq
import KE.DataFind
import KE.Datum
import KE.KRevSl
import PyProof.Rows.ListMulArg
import HandS.More
import HandS.Defaults
import HandS.Words
import HandS.Conv
import PyProof.TupleOfSeq
import HandS.RepeatKit
import HandS.Head0
import HandS.Head1
import HandS.Head2
import HandS.HeadEnd
import HandS.HeadHook1
import HandS.HeadHook2
import HandS.Ends
import Open.Line
import PySem.Challenge.RW_mendedbyplan_k11_whole_people_for_jobs
set_option Elab.async false
set_option linter.all false
set_option maxRecDepth 100000
set_option maxHeartbeats 1000000
/-! PVa: values as plain data, owned data, the ground of the evaluator -/
namespace PV
noncomputable section
open PySem PySem.Spec L2
open PyProof.Rows hiding St

abbrev D := PyData
/-- a condition that nothing computes -/
def Cl (p : Prop) : Prop := p
noncomputable instance (p : Prop) : Decidable (Cl p) := Classical.propDecidable _
theorem cl {p : Prop} : Cl p = p := rfl
theorem cpos {p : Prop} {α : Type} {a b : α} (h : p) : (if Cl p then a else b) = a := if_pos h
theorem cneg {p : Prop} {α : Type} {a b : α} (h : ¬ p) : (if Cl p then a else b) = b := if_neg h
structure Md where
  P : Program
  w : World
  K : PySem.W.Frag

def Le (H H' : Hp) : Prop := ∀ a o, H a = some o → H' a = some o
theorem Le.refl (H : Hp) : Le H H := fun _ _ e => e
theorem Le.trans {A B C : Hp} (h : Le A B) (k : Le B C) : Le A C := fun a o e => k a o (h a o e)
theorem le_upd {H : Hp} {p : Addr} {o : HO} (n : H p = none) : Le H (upd H p o) := fun a u e => by
  rw [upd_ne (ne_of_none e n)]; exact e
theorem Rd.le {H H' : Hp} {a : Addr} {u : HO} (h : Rd H a u) (k : Le H H') : Rd H' a u := by
  rcases h with h | ⟨o, h⟩
  · exact .inl (k _ _ h)
  · exact .inr ⟨o, k _ _ h⟩
theorem sql_le {K : PySem.W.Frag} {H H' : Hp} {a : Addr} {xs : List V} (h : SqL K H a xs) (k : Le H H') : SqL K H' a xs := by
  rcases h with h | h
  · exact .inl (Rd.le h k)
  · exact .inr h
theorem sqt_le {K : PySem.W.Frag} {H H' : Hp} {a : Addr} {xs : List V} (h : SqT K H a xs) (k : Le H H') : SqT K H' a xs := by
  rcases h with h | h
  · exact .inl (Rd.le h k)
  · exact .inr h

/-- a dict with tuple keys, by its entries -/
def rawD (a : Addr) (es : List DictEntry) : Heap → Prop := fun h => ∃ o eA ep, h.get? a = some o ∧ o.ExactDict ∧ o.data = .dict eA ep ∧ eA.toList = es
def kD : Key → D
  | .inl i => .int i
  | .inr x => .str x
mutual
def nkD : NestedKey → D
  | .none => .none
  | .num i => .int i
  | .text x => .str x
  | .tup ks => .tuple (nkDs ks)
def nkDs : List NestedKey → List D
  | [] => []
  | k :: ks => nkD k :: nkDs ks
end
/-- at a stands a dict with keys at ks (the data dk) and values at vs -/
inductive DicR (M : Md) (H : Hp) (a : Addr) : List V → List V → List D → Prop
  | flat (kvs : List (Key × V)) : H a = some (.dK kvs) → DicR M H a (kvs.map fun p => kV p.1) (kvs.map (·.2)) (kvs.map fun p => kD p.1)
  | tups (xs : List (NestedKey × Addr × Value)) (vs : List V) : H a = some (.ext (rawD a (xs.map (entryOfKey (nestedKind M.P M.w))))) → Vals vs (xs.map (·.2.2)) → (a == sysModules) = false →
      (xs.map (·.1)).Nodup → xs.length ≤ sizeLine → DicR M H a (xs.map fun x => V.ref x.2.1) vs (xs.map fun x => nkD x.1)
theorem DicR.le {M : Md} {H H' : Hp} {a : Addr} {ks vs : List V} {dk : List D} (h : DicR M H a ks vs dk) (k : Le H H') : DicR M H' a ks vs dk := by
  cases h with
  | flat kvs h => exact .flat kvs (k _ _ h)
  | tups xs vs h a b c d => exact .tups xs vs (k _ _ h) a b c d
theorem DicR.at {M : Md} {H H' : Hp} {a : Addr} {ks vs : List V} {dk : List D} (h : DicR M H a ks vs dk) (k : H' a = H a) : DicR M H' a ks vs dk := by
  cases h with
  | flat kvs h => exact .flat kvs (k.trans h)
  | tups xs vs h a b c d => exact .tups xs vs (k.trans h) a b c d
theorem DicR.some {M : Md} {H : Hp} {a : Addr} {ks vs : List V} {dk : List D} (h : DicR M H a ks vs dk) : ∃ o, H a = some o := by
  cases h with
  | flat kvs h => exact ⟨_, h⟩
  | tups xs vs h a b c d => exact ⟨_, h⟩

/-! ### data in the heap -/
mutual
inductive RD (M : Md) (H : Hp) : V → D → Prop
  | non : RD M H .non .none
  | bl (b : Bool) : RD M H (.bl b) (.bool b)
  | int (i : Int) : RD M H (.int i) (.int i)
  | str (x : Str) : RD M H (.str x) (.str x)
  | lst {a : Addr} {xs : List V} {ds : List D} : SqL M.K H a xs → RDs M H xs ds → RD M H (.ref a) (.list ds)
  | tup {a : Addr} {xs : List V} {ds : List D} : SqT M.K H a xs → RDs M H xs ds → RD M H (.ref a) (.tuple ds)
  | dic {a : Addr} {ks vs : List V} {dk dv : List D} : DicR M H a ks vs dk → RDs M H ks dk → RDs M H vs dv → dk.length = dv.length → RD M H (.ref a) (.dict (dk.zip dv))
inductive RDs (M : Md) (H : Hp) : List V → List D → Prop
  | nil : RDs M H [] []
  | cons {v : V} {vs : List V} {d : D} {ds : List D} : RD M H v d → RDs M H vs ds → RDs M H (v :: vs) (d :: ds)
end
section
variable {M : Md} {H H' : Hp}
mutual
theorem RD.le (k : Le H H') : ∀ {v : V} {d : D}, RD M H v d → RD M H' v d
  | _, _, .non => .non
  | _, _, .bl b => .bl b
  | _, _, .int i => .int i
  | _, _, .str x => .str x
  | _, _, .lst h r => .lst (sql_le h k) (RDs.le k r)
  | _, _, .tup h r => .tup (sqt_le h k) (RDs.le k r)
  | _, _, .dic h r s e => .dic (h.le k) (RDs.le k r) (RDs.le k s) e
theorem RDs.le (k : Le H H') : ∀ {vs : List V} {ds : List D}, RDs M H vs ds → RDs M H' vs ds
  | _, _, .nil => .nil
  | _, _, .cons h r => .cons (RD.le k h) (RDs.le k r)
end
theorem RDs.length : ∀ {vs : List V} {ds : List D}, RDs M H vs ds → vs.length = ds.length
  | _, _, .nil => rfl
  | _, _, .cons _ r => by simp [RDs.length r]
theorem RDs.get : ∀ {vs : List V} {ds : List D} {i : Nat} {v : V}, RDs M H vs ds → vs[i]? = some v → ∃ d, ds[i]? = some d ∧ RD M H v d
  | _, _, _, _, .nil, e => by simp at e
  | _, _, 0, _, .cons h _, e => by simp at e; subst e; exact ⟨_, rfl, h⟩
  | _, _, i + 1, _, .cons _ r, e => by
    obtain ⟨d, h1, h2⟩ := RDs.get (i := i) r (by simpa using e)
    exact ⟨d, by simpa using h1, h2⟩
theorem RDs.get' {vs : List V} {ds : List D} {i : Nat} {d : D} (r : RDs M H vs ds) (e : ds[i]? = some d) : ∃ v, vs[i]? = some v ∧ RD M H v d := by
  have hi : i < vs.length := by rw [r.length]; exact (List.getElem?_eq_some_iff.mp e).1
  obtain ⟨d', e', h⟩ := r.get (i := i) (v := vs[i]) (by simp [hi])
  rw [e] at e'; cases e'
  exact ⟨_, by simp [hi], h⟩
theorem RDs.append : ∀ {vs ws : List V} {ds es : List D}, RDs M H vs ds → RDs M H ws es → RDs M H (vs ++ ws) (ds ++ es)
  | _, _, _, _, .nil, s => s
  | _, _, _, _, .cons h r, s => .cons h (RDs.append r s)
theorem RDs.set {v : V} {d : D} (h : RD M H v d) : ∀ {vs : List V} {ds : List D} (i : Nat), RDs M H vs ds → RDs M H (vs.set i v) (ds.set i d)
  | _, _, _, .nil => .nil
  | _, _, 0, .cons _ r => .cons h r
  | _, _, i + 1, .cons g r => .cons g (RDs.set h i r)
theorem RDs.take : ∀ {vs : List V} {ds : List D} (n : Nat), RDs M H vs ds → RDs M H (vs.take n) (ds.take n)
  | _, _, 0, _ => .nil
  | _, _, _ + 1, .nil => .nil
  | _, _, n + 1, .cons g r => .cons g (RDs.take n r)
theorem RDs.drop : ∀ {vs : List V} {ds : List D} (n : Nat), RDs M H vs ds → RDs M H (vs.drop n) (ds.drop n)
  | _, _, 0, r => r
  | _, _, _ + 1, .nil => .nil
  | _, _, n + 1, .cons _ r => RDs.drop n r
theorem RDs.split : ∀ {vs : List V} {ds es : List D}, RDs M H vs (ds ++ es) → ∃ v1 v2, vs = v1 ++ v2 ∧ RDs M H v1 ds ∧ RDs M H v2 es
  | vs, [], es, r => ⟨[], vs, rfl, .nil, r⟩
  | _, d :: ds, es, r => by
    have r' : RDs M H _ (d :: (ds ++ es)) := r
    cases r' with
    | cons h t =>
      obtain ⟨v1, v2, e, r1, r2⟩ := RDs.split t
      exact ⟨_ :: v1, v2, by rw [e]; rfl, .cons h r1, r2⟩
theorem RDs.reverse {vs : List V} {ds : List D} (r : RDs M H vs ds) : RDs M H vs.reverse ds.reverse := by
  induction vs generalizing ds with
  | nil => cases r; exact .nil
  | cons v vs ih =>
    cases r with
    | cons h t =>
      rw [List.reverse_cons, List.reverse_cons]
      exact (ih t).append (.cons h .nil)
theorem RDs.ints : ∀ {ns : List Int}, RDs M H (ns.map V.int) (ns.map PyData.int)
  | [] => .nil
  | n :: _ => .cons (.int n) RDs.ints
theorem RDs.ints_inv : ∀ {ns : List Int} {vs : List V}, RDs M H vs (ns.map PyData.int) → vs = ns.map V.int
  | [], _, r => by cases r; rfl
  | n :: ns, _, r => by
    have r' : RDs M H _ (.int n :: ns.map PyData.int) := r
    cases r' with
    | cons h t => cases h; rw [RDs.ints_inv t]; rfl
theorem RDs.strs_inv : ∀ {ns : List Str} {vs : List V}, RDs M H vs (ns.map PyData.str) → vs = ns.map V.str
  | [], _, r => by cases r; rfl
  | n :: ns, _, r => by
    have r' : RDs M H _ (.str n :: ns.map PyData.str) := r
    cases r' with
    | cons h t => cases h; rw [RDs.strs_inv t]; rfl
end

/-- owned data: p frozen; l a list of one's own with frozen items; d a dict of one's own; n a list of one's own with such items -/
inductive O where
  | p (d : D)
  | l (xs : List D)
  | d (kvs : List (D × D))
  | n (xs : List O)
instance : Inhabited O := ⟨.p .none⟩
def toD1 : O → D
  | .p d => d
  | .l xs => .list xs
  | .d kvs => .dict kvs
  | _ => .none
/-- what it is worth as data -/
def toD : O → D
  | .n xs => .list (xs.map toD1)
  | o => toD1 o
abbrev Sg := List (Option O)
abbrev Fp := Addr → Prop

section
variable (M : Md) (Hf H : Hp)
def RO1 (v : V) : O → Fp → Prop
  | .p d, _ => RD M Hf v d
  | .l xs, F => ∃ a vs, v = .ref a ∧ H a = some (.lst vs) ∧ RDs M Hf vs xs ∧ F a
  | .d kvs, F => ∃ a ks vs dk dv, v = .ref a ∧ F a ∧ DicR M H a ks vs dk ∧ RDs M Hf ks dk ∧ RDs M Hf vs dv ∧ dk.length = dv.length ∧ kvs = dk.zip dv
  | _, _ => False
structure Subs (a : Addr) (vs : List V) (os : List O) (F : Fp) (ψ : Nat → Fp) : Prop where
  len : vs.length = os.length
  sub : ∀ i b, ψ i b → F b ∧ b ≠ a
  dj : ∀ i j b, ψ i b → ψ j b → i = j
  it : ∀ i v o, vs[i]? = some v → os[i]? = some o → RO1 M Hf H v o (ψ i)
def RO (v : V) : O → Fp → Prop
  | .n os, F => ∃ a vs ψ, v = .ref a ∧ H a = some (.lst vs) ∧ F a ∧ Subs M Hf H a vs os F ψ
  | o, F => RO1 M Hf H v o F
end
section
variable {M : Md} {Hf Hf' H H' : Hp} {v : V} {o : O} {F F' : Fp}
theorem RO1.keep (h : RO1 M Hf H v o F) (k : Le Hf Hf') (kF : ∀ a, F a → H' a = H a) : RO1 M Hf' H' v o F := by
  cases o with
  | p d => exact RD.le k h
  | l xs =>
    obtain ⟨a, vs, e, h1, h2, h3⟩ := h
    exact ⟨a, vs, e, (kF a h3).trans h1, RDs.le k h2, h3⟩
  | d kvs =>
    obtain ⟨a, ks, vs, dk, dv, e, h1, h2, h3, h4, h5⟩ := h
    exact ⟨a, ks, vs, dk, dv, e, h1, h2.at (kF a h1), RDs.le k h3, RDs.le k h4, h5⟩
  | n xs => exact h
theorem RO.keep (h : RO M Hf H v o F) (k : Le Hf Hf') (kF : ∀ a, F a → H' a = H a) : RO M Hf' H' v o F := by
  cases o with
  | n os =>
    obtain ⟨a, vs, ψ, e, h1, h2, h3⟩ := h
    exact ⟨a, vs, ψ, e, (kF a h2).trans h1, h2, h3.len, h3.sub, h3.dj, fun i v o e1 e2 => (h3.it i v o e1 e2).keep k fun b hb => kF b (h3.sub i b hb).1⟩
  | p d => exact RO1.keep (o := .p d) h k kF
  | l d => exact RO1.keep (o := .l d) h k kF
  | d d => exact RO1.keep (o := .d d) h k kF
theorem RO1.wide (h : RO1 M Hf H v o F) (k : ∀ a, F a → F' a) : RO1 M Hf H v o F' := by
  cases o with
  | p d => exact h
  | l xs =>
    obtain ⟨a, vs, e, h1, h2, h3⟩ := h
    exact ⟨a, vs, e, h1, h2, k _ h3⟩
  | d kvs =>
    obtain ⟨a, ks, vs, dk, dv, e, h1, h2⟩ := h
    exact ⟨a, ks, vs, dk, dv, e, k _ h1, h2⟩
  | n xs => exact h
theorem RO.wide (h : RO M Hf H v o F) (k : ∀ a, F a → F' a) : RO M Hf H v o F' := by
  cases o with
  | n os =>
    obtain ⟨a, vs, ψ, e, h1, h2, h3⟩ := h
    exact ⟨a, vs, ψ, e, h1, k _ h2, h3.len, fun i b hb => ⟨k _ (h3.sub i b hb).1, (h3.sub i b hb).2⟩, h3.dj, h3.it⟩
  | p d => exact h
  | l d => exact RO1.wide (o := .l d) h k
  | d d => exact RO1.wide (o := .d d) h k
/-- as data in a heap that has both -/
theorem RO1.rd (h : RO1 M Hf H v o F) {G : Hp} (k : Le Hf G) (kF : ∀ a u, F a → H a = some u → G a = some u) : RD M G v (toD1 o) := by
  cases o with
  | p d => exact RD.le k h
  | l xs =>
    obtain ⟨a, vs, e, h1, h2, h3⟩ := h
    subst e
    exact .lst (SqL.of (kF a _ h3 h1)) (RDs.le k h2)
  | d kvs =>
    obtain ⟨a, ks, vs, dk, dv, e, h1, h2, h3, h4, h5, h6⟩ := h
    subst e
    obtain ⟨u, hu⟩ := h2.some
    show RD M G (.ref a) (.dict kvs)
    rw [h6]
    exact .dic (h2.at ((kF a u h1 hu).trans hu.symm)) (RDs.le k h3) (RDs.le k h4) h5
  | n xs => exact h.elim
theorem RDs.of_get : ∀ {vs : List V} {ds : List D}, vs.length = ds.length → (∀ (i : Nat) v d, vs[i]? = some v → ds[i]? = some d → RD M H v d) → RDs M H vs ds
  | [], [], _, _ => .nil
  | v :: vs, d :: ds, e, h => .cons (h 0 v d rfl rfl) (RDs.of_get (by simpa using e) fun i w c a b => h (i + 1) w c (by simpa using a) (by simpa using b))
theorem RO.rd (h : RO M Hf H v o F) {G : Hp} (k : Le Hf G) (kF : ∀ a u, F a → H a = some u → G a = some u) : RD M G v (toD o) := by
  cases o with
  | n os =>
    obtain ⟨a, vs, ψ, e, h1, h2, h3⟩ := h
    subst e
    refine .lst (SqL.of (kF a _ h2 h1)) (RDs.of_get (by simpa using h3.len) fun i w d e1 e2 => ?_)
    rw [List.getElem?_map] at e2
    cases e3 : os[i]? with
    | none => rw [e3] at e2; cases e2
    | some o' =>
      rw [e3] at e2; cases e2
      exact (h3.it i w o' e1 e3).rd k fun b u hb => kF b u (h3.sub i b hb).1
  | p d => exact RO1.rd (o := .p d) h k kF
  | l d => exact RO1.rd (o := .l d) h k kF
  | d d => exact RO1.rd (o := .d d) h k kF
end

/-! ### the state -/
structure Ok (M : Md) (Hf R H : Hp) (φ : Nat → Fp) (σm : St) (σ : Sg) : Prop where
  fz : Le Hf H
  rz : Le R H
  fr : ∀ a o, R a = some o → Hf a = none
  len : σm.length = σ.length
  sl : ∀ (i : Nat) o, σ[i]? = some (some o) → ∃ v, σm[i]? = some (some v) ∧ RO M Hf H v o (φ i)
  dj : ∀ i j a, φ i a → φ j a → i = j
  fp : ∀ i a, φ i a → Hf a = none ∧ R a = none ∧ H a ≠ none
/-- a footprint of its own -/
def Own (Hf R H : Hp) (φ : Nat → Fp) (G : Fp) : Prop := ∀ a, G a → Hf a = none ∧ R a = none ∧ H a ≠ none ∧ ∀ i, ¬ φ i a
def noF : Fp := fun _ => False
theorem Own.no {Hf R H : Hp} {φ : Nat → Fp} : Own Hf R H φ noF := fun _ h => h.elim
open Classical in
/-- Hf with what H has at F -/
noncomputable def ext (Hf H : Hp) (F : Fp) : Hp := fun a => if F a then H a else Hf a
theorem ext_in {Hf H : Hp} {F : Fp} {a : Addr} (h : F a) : ext Hf H F a = H a := by simp [ext, h]
theorem ext_out {Hf H : Hp} {F : Fp} {a : Addr} (h : ¬ F a) : ext Hf H F a = Hf a := by simp [ext, h]
theorem le_ext {Hf H : Hp} {F : Fp} (h : ∀ a, F a → Hf a = none) : Le Hf (ext Hf H F) := fun a o e => by
  by_cases hF : F a
  · rw [h a hF] at e; cases e
  · rw [ext_out hF]; exact e
theorem ext_le {Hf H : Hp} {F : Fp} (h : Le Hf H) : Le (ext Hf H F) H := fun a o e => by
  by_cases hF : F a
  · rw [ext_in hF] at e; exact e
  · rw [ext_out hF] at e; exact h a o e
section
variable {M : Md} {Hf R H : Hp} {φ : Nat → Fp} {σm : St} {σ : Sg}
/-- what is owned at G becomes frozen -/
theorem Ok.freeze (k : Ok M Hf R H φ σm σ) {G : Fp} (g : Own Hf R H φ G) : Ok M (ext Hf H G) R H φ σm σ where
  fz := ext_le k.fz
  rz := k.rz
  fr := fun a o e => by
    by_cases hG : G a
    · rw [(g a hG).2.1] at e; cases e
    · rw [ext_out hG]; exact k.fr a o e
  len := k.len
  sl := fun i o e => by
    obtain ⟨v, h1, h2⟩ := k.sl i o e
    exact ⟨v, h1, h2.keep (le_ext fun a ha => (g a ha).1) fun _ _ => rfl⟩
  dj := k.dj
  fp := fun i a ha => ⟨by rw [ext_out fun hG => (g a hG).2.2.2 i ha]; exact (k.fp i a ha).1, (k.fp i a ha).2⟩
/-- the slot i forgotten, or it takes something that needs no footprint -/
theorem Ok.put0 (k : Ok M Hf R H φ σm σ) {i : Nat} {x : Option O} (hx : ∀ o, x = some o → ∃ v, σm[i]? = some (some v) ∧ RO M Hf H v o noF) :
    Ok M Hf R H (fun j => if j = i then noF else φ j) σm (σ.set i x) where
  fz := k.fz
  rz := k.rz
  fr := k.fr
  len := by rw [List.length_set]; exact k.len
  sl := fun j o e => by
    by_cases hj : j = i
    · subst hj
      by_cases hl : j < σ.length
      · rw [List.getElem?_set_self hl] at e
        obtain ⟨v, h1, h2⟩ := hx o (by simpa using e)
        exact ⟨v, h1, by simpa using h2⟩
      · rw [List.getElem?_eq_none (by simpa using hl)] at e; cases e
    · rw [List.getElem?_set_ne (Ne.symm hj)] at e
      obtain ⟨v, h1, h2⟩ := k.sl j o e
      exact ⟨v, h1, by simpa [hj] using h2⟩
  dj := fun j l a h1 h2 => by
    by_cases hj : j = i
    · simp [hj, noF] at h1
    · by_cases hl : l = i
      · simp [hl, noF] at h2
      · simp [hj] at h1; simp [hl] at h2; exact k.dj j l a h1 h2
  fp := fun j a h => by
    by_cases hj : j = i
    · simp [hj, noF] at h
    · simp [hj] at h; exact k.fp j a h
theorem RO.p0 {v : V} {d : D} {F : Fp} (h : RD M Hf v d) : RO M Hf H v (.p d) F := h
theorem Ok.le_own (k : Ok M Hf R H φ σm σ) {i : Nat} : Own Hf R H (fun j => if j = i then noF else φ j) (φ i) := fun a ha => by
  obtain ⟨h1, h2, h3⟩ := k.fp i a ha
  refine ⟨h1, h2, h3, fun j hj => ?_⟩
  by_cases e : j = i
  · simp [e, noF] at hj
  · simp [e] at hj; exact e (k.dj j i a hj ha)
end

/-- what an expression gives: a value, or a place: the slot i, or an item of the list there -/
inductive Rs where
  | v (o : O)
  | at (i : Nat)
  | it (i k : Nat)
def RR (M : Md) (Hf H : Hp) (σm : St) (v : V) : Rs → Fp → Prop
  | .v o, G => RO M Hf H v o G
  | .at i, _ => σm[i]? = some (some v)
  | .it i k, _ => ∃ a vs, σm[i]? = some (some (.ref a)) ∧ H a = some (.lst vs) ∧ vs[k]? = some v

/-- data whose own object stands in H, its items in Hf -/
def RDp (M : Md) (Hf H : Hp) (v : V) : D → Prop
  | .list ds => ∃ a xs, v = .ref a ∧ SqL M.K H a xs ∧ RDs M Hf xs ds
  | .dict kvs => ∃ a ks vs dk dv, v = .ref a ∧ DicR M H a ks vs dk ∧ RDs M Hf ks dk ∧ RDs M Hf vs dv ∧ dk.length = dv.length ∧ kvs = dk.zip dv
  | d => RD M Hf v d
theorem RD.toP {M : Md} {Hf H : Hp} {v : V} {d : D} (h : RD M Hf v d) (k : Le Hf H) : RDp M Hf H v d := by
  cases h with
  | non => exact .non
  | bl b => exact .bl b
  | int i => exact .int i
  | str x => exact .str x
  | lst h r => exact ⟨_, _, rfl, sql_le h k, r⟩
  | tup h r => exact .tup h r
  | dic h r s e => exact ⟨_, _, _, _, _, rfl, h.le k, r, s, e, rfl⟩
theorem RDp.rd {M : Md} {Hf H : Hp} {v : V} {d : D} (h : RDp M Hf H v d) (k : Le Hf H) : RD M H v d := by
  cases d with
  | list ds => obtain ⟨a, xs, rfl, h1, h2⟩ := h; exact .lst h1 (RDs.le k h2)
  | tuple ds => exact RD.le k h
  | dict kvs => obtain ⟨a, ks, vs, dk, dv, rfl, h1, h2, h3, h4, rfl⟩ := h; exact .dic h1 (RDs.le k h2) (RDs.le k h3) h4
  | none => exact RD.le k h
  | bool b => exact RD.le k h
  | int i => exact RD.le k h
  | str x => exact RD.le k h
/-- what is owned, as data with frozen items -/
def pkO : O → Option D
  | .p d => some d
  | .l xs => some (.list xs)
  | .d kvs => some (.dict kvs)
  | .n _ => none
theorem RO1.pk {M : Md} {Hf H : Hp} {v : V} {o : O} {F : Fp} {d : D} (h : RO1 M Hf H v o F) (k : Le Hf H) (e : pkO o = some d) : RDp M Hf H v d := by
  cases o with
  | p d' => cases e; exact RD.toP h k
  | l xs => cases e; obtain ⟨a, vs, e, h1, h2, _⟩ := h; exact ⟨a, vs, e, SqL.of h1, h2⟩
  | d kvs => cases e; obtain ⟨a, ks, vs, dk, dv, e, _, h2, h3, h4, h5, h6⟩ := h; exact ⟨a, ks, vs, dk, dv, e, h2, h3, h4, h5, h6⟩
  | n xs => cases e
theorem RO.pk {M : Md} {Hf H : Hp} {v : V} {o : O} {F : Fp} {d : D} (h : RO M Hf H v o F) (k : Le Hf H) (e : pkO o = some d) : RDp M Hf H v d := by
  cases o with
  | n xs => cases e
  | p d' => exact RO1.pk (o := .p d') (F := F) h k e
  | l d' => exact RO1.pk (o := .l d') h k e
  | d d' => exact RO1.pk (o := .d d') h k e
/-- a look at what is there -/
def peek : Rs → Sg → Option D
  | .v o, _ => pkO o
  | .at i, σ => match σ[i]? with | some (some o) => pkO o | _ => none
  | .it i k, σ => match σ[i]? with | some (some (.n os)) => (match os[k]? with | some o => pkO o | none => none) | _ => none
/-- the value, for keeps: what stands at a place is frozen -/
def take : Rs → Sg → Option (O × Sg)
  | .v o, σ => some (o, σ)
  | .at i, σ => match σ[i]? with | some (some o) => some (.p (toD o), σ.set i (some (.p (toD o)))) | _ => none
  | .it i k, σ => match σ[i]? with
    | some (some (.n os)) => match os[k]? with
      | some o => some (.p (toD1 o), σ.set i (some (.n (os.set k (.p (toD1 o))))))
      | none => none
    | _ => none
/-- .. as data -/
def frz (r : Rs) (σ : Sg) : Option (D × Sg) := match take r σ with | some (o, σ') => some (toD o, σ') | none => none

section
variable {M : Md} {Hf R H : Hp} {φ : Nat → Fp} {σm : St} {σ σ' : Sg} {v : V} {r : Rs} {o : O} {G : Fp}
theorem peek_rd {d : D} (k : Ok M Hf R H φ σm σ) (h : RR M Hf H σm v r G) (e : peek r σ = some d) : RDp M Hf H v d := by
  cases r with
  | v o' => exact RO.pk h k.fz e
  | «at» i =>
    dsimp only [peek] at e
    split at e
    · rename_i o' ho
      obtain ⟨v', h1, h2⟩ := k.sl i _ ho
      have h' : σm[i]? = some (some v) := h
      rw [h'] at h1
      have e2 : v = v' := by simpa using h1
      subst e2
      exact h2.pk k.fz e
    · cases e
  | it i j =>
    dsimp only [peek] at e
    split at e
    · rename_i os ho
      split at e
      · rename_i o' ho'
        obtain ⟨v', h1, a, vs, ψ, e1, h2, h3, h4⟩ := k.sl i _ ho
        obtain ⟨a', vs', g1, g2, g3⟩ := h
        rw [g1] at h1
        have e2 : V.ref a' = v' := by simpa using h1
        rw [e1] at e2
        have e3 : a' = a := by simpa using e2
        subst e3
        rw [g2] at h2
        have e4 : vs' = vs := by simpa using h2
        subst e4
        exact (h4.it j v o' g3 ho').pk k.fz e
      · cases e
    · cases e
/-- taking for keeps -/
theorem take_ok (k : Ok M Hf R H φ σm σ) (h : RR M Hf H σm v r G) (g : Own Hf R H φ G) (e : take r σ = some (o, σ')) :
    ∃ Hf' φ' G', Le Hf Hf' ∧ Ok M Hf' R H φ' σm σ' ∧ RO M Hf' H v o G' ∧ Own Hf' R H φ' G' := by
  cases r with
  | v o' =>
    have e' : o' = o ∧ σ = σ' := by simpa [take] using e
    obtain ⟨rfl, rfl⟩ := e'
    exact ⟨Hf, φ, G, Le.refl _, k, h, g⟩
  | «at» i =>
    dsimp only [take] at e
    split at e
    · rename_i o' ho
      have e' : O.p (toD o') = o ∧ σ.set i (some (.p (toD o'))) = σ' := by simpa using e
      obtain ⟨rfl, rfl⟩ := e'
      obtain ⟨v', h1, h2⟩ := k.sl i _ ho
      have h' : σm[i]? = some (some v) := h
      rw [h'] at h1
      have e2 : v = v' := by simpa using h1
      subst e2
      have rd : RD M (ext Hf H (φ i)) v (toD o') := h2.rd (le_ext fun a ha => (k.fp i a ha).1) fun a u ha hu => by rw [ext_in ha]; exact hu
      have k1 := k.put0 (i := i) (x := none) fun o e => by cases e
      have k2 := k1.freeze k.le_own
      have k3 := k2.put0 (i := i) (x := some (.p (toD o'))) fun o e => ⟨v, h', by cases e; exact rd⟩
      rw [List.set_set] at k3
      exact ⟨_, _, noF, le_ext fun a ha => (k.fp i a ha).1, k3, rd, Own.no⟩
    · cases e
  | it i j =>
    dsimp only [take] at e
    split at e
    · rename_i os ho
      split at e
      · rename_i o' ho'
        have e' : O.p (toD1 o') = o ∧ σ.set i (some (.n (os.set j (.p (toD1 o'))))) = σ' := by simpa using e
        obtain ⟨rfl, rfl⟩ := e'
        obtain ⟨v', h1, a, vs, ψ, e1, h2, h3, h4⟩ := k.sl i _ ho
        obtain ⟨a', vs', g1, g2, g3⟩ := h
        rw [g1] at h1
        have e2 : V.ref a' = v' := by simpa using h1
        rw [e1] at e2
        have e3 : a' = a := by simpa using e2
        subst e3
        rw [g2] at h2
        have e4 : vs' = vs := by simpa using h2
        subst e4
        have h5 := h4.it j v o' g3 ho'
        have hψ : ∀ b, ψ j b → Hf b = none := fun b hb => (k.fp i b (h4.sub j b hb).1).1
        have lex : Le Hf (ext Hf H (ψ j)) := le_ext hψ
        have rd : RD M (ext Hf H (ψ j)) v (toD1 o') := h5.rd lex fun a u ha hu => by rw [ext_in ha]; exact hu
        have hj : j < os.length := (List.getElem?_eq_some_iff.mp ho').1
        refine ⟨ext Hf H (ψ j), fun l => if l = i then (fun b => φ i b ∧ ¬ ψ j b) else φ l, noF, lex, ⟨ext_le k.fz, k.rz, fun b u hb => ?_, by rw [List.length_set]; exact k.len, fun l o2 e2 => ?_, fun l l' b hb hb' => ?_, fun l b hb => ?_⟩, rd, Own.no⟩
        · by_cases hp : ψ j b
          · have := (k.fp i b (h4.sub j b hp).1).2.1
            rw [this] at hb; cases hb
          · rw [ext_out hp]; exact k.fr b u hb
        · by_cases hl : l = i
          · subst hl
            have hl' : l < σ.length := (List.getElem?_eq_some_iff.mp ho).1
            rw [List.getElem?_set_self hl'] at e2
            have e3 : O.n (os.set j (.p (toD1 o'))) = o2 := by simpa using e2
            subst e3
            refine ⟨.ref a', g1, a', vs', fun m => if m = j then noF else ψ m, rfl, g2, ?_, ⟨by rw [List.length_set]; exact h4.len, fun m b hb => ?_, fun m m' b hb hb' => ?_, fun m w o3 f1 f2 => ?_⟩⟩
            · simp only [if_true]
              exact ⟨h3, fun hp => (h4.sub j a' hp).2 rfl⟩
            · by_cases hm : m = j
              · simp [hm, noF] at hb
              · simp [hm] at hb
                simp only [if_true]
                exact ⟨⟨(h4.sub m b hb).1, fun hp => hm (h4.dj m j b hb hp)⟩, (h4.sub m b hb).2⟩
            · by_cases hm : m = j
              · simp [hm, noF] at hb
              · by_cases hm' : m' = j
                · simp [hm', noF] at hb'
                · simp [hm] at hb; simp [hm'] at hb'; exact h4.dj m m' b hb hb'
            · by_cases hm : m = j
              · subst hm
                rw [List.getElem?_set_self hj] at f2
                have e4 : O.p (toD1 o') = o3 := by simpa using f2
                subst e4
                rw [g3] at f1
                have e5 : v = w := by simpa using f1
                subst e5
                exact rd
              · rw [List.getElem?_set_ne (Ne.symm hm)] at f2
                simp only [hm, if_false]
                exact (h4.it m w o3 f1 f2).keep lex fun _ _ => rfl
          · rw [List.getElem?_set_ne (Ne.symm hl)] at e2
            obtain ⟨w, f1, f2⟩ := k.sl l o2 e2
            refine ⟨w, f1, ?_⟩
            simp only [hl, if_false]
            exact f2.keep lex fun _ _ => rfl
        · by_cases hl : l = i
          · by_cases hl' : l' = i
            · rw [hl, hl']
            · simp [hl] at hb; simp [hl'] at hb'; exact absurd (k.dj i l' b hb.1 hb').symm hl'
          · by_cases hl' : l' = i
            · simp [hl] at hb; simp [hl'] at hb'; exact absurd (k.dj l i b hb hb'.1) hl
            · simp [hl] at hb; simp [hl'] at hb'; exact k.dj l l' b hb hb'
        · by_cases hl : l = i
          · simp [hl] at hb
            obtain ⟨q1, q2, q3⟩ := k.fp i b hb.1
            exact ⟨by rw [ext_out hb.2]; exact q1, q2, q3⟩
          · simp [hl] at hb
            obtain ⟨q1, q2, q3⟩ := k.fp l b hb
            refine ⟨?_, q2, q3⟩
            rw [ext_out fun hp => hl (k.dj l i b hb (h4.sub j b hp).1)]
            exact q1
      · cases e
    · cases e
theorem frz_ok {d : D} (k : Ok M Hf R H φ σm σ) (h : RR M Hf H σm v r G) (g : Own Hf R H φ G) (e : frz r σ = some (d, σ')) :
    ∃ Hf' φ', Le Hf Hf' ∧ Ok M Hf' R H φ' σm σ' ∧ RD M Hf' v d := by
  unfold frz at e
  split at e
  · rename_i o s1 he
    have e' : toD o = d ∧ s1 = σ' := by simpa using e
    obtain ⟨rfl, rfl⟩ := e'
    obtain ⟨Hf', φ', G', l, k', ro, g'⟩ := take_ok k h g he
    exact ⟨ext Hf' H G', φ', l.trans (le_ext fun a ha => (g' a ha).1), k'.freeze g', ro.rd (le_ext fun a ha => (g' a ha).1) fun a u ha hu => by rw [ext_in ha]; exact hu⟩
  · cases e
end
end
end PV

set_option Elab.async false
set_option linter.all false
set_option maxRecDepth 100000
set_option maxHeartbeats 1000000
/-! PVb: expressions -/
namespace PV
noncomputable section
open PySem PySem.Spec L2
open PyProof.Rows hiding St

abbrev Ev := Sg → Option (Rs × Sg)
def mdOf (X : Cx) : Md := ⟨X.prog, X.w, X.K⟩
/-- what an expression's evaluation e says of it; b: nothing that stands is changed -/
def wE (M : Md) (b : Bool) (e : Ev) : TE := fun σm H Q => ∃ σ Hf R φ r σ', Ok M Hf R H φ σm σ ∧ e σ = some (r, σ') ∧
  ∀ v H' Hf' φ' G, Le Hf Hf' → Ok M Hf' R H' φ' σm σ' → RR M Hf' H' σm v r G → Own Hf' R H' φ' G → (b = true → Le H H') → Q v H'
abbrev PEv (X : Cx) (e : Expr) (b : Bool) (ea : Ev) : Prop := PE X e (wE (mdOf X) b ea)
/-- .. where it is a bool that is wanted -/
abbrev Tv := Sg → Option (Bool × Sg)
def wT (M : Md) (b : Bool) (e : Tv) : TT := fun σm H Q => ∃ σ Hf R φ r σ', Ok M Hf R H φ σm σ ∧ e σ = some (r, σ') ∧
  ∀ H' Hf' φ', Le Hf Hf' → Ok M Hf' R H' φ' σm σ' → (b = true → Le H H') → Q r H'
abbrev PTv (X : Cx) (e : Expr) (b : Bool) (ea : Tv) : Prop := PT X e (wT (mdOf X) b ea)
abbrev PWv (X : Cx) (e : Expr) (b : Bool) (ea : Tv) : Prop := PW X e (wT (mdOf X) b ea)

theorem PE.imp {X : Cx} {e : Expr} {t u : TE} (h : PE X e t) (k : ∀ σ H Q, u σ H Q → t σ H Q) : PE X e u := ⟨fun pins s σ H Q I hu => h.run pins s σ H Q I (k σ H Q hu)⟩
theorem PT.imp {X : Cx} {e : Expr} {t u : TT} (h : PT X e t) (k : ∀ σ H Q, u σ H Q → t σ H Q) : PT X e u := ⟨fun pins s σ H Q I hu => h.run pins s σ H Q I (k σ H Q hu)⟩
theorem PW.imp {X : Cx} {e : Expr} {t u : TT} (h : PW X e t) (k : ∀ σ H Q, u σ H Q → t σ H Q) : PW X e u := ⟨fun w pins s σ H Q I hu => h.run w pins s σ H Q I (k σ H Q hu)⟩
theorem PA.imp {X : Cx} {es : List Expr} {t u : TA} (h : PA X es t) (k : ∀ σ H Q, u σ H Q → t σ H Q) : PA X es u := ⟨fun pos pins s σ H Q I hu => h.run pos pins s σ H Q I (k σ H Q hu)⟩
theorem PC.imp {X : Cx} {op : CmpOp} {a b : Expr} {t u : TE} (h : PC X op a b t) (k : ∀ σ H Q, u σ H Q → t σ H Q) : PC X op a b u := ⟨fun pins s σ H Q I hu => h.run pins s σ H Q I (k σ H Q hu)⟩
theorem PS.imp {X : Cx} {st : Stmt} {t u : TS} (h : PS X st t) (k : ∀ Dn σ H, u Dn σ H → t Dn σ H) : PS X st u := ⟨fun pins s σ H Dn I hu => h.run pins s σ H Dn I (k Dn σ H hu)⟩
theorem PSs.imp {X : Cx} {st : List Stmt} {t u : TS} (h : PSs X st t) (k : ∀ Dn σ H, u Dn σ H → t Dn σ H) : PSs X st u := ⟨fun pins s σ H Dn I hu => h.run pins s σ H Dn I (k Dn σ H hu)⟩
theorem PI.imp {X : Cx} {tg e : Expr} {t u : TI} (h : PI X tg e t) (k : ∀ σ H Q, u σ H Q → t σ H Q) : PI X tg e u := ⟨fun pins s σ H Q I hu => h.run pins s σ H Q I (k σ H Q hu)⟩

/-! ### held operands -/
inductive Hd where
  | d (x : D)
  | at (i : Nat)
def hold (r : Rs) (σ : Sg) : Option (Hd × Sg) := match r with
  | .at i => some (.at i, σ)
  | r => match frz r σ with | some (d, σ') => some (.d d, σ') | none => none
def unhold : Hd → Sg → Option D
  | .d x, _ => some x
  | .at i, σ => peek (.at i) σ
def HR (M : Md) (Hf : Hp) (σm : St) (v : V) : Hd → Prop
  | .d x => RD M Hf v x
  | .at i => σm[i]? = some (some v)
section
variable {M : Md} {Hf Hf' R H H' : Hp} {φ : Nat → Fp} {σm : St} {σ σ' : Sg} {v : V} {r : Rs} {G : Fp} {c : Hd}
theorem hold_ok (k : Ok M Hf R H φ σm σ) (h : RR M Hf H σm v r G) (g : Own Hf R H φ G) (e : hold r σ = some (c, σ')) :
    ∃ Hf' φ', Le Hf Hf' ∧ Ok M Hf' R H φ' σm σ' ∧ HR M Hf' σm v c := by
  have go : ∀ d, frz r σ = some (d, σ') → Hd.d d = c → ∃ Hf' φ', Le Hf Hf' ∧ Ok M Hf' R H φ' σm σ' ∧ HR M Hf' σm v c := fun d e1 e2 => by
    obtain ⟨Hf', φ', l, k', rd⟩ := frz_ok k h g e1
    subst e2
    exact ⟨Hf', φ', l, k', rd⟩
  unfold hold at e
  split at e
  · rename_i i
    have e' : Hd.at i = c ∧ σ = σ' := by simpa using e
    obtain ⟨rfl, rfl⟩ := e'
    exact ⟨Hf, φ, Le.refl _, k, h⟩
  · split at e
    · rename_i d s1 he
      have e' : Hd.d d = c ∧ s1 = σ' := by simpa using e
      obtain ⟨rfl, rfl⟩ := e'
      exact go d he rfl
    · cases e
theorem HR.le (h : HR M Hf σm v c) (k : Le Hf Hf') : HR M Hf' σm v c := by
  cases c with
  | d x => exact RD.le k h
  | «at» i => exact h
theorem unhold_rd {d : D} (k : Ok M Hf R H φ σm σ) (h : HR M Hf σm v c) (e : unhold c σ = some d) : RDp M Hf H v d := by
  cases c with
  | d x => cases e; exact RD.toP h k.fz
  | «at» i => exact peek_rd (G := noF) k (r := .at i) h e
end

/-! ### names, constants -/
def eName (i : Nat) (σ : Sg) : Option (Rs × Sg) := match σ[i]? with
  | some (some (.p d)) => some (.v (.p d), σ)
  | some (some _) => some (.at i, σ)
  | _ => none
theorem pev_name {X : Cx} {i : Nat} {x : Str} {pos : Pos} {b : Bool} (hN : X.N[i]? = some x) (hv : Vis X.env.scope x) (hd : (x == ("__debug__" : Str)) = false := by decide) (hcd : (x == ("__classdict__" : Str)) = false := by decide) :
    PEv X (.Name x pos) b (eName i) := by
  refine PE.imp (pe_var (i := i) hN hv hd hcd) fun σm H Q h => ?_
  obtain ⟨σ, Hf, R, φ, r, σ', k, e, q⟩ := h
  dsimp only [eName] at e
  split at e
  · rename_i d ho
    obtain ⟨v, h1, h2⟩ := k.sl i _ ho
    cases e
    exact ⟨v, h1, q v H Hf φ noF (Le.refl _) k h2 Own.no fun _ => Le.refl _⟩
  · rename_i o hn ho
    obtain ⟨v, h1, h2⟩ := k.sl i _ ho
    cases e
    exact ⟨v, h1, q v H Hf φ noF (Le.refl _) k h1 Own.no fun _ => Le.refl _⟩
  · cases e
def eD (d : D) (σ : Sg) : Option (Rs × Sg) := some (.v (.p d), σ)
theorem wE_D {M : Md} {b : Bool} {d : D} {v : V} (hv : ∀ H, RD M H v d) {σ : St} {H : Hp} {Q : VK} (h : wE M b (eD d) σ H Q) : tC v σ H Q := by
  obtain ⟨σ, Hf, R, φ, r, σ', k, e, q⟩ := h
  cases e
  exact q v H Hf φ noF (Le.refl _) k (hv Hf) Own.no fun _ => Le.refl _
section
variable {X : Cx} {pos : Pos} {b : Bool}
theorem pev_int {i : Int} {j} : PEv X (.Constant (.int i) j pos) b (eD (.int i)) := PE.imp pe_int fun _ _ _ h => wE_D (fun _ => .int i) h
theorem pev_bl {i : Bool} {j} : PEv X (.Constant (.bool i) j pos) b (eD (.bool i)) := PE.imp pe_bl fun _ _ _ h => wE_D (fun _ => .bl i) h
theorem pev_non {j} : PEv X (.Constant .none j pos) b (eD .none) := PE.imp pe_non fun _ _ _ h => wE_D (fun _ => .non) h
theorem pev_str {x : Str} {j} : PEv X (.Constant (.str x) j pos) b (eD (.str x)) := PE.imp pe_str fun _ _ _ h => wE_D (fun _ => .str x) h
/-- a global of the module that stands as data -/
theorem pev_glob {x : Str} {d : D} {v : V} {u : Value} (hg : Gl X x) (hm : X.mg x = some u) (r : RelV v u) (hv : ∀ H, RD (mdOf X) H v d) (hd : (x == ("__debug__" : Str)) = false := by decide) : PEv X (.Name x pos) b (eD d) :=
  PE.imp (pe_glob hg hm r hd) fun _ _ _ h => wE_D hv h
end

/-! ### what an operation gives -/
inductive Out where
  | ex (d : D)
  | ls (ds : List D)
  | tp (ds : List D)
  | te (ds : List D)
def Out.o : Out → O
  | .ex d => .p d
  | .ls ds => .l ds
  | .tp ds => .p (.tuple ds)
  | .te ds => .p (.tuple ds)
/-- what must be shown of it -/
def PO (M : Md) (Hf H : Hp) (Q : VK) : Out → Prop
  | .ex d => ∀ v, RD M Hf v d → Q v H
  | .ls ds => ∀ p vs, H p = none → RDs M Hf vs ds → Q (.ref p) (upd H p (.lst vs))
  | .tp ds => ∀ p vs, H p = none → RDs M Hf vs ds → Q (.ref p) (upd H p (.tup vs))
  | .te ds => (∀ v, RD M Hf v (.tuple ds) → Q v H) ∧ ∀ p vs, H p = none → RDs M Hf vs ds → Q (.ref p) (upd H p (.tup vs))
section
variable {M : Md} {Hf R H : Hp} {φ : Nat → Fp} {σm : St} {σ : Sg}
theorem Ok.new (k : Ok M Hf R H φ σm σ) {p : Addr} {o : HO} (n : H p = none) : Ok M Hf R (upd H p o) φ σm σ where
  fz := fun a u e => le_upd n a u (k.fz a u e)
  rz := fun a u e => le_upd n a u (k.rz a u e)
  fr := k.fr
  len := k.len
  sl := fun i o' e => by
    obtain ⟨v, h1, h2⟩ := k.sl i o' e
    exact ⟨v, h1, h2.keep (Le.refl _) fun a ha => upd_ne fun z => (k.fp i a ha).2.2 (by rw [z]; exact n)⟩
  dj := k.dj
  fp := fun i a ha => ⟨(k.fp i a ha).1, (k.fp i a ha).2.1, by rw [upd_ne fun z => (k.fp i a ha).2.2 (by rw [z]; exact n)]; exact (k.fp i a ha).2.2⟩
theorem Ok.newF (k : Ok M Hf R H φ σm σ) {p : Addr} {o : HO} (n : H p = none) : Own Hf R (upd H p o) φ (fun a => a = p) := fun a ha => by
  subst ha
  refine ⟨?_, ?_, by rw [upd_same]; simp, fun i hi => (k.fp i _ hi).2.2 n⟩
  · cases e : Hf a with
    | none => rfl
    | some u => rw [k.fz a u e] at n; cases n
  · cases e : R a with
    | none => rfl
    | some u => rw [k.rz a u e] at n; cases n
/-- from what is wanted of the result to what the operation's rule asks -/
theorem PO.of {Q : VK} {out : Out} (k : Ok M Hf R H φ σm σ)
    (q : ∀ v H' Hf' φ' G, Le Hf Hf' → Ok M Hf' R H' φ' σm σ → RO M Hf' H' v out.o G → Own Hf' R H' φ' G → Le H H' → Q v H') : PO M Hf H Q out := by
  cases out with
  | ex d => exact fun v h => q v H Hf φ noF (Le.refl _) k h Own.no (Le.refl _)
  | ls ds =>
    intro p vs n r
    exact q (.ref p) _ Hf φ (fun a => a = p) (Le.refl _) (k.new n) ⟨p, vs, rfl, upd_same, r, rfl⟩ (k.newF n) (le_upd n)
  | te ds =>
    refine ⟨fun v h => q v H Hf φ noF (Le.refl _) k h Own.no (Le.refl _), ?_⟩
    intro p vs n r
    have own := k.newF (o := .tup vs) n
    have k2 := (k.new (o := .tup vs) n).freeze own
    have l : Le Hf (ext Hf (upd H p (.tup vs)) fun a => a = p) := le_ext fun a ha => (own a ha).1
    refine q (.ref p) _ _ φ noF l k2 ?_ Own.no (le_upd n)
    exact RD.tup (SqT.of ((ext_in (F := fun a => a = p) rfl).trans upd_same)) (RDs.le l r)
  | tp ds =>
    intro p vs n r
    have own := k.newF (o := .tup vs) n
    have k2 := (k.new (o := .tup vs) n).freeze own
    have l : Le Hf (ext Hf (upd H p (.tup vs)) fun a => a = p) := le_ext fun a ha => (own a ha).1
    refine q (.ref p) _ _ φ noF l k2 ?_ Own.no (le_upd n)
    exact RD.tup (SqT.of ((ext_in (F := fun a => a = p) rfl).trans upd_same)) (RDs.le l r)
end

/-! ### two operands -/
def eBin (f : D → D → Option Out) (a b : Ev) (σ : Sg) : Option (Rs × Sg) :=
  match a σ with
  | none => none
  | some (r1, σ1) => match hold r1 σ1 with
    | none => none
    | some (c1, σ2) => match b σ2 with
      | none => none
      | some (r2, σ3) => match unhold c1 σ3, peek r2 σ3 with
        | some d1, some d2 => match f d1 d2 with
          | some out => some (.v out.o, σ3)
          | none => none
        | _, _ => none
/-- a rule r for two values does f -/
def Rule2 (M : Md) (f : D → D → Option Out) (r : R2) : Prop := ∀ Hf H x y d1 d2 out Q, Le Hf H → RDp M Hf H x d1 → RDp M Hf H y d2 → f d1 d2 = some out → PO M Hf H Q out → r x y H Q
section
variable {X : Cx} {a b : Expr} {ba bb : Bool} {ea eb : Ev} {pos : Pos} {f : D → D → Option Out} {r : R2}
theorem wE_bin (hr : Rule2 (mdOf X) f r) {σm : St} {H : Hp} {Q : VK} (h : wE (mdOf X) (ba && bb) (eBin f ea eb) σm H Q) : tOp r (wE (mdOf X) ba ea) (wE (mdOf X) bb eb) σm H Q := by
  obtain ⟨σ, Hf, R, φ, r0, σ', k, e, q⟩ := h
  dsimp only [eBin] at e
  split at e
  · cases e
  · rename_i r1 σ1 e1
    refine ⟨σ, Hf, R, φ, r1, σ1, k, e1, fun v1 H1 Hf1 φ1 G1 l1 k1 rr1 own1 p1 => ?_⟩
    split at e
    · cases e
    · rename_i c1 σ2 e2
      obtain ⟨Hf2, φ2, l2, k2, hr2⟩ := hold_ok k1 rr1 own1 e2
      split at e
      · cases e
      · rename_i r2 σ3 e3
        refine ⟨σ2, Hf2, R, φ2, r2, σ3, k2, e3, fun v2 H3 Hf3 φ3 G3 l3 k3 rr3 own3 p3 => ?_⟩
        split at e
        · rename_i d1 d2 u1 u2
          split at e
          · rename_i out eo
            cases e
            have g1 := unhold_rd k3 (hr2.le l3) u1
            have g2 := peek_rd k3 rr3 u2
            refine hr Hf3 H3 v1 v2 d1 d2 out Q k3.fz g1 g2 eo (PO.of k3 fun v H' Hf' φ' G l k' ro own le => ?_)
            refine q v H' Hf' φ' G ((l1.trans l2).trans (l3.trans l)) k' ro own fun hb => ?_
            rw [Bool.and_eq_true] at hb
            exact ((p1 hb.1).trans (p3 hb.2)).trans le
          · cases e
        · cases e
theorem pev_bin {op : Operator} (ho : OpR X (binaryOp op) r) (hr : Rule2 (mdOf X) f r) (ha : PEv X a ba ea) (hb : PEv X b bb eb) : PEv X (.BinOp a op b pos) (ba && bb) (eBin f ea eb) :=
  PE.imp (pe_op ho ha hb) fun _ _ _ h => wE_bin hr h
/-- a comparison -/
theorem pc_of {op : CmpOp} {ta tb : TE} (ho : OpR X (compareOp op) r) (ha : PE X a ta) (hb : PE X b tb) : PC X op a b (tOp r ta tb) :=
  ⟨fun pins s σ H Q I h => binT ha hb I h fun v u s2 x y H2 I2 rx ry q => ho pins s2 σ H2 x y v u Q I2 rx ry q⟩
theorem pcv {op : CmpOp} (ho : OpR X (compareOp op) r) (hr : Rule2 (mdOf X) f r) (ha : PEv X a ba ea) (hb : PEv X b bb eb) : PC X op a b (wE (mdOf X) (ba && bb) (eBin f ea eb)) :=
  PC.imp (pc_of ho ha hb) fun _ _ _ h => wE_bin hr h
theorem pev_cmp {op : CmpOp} {t : Bool} {e : Ev} (h : PC X op a b (wE (mdOf X) t e)) (h1 : behindInMarks op b = false := by first | exact nobehind _ (by decide) (by decide) | rfl) : PEv X (.Compare a [op] [b] pos) t e := pe_cmp h h1
/-- a value that is a bool, as a test -/
def tOf (e : Ev) (σ : Sg) : Option (Bool × Sg) := match e σ with
  | some (.v (.p (.bool b)), σ') => some (b, σ')
  | _ => none
theorem wT_of {M : Md} {t : Bool} {e : Ev} {σm : St} {H : Hp} {Q : Bool → Hp → Prop} (h : wT M t (tOf e) σm H Q) : wE M t e σm H fun x H1 => ∃ c, x = .bl c ∧ Q c H1 := by
  obtain ⟨σ, Hf, R, φ, r, σ', k, e, q⟩ := h
  dsimp only [tOf] at e
  split at e
  · rename_i c s1 he
    cases e
    refine ⟨σ, Hf, R, φ, _, _, k, he, fun v H' Hf' φ' G l k' rr own p => ?_⟩
    have rr' : RD M Hf' v (.bool r) := rr
    cases rr'
    exact ⟨r, rfl, q H' Hf' φ' l k' p⟩
  · cases e
theorem ptv_cmp {op : CmpOp} {t : Bool} {e : Ev} (h : PC X op a b (wE (mdOf X) t e)) (h1 : behindInMarks op b = false := by first | exact nobehind _ (by decide) (by decide) | rfl) : PTv X (.Compare a [op] [b] pos) t (tOf e) :=
  PT.imp (pt_cmp h h1) fun _ _ _ h => wT_of h
theorem ptv_val {e : Expr} {t : Bool} {ee : Ev} (h : PEv X e t ee) (he : ∀ whole, isTrue e X.env whole = (do let v ← whole; standAt e.pos; holding [v] (truthy v)) := by intro _; rfl) : PTv X e t (tOf ee) :=
  PT.imp (pt_val h he) fun _ _ _ h => wT_of h
end

/-! ### a chain of comparisons -/
def eChain (f g : D → D → Option Out) (a b c : Ev) (σ : Sg) : Option (Rs × Sg) :=
  match a σ with
  | none => none
  | some (r1, σ1) => match hold r1 σ1 with
    | none => none
    | some (c1, σ2) => match b σ2 with
      | none => none
      | some (r2, σ3) => match hold r2 σ3 with
        | none => none
        | some (c2, σ4) => match unhold c1 σ4, unhold c2 σ4 with
          | some d1, some d2 => match f d1 d2 with
            | some (.ex (.bool false)) => some (.v (.p (.bool false)), σ4)
            | some (.ex (.bool true)) => match c σ4 with
              | none => none
              | some (r3, σ5) => match unhold c2 σ5, peek r3 σ5 with
                | some d2, some d3 => match g d2 d3 with
                  | some (.ex (.bool t)) => some (.v (.p (.bool t)), σ5)
                  | _ => none
                | _, _ => none
            | _ => none
          | _, _ => none
section
variable {X : Cx} {a b c : Expr} {ba bb bc : Bool} {ea eb ec : Ev} {pos : Pos} {f g : D → D → Option Out} {r r' : R2}
theorem wE_chain (hr : Rule2 (mdOf X) f r) (hr' : Rule2 (mdOf X) g r') {σm : St} {H : Hp} {Q : VK} (h : wE (mdOf X) (ba && bb && bc) (eChain f g ea eb ec) σm H Q) : tChain r r' (wE (mdOf X) ba ea) (wE (mdOf X) bb eb) (wE (mdOf X) bc ec) σm H Q := by
  obtain ⟨σ, Hf, R, φ, r0, σ', k, e, q⟩ := h
  dsimp only [eChain] at e
  split at e
  · cases e
  · rename_i r1 σ1 e1
    refine ⟨σ, Hf, R, φ, r1, σ1, k, e1, fun v1 H1 Hf1 φ1 G1 l1 k1 rr1 own1 p1 => ?_⟩
    split at e
    · cases e
    · rename_i c1 σ2 e2
      obtain ⟨Hf2, φ2, l2, k2, hr2⟩ := hold_ok k1 rr1 own1 e2
      split at e
      · cases e
      · rename_i r2 σ3 e3
        refine ⟨σ2, Hf2, R, φ2, r2, σ3, k2, e3, fun v2 H3 Hf3 φ3 G3 l3 k3 rr3 own3 p3 => ?_⟩
        split at e
        · cases e
        · rename_i c2 σ4 e4
          obtain ⟨Hf4, φ4, l4, k4, hr4⟩ := hold_ok k3 rr3 own3 e4
          split at e
          · rename_i d1 d2 u1 u2
            have g1 := unhold_rd k4 ((hr2.le l3).le l4) u1
            have g2 := unhold_rd k4 hr4 u2
            have LL : Le Hf Hf4 := (l1.trans l2).trans (l3.trans l4)
            split at e
            · rename_i eo
              cases e
              refine hr Hf4 H3 v1 v2 d1 d2 _ _ k4.fz g1 g2 eo fun v hv => ?_
              cases hv
              refine ⟨false, rfl, ?_⟩
              simp only [Bool.false_eq_true, if_false]
              refine q (.bl false) H3 Hf4 φ4 noF LL k4 (RD.bl false) Own.no fun hb => ?_
              simp only [Bool.and_eq_true] at hb
              exact (p1 hb.1.1).trans (p3 hb.1.2)
            · rename_i eo
              refine hr Hf4 H3 v1 v2 d1 d2 _ _ k4.fz g1 g2 eo fun v hv => ?_
              cases hv
              refine ⟨true, rfl, ?_⟩
              simp only [if_true]
              split at e
              · cases e
              · rename_i r3 σ5 e5
                refine ⟨σ4, Hf4, R, φ4, r3, σ5, k4, e5, fun v3 H5 Hf5 φ5 G5 l5 k5 rr5 own5 p5 => ?_⟩
                split at e
                · rename_i d2' d3 w2 w3
                  split at e
                  · rename_i t et
                    cases e
                    refine hr' Hf5 H5 v2 v3 d2' d3 _ _ k5.fz (unhold_rd k5 (hr4.le l5) w2) (peek_rd k5 rr5 w3) et fun v hv => ?_
                    refine q v H5 Hf5 φ5 noF (LL.trans l5) k5 hv Own.no fun hb => ?_
                    simp only [Bool.and_eq_true] at hb
                    exact ((p1 hb.1.1).trans (p3 hb.1.2)).trans (p5 hb.2)
                  · cases e
                · cases e
            · cases e
          · cases e
theorem pev_chain {op op' : CmpOp} (ho : OpR X (compareOp op) r) (ho' : OpR X (compareOp op') r') (hr : Rule2 (mdOf X) f r) (hr' : Rule2 (mdOf X) g r') (ha : PEv X a ba ea) (hb : PEv X b bb eb) (hc : PEv X c bc ec)
    (hm : lastMarks [op, op'] [b, c] = false := by with_unfolding_all rfl) : PEv X (.Compare a [op, op'] [b, c] pos) (ba && bb && bc) (eChain f g ea eb ec) :=
  PE.imp (pe_chain ho ho' ha hb hc hm) fun _ _ _ h => wE_chain hr hr' h
theorem ptv_chain {op op' : CmpOp} (ho : OpR X (compareOp op) r) (ho' : OpR X (compareOp op') r') (hr : Rule2 (mdOf X) f r) (hr' : Rule2 (mdOf X) g r') (ha : PEv X a ba ea) (hb : PEv X b bb eb) (hc : PEv X c bc ec)
    (hm : lastMarks [op, op'] [b, c] = false := by with_unfolding_all rfl) : PTv X (.Compare a [op, op'] [b, c] pos) (ba && bb && bc) (tOf (eChain f g ea eb ec)) :=
  PT.imp (pt_chain ho ho' ha hb hc hm) fun _ _ _ h => wE_chain hr hr' (wT_of h)
end

/-! ### and, or, not, if -/
def tAndE (a b : Tv) (σ : Sg) : Option (Bool × Sg) := match a σ with
  | some (true, σ1) => b σ1
  | some (false, σ1) => some (false, σ1)
  | none => none
def tOrE (a b : Tv) (σ : Sg) : Option (Bool × Sg) := match a σ with
  | some (true, σ1) => some (true, σ1)
  | some (false, σ1) => b σ1
  | none => none
def tNotE (a : Tv) (σ : Sg) : Option (Bool × Sg) := match a σ with
  | some (c, σ1) => some (!c, σ1)
  | none => none
/-- a test's answer as a value -/
def eOf (t : Tv) (σ : Sg) : Option (Rs × Sg) := match t σ with
  | some (c, σ1) => some (.v (.p (.bool c)), σ1)
  | none => none
section
variable {X : Cx} {a b : Expr} {rest : List Expr} {ba bb : Bool} {ta tb : Tv} {ea eb : Ev} {pos : Pos}
theorem wT_and {M : Md} {σm : St} {H : Hp} {Q : Bool → Hp → Prop} (h : wT M (ba && bb) (tAndE ta tb) σm H Q) : tAnd (wT M ba ta) (wT M bb tb) σm H Q := by
  obtain ⟨σ, Hf, R, φ, r, σ', k, e, q⟩ := h
  dsimp only [tAndE] at e
  split at e
  · rename_i s1 he
    refine ⟨σ, Hf, R, φ, true, s1, k, he, fun H1 Hf1 φ1 l1 k1 p1 => ?_⟩
    simp only [if_true]
    refine ⟨s1, Hf1, R, φ1, r, σ', k1, e, fun H2 Hf2 φ2 l2 k2 p2 => q H2 Hf2 φ2 (l1.trans l2) k2 fun hb => ?_⟩
    rw [Bool.and_eq_true] at hb
    exact (p1 hb.1).trans (p2 hb.2)
  · rename_i s1 he
    cases e
    refine ⟨σ, Hf, R, φ, false, _, k, he, fun H1 Hf1 φ1 l1 k1 p1 => ?_⟩
    simp only [Bool.false_eq_true, if_false]
    refine q H1 Hf1 φ1 l1 k1 fun hb => ?_
    rw [Bool.and_eq_true] at hb
    exact p1 hb.1
  · cases e
theorem wT_or {M : Md} {σm : St} {H : Hp} {Q : Bool → Hp → Prop} (h : wT M (ba && bb) (tOrE ta tb) σm H Q) : tOr (wT M ba ta) (wT M bb tb) σm H Q := by
  obtain ⟨σ, Hf, R, φ, r, σ', k, e, q⟩ := h
  dsimp only [tOrE] at e
  split at e
  · rename_i s1 he
    cases e
    refine ⟨σ, Hf, R, φ, true, _, k, he, fun H1 Hf1 φ1 l1 k1 p1 => ?_⟩
    simp only [if_true]
    refine q H1 Hf1 φ1 l1 k1 fun hb => ?_
    rw [Bool.and_eq_true] at hb
    exact p1 hb.1
  · rename_i s1 he
    refine ⟨σ, Hf, R, φ, false, s1, k, he, fun H1 Hf1 φ1 l1 k1 p1 => ?_⟩
    simp only [Bool.false_eq_true, if_false]
    refine ⟨s1, Hf1, R, φ1, r, σ', k1, e, fun H2 Hf2 φ2 l2 k2 p2 => q H2 Hf2 φ2 (l1.trans l2) k2 fun hb => ?_⟩
    rw [Bool.and_eq_true] at hb
    exact (p1 hb.1).trans (p2 hb.2)
  · cases e
theorem wT_not {M : Md} {σm : St} {H : Hp} {Q : Bool → Hp → Prop} (h : wT M ba (tNotE ta) σm H Q) : tNot (wT M ba ta) σm H Q := by
  obtain ⟨σ, Hf, R, φ, r, σ', k, e, q⟩ := h
  dsimp only [tNotE] at e
  split at e
  · rename_i c s1 he
    cases e
    exact ⟨σ, Hf, R, φ, c, _, k, he, q⟩
  · cases e
theorem pwv_and1 (h : PTv X a ba ta) : PWv X (.BoolOp .And [a] pos) ba ta := pw_and1 h
theorem pwv_or1 (h : PTv X a ba ta) : PWv X (.BoolOp .Or [a] pos) ba ta := pw_or1 h
theorem pwv_and (h : PTv X a ba ta) (h2 : PWv X (.BoolOp .And (b :: rest) pos) bb tb) : PWv X (.BoolOp .And (a :: b :: rest) pos) (ba && bb) (tAndE ta tb) := PW.imp (pw_and h h2) fun _ _ _ h => wT_and h
theorem pwv_or (h : PTv X a ba ta) (h2 : PWv X (.BoolOp .Or (b :: rest) pos) bb tb) : PWv X (.BoolOp .Or (a :: b :: rest) pos) (ba && bb) (tOrE ta tb) := PW.imp (pw_or h h2) fun _ _ _ h => wT_or h
theorem ptv_of {e : Expr} (h : PWv X e ba ta) : PTv X e ba ta := h.pt
theorem ptv_not (h : PTv X a ba ta) : PTv X (.UnaryOp .Not a pos) ba (tNotE ta) := PT.imp (pt_not h) fun _ _ _ h => wT_not h
/-- as values, of bools -/
def eAndE (a b : Ev) (σ : Sg) : Option (Rs × Sg) := match a σ with
  | some (.v (.p (.bool true)), σ1) => b σ1
  | some (.v (.p (.bool false)), σ1) => some (.v (.p (.bool false)), σ1)
  | _ => none
def eOrE (a b : Ev) (σ : Sg) : Option (Rs × Sg) := match a σ with
  | some (.v (.p (.bool true)), σ1) => some (.v (.p (.bool true)), σ1)
  | some (.v (.p (.bool false)), σ1) => b σ1
  | _ => none
def eNotE (a : Ev) (σ : Sg) : Option (Rs × Sg) := match a σ with
  | some (.v (.p (.bool c)), σ1) => some (.v (.p (.bool (!c))), σ1)
  | _ => none
theorem wE_and {M : Md} {σm : St} {H : Hp} {Q : VK} (h : wE M (ba && bb) (eAndE ea eb) σm H Q) : tAndV (wE M ba ea) (wE M bb eb) σm H Q := by
  obtain ⟨σ, Hf, R, φ, r, σ', k, e, q⟩ := h
  dsimp only [eAndE] at e
  split at e
  · rename_i s1 he
    refine ⟨σ, Hf, R, φ, _, s1, k, he, fun v H1 Hf1 φ1 G1 l1 k1 rr own p1 => ?_⟩
    have rr' : RD M Hf1 v (.bool true) := rr
    cases rr'
    refine ⟨true, rfl, ?_⟩
    simp only [if_true]
    refine ⟨s1, Hf1, R, φ1, r, σ', k1, e, fun v2 H2 Hf2 φ2 G2 l2 k2 rr2 own2 p2 => q v2 H2 Hf2 φ2 G2 (l1.trans l2) k2 rr2 own2 fun hb => ?_⟩
    rw [Bool.and_eq_true] at hb
    exact (p1 hb.1).trans (p2 hb.2)
  · rename_i s1 he
    cases e
    refine ⟨σ, Hf, R, φ, _, _, k, he, fun v H1 Hf1 φ1 G1 l1 k1 rr own p1 => ?_⟩
    have rr' : RD M Hf1 v (.bool false) := rr
    cases rr'
    refine ⟨false, rfl, ?_⟩
    simp only [Bool.false_eq_true, if_false]
    refine q (.bl false) H1 Hf1 φ1 noF l1 k1 (RD.bl false) Own.no fun hb => ?_
    rw [Bool.and_eq_true] at hb
    exact p1 hb.1
  · cases e
theorem wE_or {M : Md} {σm : St} {H : Hp} {Q : VK} (h : wE M (ba && bb) (eOrE ea eb) σm H Q) : tOrV (wE M ba ea) (wE M bb eb) σm H Q := by
  obtain ⟨σ, Hf, R, φ, r, σ', k, e, q⟩ := h
  dsimp only [eOrE] at e
  split at e
  · rename_i s1 he
    cases e
    refine ⟨σ, Hf, R, φ, _, _, k, he, fun v H1 Hf1 φ1 G1 l1 k1 rr own p1 => ?_⟩
    have rr' : RD M Hf1 v (.bool true) := rr
    cases rr'
    refine ⟨true, rfl, ?_⟩
    simp only [if_true]
    refine q (.bl true) H1 Hf1 φ1 noF l1 k1 (RD.bl true) Own.no fun hb => ?_
    rw [Bool.and_eq_true] at hb
    exact p1 hb.1
  · rename_i s1 he
    refine ⟨σ, Hf, R, φ, _, s1, k, he, fun v H1 Hf1 φ1 G1 l1 k1 rr own p1 => ?_⟩
    have rr' : RD M Hf1 v (.bool false) := rr
    cases rr'
    refine ⟨false, rfl, ?_⟩
    simp only [Bool.false_eq_true, if_false]
    refine ⟨s1, Hf1, R, φ1, r, σ', k1, e, fun v2 H2 Hf2 φ2 G2 l2 k2 rr2 own2 p2 => q v2 H2 Hf2 φ2 G2 (l1.trans l2) k2 rr2 own2 fun hb => ?_⟩
    rw [Bool.and_eq_true] at hb
    exact (p1 hb.1).trans (p2 hb.2)
  · cases e
theorem wE_not {M : Md} {σm : St} {H : Hp} {Q : VK} (h : wE M ba (eNotE ea) σm H Q) : tNotV (wE M ba ea) σm H Q := by
  obtain ⟨σ, Hf, R, φ, r, σ', k, e, q⟩ := h
  dsimp only [eNotE] at e
  split at e
  · rename_i c s1 he
    cases e
    refine ⟨σ, Hf, R, φ, _, _, k, he, fun v H1 Hf1 φ1 G1 l1 k1 rr own p1 => ?_⟩
    have rr' : RD M Hf1 v (.bool c) := rr
    cases rr'
    exact ⟨c, rfl, q (.bl (!c)) H1 Hf1 φ1 noF l1 k1 (RD.bl _) Own.no p1⟩
  · cases e
theorem pev_one {op} (h : PEv X a ba ea) : PEv X (.BoolOp op [a] pos) ba ea := pe_one h
theorem pev_and (h : PEv X a ba ea) (h2 : PEv X (.BoolOp .And (b :: rest) pos) bb eb) : PEv X (.BoolOp .And (a :: b :: rest) pos) (ba && bb) (eAndE ea eb) := PE.imp (pe_and h h2) fun _ _ _ h => wE_and h
theorem pev_or (h : PEv X a ba ea) (h2 : PEv X (.BoolOp .Or (b :: rest) pos) bb eb) : PEv X (.BoolOp .Or (a :: b :: rest) pos) (ba && bb) (eOrE ea eb) := PE.imp (pe_or h h2) fun _ _ _ h => wE_or h
theorem pev_not (h : PEv X a ba ea) : PEv X (.UnaryOp .Not a pos) ba (eNotE ea) := PE.imp (pe_not h) fun _ _ _ h => wE_not h
/-- a if t else b -/
def eIfE (t : Tv) (a b : Ev) (σ : Sg) : Option (Rs × Sg) := match t σ with
  | some (true, σ1) => a σ1
  | some (false, σ1) => b σ1
  | none => none
theorem wE_if {M : Md} {bt : Bool} {tt : Tv} {σm : St} {H : Hp} {Q : VK} (h : wE M (bt && ba && bb) (eIfE tt ea eb) σm H Q) : tIf (wT M bt tt) (wE M ba ea) (wE M bb eb) σm H Q := by
  obtain ⟨σ, Hf, R, φ, r, σ', k, e, q⟩ := h
  dsimp only [eIfE] at e
  split at e
  · rename_i s1 he
    refine ⟨σ, Hf, R, φ, true, s1, k, he, fun H1 Hf1 φ1 l1 k1 p1 => ?_⟩
    simp only [if_true]
    refine ⟨s1, Hf1, R, φ1, r, σ', k1, e, fun v2 H2 Hf2 φ2 G2 l2 k2 rr2 own2 p2 => q v2 H2 Hf2 φ2 G2 (l1.trans l2) k2 rr2 own2 fun hb => ?_⟩
    simp only [Bool.and_eq_true] at hb
    exact (p1 hb.1.1).trans (p2 hb.1.2)
  · rename_i s1 he
    refine ⟨σ, Hf, R, φ, false, s1, k, he, fun H1 Hf1 φ1 l1 k1 p1 => ?_⟩
    simp only [Bool.false_eq_true, if_false]
    refine ⟨s1, Hf1, R, φ1, r, σ', k1, e, fun v2 H2 Hf2 φ2 G2 l2 k2 rr2 own2 p2 => q v2 H2 Hf2 φ2 G2 (l1.trans l2) k2 rr2 own2 fun hb => ?_⟩
    simp only [Bool.and_eq_true] at hb
    exact (p1 hb.1.1).trans (p2 hb.2)
  · cases e
theorem pev_if {c : Expr} {bt : Bool} {tt : Tv} (hc : PTv X c bt tt) (ha : PEv X a ba ea) (hb : PEv X b bb eb) : PEv X (.IfExp c a b pos) (bt && ba && bb) (eIfE tt ea eb) := PE.imp (pe_ifExp hc ha hb) fun _ _ _ h => wE_if h
end

/-! ### one operand -/
def eUn (f : D → Option Out) (a : Ev) (σ : Sg) : Option (Rs × Sg) :=
  match a σ with
  | none => none
  | some (r, σ1) => match peek r σ1 with
    | none => none
    | some d => match f d with
      | some out => some (.v out.o, σ1)
      | none => none
def Rule1 (M : Md) (f : D → Option Out) (r : V → Hp → VK → Prop) : Prop := ∀ Hf H x d out Q, Le Hf H → RDp M Hf H x d → f d = some out → PO M Hf H Q out → r x H Q
section
variable {X : Cx} {a : Expr} {ba : Bool} {ea : Ev} {pos : Pos} {f : D → Option Out} {r : V → Hp → VK → Prop}
theorem wE_un (hr : Rule1 (mdOf X) f r) {σm : St} {H : Hp} {Q : VK} (h : wE (mdOf X) ba (eUn f ea) σm H Q) : tUn r (wE (mdOf X) ba ea) σm H Q := by
  obtain ⟨σ, Hf, R, φ, r0, σ', k, e, q⟩ := h
  dsimp only [eUn] at e
  split at e
  · cases e
  · rename_i r1 σ1 e1
    refine ⟨σ, Hf, R, φ, r1, σ1, k, e1, fun v1 H1 Hf1 φ1 G1 l1 k1 rr1 own1 p1 => ?_⟩
    split at e
    · cases e
    · rename_i d hd
      split at e
      · rename_i out eo
        cases e
        refine hr Hf1 H1 v1 d out Q k1.fz (peek_rd k1 rr1 hd) eo (PO.of k1 fun v H' Hf' φ' G l k' ro own le => ?_)
        exact q v H' Hf' φ' G (l1.trans l) k' ro own fun hb => (p1 hb).trans le
      · cases e
theorem pev_un {op : UnaryOp} (ho : UnR X (unaryOp op) r) (hr : Rule1 (mdOf X) f r) (ha : PEv X a ba ea) : PEv X (.UnaryOp op a pos) ba (eUn f ea) := PE.imp (pe_un ho ha) fun _ _ _ h => wE_un hr h
end

/-! ### arguments -/
abbrev Av := Sg → Option (List Hd × Sg)
inductive HRs (M : Md) (Hf : Hp) (σm : St) : List V → List Hd → Prop
  | nil : HRs M Hf σm [] []
  | cons {v : V} {vs : List V} {c : Hd} {cs : List Hd} : HR M Hf σm v c → HRs M Hf σm vs cs → HRs M Hf σm (v :: vs) (c :: cs)
theorem HRs.le {M : Md} {Hf Hf' : Hp} {σm : St} (k : Le Hf Hf') : ∀ {vs : List V} {cs : List Hd}, HRs M Hf σm vs cs → HRs M Hf' σm vs cs
  | _, _, .nil => .nil
  | _, _, .cons h r => .cons (h.le k) (HRs.le k r)
def wA (M : Md) (b : Bool) (e : Av) : TA := fun σm H Q => ∃ σ Hf R φ cs σ', Ok M Hf R H φ σm σ ∧ e σ = some (cs, σ') ∧
  ∀ vs H' Hf' φ', Le Hf Hf' → Ok M Hf' R H' φ' σm σ' → HRs M Hf' σm vs cs → (b = true → Le H H') → Q vs H'
abbrev PAv (X : Cx) (es : List Expr) (b : Bool) (ea : Av) : Prop := PA X es (wA (mdOf X) b ea)
def aNil (σ : Sg) : Option (List Hd × Sg) := some ([], σ)
def aCons (e : Ev) (as : Av) (σ : Sg) : Option (List Hd × Sg) := match e σ with
  | none => none
  | some (r, σ1) => match hold r σ1 with
    | none => none
    | some (c, σ2) => match as σ2 with
      | none => none
      | some (cs, σ3) => some (c :: cs, σ3)
section
variable {X : Cx} {e : Expr} {es : List Expr} {b b' : Bool} {ea : Ev} {as : Av}
theorem pav_nil : PAv X [] true aNil := PA.imp pa_nil fun σm H Q h => by
  obtain ⟨σ, Hf, R, φ, cs, σ', k, e, q⟩ := h
  cases e
  exact q [] H Hf φ (Le.refl _) k .nil fun _ => Le.refl _
theorem wA_cons {M : Md} {σm : St} {H : Hp} {Q : List V → Hp → Prop} (h : wA M (b && b') (aCons ea as) σm H Q) : tCons (wE M b ea) (wA M b' as) σm H Q := by
  obtain ⟨σ, Hf, R, φ, cs0, σ', k, e, q⟩ := h
  dsimp only [aCons] at e
  split at e
  · cases e
  · rename_i r1 σ1 e1
    refine ⟨σ, Hf, R, φ, r1, σ1, k, e1, fun v1 H1 Hf1 φ1 G1 l1 k1 rr1 own1 p1 => ?_⟩
    split at e
    · cases e
    · rename_i c σ2 e2
      obtain ⟨Hf2, φ2, l2, k2, hr⟩ := hold_ok k1 rr1 own1 e2
      split at e
      · cases e
      · rename_i cs σ3 e3
        cases e
        refine ⟨σ2, Hf2, R, φ2, cs, _, k2, e3, fun vs H3 Hf3 φ3 l3 k3 hrs p3 => ?_⟩
        refine q (v1 :: vs) H3 Hf3 φ3 ((l1.trans l2).trans l3) k3 (.cons (hr.le l3) hrs) fun hb => ?_
        rw [Bool.and_eq_true] at hb
        exact (p1 hb.1).trans (p3 hb.2)
theorem pav_cons (ha : PEv X e b ea) (hr : PAv X es b' as) (hs : starEach (e :: es) X.env = (false, eval e X.env) :: starEach es X.env := by rfl) : PAv X (e :: es) (b && b') (aCons ea as) := PA.imp (pa_cons ha hr hs) fun _ _ _ h => wA_cons h
end
/-- all of them, looked at -/
def unholds : List Hd → Sg → Option (List D)
  | [], _ => some []
  | c :: cs, σ => match unhold c σ with
    | none => none
    | some d => match unholds cs σ with
      | none => none
      | some ds => some (d :: ds)
inductive RDps (M : Md) (Hf H : Hp) : List V → List D → Prop
  | nil : RDps M Hf H [] []
  | cons {v : V} {vs : List V} {d : D} {ds : List D} : RDp M Hf H v d → RDps M Hf H vs ds → RDps M Hf H (v :: vs) (d :: ds)
theorem unholds_rd {M : Md} {Hf R H : Hp} {φ : Nat → Fp} {σm : St} {σ : Sg} (k : Ok M Hf R H φ σm σ) : ∀ {vs : List V} {cs : List Hd} {ds : List D}, HRs M Hf σm vs cs → unholds cs σ = some ds → RDps M Hf H vs ds
  | _, _, _, .nil, e => by cases e; exact .nil
  | _, _, _, .cons h r, e => by
    unfold unholds at e
    split at e
    · cases e
    · rename_i d hd
      split at e
      · cases e
      · rename_i ds hds
        cases e
        exact .cons (unhold_rd k h hd) (unholds_rd k r hds)
/-- a call of something built in -/
def eCallB (f : List D → Option Out) (as : Av) (σ : Sg) : Option (Rs × Sg) := match as σ with
  | none => none
  | some (cs, σ1) => match unholds cs σ1 with
    | none => none
    | some ds => match f ds with
      | some out => some (.v out.o, σ1)
      | none => none
def RuleC (M : Md) (f : List D → Option Out) (r : List V → Hp → VK → Prop) : Prop := ∀ Hf H xs ds out Q, Le Hf H → RDps M Hf H xs ds → f ds = some out → PO M Hf H Q out → r xs H Q
section
variable {X : Cx} {es : List Expr} {b : Bool} {as : Av} {f : List D → Option Out} {r : List V → Hp → VK → Prop}
theorem wE_callB (hr : RuleC (mdOf X) f r) {σm : St} {H : Hp} {Q : VK} (h : wE (mdOf X) b (eCallB f as) σm H Q) : tCB r (wA (mdOf X) b as) σm H Q := by
  obtain ⟨σ, Hf, R, φ, r0, σ', k, e, q⟩ := h
  dsimp only [eCallB] at e
  split at e
  · cases e
  · rename_i cs σ1 e1
    refine ⟨σ, Hf, R, φ, cs, σ1, k, e1, fun vs H1 Hf1 φ1 l1 k1 hrs p1 => ?_⟩
    split at e
    · cases e
    · rename_i ds hd
      split at e
      · rename_i out eo
        cases e
        refine hr Hf1 H1 vs ds out Q k1.fz (unholds_rd k1 hrs hd) eo (PO.of k1 fun v H' Hf' φ' G l k' ro own le => ?_)
        exact q v H' Hf' φ' G (l1.trans l) k' ro own fun hb => (p1 hb).trans le
      · cases e
variable {x : Str} {p pos : Pos} {e : Expr} {id T : String}
theorem pev_callB (hc : CallR X (.builtin id) r) (hr : RuleC (mdOf X) f r) (hg : Gl X x) (hm : X.mg x = none) (hv : bootBuiltins x = some (.builtin id)) (ha : PAv X (e :: es) b as) (hn : x ≠ "__name__" := by decide) (hdb : (x == ("__debug__" : Str)) = false := by decide)
    (he : starEach (e :: es) X.env = (false, eval e X.env) :: starEach es X.env := by rfl) (hpl : (backTo pos (starEach es X.env)).any (·.1) = false := by rfl) : PEv X (.Call (.Name x p) (e :: es) [] pos) b (eCallB f as) :=
  PE.imp (pe_callB hc hg hm hv ha hn hdb he hpl) fun _ _ _ h => wE_callB hr h
theorem pev_callTy (hc : CallR X (.type T) r) (hr : RuleC (mdOf X) f r) (hg : Gl X x) (hm : X.mg x = none) (hv : bootBuiltins x = some (.type T)) (ha : PAv X (e :: es) b as) (hn : x ≠ "__name__" := by decide) (hdb : (x == ("__debug__" : Str)) = false := by decide)
    (he : starEach (e :: es) X.env = (false, eval e X.env) :: starEach es X.env := by rfl) (hpl : (backTo pos (starEach es X.env)).any (·.1) = false := by rfl) : PEv X (.Call (.Name x p) (e :: es) [] pos) b (eCallB f as) :=
  PE.imp (pe_callTy hc hg hm hv ha hn hdb he hpl) fun _ _ _ h => wE_callB hr h
end

/-! ### displays -/
/-- all of them, frozen -/
def frzAll : List Hd → Sg → Option (List D × Sg)
  | [], σ => some ([], σ)
  | .d x :: cs, σ => match frzAll cs σ with | some (ds, σ') => some (x :: ds, σ') | none => none
  | .at i :: cs, σ => match frz (match σ[i]? with | some (some (.p d)) => .v (.p d) | _ => .at i) σ with
    | none => none
    | some (d, σ1) => match frzAll cs σ1 with | some (ds, σ') => some (d :: ds, σ') | none => none
theorem frzAll_ok {M : Md} {R H : Hp} {σm : St} : ∀ {Hf : Hp} {φ : Nat → Fp} {σ σ' : Sg} {vs : List V} {cs : List Hd} {ds : List D}, Ok M Hf R H φ σm σ → HRs M Hf σm vs cs → frzAll cs σ = some (ds, σ') →
    ∃ Hf' φ', Le Hf Hf' ∧ Ok M Hf' R H φ' σm σ' ∧ RDs M Hf' vs ds
  | Hf, φ, _, _, _, _, _, k, .nil, e => by cases e; exact ⟨Hf, φ, Le.refl _, k, .nil⟩
  | Hf, φ, σ, _, _, .d x :: cs, _, k, .cons h r, e => by
    unfold frzAll at e
    split at e
    · rename_i ds s1 e1
      cases e
      obtain ⟨Hf', φ', l, k', rd⟩ := frzAll_ok k r e1
      exact ⟨Hf', φ', l, k', .cons (RD.le l h) rd⟩
    · cases e
  | Hf, φ, σ, _, v :: _, .at i :: cs, _, k, .cons h r, e => by
    unfold frzAll at e
    split at e
    · cases e
    · rename_i d s1 e1
      have step : ∃ Hf1 φ1, Le Hf Hf1 ∧ Ok M Hf1 R H φ1 σm s1 ∧ RD M Hf1 v d := by
        split at e1
        · rename_i d' ho
          obtain ⟨v', h1, h2⟩ := k.sl i _ ho
          have h' : σm[i]? = some (some v) := h
          rw [h'] at h1
          have e2 : v = v' := by simpa using h1
          subst e2
          exact frz_ok k (r := .v (.p d')) (G := noF) h2 Own.no e1
        · exact frz_ok k (r := .at i) (G := noF) h Own.no e1
      obtain ⟨Hf1, φ1, l1, k1, rd1⟩ := step
      split at e
      · rename_i ds s2 e2
        cases e
        obtain ⟨Hf', φ', l, k', rd⟩ := frzAll_ok k1 (r.le l1) e2
        exact ⟨Hf', φ', l1.trans l, k', .cons (RD.le l rd1) rd⟩
      · cases e
def eTup (as : Av) (σ : Sg) : Option (Rs × Sg) := match as σ with
  | none => none
  | some (cs, σ1) => match frzAll cs σ1 with
    | none => none
    | some (ds, σ2) => if Cl (ds.length ≤ sizeLine) then some (.v (.p (.tuple ds)), σ2) else none
def eLst (as : Av) (σ : Sg) : Option (Rs × Sg) := match as σ with
  | none => none
  | some (cs, σ1) => match frzAll cs σ1 with
    | none => none
    | some (ds, σ2) => if Cl (ds.length ≤ sizeLine) then some (.v (.l ds), σ2) else none
section
variable {X : Cx} {es : List Expr} {b : Bool} {as : Av} {pos : Pos}
theorem pev_tup {x1} (h : PAv X es b as) : PEv X (.Tuple es x1 pos) b (eTup as) := PE.imp (pe_tup h) fun σm H Q hh => by
  obtain ⟨σ, Hf, R, φ, r0, σ', k, e, q⟩ := hh
  dsimp only [eTup] at e
  split at e
  · cases e
  · rename_i cs σ1 e1
    refine ⟨σ, Hf, R, φ, cs, σ1, k, e1, fun vs H1 Hf1 φ1 l1 k1 hrs p1 => ?_⟩
    split at e
    · cases e
    · rename_i ds σ2 e2
      split at e
      · rename_i hz
        cases e
        obtain ⟨Hf2, φ2, l2, k2, rd⟩ := frzAll_ok k1 hrs e2
        refine ⟨by rw [rd.length]; exact hz, fun p n => ?_⟩
        exact (PO.of (out := .tp ds) k2 fun v H' Hf' φ' G l k' ro own le => q v H' Hf' φ' G ((l1.trans l2).trans l) k' ro own fun hb => (p1 hb).trans le) p vs n rd
      · cases e
theorem pev_lst (h : PAv X es b as) : PEv X (.List es pos) b (eLst as) := PE.imp (pe_lst h) fun σm H Q hh => by
  obtain ⟨σ, Hf, R, φ, r0, σ', k, e, q⟩ := hh
  dsimp only [eLst] at e
  split at e
  · cases e
  · rename_i cs σ1 e1
    refine ⟨σ, Hf, R, φ, cs, σ1, k, e1, fun vs H1 Hf1 φ1 l1 k1 hrs p1 => ?_⟩
    split at e
    · cases e
    · rename_i ds σ2 e2
      split at e
      · rename_i hz
        cases e
        obtain ⟨Hf2, φ2, l2, k2, rd⟩ := frzAll_ok k1 hrs e2
        refine ⟨by rw [rd.length]; exact hz, fun p n => ?_⟩
        exact (PO.of (out := .ls ds) k2 fun v H' Hf' φ' G l k' ro own le => q v H' Hf' φ' G ((l1.trans l2).trans l) k' ro own fun hb => (p1 hb).trans le) p vs n rd
      · cases e
end
end
end PV

set_option Elab.async false
set_option linter.all false
set_option maxRecDepth 100000
set_option maxHeartbeats 1000000
/-! PVc: items, slices, methods, statements -/
namespace PV
noncomputable section
open PySem PySem.Spec L2
open PyProof.Rows hiding St

section
variable {M : Md} {Hf Hf' R H H' : Hp} {φ φ' : Nat → Fp} {σm : St} {σ : Sg} {v : V} {r : Rs} {G : Fp}
/-- what is owned at G kept by the frame -/
theorem Ok.keepG (k : Ok M Hf R H φ σm σ) (g : Own Hf R H φ G) : Ok M Hf (ext R H G) H φ σm σ where
  fz := k.fz
  rz := ext_le k.rz
  fr := fun a o e => by
    by_cases hG : G a
    · exact (g a hG).1
    · rw [ext_out hG] at e; exact k.fr a o e
  len := k.len
  sl := k.sl
  dj := k.dj
  fp := fun i a ha => by
    refine ⟨(k.fp i a ha).1, ?_, (k.fp i a ha).2.2⟩
    rw [ext_out fun hG => (g a hG).2.2.2 i ha]
    exact (k.fp i a ha).2.1
/-- back again -/
theorem Ok.freeG (g : Own Hf R H φ G) (k : Ok M Hf' (ext R H G) H' φ' σm σ) : Ok M Hf' R H' φ' σm σ ∧ Own Hf' R H' φ' G ∧ ∀ a, G a → H' a = H a := by
  have lR : Le R (ext R H G) := le_ext fun a ha => (g a ha).2.1
  have at_ : ∀ a, G a → H' a = H a := fun a ha => by
    cases e : H a with
    | none => exact absurd e (g a ha).2.2.1
    | some u => exact k.rz a u (by rw [ext_in ha]; exact e)
  refine ⟨⟨k.fz, lR.trans k.rz, fun a o e => k.fr a o (lR a o e), k.len, k.sl, k.dj, fun i a ha => ⟨(k.fp i a ha).1, ?_, (k.fp i a ha).2.2⟩⟩, fun a ha => ⟨?_, (g a ha).2.1, by rw [at_ a ha]; exact (g a ha).2.2.1, fun i hi => ?_⟩, at_⟩
  · cases e : R a with
    | none => rfl
    | some u => have := (k.fp i a ha).2.1; rw [lR a u e] at this; cases this
  · cases e : H a with
    | none => exact absurd e (g a ha).2.2.1
    | some u => exact k.fr a u (by rw [ext_in ha]; exact e)
  · have := (k.fp i a hi).2.1
    rw [ext_in ha] at this
    exact (g a ha).2.2.1 this
/-- a result stays over what changes nothing of it -/
theorem RR.keep (h : RR M Hf H σm v r G) (l : Le Hf Hf') (kG : ∀ a, G a → H' a = H a) (p : Le H H') : RR M Hf' H' σm v r G := by
  cases r with
  | v o => exact RO.keep h l kG
  | «at» i => exact h
  | it i j =>
    obtain ⟨a, vs, h1, h2, h3⟩ := h
    exact ⟨a, vs, h1, p _ _ h2, h3⟩
end

/-! ### items -/
def getD : List (D × D) → D → Option D
  | [], _ => none
  | (k, x) :: r, d => if PyData.eqv k d = true then some x else getD r d
def atD : D → D → Option D
  | .list ds, .int k => atI ds k
  | .tuple ds, .int k => atI ds k
  | .str z, .int k => if Cl (z.length ≤ sizeLine) then (atI z.cps.toList k).map fun c => .str ⟨#[c]⟩ else none
  | _, _ => none
def itemP (r : Rs) (di : D) (σ : Sg) : Option (Rs × Sg) := match peek r σ with
  | some d => match atD d di with
    | some x => some (.v (.p x), σ)
    | none => none
  | none => none
def itemAt (r : Rs) (di : D) (σ : Sg) : Option (Rs × Sg) := match r with
  | .at i => match σ[i]? with
    | some (some (.n os)) => match di with
      | .int k => match ixN os.length k with
        | some j => match os[j]? with
          | some (.p d) => some (.v (.p d), σ)
          | some _ => some (.it i j, σ)
          | none => none
        | none => none
      | _ => none
    | _ => itemP r di σ
  | _ => itemP r di σ
theorem RDs.atI {M : Md} {H : Hp} {vs : List V} {ds : List D} {k : Int} {d : D} (h : RDs M H vs ds) (e : atI ds k = some d) : ∃ v, atI vs k = some v ∧ RD M H v d := by
  unfold L2.atI at e
  cases hx : ixN ds.length k with
  | none => rw [hx] at e; cases e
  | some j =>
    rw [hx] at e
    obtain ⟨v, h1, h2⟩ := h.get' (i := j) (by simpa using e)
    refine ⟨v, ?_, h2⟩
    unfold L2.atI
    rw [h.length, hx]
    simpa using h1
theorem itemP_same {r r' : Rs} {di : D} {σ σ' : Sg} (e : itemP r di σ = some (r', σ')) : σ' = σ := by
  unfold itemP at e
  repeat (first | (split at e) | (cases e; rfl) | (cases e))
theorem itemAt_same {r r' : Rs} {di : D} {σ σ' : Sg} (e : itemAt r di σ = some (r', σ')) : σ' = σ := by
  unfold itemAt at e
  repeat (first | exact itemP_same e | (split at e) | (cases e; rfl) | (cases e))
section
variable {X : Cx} {a b : Expr} {ba bb : Bool} {ea eb : Ev} {pos : Pos}
/-- the rule for an item does itemAt -/
theorem item_ok {M : Md} {Hf R H : Hp} {φ : Nat → Fp} {σm : St} {σ σ' : Sg} {v y : V} {r r' : Rs} {G : Fp} {di : D} {Q : VK} (k : Ok M Hf R H φ σm σ) (h : RR M Hf H σm v r G) (hi : RDp M Hf H y di)
    (e : itemAt r di σ = some (r', σ')) (q : ∀ w, RR M Hf H σm w r' noF → Q w H) : σ' = σ ∧ rIx M.K v y H Q := by
  have plain : ∀ {d x : D}, peek r σ = some d → atD d di = some x → (∀ w, RD M Hf w x → Q w H) → rIx M.K v y H Q := fun {d x} e1 e2 q => by
    have hd := peek_rd k h e1
    unfold atD at e2
    split at e2
    · rename_i ds j
      obtain ⟨a, xs, rfl, h1, h2⟩ := hd
      cases hi
      obtain ⟨w, w1, w2⟩ := h2.atI e2
      exact .inl ⟨a, xs, j, w, rfl, rfl, h1, w1, q w w2⟩
    · rename_i ds j
      cases hd with
      | tup h1 h2 =>
        cases hi
        obtain ⟨w, w1, w2⟩ := h2.atI e2
        exact .inr (.inl ⟨_, _, j, w, rfl, rfl, sqt_le h1 k.fz, w1, q w w2⟩)
    · rename_i z j
      split at e2
      · rename_i hz
        cases hd
        cases hi
        cases hc : atI z.cps.toList j with
        | none => rw [hc] at e2; cases e2
        | some c =>
          rw [hc] at e2
          cases e2
          exact .inr (.inr ⟨z, j, c, rfl, rfl, hz, hc, q _ (.str _)⟩)
      · cases e2
    · cases e2
  have viaP : itemP r di σ = some (r', σ') → σ' = σ ∧ rIx M.K v y H Q := fun e => by
    unfold itemP at e
    split at e
    · rename_i d hd
      split at e
      · rename_i x hx
        cases e
        exact ⟨rfl, plain hd hx fun w hw => q w hw⟩
      · cases e
    · cases e
  unfold itemAt at e
  split at e
  · rename_i i
    split at e
    · rename_i os ho
      split at e
      · rename_i kk
        split at e
        · rename_i j hj
          cases hi
          obtain ⟨v', h1, a, vs, ψ, e1, h2, h3, h4⟩ := k.sl i _ ho
          have h' : σm[i]? = some (some v) := h
          rw [h'] at h1
          have e2 : v = v' := by simpa using h1
          subst e2
          subst e1
          split at e
          · rename_i d hd
            cases e
            have hl : j < vs.length := by rw [h4.len]; exact (List.getElem?_eq_some_iff.mp hd).1
            have hv : vs[j]? = some vs[j] := by simp [hl]
            have rd := h4.it j _ _ hv hd
            refine ⟨rfl, .inl ⟨a, vs, kk, vs[j], rfl, rfl, SqL.of h2, ?_, q _ rd⟩⟩
            unfold L2.atI
            rw [h4.len, hj]
            exact hv
          · rename_i o hno hd
            cases e
            have hl : j < vs.length := by rw [h4.len]; exact (List.getElem?_eq_some_iff.mp hd).1
            have hv : vs[j]? = some vs[j] := by simp [hl]
            refine ⟨rfl, .inl ⟨a, vs, kk, vs[j], rfl, rfl, SqL.of h2, ?_, q _ ⟨a, vs, h', h2, hv⟩⟩⟩
            unfold L2.atI
            rw [h4.len, hj]
            exact hv
          · cases e
        · cases e
      · cases e
    · exact viaP e
  · exact viaP e
/-- base[index], the index changes nothing -/
def eItem (a b : Ev) (σ : Sg) : Option (Rs × Sg) := match a σ with
  | none => none
  | some (r1, σ1) => match b σ1 with
    | none => none
    | some (r2, σ2) => match peek r2 σ2 with
      | some di => itemAt r1 di σ2
      | none => none
theorem pev_item (ha : PEv X a ba ea) (hb : PEv X b true eb) (hs : PlainIx b) : PEv X (.Subscript a b pos) ba (eItem ea eb) := by
  refine PE.imp (pe_ix ix_seq ha hb hs) fun σm H Q h => ?_
  obtain ⟨σ, Hf, R, φ, r0, σ', k, e, q⟩ := h
  dsimp only [eItem] at e
  split at e
  · cases e
  · rename_i r1 σ1 e1
    refine ⟨σ, Hf, R, φ, r1, σ1, k, e1, fun v1 H1 Hf1 φ1 G1 l1 k1 rr1 own1 p1 => ?_⟩
    split at e
    · cases e
    · rename_i r2 σ2 e2
      refine ⟨σ1, Hf1, ext R H1 G1, φ1, r2, σ2, k1.keepG own1, e2, fun v2 H2 Hf2 φ2 G2 l2 k2' rr2 own2' p2 => ?_⟩
      split at e
      · rename_i di hd
        obtain ⟨k2, ownG, atG⟩ := Ok.freeG own1 k2'
        have rr1' := rr1.keep l2 atG (p2 rfl)
        obtain rfl := itemAt_same e
        obtain ⟨_, g⟩ := item_ok (M := mdOf X) (Q := Q) k2 rr1' (peek_rd k2 rr2 hd) e fun w hw => q w H2 Hf2 φ2 noF (l1.trans l2) k2 hw Own.no fun hb => (p1 hb).trans (p2 rfl)
        exact g
      · cases e
/-- base[index], the base a plain value or a name -/
def Hd.r : Hd → Rs
  | .d x => .v (.p x)
  | .at i => .at i
theorem HR.rr {M : Md} {Hf H : Hp} {σm : St} {v : V} {c : Hd} (h : HR M Hf σm v c) : RR M Hf H σm v c.r noF := by
  cases c with
  | d x => exact h
  | «at» i => exact h
def eItemH (a b : Ev) (σ : Sg) : Option (Rs × Sg) := match a σ with
  | none => none
  | some (r1, σ1) => match hold r1 σ1 with
    | none => none
    | some (c1, σ2) => match b σ2 with
      | none => none
      | some (r2, σ3) => match peek r2 σ3 with
        | some di => itemAt c1.r di σ3
        | none => none
theorem pev_itemH (ha : PEv X a ba ea) (hb : PEv X b bb eb) (hs : PlainIx b) : PEv X (.Subscript a b pos) (ba && bb) (eItemH ea eb) := by
  refine PE.imp (pe_ix ix_seq ha hb hs) fun σm H Q h => ?_
  obtain ⟨σ, Hf, R, φ, r0, σ', k, e, q⟩ := h
  dsimp only [eItemH] at e
  split at e
  · cases e
  · rename_i r1 σ1 e1
    refine ⟨σ, Hf, R, φ, r1, σ1, k, e1, fun v1 H1 Hf1 φ1 G1 l1 k1 rr1 own1 p1 => ?_⟩
    split at e
    · cases e
    · rename_i c1 σ2 e2
      obtain ⟨Hf2, φ2, l2, k2, hr2⟩ := hold_ok k1 rr1 own1 e2
      split at e
      · cases e
      · rename_i r2 σ3 e3
        refine ⟨σ2, Hf2, R, φ2, r2, σ3, k2, e3, fun v2 H3 Hf3 φ3 G3 l3 k3 rr3 own3 p3 => ?_⟩
        split at e
        · rename_i di hd
          obtain rfl := itemAt_same e
          obtain ⟨_, g⟩ := item_ok (M := mdOf X) (Q := Q) k3 ((hr2.le l3).rr) (peek_rd k3 rr3 hd) e fun w hw => q w H3 Hf3 φ3 noF ((l1.trans l2).trans l3) k3 hw Own.no fun hb => by
            rw [Bool.and_eq_true] at hb
            exact (p1 hb.1).trans (p3 hb.2)
          exact g
        · cases e
end

/-! ### slices -/
def cutD (xs : List D) (lo hi : Option Int) : List D := (xs.drop (HT.sIx xs.length 0 lo)).take (HT.sIx xs.length xs.length hi - HT.sIx xs.length 0 lo)
theorem RDs.cut {M : Md} {H : Hp} {vs : List V} {ds : List D} (h : RDs M H vs ds) (lo hi : Option Int) : RDs M H (cutV vs lo hi) (cutD ds lo hi) := by
  unfold cutV cutD
  rw [h.length]
  exact (h.drop _).take _
inductive Sl where
  | none
  | some (e : Ev)
def slD : Sl → Sg → Option (Option Int × Sg)
  | .none, σ => some (Option.none, σ)
  | .some e, σ => match e σ with
    | Option.some (.v (.p (.int i)), σ') => Option.some (Option.some i, σ')
    | _ => Option.none
def wO (M : Md) (b : Bool) (e : Sl) : TO := fun σm H Q => ∃ σ Hf R φ i σ', Ok M Hf R H φ σm σ ∧ slD e σ = some (i, σ') ∧
  ∀ H' Hf' φ', Le Hf Hf' → Ok M Hf' R H' φ' σm σ' → (b = true → Le H H') → Q i H'
theorem PO.imp' {X : Cx} {e : Option Expr} {t u : TO} (h : L2.PO X e t) (k : ∀ σ H Q, u σ H Q → t σ H Q) : L2.PO X e u := ⟨fun pins s σ H Q I hu => h.run pins s σ H Q I (k σ H Q hu)⟩
abbrev POv (X : Cx) (e : Option Expr) (b : Bool) (ea : Sl) : Prop := L2.PO X e (wO (mdOf X) b ea)
section
variable {X : Cx} {a : Expr} {lo hi : Option Expr} {ba bl bh : Bool} {ea : Ev} {el eh : Sl} {pos p2 : Pos}
theorem pov_none : POv X none true .none := PO.imp' po_none fun σm H Q h => by
  obtain ⟨σ, Hf, R, φ, i, σ', k, e, q⟩ := h
  cases e
  exact q H Hf φ (Le.refl _) k fun _ => Le.refl _
theorem pov_some {b : Bool} (h : PEv X a b ea) : POv X (some a) b (.some ea) := PO.imp' (po_some h) fun σm H Q h => by
  obtain ⟨σ, Hf, R, φ, i, σ', k, e, q⟩ := h
  dsimp only [slD] at e
  split at e
  · rename_i j s1 he
    cases e
    refine ⟨σ, Hf, R, φ, _, _, k, he, fun v H' Hf' φ' G l k' rr own p => ?_⟩
    have rr' : RD _ Hf' v (.int j) := rr
    cases rr'
    exact ⟨j, rfl, q H' Hf' φ' l k' p⟩
  · cases e
/-- a slice: of a list new; of a tuple new or the tuple itself; of a text -/
def sliceD : D → Option Int → Option Int → Option Out
  | .list ds, lo, hi => some (.ls (cutD ds lo hi))
  | .tuple ds, lo, hi => some (.te (cutD ds lo hi))
  | .str z, lo, hi => if Cl (z.length ≤ sizeLine) then some (.ex (.str (cutS z lo hi))) else none
  | _, _, _ => none
def eSlice (a : Ev) (lo hi : Sl) (σ : Sg) : Option (Rs × Sg) := match a σ with
  | none => none
  | some (r1, σ1) => match hold r1 σ1 with
    | none => none
    | some (c1, σ2) => match slD lo σ2 with
      | none => none
      | some (l, σ3) => match slD hi σ3 with
        | none => none
        | some (h, σ4) => match unhold c1 σ4 with
          | none => none
          | some d => match sliceD d l h with
            | some out => some (.v out.o, σ4)
            | none => none
theorem cutD_whole {ds : List D} {lo hi : Option Int} (h : HT.sIx ds.length 0 lo = 0 ∧ HT.sIx ds.length ds.length hi = ds.length) : cutD ds lo hi = ds := by
  unfold cutD
  rw [h.1, h.2]
  simp
theorem sl_any : SlR X (fun x lo hi H Q => rSlL X.K x lo hi H Q ∨ rSlA X.K x lo hi H Q ∨ rSlS x lo hi H Q) := sl_list.or (sl_tupA.or sl_str)
theorem slice_ok {M : Md} {Hf H : Hp} {v : V} {d : D} {l h : Option Int} {out : Out} {Q : VK} (k : Le Hf H) (hd : RDp M Hf H v d) (e : sliceD d l h = some out) (q : PO M Hf H Q out) : rSlL M.K v l h H Q ∨ rSlA M.K v l h H Q ∨ rSlS v l h H Q := by
  unfold sliceD at e
  split at e
  · cases e
    obtain ⟨a, xs, rfl, h1, h2⟩ := hd
    exact .inl ⟨a, xs, rfl, h1, fun p n => q p _ n (h2.cut _ _)⟩
  · rename_i ds
    cases e
    cases hd with
    | tup h1 h2 =>
      refine .inr (.inl ⟨_, _, rfl, sqt_le h1 k, fun w => q.1 _ ?_, fun _ p n => q.2 p _ n (h2.cut _ _)⟩)
      rw [h2.length] at w
      rw [cutD_whole w]
      exact .tup h1 h2
  · split at e
    · rename_i hz
      cases e
      cases hd
      exact .inr (.inr ⟨_, rfl, hz, q _ (.str _)⟩)
    · cases e
  · cases e
end
section
variable {X : Cx} {a : Expr} {lo hi : Option Expr} {ba bl bh : Bool} {ea : Ev} {el eh : Sl} {pos p2 : Pos}
theorem pev_slice (ha : PEv X a ba ea) (hl : POv X lo bl el) (hh : POv X hi bh eh) : PEv X (.Subscript a (.Slice lo hi none p2) pos) (ba && bl && bh) (eSlice ea el eh) := by
  refine PE.imp (pe_slice sl_any ha hl hh) fun σm H Q h => ?_
  obtain ⟨σ, Hf, R, φ, r0, σ', k, e, q⟩ := h
  dsimp only [eSlice] at e
  split at e
  · cases e
  · rename_i r1 σ1 e1
    refine ⟨σ, Hf, R, φ, r1, σ1, k, e1, fun v1 H1 Hf1 φ1 G1 l1 k1 rr1 own1 p1 => ?_⟩
    split at e
    · cases e
    · rename_i c1 σ2 e2
      obtain ⟨Hf2, φ2, l2, k2, hr2⟩ := hold_ok k1 rr1 own1 e2
      split at e
      · cases e
      · rename_i l σ3 e3
        refine ⟨σ2, Hf2, R, φ2, l, σ3, k2, e3, fun H3 Hf3 φ3 l3 k3 p3 => ?_⟩
        split at e
        · cases e
        · rename_i h σ4 e4
          refine ⟨σ3, Hf3, R, φ3, h, σ4, k3, e4, fun H4 Hf4 φ4 l4 k4 p4 => ?_⟩
          split at e
          · cases e
          · rename_i d hd
            split at e
            · rename_i out eo
              cases e
              refine slice_ok (M := mdOf X) k4.fz (unhold_rd k4 ((hr2.le l3).le l4) hd) eo (PO.of k4 fun v H' Hf' φ' G l k' ro own le => ?_)
              refine q v H' Hf' φ' G (((l1.trans l2).trans (l3.trans l4)).trans l) k' ro own fun hb => ?_
              simp only [Bool.and_eq_true] at hb
              exact (((p1 hb.1.1).trans (p3 hb.1.2)).trans (p4 hb.2)).trans le
            · cases e
end

/-! ### methods of what is built in, that change nothing -/
def eMeth (ty : D → Bool) (f : D → List D → Option Out) (a : Ev) (as : Av) (σ : Sg) : Option (Rs × Sg) := match a σ with
  | none => none
  | some (r1, σ1) => match hold r1 σ1 with
    | none => none
    | some (c1, σ2) => match unhold c1 σ2 with
      | none => none
      | some d0 => if ty d0 = true then match as σ2 with
        | none => none
        | some (cs, σ3) => match unhold c1 σ3, unholds cs σ3 with
          | some d, some ds => match f d ds with
            | some out => some (.v out.o, σ3)
            | none => none
          | _, _ => none
        else none
def RuleM (M : Md) (f : D → List D → Option Out) (r : V → List V → Hp → VK → Prop) : Prop := ∀ Hf H x xs d ds out Q, Le Hf H → RDp M Hf H x d → RDps M Hf H xs ds → f d ds = some out → PO M Hf H Q out → r x xs H Q
/-- the value's type, as a method call asks it -/
def TyOk (X : Cx) (T : String) (p : V → Hp → Prop) : Prop := ∀ (pins : List (Addr × Obj)) (s : Shared) (σ : St) (H : Hp) (x : V) (v : Value), Inv X pins σ H s → RelV x v → p x H → s.TypeIs v T ∧ ∀ a, v = .ref a → ∃ ob, s.heap.get? a = some ob ∧ ob.dict = none
theorem ty_v {X : Cx} {T : String} : TyOk X T (tyV X.K T) := fun _ _ _ _ _ _ I r ty => tyV_is I r ty
section
variable {X : Cx} {o e : Expr} {es : List Expr} {to : TE} {t : TA} {name : Str} {apos cpos : Pos} {T id : String} {r : V → List V → Hp → VK → Prop} {p : V → Hp → Prop}
theorem pe_bmP0 (hT : TyOk X T p) (pa : PlainAttrs T) (slot : Slot T name id) (hty : typeOf (.builtin id) = pure (.type "method_descriptor")) (hm : MtR X id r) (ho : PE X o to)
    (hbase : attributeBase o name X.env (eval o X.env) = eval o X.env := by rfl) (hline : (apos.endLine == cpos.line) = true := by rfl) : PE X (.Call (.Attribute o name apos) [] [] cpos) (fun σ H Q => to σ H fun x H1 => p x H1 ∧ r x [] H1 Q) := by
  refine ⟨fun pins s σ H Q I h => ?_⟩
  refine wpAny_Call_method0_late hbase hline (thn (ho.run pins s σ H _ I h) fun v s1 ⟨x, H1, I1, r1, ty, q1⟩ => ?_)
  obtain ⟨h1, h2⟩ := hT _ _ _ _ _ _ I1 r1 ty
  exact ⟨T, id, pa, slot, hty, h1, h2, Calls.callWith_builtin rfl (PySem.evalArgs_none (hm pins s1 σ H1 x [] v [] Q I1 r1 .nil q1))⟩
theorem pe_bmP (hT : TyOk X T p) (pa : PlainAttrs T) (slot : Slot T name id) (hty : typeOf (.builtin id) = pure (.type "method_descriptor")) (hm : MtR X id r) (ho : PE X o to) (ha : PA X (e :: es) t)
    (hbase : attributeBase o name X.env (eval o X.env) = eval o X.env := by rfl)
    (hfew : ((backTo cpos (starEach (e :: es) X.env)).all (fun x => !x.1) && (backToKw cpos (keywordEach [] X.env)).all (fun x => x.1.isSome)
      && decide ((e :: es).length + ([] : List Keyword).length + (if ([] : List Keyword).isEmpty then 0 else 1) < 30)) = true := by rfl)
    (hline : (apos.endLine == cpos.line) = true := by rfl) (hs : starEach (e :: es) X.env = (false, eval e X.env) :: starEach es X.env := by rfl) (hplain : (backTo cpos (starEach es X.env)).any (·.1) = false := by rfl) :
    PE X (.Call (.Attribute o name apos) (e :: es) [] cpos) (fun σ H Q => to σ H fun x H1 => p x H1 ∧ t σ H1 fun xs H2 => r x xs H2 Q) := by
  refine ⟨fun pins s σ H Q I h => ?_⟩
  refine wpAny_Call_method_late hbase hfew hline rfl (thn (ho.run pins s σ H _ I h) fun v s1 ⟨x, H1, I1, r1, ty, q1⟩ => ?_)
  obtain ⟨h1, h2⟩ := hT _ _ _ _ _ _ I1 r1 ty
  refine ⟨T, id, pa, slot, hty, h1, h2, ?_⟩
  have hA := ha.run cpos pins s1 σ H1 _ I1 q1
  rw [hs] at hA ⊢
  refine Calls.callWith_builtin (by show (false || (backTo cpos (starEach es X.env)).any (·.1)) = false; rw [hplain] <;> rfl) (Calls.evalArgs_plain ?_)
  exact thn hA fun us s2 ⟨vs, H2, I2, r2, q2⟩ => hm pins s2 σ H2 x vs v us Q I2 r1 r2 q2
end
section
variable {X : Cx} {o e : Expr} {es : List Expr} {ba b : Bool} {ea : Ev} {as : Av} {ty : D → Bool} {f : D → List D → Option Out} {r : V → List V → Hp → VK → Prop} {p : V → Hp → Prop}
theorem wE_meth (hr : RuleM (mdOf X) f r) (hp : ∀ Hf H v d, Le Hf H → RDp (mdOf X) Hf H v d → ty d = true → p v H) {σm : St} {H : Hp} {Q : VK} (h : wE (mdOf X) (ba && b) (eMeth ty f ea as) σm H Q) :
    wE (mdOf X) ba ea σm H fun x H1 => p x H1 ∧ wA (mdOf X) b as σm H1 fun xs H2 => r x xs H2 Q := by
  obtain ⟨σ, Hf, R, φ, r0, σ', k, e, q⟩ := h
  dsimp only [eMeth] at e
  split at e
  · cases e
  · rename_i r1 σ1 e1
    refine ⟨σ, Hf, R, φ, r1, σ1, k, e1, fun v1 H1 Hf1 φ1 G1 l1 k1 rr1 own1 p1 => ?_⟩
    split at e
    · cases e
    · rename_i c1 σ2 e2
      obtain ⟨Hf2, φ2, l2, k2, hr2⟩ := hold_ok k1 rr1 own1 e2
      split at e
      · cases e
      · rename_i d0 hd0
        split at e
        · rename_i hty
          refine ⟨hp Hf2 H1 v1 d0 k2.fz (unhold_rd k2 hr2 hd0) hty, ?_⟩
          split at e
          · cases e
          · rename_i cs σ3 e3
            refine ⟨σ2, Hf2, R, φ2, cs, σ3, k2, e3, fun vs H3 Hf3 φ3 l3 k3 hrs p3 => ?_⟩
            split at e
            · rename_i d ds u1 u2
              split at e
              · rename_i out eo
                cases e
                refine hr Hf3 H3 v1 vs d ds out Q k3.fz (unhold_rd k3 (hr2.le l3) u1) (unholds_rd k3 hrs u2) eo (PO.of k3 fun v H' Hf' φ' G l k' ro own le => ?_)
                refine q v H' Hf' φ' G ((l1.trans l2).trans (l3.trans l)) k' ro own fun hb => ?_
                rw [Bool.and_eq_true] at hb
                exact ((p1 hb.1).trans (p3 hb.2)).trans le
              · cases e
            · cases e
        · cases e
theorem wE_meth0 (hr : RuleM (mdOf X) f r) (hp : ∀ Hf H v d, Le Hf H → RDp (mdOf X) Hf H v d → ty d = true → p v H) {σm : St} {H : Hp} {Q : VK} (h : wE (mdOf X) ba (eMeth ty f ea aNil) σm H Q) :
    wE (mdOf X) ba ea σm H fun x H1 => p x H1 ∧ r x [] H1 Q := by
  obtain ⟨σ, Hf, R, φ, r0, σ', k, e, q⟩ := h
  dsimp only [eMeth, aNil] at e
  split at e
  · cases e
  · rename_i r1 σ1 e1
    refine ⟨σ, Hf, R, φ, r1, σ1, k, e1, fun v1 H1 Hf1 φ1 G1 l1 k1 rr1 own1 p1 => ?_⟩
    split at e
    · cases e
    · rename_i c1 σ2 e2
      obtain ⟨Hf2, φ2, l2, k2, hr2⟩ := hold_ok k1 rr1 own1 e2
      split at e
      · cases e
      · rename_i d0 hd0
        split at e
        · rename_i hty
          refine ⟨hp Hf2 H1 v1 d0 k2.fz (unhold_rd k2 hr2 hd0) hty, ?_⟩
          dsimp only [unholds] at e
          split at e
          · rename_i d ds u1 u2
            cases u2
            split at e
            · rename_i out eo
              cases e
              refine hr Hf2 H1 v1 [] d [] out Q k2.fz (unhold_rd k2 hr2 u1) .nil eo (PO.of k2 fun v H' Hf' φ' G l k' ro own le => ?_)
              exact q v H' Hf' φ' G ((l1.trans l2).trans l) k' ro own fun hb => (p1 hb).trans le
            · cases e
          · cases e
        · cases e
variable {name : Str} {apos cpos : Pos} {T id : String}
theorem pev_meth (hr : RuleM (mdOf X) f r) (hp : ∀ Hf H v d, Le Hf H → RDp (mdOf X) Hf H v d → ty d = true → p v H) (hT : TyOk X T p) (pa : PlainAttrs T) (slot : Slot T name id) (hty : typeOf (.builtin id) = pure (.type "method_descriptor")) (hm : MtR X id r)
    (ho : PEv X o ba ea) (ha : PAv X (e :: es) b as)
    (hbase : attributeBase o name X.env (eval o X.env) = eval o X.env := by rfl)
    (hfew : ((backTo cpos (starEach (e :: es) X.env)).all (fun x => !x.1) && (backToKw cpos (keywordEach [] X.env)).all (fun x => x.1.isSome)
      && decide ((e :: es).length + ([] : List Keyword).length + (if ([] : List Keyword).isEmpty then 0 else 1) < 30)) = true := by rfl)
    (hline : (apos.endLine == cpos.line) = true := by rfl) (hs : starEach (e :: es) X.env = (false, eval e X.env) :: starEach es X.env := by rfl) (hplain : (backTo cpos (starEach es X.env)).any (·.1) = false := by rfl) :
    PEv X (.Call (.Attribute o name apos) (e :: es) [] cpos) (ba && b) (eMeth ty f ea as) :=
  PE.imp (pe_bmP hT pa slot hty hm ho ha hbase hfew hline hs hplain) fun _ _ _ h => wE_meth hr hp h
theorem pev_meth0 (hr : RuleM (mdOf X) f r) (hp : ∀ Hf H v d, Le Hf H → RDp (mdOf X) Hf H v d → ty d = true → p v H) (hT : TyOk X T p) (pa : PlainAttrs T) (slot : Slot T name id) (hty : typeOf (.builtin id) = pure (.type "method_descriptor")) (hm : MtR X id r)
    (ho : PEv X o ba ea) (hbase : attributeBase o name X.env (eval o X.env) = eval o X.env := by rfl) (hline : (apos.endLine == cpos.line) = true := by rfl) :
    PEv X (.Call (.Attribute o name apos) [] [] cpos) ba (eMeth ty f ea aNil) :=
  PE.imp (pe_bmP0 hT pa slot hty hm ho hbase hline) fun _ _ _ h => wE_meth0 hr hp h
end
end
end PV

set_option Elab.async false
set_option linter.all false
set_option maxRecDepth 100000
set_option maxHeartbeats 1000000
/-! PVd: statements, changes in place -/
namespace PV
noncomputable section
open PySem PySem.Spec L2
open PyProof.Rows hiding St

inductive Res where
  | nx (σ : Sg)
  | bk (σ : Sg)
  | ct (σ : Sg)
  | rt (o : O) (σ : Sg)
abbrev Ex := Sg → Option Res
/-- the slots io hold what they held -/
abbrev Io := Nat → Prop
def Kept (io : Io) (σm σm' : St) : Prop := σm'.length = σm.length ∧ ∀ i, io i → σm'[i]? = σm[i]?
theorem Kept.refl {io : Io} {σm : St} : Kept io σm σm := ⟨rfl, fun _ _ => rfl⟩
theorem Kept.trans {io : Io} {a b c : St} (h : Kept io a b) (k : Kept io b c) : Kept io a c := ⟨k.1.trans h.1, fun i hi => (k.2 i hi).trans (h.2 i hi)⟩
def Aft (M : Md) (io : Io) (Hf R : Hp) (σm : St) (σ' : Sg) (Q : St → Hp → Prop) : Prop :=
  ∀ σm' H' Hf' φ', Le Hf Hf' → Ok M Hf' R H' φ' σm' σ' → Kept io σm σm' → Q σm' H'
def AftR (M : Md) (io : Io) (Hf R : Hp) (σm : St) (o : O) (σ' : Sg) (Q : VK) : Prop :=
  ∀ v σm' H' Hf' φ' G, Le Hf Hf' → Ok M Hf' R H' φ' σm' σ' → Kept io σm σm' → RO M Hf' H' v o G → Own Hf' R H' φ' G → Q v H'
def RQ (M : Md) (io : Io) (Hf R : Hp) (σm : St) (Dn : Ends) : Res → Prop
  | .nx σ' => Aft M io Hf R σm σ' Dn.nx
  | .bk σ' => Aft M io Hf R σm σ' Dn.bk
  | .ct σ' => Aft M io Hf R σm σ' Dn.ct
  | .rt o σ' => AftR M io Hf R σm o σ' Dn.rt
def wS (M : Md) (io : Io) (x : Ex) : TS := fun Dn σm H => ∃ σ Hf R φ r, Ok M Hf R H φ σm σ ∧ x σ = some r ∧ RQ M io Hf R σm Dn r
abbrev PSv (X : Cx) (io : Io) (st : Stmt) (x : Ex) : Prop := PS X st (wS (mdOf X) io x)
abbrev PSsv (X : Cx) (io : Io) (st : List Stmt) (x : Ex) : Prop := PSs X st (wS (mdOf X) io x)
section
variable {M : Md} {io : Io} {Hf Hf1 R : Hp} {σm σm1 : St} {Dn : Ends} {r : Res}
theorem RQ.on (h : RQ M io Hf R σm Dn r) (l : Le Hf Hf1) (k : Kept io σm σm1) : RQ M io Hf1 R σm1 Dn r := by
  cases r with
  | nx σ' => exact fun σm' H' Hf' φ' l' o k' => h σm' H' Hf' φ' (l.trans l') o (k.trans k')
  | bk σ' => exact fun σm' H' Hf' φ' l' o k' => h σm' H' Hf' φ' (l.trans l') o (k.trans k')
  | ct σ' => exact fun σm' H' Hf' φ' l' o k' => h σm' H' Hf' φ' (l.trans l') o (k.trans k')
  | rt o σ' => exact fun v σm' H' Hf' φ' G l' ok k' => h v σm' H' Hf' φ' G (l.trans l') ok (k.trans k')
end

/-! ### blocks, if, return -/
def xNil (σ : Sg) : Option Res := some (.nx σ)
def xSeq (a b : Ex) (σ : Sg) : Option Res := match a σ with
  | some (.nx σ1) => b σ1
  | r => r
section
variable {X : Cx} {io : Io} {st : Stmt} {sts ss : List Stmt} {x y : Ex} {e : Expr} {b : Bool} {ea : Ev} {pos : Pos}
theorem psv_nil : PSsv X io [] xNil := PSs.imp pss_nil fun Dn σm H h => by
  obtain ⟨σ, Hf, R, φ, r, k, e, q⟩ := h
  cases e
  exact q σm H Hf φ (Le.refl _) k Kept.refl
theorem wS_seq {M : Md} {Dn : Ends} {σm : St} {H : Hp} (h : wS M io (xSeq x y) Dn σm H) : tSeq (wS M io x) (wS M io y) Dn σm H := by
  obtain ⟨σ, Hf, R, φ, r, k, e, q⟩ := h
  dsimp only [xSeq] at e
  split at e
  · rename_i σ1 e1
    refine ⟨σ, Hf, R, φ, _, k, e1, fun σm1 H1 Hf1 φ1 l1 k1 kp1 => ?_⟩
    exact ⟨σ1, Hf1, R, φ1, r, k1, e, q.on l1 kp1⟩
  · rename_i hn
    refine ⟨σ, Hf, R, φ, r, k, e, ?_⟩
    cases r with
    | nx σ' => exact absurd e (hn σ')
    | bk σ' => exact q
    | ct σ' => exact q
    | rt o σ' => exact q
theorem psv_cons (h1 : PSv X io st x) (h2 : PSsv X io sts y) : PSsv X io (st :: sts) (xSeq x y) := PSs.imp (pss_cons h1 h2) fun _ _ _ h => wS_seq h
theorem psv_one (h1 : PSv X io st x) : PSsv X io [st] x := pss_one h1
def xBrk (σ : Sg) : Option Res := some (.bk σ)
def xCnt (σ : Sg) : Option Res := some (.ct σ)
theorem psv_pass : PSv X io (.Pass pos) xNil := PS.imp ps_pass fun Dn σm H h => by
  obtain ⟨σ, Hf, R, φ, r, k, e, q⟩ := h
  cases e
  exact q σm H Hf φ (Le.refl _) k Kept.refl
theorem psv_break : PSv X io (.Break pos) xBrk := PS.imp ps_break fun Dn σm H h => by
  obtain ⟨σ, Hf, R, φ, r, k, e, q⟩ := h
  cases e
  exact q σm H Hf φ (Le.refl _) k Kept.refl
theorem psv_continue : PSv X io (.Continue pos) xCnt := PS.imp ps_continue fun Dn σm H h => by
  obtain ⟨σ, Hf, R, φ, r, k, e, q⟩ := h
  cases e
  exact q σm H Hf φ (Le.refl _) k Kept.refl
def xIf (t : Tv) (a b : Ex) (σ : Sg) : Option Res := match t σ with
  | some (true, σ1) => a σ1
  | some (false, σ1) => b σ1
  | none => none
theorem psv_if {c : Expr} {bt : Bool} {tt : Tv} {A B : List Stmt} (hc : PTv X c bt tt) (ha : PSsv X io A x) (hb : PSsv X io B y) : PSv X io (.If c A B pos) (xIf tt x y) :=
  PS.imp (ps_if hc ha hb) fun Dn σm H h => by
    obtain ⟨σ, Hf, R, φ, r, k, e, q⟩ := h
    dsimp only [xIf] at e
    split at e
    · rename_i σ1 e1
      refine ⟨σ, Hf, R, φ, true, σ1, k, e1, fun H1 Hf1 φ1 l1 k1 _ => ?_⟩
      simp only [if_true]
      exact ⟨σ1, Hf1, R, φ1, r, k1, e, q.on l1 Kept.refl⟩
    · rename_i σ1 e1
      refine ⟨σ, Hf, R, φ, false, σ1, k, e1, fun H1 Hf1 φ1 l1 k1 _ => ?_⟩
      simp only [Bool.false_eq_true, if_false]
      exact ⟨σ1, Hf1, R, φ1, r, k1, e, q.on l1 Kept.refl⟩
    · cases e
def xDrop (a : Ev) (σ : Sg) : Option Res := match a σ with
  | some (_, σ1) => some (.nx σ1)
  | none => none
theorem psv_expr (ha : PEv X e b ea) (hs : swapsWith e none pos.line X.env = pure false := by rfl) : PSv X io (.Expr e pos) (xDrop ea) := PS.imp (ps_expr ha hs) fun Dn σm H h => by
  obtain ⟨σ, Hf, R, φ, r, k, e, q⟩ := h
  dsimp only [xDrop] at e
  split at e
  · rename_i r1 σ1 e1
    cases e
    exact ⟨σ, Hf, R, φ, _, σ1, k, e1, fun v H' Hf' φ' G l k' rr own p => q σm H' Hf' φ' l k' Kept.refl⟩
  · cases e
/-- what a return hands out: what a name of one's own holds goes along -/
def takeR : Rs → Sg → Option (O × Sg)
  | .at i, σ => match σ[i]? with | some (some o) => some (o, σ.set i none) | _ => none
  | r, σ => take r σ
theorem takeR_ok {M : Md} {Hf R H : Hp} {φ : Nat → Fp} {σm : St} {σ σ' : Sg} {v : V} {r : Rs} {o : O} {G : Fp} (k : Ok M Hf R H φ σm σ) (h : RR M Hf H σm v r G) (g : Own Hf R H φ G) (e : takeR r σ = some (o, σ')) :
    ∃ Hf' φ' G', Le Hf Hf' ∧ Ok M Hf' R H φ' σm σ' ∧ RO M Hf' H v o G' ∧ Own Hf' R H φ' G' := by
  cases r with
  | v o' => exact take_ok k h g e
  | «at» i =>
    dsimp only [takeR] at e
    split at e
    · rename_i o' ho
      cases e
      obtain ⟨v', h1, h2⟩ := k.sl i _ ho
      have h' : σm[i]? = some (some v) := h
      rw [h'] at h1
      have e2 : v = v' := by simpa using h1
      subst e2
      exact ⟨Hf, _, φ i, Le.refl _, k.put0 (i := i) (x := none) (fun o e => by cases e), h2, k.le_own⟩
    · cases e
  | it i j => exact take_ok k h g e
def xRet (a : Ev) (σ : Sg) : Option Res := match a σ with
  | some (r, σ1) => match takeR r σ1 with
    | some (o, σ2) => some (.rt o σ2)
    | none => none
  | none => none
theorem psv_ret (ha : PEv X e b ea) : PSv X io (.Return (some e) pos) (xRet ea) := PS.imp (ps_ret ha) fun Dn σm H h => by
  obtain ⟨σ, Hf, R, φ, r, k, e, q⟩ := h
  dsimp only [xRet] at e
  split at e
  · rename_i r1 σ1 e1
    refine ⟨σ, Hf, R, φ, r1, σ1, k, e1, fun v H' Hf' φ' G l k' rr own p => ?_⟩
    split at e
    · rename_i o σ2 e2
      cases e
      obtain ⟨Hf2, φ2, G2, l2, k2, ro, own2⟩ := takeR_ok k' rr own e2
      exact q v σm H' Hf2 φ2 G2 (l.trans l2) k2 Kept.refl ro own2
    · cases e
  · cases e
def xRetN (σ : Sg) : Option Res := some (.rt (.p .none) σ)
theorem psv_retN : PSv X io (.Return none pos) xRetN := PS.imp ps_retN fun Dn σm H h => by
  obtain ⟨σ, Hf, R, φ, r, k, e, q⟩ := h
  cases e
  exact q .non σm H Hf φ noF (Le.refl _) k Kept.refl RD.non Own.no
end

/-! ### targets -/
section
variable {M : Md} {Hf R H : Hp} {φ : Nat → Fp} {σm : St} {σ : Sg}
theorem Ok.put (k : Ok M Hf R H φ σm σ) {i : Nat} {v : V} {o : O} {G : Fp} (h : RO M Hf H v o G) (g : Own Hf R H φ G) : Ok M Hf R H (fun j => if j = i then G else φ j) (σm.set i (some v)) (σ.set i (some o)) where
  fz := k.fz
  rz := k.rz
  fr := k.fr
  len := by rw [List.length_set, List.length_set]; exact k.len
  sl := fun j o' e => by
    by_cases hj : j = i
    · subst hj
      by_cases hl : j < σ.length
      · rw [List.getElem?_set_self hl] at e
        have e' : o = o' := by simpa using e
        subst e'
        exact ⟨v, by rw [List.getElem?_set_self (by rw [k.len]; exact hl)], by simpa using h⟩
      · rw [List.getElem?_eq_none (by simpa using hl)] at e; cases e
    · rw [List.getElem?_set_ne (Ne.symm hj)] at e
      obtain ⟨w, h1, h2⟩ := k.sl j o' e
      exact ⟨w, by rw [List.getElem?_set_ne (Ne.symm hj)]; exact h1, by simpa [hj] using h2⟩
  dj := fun j l a h1 h2 => by
    by_cases hj : j = i
    · by_cases hl : l = i
      · rw [hj, hl]
      · simp [hj] at h1; simp [hl] at h2; exact absurd h2 ((g a h1).2.2.2 l)
    · by_cases hl : l = i
      · simp [hl] at h2; simp [hj] at h1; exact absurd h1 ((g a h2).2.2.2 j)
      · simp [hj] at h1; simp [hl] at h2; exact k.dj j l a h1 h2
  fp := fun j a h => by
    by_cases hj : j = i
    · simp [hj] at h; exact ⟨(g a h).1, (g a h).2.1, (g a h).2.2.1⟩
    · simp [hj] at h; exact k.fp j a h
end
theorem kept_set {io : Io} {i : Nat} {σm : St} {x : Option V} (hi : ¬ io i) : Kept io σm (σm.set i x) := ⟨List.length_set, fun j hj => by
  rw [List.getElem?_set_ne]
  rintro rfl
  exact hi hj⟩
/-- where a datum is put -/
abbrev Tg := D → Sg → Option Sg
def wG (M : Md) (io : Io) (t : Tg) : TG := fun v σm H Q => ∃ σ Hf R φ d σ', Ok M Hf R H φ σm σ ∧ RD M Hf v d ∧ t d σ = some σ' ∧
  ∀ σm' Hf' φ', Le Hf Hf' → Ok M Hf' R H φ' σm' σ' → Kept io σm σm' → Q σm' H
abbrev Tgs := List D → Sg → Option Sg
def wGs (M : Md) (io : Io) (t : Tgs) : TGs := fun vs σm H Q => ∃ σ Hf R φ ds σ', Ok M Hf R H φ σm σ ∧ RDs M Hf vs ds ∧ t ds σ = some σ' ∧
  ∀ σm' Hf' φ', Le Hf Hf' → Ok M Hf' R H φ' σm' σ' → Kept io σm σm' → Q σm' H
abbrev PGv (X : Cx) (io : Io) (tg : Expr) (t : Tg) : Prop := PG X tg (wG (mdOf X) io t)
abbrev PGsv (X : Cx) (io : Io) (tgs : List Expr) (t : Tgs) : Prop := PGs X tgs (wGs (mdOf X) io t)
theorem PG.imp {X : Cx} {e : Expr} {t u : TG} (h : PG X e t) (k : ∀ v σ H Q, u v σ H Q → t v σ H Q) : PG X e u := ⟨fun pins s σ H v w Q I r hu => h.run pins s σ H v w Q I r (k v σ H Q hu)⟩
theorem PGs.imp {X : Cx} {e : List Expr} {t u : TGs} (h : PGs X e t) (k : ∀ v σ H Q, u v σ H Q → t v σ H Q) : PGs X e u := ⟨fun pins s σ H v w Q I r hu => h.run pins s σ H v w Q I r (k v σ H Q hu)⟩
def tgName (i : Nat) (d : D) (σ : Sg) : Option Sg := some (σ.set i (some (.p d)))
def tgNil (ds : List D) (σ : Sg) : Option Sg := match ds with
  | [] => some σ
  | _ => none
def tgCons (t : Tg) (u : Tgs) (ds : List D) (σ : Sg) : Option Sg := match ds with
  | d :: r => match t d σ with
    | some σ1 => u r σ1
    | none => none
  | [] => none
def tgTup (n : Nat) (t : Tgs) (d : D) (σ : Sg) : Option Sg := match d with
  | .tuple ds => if ds.length = n then t ds σ else none
  | _ => none
section
variable {X : Cx} {io : Io} {pos : Pos}
theorem pgv_name {i : Nat} {x : Str} (hN : X.N.Nodup) (hi : X.N[i]? = some x) (hx : Loc X.env.scope x) (hio : ¬ io i) (hf : X.fn x = true ∨ X.env.scope.names.lookup x = some .local := by first | exact .inl rfl | exact .inr rfl | assumption) : PGv X io (.Name x pos) (tgName i) :=
  PG.imp (pg_name (i := i) hN hi hx hf) fun v σm H Q h => by
    obtain ⟨σ, Hf, R, φ, d, σ', k, rd, e, q⟩ := h
    cases e
    exact q _ Hf _ (Le.refl _) (k.put (o := .p d) (G := noF) rd Own.no) (kept_set hio)
theorem pgsv_nil : PGsv X io [] tgNil := PGs.imp pgs_nil fun v σm H Q h => by
  obtain ⟨σ, Hf, R, φ, ds, σ', k, rd, e, q⟩ := h
  dsimp only [tgNil] at e
  split at e
  · cases e
    cases rd
    exact ⟨rfl, q σm Hf φ (Le.refl _) k Kept.refl⟩
  · cases e
theorem pgsv_cons {e : Expr} {es : List Expr} {t : Tg} {u : Tgs} (h1 : PGv X io e t) (h2 : PGsv X io es u)
    (hs : (assignEach (e :: es) X.env).map (·.2) = assign e X.env :: (assignEach es X.env).map (·.2) := by rfl) : PGsv X io (e :: es) (tgCons t u) := PGs.imp (pgs_cons h1 h2 hs) fun v σm H Q h => by
  obtain ⟨σ, Hf, R, φ, ds, σ', k, rd, e, q⟩ := h
  dsimp only [tgCons] at e
  split at e
  · rename_i d r
    split at e
    · rename_i σ1 e1
      cases rd with
      | cons h t =>
        refine ⟨_, _, rfl, σ, Hf, R, φ, d, σ1, k, h, e1, fun σm1 Hf1 φ1 l1 k1 kp1 => ?_⟩
        exact ⟨σ1, Hf1, R, φ1, r, σ', k1, RDs.le l1 t, e, fun σm2 Hf2 φ2 l2 k2 kp2 => q σm2 Hf2 φ2 (l1.trans l2) k2 (kp1.trans kp2)⟩
    · cases e
  · cases e
theorem pgv_tup {es : List Expr} {kk : Nat} {t : Tgs} {n : Nat} (hc : X.calm = true) (h : PGsv X io es t)
    (hn : (assignEach es X.env).length = n := by rfl) (hst : (assignEach es X.env).findIdx? (·.1) = none := by rfl) : PGv X io (.Tuple es kk pos) (tgTup n t) :=
  PG.imp (pg_tup (n := n) hc h hn hst) fun v σm H Q h => by
    obtain ⟨σ, Hf, R, φ, d, σ', k, rd, e, q⟩ := h
    dsimp only [tgTup] at e
    split at e
    · rename_i ds
      split at e
      · rename_i hl
        cases rd with
        | tup h1 h2 => exact ⟨_, _, rfl, sqt_le h1 k.fz, by rw [h2.length]; exact hl, σ, Hf, R, φ, ds, σ', k, h2, e, q⟩
      · cases e
    · cases e
end

/-! ### assignments -/
def xSet (i : Nat) (a : Ev) (σ : Sg) : Option Res := match a σ with
  | some (r, σ1) => match take r σ1 with
    | some (o, σ2) => some (.nx (σ2.set i (some o)))
    | none => none
  | none => none
def xAsg (t : Tg) (a : Ev) (σ : Sg) : Option Res := match a σ with
  | some (r, σ1) => match frz r σ1 with
    | some (d, σ2) => match t d σ2 with
      | some σ3 => some (.nx σ3)
      | none => none
    | none => none
  | none => none
section
variable {X : Cx} {io : Io} {e : Expr} {b : Bool} {ea : Ev} {pos : Pos}
theorem wS_set {M : Md} {i : Nat} (hio : ¬ io i) {te : TE} (ht : ∀ σ H Q, wE M b ea σ H Q → te σ H Q) {Dn : Ends} {σm : St} {H : Hp} (h : wS M io (xSet i ea) Dn σm H) : tAsg te (gName i) Dn σm H := by
  obtain ⟨σ, Hf, R, φ, r, k, e, q⟩ := h
  dsimp only [xSet] at e
  split at e
  · rename_i r1 σ1 e1
    refine ht _ _ _ ⟨σ, Hf, R, φ, r1, σ1, k, e1, fun v H1 Hf1 φ1 G1 l1 k1 rr1 own1 p1 => ?_⟩
    split at e
    · rename_i o σ2 e2
      cases e
      obtain ⟨Hf2, φ2, G2, l2, k2, ro, own2⟩ := take_ok k1 rr1 own1 e2
      exact q _ H1 Hf2 _ (l1.trans l2) (k2.put ro own2) (kept_set hio)
    · cases e
  · cases e
theorem psv_set {i : Nat} {x : Str} {pos' : Pos} (hN : X.N.Nodup) (hi : X.N[i]? = some x) (hx : Loc X.env.scope x) (hio : ¬ io i) (ha : PEv X e b ea) (hs : swapsWith e (some (.Name x pos')) pos.line X.env = pure false := by rfl)
    (hf : X.fn x = true ∨ X.env.scope.names.lookup x = some .local := by first | exact .inl rfl | exact .inr rfl | assumption) : PSv X io (.Assign [.Name x pos'] e pos) (xSet i ea) :=
  PS.imp (ps_set hN hi hx ha hs hf) fun _ _ _ h => wS_set hio (fun _ _ _ h => h) h
theorem psv_asg {tg : Expr} {t : Tg} (ha : PEv X e b ea) (hg : PGv X io tg t) (hs : swapsWithSole [tg] e pos.line X.env = pure false := by rfl) (hw : swappedStores [tg] e X.env = pure none := by rfl)
    (h1 : (assignEach [tg] X.env).map (·.2) = [assign tg X.env] := by rfl) : PSv X io (.Assign [tg] e pos) (xAsg t ea) :=
  PS.imp (ps_asg ha hg hs hw h1) fun Dn σm H h => by
    obtain ⟨σ, Hf, R, φ, r, k, e, q⟩ := h
    dsimp only [xAsg] at e
    split at e
    · rename_i r1 σ1 e1
      refine ⟨σ, Hf, R, φ, r1, σ1, k, e1, fun v H1 Hf1 φ1 G1 l1 k1 rr1 own1 p1 => ?_⟩
      split at e
      · rename_i d σ2 e2
        split at e
        · rename_i σ3 e3
          cases e
          obtain ⟨Hf2, φ2, l2, k2, rd⟩ := frz_ok k1 rr1 own1 e2
          exact ⟨σ2, Hf2, R, φ2, d, σ3, k2, rd, e3, fun σm' Hf' φ' l k' kp => q σm' H1 Hf' φ' ((l1.trans l2).trans l) k' kp⟩
        · cases e
      · cases e
    · cases e
end

/-! ### changes in place -/
/-- the items of the list of one's own at a place -/
def getL : Rs → Sg → Option (List D)
  | .at i, σ => match σ[i]? with | some (some (.l xs)) => some xs | _ => none
  | .it i k, σ => match σ[i]? with | some (some (.n os)) => (match os[k]? with | some (.l xs) => some xs | _ => none) | _ => none
  | _, _ => none
def putL (r : Rs) (xs : List D) (σ : Sg) : Sg := match r with
  | .at i => σ.set i (some (.l xs))
  | .it i k => match σ[i]? with | some (some (.n os)) => σ.set i (some (.n (os.set k (.l xs)))) | _ => σ
  | _ => σ
theorem upd_place {M : Md} {Hf R H : Hp} {φ : Nat → Fp} {σm : St} {σ : Sg} {v : V} {r : Rs} {G : Fp} {xs : List D} (k : Ok M Hf R H φ σm σ) (h : RR M Hf H σm v r G) (e : getL r σ = some xs) :
    ∃ a vs, v = .ref a ∧ H a = some (.lst vs) ∧ RDs M Hf vs xs ∧ ∀ vs' xs', RDs M Hf vs' xs' → Ok M Hf R (upd H a (.lst vs')) φ σm (putL r xs' σ) := by
  -- what is changed at a, owned by the slot i
  have base : ∀ {a : Addr} {i : Nat} {vs' : List V}, φ i a → Le Hf (upd H a (.lst vs')) ∧ Le R (upd H a (.lst vs')) ∧ (∀ j b, φ j b → Hf b = none ∧ R b = none ∧ (upd H a (.lst vs')) b ≠ none) ∧
      ∀ j w o, j ≠ i → RO M Hf H w o (φ j) → RO M Hf (upd H a (.lst vs')) w o (φ j) := fun {a i vs'} ha => by
    obtain ⟨q1, q2, q3⟩ := k.fp i a ha
    refine ⟨fun b u hb => ?_, fun b u hb => ?_, fun j b hb => ?_, fun j w o hj ro => ro.keep (Le.refl _) fun b hb => upd_ne fun z => hj (k.dj j i b hb (by rw [z]; exact ha))⟩
    · rw [upd_ne fun z => by rw [z, q1] at hb; cases hb]; exact k.fz b u hb
    · rw [upd_ne fun z => by rw [z, q2] at hb; cases hb]; exact k.rz b u hb
    · refine ⟨(k.fp j b hb).1, (k.fp j b hb).2.1, ?_⟩
      by_cases z : b = a
      · rw [z, upd_same]; simp
      · rw [upd_ne z]; exact (k.fp j b hb).2.2
  cases r with
  | v o => cases e
  | «at» i =>
    dsimp only [getL] at e
    split at e
    · rename_i ys ho
      cases e
      obtain ⟨v', h1, a, vs, e1, h2, h3, h4⟩ := k.sl i _ ho
      have h' : σm[i]? = some (some v) := h
      rw [h'] at h1
      have e2 : v = v' := by simpa using h1
      subst e2
      refine ⟨a, vs, e1, h2, h3, fun vs' xs' rd => ?_⟩
      obtain ⟨b1, b2, b3, b4⟩ := base (vs' := vs') h4
      refine ⟨b1, b2, k.fr, by show _ = (σ.set i _).length; rw [List.length_set]; exact k.len, fun j o e => ?_, k.dj, b3⟩
      have e : (σ.set i (some (.l xs')))[j]? = some (some o) := e
      by_cases hj : j = i
      · subst hj
        rw [List.getElem?_set_self (List.getElem?_eq_some_iff.mp ho).1] at e
        have e' : O.l xs' = o := by simpa using e
        subst e'
        exact ⟨v, h', a, vs', e1, upd_same, rd, h4⟩
      · rw [List.getElem?_set_ne (Ne.symm hj)] at e
        obtain ⟨w, g1, g2⟩ := k.sl j o e
        exact ⟨w, g1, b4 j w o hj g2⟩
    · cases e
  | it i j =>
    dsimp only [getL] at e
    split at e
    · rename_i os ho
      split at e
      · rename_i ys ho'
        cases e
        obtain ⟨v', h1, a, vs, ψ, e1, h2, h3, h4⟩ := k.sl i _ ho
        obtain ⟨a', vs', g1, g2, g3⟩ := h
        rw [g1] at h1
        have e2 : V.ref a' = v' := by simpa using h1
        rw [e1] at e2
        have e3 : a' = a := by simpa using e2
        subst e3
        rw [g2] at h2
        have e4 : vs' = vs := by simpa using h2
        subst e4
        obtain ⟨c, ws, f1, f2, f3, f4⟩ := h4.it j v _ g3 ho'
        refine ⟨c, ws, f1, f2, f3, fun ws' xs' rd => ?_⟩
        have hc := h4.sub j c f4
        obtain ⟨b1, b2, b3, b4⟩ := base (i := i) (vs' := ws') hc.1
        have ep : putL (.it i j) xs' σ = σ.set i (some (.n (os.set j (.l xs')))) := by
          simp only [putL, ho]
        rw [ep]
        refine ⟨b1, b2, k.fr, by rw [List.length_set]; exact k.len, fun l o e => ?_, k.dj, b3⟩
        by_cases hl : l = i
        · subst hl
          rw [List.getElem?_set_self (List.getElem?_eq_some_iff.mp ho).1] at e
          have e' : O.n (os.set j (.l xs')) = o := by simpa using e
          subst e'
          refine ⟨_, g1, a', vs', ψ, rfl, by rw [upd_ne (Ne.symm hc.2)]; exact g2, h3, ⟨by rw [List.length_set]; exact h4.len, h4.sub, h4.dj, fun m w o f1' f2' => ?_⟩⟩
          by_cases hm : m = j
          · subst hm
            rw [List.getElem?_set_self (List.getElem?_eq_some_iff.mp ho').1] at f2'
            have e5 : O.l xs' = o := by simpa using f2'
            subst e5
            rw [g3] at f1'
            have e6 : v = w := by simpa using f1'
            subst e6
            exact ⟨c, ws', f1, upd_same, rd, f4⟩
          · rw [List.getElem?_set_ne (Ne.symm hm)] at f2'
            exact (h4.it m w o f1' f2').keep (Le.refl _) fun b hb => upd_ne fun z => hm (h4.dj m j b hb (by rw [z]; exact f4))
        · rw [List.getElem?_set_ne (Ne.symm hl)] at e
          obtain ⟨w, g1', g2'⟩ := k.sl l o e
          exact ⟨w, g1', b4 l w o hl g2'⟩
      · cases e
    · cases e
/-- a method that changes a list of one's own: f gives the list behind it and the answer -/
def eMut (f : List D → List D → Option (List D × D)) (a : Ev) (as : Av) (σ : Sg) : Option (Rs × Sg) := match a σ with
  | none => none
  | some (r, σ1) => match getL r σ1 with
    | none => none
    | some _ => match as σ1 with
      | none => none
      | some (cs, σ2) => match frzAll cs σ2 with
        | none => none
        | some (ds, σ3) => match getL r σ3 with
          | none => none
          | some xs => match f xs ds with
            | some (xs', d) => some (.v (.p d), putL r xs' σ3)
            | none => none
def RuleU (M : Md) (f : List D → List D → Option (List D × D)) (r : V → List V → Hp → VK → Prop) : Prop := ∀ Hf H a vs xs ws ds xs' d Q, Le Hf H → H a = some (.lst vs) → RDs M Hf vs xs → RDs M Hf ws ds → f xs ds = some (xs', d) →
  (∀ v vs', RD M Hf v d → RDs M Hf vs' xs' → Q v (upd H a (.lst vs'))) → r (.ref a) ws H Q
/-- a place that stays one: a name, or the arguments change nothing -/
def Steady (ea : Ev) (b : Bool) : Prop := b = true ∨ ∃ i, ea = eName i
theorem getL_at {M : Md} {Hf R H : Hp} {φ : Nat → Fp} {σm : St} {σ : Sg} {v : V} {r : Rs} {G : Fp} {xs : List D} (k : Ok M Hf R H φ σm σ) (h : RR M Hf H σm v r G) (e : getL r σ = some xs) : ∃ a vs, v = .ref a ∧ H a = some (.lst vs) :=
  let ⟨a, vs, e1, e2, _⟩ := upd_place k h e
  ⟨a, vs, e1, e2⟩
section
variable {X : Cx} {o e : Expr} {es : List Expr} {ba b : Bool} {ea : Ev} {as : Av} {f : List D → List D → Option (List D × D)} {r : V → List V → Hp → VK → Prop}
theorem wE_mut (hst : Steady ea b) (hr : RuleU (mdOf X) f r) {σm : St} {H : Hp} {Q : VK} (h : wE (mdOf X) false (eMut f ea as) σm H Q) :
    wE (mdOf X) ba ea σm H fun x H1 => tyV X.K "list" x H1 ∧ wA (mdOf X) b as σm H1 fun xs H2 => r x xs H2 Q := by
  obtain ⟨σ, Hf, R, φ, r0, σ', k, e, q⟩ := h
  dsimp only [eMut] at e
  split at e
  · cases e
  · rename_i r1 σ1 e1
    refine ⟨σ, Hf, R, φ, r1, σ1, k, e1, fun v1 H1 Hf1 φ1 G1 l1 k1 rr1 own1 p1 => ?_⟩
    split at e
    · cases e
    · rename_i ys hy
      obtain ⟨a, vs, e2, hv⟩ := getL_at k1 rr1 hy
      subst e2
      refine ⟨.inl ⟨rfl, vs, SqL.of hv⟩, ?_⟩
      split at e
      · cases e
      · rename_i cs σ2 e2
        refine ⟨σ1, Hf1, R, φ1, cs, σ2, k1, e2, fun ws H2 Hf2 φ2 l2 k2 hrs p2 => ?_⟩
        split at e
        · cases e
        · rename_i ds σ3 e3
          obtain ⟨Hf3, φ3, l3, k3, rds⟩ := frzAll_ok k2 hrs e3
          split at e
          · cases e
          · rename_i xs hx
            split at e
            · rename_i xs' d ef
              cases e
              have rr3 : RR (mdOf X) Hf3 H2 σm (.ref a) r1 noF := by
                cases r1 with
                | v o => cases hy
                | «at» i => exact rr1
                | it i j =>
                  rcases hst with hb | ⟨i', he⟩
                  · obtain ⟨c, ws', g1, g2, g3⟩ := rr1
                    exact ⟨c, ws', g1, p2 hb _ _ g2, g3⟩
                  · subst he
                    dsimp only [eName] at e1
                    split at e1 <;> cases e1
              obtain ⟨a', vs3, e4, hv3, rd3, up⟩ := upd_place k3 rr3 hx
              cases e4
              refine hr Hf3 H2 a vs3 xs ws ds xs' d Q k3.fz hv3 rd3 rds ef fun v vs' hd hvs => ?_
              exact q v _ Hf3 φ3 noF ((l1.trans l2).trans l3) (up vs' xs' hvs) hd Own.no fun hb => by cases hb
            · cases e
theorem wE_mut0 (hst : Steady ea true) (hr : RuleU (mdOf X) f r) {σm : St} {H : Hp} {Q : VK} (h : wE (mdOf X) false (eMut f ea aNil) σm H Q) :
    wE (mdOf X) ba ea σm H fun x H1 => tyV X.K "list" x H1 ∧ r x [] H1 Q := by
  obtain ⟨σ, Hf, R, φ, r0, σ', k, e, q⟩ := h
  dsimp only [eMut, aNil, frzAll] at e
  split at e
  · cases e
  · rename_i r1 σ1 e1
    refine ⟨σ, Hf, R, φ, r1, σ1, k, e1, fun v1 H1 Hf1 φ1 G1 l1 k1 rr1 own1 p1 => ?_⟩
    split at e
    · cases e
    · rename_i ys hy
      split at e
      · cases e
      · rename_i xs hx
        split at e
        · rename_i xs' d ef
          cases e
          cases hx
          obtain ⟨a', vs3, e4, hv3, rd3, up⟩ := upd_place k1 rr1 hy
          subst e4
          refine ⟨.inl ⟨rfl, vs3, SqL.of hv3⟩, ?_⟩
          refine hr Hf1 H1 a' vs3 _ [] [] xs' d Q k1.fz hv3 rd3 .nil ef fun v vs' hd hvs => ?_
          exact q v _ Hf1 φ1 noF l1 (up vs' xs' hvs) hd Own.no fun hb => by cases hb
        · cases e
variable {name : Str} {apos cpos : Pos} {id : String}
theorem pev_mut (hst : Steady ea b) (hr : RuleU (mdOf X) f r) (slot : Slot "list" name id) (hty : typeOf (.builtin id) = pure (.type "method_descriptor")) (hm : MtR X id r)
    (ho : PEv X o ba ea) (ha : PAv X (e :: es) b as)
    (hbase : attributeBase o name X.env (eval o X.env) = eval o X.env := by rfl)
    (hfew : ((backTo cpos (starEach (e :: es) X.env)).all (fun x => !x.1) && (backToKw cpos (keywordEach [] X.env)).all (fun x => x.1.isSome)
      && decide ((e :: es).length + ([] : List Keyword).length + (if ([] : List Keyword).isEmpty then 0 else 1) < 30)) = true := by rfl)
    (hline : (apos.endLine == cpos.line) = true := by rfl) (hs : starEach (e :: es) X.env = (false, eval e X.env) :: starEach es X.env := by rfl) (hplain : (backTo cpos (starEach es X.env)).any (·.1) = false := by rfl) :
    PEv X (.Call (.Attribute o name apos) (e :: es) [] cpos) false (eMut f ea as) :=
  PE.imp (pe_bm PySem.F.plainAttrs_list slot hty hm ho ha hbase hfew hline hs hplain) fun _ _ _ h => wE_mut hst hr h
theorem pev_mut0 (hst : Steady ea true) (hr : RuleU (mdOf X) f r) (slot : Slot "list" name id) (hty : typeOf (.builtin id) = pure (.type "method_descriptor")) (hm : MtR X id r)
    (ho : PEv X o ba ea) (hbase : attributeBase o name X.env (eval o X.env) = eval o X.env := by rfl) (hline : (apos.endLine == cpos.line) = true := by rfl) :
    PEv X (.Call (.Attribute o name apos) [] [] cpos) false (eMut f ea aNil) :=
  PE.imp (pe_bm0 PySem.F.plainAttrs_list slot hty hm ho hbase hline) fun _ _ _ h => wE_mut0 hst hr h
end
/-- xs[i] = e -/
def xSetItem (a i v : Ev) (σ : Sg) : Option Res := match v σ with
  | none => none
  | some (rv, σ1) => match frz rv σ1 with
    | none => none
    | some (d, σ2) => match a σ2 with
      | none => none
      | some (r, σ3) => match i σ3 with
        | none => none
        | some (ri, σ4) => match peek ri σ4, getL r σ4 with
          | some (.int n), some xs => match ixN xs.length n with
            | some j => some (.nx (putL r (xs.set j d) σ4))
            | none => none
          | _, _ => none
section
variable {X : Cx} {io : Io} {o i e : Expr} {bo bi bv : Bool} {eo ei ev : Ev} {pos ps : Pos}
theorem psv_setItem (hv : PEv X e bv ev) (ho : PEv X o bo eo) (hi : PEv X i bi ei) (hst : Steady eo bi)
    (ha : ∀ v, assign (.Subscript o i ps) X.env v = (do
      let ov ← holding [v] (eval o X.env)
      let iv ← holding [v, ov] (eval i X.env)
      standAt ps
      holding [v, ov, iv] (setItem ov iv v)
      release [v, ov, iv] []) := by intro _; rfl) (hs : swapsWithSole [.Subscript o i ps] e pos.line X.env = pure false := by rfl) (hw : swappedStores [.Subscript o i ps] e X.env = pure none := by rfl)
    (h1 : (assignEach [.Subscript o i ps] X.env).map (·.2) = [assign (.Subscript o i ps) X.env] := by rfl) : PSv X io (.Assign [.Subscript o i ps] e pos) (xSetItem eo ei ev) :=
  PS.imp (ps_asg hv (pg_sub ho hi set_list ha) hs hw h1) fun Dn σm H h => by
    obtain ⟨σ, Hf, R, φ, r, k, e, q⟩ := h
    dsimp only [xSetItem] at e
    split at e
    · cases e
    · rename_i rv σ1 e1
      refine ⟨σ, Hf, R, φ, rv, σ1, k, e1, fun v1 H1 Hf1 φ1 G1 l1 k1 rr1 own1 p1 => ?_⟩
      split at e
      · cases e
      · rename_i d σ2 e2
        obtain ⟨Hf2, φ2, l2, k2, rd⟩ := frz_ok k1 rr1 own1 e2
        split at e
        · cases e
        · rename_i r3 σ3 e3
          refine ⟨σ2, Hf2, R, φ2, r3, σ3, k2, e3, fun v3 H3 Hf3 φ3 G3 l3 k3 rr3 own3 p3 => ?_⟩
          split at e
          · cases e
          · rename_i ri σ4 e4
            refine ⟨σ3, Hf3, R, φ3, ri, σ4, k3, e4, fun v4 H4 Hf4 φ4 G4 l4 k4 rr4 own4 p4 => ?_⟩
            split at e
            · rename_i n xs hn hx
              split at e
              · rename_i j hj
                cases e
                have rr5 : RR (mdOf X) Hf4 H4 σm v3 r3 noF := by
                  cases r3 with
                  | v o => cases hx
                  | «at» i => exact rr3
                  | it i j =>
                    rcases hst with hb | ⟨i', he⟩
                    · obtain ⟨c, ws', g1, g2, g3⟩ := rr3
                      exact ⟨c, ws', g1, p4 hb _ _ g2, g3⟩
                    · subst he
                      dsimp only [eName] at e3
                      split at e3 <;> cases e3
                obtain ⟨a', vs3, e5, hv3, rd3, up⟩ := upd_place k4 rr5 hx
                subst e5
                have hi := peek_rd k4 rr4 hn
                cases hi
                refine ⟨a', vs3, n, j, rfl, rfl, hv3, by rw [rd3.length]; exact hj, ?_⟩
                exact q σm _ Hf4 φ4 (((l1.trans l2).trans l3).trans l4) (up _ _ (RDs.set (RD.le (l3.trans l4) rd) j rd3)) Kept.refl
              · cases e
            · cases e
end
end
end PV

set_option Elab.async false
set_option linter.all false
set_option maxRecDepth 100000
set_option maxHeartbeats 1000000
/-! PVe: loops, what is walked, calls of the text's defs -/
namespace PV
noncomputable section
open PySem PySem.Spec L2
open PyProof.Rows hiding St

/-! ### while -/
def whileN : Nat → Tv → Ex → Ex
  | 0, _, _, _ => none
  | n + 1, t, body, σ => match t σ with
    | none => none
    | some (false, σ1) => some (.nx σ1)
    | some (true, σ1) => match body σ1 with
      | none => none
      | some (.nx σ2) => whileN n t body σ2
      | some (.ct σ2) => whileN n t body σ2
      | some (.bk σ2) => some (.nx σ2)
      | some (.rt o σ2) => some (.rt o σ2)
theorem whileN_more {t : Tv} {body : Ex} {r : Res} : ∀ (n : Nat) {σ : Sg}, whileN n t body σ = some r → whileN (n + 1) t body σ = some r
  | 0, _, h => by cases h
  | n + 1, σ, h => by
    rw [whileN] at h ⊢
    split at h
    · cases h
    · exact h
    · split at h
      · cases h
      · exact whileN_more n h
      · exact whileN_more n h
      · exact h
      · exact h
theorem whileN_le {t : Tv} {body : Ex} {r : Res} {n m : Nat} {σ : Sg} (l : n ≤ m) (h : whileN n t body σ = some r) : whileN m t body σ = some r := by
  induction l with
  | refl => exact h
  | step _ ih => exact whileN_more _ ih
open Classical in
noncomputable def xWhile (t : Tv) (body : Ex) (σ : Sg) : Option Res := if h : ∃ n r, whileN n t body σ = some r then some h.choose_spec.choose else none
theorem xWhile_of {t : Tv} {body : Ex} {r : Res} {n : Nat} {σ : Sg} (h : whileN n t body σ = some r) : xWhile t body σ = some r := by
  unfold xWhile
  have e : ∃ n r, whileN n t body σ = some r := ⟨n, r, h⟩
  rw [dif_pos e]
  have h1 := whileN_le (Nat.le_max_left n e.choose) h
  have h2 := whileN_le (Nat.le_max_right n e.choose) e.choose_spec.choose_spec
  rw [h1] at h2
  exact h2.symm
theorem of_xWhile {t : Tv} {body : Ex} {r : Res} {σ : Sg} (h : xWhile t body σ = some r) : ∃ n, whileN n t body σ = some r := by
  unfold xWhile at h
  split at h
  · rename_i e
    cases h
    exact ⟨e.choose, e.choose_spec.choose_spec⟩
  · cases h
section
variable {X : Cx} {io : Io} {c : Expr} {body : List Stmt} {b : Bool} {t : Tv} {x : Ex} {pos : Pos}
theorem psv_while (hp : PassesOwn (model X.prog X.w) X.A X.env X.xe) (hc : PTv X c b t) (hb : PSsv X io body x) : PSv X io (.While c body [] pos) (xWhile t x) :=
  PS.imp (ps_while hp hc hb) fun Dn σm H h => by
    obtain ⟨σ, Hf, R, φ, r, k, e, q⟩ := h
    obtain ⟨n, e⟩ := of_xWhile e
    refine ⟨fun m σm' H' => ∃ σ' Hf' φ', Le Hf Hf' ∧ Ok (mdOf X) Hf' R H' φ' σm' σ' ∧ Kept io σm σm' ∧ whileN m t x σ' = some r, ⟨n, σ, Hf, φ, Le.refl _, k, Kept.refl, e⟩, ?_⟩
    rintro m σm1 H1 ⟨σ1, Hf1, φ1, l1, k1, kp1, e1⟩
    cases m with
    | zero => cases e1
    | succ m =>
      rw [whileN] at e1
      split at e1
      · cases e1
      · rename_i σ2 e2
        cases e1
        refine ⟨σ1, Hf1, R, φ1, false, σ2, k1, e2, fun H2 Hf2 φ2 l2 k2 _ => ?_⟩
        simp only [Bool.false_eq_true, if_false]
        exact q σm1 H2 Hf2 φ2 (l1.trans l2) k2 kp1
      · rename_i σ2 e2
        refine ⟨σ1, Hf1, R, φ1, true, σ2, k1, e2, fun H2 Hf2 φ2 l2 k2 _ => ?_⟩
        simp only [if_true]
        refine ⟨fun σm' H' => ∃ σ' Hf' φ', Le Hf Hf' ∧ Ok (mdOf X) Hf' R H' φ' σm' σ' ∧ Kept io σm σm' ∧ whileN m t x σ' = some r, fun σm' H' hw => ⟨m, Nat.lt_succ_self m, hw⟩, ?_⟩
        split at e1
        · cases e1
        · rename_i σ3 e3
          exact ⟨σ2, Hf2, R, φ2, _, k2, e3, fun σm' H' Hf' φ' l k' kp => ⟨σ3, Hf', φ', (l1.trans l2).trans l, k', kp1.trans kp, e1⟩⟩
        · rename_i σ3 e3
          exact ⟨σ2, Hf2, R, φ2, _, k2, e3, fun σm' H' Hf' φ' l k' kp => ⟨σ3, Hf', φ', (l1.trans l2).trans l, k', kp1.trans kp, e1⟩⟩
        · rename_i σ3 e3
          cases e1
          exact ⟨σ2, Hf2, R, φ2, _, k2, e3, fun σm' H' Hf' φ' l k' kp => q σm' H' Hf' φ' ((l1.trans l2).trans l) k' (kp1.trans kp)⟩
        · rename_i o σ3 e3
          cases e1
          exact ⟨σ2, Hf2, R, φ2, _, k2, e3, fun v σm' H' Hf' φ' G l k' kp ro own => q v σm' H' Hf' φ' G ((l1.trans l2).trans l) k' (kp1.trans kp) ro own⟩
end

/-! ### what is walked -/
abbrev Iv := Sg → Option (List D × Sg)
def IterOk (M : Md) (J : It) (Hf0 : Hp) (ds : List D) : Prop := ∀ (i : Nat) Hf H, Le Hf0 Hf → Le Hf H → (i < ds.length → J.go i H) ∧ (ds.length ≤ i → J.stop i H) ∧
  ∀ x H' d, J.yld i H x H' → ds[i]? = some d → (H' = H ∧ RD M Hf x d) ∨ ∃ p vs es, x = .ref p ∧ H p = none ∧ H' = upd H p (.tup vs) ∧ RDs M Hf vs es ∧ d = .tuple es
def wI (M : Md) (b : Bool) (it : Iv) : TI := fun σm H Rk => ∃ σ Hf R φ ds σ', Ok M Hf R H φ σm σ ∧ it σ = some (ds, σ') ∧
  ∀ J H' Hf' φ', Le Hf Hf' → Ok M Hf' R H' φ' σm σ' → IterOk M J Hf' ds → (b = true → Le H H') → Rk J H'
abbrev PIv (X : Cx) (tg iter : Expr) (b : Bool) (it : Iv) : Prop := PI X tg iter (wI (mdOf X) b it)
/-- a turn's datum, behind the iterator's step -/
theorem IterOk.step {M : Md} {J : It} {Hf0 Hf R H : Hp} {φ : Nat → Fp} {σm : St} {σ : Sg} {ds : List D} {i : Nat} {d : D} {x : V} {H' : Hp} (j : IterOk M J Hf0 ds) (l : Le Hf0 Hf) (k : Ok M Hf R H φ σm σ) (y : J.yld i H x H') (e : ds[i]? = some d) :
    ∃ Hf', Le Hf Hf' ∧ Ok M Hf' R H' φ σm σ ∧ RD M Hf' x d ∧ Le H H' := by
  rcases (j i Hf H l k.fz).2.2 x H' d y e with ⟨rfl, rd⟩ | ⟨p, vs, es, rfl, n, rfl, rd, rfl⟩
  · exact ⟨Hf, Le.refl _, k, rd, Le.refl _⟩
  · have own := k.newF (o := .tup vs) n
    have k2 := (k.new (o := .tup vs) n).freeze own
    have l : Le Hf (ext Hf (upd H p (.tup vs)) fun a => a = p) := le_ext fun a ha => (own a ha).1
    exact ⟨_, l, k2, RD.tup (SqT.of ((ext_in (F := fun a => a = p) rfl).trans upd_same)) (RDs.le l rd), le_upd n⟩
def forL (t : Tg) (body : Ex) : List D → Ex
  | [], σ => some (.nx σ)
  | d :: ds, σ => match t d σ with
    | none => none
    | some σ1 => match body σ1 with
      | none => none
      | some (.nx σ2) => forL t body ds σ2
      | some (.ct σ2) => forL t body ds σ2
      | some (.bk σ2) => some (.nx σ2)
      | some (.rt o σ2) => some (.rt o σ2)
def xFor (it : Iv) (t : Tg) (body : Ex) (σ : Sg) : Option Res := match it σ with
  | some (ds, σ1) => forL t body ds σ1
  | none => none
section
variable {X : Cx} {io : Io} {tg iter : Expr} {body : List Stmt} {b : Bool} {it : Iv} {t : Tg} {x : Ex} {pos : Pos}
theorem psv_for (hp : PassesOwn (model X.prog X.w) X.A X.env X.xe) (hc : X.calm = true) (hi : PIv X tg iter b it) (hg : PGv X io tg t) (hb : PSsv X io body x) (hs : ∀ x, foldedSetIterable iter X.env x = pure x := by intro _; rfl) : PSv X io (.For tg iter body [] pos) (xFor it t x) :=
  PS.imp (ps_for hp hc hi hg hb hs) fun Dn σm H h => by
    obtain ⟨σ, Hf, R, φ, r, k, e, q⟩ := h
    dsimp only [xFor] at e
    split at e
    · rename_i ds σ1 e1
      refine ⟨σ, Hf, R, φ, ds, σ1, k, e1, fun J H1 Hf1 φ1 l1 k1 jt _ => ?_⟩
      refine ⟨fun i m σm' H' => m = ds.length - i ∧ i ≤ ds.length ∧ ∃ σ' Hf' φ', Le Hf1 Hf' ∧ Ok (mdOf X) Hf' R H' φ' σm' σ' ∧ Kept io σm σm' ∧ forL t x (ds.drop i) σ' = some r,
        ⟨ds.length, by simp, Nat.zero_le _, σ1, Hf1, φ1, Le.refl _, k1, Kept.refl, by simpa using e⟩, ?_⟩
      rintro i m σm2 H2 ⟨rfl, hi, σ2, Hf2, φ2, l2, k2, kp2, e2⟩
      by_cases hlt : i < ds.length
      · right
        refine ⟨(jt i Hf2 H2 l2 k2.fz).1 hlt, fun σm' H' => ∃ σ' Hf' φ', Le Hf1 Hf' ∧ Ok (mdOf X) Hf' R H' φ' σm' σ' ∧ Kept io σm σm' ∧ forL t x (ds.drop (i + 1)) σ' = some r, fun σm' H' hw => ⟨ds.length - (i + 1), by omega, rfl, hlt, hw⟩, fun xv H3 y => ?_⟩
        obtain ⟨Hf3, l3, k3, rd, _⟩ := jt.step (d := ds[i]) l2 k2 y (by simp [hlt])
        rw [List.drop_eq_getElem_cons hlt, forL] at e2
        split at e2
        · cases e2
        · rename_i σ4 e4
          refine ⟨σ2, Hf3, R, φ2, ds[i], σ4, k3, rd, e4, fun σm4 Hf4 φ4 l4 k4 kp4 => ?_⟩
          split at e2
          · cases e2
          · rename_i σ5 e5
            exact ⟨σ4, Hf4, R, φ4, _, k4, e5, fun σm' H' Hf' φ' l k' kp => ⟨σ5, Hf', φ', ((l2.trans l3).trans l4).trans l, k', (kp2.trans kp4).trans kp, e2⟩⟩
          · rename_i σ5 e5
            exact ⟨σ4, Hf4, R, φ4, _, k4, e5, fun σm' H' Hf' φ' l k' kp => ⟨σ5, Hf', φ', ((l2.trans l3).trans l4).trans l, k', (kp2.trans kp4).trans kp, e2⟩⟩
          · rename_i σ5 e5
            cases e2
            exact ⟨σ4, Hf4, R, φ4, _, k4, e5, fun σm' H' Hf' φ' l k' kp => q σm' H' Hf' φ' ((((l1.trans l2).trans l3).trans l4).trans l) k' ((kp2.trans kp4).trans kp)⟩
          · rename_i o σ5 e5
            cases e2
            exact ⟨σ4, Hf4, R, φ4, _, k4, e5, fun v σm' H' Hf' φ' G l k' kp ro own => q v σm' H' Hf' φ' G ((((l1.trans l2).trans l3).trans l4).trans l) k' ((kp2.trans kp4).trans kp) ro own⟩
      · left
        have hi' : i = ds.length := by omega
        subst hi'
        rw [List.drop_length, forL] at e2
        cases e2
        exact ⟨(jt ds.length Hf2 H2 l2 k2.fz).2.1 (Nat.le_refl _), q σm2 H2 Hf2 φ2 (l1.trans l2) k2 kp2⟩
    · cases e
end

/-! ### sources -/
theorem RDs.getI {M : Md} {H : Hp} {vs : List V} {ds : List D} {i : Nat} {d : D} {v : V} (r : RDs M H vs ds) (e : ds[i]? = some d) (e2 : vs[i]? = some v) : RD M H v d := by
  obtain ⟨v', h1, h2⟩ := r.get' e
  rw [e2] at h1; cases h1
  exact h2
theorem iter_list {M : Md} {Hf0 : Hp} {a : Addr} {vs : List V} {ds : List D} (h : SqL M.K Hf0 a vs) (r : RDs M Hf0 vs ds) : IterOk M (Itl M.K a) Hf0 ds := fun i Hf H l k => by
  have hH := sql_le h (l.trans k)
  refine ⟨fun hi => ⟨vs, vs[i]'(by rw [r.length]; exact hi), hH, by rw [List.getElem?_eq_getElem]⟩, fun hi => ⟨vs, hH, by rw [r.length]; exact hi⟩, fun x H' d y e => .inl ⟨y.1, ?_⟩⟩
  exact (RDs.le l r).getI e (y.2 vs hH)
theorem iter_tup {M : Md} {Hf0 : Hp} {a : Addr} {vs : List V} {ds : List D} (h : SqT M.K Hf0 a vs) (r : RDs M Hf0 vs ds) : IterOk M (Itt M.K a) Hf0 ds := fun i Hf H l k => by
  have hH := sqt_le h (l.trans k)
  refine ⟨fun hi => ⟨vs, vs[i]'(by rw [r.length]; exact hi), hH, by rw [List.getElem?_eq_getElem]⟩, fun hi => ⟨vs, hH, by rw [r.length]; exact hi⟩, fun x H' d y e => .inl ⟨y.1, ?_⟩⟩
  exact (RDs.le l r).getI e (y.2 vs hH)
theorem iter_rng {M : Md} {Hf0 : Hp} {lo : Int} {n : Nat} : IterOk M (Itr lo n) Hf0 ((List.range n).map fun i : Nat => PyData.int (lo + (i : Int))) := fun i Hf H l k => by
  refine ⟨fun hi => by simpa [Itr] using hi, fun hi => by simpa [Itr] using hi, fun x H' d y e => .inl ⟨y.1, ?_⟩⟩
  have hx : x = .int (lo + i) := y.2
  subst hx
  rw [List.getElem?_map] at e
  cases h : (List.range n)[i]? with
  | none => rw [h] at e; cases e
  | some j =>
    rw [h] at e; cases e
    have : j = i := by
      have := List.getElem?_eq_some_iff.mp h
      obtain ⟨_, h2⟩ := this
      simpa using h2.symm
    subst this
    exact .int _
theorem iter_str {M : Md} {Hf0 : Hp} {z : Str} : IterOk M (Its z) Hf0 (z.cps.toList.map fun c => .str ⟨#[c]⟩) := fun i Hf H l k => by
  refine ⟨fun hi => by simpa [Its] using hi, fun hi => by simpa [Its] using hi, fun x H' d y e => .inl ⟨y.1, ?_⟩⟩
  obtain ⟨_, c, h1, rfl⟩ := y
  rw [List.getElem?_map] at e
  have h2 : z.cps.toList[i]? = some c := by rw [Array.getElem?_toList]; exact h1
  rw [h2] at e
  cases e
  exact .str _
def seqOf : D → Option (List D)
  | .list ds => some ds
  | .tuple ds => some ds
  | .str z => some (z.cps.toList.map fun c => .str ⟨#[c]⟩)
  | _ => none
/-- over a list, a tuple, a text -/
def iSeq (a : Ev) (σ : Sg) : Option (List D × Sg) := match a σ with
  | none => none
  | some (r, σ1) => match frz r σ1 with
    | none => none
    | some (d, σ2) => match seqOf d with
      | some ds => some (ds, σ2)
      | none => none
section
variable {X : Cx} {tg l : Expr} {b : Bool} {ea : Ev}
theorem pi_any {tl : TE} (hl : PE X l tl) : PI X tg l (fun σ H R => tl σ H fun x H1 => (∃ a, x = .ref a ∧ (∃ xs, SqL X.K H1 a xs) ∧ R (Itl X.K a) H1) ∨ (∃ a, x = .ref a ∧ (∃ xs, SqT X.K H1 a xs) ∧ R (Itt X.K a) H1) ∨ ∃ z, x = .str z ∧ R (Its z) H1) := by
  refine ⟨fun pins s σ H R I h => ?_⟩
  refine thn (hl.run pins s σ H _ I h) fun v s1 ⟨x, H1, I1, r1, q1⟩ => ?_
  rcases q1 with ⟨a, e, ⟨xs, hq⟩, q⟩ | ⟨a, e, ⟨xs, hq⟩, q⟩ | ⟨z, e, q⟩
  · subst e
    cases r1
    obtain ⟨its, rv, p, hz⟩ := I1.list hq
    refine wpAny_pyIter_list p.isList ?_
    refine ⟨s1.heap.objs.size, [s1.heap.objs.size], _, _, H1, rfl, I1.kept (t' := s1.toks) fun b o e => Heap.get?_push_of_some _ e, turn_list a _, ⟨_, Heap.get?_push_size _ rfl, rfl, rfl⟩, fun b hb => ?_, q⟩
    have e : b = s1.heap.objs.size := by simpa using hb
    subst e
    exact I1.fpOk (Nat.le_refl _) (I1.hok.fresh (Nat.le_refl _))
  · subst e
    cases r1
    obtain ⟨its, rv, p, hz⟩ := I1.tuple hq
    refine wpAny_pyIter_tuple (show s1.heap.IsTuple a its.toArray from p) ?_
    refine ⟨s1.heap.objs.size, [s1.heap.objs.size], _, _, H1, rfl, I1.kept (t' := s1.toks) fun b o e => Heap.get?_push_of_some _ e, turn_tuple a _, ⟨_, Heap.get?_push_size _ rfl, rfl, rfl⟩, fun b hb => ?_, q⟩
    have e : b = s1.heap.objs.size := by simpa using hb
    subst e
    exact I1.fpOk (Nat.le_refl _) (I1.hok.fresh (Nat.le_refl _))
  · subst e
    obtain ⟨t, rfl⟩ := r1
    cases ha : z.cps.all (· < 128)
    · exact wpAny_pyIter_wide ha (pi_one (tk := s1.toks) I1 _ (turn_str _ z t "str_iterator" (.inr rfl)) ⟨_, Heap.get?_push_size _ rfl, rfl, rfl⟩ q)
    · exact wpAny_pyIter_ascii ha (pi_one (tk := s1.toks) I1 _ (turn_str _ z t "str_ascii_iterator" (.inl rfl)) ⟨_, Heap.get?_push_size _ rfl, rfl, rfl⟩ q)
theorem piv_seq (hl : PEv X l b ea) : PIv X tg l b (iSeq ea) := PI.imp (pi_any hl) fun σm H Rk h => by
  obtain ⟨σ, Hf, R, φ, ds, σ', k, e, q⟩ := h
  dsimp only [iSeq] at e
  split at e
  · cases e
  · rename_i r σ1 e1
    refine ⟨σ, Hf, R, φ, r, σ1, k, e1, fun v H1 Hf1 φ1 G1 l1 k1 rr1 own1 p1 => ?_⟩
    split at e
    · cases e
    · rename_i d σ2 e2
      obtain ⟨Hf2, φ2, l2, k2, rd⟩ := frz_ok k1 rr1 own1 e2
      split at e
      · rename_i ds' hs
        cases e
        cases rd with
        | lst h r => cases hs; exact .inl ⟨_, rfl, ⟨_, sql_le h k2.fz⟩, q _ H1 Hf2 φ2 (l1.trans l2) k2 (iter_list h r) p1⟩
        | tup h r => cases hs; exact .inr (.inl ⟨_, rfl, ⟨_, sqt_le h k2.fz⟩, q _ H1 Hf2 φ2 (l1.trans l2) k2 (iter_tup h r) p1⟩)
        | str x => cases hs; exact .inr (.inr ⟨_, rfl, q _ H1 Hf2 φ2 (l1.trans l2) k2 iter_str p1⟩)
        | non => cases hs
        | bl b => cases hs
        | int i => cases hs
        | dic _ _ _ _ => cases hs
      · cases e
end
/-- range(n), range(a, b) -/
def rngD (lo : Int) (n : Nat) : List D := (List.range n).map fun i : Nat => PyData.int (lo + (i : Int))
def iRng1 (as : Av) (σ : Sg) : Option (List D × Sg) := match as σ with
  | none => none
  | some (cs, σ1) => match unholds cs σ1 with
    | some [.int j] => if Cl (-(2 ^ 62) ≤ j ∧ j < 2 ^ 62) then some (rngD 0 j.toNat, σ1) else none
    | _ => none
def iRng2 (as : Av) (σ : Sg) : Option (List D × Sg) := match as σ with
  | none => none
  | some (cs, σ1) => match unholds cs σ1 with
    | some [.int i, .int j] => if Cl (-(2 ^ 62) ≤ i ∧ i < 2 ^ 62 ∧ -(2 ^ 62) ≤ j ∧ j < 2 ^ 62) then some (rngD i (j - i).toNat, σ1) else none
    | _ => none
section
variable {X : Cx} {tg a c : Expr} {b : Bool} {as : Av} {p pos : Pos}
theorem piv_range1 (hg : Gl X "range") (hm : X.mg "range" = none) (ha : PAv X [a] b as) (hs : starEach [a] X.env = [(false, eval a X.env)] := by rfl) : PIv X tg (.Call (.Name "range" p) [a] [] pos) b (iRng1 as) :=
  PI.imp (pi_range1 hg hm ha hs) fun σm H Rk h => by
    obtain ⟨σ, Hf, R, φ, ds, σ', k, e, q⟩ := h
    dsimp only [iRng1] at e
    split at e
    · cases e
    · rename_i cs σ1 e1
      refine ⟨σ, Hf, R, φ, cs, σ1, k, e1, fun vs H1 Hf1 φ1 l1 k1 hrs p1 => ?_⟩
      split at e
      · rename_i j hj
        split at e
        · rename_i hb
          cases e
          have h := unholds_rd k1 hrs hj
          cases h with
          | cons h1 h2 =>
            cases h2
            cases h1
            exact ⟨j, rfl, hb.1, hb.2, q _ H1 Hf1 φ1 l1 k1 iter_rng p1⟩
        · cases e
      · cases e
theorem piv_range2 (hg : Gl X "range") (hm : X.mg "range" = none) (ha : PAv X [a, c] b as) (hs : starEach [a, c] X.env = [(false, eval a X.env), (false, eval c X.env)] := by rfl) (hs2 : starEach [c] X.env = [(false, eval c X.env)] := by rfl) : PIv X tg (.Call (.Name "range" p) [a, c] [] pos) b (iRng2 as) :=
  PI.imp (pi_range2 hg hm ha hs hs2) fun σm H Rk h => by
    obtain ⟨σ, Hf, R, φ, ds, σ', k, e, q⟩ := h
    dsimp only [iRng2] at e
    split at e
    · cases e
    · rename_i cs σ1 e1
      refine ⟨σ, Hf, R, φ, cs, σ1, k, e1, fun vs H1 Hf1 φ1 l1 k1 hrs p1 => ?_⟩
      split at e
      · rename_i i j hj
        split at e
        · rename_i hb
          cases e
          have h := unholds_rd k1 hrs hj
          cases h with
          | cons h1 h2 =>
            cases h2 with
            | cons h2 h3 =>
              cases h3
              cases h1
              cases h2
              exact ⟨i, j, rfl, hb, q _ H1 Hf1 φ1 l1 k1 iter_rng p1⟩
        · cases e
      · cases e
end

/-! ### calls of the text's defs -/
/-- from the arguments to the answer and what the changed arguments hold then -/
abbrev Fn := List O → Option (O × List O)
def finals (σ : Sg) : List Nat → Option (List O)
  | [] => some []
  | i :: r => match σ[i]? with
    | some (some o) => match finals σ r with
      | some os => some (o :: os)
      | none => none
    | _ => none
def mkFn (np n : Nat) (io : List Nat) (body : Ex) : Fn := fun os => if os.length = np then match body (os.map some ++ List.replicate (n - np) none) with
    | some (.rt o σ) => match finals σ io with
      | some fs => some (o, fs)
      | none => none
    | some (.nx σ) => match finals σ io with
      | some fs => some (.p .none, fs)
      | none => none
    | _ => none
  else none
def spFn (M : Md) (io : List Nat) (f : Fn) : Sp := fun vs H Q _ => ∃ os Hf R φ o fs, Ok M Hf R H φ (vs.map some) (os.map some) ∧ f os = some (o, fs) ∧
  ∀ v H' Hf' φ' G, Le Hf Hf' → Ok M Hf' R H' φ' (io.map fun i => vs[i]?) (fs.map some) → RO M Hf' H' v o G → Own Hf' R H' φ' G → Q v H'
theorem finals_ok {M : Md} {Hf R H : Hp} {φ : Nat → Fp} {σm : St} {σ : Sg} {vs : List V} (k : Ok M Hf R H φ σm σ) : ∀ {io : List Nat} {fs : List O}, finals σ io = some fs → io.Nodup → (∀ i ∈ io, ∀ v, vs[i]? = some v → σm[i]? = some (some v)) → (∀ i ∈ io, ∃ v, vs[i]? = some v) →
    ∃ φ', Ok M Hf R H φ' (io.map fun i => vs[i]?) (fs.map some) ∧ ∀ j a, φ' j a → ∃ i ∈ io, φ i a
  | [], _, e, _, _, _ => by
    cases e
    exact ⟨fun _ => noF, ⟨k.fz, k.rz, k.fr, rfl, fun i o e => by simp at e, fun _ _ _ h => h.elim, fun _ _ h => h.elim⟩, fun _ _ h => h.elim⟩
  | i :: r, fs, e, nd, hv, ht => by
    unfold finals at e
    split at e
    · rename_i o ho
      split at e
      · rename_i os hos
        cases e
        obtain ⟨φ', k', hφ⟩ := finals_ok (vs := vs) k hos (List.nodup_cons.mp nd).2 (fun j hj => hv j (List.mem_cons_of_mem _ hj)) fun j hj => ht j (List.mem_cons_of_mem _ hj)
        obtain ⟨v, h1, h2⟩ := k.sl i o ho
        obtain ⟨w, hw⟩ := ht i List.mem_cons_self
        have e1 := hv i List.mem_cons_self w hw
        rw [h1] at e1
        have e2 : v = w := by simpa using e1
        subst e2
        have nin : i ∉ r := (List.nodup_cons.mp nd).1
        have apart : ∀ j a, φ' j a → ¬ φ i a := fun j a h1 h2 => by
          obtain ⟨l, hl, h3⟩ := hφ j a h1
          have := k.dj i l a h2 h3
          subst this
          exact nin hl
        refine ⟨fun j => match j with | 0 => φ i | j + 1 => φ' j, ⟨k.fz, k.rz, k.fr, by have := k'.len; simp at this ⊢; omega, fun j o' e => ?_, fun j l a h1 h2 => ?_, fun j a h => ?_⟩, fun j a h => ?_⟩
        · cases j with
          | zero =>
            have e' : o = o' := by simpa using e
            subst e'
            exact ⟨v, by simpa using hw, h2⟩
          | succ j =>
            obtain ⟨v', g1, g2⟩ := k'.sl j o' (by simpa using e)
            exact ⟨v', by simpa using g1, g2⟩
        · cases j with
          | zero =>
            cases l with
            | zero => rfl
            | succ l => exact absurd h1 (apart l a h2)
          | succ j =>
            cases l with
            | zero => exact absurd h2 (apart j a h1)
            | succ l => rw [k'.dj j l a h1 h2]
        · cases j with
          | zero => exact k.fp i a h
          | succ j => exact k'.fp j a h
        · cases j with
          | zero => exact ⟨i, List.mem_cons_self, h⟩
          | succ j =>
            obtain ⟨l, hl, h3⟩ := hφ j a h
            exact ⟨l, List.mem_cons_of_mem _ hl, h3⟩
      · cases e
    · cases e
/-- slots that are not yet assigned -/
theorem Ok.more {M : Md} {Hf R H : Hp} {φ : Nat → Fp} {σm : St} {σ : Sg} (k : Ok M Hf R H φ σm σ) (n : Nat) : Ok M Hf R H φ (σm ++ List.replicate n none) (σ ++ List.replicate n none) where
  fz := k.fz
  rz := k.rz
  fr := k.fr
  len := by simp [k.len]
  sl := fun i o e => by
    by_cases hi : i < σ.length
    · rw [List.getElem?_append_left hi] at e
      obtain ⟨v, h1, h2⟩ := k.sl i o e
      exact ⟨v, by rw [List.getElem?_append_left (by rw [k.len]; exact hi)]; exact h1, h2⟩
    · rw [List.getElem?_append_right (by omega), List.getElem?_replicate] at e
      split at e <;> cases e
  dj := k.dj
  fp := k.fp
section
variable {P : Program} {w : World} {K : PySem.W.Frag} {mg : Str → Option Value} {base : Heap}
/-- THE RULE: a def keeps the promise of its function -/
theorem fnv {x qual : Str} {st : Stmt} {f : Addr} {fd : FuncData} {N ps : List Str} {k : Nat} {io : List Nat} {body : Ex} (F : Fun K x qual st f fd) (S : FnScope N ps (defScope st)) (hio : io.Nodup) (hlt : ∀ i ∈ io, i < ps.length)
    (hbody : ∀ (cdv : Value) (A : Around) (outer : List Env) (s : Shared) (H : Hp) (E : XK), Room k (A.deeper (envOfC qual (defScope st) s.heap.objs.size f cdv)) →
      PSsv (cxOf CX0 P w K mg base N qual (defScope st) f cdv A outer s H E).nox (fun i => i ∈ io) (defBody st) body) : FnOk P w K mg base CX0 (k + 1) f fd ps (spFn ⟨P, w, K⟩ io (mkFn ps.length N.length io body)) := by
  have flen : ∀ {vs : List V} {H Q E}, spFn ⟨P, w, K⟩ io (mkFn ps.length N.length io body) vs H Q E → vs.length = ps.length := fun {vs H Q E} h => by
    obtain ⟨os, Hf, R, φ, o, fs, k, e, q⟩ := h
    unfold mkFn at e
    split at e
    · rename_i hl
      have := k.len
      simp at this
      omega
    · cases e
  refine F.ok S (fun vs H Q E h => flen h) fun cdv A outer s H vs Q E hr h => ⟨_, hbody cdv A outer s H E hr, ?_⟩
  have hvl := flen h
  obtain ⟨os, Hf, R, φ, o, fs, k, e, q⟩ := h
  unfold mkFn at e
  split at e
  · rename_i hl
    have hN : ps.length ≤ N.length := by have := congrArg List.length S.pre; rw [List.length_take] at this; omega
    have k1 := k.more (N.length - ps.length)
    have es : L2.start N vs = vs.map some ++ List.replicate (N.length - ps.length) none := by unfold L2.start; rw [hvl]
    have at_ : ∀ i ∈ io, ∃ v, vs[i]? = some v := fun i hi => ⟨vs[i]'(by rw [hvl]; exact hlt i hi), by simp [hvl, hlt i hi]⟩
    have st_ : ∀ i ∈ io, ∀ v, vs[i]? = some v → (L2.start N vs)[i]? = some (some v) := fun i hi v hv => by
      rw [es, List.getElem?_append_left (by simp [hvl, hlt i hi]), List.getElem?_map, hv]
      rfl
    have fin : ∀ {σ' : Sg} {o : O} {fs : List O} {v : V} {σm' : St} {H' Hf' : Hp} {φ' : Nat → Fp} {G : Fp}, finals σ' io = some fs → (∀ v H' Hf' φ' G, Le Hf Hf' → Ok _ Hf' R H' φ' (io.map fun i => vs[i]?) (fs.map some) → RO ⟨P, w, K⟩ Hf' H' v o G → Own Hf' R H' φ' G → Q v H') →
        Le Hf Hf' → Ok ⟨P, w, K⟩ Hf' R H' φ' σm' σ' → Kept (fun i => i ∈ io) (L2.start N vs) σm' → RO ⟨P, w, K⟩ Hf' H' v o G → Own Hf' R H' φ' G → Q v H' := fun {σ' o fs v σm' H' Hf' φ' G} hf q l k' kp ro own => by
      obtain ⟨φ2, k2, h2⟩ := finals_ok (vs := vs) k' hf hio (fun i hi v hv => by rw [kp.2 i hi]; exact st_ i hi v hv) at_
      refine q v H' Hf' φ2 G l k2 ro fun a ha => ?_
      obtain ⟨g1, g2, g3, g4⟩ := own a ha
      refine ⟨g1, g2, g3, fun j hj => ?_⟩
      obtain ⟨i, _, hi⟩ := h2 j a hj
      exact g4 i hi
    split at e
    · rename_i o' σ' e1
      split at e
      · rename_i fs' hf
        cases e
        refine ⟨_, Hf, R, φ, _, es ▸ k1, e1, ?_⟩
        exact fun v σm' H' Hf' φ' G l k' kp ro own => fin hf q l k' kp ro own
      · cases e
    · rename_i σ' e1
      split at e
      · rename_i fs' hf
        cases e
        refine ⟨_, Hf, R, φ, _, es ▸ k1, e1, ?_⟩
        exact fun σm' H' Hf' φ' l k' kp => fin (G := noF) hf q l k' kp RD.non Own.no
      · cases e
    · cases e
  · cases e
end
/-- a def that is never called with enough fuel -/
theorem fnv_none {P : Program} {w : World} {K : PySem.W.Frag} {mg : Str → Option Value} {base : Heap} {k : Nat} {f : Addr} {fd : FuncData} {ps : List Str} {io : List Nat} : FnOk P w K mg base CX0 k f fd ps (spFn ⟨P, w, K⟩ io fun _ => none) where
  len := fun vs H Q E h => by
    obtain ⟨os, Hf, R, φ, o, fs, k, e, q⟩ := h
    cases e
  run := fun A outer s H args us vs Q E _ _ _ _ h => by
    obtain ⟨os, Hf, R, φ, o, fs, k, e, q⟩ := h
    cases e
end
end PV

set_option Elab.async false
set_option linter.all false
set_option maxRecDepth 100000
set_option maxHeartbeats 1000000
/-! PVf: calls of the text's defs, comprehensions -/
namespace PV
noncomputable section
open PySem PySem.Spec L2
open PyProof.Rows hiding St

/-- what needs no heap -/
def isSc : O → Bool
  | .p .none => true
  | .p (.bool _) => true
  | .p (.int _) => true
  | .p (.str _) => true
  | _ => false
theorem sc_any {M : Md} {Hf H Hf' H' : Hp} {v : V} {o : O} {G : Fp} (h : RO M Hf H v o G) (s : isSc o = true) : RO M Hf' H' v o noF := by
  cases o with
  | p d =>
    cases d with
    | none => have h : RD M Hf v .none := h; cases h; exact RD.non
    | bool b => have h : RD M Hf v (.bool b) := h; cases h; exact RD.bl b
    | int i => have h : RD M Hf v (.int i) := h; cases h; exact RD.int i
    | str x => have h : RD M Hf v (.str x) := h; cases h; exact RD.str x
    | list _ => cases s
    | tuple _ => cases s
    | dict _ => cases s
  | l _ => cases s
  | d _ => cases s
  | n _ => cases s
/-- places that were lent become frozen -/
def frzPl : List Hd → Sg → Sg
  | [], σ => σ
  | .d _ :: cs, σ => frzPl cs σ
  | .at i :: cs, σ => frzPl cs (match σ[i]? with | some (some o) => σ.set i (some (.p (toD o))) | _ => σ)
/-- the arguments' data: what stands at a place is lent -/
def lend : List Hd → Sg → Option (List O)
  | [], _ => some []
  | .d x :: cs, σ => match lend cs σ with | some os => some (.p x :: os) | none => none
  | .at i :: cs, σ => match σ[i]? with
    | some (some o) => (match lend cs σ with | some os => some (.p (toD o) :: os) | none => none)
    | _ => none
/-- the footprints of what is lent -/
def lentF (φ : Nat → Fp) : List Hd → Fp
  | [] => noF
  | .d _ :: cs => lentF φ cs
  | .at i :: cs => fun a => φ i a ∨ lentF φ cs a
theorem lentF_slot {φ : Nat → Fp} {a : Addr} : ∀ {cs : List Hd}, lentF φ cs a → ∃ i, φ i a
  | [], h => h.elim
  | .d _ :: cs, h => lentF_slot (cs := cs) h
  | .at i :: cs, h => by
    rcases h with h | h
    · exact ⟨i, h⟩
    · exact lentF_slot (cs := cs) h
section
variable {M : Md} {Hf R H : Hp} {φ : Nat → Fp} {σm : St} {σ : Sg}
theorem lend_rd (k : Ok M Hf R H φ σm σ) {Hc : Hp} (l : Le Hf Hc) : ∀ {vs : List V} {cs : List Hd} {os : List O}, HRs M Hf σm vs cs → lend cs σ = some os → (∀ a u, lentF φ cs a → H a = some u → Hc a = some u) →
    os.length = vs.length ∧ ∀ (j : Nat) o, os[j]? = some o → ∃ v d, vs[j]? = some v ∧ o = .p d ∧ RD M Hc v d
  | _, _, _, .nil, e, _ => by
    cases e
    exact ⟨rfl, fun j o h => by simp at h⟩
  | _, .d x :: cs, _, .cons h r, e, hc => by
    unfold lend at e
    split at e
    · rename_i os hos
      cases e
      obtain ⟨h1, h2⟩ := lend_rd k l r hos hc
      refine ⟨by simp [h1], fun j o e => ?_⟩
      cases j with
      | zero =>
        have e' : O.p x = o := by simpa using e
        subst e'
        exact ⟨_, x, rfl, rfl, RD.le l h⟩
      | succ j =>
        obtain ⟨v, d, g1, g2, g3⟩ := h2 j o (by simpa using e)
        exact ⟨v, d, by simpa using g1, g2, g3⟩
    · cases e
  | v :: _, .at i :: cs, _, .cons h r, e, hc => by
    unfold lend at e
    split at e
    · rename_i o' ho
      split at e
      · rename_i os hos
        cases e
        obtain ⟨h1, h2⟩ := lend_rd k l r hos fun a u ha hu => hc a u (.inr ha) hu
        refine ⟨by simp [h1], fun j o e => ?_⟩
        cases j with
        | zero =>
          have e' : O.p (toD o') = o := by simpa using e
          subst e'
          obtain ⟨v', g1, g2⟩ := k.sl i o' ho
          have h' : σm[i]? = some (some v) := h
          rw [h'] at g1
          have e2 : v = v' := by simpa using g1
          subst e2
          exact ⟨_, _, rfl, rfl, g2.rd l fun a u ha hu => hc a u (.inl ha) hu⟩
        | succ j =>
          obtain ⟨v, d, g1, g2, g3⟩ := h2 j o (by simpa using e)
          exact ⟨v, d, by simpa using g1, g2, g3⟩
      · cases e
    · cases e
/-- the slots behind frzPl: as they were, or frozen -/
theorem frzPl_at : ∀ {cs : List Hd} {σ : Sg} {i : Nat} {o : O}, (frzPl cs σ)[i]? = some (some o) → (σ[i]? = some (some o) ∧ .at i ∉ cs) ∨ ∃ o', σ[i]? = some (some o') ∧ .at i ∈ cs ∧ (o = .p (toD o') ∨ o = .p (toD (.p (toD o'))))
  | [], σ, i, o, h => .inl ⟨h, by simp⟩
  | .d _ :: cs, σ, i, o, h => by
    rcases frzPl_at (cs := cs) h with ⟨h1, h2⟩ | ⟨o', h1, h2, h3⟩
    · exact .inl ⟨h1, by simpa using h2⟩
    · exact .inr ⟨o', h1, List.mem_cons_of_mem _ h2, h3⟩
  | .at j :: cs, σ, i, o, h => by
    unfold frzPl at h
    split at h
    · rename_i oj hj
      by_cases e : i = j
      · subst e
        have hl : i < σ.length := (List.getElem?_eq_some_iff.mp hj).1
        rcases frzPl_at (cs := cs) h with ⟨h1, h2⟩ | ⟨o', h1, h2, h3⟩
        · rw [List.getElem?_set_self hl] at h1
          have e' : O.p (toD oj) = o := by simpa using h1
          exact .inr ⟨oj, hj, List.mem_cons_self, .inl e'.symm⟩
        · rw [List.getElem?_set_self hl] at h1
          have e' : O.p (toD oj) = o' := by simpa using h1
          subst e'
          exact .inr ⟨oj, hj, List.mem_cons_self, .inr (by rcases h3 with h3 | h3 <;> simpa [toD, toD1] using h3)⟩
      · rcases frzPl_at (cs := cs) h with ⟨h1, h2⟩ | ⟨o', h1, h2, h3⟩
        · rw [List.getElem?_set_ne (Ne.symm e)] at h1
          exact .inl ⟨h1, by simp [e, h2]⟩
        · rw [List.getElem?_set_ne (Ne.symm e)] at h1
          exact .inr ⟨o', h1, List.mem_cons_of_mem _ h2, h3⟩
    · rename_i hn
      rcases frzPl_at (cs := cs) h with ⟨h1, h2⟩ | ⟨o', h1, h2, h3⟩
      · by_cases e : i = j
        · subst e
          exact absurd h1 (hn o)
        · exact .inl ⟨h1, by simp [e, h2]⟩
      · exact .inr ⟨o', h1, List.mem_cons_of_mem _ h2, h3⟩
theorem frzPl_len : ∀ {cs : List Hd} {σ : Sg}, (frzPl cs σ).length = σ.length
  | [], _ => rfl
  | .d _ :: cs, σ => frzPl_len (cs := cs)
  | .at j :: cs, σ => by
    unfold frzPl
    split
    · rw [frzPl_len (cs := cs), List.length_set]
    · exact frzPl_len (cs := cs)
theorem lentF_mem {i : Nat} {a : Addr} : ∀ {cs : List Hd}, .at i ∈ cs → φ i a → lentF φ cs a
  | .d _ :: cs, h, ha => lentF_mem (cs := cs) (by simpa using h) ha
  | .at j :: cs, h, ha => by
    rcases List.mem_cons.mp h with e | h
    · cases e; exact .inl ha
    · exact .inr (lentF_mem (cs := cs) h ha)
end
/-- f(..), no argument is changed -/
def eCall0 (f : Fn) (as : Av) (σ : Sg) : Option (Rs × Sg) := match as σ with
  | none => none
  | some (cs, σ1) => match lend cs σ1 with
    | none => none
    | some os => match f os with
      | some (o, []) => some (.v o, if isSc o = true then σ1 else frzPl cs σ1)
      | _ => none
open Classical in
/-- all but G -/
noncomputable def rest (H Hf : Hp) (G : Fp) : Hp := fun a => if Hf a ≠ none ∨ G a then none else H a
theorem rest_out {H Hf : Hp} {G : Fp} {a : Addr} (h1 : Hf a = none) (h2 : ¬ G a) : rest H Hf G a = H a := by simp [rest, h1, h2]
theorem rest_some {H Hf : Hp} {G : Fp} {a : Addr} {u : HO} (h : rest H Hf G a = some u) : Hf a = none ∧ ¬ G a ∧ H a = some u := by
  unfold rest at h
  split at h
  · cases h
  · rename_i hn
    have h1 : Hf a = none := Classical.byContradiction fun z => hn (.inl z)
    have h2 : ¬ G a := fun z => hn (.inr z)
    exact ⟨h1, h2, h⟩
section
variable {M : Md} {Hf R H : Hp} {φ : Nat → Fp} {σm : St} {σ : Sg}
open Classical in
theorem call0_ok {f : Fn} {vs : List V} {cs : List Hd} {os : List O} {o : O} {Q : VK} {E : XK} (k : Ok M Hf R H φ σm σ) (hrs : HRs M Hf σm vs cs) (hl : lend cs σ = some os) (hf : f os = some (o, []))
    (q : ∀ v H' Hf' φ' G, Le Hf Hf' → Ok M Hf' R H' φ' σm (if isSc o = true then σ else frzPl cs σ) → RO M Hf' H' v o G → Own Hf' R H' φ' G → Le H H' → Q v H') : spFn M [] f vs H Q E := by
  have hL : ∀ a, lentF φ cs a → Hf a = none := fun a ha => by obtain ⟨i, hi⟩ := lentF_slot ha; exact (k.fp i a hi).1
  have lc : Le Hf (ext Hf H (lentF φ cs)) := le_ext hL
  have cH : Le (ext Hf H (lentF φ cs)) H := ext_le k.fz
  obtain ⟨h1, h2⟩ := lend_rd k lc hrs hl fun a u ha hu => by rw [ext_in ha]; exact hu
  refine ⟨os, ext Hf H (lentF φ cs), rest H (ext Hf H (lentF φ cs)) noF, fun _ => noF, o, [], ⟨cH, fun a u h => (rest_some h).2.2, fun a u h => (rest_some h).1, by simp [h1], fun j o' e => ?_, fun _ _ _ h => h.elim, fun _ _ h => h.elim⟩, hf, fun v H' Hf' φ' G l' k' ro own => ?_⟩
  · have e' : os[j]? = some o' := by
      cases h : os[j]? with
      | none => rw [List.getElem?_map, h] at e; cases e
      | some o2 => rw [List.getElem?_map, h] at e; cases e; rfl
    obtain ⟨w, d, g1, g2, g3⟩ := h2 j o' e'
    subst g2
    exact ⟨w, by rw [List.getElem?_map, g1]; rfl, g3⟩
  · -- what stood stands
    have le : Le H H' := fun a u hu => by
      cases e : ext Hf H (lentF φ cs) a with
      | none => exact k'.rz a u (by rw [rest_out e (fun z => z)]; exact hu)
      | some u' =>
        have := cH a u' e
        rw [hu] at this; cases this
        exact k'.fz a u (l' a u e)
    by_cases hs : isSc o = true
    · refine q v H' Hf φ noF (Le.refl _) ?_ (sc_any ro hs) Own.no le
      rw [if_pos hs]
      exact ⟨k.fz.trans le, k.rz.trans le, k.fr, k.len, fun i o' e => by
        obtain ⟨w, g1, g2⟩ := k.sl i o' e
        refine ⟨w, g1, g2.keep (Le.refl _) fun a ha => ?_⟩
        cases e : H a with
        | none => exact absurd e (k.fp i a ha).2.2
        | some u => exact le a u e, k.dj, fun i a ha => ⟨(k.fp i a ha).1, (k.fp i a ha).2.1, by
          cases e : H a with
          | none => exact absurd e (k.fp i a ha).2.2
          | some u => rw [le a u e]; simp⟩⟩
    · have inR : ∀ a u, H a = some u → ¬ lentF φ cs a → Hf a = none → rest H (ext Hf H (lentF φ cs)) noF a = some u := fun a u hu h1 h2 => by
        rw [rest_out (by rw [ext_out h1]; exact h2) (fun z => z)]; exact hu
      refine q v H' Hf' (fun i => if (.at i : Hd) ∈ cs then noF else φ i) G (lc.trans l') ?_ ro (fun a ha => ?_) le
      · rw [if_neg hs]
        refine ⟨k'.fz, k.rz.trans le, fun a u hu => ?_, by rw [frzPl_len]; exact k.len, fun i o' e => ?_, fun i j a h1 h2 => ?_, fun i a h => ?_⟩
        · have hR := k.rz a u hu
          have hn : ¬ lentF φ cs a := fun z => by
            obtain ⟨i, hi⟩ := lentF_slot z
            have := (k.fp i a hi).2.1
            rw [hu] at this; cases this
          exact k'.fr a u (inR a u hR hn (k.fr a u hu))
        · rcases frzPl_at e with ⟨e1, e2⟩ | ⟨o2, e1, e2, e3⟩
          · obtain ⟨w, g1, g2⟩ := k.sl i o' e1
            refine ⟨w, g1, ?_⟩
            simp only [e2, if_false]
            refine g2.keep (lc.trans l') fun a ha => ?_
            cases e : H a with
            | none => exact absurd e (k.fp i a ha).2.2
            | some u => exact le a u e
          · obtain ⟨w, g1, g2⟩ := k.sl i o2 e1
            refine ⟨w, g1, ?_⟩
            have rd : RD M Hf' w (toD o2) := RD.le l' (g2.rd lc fun a u ha hu => by rw [ext_in (lentF_mem e2 ha)]; exact hu)
            rcases e3 with rfl | rfl
            · exact RO.p0 (H := H') (F := _) rd
            · exact RO.p0 (H := H') (F := _) rd
        · by_cases c1 : (.at i : Hd) ∈ cs
          · simp [c1, noF] at h1
          · by_cases c2 : (.at j : Hd) ∈ cs
            · simp [c2, noF] at h2
            · simp [c1] at h1; simp [c2] at h2; exact k.dj i j a h1 h2
        · by_cases c1 : (.at i : Hd) ∈ cs
          · simp [c1, noF] at h
          · simp [c1] at h
            obtain ⟨g1, g2, g3⟩ := k.fp i a h
            have hn : ¬ lentF φ cs a := fun z => by
              have : ∀ {cs : List Hd}, lentF φ cs a → ∃ j, (.at j : Hd) ∈ cs ∧ φ j a := fun {cs} => by
                induction cs with
                | nil => exact fun h => h.elim
                | cons c cs ih =>
                  cases c with
                  | d x => exact fun h => let ⟨j, h1, h2⟩ := ih h; ⟨j, List.mem_cons_of_mem _ h1, h2⟩
                  | «at» j =>
                    rintro (h | h)
                    · exact ⟨j, List.mem_cons_self, h⟩
                    · obtain ⟨j, h1, h2⟩ := ih h
                      exact ⟨j, List.mem_cons_of_mem _ h1, h2⟩
              obtain ⟨j, hj, hja⟩ := this z
              have := k.dj i j a h hja
              subst this
              exact c1 hj
            cases e : H a with
            | none => exact absurd e g3
            | some u => exact ⟨k'.fr a u (inR a u e hn g1), g2, by rw [le a u e]; simp⟩
      · obtain ⟨g1, g2, g3, g4⟩ := own a ha
        refine ⟨g1, ?_, g3, fun i hi => ?_⟩
        · cases e : R a with
          | none => rfl
          | some u =>
            have hn : ¬ lentF φ cs a := fun z => by
              obtain ⟨i, hi⟩ := lentF_slot z
              have := (k.fp i a hi).2.1
              rw [e] at this; cases this
            rw [inR a u (k.rz a u e) hn (k.fr a u e)] at g2; cases g2
        · by_cases c1 : (.at i : Hd) ∈ cs
          · simp [c1, noF] at hi
          · simp [c1] at hi
            obtain ⟨f1, f2, f3⟩ := k.fp i a hi
            by_cases hn : lentF φ cs a
            · cases e : H a with
              | none => exact f3 e
              | some u =>
                have := l' a u (by rw [ext_in hn]; exact e)
                rw [g1] at this; cases this
            · cases e : H a with
              | none => exact f3 e
              | some u => rw [inR a u e hn f1] at g2; cases g2
end
section
variable {X : Cx} {k : Nat} {f : Addr} {fd : FuncData} {ps : List Str} {fn : Fn} {x : Str} {p pos : Pos} {e : Expr} {es : List Expr} {b : Bool} {as : Av}
theorem pev_call0 (F : FnOk X.prog X.w X.K X.mg X.base CX0 k f fd ps (spFn (mdOf X) [] fn)) (hr : Room k X.A) (hg : Gl X x) (hm : X.mg x = some (.ref f)) (hk : PySem.W.keepIn X.K (.ref f) = true) (hb : Binds X.K fd ps [])
    (ha : PAv X (e :: es) b as) (hdb : (x == ("__debug__" : Str)) = false := by decide) (he : starEach (e :: es) X.env = (false, eval e X.env) :: starEach es X.env := by rfl) (hpl : (backTo pos (starEach es X.env)).any (·.1) = false := by rfl) :
    PEv X (.Call (.Name x p) (e :: es) [] pos) b (eCall0 fn as) :=
  PE.imp (pe_call (dvs := []) F hr hg hm hk hb .nil pass0 ha hdb he hpl) fun σm H Q h => by
    obtain ⟨σ, Hf, R, φ, r, σ', k, e, q⟩ := h
    dsimp only [eCall0] at e
    split at e
    · cases e
    · rename_i cs σ1 e1
      refine ⟨σ, Hf, R, φ, cs, σ1, k, e1, fun vs H1 Hf1 φ1 l1 k1 hrs p1 => ?_⟩
      split at e
      · cases e
      · rename_i os hos
        split at e
        · rename_i o ho
          cases e
          rw [List.append_nil]
          exact call0_ok k1 hrs hos ho fun v H' Hf' φ' G l k' ro own le => q v H' Hf' φ' G (l1.trans l) k' ro own fun hb => (p1 hb).trans le
        · cases e
theorem pev_call00 (F : FnOk X.prog X.w X.K X.mg X.base CX0 k f fd ps (spFn (mdOf X) [] fn)) (hr : Room k X.A) (hg : Gl X x) (hm : X.mg x = some (.ref f)) (hk : PySem.W.keepIn X.K (.ref f) = true) (hb : Binds X.K fd ps [])
    (hdb : (x == ("__debug__" : Str)) = false := by decide) : PEv X (.Call (.Name x p) [] [] pos) b (eCall0 fn aNil) :=
  PE.imp (pe_call0 (dvs := []) F hr hg hm hk hb .nil pass0 hdb) fun σm H Q h => by
    obtain ⟨σ, Hf, R, φ, r, σ', k, e, q⟩ := h
    dsimp only [eCall0, aNil, lend, frzPl] at e
    split at e
    · rename_i o ho
      cases e
      refine call0_ok (cs := []) (E := E0) k .nil rfl ho fun v H' Hf' φ' G l k' ro own le => q v H' Hf' φ' G l ?_ ro own fun _ => le
      simpa [frzPl] using k'
    · cases e
end
/-- f(..), the j-th argument is changed -/
def eCall1 (j : Nat) (f : Fn) (as : Av) (σ : Sg) : Option (Rs × Sg) := match as σ with
  | none => none
  | some (cs, σ1) => match cs[j]? with
    | some (.at m) => match σ1[m]? with
      | some (some om) => match lend (cs.set j (.d .none)) σ1 with
        | none => none
        | some os => match f (os.set j om) with
          | some (o, [o']) => if (cs.set j (.d .none)).all (fun c => match c with | .at i => i != m | .d _ => true) = true then some (.v o, (frzPl (cs.set j (.d .none)) σ1).set m (some o')) else none
          | _ => none
      | _ => none
    | _ => none
theorem HRs.get {M : Md} {Hf : Hp} {σm : St} : ∀ {vs : List V} {cs : List Hd} {j : Nat} {c : Hd}, HRs M Hf σm vs cs → cs[j]? = some c → ∃ v, vs[j]? = some v ∧ HR M Hf σm v c
  | _, _, _, _, .nil, e => by simp at e
  | _, _, 0, _, .cons h _, e => by
    have e' := Option.some.inj e
    subst e'
    exact ⟨_, rfl, h⟩
  | _, _, j + 1, _, .cons _ r, e => by
    obtain ⟨v, h1, h2⟩ := HRs.get (j := j) r (by simpa using e)
    exact ⟨v, by simpa using h1, h2⟩
theorem HRs.set {M : Md} {Hf : Hp} {σm : St} {v : V} {c : Hd} (h : HR M Hf σm v c) : ∀ {vs : List V} {cs : List Hd} (j : Nat), HRs M Hf σm vs cs → HRs M Hf σm (vs.set j v) (cs.set j c)
  | _, _, _, .nil => .nil
  | _, _, 0, .cons _ r => .cons h r
  | _, _, j + 1, .cons g r => .cons g (HRs.set h j r)
section
variable {M : Md} {Hf R H : Hp} {φ : Nat → Fp} {σm : St} {σ : Sg}
theorem lentF_at {φ : Nat → Fp} {a : Addr} : ∀ {cs : List Hd}, lentF φ cs a → ∃ i, (.at i : Hd) ∈ cs ∧ φ i a
  | [], h => h.elim
  | .d _ :: cs, h => let ⟨i, h1, h2⟩ := lentF_at (cs := cs) h; ⟨i, List.mem_cons_of_mem _ h1, h2⟩
  | .at i :: cs, h => by
    rcases h with h | h
    · exact ⟨i, List.mem_cons_self, h⟩
    · obtain ⟨j, h1, h2⟩ := lentF_at (cs := cs) h
      exact ⟨j, List.mem_cons_of_mem _ h1, h2⟩
open Classical in
theorem call1_ok {f : Fn} {vs : List V} {cs : List Hd} {os : List O} {o om o' : O} {j m : Nat} {Q : VK} {E : XK} (k : Ok M Hf R H φ σm σ) (hrs : HRs M Hf σm vs cs) (hj : cs[j]? = some (.at m)) (hm : σ[m]? = some (some om))
    (hl : lend (cs.set j (.d .none)) σ = some os) (hf : f (os.set j om) = some (o, [o'])) (hne : (.at m : Hd) ∉ cs.set j (.d .none))
    (q : ∀ v H' Hf' φ' G, Le Hf Hf' → Ok M Hf' R H' φ' σm ((frzPl (cs.set j (.d .none)) σ).set m (some o')) → RO M Hf' H' v o G → Own Hf' R H' φ' G → Q v H') : spFn M [j] f vs H Q E := by
  generalize hcs : cs.set j (.d .none) = cs' at *
  obtain ⟨vj, hvj, hvm⟩ := hrs.get hj
  have hvm : σm[m]? = some (some vj) := hvm
  have hrs' : HRs M Hf σm (vs.set j .non) cs' := by rw [← hcs]; exact HRs.set (c := .d .none) (v := .non) RD.non j hrs
  have hL : ∀ a, lentF φ cs' a → Hf a = none := fun a ha => by obtain ⟨i, hi⟩ := lentF_slot ha; exact (k.fp i a hi).1
  have hLm : ∀ a, φ m a → ¬ lentF φ cs' a := fun a ha z => by
    obtain ⟨i, h1, h2⟩ := lentF_at z
    have := k.dj m i a ha h2
    subst this
    exact hne h1
  have lc : Le Hf (ext Hf H (lentF φ cs')) := le_ext hL
  have cH : Le (ext Hf H (lentF φ cs')) H := ext_le k.fz
  obtain ⟨h1, h2⟩ := lend_rd k lc hrs' hl fun a u ha hu => by rw [ext_in ha]; exact hu
  have h1 : os.length = vs.length := by simpa using h1
  have hjv : j < vs.length := (List.getElem?_eq_some_iff.mp hvj).1
  refine ⟨os.set j om, ext Hf H (lentF φ cs'), rest H (ext Hf H (lentF φ cs')) (φ m), fun i => if i = j then φ m else noF, o, [o'], ⟨cH, fun a u h => (rest_some h).2.2, fun a u h => (rest_some h).1, by simp [h1], fun i o2 e => ?_, fun i l a g1 g2 => ?_, fun i a g => ?_⟩, hf, fun v H' Hf' φ' G l' k' ro own => ?_⟩
  · have e' : (os.set j om)[i]? = some o2 := by
      cases h : (os.set j om)[i]? with
      | none => rw [List.getElem?_map, h] at e; cases e
      | some o3 => rw [List.getElem?_map, h] at e; cases e; rfl
    by_cases hi : i = j
    · subst hi
      rw [List.getElem?_set_self (by rw [h1]; simpa using hjv)] at e'
      have e2 : om = o2 := by simpa using e'
      subst e2
      obtain ⟨w, g1, g2⟩ := k.sl m om hm
      rw [hvm] at g1
      have e3 : vj = w := by simpa using g1
      subst e3
      exact ⟨vj, by rw [List.getElem?_map, hvj]; rfl, by simpa using g2.keep lc fun _ _ => rfl⟩
    · rw [List.getElem?_set_ne (Ne.symm hi)] at e'
      obtain ⟨w, d, g1, g2, g3⟩ := h2 i o2 e'
      subst g2
      rw [List.getElem?_set_ne (Ne.symm hi)] at g1
      exact ⟨w, by rw [List.getElem?_map, g1]; rfl, RO.p0 (H := H) (F := _) g3⟩
  · by_cases c1 : i = j
    · by_cases c2 : l = j
      · rw [c1, c2]
      · simp [c2, noF] at g2
    · simp [c1, noF] at g1
  · by_cases c1 : i = j
    · simp [c1] at g
      refine ⟨by rw [ext_out (hLm a g)]; exact (k.fp m a g).1, ?_, (k.fp m a g).2.2⟩
      simp [PV.rest, g]
    · simp [c1, noF] at g
  · have k0 := k'.sl 0 o' (by simp)
    obtain ⟨w0, g0, r0⟩ := k0
    have g0 : vs[j]? = some w0 := by simpa using g0
    rw [hvj] at g0
    have e0 : vj = w0 := by simpa using g0
    subst e0
    -- what stood stands, but what was changed
    have le : ∀ a u, H a = some u → ¬ φ m a → H' a = some u := fun a u hu hn => by
      cases e : ext Hf H (lentF φ cs') a with
      | none => exact k'.rz a u (by rw [rest_out e hn]; exact hu)
      | some u' =>
        have := cH a u' e
        rw [hu] at this; cases this
        exact k'.fz a u (l' a u e)
    have inR : ∀ a u, H a = some u → ¬ lentF φ cs' a → ¬ φ m a → Hf a = none → rest H (ext Hf H (lentF φ cs')) (φ m) a = some u := fun a u hu g1 g3 g2 => by
      rw [rest_out (by rw [ext_out g1]; exact g2) g3]; exact hu
    have ofR : ∀ a u, R a = some u → ¬ lentF φ cs' a ∧ ¬ φ m a ∧ Hf a = none ∧ H a = some u := fun a u hu => by
      refine ⟨fun z => ?_, fun z => ?_, k.fr a u hu, k.rz a u hu⟩
      · obtain ⟨i, hi⟩ := lentF_slot z
        have := (k.fp i a hi).2.1
        rw [hu] at this; cases this
      · have := (k.fp m a z).2.1
        rw [hu] at this; cases this
    have other : ∀ i a, i ≠ m → φ i a → ¬ φ m a := fun i a hi h z => hi (k.dj i m a h z)
    have notL : ∀ i a, (.at i : Hd) ∉ cs' → φ i a → ¬ lentF φ cs' a := fun i a hi h z => by
      obtain ⟨l, g1, g2⟩ := lentF_at z
      have := k.dj i l a h g2
      subst this
      exact hi g1
    refine q v H' Hf' (fun i => if i = m then φ' 0 else if (.at i : Hd) ∈ cs' then noF else φ i) G (lc.trans l') ⟨k'.fz, fun a u hu => ?_, fun a u hu => ?_, by rw [List.length_set, frzPl_len]; exact k.len, fun i o2 e => ?_, fun i l a g1 g2 => ?_, fun i a h => ?_⟩ ro (fun a ha => ?_)
    · obtain ⟨_, g2, _, g4⟩ := ofR a u hu
      exact le a u g4 g2
    · obtain ⟨g1, g2, g3, g4⟩ := ofR a u hu
      exact k'.fr a u (inR a u g4 g1 g2 g3)
    · by_cases hi : i = m
      · subst hi
        by_cases hlen : i < (frzPl cs' σ).length
        · rw [List.getElem?_set_self hlen] at e
          have e2 : o' = o2 := by simpa using e
          subst e2
          exact ⟨vj, hvm, by simpa using r0⟩
        · rw [List.getElem?_eq_none (by simpa using hlen)] at e; cases e
      · rw [List.getElem?_set_ne (Ne.symm hi)] at e
        rcases frzPl_at e with ⟨e1, e2⟩ | ⟨o3, e1, e2, e3⟩
        · obtain ⟨w, g1, g2⟩ := k.sl i o2 e1
          refine ⟨w, g1, ?_⟩
          simp only [hi, e2, if_false]
          refine g2.keep (lc.trans l') fun a ha => ?_
          cases e : H a with
          | none => exact absurd e (k.fp i a ha).2.2
          | some u => exact le a u e (other i a hi ha)
        · obtain ⟨w, g1, g2⟩ := k.sl i o3 e1
          refine ⟨w, g1, ?_⟩
          have rd : RD M Hf' w (toD o3) := RD.le l' (g2.rd lc fun a u ha hu => by rw [ext_in (lentF_mem e2 ha)]; exact hu)
          rcases e3 with rfl | rfl
          · exact RO.p0 (H := H') (F := _) rd
          · exact RO.p0 (H := H') (F := _) rd
    · have sep : ∀ i a, i ≠ m → (.at i : Hd) ∉ cs' → φ i a → ¬ φ' 0 a := fun i a hi hc h z => by
        have z1 := (k'.fp 0 a z).2.1
        obtain ⟨f1, f2, f3⟩ := k.fp i a h
        cases e : H a with
        | none => exact f3 e
        | some u => rw [inR a u e (notL i a hc h) (other i a hi h) f1] at z1; cases z1
      by_cases c1 : i = m
      · by_cases c2 : l = m
        · rw [c1, c2]
        · by_cases c3 : (.at l : Hd) ∈ cs'
          · simp [c2, c3, noF] at g2
          · simp [c1] at g1; simp [c2, c3] at g2
            exact absurd g1 (sep l a c2 c3 g2)
      · by_cases c3 : (.at i : Hd) ∈ cs'
        · simp [c1, c3, noF] at g1
        · simp [c1, c3] at g1
          by_cases c2 : l = m
          · simp [c2] at g2
            exact absurd g2 (sep i a c1 c3 g1)
          · by_cases c4 : (.at l : Hd) ∈ cs'
            · simp [c2, c4, noF] at g2
            · simp [c2, c4] at g2; exact k.dj i l a g1 g2
    · by_cases c1 : i = m
      · simp [c1] at h
        obtain ⟨f1, f2, f3⟩ := k'.fp 0 a h
        refine ⟨f1, ?_, f3⟩
        cases e : R a with
        | none => rfl
        | some u =>
          obtain ⟨g1, g2, g3, g4⟩ := ofR a u e
          rw [inR a u g4 g1 g2 g3] at f2; cases f2
      · by_cases c3 : (.at i : Hd) ∈ cs'
        · simp [c1, c3, noF] at h
        · simp [c1, c3] at h
          obtain ⟨f1, f2, f3⟩ := k.fp i a h
          cases e : H a with
          | none => exact absurd e f3
          | some u => exact ⟨k'.fr a u (inR a u e (notL i a c3 h) (other i a c1 h) f1), f2, by rw [le a u e (other i a c1 h)]; simp⟩
    · obtain ⟨g1, g2, g3, g4⟩ := own a ha
      refine ⟨g1, ?_, g3, fun i hi => ?_⟩
      · cases e : R a with
        | none => rfl
        | some u =>
          obtain ⟨f1, f2, f3, f4⟩ := ofR a u e
          rw [inR a u f4 f1 f2 f3] at g2; cases g2
      · by_cases c1 : i = m
        · simp [c1] at hi
          exact g4 0 hi
        · by_cases c3 : (.at i : Hd) ∈ cs'
          · simp [c1, c3, noF] at hi
          · simp [c1, c3] at hi
            obtain ⟨f1, f2, f3⟩ := k.fp i a hi
            cases e : H a with
            | none => exact f3 e
            | some u => rw [inR a u e (notL i a c3 hi) (other i a c1 hi) f1] at g2; cases g2
end
section
variable {X : Cx} {k : Nat} {f : Addr} {fd : FuncData} {ps : List Str} {fn : Fn} {x : Str} {p pos : Pos} {e : Expr} {es : List Expr} {b : Bool} {as : Av}
theorem pev_call1 {j : Nat} (F : FnOk X.prog X.w X.K X.mg X.base CX0 k f fd ps (spFn (mdOf X) [j] fn)) (hr : Room k X.A) (hg : Gl X x) (hm : X.mg x = some (.ref f)) (hk : PySem.W.keepIn X.K (.ref f) = true) (hb : Binds X.K fd ps [])
    (ha : PAv X (e :: es) b as) (hdb : (x == ("__debug__" : Str)) = false := by decide) (he : starEach (e :: es) X.env = (false, eval e X.env) :: starEach es X.env := by rfl) (hpl : (backTo pos (starEach es X.env)).any (·.1) = false := by rfl) :
    PEv X (.Call (.Name x p) (e :: es) [] pos) false (eCall1 j fn as) :=
  PE.imp (pe_call (dvs := []) F hr hg hm hk hb .nil pass0 ha hdb he hpl) fun σm H Q h => by
    obtain ⟨σ, Hf, R, φ, r, σ', k, e, q⟩ := h
    dsimp only [eCall1] at e
    split at e
    · cases e
    · rename_i cs σ1 e1
      refine ⟨σ, Hf, R, φ, cs, σ1, k, e1, fun vs H1 Hf1 φ1 l1 k1 hrs p1 => ?_⟩
      split at e
      · rename_i m hcm
        split at e
        · rename_i om hom
          split at e
          · cases e
          · rename_i os hos
            split at e
            · rename_i o o' ho
              split at e
              · rename_i hne
                cases e
                rw [List.append_nil]
                refine call1_ok k1 hrs hcm hom hos ho (fun z => ?_) fun v H' Hf' φ' G l k' ro own => q v H' Hf' φ' G (l1.trans l) k' ro own fun hb => by cases hb
                have := List.all_eq_true.mp hne _ z
                simp at this
              · cases e
            · cases e
        · cases e
      · cases e
end
end
end PV

set_option Elab.async false
set_option linter.all false
set_option maxRecDepth 100000
set_option maxHeartbeats 1000000
/-! PVg: comprehensions -/
namespace PV
noncomputable section
open PySem PySem.Spec L2
open PyProof.Rows hiding St

def wipeE (σ : Sg) : List Nat → Sg
  | [] => σ
  | v :: vs => (wipeE σ vs).set v none
def backE (σ0 σ1 : Sg) : List Nat → Sg
  | [] => σ1
  | v :: vs => (backE σ0 σ1 vs).set v (match σ0[v]? with | some x => x | none => none)
theorem wipeE_len (σ : Sg) : ∀ vs : List Nat, (wipeE σ vs).length = σ.length
  | [] => rfl
  | v :: vs => by unfold wipeE; rw [List.length_set, wipeE_len σ vs]
theorem backE_len (σ0 σ1 : Sg) : ∀ vs : List Nat, (backE σ0 σ1 vs).length = σ1.length
  | [] => rfl
  | v :: vs => by unfold backE; rw [List.length_set, backE_len σ0 σ1 vs]
theorem wipeE_get {σ : Sg} {i : Nat} {o : O} : ∀ {vs : List Nat}, (wipeE σ vs)[i]? = some (some o) → σ[i]? = some (some o) ∧ i ∉ vs
  | [], h => ⟨h, by simp⟩
  | v :: vs, h => by
    unfold wipeE at h
    by_cases hi : v = i
    · subst hi
      by_cases hv : v < (wipeE σ vs).length
      · rw [List.getElem?_set_self hv] at h; cases h
      · rw [List.getElem?_eq_none (by simpa using hv)] at h; cases h
    · rw [List.getElem?_set_ne hi] at h
      obtain ⟨h1, h2⟩ := wipeE_get h
      exact ⟨h1, by simp only [List.mem_cons, not_or]; exact ⟨fun e => hi e.symm, h2⟩⟩
theorem backE_get {σ0 σ1 : Sg} {i : Nat} {o : O} : ∀ {vs : List Nat}, (backE σ0 σ1 vs)[i]? = some (some o) → (i ∈ vs ∧ σ0[i]? = some (some o)) ∨ (i ∉ vs ∧ σ1[i]? = some (some o))
  | [], h => .inr ⟨by simp, h⟩
  | v :: vs, h => by
    unfold backE at h
    by_cases hi : v = i
    · subst hi
      by_cases hv : v < (backE σ0 σ1 vs).length
      · rw [List.getElem?_set_self hv] at h
        refine .inl ⟨List.mem_cons_self, ?_⟩
        have h' := Option.some.inj h
        cases e : σ0[v]? with
        | none => rw [e] at h'; cases h'
        | some x => rw [e] at h'; cases h'; rfl
      · rw [List.getElem?_eq_none (by simpa using hv)] at h; cases h
    · rw [List.getElem?_set_ne hi] at h
      rcases backE_get h with ⟨h1, h2⟩ | ⟨h1, h2⟩
      · exact .inl ⟨List.mem_cons_of_mem _ h1, h2⟩
      · exact .inr ⟨by simp only [List.mem_cons, not_or]; exact ⟨fun e => hi e.symm, h1⟩, h2⟩
theorem wipe_in {σ : St} {i : Nat} : ∀ {vs : List Nat}, i ∈ vs → i < σ.length → (wipe σ vs)[i]? = some none
  | v :: vs, h, hl => by
    unfold wipe
    by_cases e : v = i
    · subst e
      rw [List.getElem?_set_self (by rw [wipe_length]; exact hl)]
    · rw [List.getElem?_set_ne e]
      exact wipe_in (vs := vs) (by
        rcases List.mem_cons.mp h with z | z
        · exact absurd z.symm e
        · exact z) hl
theorem wipe_same {σ σ2 : St} {vs : List Nat} (h : Kept (fun i => i ∉ vs) (wipe σ vs) σ2) : wipe σ2 vs = wipe σ vs := by
  apply List.ext_getElem?
  intro i
  have hlen := h.1
  rw [wipe_length] at hlen
  by_cases hi : i ∈ vs
  · by_cases hl : i < σ.length
    · rw [wipe_in hi hl, wipe_in hi (by omega)]
    · rw [List.getElem?_eq_none (by rw [wipe_length]; omega), List.getElem?_eq_none (by rw [wipe_length]; omega)]
  · rw [wipe_out hi, h.2 i hi]
section
variable {M : Md} {Hf R H : Hp} {φ : Nat → Fp} {σm : St} {σ : Sg}
open Classical in
theorem Ok.wipe (k : Ok M Hf R H φ σm σ) (vs : List Nat) : Ok M Hf R H (fun i => if i ∈ vs then noF else φ i) (L2.wipe σm vs) (wipeE σ vs) where
  fz := k.fz
  rz := k.rz
  fr := k.fr
  len := by rw [wipe_length, wipeE_len]; exact k.len
  sl := fun i o e => by
    obtain ⟨e1, hi⟩ := wipeE_get e
    obtain ⟨v, h1, h2⟩ := k.sl i o e1
    exact ⟨v, by rw [wipe_out hi]; exact h1, by simpa [hi] using h2⟩
  dj := fun i j a h1 h2 => by
    by_cases hi : i ∈ vs
    · simp [hi, noF] at h1
    · by_cases hj : j ∈ vs
      · simp [hj, noF] at h2
      · simp [hi] at h1; simp [hj] at h2; exact k.dj i j a h1 h2
  fp := fun i a h => by
    by_cases hi : i ∈ vs
    · simp [hi, noF] at h
    · simp [hi] at h; exact k.fp i a h
/-- an object of nobody's changes -/
theorem Ok.updD (k : Ok M Hf R H φ σm σ) {D : Addr} {o : HO} (g : Own Hf R H φ (fun a => a = D)) : Ok M Hf R (upd H D o) φ σm σ ∧ Own Hf R (upd H D o) φ (fun a => a = D) := by
  obtain ⟨g1, g2, g3, g4⟩ := g D rfl
  refine ⟨⟨fun a u e => ?_, fun a u e => ?_, k.fr, k.len, fun i o' e => ?_, k.dj, fun i a h => ?_⟩, fun a ha => ?_⟩
  · rw [upd_ne fun z => by rw [z, g1] at e; cases e]; exact k.fz a u e
  · rw [upd_ne fun z => by rw [z, g2] at e; cases e]; exact k.rz a u e
  · obtain ⟨v, h1, h2⟩ := k.sl i o' e
    exact ⟨v, h1, h2.keep (Le.refl _) fun a ha => upd_ne fun z => g4 i (by rw [← z]; exact ha)⟩
  · refine ⟨(k.fp i a h).1, (k.fp i a h).2.1, ?_⟩
    rw [upd_ne fun z => g4 i (by rw [← z]; exact h)]
    exact (k.fp i a h).2.2
  · subst ha
    exact ⟨g1, g2, by rw [upd_same]; simp, g4⟩
end

/-- the turns of a comprehension -/
def lcL (own : List Nat) (t : Tg) (c : Tv) (e : Ev) : List D → Sg → Option (List D × Sg)
  | [], σ => some ([], σ)
  | d :: ds, σ => match t d σ with
    | none => none
    | some σ2 => match c σ2 with
      | none => none
      | some (false, σ3) => lcL own t c e ds (wipeE σ3 own)
      | some (true, σ3) => match e σ3 with
        | none => none
        | some (r, σ4) => match frz r σ4 with
          | none => none
          | some (y, σ5) => match lcL own t c e ds (wipeE σ5 own) with
            | none => none
            | some (ys, σ6) => some (y :: ys, σ6)
def eLc (own : List Nat) (it : Iv) (t : Tg) (c : Tv) (e : Ev) (σ : Sg) : Option (Rs × Sg) := match it σ with
  | none => none
  | some (ds, σ1) => match lcL own t c e ds (wipeE σ1 own) with
    | none => none
    | some (ys, σ2) => if Cl (ys.length ≤ sizeLine) then some (.v (.l ys), backE σ1 σ2 own) else none
def tvYes (σ : Sg) : Option (Bool × Sg) := some (true, σ)
open Classical in
theorem wE_lc {M : Md} {own : List Nat} {bi bc be : Bool} {it : Iv} {t : Tg} {c : Tv} {e : Ev} {σm : St} {H : Hp} {Q : VK} (h : wE M (bi && bc && be) (eLc own it t c e) σm H Q) :
    tLc (wI M bi it) (wG M (fun i => i ∉ own) t) (wT M bc c) (wE M be e) own σm H Q := by
  obtain ⟨σ, Hf, R, φ, r0, σ', k, ee, q⟩ := h
  dsimp only [eLc] at ee
  split at ee
  · cases ee
  · rename_i ds σ1 e1
    refine ⟨σ, Hf, R, φ, ds, σ1, k, e1, fun J H1 Hf1 φ1 l1 k1 jt p1 D nD => ?_⟩
    split at ee
    · cases ee
    · rename_i ys σ2 e2
      split at ee
      · rename_i hz
        cases ee
        let W : Fp := fun a => ∃ i, i ∈ own ∧ φ1 i a
        have hW : ∀ a, W a → Hf1 a = none ∧ R a = none ∧ H1 a ≠ none := fun a ⟨i, _, hi⟩ => k1.fp i a hi
        have lR : Le R (ext R H1 W) := le_ext fun a ha => (hW a ha).2.1
        have kw := k1.wipe own
        have kR : Ok M Hf1 (ext R H1 W) H1 (fun i => if i ∈ own then noF else φ1 i) (L2.wipe σm own) (wipeE σ1 own) := by
          refine ⟨kw.fz, ext_le kw.rz, fun a o h => ?_, kw.len, kw.sl, kw.dj, fun i a h => ⟨(kw.fp i a h).1, ?_, (kw.fp i a h).2.2⟩⟩
          · by_cases hw : W a
            · exact (hW a hw).1
            · rw [ext_out hw] at h; exact kw.fr a o h
          · rw [ext_out]
            · exact (kw.fp i a h).2.1
            · rintro ⟨j, hj, hja⟩
              by_cases hi : i ∈ own
              · simp [hi, noF] at h
              · simp [hi] at h
                have := k1.dj i j a h hja
                subst this
                exact hi hj
        let IH : Nat → Hp → Prop := fun i H => ∃ σi Hfi φi acc ysd rst, Le Hf1 Hfi ∧ Ok M Hfi (ext R H1 W) H φi (L2.wipe σm own) σi ∧ H D = some (.lst acc) ∧ RDs M Hfi acc ysd ∧ Own Hfi (ext R H1 W) H φi (fun a => a = D) ∧
          lcL own t c e (ds.drop i) σi = some (rst, σ2) ∧ ysd ++ rst = ys ∧ ((bi && bc && be) = true → Le H1 H)
        refine ⟨fun i m H => m = ds.length - i ∧ i ≤ ds.length ∧ IH i H, ⟨ds.length, by simp, Nat.zero_le _, wipeE σ1 own, Hf1, _, [], [], ys, Le.refl _, kR.new nD, upd_same, .nil, kR.newF nD, by simpa using e2, rfl, fun _ => le_upd nD⟩, ?_⟩
        rintro i m H2 ⟨rfl, hi, σi, Hfi, φi, acc, ysd, rst, li, ki, hD, rds, own0, el, ey, pu⟩
        by_cases hlt : i < ds.length
        · right
          refine ⟨(jt i Hfi H2 li ki.fz).1 hlt, IH (i + 1), fun H' hw => ⟨ds.length - (i + 1), by omega, rfl, hlt, hw⟩, fun xv H3 y => ?_⟩
          have kt := ki.keepG own0
          obtain ⟨Hf3, l3, k3, rd, le3⟩ := jt.step (d := ds[i]) li kt y (by simp [hlt])
          rw [List.drop_eq_getElem_cons hlt, lcL] at el
          split at el
          · cases el
          · rename_i σ4 e4
            refine ⟨σi, Hf3, _, φi, ds[i], σ4, k3, rd, e4, fun σm4 Hf4 φ4 l4 k4 kp4 => ⟨wipe_same kp4, ?_⟩⟩
            -- the end of a turn
            have fin : ∀ {σ5 : Sg} {H5 Hf5 : Hp} {φ5 : Nat → Fp}, Le Hf4 Hf5 → Ok M Hf5 (ext (ext R H1 W) H2 (fun a => a = D)) H5 φ5 σm4 σ5 → ((bi && bc && be) = true → Le H3 H5) →
                ∃ φ6, Ok M Hf5 (ext R H1 W) H5 φ6 (L2.wipe σm own) (wipeE σ5 own) ∧ Own Hf5 (ext R H1 W) H5 φ6 (fun a => a = D) ∧ H5 D = some (.lst acc) ∧ ((bi && bc && be) = true → Le H1 H5) := fun {σ5 H5 Hf5 φ5} l5 k5 p5 => by
              obtain ⟨k6, own6, at6⟩ := Ok.freeG own0 k5
              have k7 := k6.wipe own
              rw [wipe_same kp4] at k7
              refine ⟨_, k7, fun a ha => ?_, by rw [at6 D rfl]; exact hD, fun hb => ((pu hb).trans le3).trans (p5 hb)⟩
              obtain ⟨g1, g2, g3, g4⟩ := own6 a ha
              refine ⟨g1, g2, g3, fun j hj => ?_⟩
              by_cases c : j ∈ own
              · simp [c, noF] at hj
              · simp [c] at hj; exact g4 j hj
            split at el
            · cases el
            · rename_i σ5 e5
              refine ⟨σ4, Hf4, _, φ4, false, σ5, k4, e5, fun H5 Hf5 φ5 l5 k5 p5 => ?_⟩
              simp only [Bool.false_eq_true, if_false]
              obtain ⟨φ6, k6, own6, hD6, p6⟩ := fin l5 k5 fun hb => p5 (by simp only [Bool.and_eq_true] at hb; exact hb.1.2)
              exact ⟨_, Hf5, φ6, acc, ysd, rst, ((li.trans l3).trans l4).trans l5, k6, hD6, RDs.le ((l3.trans l4).trans l5) rds, own6, el, ey, p6⟩
            · rename_i σ5 e5
              refine ⟨σ4, Hf4, _, φ4, true, σ5, k4, e5, fun H5 Hf5 φ5 l5 k5 p5 => ?_⟩
              simp only [if_true]
              split at el
              · cases el
              · rename_i r6 σ6 e6
                refine ⟨σ5, Hf5, _, φ5, r6, σ6, k5, e6, fun v6 H6 Hf6 φ6 G6 l6 k6 rr6 own6 p6 => ?_⟩
                split at el
                · cases el
                · rename_i yd σ7 e7
                  obtain ⟨Hf7, φ7, l7, k7, rd7⟩ := frz_ok k6 rr6 own6 e7
                  split at el
                  · cases el
                  · rename_i ys' σ8 e8
                    cases el
                    obtain ⟨φ8, k8, own8, hD8, p8⟩ := fin ((l5.trans l6).trans l7) k7 fun hb => by
                      simp only [Bool.and_eq_true] at hb
                      exact (p5 hb.1.2).trans (p6 hb.2)
                    have LL : Le Hfi Hf7 := ((l3.trans l4).trans l5).trans (l6.trans l7)
                    refine ⟨acc, hD8, ?_, ?_⟩
                    · rw [rds.length]
                      have := congrArg List.length ey
                      simp at this
                      have hz2 := id hz
                      unfold Cl at hz2
                      omega
                    · obtain ⟨k9, own9⟩ := k8.updD (o := .lst (acc ++ [v6])) own8
                      refine ⟨_, Hf7, φ8, acc ++ [v6], ysd ++ [yd], ys', li.trans LL, k9, upd_same, (RDs.le LL rds).append (.cons rd7 .nil), own9, e8, by rw [List.append_assoc]; exact ey, fun hb a u hu => ?_⟩
                      rw [upd_ne fun z => by rw [z, nD] at hu; cases hu]
                      exact p8 hb a u hu
        · left
          have hi' : i = ds.length := by omega
          subst hi'
          rw [List.drop_length, lcL] at el
          cases el
          rw [List.append_nil] at ey
          subst ey
          refine ⟨(jt ds.length Hfi H2 li ki.fz).2.1 (Nat.le_refl _), ?_⟩
          obtain ⟨g1, g2, g3, g4⟩ := own0 D rfl
          have atW : ∀ a, W a → H2 a = H1 a ∧ Hfi a = none ∧ H2 a ≠ none := fun a ha => by
            cases e : H1 a with
            | none => exact absurd e (hW a ha).2.2
            | some u =>
              have hr : ext R H1 W a = some u := by rw [ext_in ha]; exact e
              have := ki.rz a u hr
              exact ⟨by rw [this], ki.fr a u hr, by rw [this]; simp⟩
          refine q (.ref D) H2 Hfi (fun i => if i ∈ own then φ1 i else φi i) (fun a => a = D) (l1.trans li) ⟨ki.fz, lR.trans ki.rz, fun a u hu => ki.fr a u (lR a u hu), ?_, fun j o ej => ?_, fun j l a h1 h2 => ?_, fun j a h => ?_⟩ ⟨D, acc, rfl, hD, rds, rfl⟩ (fun a ha => ?_) fun hb => ?_
          · rw [backE_len]
            have := ki.len
            rw [wipe_length] at this
            exact this
          · rcases backE_get ej with ⟨h1, h2⟩ | ⟨h1, h2⟩
            · obtain ⟨w, f1, f2⟩ := k1.sl j o h2
              refine ⟨w, f1, ?_⟩
              simp only [h1, if_true]
              exact f2.keep li fun a ha => (atW a ⟨j, h1, ha⟩).1
            · obtain ⟨w, f1, f2⟩ := ki.sl j o h2
              rw [wipe_out h1] at f1
              exact ⟨w, f1, by simpa [h1] using f2⟩
          · have sep : ∀ j l a, j ∈ own → φ1 j a → φi l a → False := fun j l a hj h1 h2 => by
              have z := (ki.fp l a h2).2.1
              rw [ext_in (show W a from ⟨j, hj, h1⟩)] at z
              exact (hW a ⟨j, hj, h1⟩).2.2 z
            by_cases c1 : j ∈ own
            · by_cases c2 : l ∈ own
              · simp [c1] at h1; simp [c2] at h2; exact k1.dj j l a h1 h2
              · simp [c1] at h1; simp [c2] at h2; exact (sep j l a c1 h1 h2).elim
            · by_cases c2 : l ∈ own
              · simp [c1] at h1; simp [c2] at h2; exact (sep l j a c2 h2 h1).elim
              · simp [c1] at h1; simp [c2] at h2; exact ki.dj j l a h1 h2
          · by_cases c1 : j ∈ own
            · simp [c1] at h
              have z := atW a ⟨j, c1, h⟩
              exact ⟨z.2.1, (hW a ⟨j, c1, h⟩).2.1, z.2.2⟩
            · simp [c1] at h
              refine ⟨(ki.fp j a h).1, ?_, (ki.fp j a h).2.2⟩
              cases e : R a with
              | none => rfl
              | some u => have := (ki.fp j a h).2.1; rw [lR a u e] at this; cases this
          · subst ha
            refine ⟨g1, ?_, g3, fun j hj => ?_⟩
            · cases e : R a with
              | none => rfl
              | some u => rw [lR a u e] at g2; cases g2
            · by_cases c1 : j ∈ own
              · simp [c1] at hj
                exact (k1.fp j a hj).2.2 nD
              · simp [c1] at hj; exact g4 j hj
          · have hb' := hb
            simp only [Bool.and_eq_true] at hb'
            exact (p1 hb'.1.1).trans (pu hb)
      · cases ee
section
variable {X : Cx}
abbrev PTsv (X : Cx) (ifs : List Expr) (b : Bool) (c : Tv) : Prop := PTs X ifs (wT (mdOf X) b c)
theorem PTs.imp {X : Cx} {ifs : List Expr} {t u : TT} (h : PTs X ifs t) (k : ∀ σ H Q, u σ H Q → t σ H Q) : PTs X ifs u := ⟨fun pins s σ H Q I hu => h.run pins s σ H Q I (k σ H Q hu)⟩
theorem ptsv_nil : PTsv X [] true tvYes := PTs.imp pts_nil fun σm H Q h => by
  obtain ⟨σ, Hf, R, φ, r, σ', k, e, q⟩ := h
  cases e
  exact q H Hf φ (Le.refl _) k fun _ => Le.refl _
theorem ptsv_one {c : Expr} {b : Bool} {tc : Tv} (h : PTv X c b tc) : PTsv X [c] b tc := pts_one h
variable {elt tg iter : Expr} {ifs : List Expr} {scope : Scope} {own : List (Str × Nat)} {pos : Pos} {bi bc be : Bool} {it : Iv} {t : Tg} {c : Tv} {e : Ev}
theorem pev_lc (hc : X.calm = true) (hN : X.N.Nodup) (hi : PIv X tg iter bi it) (ok : BlkOk X.N X.env.scope scope own)
    (hg : ∀ (s : Shared) (H : Hp) (C : Addr) (cl : List (Str × Addr)) (fp : List Addr), PGv (X.blk s H scope (compEnvC scope cl C X.env) fp) (fun i => i ∉ own.map (·.2)) tg t)
    (ht : ∀ (s : Shared) (H : Hp) (C : Addr) (cl : List (Str × Addr)) (fp : List Addr), PTsv (X.blk s H scope (compEnvC scope cl C X.env) fp) ifs bc c)
    (he : ∀ (s : Shared) (H : Hp) (C : Addr) (cl : List (Str × Addr)) (fp : List Addr), PEv (X.blk s H scope (compEnvC scope cl C X.env) fp) elt be e) (hs : ∀ x, foldedSetIterable iter X.env x = pure x := by intro _; rfl) :
    PEv X (.ListComp elt [⟨tg, iter, ifs, 0⟩] scope pos) (bi && bc && be) (eLc (own.map (·.2)) it t c e) :=
  PE.imp (pe_lc hc hN hi ok hg ht he hs) fun _ _ _ h => wE_lc h
theorem psv_setLc {io : Io} {i : Nat} {y : Str} {py spos : Pos} (hc : X.calm = true) (hN : X.N.Nodup) (hy : X.N[i]? = some y) (hyl : X.env.scope.names.lookup y = some .local) (hio : ¬ io i)
    (hsw : swapsWith (.ListComp elt [⟨tg, iter, ifs, 0⟩] scope pos) (some (.Name y py)) spos.line X.env = pure true) (hi : PIv X tg iter bi it) (ok : BlkOk X.N X.env.scope scope own)
    (hg : ∀ (s : Shared) (H : Hp) (C : Addr) (cl : List (Str × Addr)) (fp : List Addr), PGv (X.blk s H scope (compEnvC scope cl C X.env) fp) (fun i => i ∉ own.map (·.2)) tg t)
    (ht : ∀ (s : Shared) (H : Hp) (C : Addr) (cl : List (Str × Addr)) (fp : List Addr), PTsv (X.blk s H scope (compEnvC scope cl C X.env) fp) ifs bc c)
    (he : ∀ (s : Shared) (H : Hp) (C : Addr) (cl : List (Str × Addr)) (fp : List Addr), PEv (X.blk s H scope (compEnvC scope cl C X.env) fp) elt be e) (hs : ∀ x, foldedSetIterable iter X.env x = pure x := by intro _; rfl) :
    PSv X io (.Assign [.Name y py] (.ListComp elt [⟨tg, iter, ifs, 0⟩] scope pos) spos) (xSet i (eLc (own.map (·.2)) it t c e)) :=
  PS.imp (ps_setLc hc hN hy hyl hsw hi ok hg ht he hs) fun _ _ _ h => wS_set (b := bi && bc && be) hio (fun _ _ _ h => wE_lc h) h
end
end
end PV

set_option Elab.async false
set_option linter.all false
set_option maxRecDepth 100000
set_option maxHeartbeats 1000000
/-! PVh: what the built-in operations do on data -/
namespace PV
noncomputable section
open PySem PySem.Spec L2
open PyProof.Rows hiding St
open PySem.W (dataLt alike AllAlike Sortable dataLe lt_data gt_data le_data ge_data EachIs)

/-! ### data without dicts -/
mutual
theorem RD.dp {M : Md} {H : Hp} : ∀ {d : D} {v : V}, RD M H v d → d.plain = true → Dp M.K H v d
  | .none, _, .non, _ => .non
  | .bool _, _, .bl b, _ => .bl b
  | .int _, _, .int i, _ => .int i
  | .str _, _, .str x, _ => .str x
  | .list ds, _, .lst h r, e => .lst h (RDs.dp r (by rw [PyData.plain] at e; exact e))
  | .tuple ds, _, .tup h r, e => .tup h (RDs.dp r (by rw [PyData.plain] at e; exact e))
  | .dict _, _, _, e => by simp [PyData.plain] at e
theorem RDs.dp {M : Md} {H : Hp} : ∀ {ds : List D} {vs : List V}, RDs M H vs ds → PyData.plainAll ds = true → DpAll M.K H vs ds
  | [], _, .nil, _ => .nil
  | d :: ds, _, .cons h r, e => by
    rw [PyData.plainAll, Bool.and_eq_true] at e
    exact .cons (RD.dp h e.1) (RDs.dp r e.2)
end
theorem RDp.dp {M : Md} {Hf H : Hp} {v : V} {d : D} (h : RDp M Hf H v d) (k : Le Hf H) (e : d.plain = true) : Dp M.K H v d := (h.rd k).dp e
section
variable {X : Cx}
/-- two data compared -/
theorem op_data {op : CmpOp} {g : D → D → Bool} {C : D → D → Prop} (rule : ∀ (A : Around) (s : Shared) (v u : Value) (d e : D) (as bs : List Addr) (Q : Value → Shared → Prop) (E : Value → Shared → Prop), A.units + 66 < cLine → Reads s.heap v d as → Reads s.heap u e bs → C d e → Q (.bool (g d e)) s → wpAny (model X.prog X.w) A (compareOp op v u) Q E s)
    (hu : X.A.units + 66 < cLine) : OpR X (compareOp op) (fun x y H Q => ∃ d e, Dp X.K H x d ∧ Dp X.K H y e ∧ C d e ∧ Q (.bl (g d e)) H) := by
  intro pins s σ H x y v u Q I rx ry h
  obtain ⟨d, e, hd, he, hc, q⟩ := h
  obtain ⟨as, r1⟩ := Dp.reads I d x v hd rx
  obtain ⟨bs, r2⟩ := Dp.reads I e y u he ry
  exact rule X.A s v u d e as bs _ _ hu r1 r2 hc ⟨.bl _, H, I, rfl, q⟩
end
def shp (d : D) : Bool := d.plain && decide (d.depth ≤ 64)
theorem shp_plain {d : D} (h : shp d = true) : d.plain = true := (Bool.and_eq_true_iff.mp h).1
theorem shp_depth {d : D} (h : shp d = true) : d.depth ≤ 64 := of_decide_eq_true (Bool.and_eq_true_iff.mp h).2
def CmpOk (d e : D) : Prop := shp d = true ∧ shp e = true
instance (d e : D) : Decidable (CmpOk d e) := inferInstanceAs (Decidable (_ ∧ _))
def OrdOk (d e : D) : Prop := shp d = true ∧ shp e = true ∧ alike d e = true ∧ (match d with | .none => false | _ => true) = true
instance (d e : D) : Decidable (OrdOk d e) := inferInstanceAs (Decidable (_ ∧ _ ∧ _ ∧ _))
theorem OrdOk.ne {d e : D} (h : OrdOk d e) : d ≠ .none := by
  rintro rfl
  exact absurd h.2.2.2 (by simp)
section
variable {X : Cx}
theorem room_of {A : Around} {d e : D} (hu : A.units + 66 < cLine) (h : shp d = true) : A.units + min d.depth e.depth < cLine := by have := shp_depth h; omega
theorem room_in {A : Around} {d : D} {ds : List D} (hu : A.units + 66 < cLine) (h : shp d = true) : A.units + 1 + min (PyData.depthAll ds) d.depth < cLine := by have := shp_depth h; omega
theorem op_dEq (hu : X.A.units + 66 < cLine) : OpR X (compareOp .Eq) (fun x y H Q => ∃ d e, Dp X.K H x d ∧ Dp X.K H y e ∧ CmpOk d e ∧ Q (.bl (PyData.eqv d e)) H) :=
  op_data (fun A s v u d e as bs Q E hu r1 r2 hc q => SeqAt.eq_plain r1 r2 (shp_plain hc.1) (shp_plain hc.2) (room_of hu hc.1) q) hu
theorem op_dNe (hu : X.A.units + 66 < cLine) : OpR X (compareOp .NotEq) (fun x y H Q => ∃ d e, Dp X.K H x d ∧ Dp X.K H y e ∧ CmpOk d e ∧ Q (.bl (!PyData.eqv d e)) H) :=
  op_data (g := fun d e => !PyData.eqv d e) (fun A s v u d e as bs Q E hu r1 r2 hc q => SeqAt.ne_plain r1 r2 (shp_plain hc.1) (shp_plain hc.2) (room_of hu hc.1) q) hu
theorem op_dLt (hu : X.A.units + 66 < cLine) : OpR X (compareOp .Lt) (fun x y H Q => ∃ d e, Dp X.K H x d ∧ Dp X.K H y e ∧ OrdOk d e ∧ Q (.bl (dataLt d e)) H) :=
  op_data (fun A s v u d e as bs Q E hu r1 r2 hc q => lt_data r1 r2 hc.2.2.1 hc.ne (room_of hu hc.1) q) hu
theorem op_dGt (hu : X.A.units + 66 < cLine) : OpR X (compareOp .Gt) (fun x y H Q => ∃ d e, Dp X.K H x d ∧ Dp X.K H y e ∧ OrdOk d e ∧ Q (.bl (dataLt e d)) H) :=
  op_data (g := fun d e => dataLt e d) (fun A s v u d e as bs Q E hu r1 r2 hc q => gt_data r1 r2 hc.2.2.1 hc.ne (room_of hu hc.1) q) hu
theorem op_dLe (hu : X.A.units + 66 < cLine) : OpR X (compareOp .LtE) (fun x y H Q => ∃ d e, Dp X.K H x d ∧ Dp X.K H y e ∧ OrdOk d e ∧ Q (.bl (!dataLt e d)) H) :=
  op_data (g := fun d e => !dataLt e d) (fun A s v u d e as bs Q E hu r1 r2 hc q => le_data r1 r2 hc.2.2.1 hc.ne (room_of hu hc.1) q) hu
theorem op_dGe (hu : X.A.units + 66 < cLine) : OpR X (compareOp .GtE) (fun x y H Q => ∃ d e, Dp X.K H x d ∧ Dp X.K H y e ∧ OrdOk d e ∧ Q (.bl (!dataLt d e)) H) :=
  op_data (g := fun d e => !dataLt d e) (fun A s v u d e as bs Q E hu r1 r2 hc q => ge_data r1 r2 hc.2.2.1 hc.ne (room_of hu hc.1) q) hu
end

/-! ### the operators -/
def addD : D → D → Option Out
  | .int i, .int j => some (.ex (.int (i + j)))
  | .str x, .str y => if Cl (x.length + y.length ≤ sizeLine) then some (.ex (.str (x ++ y))) else none
  | .list xs, .list ys => if Cl (xs.length + ys.length ≤ sizeLine) then some (.ls (xs ++ ys)) else none
  | .tuple xs, .tuple ys => if Cl (xs.length + ys.length ≤ sizeLine) then some (.te (xs ++ ys)) else none
  | _, _ => none
def subD : D → D → Option Out
  | .int i, .int j => some (.ex (.int (i - j)))
  | _, _ => none
def mulD : D → D → Option Out
  | .int i, .int j => if Cl (i.natAbs.log2 + j.natAbs.log2 < 1000000) then some (.ex (.int (i * j))) else none
  | _, _ => none
def divD : D → D → Option Out
  | .int i, .int j => if Cl (0 < j ∧ j.natAbs.log2 < 9000) then some (.ex (.int (i / j))) else none
  | _, _ => none
def modD : D → D → Option Out
  | .int i, .int j => if 0 < j then some (.ex (.int (i % j))) else none
  | _, _ => none
def powD : D → D → Option Out
  | .int i, .int j => if Cl (0 ≤ j ∧ j ≤ 1000000 ∧ i.natAbs < 2 ^ 64) then some (.ex (.int (i ^ j.toNat))) else none
  | _, _ => none
def negD : D → Option Out
  | .int i => some (.ex (.int (-i)))
  | _ => none
/-- == where it needs no form: numbers among themselves, texts, bools, None with anything plain -/
def scD : D → D → Option Bool
  | .int i, .int j => some (decide (i = j))
  | .str x, .str y => some (decide (x = y))
  | .bool a, .bool b => some (decide (a = b))
  | .none, .none => some true
  | .none, .int _ | .int _, .none | .none, .bool _ | .bool _, .none | .none, .str _ | .str _, .none => some false
  | .int _, .str _ | .str _, .int _ | .bool _, .str _ | .str _, .bool _ => some false
  | _, _ => none
def peq (d e : D) : Option Bool := match scD d e with
  | some b => some b
  | none => if Cl (CmpOk d e) then some (PyData.eqv d e) else none
def eqD (d e : D) : Option Out := match peq d e with | some b => some (.ex (.bool b)) | none => none
def neD (d e : D) : Option Out := match peq d e with | some b => some (.ex (.bool (!b))) | none => none
def ltD : D → D → Option Out
  | .int i, .int j => some (.ex (.bool (decide (i < j))))
  | d, e => if Cl (OrdOk d e) then some (.ex (.bool (dataLt d e))) else none
def gtD : D → D → Option Out
  | .int i, .int j => some (.ex (.bool (decide (j < i))))
  | d, e => if Cl (OrdOk d e) then some (.ex (.bool (dataLt e d))) else none
def leD : D → D → Option Out
  | .int i, .int j => some (.ex (.bool (decide (i ≤ j))))
  | d, e => if Cl (OrdOk d e) then some (.ex (.bool (!dataLt e d))) else none
def geD : D → D → Option Out
  | .int i, .int j => some (.ex (.bool (decide (j ≤ i))))
  | d, e => if Cl (OrdOk d e) then some (.ex (.bool (!dataLt d e))) else none
def isNoneD : D → Bool
  | .none => true
  | _ => false
def isD : D → D → Option Out
  | d, .none => some (.ex (.bool (isNoneD d)))
  | .bool a, .bool b => some (.ex (.bool (decide (a = b))))
  | _, _ => none
def isnotD : D → D → Option Out
  | d, .none => some (.ex (.bool (!isNoneD d)))
  | .bool a, .bool b => some (.ex (.bool (!decide (a = b))))
  | _, _ => none
def memD : D → D → Option Bool
  | d, .list ds => if Cl (CmpOk d (.list ds)) then some (ds.any fun z => PyData.eqv z d) else none
  | d, .tuple ds => if Cl (CmpOk d (.tuple ds)) then some (ds.any fun z => PyData.eqv z d) else none
  | .str x, .str y => some (!(Builtin.Str.occurrences y x 0 y.length 1).isEmpty)
  | _, _ => none
def inD (d e : D) : Option Out := match memD d e with | some b => some (.ex (.bool b)) | none => none
def ninD (d e : D) : Option Out := match memD d e with | some b => some (.ex (.bool (!b))) | none => none

section
variable {X : Cx}
/-- list + list, wherever they stand -/
def rCatS (K : PySem.W.Frag) : R2 := fun x y H Q => ∃ l b xs zs, x = .ref l ∧ y = .ref b ∧ SqL K H l xs ∧ SqL K H b zs ∧ xs.length + zs.length ≤ sizeLine ∧ ∀ p, H p = none → Q (.ref p) (upd H p (.lst (xs ++ zs)))
theorem op_catS : OpR X (binaryOp .Add) (rCatS X.K) := by
  intro pins s σ H x y v u Q I rx ry h
  obtain ⟨l, b, xs, zs, rfl, rfl, hH, hB, hz, q⟩ := h
  cases rx
  cases ry
  obtain ⟨its, r, pl, z⟩ := I.list hH
  obtain ⟨its2, r2, pl2, z2⟩ := I.list hB
  obtain ⟨⟨cls, dd, data, sl⟩, n, ho, hc, _, hd⟩ := id pl
  obtain ⟨⟨cls2, dd2, data2, sl2⟩, n2, ho2, hc2, _, hd2⟩ := id pl2
  simp only at hc hd hc2 hd2
  subst hc hd hc2 hd2
  refine concat_meets ⟨_, ho, rfl⟩ ⟨_, ho2, rfl⟩ noFill_list_add seq_list_add PySem.F.slot_list_add PySem.F.entry_list_add (PySem.F.args_list_add_2 _ _) (PyProof.Rows.list_addW l b its.toArray its2.toArray n n2 dd dd2 sl sl2 (by
    have h1 := r.length; have h2 := r2.length; simp only [List.size_toArray]; omega)) ⟨ho, ho2, ?_⟩
  have ea : its.toArray ++ its2.toArray = (its ++ its2).toArray := by simp
  rw [ea]
  exact ⟨.ref _, _, I.lnew (t' := s.toks) (r.append r2) (by rw [List.length_append]; omega), rfl, q _ I.fresh⟩
theorem op_addA : OpR X (binaryOp .Add) (fun x y H Q => (rI0 fun i j => .int (i + j)) x y H Q ∨ (∃ i j, x = .str i ∧ y = .str j ∧ i.length + j.length ≤ sizeLine ∧ Q (.str (i ++ j)) H) ∨ rCatS X.K x y H Q ∨ rCatA X.K x y H Q) :=
  op_add.or (op_add_str.or (op_catS.or op_catA))
theorem r_add : Rule2 (mdOf X) addD (fun x y H Q => (rI0 fun i j => .int (i + j)) x y H Q ∨ (∃ i j, x = .str i ∧ y = .str j ∧ i.length + j.length ≤ sizeLine ∧ Q (.str (i ++ j)) H) ∨ rCatS X.K x y H Q ∨ rCatA X.K x y H Q) := by
  intro Hf H x y d1 d2 out Q k h1 h2 e q
  unfold addD at e
  split at e
  · cases e; cases h1; cases h2
    exact .inl ⟨_, _, rfl, rfl, q _ (.int _)⟩
  · split at e
    · rename_i hz
      cases e; cases h1; cases h2
      exact .inr (.inl ⟨_, _, rfl, rfl, hz, q _ (.str _)⟩)
    · cases e
  · split at e
    · rename_i hz
      cases e
      obtain ⟨a, vs, rfl, g1, g2⟩ := h1
      obtain ⟨b, ws, rfl, g3, g4⟩ := h2
      exact .inr (.inr (.inl ⟨a, b, vs, ws, rfl, rfl, g1, g3, by rw [g2.length, g4.length]; exact hz, fun p n => q p _ n (g2.append g4)⟩))
    · cases e
  · split at e
    · rename_i hz
      cases e
      cases h1 with
      | tup g1 g2 =>
        cases h2 with
        | tup g3 g4 =>
          refine .inr (.inr (.inr ⟨_, _, _, _, rfl, rfl, sqt_le g1 k, sqt_le g3 k, by rw [g2.length, g4.length]; exact hz, fun h0 => ?_, fun _ h0 => ?_, fun _ _ p n => q.2 p _ n (g2.append g4)⟩))
          · subst h0
            cases g2
            exact q.1 _ (.tup g3 g4)
          · subst h0
            cases g4
            rw [List.append_nil] at q
            exact q.1 _ (.tup g1 g2)
    · cases e
  · cases e
theorem r_sub : Rule2 (mdOf X) subD (rI0 fun i j => .int (i - j)) := by
  intro Hf H x y d1 d2 out Q k h1 h2 e q
  unfold subD at e
  split at e
  · cases e; cases h1; cases h2
    exact ⟨_, _, rfl, rfl, q _ (.int _)⟩
  · cases e
theorem r_mul : Rule2 (mdOf X) mulD (rI CMulW fun i j => .int (i * j)) := by
  intro Hf H x y d1 d2 out Q k h1 h2 e q
  unfold mulD at e
  split at e
  · split at e
    · rename_i hc
      cases e; cases h1; cases h2
      exact ⟨_, _, rfl, rfl, hc, q _ (.int _)⟩
    · cases e
  · cases e
theorem r_div : Rule2 (mdOf X) divD (rI CDivW fun i j => .int (i / j)) := by
  intro Hf H x y d1 d2 out Q k h1 h2 e q
  unfold divD at e
  split at e
  · split at e
    · rename_i hc
      cases e; cases h1; cases h2
      exact ⟨_, _, rfl, rfl, hc, q _ (.int _)⟩
    · cases e
  · cases e
theorem r_mod : Rule2 (mdOf X) modD (rI (fun _ j => 0 < j) fun i j => .int (i % j)) := by
  intro Hf H x y d1 d2 out Q k h1 h2 e q
  unfold modD at e
  split at e
  · split at e
    · rename_i hc
      cases e; cases h1; cases h2
      exact ⟨_, _, rfl, rfl, hc, q _ (.int _)⟩
    · cases e
  · cases e
theorem r_pow : Rule2 (mdOf X) powD (rI CPow fun i j => .int (i ^ j.toNat)) := by
  intro Hf H x y d1 d2 out Q k h1 h2 e q
  unfold powD at e
  split at e
  · split at e
    · rename_i hc
      cases e; cases h1; cases h2
      exact ⟨_, _, rfl, rfl, hc, q _ (.int _)⟩
    · cases e
  · cases e
theorem r_neg : Rule1 (mdOf X) negD (rU fun i => .int (-i)) := by
  intro Hf H x d out Q k h1 e q
  unfold negD at e
  split at e
  · cases e; cases h1
    exact ⟨_, rfl, q _ (.int _)⟩
  · cases e
/-- == by the plain rule or by data -/
theorem sc_ok {M : Md} {Hf H : Hp} {x y : V} {d e : D} {b : Bool} (h1 : RDp M Hf H x d) (h2 : RDp M Hf H y e) (hs : scD d e = some b) : scal x y = true ∧ decide (x = y) = b := by
  unfold scD at hs
  split at hs <;> first
    | (cases hs; cases h1; cases h2; exact ⟨rfl, by simp⟩)
    | cases hs
theorem op_eqA (hu : X.A.units + 66 < cLine) : OpR X (compareOp .Eq) (fun x y H Q => rEq x y H Q ∨ ∃ d e, Dp X.K H x d ∧ Dp X.K H y e ∧ CmpOk d e ∧ Q (.bl (PyData.eqv d e)) H) := op_eq.or (op_dEq hu)
theorem op_neA (hu : X.A.units + 66 < cLine) : OpR X (compareOp .NotEq) (fun x y H Q => rNe x y H Q ∨ ∃ d e, Dp X.K H x d ∧ Dp X.K H y e ∧ CmpOk d e ∧ Q (.bl (!PyData.eqv d e)) H) := op_ne.or (op_dNe hu)
theorem r_eq : Rule2 (mdOf X) eqD (fun x y H Q => rEq x y H Q ∨ ∃ d e, Dp X.K H x d ∧ Dp X.K H y e ∧ CmpOk d e ∧ Q (.bl (PyData.eqv d e)) H) := by
  intro Hf H x y d1 d2 out Q k h1 h2 e q
  unfold eqD peq at e
  cases hs : scD d1 d2 with
  | some b =>
    rw [hs] at e
    cases e
    obtain ⟨g1, g2⟩ := sc_ok h1 h2 hs
    exact .inl ⟨g1, by rw [g2]; exact q _ (.bl _)⟩
  | none =>
    rw [hs] at e
    by_cases hc : CmpOk d1 d2
    · dsimp only at e
      rw [cpos hc] at e
      cases e
      exact .inr ⟨d1, d2, h1.dp k (shp_plain hc.1), h2.dp k (shp_plain hc.2), hc, q _ (.bl _)⟩
    · dsimp only at e
      rw [cneg hc] at e
      cases e
theorem r_ne : Rule2 (mdOf X) neD (fun x y H Q => rNe x y H Q ∨ ∃ d e, Dp X.K H x d ∧ Dp X.K H y e ∧ CmpOk d e ∧ Q (.bl (!PyData.eqv d e)) H) := by
  intro Hf H x y d1 d2 out Q k h1 h2 e q
  unfold neD peq at e
  cases hs : scD d1 d2 with
  | some b =>
    rw [hs] at e
    cases e
    obtain ⟨g1, g2⟩ := sc_ok h1 h2 hs
    exact .inl ⟨g1, by rw [g2]; exact q _ (.bl _)⟩
  | none =>
    rw [hs] at e
    by_cases hc : CmpOk d1 d2
    · dsimp only at e
      rw [cpos hc] at e
      cases e
      exact .inr ⟨d1, d2, h1.dp k (shp_plain hc.1), h2.dp k (shp_plain hc.2), hc, q _ (.bl _)⟩
    · dsimp only at e
      rw [cneg hc] at e
      cases e
theorem ord_ok {Hf H : Hp} {x y : V} {d1 d2 : D} {g : D → D → Bool} {p : Int → Int → Bool} {f : D → D → Option Out} {out : Out} {Q : VK} (hf : f = fun d e => match d, e with | .int i, .int j => some (.ex (.bool (p i j))) | d, e => if Cl (OrdOk d e) then some (.ex (.bool (g d e))) else none)
    (k : Le Hf H) (h1 : RDp (mdOf X) Hf H x d1) (h2 : RDp (mdOf X) Hf H y d2) (e : f d1 d2 = some out) (q : PO (mdOf X) Hf H Q out) :
    (rI0 fun i j => .bl (p i j)) x y H Q ∨ ∃ d e, Dp X.K H x d ∧ Dp X.K H y e ∧ OrdOk d e ∧ Q (.bl (g d e)) H := by
  subst hf
  dsimp only at e
  split at e
  · cases e; cases h1; cases h2
    exact .inl ⟨_, _, rfl, rfl, q _ (.bl _)⟩
  · split at e
    · rename_i hc
      cases e
      exact .inr ⟨d1, d2, h1.dp k (shp_plain hc.1), h2.dp k (shp_plain hc.2.1), hc, q _ (.bl _)⟩
    · cases e
theorem op_ltA (hu : X.A.units + 66 < cLine) : OpR X (compareOp .Lt) (fun x y H Q => (rI0 fun i j => .bl (decide (i < j))) x y H Q ∨ ∃ d e, Dp X.K H x d ∧ Dp X.K H y e ∧ OrdOk d e ∧ Q (.bl (dataLt d e)) H) := op_lt.or (op_dLt hu)
theorem op_gtA (hu : X.A.units + 66 < cLine) : OpR X (compareOp .Gt) (fun x y H Q => (rI0 fun i j => .bl (decide (j < i))) x y H Q ∨ ∃ d e, Dp X.K H x d ∧ Dp X.K H y e ∧ OrdOk d e ∧ Q (.bl (dataLt e d)) H) := op_gt.or (op_dGt hu)
theorem op_leA (hu : X.A.units + 66 < cLine) : OpR X (compareOp .LtE) (fun x y H Q => (rI0 fun i j => .bl (decide (i ≤ j))) x y H Q ∨ ∃ d e, Dp X.K H x d ∧ Dp X.K H y e ∧ OrdOk d e ∧ Q (.bl (!dataLt e d)) H) := op_le.or (op_dLe hu)
theorem op_geA (hu : X.A.units + 66 < cLine) : OpR X (compareOp .GtE) (fun x y H Q => (rI0 fun i j => .bl (decide (j ≤ i))) x y H Q ∨ ∃ d e, Dp X.K H x d ∧ Dp X.K H y e ∧ OrdOk d e ∧ Q (.bl (!dataLt d e)) H) := op_ge.or (op_dGe hu)
theorem r_lt : Rule2 (mdOf X) ltD (fun x y H Q => (rI0 fun i j => .bl (decide (i < j))) x y H Q ∨ ∃ d e, Dp X.K H x d ∧ Dp X.K H y e ∧ OrdOk d e ∧ Q (.bl (dataLt d e)) H) := fun Hf H x y d1 d2 out Q k h1 h2 e q =>
  ord_ok (g := dataLt) (p := fun i j => decide (i < j)) (f := ltD) (by funext d e; unfold ltD; rfl) k h1 h2 e q
theorem r_gt : Rule2 (mdOf X) gtD (fun x y H Q => (rI0 fun i j => .bl (decide (j < i))) x y H Q ∨ ∃ d e, Dp X.K H x d ∧ Dp X.K H y e ∧ OrdOk d e ∧ Q (.bl (dataLt e d)) H) := fun Hf H x y d1 d2 out Q k h1 h2 e q =>
  ord_ok (g := fun d e => dataLt e d) (p := fun i j => decide (j < i)) (f := gtD) (by funext d e; unfold gtD; rfl) k h1 h2 e q
theorem r_le : Rule2 (mdOf X) leD (fun x y H Q => (rI0 fun i j => .bl (decide (i ≤ j))) x y H Q ∨ ∃ d e, Dp X.K H x d ∧ Dp X.K H y e ∧ OrdOk d e ∧ Q (.bl (!dataLt e d)) H) := fun Hf H x y d1 d2 out Q k h1 h2 e q =>
  ord_ok (g := fun d e => !dataLt e d) (p := fun i j => decide (i ≤ j)) (f := leD) (by funext d e; unfold leD; rfl) k h1 h2 e q
theorem r_ge : Rule2 (mdOf X) geD (fun x y H Q => (rI0 fun i j => .bl (decide (j ≤ i))) x y H Q ∨ ∃ d e, Dp X.K H x d ∧ Dp X.K H y e ∧ OrdOk d e ∧ Q (.bl (!dataLt d e)) H) := fun Hf H x y d1 d2 out Q k h1 h2 e q =>
  ord_ok (g := fun d e => !dataLt d e) (p := fun i j => decide (j ≤ i)) (f := geD) (by funext d e; unfold geD; rfl) k h1 h2 e q
/-- is, is not: None or a bool on the right -/
def rIs : R2 := fun x y H Q => (y = .non ∧ Q (.bl (decide (x = .non))) H) ∨ ∃ a b, x = .bl a ∧ y = .bl b ∧ Q (.bl (decide (a = b))) H
def rIsnt : R2 := fun x y H Q => (y = .non ∧ Q (.bl (!decide (x = .non))) H) ∨ ∃ a b, x = .bl a ∧ y = .bl b ∧ Q (.bl (!decide (a = b))) H
theorem op_isA : OpR X (compareOp .Is) rIs := op_isN.or op_is_bl
theorem op_isntA : OpR X (compareOp .IsNot) rIsnt := op_notN.or op_isnot_bl
theorem rd_none {M : Md} {Hf H : Hp} {x : V} {d : D} (h : RDp M Hf H x d) : decide (x = .non) = isNoneD d := by
  cases d with
  | none => cases h; rfl
  | bool b => cases h; rfl
  | int i => cases h; rfl
  | str z => cases h; rfl
  | list ds => obtain ⟨a, vs, rfl, _⟩ := h; rfl
  | tuple ds => cases h; rfl
  | dict kvs => obtain ⟨a, _, _, _, _, rfl, _⟩ := h; rfl
theorem r_is : Rule2 (mdOf X) isD rIs := by
  intro Hf H x y d1 d2 out Q k h1 h2 e q
  unfold isD at e
  split at e
  · cases e; cases h2
    exact .inl ⟨rfl, by rw [rd_none h1]; exact q _ (.bl _)⟩
  · cases e; cases h1; cases h2
    exact .inr ⟨_, _, rfl, rfl, q _ (.bl _)⟩
  · cases e
theorem r_isnt : Rule2 (mdOf X) isnotD rIsnt := by
  intro Hf H x y d1 d2 out Q k h1 h2 e q
  unfold isnotD at e
  split at e
  · cases e; cases h2
    exact .inl ⟨rfl, by rw [rd_none h1]; exact q _ (.bl _)⟩
  · cases e; cases h1; cases h2
    exact .inr ⟨_, _, rfl, rfl, q _ (.bl _)⟩
  · cases e
/-- in, not in -/
def rInA (K : PySem.W.Frag) (neg : Bool) : R2 := fun x y H Q => (∃ d e, Dp K H x d ∧ Dp K H y e ∧ (∃ ds, (e = .list ds ∨ e = .tuple ds) ∧ CmpOk d e ∧ Q (.bl (neg ^^ (ds.any fun z => PyData.eqv z d))) H)) ∨
  ∃ i j, x = .str i ∧ y = .str j ∧ Q (.bl (neg ^^ !(Builtin.Str.occurrences j i 0 j.length 1).isEmpty)) H
theorem op_inA (hu : X.A.units + 66 < cLine) : OpR X (compareOp .In) (rInA X.K false) := by
  refine OpR.or (r := fun x y H Q => ∃ d e, Dp X.K H x d ∧ Dp X.K H y e ∧ (∃ ds, (e = .list ds ∨ e = .tuple ds) ∧ CmpOk d e ∧ Q (.bl (false ^^ (ds.any fun z => PyData.eqv z d))) H)) ?_ ?_
  · intro pins s σ H x y v u Q I rx ry h
    obtain ⟨d, e, hd, he, ds, hl, hc, q⟩ := h
    obtain ⟨as, r1⟩ := Dp.reads I d x v hd rx
    obtain ⟨bs, r2⟩ := Dp.reads I e y u he ry
    have q' : Q (.bl (ds.any fun z => PyData.eqv z d)) H := by simpa using q
    rcases hl with rfl | rfl
    · exact SeqAt.in_list_data r2 r1 (by have := shp_plain hc.2; rwa [PyData.plain] at this) (shp_plain hc.1) (room_in (by omega) hc.1) ⟨.bl _, H, I, rfl, q'⟩
    · exact SeqAt.in_tuple_data r2 r1 (by have := shp_plain hc.2; rwa [PyData.plain] at this) (shp_plain hc.1) (room_in (by omega) hc.1) ⟨.bl _, H, I, rfl, q'⟩
  · intro pins s σ H x y v u Q I rx ry h
    obtain ⟨i, j, e1, e2, q⟩ := h
    exact op_in_str pins s σ H x y v u Q I rx ry ⟨i, j, e1, e2, by simpa using q⟩
theorem op_ninA (hu : X.A.units + 66 < cLine) : OpR X (compareOp .NotIn) (rInA X.K true) := by
  refine OpR.or (r := fun x y H Q => ∃ d e, Dp X.K H x d ∧ Dp X.K H y e ∧ (∃ ds, (e = .list ds ∨ e = .tuple ds) ∧ CmpOk d e ∧ Q (.bl (true ^^ (ds.any fun z => PyData.eqv z d))) H)) ?_ ?_
  · intro pins s σ H x y v u Q I rx ry h
    obtain ⟨d, e, hd, he, ds, hl, hc, q⟩ := h
    obtain ⟨as, r1⟩ := Dp.reads I d x v hd rx
    obtain ⟨bs, r2⟩ := Dp.reads I e y u he ry
    have q' : Q (.bl (!ds.any fun z => PyData.eqv z d)) H := by simpa using q
    rcases hl with rfl | rfl
    · exact SeqAt.notIn_list_data r2 r1 (by have := shp_plain hc.2; rwa [PyData.plain] at this) (shp_plain hc.1) (room_in (by omega) hc.1) ⟨.bl _, H, I, rfl, q'⟩
    · exact SeqAt.notIn_tuple_data r2 r1 (by have := shp_plain hc.2; rwa [PyData.plain] at this) (shp_plain hc.1) (room_in (by omega) hc.1) ⟨.bl _, H, I, rfl, q'⟩
  · intro pins s σ H x y v u Q I rx ry h
    obtain ⟨i, j, e1, e2, q⟩ := h
    exact op_notIn_str pins s σ H x y v u Q I rx ry ⟨i, j, e1, e2, by simpa using q⟩
theorem in_ok {neg : Bool} {Hf H : Hp} {x y : V} {d1 d2 : D} {b : Bool} {Q : VK} (k : Le Hf H) (h1 : RDp (mdOf X) Hf H x d1) (h2 : RDp (mdOf X) Hf H y d2) (e : memD d1 d2 = some b) (q : Q (.bl (neg ^^ b)) H) : rInA X.K neg x y H Q := by
  unfold memD at e
  split at e
  · split at e
    · rename_i hc
      cases e
      exact .inl ⟨d1, _, h1.dp k (shp_plain hc.1), h2.dp k (shp_plain hc.2), _, .inl rfl, hc, q⟩
    · cases e
  · split at e
    · rename_i hc
      cases e
      exact .inl ⟨d1, _, h1.dp k (shp_plain hc.1), h2.dp k (shp_plain hc.2), _, .inr rfl, hc, q⟩
    · cases e
  · cases e; cases h1; cases h2
    exact .inr ⟨_, _, rfl, rfl, q⟩
  · cases e
theorem r_in : Rule2 (mdOf X) inD (rInA X.K false) := by
  intro Hf H x y d1 d2 out Q k h1 h2 e q
  unfold inD at e
  split at e
  · rename_i b hb
    cases e
    exact in_ok k h1 h2 hb (by simpa using q _ (.bl _))
  · cases e
theorem r_nin : Rule2 (mdOf X) ninD (rInA X.K true) := by
  intro Hf H x y d1 d2 out Q k h1 h2 e q
  unfold ninD at e
  split at e
  · rename_i b hb
    cases e
    exact in_ok k h1 h2 hb (by simpa using q _ (.bl _))
  · cases e
end
end
end PV

set_option Elab.async false
set_option linter.all false
set_option maxRecDepth 100000
set_option maxHeartbeats 1000000
/-! PVi: what the built-in functions and methods do on data -/
namespace PV
noncomputable section
open PySem PySem.Spec L2
open PyProof.Rows hiding St
open PySem.W (dataLt alike AllAlike Sortable dataLe EachIs)

section
variable {X : Cx}
theorem RDps.one {M : Md} {Hf H : Hp} {xs : List V} {d : D} (h : RDps M Hf H xs [d]) : ∃ x, xs = [x] ∧ RDp M Hf H x d := by
  cases h with
  | cons h t => cases t; exact ⟨_, rfl, h⟩
theorem RDps.two {M : Md} {Hf H : Hp} {xs : List V} {d e : D} (h : RDps M Hf H xs [d, e]) : ∃ x y, xs = [x, y] ∧ RDp M Hf H x d ∧ RDp M Hf H y e := by
  cases h with
  | cons h t =>
    obtain ⟨y, rfl, h2⟩ := t.one
    exact ⟨_, _, rfl, h, h2⟩

/-! ### len -/
def lenD : List D → Option Out
  | [.str z] => if Cl (z.length ≤ sizeLine) then some (.ex (.int z.length)) else none
  | [.list ds] => some (.ex (.int ds.length))
  | [.tuple ds] => some (.ex (.int ds.length))
  | _ => none
theorem r_len : RuleC (mdOf X) lenD (fun xs H Q => ∃ x n, xs = [x] ∧ LenV X.K x H n ∧ Q (.int n) H) := by
  intro Hf H xs ds out Q k h e q
  unfold lenD at e
  split at e
  · split at e
    · rename_i hz
      cases e
      obtain ⟨x, rfl, h'⟩ := h.one
      cases h'
      exact ⟨.str _, _, rfl, ⟨hz, rfl⟩, q _ (.int _)⟩
    · cases e
  · cases e
    obtain ⟨x, rfl, a, vs, rfl, g1, g2⟩ := h.one
    exact ⟨.ref _, _, rfl, .inl ⟨vs, g1, rfl⟩, q _ (by rw [g2.length]; exact .int _)⟩
  · cases e
    obtain ⟨x, rfl, h'⟩ := h.one
    cases h' with
    | tup g1 g2 => exact ⟨.ref _, _, rfl, .inr ⟨_, sqt_le g1 k, rfl⟩, q _ (by rw [g2.length]; exact .int _)⟩
  · cases e
/-! ### abs, int, min, max, sum -/
def absD : List D → Option Out
  | [.int i] => some (.ex (.int (if i < 0 then -i else i)))
  | _ => none
theorem r_abs : RuleC (mdOf X) absD (fun xs H Q => ∃ i, xs = [.int i] ∧ Q (.int (if i < 0 then -i else i)) H) := by
  intro Hf H xs ds out Q k h e q
  unfold absD at e
  split at e
  · cases e
    obtain ⟨x, rfl, h'⟩ := h.one
    cases h'
    exact ⟨_, rfl, q _ (.int _)⟩
  · cases e
def intD : List D → Option Out
  | [.int i] => some (.ex (.int i))
  | [.bool b] => some (.ex (.int (if b then 1 else 0)))
  | _ => none
theorem r_int : RuleC (mdOf X) intD (fun xs H Q => (∃ i, xs = [.int i] ∧ Q (.int i) H) ∨ ∃ k, xs = [.bl k] ∧ Q (.int (if k then 1 else 0)) H) := by
  intro Hf H xs ds out Q k h e q
  unfold intD at e
  split at e
  · cases e
    obtain ⟨x, rfl, h'⟩ := h.one
    cases h'
    exact .inl ⟨_, rfl, q _ (.int _)⟩
  · cases e
    obtain ⟨x, rfl, h'⟩ := h.one
    cases h'
    exact .inr ⟨_, rfl, q _ (.int _)⟩
  · cases e
def strD : List D → Option Out
  | [.int i] => if Cl (i.natAbs.log2 < 1920) then some (.ex (.str (toString i))) else none
  | _ => none
theorem r_str : RuleC (mdOf X) strD (fun xs H Q => ∃ i, xs = [.int i] ∧ i.natAbs.log2 < 1920 ∧ Q (.str (toString i)) H) := by
  intro Hf H xs ds out Q k h e q
  unfold strD at e
  split at e
  · split at e
    · rename_i hz
      cases e
      obtain ⟨x, rfl, h'⟩ := h.one
      cases h'
      exact ⟨_, rfl, hz, q _ (.str _)⟩
    · cases e
  · cases e
def intsOf : List D → Option (List Int)
  | [] => some []
  | .int i :: ds => match intsOf ds with | some ns => some (i :: ns) | none => none
  | _ => none
theorem intsOf_eq : ∀ {ds : List D} {ns : List Int}, intsOf ds = some ns → ds = ns.map PyData.int
  | [], _, e => by cases e; rfl
  | d :: ds, ns, e => by
    unfold intsOf at e
    split at e
    · rename_i h; cases h
    · rename_i h
      cases h
      split at e
      · rename_i ms hm
        cases e
        rw [intsOf_eq hm]; rfl
      · cases e
    · cases e
theorem intsOf_map : ∀ ns : List Int, intsOf (ns.map PyData.int) = some ns
  | [] => rfl
  | n :: ns => by show (match intsOf (ns.map PyData.int) with | some ms => some (n :: ms) | none => none) = _; rw [intsOf_map ns]
def sumD : List D → Option Out
  | [.list ds] => match intsOf ds with | some ns => some (.ex (.int ns.sum)) | none => none
  | _ => none
theorem r_sum : RuleC (mdOf X) sumD (rSum X.K) := by
  intro Hf H xs ds out Q k h e q
  unfold sumD at e
  split at e
  · split at e
    · rename_i ns hn
      cases e
      obtain ⟨x, rfl, a, vs, rfl, g1, g2⟩ := h.one
      rw [intsOf_eq hn] at g2
      rw [g2.ints_inv] at g1
      exact ⟨a, ns, rfl, g1, q _ (.int _)⟩
    · cases e
  · cases e
def min2D : List D → Option Out
  | [.int i, .int j] => some (.ex (.int (if j < i then j else i)))
  | _ => none
def max2D : List D → Option Out
  | [.int i, .int j] => some (.ex (.int (if j > i then j else i)))
  | _ => none
theorem r_min2 : RuleC (mdOf X) min2D (fun xs H Q => ∃ i j, xs = [.int i, .int j] ∧ Q (.int (if j < i then j else i)) H) := by
  intro Hf H xs ds out Q k h e q
  unfold min2D at e
  split at e
  · cases e
    obtain ⟨x, y, rfl, h1, h2⟩ := h.two
    cases h1; cases h2
    exact ⟨_, _, rfl, q _ (.int _)⟩
  · cases e
theorem r_max2 : RuleC (mdOf X) max2D (fun xs H Q => ∃ i j, xs = [.int i, .int j] ∧ Q (.int (if j > i then j else i)) H) := by
  intro Hf H xs ds out Q k h e q
  unfold max2D at e
  split at e
  · cases e
    obtain ⟨x, y, rfl, h1, h2⟩ := h.two
    cases h1; cases h2
    exact ⟨_, _, rfl, q _ (.int _)⟩
  · cases e
/-! min, max of a list of ints -/
def maxL : List Int → Int
  | [] => 0
  | [x] => x
  | x :: y :: r => max x (maxL (y :: r))
def minL : List Int → Int
  | [] => 0
  | [x] => x
  | x :: y :: r => min x (minL (y :: r))
theorem maxL_of {m : Int} : ∀ {ns : List Int}, m ∈ ns → (∀ y, y ∈ ns → y ≤ m) → maxL ns = m
  | [], h, _ => by simp at h
  | [x], h, _ => by simp at h; simp [maxL, h]
  | x :: y :: r, h, k => by
    have hx := k x (by simp)
    unfold maxL
    rcases List.mem_cons.mp h with e | h'
    · subst e
      have : maxL (y :: r) ≤ m := by
        have : ∀ (l : List Int), l ≠ [] → maxL l ∈ l := by
          intro l
          induction l with
          | nil => intro h; exact absurd rfl h
          | cons a t ih =>
            intro _
            cases t with
            | nil => simp [maxL]
            | cons b u =>
              unfold maxL
              have := ih (by simp)
              rcases Int.le_total a (maxL (b :: u)) with g | g
              · rw [Int.max_eq_right g]; exact List.mem_cons_of_mem _ this
              · rw [Int.max_eq_left g]; simp
        exact k _ (List.mem_cons_of_mem _ (this _ (by simp)))
      exact Int.max_eq_left this
    · rw [maxL_of h' fun z hz => k z (List.mem_cons_of_mem _ hz)]
      exact Int.max_eq_right hx
theorem minL_of {m : Int} : ∀ {ns : List Int}, m ∈ ns → (∀ y, y ∈ ns → m ≤ y) → minL ns = m
  | [], h, _ => by simp at h
  | [x], h, _ => by simp at h; simp [minL, h]
  | x :: y :: r, h, k => by
    have hx := k x (by simp)
    unfold minL
    rcases List.mem_cons.mp h with e | h'
    · subst e
      have : m ≤ minL (y :: r) := by
        have : ∀ (l : List Int), l ≠ [] → minL l ∈ l := by
          intro l
          induction l with
          | nil => intro h; exact absurd rfl h
          | cons a t ih =>
            intro _
            cases t with
            | nil => simp [minL]
            | cons b u =>
              unfold minL
              have := ih (by simp)
              rcases Int.le_total a (minL (b :: u)) with g | g
              · rw [Int.min_eq_left g]; simp
              · rw [Int.min_eq_right g]; exact List.mem_cons_of_mem _ this
        exact k _ (List.mem_cons_of_mem _ (this _ (by simp)))
      exact Int.min_eq_left this
    · rw [minL_of h' fun z hz => k z (List.mem_cons_of_mem _ hz)]
      exact Int.min_eq_right hx
def max1D : List D → Option Out
  | [.list ds] => match intsOf ds with | some ns => if 0 < ns.length then some (.ex (.int (maxL ns))) else none | none => none
  | _ => none
def min1D : List D → Option Out
  | [.list ds] => match intsOf ds with | some ns => if 0 < ns.length then some (.ex (.int (minL ns))) else none | none => none
  | _ => none
theorem r_max1 : RuleC (mdOf X) max1D (rMax X.K) := by
  intro Hf H xs ds out Q k h e q
  unfold max1D at e
  split at e
  · split at e
    · rename_i ns hn
      split at e
      · rename_i hz
        cases e
        obtain ⟨x, rfl, a, vs, rfl, g1, g2⟩ := h.one
        rw [intsOf_eq hn] at g2
        rw [g2.ints_inv] at g1
        exact ⟨a, ns, rfl, g1, hz, fun m hm hy => by rw [maxL_of hm hy] at q; exact q _ (.int _)⟩
      · cases e
    · cases e
  · cases e
theorem r_min1 : RuleC (mdOf X) min1D (rMin X.K) := by
  intro Hf H xs ds out Q k h e q
  unfold min1D at e
  split at e
  · split at e
    · rename_i ns hn
      split at e
      · rename_i hz
        cases e
        obtain ⟨x, rfl, a, vs, rfl, g1, g2⟩ := h.one
        rw [intsOf_eq hn] at g2
        rw [g2.ints_inv] at g1
        exact ⟨a, ns, rfl, g1, hz, fun m hm hy => by rw [minL_of hm hy] at q; exact q _ (.int _)⟩
      · cases e
    · cases e
  · cases e
/-! ### list, tuple -/
def listD : List D → Option Out
  | [.list ds] => some (.ls ds)
  | [.tuple ds] => some (.ls ds)
  | _ => none
def tupleD : List D → Option Out
  | [.list ds] => some (.tp ds)
  | [.tuple ds] => some (.ex (.tuple ds))
  | _ => none
theorem r_list : RuleC (mdOf X) listD (fun xs H Q => ∃ p ys, xs = [.ref p] ∧ (SqL X.K H p ys ∨ SqT X.K H p ys) ∧ ∀ l, H l = none → Q (.ref l) (upd H l (.lst ys))) := by
  intro Hf H xs ds out Q k h e q
  unfold listD at e
  split at e
  · cases e
    obtain ⟨x, rfl, a, vs, rfl, g1, g2⟩ := h.one
    exact ⟨a, vs, rfl, .inl g1, fun l n => q l _ n g2⟩
  · cases e
    obtain ⟨x, rfl, h'⟩ := h.one
    cases h' with
    | tup g1 g2 => exact ⟨_, _, rfl, .inr (sqt_le g1 k), fun l n => q l _ n g2⟩
  · cases e
theorem r_tuple : RuleC (mdOf X) tupleD (fun xs H Q => ∃ p ys, xs = [.ref p] ∧ ((SqL X.K H p ys ∧ ∀ l, H l = none → Q (.ref l) (upd H l (.tup ys))) ∨ (SqT X.K H p ys ∧ Q (.ref p) H))) := by
  intro Hf H xs ds out Q k h e q
  unfold tupleD at e
  split at e
  · cases e
    obtain ⟨x, rfl, a, vs, rfl, g1, g2⟩ := h.one
    exact ⟨a, vs, rfl, .inl ⟨g1, fun l n => q l _ n g2⟩⟩
  · cases e
    obtain ⟨x, rfl, h'⟩ := h.one
    cases h' with
    | tup g1 g2 => exact ⟨_, _, rfl, .inr ⟨sqt_le g1 k, q _ (.tup g1 g2)⟩⟩
  · cases e
/-! ### sorted -/
def allAlikeB (ds : List D) : Bool := ds.all fun d => ds.all fun e => alike d e
def tupB : D → Bool
  | .tuple (_ :: _) => true
  | _ => false
def plnB : D → Bool
  | .none => false
  | .tuple _ => false
  | _ => true
def sortableB (ds : List D) : Bool := ds.all tupB || ds.all plnB
theorem allAlike_of {ds : List D} (h : allAlikeB ds = true) : AllAlike ds := by
  intro d hd e he
  exact List.all_eq_true.mp (List.all_eq_true.mp h d hd) e he
theorem sortable_of {ds : List D} (h : sortableB ds = true) : Sortable ds := by
  unfold sortableB at h
  rw [Bool.or_eq_true] at h
  rcases h with h | h
  · refine .inl fun d hd => ?_
    have := List.all_eq_true.mp h d hd
    unfold tupB at this
    split at this
    · exact ⟨_, _, rfl⟩
    · cases this
  · refine .inr fun d hd => ?_
    have := List.all_eq_true.mp h d hd
    unfold plnB at this
    split at this
    · cases this
    · cases this
    · rename_i h1 h2
      exact ⟨fun e => h1 e, fun xs e => h2 xs e⟩
def SortOk (ds : List D) : Prop := allAlikeB ds = true ∧ sortableB ds = true ∧ (∀ d ∈ ds, shp d = true)
instance (ds : List D) : Decidable (SortOk ds) := inferInstanceAs (Decidable (_ ∧ _ ∧ _))
def sortD (ds : List D) : List D := ds.mergeSort (dataLe false id)
def sortedD : List D → Option Out
  | [.list ds] => if Cl (SortOk ds) then some (.ls (sortD ds)) else none
  | _ => none
def rSortedA (M : Md) : List V → Hp → VK → Prop := fun vs H Q => ∃ (a : Addr) (xs : List V) (ds : List D), vs = [V.ref a] ∧ SqL M.K H a xs ∧ RDs M H xs ds ∧ SortOk ds ∧
  ∀ (zs : List (D × V)) (p : Addr), H p = none → zs.map (·.1) = sortD ds → (∀ z ∈ zs, z ∈ ds.zip xs) → Q (.ref p) (upd H p (.lst (zs.map (·.2))))
theorem each_pairs {H : Hp} {X : Cx} {pins : List (Addr × Obj)} {σ : St} {s : Shared} (I : Inv X pins σ H s) : ∀ {xs : List V} {ds : List D} {us : List Value}, RDs (mdOf X) H xs ds → (∀ d ∈ ds, shp d = true) → Vals xs us →
    EachIs (fun (v : Value) (b : D × V) => RelV b.2 v ∧ ∃ as, Reads s.heap v b.1 as) us (ds.zip xs)
  | _, _, _, .nil, _, .nil => .nil
  | _, _, _, .cons h r, k, .cons g t => by
    have h1 := h.dp (shp_plain (k _ (by simp)))
    exact .cons ⟨g, Dp.reads I _ _ _ h1 g⟩ (each_pairs I r (fun d hd => k d (by simp [hd])) t)
theorem each_vals : ∀ {us : List Value} {zs : List (D × V)} {R : Value → D × V → Prop}, EachIs (fun v b => RelV b.2 v ∧ R v b) us zs → Vals (zs.map (·.2)) us
  | _, _, _, .nil => .nil
  | _, _, _, .cons h t => .cons h.1 (each_vals t)
theorem each_len : ∀ {us : List Value} {zs : List (D × V)} {R : Value → D × V → Prop}, EachIs R us zs → us.length = zs.length
  | _, _, _, .nil => rfl
  | _, _, _, .cons _ t => congrArg (· + 1) (each_len t)
theorem EachIs.monoZ {R S : Value → D × V → Prop} (k : ∀ v b, R v b → S v b) : ∀ {us : List Value} {zs : List (D × V)}, EachIs R us zs → EachIs S us zs
  | _, _, .nil => .nil
  | _, _, .cons h t => .cons (k _ _ h) (EachIs.monoZ k t)
theorem call_sortedA (hu : X.A.units + 70 < cLine) : CallR X (.builtin "sorted") (rSortedA (mdOf X)) := by
  intro pins s σ H vs us Q I r h
  obtain ⟨a, xs, ds, rfl, hs, hr, ⟨ha, hb, hc⟩, q⟩ := h
  obtain ⟨its, rv, hl, hz⟩ := I.list hs
  rw [Vals.ref1 r]
  have hlen := hr.length
  have eP := each_pairs I hr hc rv
  have em : (ds.zip xs).map Prod.fst = ds := by rw [List.map_fst_zip (by omega)]
  refine PySem.W.sorted_data (bs := ds.zip xs) (enc := Prod.fst) hl.isList eP (EachIs.monoZ (fun _ _ h => h.2) eP) ?_ ?_ ?_ ?_ fun out ho eo => ?_
  · rw [em]; exact allAlike_of ha
  · rw [em]; exact sortable_of hb
  · rw [List.length_zip]; omega
  · intro b hb'
    have hm : b.1 ∈ ds := by rw [← em]; exact List.mem_map_of_mem hb'
    have := shp_depth (hc _ hm)
    omega
  · have e1 : (((ds.zip xs).mergeSort (dataLe false Prod.fst)).map Prod.fst) = sortD ds := by
      unfold sortD
      rw [List.map_mergeSort (r := dataLe false Prod.fst) (s := dataLe false id) (fun a _ b _ => rfl), em]
    obtain ⟨c, hc'⟩ := PyProof.Rows.sortedAll_at s.heap its out.toArray
    have hv := each_vals eo
    have hlen2 : (((ds.zip xs).mergeSort (dataLe false Prod.fst)).map (·.2)).length ≤ sizeLine := by
      rw [List.length_map, List.length_mergeSort, List.length_zip]; omega
    have hn : H (s.heap.objs.size + 1) = none := I.hok.fresh (Nat.le_succ _)
    refine ⟨.ref (s.heap.objs.size + 1), _, I.laid (t' := s.toks) (o := .lst (((ds.zip xs).mergeSort (dataLe false Prod.fst)).map (·.2))) (fun b ob q' => PyProof.Rows.sortedAll_old q') (Nat.le_succ _) ⟨hlen2, out, c, hv, hc'⟩, rfl, q _ _ hn e1 ?_⟩
    intro z hz'
    exact (List.mergeSort_perm _ _).mem_iff.mp hz'
theorem RDs.zip {M : Md} {H : Hp} : ∀ {xs : List V} {ds : List D}, RDs M H xs ds → ∀ z ∈ ds.zip xs, RD M H z.2 z.1
  | _, _, .nil, z, h => by simp at h
  | _, _, .cons h r, z, hz => by
    rcases List.mem_cons.mp hz with e | hz
    · subst e; exact h
    · exact RDs.zip r z hz
theorem RDs.of_zip {M : Md} {H : Hp} : ∀ {zs : List (D × V)}, (∀ z ∈ zs, RD M H z.2 z.1) → RDs M H (zs.map (·.2)) (zs.map (·.1))
  | [], _ => .nil
  | z :: zs, h => .cons (h z (by simp)) (RDs.of_zip fun y hy => h y (by simp [hy]))
theorem r_sorted : RuleC (mdOf X) sortedD (rSortedA (mdOf X)) := by
  intro Hf H xs ds out Q k h e q
  unfold sortedD at e
  split at e
  · split at e
    · rename_i hs
      cases e
      obtain ⟨x, rfl, a, vs, rfl, g1, g2⟩ := h.one
      refine ⟨a, vs, _, rfl, g1, RDs.le k g2, hs, fun zs p n e1 e2 => q p _ n ?_⟩
      rw [← e1]
      exact RDs.of_zip fun z hz => RDs.zip g2 z (e2 z hz)
    · cases e
  · cases e
end
end
end PV

set_option Elab.async false
set_option linter.all false
set_option maxRecDepth 100000
set_option maxHeartbeats 1000000
/-! PVj: list times int, xs[::-1], isinstance, the methods of lists -/
namespace PV
noncomputable section
open PySem PySem.Spec L2
open PyProof.Rows hiding St

section
variable {X : Cx}
/-! ### list * int -/
def rRepS (K : PySem.W.Frag) : R2 := fun x y H Q => ∃ l k xs, x = .ref l ∧ y = .int k ∧ SqL K H l xs ∧ -(2 ^ 63) ≤ k ∧ k < 2 ^ 63 ∧ xs.length * k.toNat ≤ 2 ^ 24 ∧
  ∀ p, H p = none → Q (.ref p) (upd H p (.lst (List.replicate k.toNat xs).flatten))
theorem op_repS : OpR X (binaryOp .Mult) (rRepS X.K) := by
  intro pins s σ H x y v u Q I rx ry h
  obtain ⟨l, k, xs, rfl, rfl, hH, h1, h2, hz, q⟩ := h
  cases rx
  obtain ⟨t, rfl⟩ := ry
  obtain ⟨its, r, pl, hlen⟩ := I.list hH
  obtain ⟨⟨cls, dd, data, sl⟩, n, ho, hc, hdn, hd⟩ := id pl
  simp only at hc hd hdn
  subst hc hd hdn
  have hsz' : its.toArray.size * k.toNat ≤ 2 ^ 24 := by rw [List.size_toArray, ← r.length]; exact hz
  have hfl : xs.length * k.toNat ≤ sizeLine := by rw [sizeLine_eq]; omega
  refine wpAny_binaryOp_repeat_ref (T := "list") (U := "int") (by decide) ⟨_, ho, rfl⟩ (fun s' => typeIs_int s' k t) noFill_list_mul F.fills_int_mul F.slot_int_rmul repeat_list F.slot_int_index.lookup
    (call_meets F.slot_int_rmul (typeIs_int s k t) F.entry_int_rmul (F.args_int_rmul_2 _ _) (PySem.lm_int_rmul_list_any k t l its.toArray n none sl)
      ⟨ho, rfl, ⟨_, ho, rfl⟩, call_meets F.slot_list_mul ⟨_, ho, rfl⟩ F.entry_list_mul (F.args_list_mul_2 _ _)
        (PySem.lm_list_mul_any l its.toArray n none sl k t (by simp [Builtin.List.listFitsIndex]; omega) (by omega) (by simp [Builtin.List.listTooLong, sizeLine]; omega)) ⟨ho, ?_⟩⟩)
  rw [PyProof.Rows.listMul_foldl_if]
  exact ⟨.ref _, _, I.lnew (t' := s.toks) (r.rep k.toNat) (by rw [PyProof.Rows.lm_len_rep_flat, Nat.mul_comm]; exact hfl), rfl, q _ I.fresh⟩
def mul2D : D → D → Option Out
  | .list xs, .int k => if Cl (-(2 ^ 63) ≤ k ∧ k < 2 ^ 63 ∧ xs.length * k.toNat ≤ 2 ^ 24) then some (.ls (List.replicate k.toNat xs).flatten) else none
  | .int i, .int j => if Cl (((-(2 ^ 64) < i ∧ i < 2 ^ 64) ∨ (-(2 ^ 64) < j ∧ j < 2 ^ 64)) ∨ i.natAbs.log2 + j.natAbs.log2 < 1000000) then some (.ex (.int (i * j))) else none
  | _, _ => none
theorem RDs.rep {M : Md} {H : Hp} {vs : List V} {ds : List D} (h : RDs M H vs ds) : ∀ n : Nat, RDs M H (List.replicate n vs).flatten (List.replicate n ds).flatten
  | 0 => .nil
  | n + 1 => by rw [List.replicate_succ, List.replicate_succ, List.flatten_cons, List.flatten_cons]; exact h.append (RDs.rep h n)
def rMulA (K : PySem.W.Frag) : R2 := fun x y H Q => rRepS K x y H Q ∨ (rI CMul fun i j => .int (i * j)) x y H Q ∨ (rI CMulW fun i j => .int (i * j)) x y H Q
theorem op_mulA : OpR X (binaryOp .Mult) (rMulA X.K) := op_repS.or (op_mul.or op_mulW)
theorem r_mul2 : Rule2 (mdOf X) mul2D (rMulA X.K) := by
  intro Hf H x y d1 d2 out Q k h1 h2 e q
  unfold mul2D at e
  split at e
  · split at e
    · rename_i hz
      cases e
      cases h2
      obtain ⟨a, vs, rfl, g1, g2⟩ := h1
      exact .inl ⟨a, _, vs, rfl, rfl, g1, hz.1, hz.2.1, by rw [g2.length]; exact hz.2.2, fun p n => q p _ n (g2.rep _)⟩
    · cases e
  · split at e
    · rename_i hz
      cases e; cases h1; cases h2
      rcases hz with hz | hz
      · exact .inr (.inl ⟨_, _, rfl, rfl, hz, q _ (.int _)⟩)
      · exact .inr (.inr ⟨_, _, rfl, rfl, hz, q _ (.int _)⟩)
    · cases e
  · cases e

/-! ### xs[::-1] -/
def eRev (a : Ev) (σ : Sg) : Option (Rs × Sg) := match a σ with
  | some (r1, σ1) => match peek r1 σ1 with
    | some (.list ds) => some (.v (.l ds.reverse), σ1)
    | _ => none
  | none => none
theorem sl_rev {pins : List (Addr × Obj)} {s : Shared} {σ : St} {H : Hp} {a sl : Addr} {xs : List V} {u : Tok} {Q : VK} (I : Inv X pins σ H s) (hx : SqL X.K H a xs) (hs : s.heap.IsSliceOf sl .none .none (.int (-1) u))
    (q : ∀ p, H p = none → Q (.ref p) (upd H p (.lst xs.reverse))) : s.TypeIs (.ref a) "list" ∧ wpAny (model X.prog X.w) X.A (getItem (.ref a) (.ref sl)) (EP X pins σ Q) X.xe s := by
  obtain ⟨its, r, ht, hz⟩ := I.list hx
  have hlen := r.length
  refine ⟨ht.isList.typeIs, ?_⟩
  refine wpAny_getItem_list_slice ht.isList hs .none .none (.int _ _) (by simp) ?_ (by rw [List.size_toArray]; omega)
  rw [PySem.W.krv_pick]
  refine ⟨.ref s.heap.objs.size, _, I.laid (t' := s.toks) (o := .lst xs.reverse) (fun b ob q => Heap.get?_push_of_some _ q) (Nat.le_refl _) ?_, rfl, q _ (I.hok.fresh (Nat.le_refl _))⟩
  exact ⟨by rw [List.length_reverse]; exact hz, its.reverse, 0, r.reverse, by simpa using Heap.get?_push_size _ rfl⟩
theorem pev_rev {e st : Expr} {b : Bool} {ea es : Ev} {p2 pos : Pos} (he : PEv X e b ea) (hst : PEv X st true es) (hn : ∀ σ, es σ = some (.v (.p (.int (-1))), σ)) : PEv X (.Subscript e (.Slice none none (some st) p2) pos) b (eRev ea) := by
  refine PE.imp (t := fun σ H Q => wE (mdOf X) b ea σ H fun x H1 => wE (mdOf X) true es σ H1 fun y H2 => y = .int (-1) ∧ ∃ a xs, x = .ref a ∧ SqL X.K H2 a xs ∧ ∀ p, H2 p = none → Q (.ref p) (upd H2 p (.lst xs.reverse))) ⟨fun pins s σ H Q I h => ?_⟩ fun σm H Q h => ?_
  · refine Subscript_ (thn (he.run pins s σ H _ I h) fun v s1 ⟨x, H1, I1, r1, q1⟩ => ?_)
    refine wpAny_Slice ?_
    rw [evalPart_none]
    refine wpAny_pure ?_
    refine wpAny_pure ?_
    rw [evalPart_some]
    refine thn (hst.run pins s1 σ H1 _ I1 q1) fun u s3 ⟨y, H3, I3, pu, q3⟩ => ?_
    obtain ⟨rfl, a, xs, rfl, hx, q⟩ := q3
    obtain ⟨t, rfl⟩ := pu
    cases r1
    have I4 : Inv X pins σ H3 { s3 with heap := s3.heap.push { cls := .type "slice", data := .fields #[.none, .none, .int (-1) t] } } := I3.kept (t' := s3.toks) fun b ob q => Heap.get?_push_of_some _ q
    obtain ⟨ht, hg⟩ := sl_rev I4 hx (Heap.IsSliceOf.new ..) q
    show wpAny (model X.prog X.w) X.A (subscriptTail e (.Slice none none (some st) p2) (.ref a) (.ref s3.heap.objs.size)) (EP X pins σ Q) X.xe _
    exact tail_any (ops := [.ref a, .ref s3.heap.objs.size]) ht (PySem.slot_list_getitem.lookup) hg (by with_unfolding_all rfl)
  · obtain ⟨σ, Hf, R, φ, r, σ', k, e, q⟩ := h
    dsimp only [eRev] at e
    split at e
    · rename_i r1 σ1 e1
      split at e
      · rename_i ds hp
        cases e
        refine ⟨σ, Hf, R, φ, r1, _, k, e1, fun v H1 Hf1 φ1 G1 l1 k1 rr1 own1 p1 => ⟨_, Hf1, R, φ1, _, _, k1, hn _, fun w H2 Hf2 φ2 G2 l2 k2 rr2 own2 p2 => ?_⟩⟩
        have := peek_rd k1 rr1 hp
        obtain ⟨a, xs, rfl, g1, g2⟩ := this
        have hw : RD (mdOf X) Hf2 w (.int (-1)) := rr2
        cases hw
        refine ⟨rfl, a, xs, rfl, sql_le g1 (p2 rfl), fun p hn => q (.ref p) _ Hf2 φ2 (fun c => c = p) (l1.trans l2) (k2.new hn) ⟨p, xs.reverse, rfl, by simp [upd], (RDs.le l2 g2).reverse, rfl⟩ (k2.newF hn) fun hb => ((p1 hb).trans (p2 rfl)).trans (le_upd hn)⟩
      · cases e
    · cases e

/-! ### isinstance(x, T), T a built-in class -/
def tyN : D → String
  | .none => "NoneType"
  | .bool _ => "bool"
  | .int _ => "int"
  | .str _ => "str"
  | .list _ => "list"
  | .tuple _ => "tuple"
  | .dict _ => "dict"
def eIsI (T : String) (a : Ev) (σ : Sg) : Option (Rs × Sg) := match a σ with
  | some (r1, σ1) => match peek r1 σ1 with
    | some d => match d, kitB (tyN d) T with
      | .dict _, _ => none
      | _, some b => some (.v (.p (.bool b)), σ1)
      | _, none => none
    | none => none
  | none => none
theorem tyx_of {M : Md} {Hf H : Hp} {v : V} {d : D} (h : RDp M Hf H v d) (l : Le Hf H) (hd : ∀ kvs, d ≠ .dict kvs) : TyX M.K H v (.type (tyN d)) := by
  have tl : ∀ {a : Addr} {xs : List V}, SqL M.K H a xs → TyX M.K H (.ref a) (.type "list") := by
    intro a xs h
    rcases h with (h | ⟨o, h⟩) | ⟨o, its, n, hk, hc, _⟩
    · exact .base (.lst h)
    · exact .base (.frz h)
    · exact .kList hk hc
  have tt : ∀ {a : Addr} {xs : List V}, SqT M.K H a xs → TyX M.K H (.ref a) (.type "tuple") := by
    intro a xs h
    rcases h with (h | ⟨o, h⟩) | ⟨o, its, n, hk, hc, _⟩
    · exact .base (.tup h)
    · exact .fTuple h
    · exact .kTuple hk hc
  cases d with
  | none => cases h; exact .base .non
  | bool b => cases h; exact .base (.bl b)
  | int i => cases h; exact .base (.int i)
  | str x => cases h; exact .base (.str x)
  | list ds => obtain ⟨a, vs, rfl, g, _⟩ := h; exact tl g
  | tuple ds => cases h with | tup g _ => exact tt (sqt_le g l)
  | dict kvs => exact absurd rfl (hd kvs)
theorem pev_isi {e : Expr} {b : Bool} {ea : Ev} {tn : Str} {T : String} {p0 p1 pos : Pos} (ha : PEv X e b ea) (hg : Gl X "isinstance") (hm : X.mg "isinstance" = none) (hgT : Gl X tn) (hmT : X.mg tn = none) (hvT : bootBuiltins tn = some (.type T))
    (hnT : tn ≠ "__name__" := by decide) (hdT : (tn == ("__debug__" : Str)) = false := by decide)
    (hs1 : starEach [e, .Name tn p1] X.env = (false, eval e X.env) :: starEach [.Name tn p1] X.env := by rfl) (hs2 : starEach [.Name tn p1] X.env = [(false, eval (.Name tn p1) X.env)] := by rfl)
    (hplain : (backTo pos (starEach [.Name tn p1] X.env)).any (·.1) = false := by rfl) :
    PEv X (.Call (.Name "isinstance" p0) [e, .Name tn p1] [] pos) b (eIsI T ea) := by
  refine PE.imp (pe_callB call_isi hg hm (by decide +kernel) (pa_cons ha (pa_cons (pe_bltn (v := .ty T) hgT hmT hvT rfl hnT hdT) pa_nil hs2) hs1) (he := hs1) (hpl := hplain)) fun σm H Q h => ?_
  obtain ⟨σ, Hf, R, φ, r, σ', k, e', q⟩ := h
  dsimp only [eIsI] at e'
  split at e'
  · rename_i r1 σ1 e1
    split at e'
    · rename_i d hp
      split at e'
      · cases e'
      · rename_i d2 b2 x1 hnd hk
        cases e'
        refine ⟨σ, Hf, R, φ, r1, _, k, e1, fun v H1 Hf1 φ1 G1 l1 k1 rr1 own1 p1 => ?_⟩
        exact ⟨v, .ty T, .type (tyN _), .type T, _, rfl, .ty T, tyx_of (peek_rd k1 rr1 hp) k1.fz (fun kvs e => hnd kvs e), kit_ty hk, q _ _ Hf1 φ1 noF l1 k1 (.bl _) Own.no p1⟩
      · cases e'
    · cases e'
  · cases e'

/-! ### methods of lists -/
def appendD (xs : List D) : List D → Option (List D × D)
  | [d] => if Cl (xs.length < sizeLine) then some (xs ++ [d], .none) else none
  | _ => none
theorem r_append : RuleU (mdOf X) appendD rAppend := by
  intro Hf H a vs xs ws ds xs' d Q k h0 h1 h2 e q
  unfold appendD at e
  split at e
  · split at e
    · rename_i hz
      cases e
      cases h2 with
      | cons g t =>
        cases t
        exact ⟨a, vs, _, rfl, rfl, h0, by rw [h1.length]; exact hz, q .non _ .non (h1.append (.cons g .nil))⟩
    · cases e
  · cases e
def rExtS (K : PySem.W.Frag) : V → List V → Hp → VK → Prop := fun x vs H Q => ∃ l b xs zs, x = .ref l ∧ vs = [.ref b] ∧ H l = some (.lst xs) ∧ (SqL K H b zs ∨ SqT K H b zs) ∧ xs.length + zs.length ≤ sizeLine ∧ Q .non (upd H l (.lst (xs ++ zs)))
def extendD (xs : List D) : List D → Option (List D × D)
  | [.list ds] => if Cl (xs.length + ds.length ≤ sizeLine) then some (xs ++ ds, .none) else none
  | [.tuple ds] => if Cl (xs.length + ds.length ≤ sizeLine) then some (xs ++ ds, .none) else none
  | _ => none
theorem r_extend : RuleU (mdOf X) extendD (rExtS X.K) := by
  intro Hf H a vs xs ws ds xs' d Q k h0 h1 h2 e q
  unfold extendD at e
  split at e
  · split at e
    · rename_i hz
      cases e
      cases h2 with
      | cons g t =>
        cases t
        cases g with
        | lst g1 g2 => exact ⟨a, _, vs, _, rfl, rfl, h0, .inl (sql_le g1 k), by rw [h1.length, g2.length]; exact hz, q .non _ .non (h1.append g2)⟩
    · cases e
  · split at e
    · rename_i hz
      cases e
      cases h2 with
      | cons g t =>
        cases t
        cases g with
        | tup g1 g2 => exact ⟨a, _, vs, _, rfl, rfl, h0, .inr (sqt_le g1 k), by rw [h1.length, g2.length]; exact hz, q .non _ .non (h1.append g2)⟩
    · cases e
  · cases e
def popD (xs : List D) : List D → Option (List D × D)
  | [] => match xs[xs.length - 1]? with | some d => some (xs.dropLast, d) | none => none
  | _ => none
theorem RDs.dropLast {M : Md} {H : Hp} {vs : List V} {ds : List D} (h : RDs M H vs ds) : RDs M H vs.dropLast ds.dropLast := by
  rw [List.dropLast_eq_take, List.dropLast_eq_take, h.length]
  exact h.take _
theorem r_pop : RuleU (mdOf X) popD rPop := by
  intro Hf H a vs xs ws ds xs' d Q k h0 h1 h2 e q
  unfold popD at e
  split at e
  · split at e
    · rename_i d' hd
      cases e
      cases h2
      obtain ⟨v, hv, rv⟩ := h1.get' hd
      exact ⟨a, vs, v, rfl, rfl, h0, by rw [h1.length]; exact hv, q v _ rv h1.dropLast⟩
    · cases e
  · cases e
def clearD (xs : List D) : List D → Option (List D × D)
  | [] => some ([], .none)
  | _ => none
theorem r_clear : RuleU (mdOf X) clearD rClear := by
  intro Hf H a vs xs ws ds xs' d Q k h0 h1 h2 e q
  unfold clearD at e
  split at e
  · cases e
    cases h2
    exact ⟨a, vs, rfl, rfl, h0, q .non _ .non .nil⟩
  · cases e
def insertD (xs : List D) : List D → Option (List D × D)
  | [.int i, d] => if Cl (xs.length < sizeLine ∧ 0 ≤ i ∧ i < 2 ^ 63) then some (xs.take i.toNat ++ [d] ++ xs.drop i.toNat, .none) else none
  | _ => none
theorem r_insert : RuleU (mdOf X) insertD (fun x vs H Q => ∃ (l : Addr) (xs : List V) (i : Int) (y : V), x = .ref l ∧ vs = [.int i, y] ∧ H l = some (.lst xs) ∧ xs.length < sizeLine ∧ 0 ≤ i ∧ i < 2 ^ 63 ∧
    Q .non (upd H l (.lst (xs.take i.toNat ++ [y] ++ xs.drop i.toNat)))) := by
  intro Hf H a vs xs ws ds xs' d Q k h0 h1 h2 e q
  unfold insertD at e
  split at e
  · split at e
    · rename_i hz
      cases e
      cases h2 with
      | cons g t =>
        cases t with
        | cons g2 t =>
          cases t
          cases g
          exact ⟨a, vs, _, _, rfl, rfl, h0, by rw [h1.length]; exact hz.1, hz.2.1, hz.2.2, q .non _ .non (((h1.take _).append (.cons g2 .nil)).append (h1.drop _))⟩
    · cases e
  · cases e
def lstB : D → Bool
  | .list _ => true
  | _ => false
def tupleB : D → Bool
  | .tuple _ => true
  | _ => false
def strB : D → Bool
  | .str _ => true
  | _ => false
def indexD : D → List D → Option Out
  | .list ds, [d] => if Cl (CmpOk (.list ds) d ∧ (ds.findIdx fun z => PyData.eqv z d) < ds.length) then some (.ex (.int (ds.findIdx fun z => PyData.eqv z d : Nat))) else none
  | _, _ => none
/-- l.index(x): the first place of an equal one, no dict within -/
def rIndexP (K : PySem.W.Frag) : V → List V → Hp → VK → Prop := fun x xs H Q => ∃ (a : Addr) (y : V) (d : PyData) (ds : List PyData) (j : Nat) (z : PyData), x = V.ref a ∧ xs = [y] ∧ Dp K H (V.ref a) (.list ds) ∧ Dp K H y d ∧
  shp (.list ds) = true ∧ shp d = true ∧ ds[j]? = some z ∧ PyData.eqv z d = true ∧ (∀ (m : Nat) (z' : PyData), m < j → ds[m]? = some z' → PyData.eqv z' d = false) ∧ Q (.int (j : Nat)) H
theorem mt_indexP (hu : X.A.units + 66 < cLine) : MtR X "list.index" (rIndexP X.K) := by
  intro pins s σ H x xs v us Q I rx rxs h
  obtain ⟨a, y, d, ds, j, z, rfl, rfl, hl, hy, sl, sd, hz, hzj, hno, q⟩ := h
  cases rx
  cases rxs with
  | cons ry rt =>
    rename_i uy ut
    cases rt
    obtain ⟨bs, r1⟩ := Dp.reads I d y uy hy ry
    have hxs : PyData.plainAll ds = true := by have := shp_plain sl; rwa [PyData.plain] at this
    cases hl with
    | lst hs ha =>
      obtain ⟨its, rv, ⟨⟨cls, dd, data, sls⟩, n, ho, hc, hdn, hdt⟩, hlen⟩ := I.list hs
      simp only at hc hdt
      subst hc hdt
      obtain ⟨as, h4⟩ := Dp.readsAll I ds _ its ha rv
      have hn : its.length = ds.length := SeqAt.ReadsAll.length ds its as h4
      have hmap : its.map (SeqAt.readOf s.heap) = ds := SeqAt.readsAll_map_plain ds its as hxs h4
      have hvl := rv.length
      have hsl := sizeLine_eq
      obtain ⟨hjd, _⟩ := List.getElem?_eq_some_iff.mp hz
      have hj : j < its.toArray.size := by rw [List.size_toArray]; omega
      have at_ : ∀ (m : Nat) (hm : m < its.toArray.size) (z' : PyData), ds[m]? = some z' → SeqAt.readOf s.heap its.toArray[m] = z' := by
        intro m hm z' hz'
        have hml : m < its.length := by rw [List.size_toArray] at hm; exact hm
        rw [← hmap, List.getElem?_map, List.getElem?_eq_getElem hml] at hz'
        simpa using Option.some.inj hz'
      refine call_meets PySem.F.slot_list_index ⟨_, ho, rfl⟩ PySem.F.entry_list_index (PySem.F.args_list_index_2 _ _)
        (SeqAt.list_indexAt a its.toArray n dd sls uy (fun u => PyData.eqv (SeqAt.readOf s.heap u) d) j hj (by omega) ?_ ?_) ⟨ho, SeqAt.items_plain (vs := its.toArray) (show ReadsAll s.heap its.toArray.toList ds as from h4) r1 hxs (shp_plain sd) (room_in hu sd), ?_⟩
      · show PyData.eqv (SeqAt.readOf s.heap its.toArray[j]) d = true
        rw [at_ j hj z hz]
        exact hzj
      · intro m hm hmj
        have hmd : m < ds.length := by omega
        have e1 : ds[m]? = some ds[m] := List.getElem?_eq_getElem hmd
        show PyData.eqv (SeqAt.readOf s.heap its.toArray[m]) d = false
        rw [at_ m hm _ e1]
        exact hno m _ hmj e1
      · exact ⟨.int (j : Nat), H, I.tok _, ⟨_, rfl⟩, q⟩
theorem r_index : RuleM (mdOf X) indexD (rIndexP X.K) := by
  intro Hf H x xs d ds out Q k h1 h2 e q
  unfold indexD at e
  split at e
  · split at e
    · rename_i ds1 d1 hz
      cases e
      obtain ⟨y, rfl, h3⟩ := h2.one
      obtain ⟨a, vs, rfl, g1, g2⟩ := h1
      have hlt := hz.2
      refine ⟨a, y, _, _, _, ds1[ds1.findIdx fun z => PyData.eqv z d1], rfl, rfl, ?_, h3.dp k (shp_plain hz.1.2), hz.1.1, hz.1.2, by simp [hlt], List.findIdx_getElem (w := hlt), fun m z' hm hz' => ?_, q _ (.int _)⟩
      · exact RDp.dp (d := .list ds1) ⟨a, vs, rfl, g1, g2⟩ k (shp_plain hz.1.1)
      · have hml : m < ds1.length := by omega
        have e1 : ds1[m] = z' := by
          rw [List.getElem?_eq_getElem hml] at hz'
          exact Option.some.inj hz'
        subst e1
        have := List.not_of_lt_findIdx hm
        simpa using this
    · cases e
  · cases e
theorem extW {T : String} (hT : T = "list" ∨ T = "tuple") (l : Addr) (items : Array Value) (n : Nat) (b : Addr) (items2 : Array Value) (n2 : Nat) (dd : Option Addr) (sl : Array (Option Value)) (c0 : ¬(!items.isEmpty && Builtin.List.listTooLong (items.size + items2.size)) = true) (c1 : items.size ≤ sizeLine) (c2 : items.size + items2.size ≤ sizeLine + 1) :
    Meets (Builtin.«list.extend» ⟨[.ref l, .ref b], []⟩) (fun _ R s => s.heap.get? l = some { cls := .type "list", dict := none, data := .seq items n, slots := #[] } ∧ s.heap.get? b = some ⟨.type T, dd, .seq items2 n2, sl⟩ ∧ R (.ok (.ret Value.none)) { s with heap := s.heap.update l (Obj.mapSeq fun x => x ++ items2), toks := s.toks }) :=
  .of_wp fun prog w A R s h => by
    obtain ⟨hp, g, d, tk, os⟩ := s
    obtain ⟨hl, hb, h⟩ := h
    have f1 := AutoSeq1.idx_int
    have f2 := AutoSeq1.sub_tuple_tuple
    have f3 := AutoSeq1.sub_list_list
    have f4 := AutoSeq1.sub_tuple_list
    have f5 := AutoSeq1.sub_list_tuple
    have hz' : (items ++ items2).size ≤ sizeLine + 1 := by rw [Array.size_append]; exact c2
    rcases hT with rfl | rfl
    · wp_walk using (wpAny_updateSeq hl rfl (hz := c1) (_hz' := hz')), AutoSeq1.wpAny_loadPart' hl, AutoSeq1.wpAny_loadPart' hb
      exact ⟨_, rfl, h⟩
    · wp_walk using (wpAny_updateSeq hl rfl (hz := c1) (_hz' := hz')), AutoSeq1.wpAny_loadPart' hl, AutoSeq1.wpAny_loadPart' hb
      exact ⟨_, rfl, h⟩
theorem mt_extS : MtR X "list.extend" (rExtS X.K) := by
  intro pins s σ H x vs v us Q I rx rv h
  obtain ⟨l, b, xs, zs, rfl, rfl, hH, hB, hz, q⟩ := h
  cases rx
  obtain ⟨u, rfl, ru⟩ := rv.one
  cases ru
  obtain ⟨z, its, n, r, hl, e⟩ := I.lstM hH
  have hb : ∃ (T : String) (its2 : List Value) (n2 : Nat) (dd : Option Addr) (sl : Array (Option Value)), (T = "list" ∨ T = "tuple") ∧ Vals zs its2 ∧ s.heap.get? b = some ⟨.type T, dd, .seq its2.toArray n2, sl⟩ := by
    rcases hB with hB | hB
    · obtain ⟨its2, r2, ⟨⟨cls, dd, data, sl⟩, n2, ho, hc, hdn, hd⟩, _⟩ := I.list hB
      simp only at hc hd
      subst hc hd
      exact ⟨_, its2, n2, dd, sl, .inl rfl, r2, ho⟩
    · obtain ⟨its2, r2, ⟨⟨cls, dd, data, sl⟩, ho, hc, n2, hd⟩, _⟩ := I.tuple hB
      simp only at hc hd
      subst hc hd
      exact ⟨_, its2, n2, dd, sl, .inr rfl, r2, ho⟩
  obtain ⟨T, its2, n2, dd, sl, hT, r2, e2⟩ := hb
  have hl2 := r2.length
  have hsz : its.toArray.size + its2.toArray.size ≤ sizeLine := by rw [List.size_toArray, List.size_toArray]; omega
  have hlong : ¬ (!its.toArray.isEmpty && Builtin.List.listTooLong (its.toArray.size + its2.toArray.size)) = true := by
    have : Builtin.List.listTooLong (its.toArray.size + its2.toArray.size) = false := by
      unfold Builtin.List.listTooLong
      exact decide_eq_false (by omega)
    rw [this, Bool.and_false]
    exact Bool.false_ne_true
  refine call_meets F.slot_list_extend ⟨_, e, rfl⟩ F.entry_list_extend (F.args_list_extend_2 _ _)
    (extW hT l its.toArray n b its2.toArray n2 dd sl hlong (by rw [List.size_toArray]; omega) (by omega)) ⟨e, e2, ?_⟩
  refine ⟨.non, _, I.lset (its' := its ++ its2) hH e (by simp) (r.append r2) ?_, rfl, q⟩
  rw [List.length_append]
  omega
theorem ty_list {Hf H : Hp} {v : V} {d : D} (l : Le Hf H) (h : RDp (mdOf X) Hf H v d) (e : lstB d = true) : tyV X.K "list" v H := by
  cases d with
  | list ds => obtain ⟨a, vs, rfl, g1, g2⟩ := h; exact .inl ⟨rfl, _, g1⟩
  | _ => cases e
end
end
end PV

set_option Elab.async false
set_option linter.all false
set_option maxRecDepth 100000
set_option maxHeartbeats 1000000
/-! PVk: a list of one's own whose items are one's own; short forms of the rules -/
namespace PV
noncomputable section
open PySem PySem.Spec L2
open PyProof.Rows hiding St

abbrev Nv := Sg → Option (List O × Sg)
def isN : O → Bool
  | .n _ => true
  | _ => false
/-- an item: taken for keeps -/
def nIt (own : Bool) (r : Rs) (σ : Sg) : Option (O × Sg) := match own with
  | true => (match take r σ with | some (o, σ') => if isN o = true then none else some (o, σ') | none => none)
  | false => (match frz r σ with | some (d, σ') => some (.p d, σ') | none => none)
def nNil (σ : Sg) : Option (List O × Sg) := some ([], σ)
def nCons (own : Bool) (e : Ev) (as : Nv) (σ : Sg) : Option (List O × Sg) := match e σ with
  | none => none
  | some (r, σ1) => match nIt own r σ1 with
    | none => none
    | some (o, σ2) => match as σ2 with
      | none => none
      | some (os, σ3) => some (o :: os, σ3)
structure Its (M : Md) (Hf H : Hp) (vs : List V) (os : List O) (G : Fp) (ψ : Nat → Fp) : Prop where
  len : vs.length = os.length
  sub : ∀ i b, ψ i b → G b
  dj : ∀ i j b, ψ i b → ψ j b → i = j
  it : ∀ (i : Nat) v o, vs[i]? = some v → os[i]? = some o → RO1 M Hf H v o (ψ i)
def wN (M : Md) (b : Bool) (e : Nv) : TA := fun σm H Q => ∃ σ Hf R φ os σ', Ok M Hf R H φ σm σ ∧ e σ = some (os, σ') ∧
  ∀ vs H' Hf' φ' G ψ, Le Hf Hf' → Ok M Hf' R H' φ' σm σ' → Its M Hf' H' vs os G ψ → Own Hf' R H' φ' G → (b = true → Le H H') → Q vs H'
abbrev PNv (X : Cx) (es : List Expr) (b : Bool) (ea : Nv) : Prop := PA X es (wN (mdOf X) b ea)
theorem nIt_ok {M : Md} {Hf R H : Hp} {φ : Nat → Fp} {σm : St} {σ σ' : Sg} {v : V} {r : Rs} {o : O} {G : Fp} {own : Bool} (k : Ok M Hf R H φ σm σ) (h : RR M Hf H σm v r G) (g : Own Hf R H φ G) (e : nIt own r σ = some (o, σ')) :
    ∃ Hf' φ' G', Le Hf Hf' ∧ Ok M Hf' R H φ' σm σ' ∧ RO1 M Hf' H v o G' ∧ Own Hf' R H φ' G' := by
  unfold nIt at e
  split at e
  · split at e
    · rename_i o' s1 he
      split at e
      · cases e
      · rename_i hn
        cases e
        obtain ⟨Hf', φ', G', l, k', ro, g'⟩ := take_ok k h g he
        refine ⟨Hf', φ', G', l, k', ?_, g'⟩
        cases o with
        | n os => exact absurd rfl hn
        | p d => exact ro
        | l d => exact ro
        | d d => exact ro
    · cases e
  · split at e
    · rename_i d s1 he
      cases e
      obtain ⟨Hf', φ', l, k', rd⟩ := frz_ok k h g he
      exact ⟨Hf', φ', noF, l, k', rd, Own.no⟩
    · cases e
section
variable {X : Cx} {e : Expr} {es : List Expr} {b b' : Bool} {ea : Ev} {as : Nv} {pos : Pos}
theorem pnv_nil : PNv X [] true nNil := PA.imp pa_nil fun σm H Q h => by
  obtain ⟨σ, Hf, R, φ, os, σ', k, e, q⟩ := h
  cases e
  exact q [] H Hf φ noF (fun _ => noF) (Le.refl _) k ⟨rfl, fun _ _ h => h, fun _ _ _ h => h.elim, fun i v o e => by simp at e⟩ Own.no fun _ => Le.refl _
theorem wN_cons {M : Md} {own : Bool} {σm : St} {H : Hp} {Q : List V → Hp → Prop} (h : wN M (b && b') (nCons own ea as) σm H Q) : tCons (wE M b ea) (wN M b' as) σm H Q := by
  obtain ⟨σ, Hf, R, φ, os0, σ', k, e, q⟩ := h
  dsimp only [nCons] at e
  split at e
  · cases e
  · rename_i r1 σ1 e1
    refine ⟨σ, Hf, R, φ, r1, σ1, k, e1, fun v1 H1 Hf1 φ1 G1 l1 k1 rr1 own1 p1 => ?_⟩
    split at e
    · cases e
    · rename_i o σ2 e2
      obtain ⟨Hf2, φ2, G2, l2, k2, ro2, own2⟩ := nIt_ok k1 rr1 own1 e2
      split at e
      · cases e
      · rename_i os σ3 e3
        cases e
        refine ⟨σ2, Hf2, ext R H1 G2, φ2, os, _, k2.keepG own2, e3, fun vs H3 Hf3 φ3 G3 ψ l3 k3 its own3 p3 => ?_⟩
        obtain ⟨k4, own4, same⟩ := Ok.freeG own2 k3
        have apart : ∀ a, G2 a → G3 a → False := fun a h2 h3 => by
          have := (own3 a h3).2.1
          rw [ext_in h2] at this
          exact (own2 a h2).2.2.1 this
        refine q (v1 :: vs) H3 Hf3 φ3 (fun a => G2 a ∨ G3 a) (fun i => match i with | 0 => G2 | i + 1 => ψ i) ((l1.trans l2).trans l3) k4 ⟨by simp [its.len], fun i a ha => ?_, fun i j a ha hb => ?_, fun i v o' ev eo => ?_⟩ (fun a ha => ?_) fun hb => ?_
        · cases i with
          | zero => exact .inl ha
          | succ i => exact .inr (its.sub i a ha)
        · cases i with
          | zero =>
            cases j with
            | zero => rfl
            | succ j => exact (apart a ha (its.sub j a hb)).elim
          | succ i =>
            cases j with
            | zero => exact (apart a hb (its.sub i a ha)).elim
            | succ j => rw [its.dj i j a ha hb]
        · cases i with
          | zero =>
            simp at ev eo
            subst ev eo
            exact ro2.keep l3 same
          | succ i => exact its.it i v o' (by simpa using ev) (by simpa using eo)
        · rcases ha with ha | ha
          · exact own4 a ha
          · obtain ⟨q1, q2, q3, q4⟩ := own3 a ha
            refine ⟨q1, ?_, q3, q4⟩
            cases er : R a with
            | none => rfl
            | some u =>
              have : ext R H1 G2 a = some u := le_ext (fun c hc => (own2 c hc).2.1) a u er
              rw [this] at q2; cases q2
        · rw [Bool.and_eq_true] at hb
          exact (p1 hb.1).trans (p3 hb.2)
theorem pnv_cons (own : Bool) (ha : PEv X e b ea) (hr : PNv X es b' as) (hs : starEach (e :: es) X.env = (false, eval e X.env) :: starEach es X.env := by rfl) : PNv X (e :: es) (b && b') (nCons own ea as) := PA.imp (pa_cons ha hr hs) fun _ _ _ h => wN_cons h
def eLstN (as : Nv) (σ : Sg) : Option (Rs × Sg) := match as σ with
  | none => none
  | some (os, σ1) => if Cl (os.length ≤ sizeLine) then some (.v (.n os), σ1) else none
theorem pev_lstN (h : PNv X es b as) : PEv X (.List es pos) b (eLstN as) := PE.imp (pe_lst h) fun σm H Q hh => by
  obtain ⟨σ, Hf, R, φ, r0, σ', k, e, q⟩ := hh
  dsimp only [eLstN] at e
  split at e
  · cases e
  · rename_i os σ1 e1
    split at e
    · rename_i hz
      cases e
      refine ⟨σ, Hf, R, φ, os, _, k, e1, fun vs H1 Hf1 φ1 G ψ l1 k1 its own1 p1 => ⟨by rw [its.len]; exact hz, fun p n => ?_⟩⟩
      have k2 : Ok (mdOf X) Hf1 R (upd H1 p (.lst vs)) φ1 σm _ := k1.new n
      have hne : ∀ a, G a → a ≠ p := fun a ha e => (own1 a ha).2.2.1 (e ▸ n)
      refine q (.ref p) _ Hf1 φ1 (fun a => a = p ∨ G a) l1 k2 ⟨p, vs, ψ, rfl, by simp [upd], .inl rfl, its.len, fun i a ha => ⟨.inr (its.sub i a ha), hne a (its.sub i a ha)⟩, its.dj, fun i v o ev eo => (its.it i v o ev eo).keep (Le.refl _) fun a ha => ?_⟩ (fun a ha => ?_) fun hb => (p1 hb).trans (le_upd n)
      · exact upd_ne (hne a (its.sub i a ha))
      · rcases ha with rfl | ha
        · exact k1.newF n _ rfl
        · obtain ⟨q1, q2, q3, q4⟩ := own1 a ha
          exact ⟨q1, q2, by rw [upd_ne (hne a ha)]; exact q3, q4⟩
    · cases e
end
end
end PV

set_option Elab.async false
set_option linter.all false
set_option maxRecDepth 100000
set_option maxHeartbeats 1000000
/-! PVl: the rules by short names, and a def that keeps its promise (FunD) -/
namespace PV
noncomputable section
open PySem PySem.Spec L2
open PyProof.Rows hiding St

section
variable {P : Program} {w : World} {K : PySem.W.Frag} {mg : Str → Option Value} {base : Heap}
theorem fnvD {x qual : Str} {params : Arguments} {bd : List Stmt} {scope : Scope} {f : Addr} {fd : FuncData} {N ps : List Str} {k : Nat} {io : List Nat} {body : Ex} (F : FunD K x qual params bd scope [] [] f fd) (S : FnScope N ps scope) (hio : io.Nodup) (hlt : ∀ i ∈ io, i < ps.length)
    (hbody : ∀ (cdv : Value) (A : Around) (outer : List Env) (s : Shared) (H : Hp) (E : XK), Room k (A.deeper (envOfC qual scope s.heap.objs.size f cdv)) →
      PSsv (cxOf CX0 P w K mg base N qual scope f cdv A outer s H E).nox (fun i => i ∈ io) bd body) : FnOk P w K mg base CX0 (k + 1) f fd ps (spFn ⟨P, w, K⟩ io (mkFn ps.length N.length io body)) := by
  have flen : ∀ {vs : List V} {H Q E}, spFn ⟨P, w, K⟩ io (mkFn ps.length N.length io body) vs H Q E → vs.length = ps.length := fun {vs H Q E} h => by
    obtain ⟨os, Hf, R, φ, o, fs, k, e, q⟩ := h
    unfold mkFn at e
    split at e
    · rename_i hl
      have := k.len
      simp at this
      omega
    · cases e
  refine F.ok S (fun vs H Q E h => flen h) fun cdv A outer s H vs Q E hr h => ⟨_, PSs.nox (hbody cdv A outer s H E hr), ?_⟩
  have hvl := flen h
  obtain ⟨os, Hf, R, φ, o, fs, k, e, q⟩ := h
  unfold mkFn at e
  split at e
  · rename_i hl
    have hN : ps.length ≤ N.length := by have := congrArg List.length S.pre; rw [List.length_take] at this; omega
    have k1 := k.more (N.length - ps.length)
    have es : L2.start N vs = vs.map some ++ List.replicate (N.length - ps.length) none := by unfold L2.start; rw [hvl]
    have at_ : ∀ i ∈ io, ∃ v, vs[i]? = some v := fun i hi => ⟨vs[i]'(by rw [hvl]; exact hlt i hi), by simp [hvl, hlt i hi]⟩
    have st_ : ∀ i ∈ io, ∀ v, vs[i]? = some v → (L2.start N vs)[i]? = some (some v) := fun i hi v hv => by
      rw [es, List.getElem?_append_left (by simp [hvl, hlt i hi]), List.getElem?_map, hv]
      rfl
    have fin : ∀ {σ' : Sg} {o : O} {fs : List O} {v : V} {σm' : St} {H' Hf' : Hp} {φ' : Nat → Fp} {G : Fp}, finals σ' io = some fs → (∀ v H' Hf' φ' G, Le Hf Hf' → Ok _ Hf' R H' φ' (io.map fun i => vs[i]?) (fs.map some) → RO ⟨P, w, K⟩ Hf' H' v o G → Own Hf' R H' φ' G → Q v H') →
        Le Hf Hf' → Ok ⟨P, w, K⟩ Hf' R H' φ' σm' σ' → Kept (fun i => i ∈ io) (L2.start N vs) σm' → RO ⟨P, w, K⟩ Hf' H' v o G → Own Hf' R H' φ' G → Q v H' := fun {σ' o fs v σm' H' Hf' φ' G} hf q l k' kp ro own => by
      obtain ⟨φ2, k2, h2⟩ := finals_ok (vs := vs) k' hf hio (fun i hi v hv => by rw [kp.2 i hi]; exact st_ i hi v hv) at_
      refine q v H' Hf' φ2 G l k2 ro fun a ha => ?_
      obtain ⟨g1, g2, g3, g4⟩ := own a ha
      refine ⟨g1, g2, g3, fun j hj => ?_⟩
      obtain ⟨i, _, hi⟩ := h2 j a hj
      exact g4 i hi
    split at e
    · rename_i o' σ' e1
      split at e
      · rename_i fs' hf
        cases e
        refine ⟨_, Hf, R, φ, _, es ▸ k1, e1, ?_⟩
        exact fun v σm' H' Hf' φ' G l k' kp ro own => fin hf q l k' kp ro own
      · cases e
    · rename_i σ' e1
      split at e
      · rename_i fs' hf
        cases e
        refine ⟨_, Hf, R, φ, _, es ▸ k1, e1, ?_⟩
        exact fun σm' H' Hf' φ' l k' kp => fin (G := noF) hf q l k' kp RD.non Own.no
      · cases e
    · cases e
  · cases e
end
theorem hu_of {k : Nat} {A : Around} (r : Room k A) : A.units + 70 < cLine := by have := r.un; omega

section
variable {X : Cx} {a b c e : Expr} {es : List Expr} {ba bb bc : Bool} {ea eb ec : Ev} {as : Av} {pos p : Pos}
theorem qn (i : Nat) {x : Str} (hN : X.N[i]? = some x := by rfl) (hv : Vis X.env.scope x := by first | exact Or.inl rfl | exact Or.inr (Or.inl rfl) | exact Or.inr (Or.inr rfl)) (hd : (x == ("__debug__" : Str)) = false := by decide)
    (hcd : (x == ("__classdict__" : Str)) = false := by decide) : PEv X (.Name x pos) true (eName i) := pev_name hN hv hd hcd
theorem qi {i : Int} {j} : PEv X (.Constant (.int i) j pos) true (eD (.int i)) := pev_int
theorem qbl {i : Bool} {j} : PEv X (.Constant (.bool i) j pos) true (eD (.bool i)) := pev_bl
theorem qno {j} : PEv X (.Constant .none j pos) true (eD .none) := pev_non
theorem qs {x : Str} {j} : PEv X (.Constant (.str x) j pos) true (eD (.str x)) := pev_str

theorem qadd (ha : PEv X a ba ea) (hb : PEv X b bb eb) : PEv X (.BinOp a .Add b pos) (ba && bb) (eBin addD ea eb) := pev_bin op_addA r_add ha hb

theorem qsub (ha : PEv X a ba ea) (hb : PEv X b bb eb) : PEv X (.BinOp a .Sub b pos) (ba && bb) (eBin subD ea eb) := pev_bin op_sub r_sub ha hb

theorem qmul (ha : PEv X a ba ea) (hb : PEv X b bb eb) : PEv X (.BinOp a .Mult b pos) (ba && bb) (eBin mul2D ea eb) := pev_bin op_mulA r_mul2 ha hb

theorem qdiv (ha : PEv X a ba ea) (hb : PEv X b bb eb) : PEv X (.BinOp a .FloorDiv b pos) (ba && bb) (eBin divD ea eb) := pev_bin op_fdivW r_div ha hb

theorem qmod (ha : PEv X a ba ea) (hb : PEv X b bb eb) : PEv X (.BinOp a .Mod b pos) (ba && bb) (eBin modD ea eb) := pev_bin op_mod r_mod ha hb

theorem qpow (ha : PEv X a ba ea) (hb : PEv X b bb eb) : PEv X (.BinOp a .Pow b pos) (ba && bb) (eBin powD ea eb) := pev_bin op_pow r_pow ha hb

theorem qneg (ha : PEv X a ba ea) : PEv X (.UnaryOp .USub a pos) ba (eUn negD ea) := pev_un un_neg r_neg ha

theorem qc_eq (hu : X.A.units + 70 < cLine) (ha : PEv X a ba ea) (hb : PEv X b bb eb) (h1 : behindInMarks .Eq b = false := by first | exact nobehind _ (by decide) (by decide) | rfl) : PEv X (.Compare a [.Eq] [b] pos) (ba && bb) (eBin eqD ea eb) := pev_cmp (pcv (op_eqA (by omega)) r_eq ha hb) h1

theorem qt_eq (hu : X.A.units + 70 < cLine) (ha : PEv X a ba ea) (hb : PEv X b bb eb) (h1 : behindInMarks .Eq b = false := by first | exact nobehind _ (by decide) (by decide) | rfl) : PTv X (.Compare a [.Eq] [b] pos) (ba && bb) (tOf (eBin eqD ea eb)) := ptv_cmp (pcv (op_eqA (by omega)) r_eq ha hb) h1

theorem qc_ne (hu : X.A.units + 70 < cLine) (ha : PEv X a ba ea) (hb : PEv X b bb eb) (h1 : behindInMarks .NotEq b = false := by first | exact nobehind _ (by decide) (by decide) | rfl) : PEv X (.Compare a [.NotEq] [b] pos) (ba && bb) (eBin neD ea eb) := pev_cmp (pcv (op_neA (by omega)) r_ne ha hb) h1

theorem qt_ne (hu : X.A.units + 70 < cLine) (ha : PEv X a ba ea) (hb : PEv X b bb eb) (h1 : behindInMarks .NotEq b = false := by first | exact nobehind _ (by decide) (by decide) | rfl) : PTv X (.Compare a [.NotEq] [b] pos) (ba && bb) (tOf (eBin neD ea eb)) := ptv_cmp (pcv (op_neA (by omega)) r_ne ha hb) h1

theorem qc_lt (hu : X.A.units + 70 < cLine) (ha : PEv X a ba ea) (hb : PEv X b bb eb) (h1 : behindInMarks .Lt b = false := by first | exact nobehind _ (by decide) (by decide) | rfl) : PEv X (.Compare a [.Lt] [b] pos) (ba && bb) (eBin ltD ea eb) := pev_cmp (pcv (op_ltA (by omega)) r_lt ha hb) h1

theorem qt_lt (hu : X.A.units + 70 < cLine) (ha : PEv X a ba ea) (hb : PEv X b bb eb) (h1 : behindInMarks .Lt b = false := by first | exact nobehind _ (by decide) (by decide) | rfl) : PTv X (.Compare a [.Lt] [b] pos) (ba && bb) (tOf (eBin ltD ea eb)) := ptv_cmp (pcv (op_ltA (by omega)) r_lt ha hb) h1

theorem qc_gt (hu : X.A.units + 70 < cLine) (ha : PEv X a ba ea) (hb : PEv X b bb eb) (h1 : behindInMarks .Gt b = false := by first | exact nobehind _ (by decide) (by decide) | rfl) : PEv X (.Compare a [.Gt] [b] pos) (ba && bb) (eBin gtD ea eb) := pev_cmp (pcv (op_gtA (by omega)) r_gt ha hb) h1

theorem qt_gt (hu : X.A.units + 70 < cLine) (ha : PEv X a ba ea) (hb : PEv X b bb eb) (h1 : behindInMarks .Gt b = false := by first | exact nobehind _ (by decide) (by decide) | rfl) : PTv X (.Compare a [.Gt] [b] pos) (ba && bb) (tOf (eBin gtD ea eb)) := ptv_cmp (pcv (op_gtA (by omega)) r_gt ha hb) h1

theorem qc_le (hu : X.A.units + 70 < cLine) (ha : PEv X a ba ea) (hb : PEv X b bb eb) (h1 : behindInMarks .LtE b = false := by first | exact nobehind _ (by decide) (by decide) | rfl) : PEv X (.Compare a [.LtE] [b] pos) (ba && bb) (eBin leD ea eb) := pev_cmp (pcv (op_leA (by omega)) r_le ha hb) h1

theorem qt_le (hu : X.A.units + 70 < cLine) (ha : PEv X a ba ea) (hb : PEv X b bb eb) (h1 : behindInMarks .LtE b = false := by first | exact nobehind _ (by decide) (by decide) | rfl) : PTv X (.Compare a [.LtE] [b] pos) (ba && bb) (tOf (eBin leD ea eb)) := ptv_cmp (pcv (op_leA (by omega)) r_le ha hb) h1

theorem qc_ge (hu : X.A.units + 70 < cLine) (ha : PEv X a ba ea) (hb : PEv X b bb eb) (h1 : behindInMarks .GtE b = false := by first | exact nobehind _ (by decide) (by decide) | rfl) : PEv X (.Compare a [.GtE] [b] pos) (ba && bb) (eBin geD ea eb) := pev_cmp (pcv (op_geA (by omega)) r_ge ha hb) h1

theorem qt_ge (hu : X.A.units + 70 < cLine) (ha : PEv X a ba ea) (hb : PEv X b bb eb) (h1 : behindInMarks .GtE b = false := by first | exact nobehind _ (by decide) (by decide) | rfl) : PTv X (.Compare a [.GtE] [b] pos) (ba && bb) (tOf (eBin geD ea eb)) := ptv_cmp (pcv (op_geA (by omega)) r_ge ha hb) h1

theorem qc_is (ha : PEv X a ba ea) (hb : PEv X b bb eb) (h1 : behindInMarks .Is b = false := by first | exact nobehind _ (by decide) (by decide) | rfl) : PEv X (.Compare a [.Is] [b] pos) (ba && bb) (eBin isD ea eb) := pev_cmp (pcv op_isA r_is ha hb) h1

theorem qt_is (ha : PEv X a ba ea) (hb : PEv X b bb eb) (h1 : behindInMarks .Is b = false := by first | exact nobehind _ (by decide) (by decide) | rfl) : PTv X (.Compare a [.Is] [b] pos) (ba && bb) (tOf (eBin isD ea eb)) := ptv_cmp (pcv op_isA r_is ha hb) h1

theorem qc_isn (ha : PEv X a ba ea) (hb : PEv X b bb eb) (h1 : behindInMarks .IsNot b = false := by first | exact nobehind _ (by decide) (by decide) | rfl) : PEv X (.Compare a [.IsNot] [b] pos) (ba && bb) (eBin isnotD ea eb) := pev_cmp (pcv op_isntA r_isnt ha hb) h1

theorem qt_isn (ha : PEv X a ba ea) (hb : PEv X b bb eb) (h1 : behindInMarks .IsNot b = false := by first | exact nobehind _ (by decide) (by decide) | rfl) : PTv X (.Compare a [.IsNot] [b] pos) (ba && bb) (tOf (eBin isnotD ea eb)) := ptv_cmp (pcv op_isntA r_isnt ha hb) h1

theorem qc_in (hu : X.A.units + 70 < cLine) (ha : PEv X a ba ea) (hb : PEv X b bb eb) (h1 : behindInMarks .In b = false := by first | exact nobehind _ (by decide) (by decide) | rfl) : PEv X (.Compare a [.In] [b] pos) (ba && bb) (eBin inD ea eb) := pev_cmp (pcv (op_inA (by omega)) r_in ha hb) h1

theorem qt_in (hu : X.A.units + 70 < cLine) (ha : PEv X a ba ea) (hb : PEv X b bb eb) (h1 : behindInMarks .In b = false := by first | exact nobehind _ (by decide) (by decide) | rfl) : PTv X (.Compare a [.In] [b] pos) (ba && bb) (tOf (eBin inD ea eb)) := ptv_cmp (pcv (op_inA (by omega)) r_in ha hb) h1

theorem qc_nin (hu : X.A.units + 70 < cLine) (ha : PEv X a ba ea) (hb : PEv X b bb eb) (h1 : behindInMarks .NotIn b = false := by first | exact nobehind _ (by decide) (by decide) | rfl) : PEv X (.Compare a [.NotIn] [b] pos) (ba && bb) (eBin ninD ea eb) := pev_cmp (pcv (op_ninA (by omega)) r_nin ha hb) h1

theorem qt_nin (hu : X.A.units + 70 < cLine) (ha : PEv X a ba ea) (hb : PEv X b bb eb) (h1 : behindInMarks .NotIn b = false := by first | exact nobehind _ (by decide) (by decide) | rfl) : PTv X (.Compare a [.NotIn] [b] pos) (ba && bb) (tOf (eBin ninD ea eb)) := ptv_cmp (pcv (op_ninA (by omega)) r_nin ha hb) h1

theorem qc_eq_eq (hu : X.A.units + 70 < cLine) (ha : PEv X a ba ea) (hb : PEv X b bb eb) (hc : PEv X c bc ec) (hm : lastMarks [.Eq, .Eq] [b, c] = false := by with_unfolding_all rfl) : PEv X (.Compare a [.Eq, .Eq] [b, c] pos) (ba && bb && bc) (eChain eqD eqD ea eb ec) := pev_chain (op_eqA (by omega)) (op_eqA (by omega)) r_eq r_eq ha hb hc hm

theorem qt_eq_eq (hu : X.A.units + 70 < cLine) (ha : PEv X a ba ea) (hb : PEv X b bb eb) (hc : PEv X c bc ec) (hm : lastMarks [.Eq, .Eq] [b, c] = false := by with_unfolding_all rfl) : PTv X (.Compare a [.Eq, .Eq] [b, c] pos) (ba && bb && bc) (tOf (eChain eqD eqD ea eb ec)) := ptv_chain (op_eqA (by omega)) (op_eqA (by omega)) r_eq r_eq ha hb hc hm

theorem qc_lt_lt (hu : X.A.units + 70 < cLine) (ha : PEv X a ba ea) (hb : PEv X b bb eb) (hc : PEv X c bc ec) (hm : lastMarks [.Lt, .Lt] [b, c] = false := by with_unfolding_all rfl) : PEv X (.Compare a [.Lt, .Lt] [b, c] pos) (ba && bb && bc) (eChain ltD ltD ea eb ec) := pev_chain (op_ltA (by omega)) (op_ltA (by omega)) r_lt r_lt ha hb hc hm

theorem qt_lt_lt (hu : X.A.units + 70 < cLine) (ha : PEv X a ba ea) (hb : PEv X b bb eb) (hc : PEv X c bc ec) (hm : lastMarks [.Lt, .Lt] [b, c] = false := by with_unfolding_all rfl) : PTv X (.Compare a [.Lt, .Lt] [b, c] pos) (ba && bb && bc) (tOf (eChain ltD ltD ea eb ec)) := ptv_chain (op_ltA (by omega)) (op_ltA (by omega)) r_lt r_lt ha hb hc hm

theorem qc_lt_le (hu : X.A.units + 70 < cLine) (ha : PEv X a ba ea) (hb : PEv X b bb eb) (hc : PEv X c bc ec) (hm : lastMarks [.Lt, .LtE] [b, c] = false := by with_unfolding_all rfl) : PEv X (.Compare a [.Lt, .LtE] [b, c] pos) (ba && bb && bc) (eChain ltD leD ea eb ec) := pev_chain (op_ltA (by omega)) (op_leA (by omega)) r_lt r_le ha hb hc hm

theorem qt_lt_le (hu : X.A.units + 70 < cLine) (ha : PEv X a ba ea) (hb : PEv X b bb eb) (hc : PEv X c bc ec) (hm : lastMarks [.Lt, .LtE] [b, c] = false := by with_unfolding_all rfl) : PTv X (.Compare a [.Lt, .LtE] [b, c] pos) (ba && bb && bc) (tOf (eChain ltD leD ea eb ec)) := ptv_chain (op_ltA (by omega)) (op_leA (by omega)) r_lt r_le ha hb hc hm

theorem qc_le_lt (hu : X.A.units + 70 < cLine) (ha : PEv X a ba ea) (hb : PEv X b bb eb) (hc : PEv X c bc ec) (hm : lastMarks [.LtE, .Lt] [b, c] = false := by with_unfolding_all rfl) : PEv X (.Compare a [.LtE, .Lt] [b, c] pos) (ba && bb && bc) (eChain leD ltD ea eb ec) := pev_chain (op_leA (by omega)) (op_ltA (by omega)) r_le r_lt ha hb hc hm

theorem qt_le_lt (hu : X.A.units + 70 < cLine) (ha : PEv X a ba ea) (hb : PEv X b bb eb) (hc : PEv X c bc ec) (hm : lastMarks [.LtE, .Lt] [b, c] = false := by with_unfolding_all rfl) : PTv X (.Compare a [.LtE, .Lt] [b, c] pos) (ba && bb && bc) (tOf (eChain leD ltD ea eb ec)) := ptv_chain (op_leA (by omega)) (op_ltA (by omega)) r_le r_lt ha hb hc hm

theorem qc_le_le (hu : X.A.units + 70 < cLine) (ha : PEv X a ba ea) (hb : PEv X b bb eb) (hc : PEv X c bc ec) (hm : lastMarks [.LtE, .LtE] [b, c] = false := by with_unfolding_all rfl) : PEv X (.Compare a [.LtE, .LtE] [b, c] pos) (ba && bb && bc) (eChain leD leD ea eb ec) := pev_chain (op_leA (by omega)) (op_leA (by omega)) r_le r_le ha hb hc hm

theorem qt_le_le (hu : X.A.units + 70 < cLine) (ha : PEv X a ba ea) (hb : PEv X b bb eb) (hc : PEv X c bc ec) (hm : lastMarks [.LtE, .LtE] [b, c] = false := by with_unfolding_all rfl) : PTv X (.Compare a [.LtE, .LtE] [b, c] pos) (ba && bb && bc) (tOf (eChain leD leD ea eb ec)) := ptv_chain (op_leA (by omega)) (op_leA (by omega)) r_le r_le ha hb hc hm

theorem boot_b_len : bootBuiltins "len" = some (.builtin "len") := by decide +kernel

theorem qb_len (hm : X.mg "len" = none) (ha : PAv X (e :: es) ba as) (hg : Gl X "len" := by rfl) (he : starEach (e :: es) X.env = (false, eval e X.env) :: starEach es X.env := by rfl) (hpl : (backTo pos (starEach es X.env)).any (·.1) = false := by rfl) : PEv X (.Call (.Name "len" p) (e :: es) [] pos) ba (eCallB lenD as) := pev_callB call_len r_len hg hm boot_b_len ha (by decide) (by decide) he hpl

theorem boot_b_abs : bootBuiltins "abs" = some (.builtin "abs") := by decide +kernel

theorem qb_abs (hm : X.mg "abs" = none) (ha : PAv X (e :: es) ba as) (hg : Gl X "abs" := by rfl) (he : starEach (e :: es) X.env = (false, eval e X.env) :: starEach es X.env := by rfl) (hpl : (backTo pos (starEach es X.env)).any (·.1) = false := by rfl) : PEv X (.Call (.Name "abs" p) (e :: es) [] pos) ba (eCallB absD as) := pev_callB call_abs r_abs hg hm boot_b_abs ha (by decide) (by decide) he hpl

theorem boot_b_int : bootBuiltins "int" = some (.type "int") := by decide +kernel

theorem qb_int (hm : X.mg "int" = none) (ha : PAv X (e :: es) ba as) (hg : Gl X "int" := by rfl) (he : starEach (e :: es) X.env = (false, eval e X.env) :: starEach es X.env := by rfl) (hpl : (backTo pos (starEach es X.env)).any (·.1) = false := by rfl) : PEv X (.Call (.Name "int" p) (e :: es) [] pos) ba (eCallB intD as) := pev_callTy call_int1 r_int hg hm boot_b_int ha (by decide) (by decide) he hpl

theorem boot_b_str : bootBuiltins "str" = some (.type "str") := by decide +kernel

theorem qb_str (hm : X.mg "str" = none) (ha : PAv X (e :: es) ba as) (hg : Gl X "str" := by rfl) (he : starEach (e :: es) X.env = (false, eval e X.env) :: starEach es X.env := by rfl) (hpl : (backTo pos (starEach es X.env)).any (·.1) = false := by rfl) : PEv X (.Call (.Name "str" p) (e :: es) [] pos) ba (eCallB strD as) := pev_callTy call_str_int r_str hg hm boot_b_str ha (by decide) (by decide) he hpl

theorem boot_b_sum : bootBuiltins "sum" = some (.builtin "sum") := by decide +kernel

theorem qb_sum (hc : X.calm = true) (hm : X.mg "sum" = none) (ha : PAv X (e :: es) ba as) (hg : Gl X "sum" := by rfl) (he : starEach (e :: es) X.env = (false, eval e X.env) :: starEach es X.env := by rfl) (hpl : (backTo pos (starEach es X.env)).any (·.1) = false := by rfl) : PEv X (.Call (.Name "sum" p) (e :: es) [] pos) ba (eCallB sumD as) := pev_callB (cr_sum hc) r_sum hg hm boot_b_sum ha (by decide) (by decide) he hpl

theorem boot_b_min : bootBuiltins "min" = some (.builtin "min") := by decide +kernel

theorem qb_min2 (hc : X.calm = true) (hm : X.mg "min" = none) (ha : PAv X (e :: es) ba as) (hg : Gl X "min" := by rfl) (he : starEach (e :: es) X.env = (false, eval e X.env) :: starEach es X.env := by rfl) (hpl : (backTo pos (starEach es X.env)).any (·.1) = false := by rfl) : PEv X (.Call (.Name "min" p) (e :: es) [] pos) ba (eCallB min2D as) := pev_callB (call_min2 hc) r_min2 hg hm boot_b_min ha (by decide) (by decide) he hpl

theorem boot_b_max : bootBuiltins "max" = some (.builtin "max") := by decide +kernel

theorem qb_max2 (hc : X.calm = true) (hm : X.mg "max" = none) (ha : PAv X (e :: es) ba as) (hg : Gl X "max" := by rfl) (he : starEach (e :: es) X.env = (false, eval e X.env) :: starEach es X.env := by rfl) (hpl : (backTo pos (starEach es X.env)).any (·.1) = false := by rfl) : PEv X (.Call (.Name "max" p) (e :: es) [] pos) ba (eCallB max2D as) := pev_callB (call_max2 hc) r_max2 hg hm boot_b_max ha (by decide) (by decide) he hpl

theorem qb_min1 (hc : X.calm = true) (hm : X.mg "min" = none) (ha : PAv X (e :: es) ba as) (hg : Gl X "min" := by rfl) (he : starEach (e :: es) X.env = (false, eval e X.env) :: starEach es X.env := by rfl) (hpl : (backTo pos (starEach es X.env)).any (·.1) = false := by rfl) : PEv X (.Call (.Name "min" p) (e :: es) [] pos) ba (eCallB min1D as) := pev_callB (cr_min hc) r_min1 hg hm boot_b_min ha (by decide) (by decide) he hpl

theorem qb_max1 (hc : X.calm = true) (hm : X.mg "max" = none) (ha : PAv X (e :: es) ba as) (hg : Gl X "max" := by rfl) (he : starEach (e :: es) X.env = (false, eval e X.env) :: starEach es X.env := by rfl) (hpl : (backTo pos (starEach es X.env)).any (·.1) = false := by rfl) : PEv X (.Call (.Name "max" p) (e :: es) [] pos) ba (eCallB max1D as) := pev_callB (cr_max hc) r_max1 hg hm boot_b_max ha (by decide) (by decide) he hpl

theorem boot_b_list : bootBuiltins "list" = some (.type "list") := by decide +kernel

theorem qb_list (hm : X.mg "list" = none) (ha : PAv X (e :: es) ba as) (hg : Gl X "list" := by rfl) (he : starEach (e :: es) X.env = (false, eval e X.env) :: starEach es X.env := by rfl) (hpl : (backTo pos (starEach es X.env)).any (·.1) = false := by rfl) : PEv X (.Call (.Name "list" p) (e :: es) [] pos) ba (eCallB listD as) := pev_callTy call_list_of r_list hg hm boot_b_list ha (by decide) (by decide) he hpl

theorem boot_b_tuple : bootBuiltins "tuple" = some (.type "tuple") := by decide +kernel

theorem qb_tuple (hm : X.mg "tuple" = none) (ha : PAv X (e :: es) ba as) (hg : Gl X "tuple" := by rfl) (he : starEach (e :: es) X.env = (false, eval e X.env) :: starEach es X.env := by rfl) (hpl : (backTo pos (starEach es X.env)).any (·.1) = false := by rfl) : PEv X (.Call (.Name "tuple" p) (e :: es) [] pos) ba (eCallB tupleD as) := pev_callTy call_tuple_of r_tuple hg hm boot_b_tuple ha (by decide) (by decide) he hpl

theorem boot_b_sorted : bootBuiltins "sorted" = some (.builtin "sorted") := by decide +kernel

theorem qb_sorted (hu : X.A.units + 70 < cLine) (hm : X.mg "sorted" = none) (ha : PAv X (e :: es) ba as) (hg : Gl X "sorted" := by rfl) (he : starEach (e :: es) X.env = (false, eval e X.env) :: starEach es X.env := by rfl) (hpl : (backTo pos (starEach es X.env)).any (·.1) = false := by rfl) : PEv X (.Call (.Name "sorted" p) (e :: es) [] pos) ba (eCallB sortedD as) := pev_callB (call_sortedA hu) r_sorted hg hm boot_b_sorted ha (by decide) (by decide) he hpl

theorem boot_b_bool : bootBuiltins "bool" = some (.type "bool") := by decide +kernel

theorem qisi_bool {p1 : Pos} (hm : X.mg "isinstance" = none) (hmT : X.mg "bool" = none) (ha : PEv X e ba ea) (hg : Gl X "isinstance" := by rfl) (hgT : Gl X "bool" := by rfl) (hs1 : starEach [e, .Name "bool" p1] X.env = (false, eval e X.env) :: starEach [.Name "bool" p1] X.env := by rfl) (hs2 : starEach [.Name "bool" p1] X.env = [(false, eval (.Name "bool" p1) X.env)] := by rfl) (hplain : (backTo pos (starEach [.Name "bool" p1] X.env)).any (·.1) = false := by rfl) : PEv X (.Call (.Name "isinstance" p) [e, .Name "bool" p1] [] pos) ba (eIsI "bool" ea) := pev_isi ha hg hm hgT hmT boot_b_bool (by decide) (by decide) hs1 hs2 hplain

theorem qisi_int {p1 : Pos} (hm : X.mg "isinstance" = none) (hmT : X.mg "int" = none) (ha : PEv X e ba ea) (hg : Gl X "isinstance" := by rfl) (hgT : Gl X "int" := by rfl) (hs1 : starEach [e, .Name "int" p1] X.env = (false, eval e X.env) :: starEach [.Name "int" p1] X.env := by rfl) (hs2 : starEach [.Name "int" p1] X.env = [(false, eval (.Name "int" p1) X.env)] := by rfl) (hplain : (backTo pos (starEach [.Name "int" p1] X.env)).any (·.1) = false := by rfl) : PEv X (.Call (.Name "isinstance" p) [e, .Name "int" p1] [] pos) ba (eIsI "int" ea) := pev_isi ha hg hm hgT hmT boot_b_int (by decide) (by decide) hs1 hs2 hplain

theorem qisi_str {p1 : Pos} (hm : X.mg "isinstance" = none) (hmT : X.mg "str" = none) (ha : PEv X e ba ea) (hg : Gl X "isinstance" := by rfl) (hgT : Gl X "str" := by rfl) (hs1 : starEach [e, .Name "str" p1] X.env = (false, eval e X.env) :: starEach [.Name "str" p1] X.env := by rfl) (hs2 : starEach [.Name "str" p1] X.env = [(false, eval (.Name "str" p1) X.env)] := by rfl) (hplain : (backTo pos (starEach [.Name "str" p1] X.env)).any (·.1) = false := by rfl) : PEv X (.Call (.Name "isinstance" p) [e, .Name "str" p1] [] pos) ba (eIsI "str" ea) := pev_isi ha hg hm hgT hmT boot_b_str (by decide) (by decide) hs1 hs2 hplain

theorem qisi_list {p1 : Pos} (hm : X.mg "isinstance" = none) (hmT : X.mg "list" = none) (ha : PEv X e ba ea) (hg : Gl X "isinstance" := by rfl) (hgT : Gl X "list" := by rfl) (hs1 : starEach [e, .Name "list" p1] X.env = (false, eval e X.env) :: starEach [.Name "list" p1] X.env := by rfl) (hs2 : starEach [.Name "list" p1] X.env = [(false, eval (.Name "list" p1) X.env)] := by rfl) (hplain : (backTo pos (starEach [.Name "list" p1] X.env)).any (·.1) = false := by rfl) : PEv X (.Call (.Name "isinstance" p) [e, .Name "list" p1] [] pos) ba (eIsI "list" ea) := pev_isi ha hg hm hgT hmT boot_b_list (by decide) (by decide) hs1 hs2 hplain

theorem qisi_tuple {p1 : Pos} (hm : X.mg "isinstance" = none) (hmT : X.mg "tuple" = none) (ha : PEv X e ba ea) (hg : Gl X "isinstance" := by rfl) (hgT : Gl X "tuple" := by rfl) (hs1 : starEach [e, .Name "tuple" p1] X.env = (false, eval e X.env) :: starEach [.Name "tuple" p1] X.env := by rfl) (hs2 : starEach [.Name "tuple" p1] X.env = [(false, eval (.Name "tuple" p1) X.env)] := by rfl) (hplain : (backTo pos (starEach [.Name "tuple" p1] X.env)).any (·.1) = false := by rfl) : PEv X (.Call (.Name "isinstance" p) [e, .Name "tuple" p1] [] pos) ba (eIsI "tuple" ea) := pev_isi ha hg hm hgT hmT boot_b_tuple (by decide) (by decide) hs1 hs2 hplain

variable {apos cpos : Pos}

theorem qm_append (hst : Steady ea bb) (ho : PEv X e ba ea) (ha : PAv X (a :: es) bb as) (hbase : attributeBase e "append" X.env (eval e X.env) = eval e X.env := by rfl)
    (hfew : ((backTo cpos (starEach (a :: es) X.env)).all (fun x => !x.1) && (backToKw cpos (keywordEach [] X.env)).all (fun x => x.1.isSome)
      && decide ((a :: es).length + ([] : List Keyword).length + (if ([] : List Keyword).isEmpty then 0 else 1) < 30)) = true := by rfl)
    (hline : (apos.endLine == cpos.line) = true := by rfl) (hs : starEach (a :: es) X.env = (false, eval a X.env) :: starEach es X.env := by rfl) (hplain : (backTo cpos (starEach es X.env)).any (·.1) = false := by rfl) :
    PEv X (.Call (.Attribute e "append" apos) (a :: es) [] cpos) false (eMut appendD ea as) := pev_mut hst r_append PySem.F.slot_list_append PySem.F.type_list_append mt_append ho ha hbase hfew hline hs hplain

theorem qm_extend (hst : Steady ea bb) (ho : PEv X e ba ea) (ha : PAv X (a :: es) bb as) (hbase : attributeBase e "extend" X.env (eval e X.env) = eval e X.env := by rfl)
    (hfew : ((backTo cpos (starEach (a :: es) X.env)).all (fun x => !x.1) && (backToKw cpos (keywordEach [] X.env)).all (fun x => x.1.isSome)
      && decide ((a :: es).length + ([] : List Keyword).length + (if ([] : List Keyword).isEmpty then 0 else 1) < 30)) = true := by rfl)
    (hline : (apos.endLine == cpos.line) = true := by rfl) (hs : starEach (a :: es) X.env = (false, eval a X.env) :: starEach es X.env := by rfl) (hplain : (backTo cpos (starEach es X.env)).any (·.1) = false := by rfl) :
    PEv X (.Call (.Attribute e "extend" apos) (a :: es) [] cpos) false (eMut extendD ea as) := pev_mut hst r_extend PySem.F.slot_list_extend PySem.F.type_list_extend mt_extS ho ha hbase hfew hline hs hplain

theorem qm_insert (hst : Steady ea bb) (ho : PEv X e ba ea) (ha : PAv X (a :: es) bb as) (hbase : attributeBase e "insert" X.env (eval e X.env) = eval e X.env := by rfl)
    (hfew : ((backTo cpos (starEach (a :: es) X.env)).all (fun x => !x.1) && (backToKw cpos (keywordEach [] X.env)).all (fun x => x.1.isSome)
      && decide ((a :: es).length + ([] : List Keyword).length + (if ([] : List Keyword).isEmpty then 0 else 1) < 30)) = true := by rfl)
    (hline : (apos.endLine == cpos.line) = true := by rfl) (hs : starEach (a :: es) X.env = (false, eval a X.env) :: starEach es X.env := by rfl) (hplain : (backTo cpos (starEach es X.env)).any (·.1) = false := by rfl) :
    PEv X (.Call (.Attribute e "insert" apos) (a :: es) [] cpos) false (eMut insertD ea as) := pev_mut hst r_insert PySem.F.slot_list_insert PySem.F.type_list_insert mt_insert ho ha hbase hfew hline hs hplain

theorem qm_pop (hst : Steady ea true) (ho : PEv X e ba ea) (hbase : attributeBase e "pop" X.env (eval e X.env) = eval e X.env := by rfl) (hline : (apos.endLine == cpos.line) = true := by rfl) : PEv X (.Call (.Attribute e "pop" apos) [] [] cpos) false (eMut popD ea aNil) := pev_mut0 hst r_pop PySem.F.slot_list_pop PySem.F.type_list_pop mt_pop ho hbase hline

theorem qm_clear (hst : Steady ea true) (ho : PEv X e ba ea) (hbase : attributeBase e "clear" X.env (eval e X.env) = eval e X.env := by rfl) (hline : (apos.endLine == cpos.line) = true := by rfl) : PEv X (.Call (.Attribute e "clear" apos) [] [] cpos) false (eMut clearD ea aNil) := pev_mut0 hst r_clear PySem.F.slot_list_clear PySem.F.type_list_clear mt_clear ho hbase hline

theorem qm_index (hu : X.A.units + 70 < cLine) (ho : PEv X e ba ea) (ha : PAv X (a :: es) bb as) (hbase : attributeBase e "index" X.env (eval e X.env) = eval e X.env := by rfl)
    (hfew : ((backTo cpos (starEach (a :: es) X.env)).all (fun x => !x.1) && (backToKw cpos (keywordEach [] X.env)).all (fun x => x.1.isSome)
      && decide ((a :: es).length + ([] : List Keyword).length + (if ([] : List Keyword).isEmpty then 0 else 1) < 30)) = true := by rfl)
    (hline : (apos.endLine == cpos.line) = true := by rfl) (hs : starEach (a :: es) X.env = (false, eval a X.env) :: starEach es X.env := by rfl) (hplain : (backTo cpos (starEach es X.env)).any (·.1) = false := by rfl) :
    PEv X (.Call (.Attribute e "index" apos) (a :: es) [] cpos) (ba && bb) (eMeth lstB indexD ea as) := pev_meth r_index (fun _ _ _ _ l h t => ty_list l h t) ty_v PySem.F.plainAttrs_list PySem.F.slot_list_index PySem.F.type_list_index (mt_indexP (by omega)) ho ha hbase hfew hline hs hplain

end
end
end PV

set_option Elab.async false
set_option linter.all false
set_option maxRecDepth 100000
set_option maxHeartbeats 1000000
/-! PVm: list(range(..)), tuple(range(..)) -/
namespace PV
noncomputable section
open PySem PySem.Spec L2
open PyProof.Rows hiding St

instance (a b : Int) : Decidable (RgOk a b) := inferInstanceAs (Decidable (_ ∧ _ ∧ _ ∧ _ ∧ _))
def intE (a : Ev) (σ : Sg) : Option (Int × Sg) := match a σ with
  | some (.v (.p (.int i)), σ') => some (i, σ')
  | _ => none
def rgOut (tp : Bool) (i j : Int) : Out := if tp = true then .tp (rngD i (j - i).toNat) else .ls (rngD i (j - i).toNat)
def eLR1 (tp : Bool) (a : Ev) (σ : Sg) : Option (Rs × Sg) := match intE a σ with
  | some (j, σ1) => if Cl (RgOk 0 j) then some (.v (rgOut tp 0 j).o, σ1) else none
  | none => none
def eLR2 (tp : Bool) (a b : Ev) (σ : Sg) : Option (Rs × Sg) := match intE a σ with
  | some (i, σ1) => match intE b σ1 with
    | some (j, σ2) => if Cl (RgOk i j) then some (.v (rgOut tp i j).o, σ2) else none
    | none => none
  | none => none
theorem wE_int {M : Md} {b : Bool} {ea : Ev} {i : Int} {σ' σ : Sg} {Hf R H : Hp} {φ : Nat → Fp} {σm : St} {Q : VK} (k : Ok M Hf R H φ σm σ) (e : intE ea σ = some (i, σ'))
    (q : ∀ H' Hf' φ', Le Hf Hf' → Ok M Hf' R H' φ' σm σ' → (b = true → Le H H') → Q (.int i) H') : wE M b ea σm H Q := by
  unfold intE at e
  split at e
  · rename_i j σ1 e1
    cases e
    exact ⟨σ, Hf, R, φ, _, _, k, e1, fun v H' Hf' φ' G l k' rr own p => by have h : RD M Hf' v (.int i) := rr; cases h; exact q H' Hf' φ' l k' p⟩
  · cases e
theorem rds_rg {M : Md} {H : Hp} (i j : Int) : RDs M H (rgV i j) (rngD i (j - i).toNat) := by
  unfold rgV rngD
  induction List.range (j - i).toNat with
  | nil => exact .nil
  | cons a r ih => exact .cons (.int _) ih
section
variable {X : Cx} {a b : Expr} {ba bb : Bool} {ea eb : Ev} {p p0 pos p1 : Pos}
theorem ql_list1 (hm : X.mg "list" = none) (hmr : X.mg "range" = none) (ha : PEv X a ba ea) (hc : X.calm = true := by rfl) (hg : Gl X "list" := by rfl) (hgr : Gl X "range" := by rfl)
    (na : starEach [a] X.env = (false, eval a X.env) :: starEach [] X.env := by rfl) (nr : starEach [.Call (.Name "range" p) [a] [] pos] X.env = (false, eval (.Call (.Name "range" p) [a] [] pos) X.env) :: starEach [] X.env := by rfl) :
    PEv X (.Call (.Name "list" p0) [.Call (.Name "range" p) [a] [] pos] [] p1) ba (eLR1 false ea) :=
  PE.imp (pe_listRg hc hg hm (prg_1 hgr hmr ha na) nr) fun σm H Q h => by
    obtain ⟨σ, Hf, R, φ, r, σ', k, e, q⟩ := h
    dsimp only [eLR1] at e
    split at e
    · rename_i j σ1 e1
      split at e
      · rename_i ok
        cases e
        refine wE_int k e1 fun H1 Hf1 φ1 l1 k1 p1 => ⟨j, rfl, ok, fun z n => ?_⟩
        exact (PO.of (out := .ls (rngD 0 (j - 0).toNat)) k1 fun v H' Hf' φ' G l k' ro own le => q v H' Hf' φ' G (l1.trans l) k' ro own fun hb => (p1 hb).trans le) z _ n (rds_rg 0 j)
      · cases e
    · cases e
theorem ql_tuple1 (hm : X.mg "tuple" = none) (hmr : X.mg "range" = none) (ha : PEv X a ba ea) (hc : X.calm = true := by rfl) (hg : Gl X "tuple" := by rfl) (hgr : Gl X "range" := by rfl)
    (na : starEach [a] X.env = (false, eval a X.env) :: starEach [] X.env := by rfl) (nr : starEach [.Call (.Name "range" p) [a] [] pos] X.env = (false, eval (.Call (.Name "range" p) [a] [] pos) X.env) :: starEach [] X.env := by rfl) :
    PEv X (.Call (.Name "tuple" p0) [.Call (.Name "range" p) [a] [] pos] [] p1) ba (eLR1 true ea) :=
  PE.imp (pe_tupRg hc hg hm (prg_1 hgr hmr ha na) nr) fun σm H Q h => by
    obtain ⟨σ, Hf, R, φ, r, σ', k, e, q⟩ := h
    dsimp only [eLR1] at e
    split at e
    · rename_i j σ1 e1
      split at e
      · rename_i ok
        cases e
        refine wE_int k e1 fun H1 Hf1 φ1 l1 k1 p1 => ⟨j, rfl, ok, fun z n => ?_⟩
        exact (PO.of (out := .tp (rngD 0 (j - 0).toNat)) k1 fun v H' Hf' φ' G l k' ro own le => q v H' Hf' φ' G (l1.trans l) k' ro own fun hb => (p1 hb).trans le) z _ n (rds_rg 0 j)
      · cases e
    · cases e
theorem ql_list2 (hm : X.mg "list" = none) (hmr : X.mg "range" = none) (ha : PEv X a ba ea) (hb : PEv X b bb eb) (hc : X.calm = true := by rfl) (hg : Gl X "list" := by rfl) (hgr : Gl X "range" := by rfl)
    (na : starEach [a, b] X.env = (false, eval a X.env) :: starEach [b] X.env := by rfl) (nb : starEach [b] X.env = (false, eval b X.env) :: starEach [] X.env := by rfl) (hp : (backTo pos (starEach [b] X.env)).any (·.1) = false := by rfl)
    (nr : starEach [.Call (.Name "range" p) [a, b] [] pos] X.env = (false, eval (.Call (.Name "range" p) [a, b] [] pos) X.env) :: starEach [] X.env := by rfl) :
    PEv X (.Call (.Name "list" p0) [.Call (.Name "range" p) [a, b] [] pos] [] p1) (ba && bb) (eLR2 false ea eb) :=
  PE.imp (pe_listRg hc hg hm (prg_2 hgr hmr ha hb na nb hp) nr) fun σm H Q h => by
    obtain ⟨σ, Hf, R, φ, r, σ', k, e, q⟩ := h
    dsimp only [eLR2] at e
    split at e
    · rename_i i σ1 e1
      split at e
      · rename_i j σ2 e2
        split at e
        · rename_i ok
          cases e
          refine wE_int k e1 fun H1 Hf1 φ1 l1 k1 p1 => wE_int k1 e2 fun H2 Hf2 φ2 l2 k2 p2 => ⟨i, j, rfl, rfl, ok, fun z n => ?_⟩
          exact (PO.of (out := .ls (rngD i (j - i).toNat)) k2 fun v H' Hf' φ' G l k' ro own le => q v H' Hf' φ' G ((l1.trans l2).trans l) k' ro own fun hb => by rw [Bool.and_eq_true] at hb; exact ((p1 hb.1).trans (p2 hb.2)).trans le) z _ n (rds_rg i j)
        · cases e
      · cases e
    · cases e
end
end
end PV

set_option Elab.async false
set_option linter.all false
set_option maxRecDepth 100000
set_option maxHeartbeats 1000000
/-! PVo: sorted of a tuple -/
namespace PV
noncomputable section
open PySem PySem.Spec L2
open PyProof.Rows hiding St
section
variable {prog : Program} {w : World} {A : Around} {E : Value → Shared → Prop} {s : Shared}
theorem collect_tup {it : Addr} {us : List Value} {Q : List Value → Shared → Prop} (ht : s.heap.IsTuple it us.toArray) (hz : us.length ≤ sizeLine)
    (h : Q us { s with heap := (s.heap.push (seqObj "list" #[] 0)).update s.heap.objs.size (Obj.mapSeq (· ++ us.toArray)) }) : wpAny (model prog w) A (collect (.ref it)) Q E s := by
  obtain ⟨ob, hob, hcl, k, hda⟩ := ht
  unfold collect
  refine wpAny_bind (wpAny_runValue (codeAny_builtin F.entry_proto_collect ?_))
  rw [Around.under_plainId F.plain_proto_collect _]
  show wpAny _ A.in1 (newList [] >>= fun l0 => again (.builtin "list.__iadd__" ⟨[l0, .ref it], []⟩)) _ _ s
  refine wpAny_bind (wpAny_newObj_type ?_)
  refine wpAny_pure ⟨plainId_quiet F.plain_list_iadd _, codeAny_builtin F.entry_list_iadd ?_⟩
  rw [Around.under_plainId F.plain_list_iadd _]
  show wpAny _ A.in1 (Builtin.List.listExtendWith (.ref s.heap.objs.size) (.ref it) (.ref s.heap.objs.size)) _ _ _
  have h0 : (s.heap.push { cls := .type "list", data := .seq ([] : List Value).toArray }).get? s.heap.objs.size = some { cls := .type "list", data := .seq #[] 0 } := Heap.get?_push_size _ rfl
  have h1 := Heap.get?_update_self (Obj.mapSeq (· ++ us.toArray)) h0 rfl
  have last : wpAny (model prog w) A (match Value.ref s.heap.objs.size with
      | Value.ref a => load a >>= fun o => (match o.data with
          | Data.seq xs _ => pure xs.toList
          | _ => unsupported "internal:collect")
      | _ => unsupported "internal:collect") Q E { s with heap := (s.heap.push { cls := .type "list", data := .seq ([] : List Value).toArray }).update s.heap.objs.size (Obj.mapSeq (· ++ us.toArray)) } := by
    show wpAny _ A (load s.heap.objs.size >>= _) _ _ _
    refine wpAny_bind (wpAny_load h1 (wpAny_pure ?_))
    have e : ((#[] : Array Value) ++ us.toArray).toList = us := by simp
    show Q ((#[] : Array Value) ++ us.toArray).toList _
    rw [e]
    exact h
  refine wpAny_mono (wpAny_extend_seq (hsz := by rw [List.size_toArray]; exact hz) (A := A) (R := fun r s' => r = .ok (.ret (.ref s.heap.objs.size)) ∧ s' = { s with heap := (s.heap.push { cls := .type "list", data := .seq ([] : List Value).toArray }).update s.heap.objs.size (Obj.mapSeq (· ++ us.toArray)) })
    (s := { s with heap := s.heap.push { cls := .type "list", data := .seq ([] : List Value).toArray } }) _ it _ 0 (.inr rfl) h0 (Heap.get?_push_of_some _ hob) hcl hda ⟨rfl, rfl⟩) (fun fin s' q => ?_) (fun e s' q => absurd q.1 (by simp))
  cases fin with
  | done f =>
    obtain ⟨e, rfl⟩ := q
    cases e
    exact last
  | again c' => exact ⟨q.1, codeAny_mono q.2 fun r s'' hr => by obtain ⟨rfl, rfl⟩ := hr; exact last⟩
theorem sortedT_of {it : Addr} {us : List Value} {Q : Value → Shared → Prop} (ht : s.heap.IsTuple it us.toArray) (hz : us.length ≤ sizeLine)
    (body : ∀ E' : Value → Shared → Prop, wpAny (model prog w) A.in1.in1 (Builtin.«list.sort» ⟨[.ref (s.heap.objs.size + 1)], []⟩) (fun f s' => f = .done (.ret .none) ∧ Q (.ref (s.heap.objs.size + 1)) s') E' { s with heap := PySem.W.copyHeap s.heap us }) :
    wpAny (model prog w) A (call (.builtin "sorted") [.ref it] []) Q E s := by
  refine call_function_entry_kw kind_sorted plain_sorted entry_sorted (args_sorted1 _) ?_
  unfold Builtin.«sorted»
  refine wpAny_bind (m := checkCount "sorted" 1 1 _) (wpAny_pure (wpAny_bind (collect_tup ht hz (wpAny_bind (wpAny_newList ?_ hz)))))
  have es : ((s.heap.push (seqObj "list" #[] 0)).update s.heap.objs.size (Obj.mapSeq (· ++ us.toArray))).objs.size = s.heap.objs.size + 1 := by
    rw [Heap.size_update, size_push']
  show wpAny _ _ _ _ _ { s with heap := PySem.W.copyHeap s.heap us }
  rw [es]
  refine wpAny_bind (wpAny_holding (wpAny_call_entry_kw slot_list_sort ⟨_, PySem.W.copyHeap_at s.heap us, rfl⟩ entry_list_sort ?go (args_list_sort _)))
  case go =>
    show wpAny (model prog w) A.in1.in1 (Builtin.«list.sort» ⟨[.ref (s.heap.objs.size + 1)], []⟩) _ _ _
    refine wpAny_mono (body _) (fun f s' hf => ?_) fun _ _ e => e
    obtain ⟨rfl, hq⟩ := hf
    exact ⟨_, rfl, wpAny_pure ⟨_, rfl, hq⟩⟩
theorem sortedT_data {β : Type} {enc : β → D} {us : List Value} {bs : List β} {R : Value → β → Prop} {it : Addr} {Q : Value → Shared → Prop} (ht : s.heap.IsTuple it us.toArray) (e : PySem.W.EachIs R us bs) (er : PySem.W.EachIs (fun v b => ∃ as, Reads s.heap v (enc b) as) us bs)
    (hal : PySem.W.AllAlike (bs.map enc)) (hk : PySem.W.Sortable (bs.map enc)) (hL : bs.length ≤ sizeLine) (hu : ∀ b, b ∈ bs → A.units + 2 + (enc b).depth < cLine)
    (h : ∀ out, out.length = bs.length → PySem.W.EachIs R out (bs.mergeSort (PySem.W.dataLe false enc)) → Q (.ref (s.heap.objs.size + 1)) { s with heap := sortedAll s.heap us (List.toArray out) }) :
    wpAny (model prog w) A (call (.builtin "sorted") [.ref it]) Q E s := by
  have er2 : PySem.W.EachIs (fun v b => ∃ as, Reads (PySem.W.sortingHeap (PySem.W.copyHeap s.heap us) (s.heap.objs.size + 1) us) v (enc b) as) us bs := er.mono fun _ _ ⟨as, r⟩ => ⟨as, PyProof.Rows.Reads.keeps (fun _ _ => PySem.W.sorting_copy_old) r⟩
  have S := PySem.W.SortsAt.data (prog := prog) (w := w) (A := A.in1.in1) (s := { s with heap := PySem.W.sortingHeap (PySem.W.copyHeap s.heap us) (s.heap.objs.size + 1) us }) (PySem.W.each_map (R := fun v d => ∃ as, Reads (PySem.W.sortingHeap (PySem.W.copyHeap s.heap us) (s.heap.objs.size + 1) us) v d as) enc er2) hal hk (PySem.W.bound_map hu)
  have hz : us.length ≤ sizeLine := by rw [e.length]; exact hL
  refine sortedT_of ht hz fun _ => PySem.W.list_sort_vals (s := { s with heap := PySem.W.copyHeap s.heap us }) (PySem.W.copyHeap_at s.heap us) S hz ⟨rfl, ?_⟩
  exact h _ (by rw [PySem.W.sortVals_length false rfl]; exact e.length) (PySem.W.sortVals_data false e er2 hal)
end
def sortedTD : List D → Option Out
  | [.tuple ds] => if Cl (SortOk ds) then some (.ls (sortD ds)) else none
  | _ => none
def rSortedT (M : Md) : List V → Hp → VK → Prop := fun vs H Q => ∃ (a : Addr) (xs : List V) (ds : List D), vs = [V.ref a] ∧ SqT M.K H a xs ∧ RDs M H xs ds ∧ SortOk ds ∧
  ∀ (zs : List (D × V)) (p : Addr), H p = none → zs.map (·.1) = sortD ds → (∀ z ∈ zs, z ∈ ds.zip xs) → Q (.ref p) (upd H p (.lst (zs.map (·.2))))
section
variable {X : Cx}
theorem call_sortedT (hu : X.A.units + 70 < cLine) : CallR X (.builtin "sorted") (rSortedT (mdOf X)) := by
  intro pins s σ H vs us Q I r h
  obtain ⟨a, xs, ds, rfl, hs, hr, ⟨ha, hb, hc⟩, q⟩ := h
  obtain ⟨its, rv, hl, hz⟩ := I.tuple hs
  rw [Vals.ref1 r]
  have hlen := hr.length
  have eP := each_pairs I hr hc rv
  have em : (ds.zip xs).map Prod.fst = ds := by rw [List.map_fst_zip (by omega)]
  refine sortedT_data (bs := ds.zip xs) (enc := Prod.fst) (show s.heap.IsTuple a its.toArray from hl) eP (EachIs.monoZ (fun _ _ h => h.2) eP) ?_ ?_ ?_ ?_ fun out ho eo => ?_
  · rw [em]; exact allAlike_of ha
  · rw [em]; exact sortable_of hb
  · rw [List.length_zip]; omega
  · intro b hb'
    have hm : b.1 ∈ ds := by rw [← em]; exact List.mem_map_of_mem hb'
    have := shp_depth (hc _ hm)
    omega
  · have e1 : (((ds.zip xs).mergeSort (PySem.W.dataLe false Prod.fst)).map Prod.fst) = sortD ds := by
      unfold sortD
      rw [List.map_mergeSort (r := PySem.W.dataLe false Prod.fst) (s := PySem.W.dataLe false id) (fun a _ b _ => rfl), em]
    obtain ⟨c, hc'⟩ := PyProof.Rows.sortedAll_at s.heap its out.toArray
    have hv := each_vals eo
    have hlen2 : (((ds.zip xs).mergeSort (PySem.W.dataLe false Prod.fst)).map (·.2)).length ≤ sizeLine := by
      rw [List.length_map, List.length_mergeSort, List.length_zip]; omega
    have hn : H (s.heap.objs.size + 1) = none := I.hok.fresh (Nat.le_succ _)
    refine ⟨.ref (s.heap.objs.size + 1), _, I.laid (t' := s.toks) (o := .lst (((ds.zip xs).mergeSort (PySem.W.dataLe false Prod.fst)).map (·.2))) (fun b ob q' => PyProof.Rows.sortedAll_old q') (Nat.le_succ _) ⟨hlen2, out, c, hv, hc'⟩, rfl, q _ _ hn e1 ?_⟩
    intro z hz'
    exact (List.mergeSort_perm _ _).mem_iff.mp hz'
theorem r_sortedT : RuleC (mdOf X) sortedTD (rSortedT (mdOf X)) := by
  intro Hf H xs ds out Q k h e q
  unfold sortedTD at e
  split at e
  · split at e
    · rename_i hs
      cases e
      obtain ⟨x, rfl, h1⟩ := h.one
      cases h1 with
      | tup g1 g2 =>
        refine ⟨_, _, _, rfl, sqt_le g1 k, RDs.le k g2, hs, fun zs p n e1 e2 => q p _ n ?_⟩
        rw [← e1]
        exact RDs.of_zip fun z hz => RDs.zip g2 z (e2 z hz)
    · cases e
  · cases e
theorem qb_sortedT {e : Expr} {es : List Expr} {ba : Bool} {as : Av} {p pos : Pos} (hu : X.A.units + 70 < cLine) (hm : X.mg "sorted" = none) (ha : PAv X (e :: es) ba as) (hg : Gl X "sorted" := by rfl) (he : starEach (e :: es) X.env = (false, eval e X.env) :: starEach es X.env := by rfl) (hpl : (backTo pos (starEach es X.env)).any (·.1) = false := by rfl) :
    PEv X (.Call (.Name "sorted" p) (e :: es) [] pos) ba (eCallB sortedTD as) := pev_callB (call_sortedT hu) r_sortedT hg hm boot_b_sorted ha (by decide) (by decide) he hpl
end
end
end PV

set_option Elab.async false
set_option linter.all false
set_option maxRecDepth 100000
set_option maxHeartbeats 1000000
/-! PVp: x[::-1] of a list or of a tuple -/
namespace PV
noncomputable section
open PySem PySem.Spec L2 HT
open PyProof.Rows hiding St
section
variable {prog : Program} {w : World} {A : Around} {E : Value → Shared → Prop} {s : Shared}
theorem adjust_rev (n : Nat) : Builtin.Slice.sliceAdjust none none (-1) (n : Int) = ((n : Int) - 1, -1) := by
  unfold Builtin.Slice.sliceAdjust
  have h1 : (-1 : Int) < 0 := by omega
  simp only [h1, if_true]
theorem places_rev (n : Nat) : Builtin.Slice.slicePlaces ((n : Int) - 1) (-1) (-1) = n := by
  unfold Builtin.Slice.slicePlaces
  have h1 : ¬ (-1 : Int) > 0 := by omega
  simp only [h1, if_false]
  have h2 : (- (-1 : Int)) = 1 := by omega
  rw [h2, Int.ediv_one]
  split <;> omega
theorem sliceApplied_rev {sl : Addr} {u : Tok} {n : Nat} {Q : Int × Int × Nat → Shared → Prop} (hs : s.heap.IsSliceOf sl .none .none (.int (-1) u))
    (h : Q ((n : Int) - 1, -1, n) s) : wpAny (model prog w) A (Builtin.Slice.sliceApplied (.ref sl) (pure (n : Int))) Q E s := by
  obtain ⟨os, hos, hcs, hds⟩ := id hs
  unfold Builtin.Slice.sliceApplied Builtin.Slice.sliceFields
  refine wpAny_bind (wpAny_bind (wpAny_field hos hds (x := .none) rfl (wpAny_bind (wpAny_field hos hds (x := .none) rfl (wpAny_bind (wpAny_field hos hds (x := .int (-1) u) rfl (wpAny_pure ?_)))))))
  refine wpAny_bind (slicePart_int ?_)
  show wpAny _ _ (if ((-1 : Int) == 0) = true then _ else _) _ _ s
  rw [if_neg (by decide)]
  refine wpAny_bind (slicePart_none (wpAny_bind (slicePart_none (wpAny_bind (wpAny_pure ?_)))))
  show wpAny _ _ (match Builtin.Slice.sliceAdjust none none (-1) (n : Int) with | (lo, hi) => pure (lo, (-1 : Int), Builtin.Slice.slicePlaces lo hi (-1))) _ _ s
  rw [adjust_rev n]
  show wpAny _ _ (pure ((n : Int) - 1, (-1 : Int), Builtin.Slice.slicePlaces ((n : Int) - 1) (-1) (-1))) _ _ s
  rw [places_rev]
  exact wpAny_pure h
theorem filterMap_cg {α β : Type} {f g : α → Option β} : ∀ {l : List α}, (∀ x ∈ l, f x = g x) → l.filterMap f = l.filterMap g
  | [], _ => rfl
  | x :: xs, h => by rw [List.filterMap_cons, List.filterMap_cons, h x (by simp), filterMap_cg fun y hy => h y (by simp [hy])]
theorem pick_rev (xs : Array Value) : ((List.range xs.size).filterMap fun (m : Nat) => xs[(((xs.size : Int) - 1) + (m : Int) * (-1)).toNat]?).toArray = xs.toList.reverse.toArray := by
  congr 1
  have e : (List.range xs.size).filterMap (fun (m : Nat) => xs[(((xs.size : Int) - 1) + (m : Int) * (-1)).toNat]?) = (List.range xs.size).filterMap fun (m : Nat) => xs.toList.reverse[m]? := by
    refine filterMap_cg fun m hm => ?_
    have hm' := List.mem_range.mp hm
    rw [List.getElem?_reverse (by simpa using hm')]
    have : (((xs.size : Int) - 1) + (m : Int) * (-1)).toNat = xs.toList.length - 1 - m := by rw [Array.length_toList]; omega
    rw [this, Array.getElem?_toList]
  rw [e]
  have h : ∀ l : List Value, (List.range l.length).filterMap (fun m => l[m]?) = l := by
    intro l
    induction l with
    | nil => rfl
    | cons x xs ih =>
      rw [List.length_cons, List.range_succ_eq_map, List.filterMap_cons]
      simp only [List.getElem?_cons_zero, List.filterMap_map]
      congr 1
  have := h xs.toList.reverse
  rw [List.length_reverse, Array.length_toList] at this
  exact this
theorem getItem_tuple_rev {t sl : Addr} {items : Array Value} {u : Tok} {Q : Value → Shared → Prop} (ht : IsTup s.heap t items) (hs : s.heap.IsSliceOf sl .none .none (.int (-1) u))
    (h : Q (.ref s.heap.objs.size) { s with heap := s.heap.push { cls := .type "tuple", data := .seq items.toList.reverse.toArray } })
    (hsz : items.size ≤ sizeLine) : wpAny (model prog w) A (getItem (.ref t) (.ref sl)) Q E s := by
  have htake : sizeOk (.seq items.toList.reverse.toArray) := by
    show items.toList.reverse.toArray.size ≤ sizeLine
    rw [List.size_toArray, List.length_reverse, Array.length_toList]
    omega
  obtain ⟨os, hos, hcs, hds⟩ := id hs
  have hTs : s.TypeIs (.ref sl) "slice" := ⟨os, hos, hcs⟩
  unfold getItem
  try with_reducible refine wpAny_holding ?_
  first | refine wpAny_bind (wpAny_pure ?_) | skip
  refine wpAny_bind (wpAny_sequenceKey ht.typeIs (by decide) ?_)
  refine wpAny_bind (wpAny_callSpecial?_slot (name := Str.ofString "__getitem__") ht.typeIs PyProof.Rows.slot_tuple_getitem
    (wpAny_call_entry PyProof.Rows.slot_tuple_getitem ht.typeIs entry_tuple_getitem ?_ (args_tuple_getitem _ _)))
  show wpAny _ _ (Builtin.Tuple.tupleItemsOf (.ref t) >>= _) _ _ s
  refine wpAny_bind (tupleItemsOf_ ht ?_)
  refine wpAny_bind (wpAny_typeOf hTs ?_)
  rw [if_pos (by decide)]
  refine wpAny_bind (sliceApplied_rev hs ?_)
  have hno : ¬ ((((items.size : Int) - 1) == 0 && (-1 : Int) == 1 && items.size == items.size) = true) := by
    intro q
    rw [Bool.and_eq_true, Bool.and_eq_true] at q
    exact absurd q.1.2 (by decide)
  show wpAny _ _ (if ((((items.size : Int) - 1) == 0 && (-1 : Int) == 1 && items.size == items.size)) = true then _ else _) _ _ s
  rw [if_neg hno, pick_rev]
  first
    | exact wpAny_bind (m := Builtin.Tuple.tupleExact _) (wpAny_newObj_type (wpAny_pure ⟨_, rfl, wpAny_pure h⟩) htake)
    | exact wpAny_bind (m := Builtin.Tuple.tupleExact _) (wpAny_newObj_type (wpAny_bind (wpAny_pure (wpAny_pure ⟨_, rfl, wpAny_pure h⟩))) htake)
    | exact wpAny_bind (wpAny_bind (m := Builtin.Tuple.tupleExact _) (wpAny_newObj_type (wpAny_pure (wpAny_pure ⟨_, rfl, wpAny_pure h⟩)) htake))
    | exact wpAny_bind (wpAny_bind (m := Builtin.Tuple.tupleExact _) (wpAny_newObj_type (wpAny_pure ⟨_, rfl, wpAny_pure h⟩) htake))
end
def revD : D → Option Out
  | .list ds => some (.ls ds.reverse)
  | .tuple ds => some (.tp ds.reverse)
  | _ => none
def eRev2 (a : Ev) (σ : Sg) : Option (Rs × Sg) := match a σ with
  | some (r1, σ1) => match peek r1 σ1 with
    | some d => match revD d with
      | some out => some (.v out.o, σ1)
      | none => none
    | none => none
  | none => none
section
variable {X : Cx}
def rRev (K : PySem.W.Frag) (x : V) (H : Hp) (Q : VK) : Prop := (∃ a xs, x = .ref a ∧ SqL K H a xs ∧ ∀ p, H p = none → Q (.ref p) (upd H p (.lst xs.reverse))) ∨ (∃ a xs, x = .ref a ∧ SqT K H a xs ∧ ∀ p, H p = none → Q (.ref p) (upd H p (.tup xs.reverse)))
theorem rev_ok {M : Md} {Hf H : Hp} {v : V} {d : D} {out : Out} {Q : VK} (k : Le Hf H) (hd : RDp M Hf H v d) (e : revD d = some out) (q : PO M Hf H Q out) : rRev M.K v H Q := by
  unfold revD at e
  split at e
  · cases e
    obtain ⟨a, xs, rfl, h1, h2⟩ := hd
    exact .inl ⟨a, xs, rfl, h1, fun p n => q p _ n h2.reverse⟩
  · cases e
    cases hd with
    | tup h1 h2 => exact .inr ⟨_, _, rfl, sqt_le h1 k, fun p n => q p _ n h2.reverse⟩
  · cases e
theorem sl_rev2 {pins : List (Addr × Obj)} {s : Shared} {σ : St} {H : Hp} {x : V} {v : Value} {sl : Addr} {u : Tok} {Q : VK} (I : Inv X pins σ H s) (rx : RelV x v) (hs : s.heap.IsSliceOf sl .none .none (.int (-1) u))
    (h : rRev X.K x H Q) : ∃ T id, typeLookup (.type T) "__getitem__" = pure (some (.builtin id)) ∧ s.TypeIs v T ∧ wpAny (model X.prog X.w) X.A (getItem v (.ref sl)) (EP X pins σ Q) X.xe s := by
  rcases h with ⟨a, xs, rfl, hx, q⟩ | ⟨a, xs, rfl, hx, q⟩
  · cases rx
    obtain ⟨h1, h2⟩ := sl_rev I hx hs q
    exact ⟨_, _, PySem.slot_list_getitem.lookup, h1, h2⟩
  · cases rx
    obtain ⟨its, r, ht, hz⟩ := I.tuple hx
    have hlen := r.length
    refine ⟨_, _, PyProof.Rows.slot_tuple_getitem.lookup, ht.typeIs, ?_⟩
    refine getItem_tuple_rev ht hs ?_ (by rw [List.size_toArray]; omega)
    refine ⟨.ref s.heap.objs.size, _, I.laid (t' := s.toks) (o := .tup xs.reverse) (fun b ob q => Heap.get?_push_of_some _ q) (Nat.le_refl _) ?_, rfl, q _ (I.hok.fresh (Nat.le_refl _))⟩
    exact ⟨by rw [List.length_reverse]; exact hz, its.reverse, r.reverse, IsTup.new _ _⟩
theorem pev_rev2 {e st : Expr} {b : Bool} {ea es : Ev} {p2 pos : Pos} (he : PEv X e b ea) (hst : PEv X st true es) (hn : ∀ σ, es σ = some (.v (.p (.int (-1))), σ)) : PEv X (.Subscript e (.Slice none none (some st) p2) pos) b (eRev2 ea) := by
  refine PE.imp (t := fun σ H Q => wE (mdOf X) b ea σ H fun x H1 => wE (mdOf X) true es σ H1 fun y H2 => y = .int (-1) ∧ rRev X.K x H2 Q) ⟨fun pins s σ H Q I h => ?_⟩ fun σm H Q h => ?_
  · refine Subscript_ (thn (he.run pins s σ H _ I h) fun v s1 ⟨x, H1, I1, r1, q1⟩ => ?_)
    refine wpAny_Slice ?_
    rw [evalPart_none]
    refine wpAny_pure ?_
    refine wpAny_pure ?_
    rw [evalPart_some]
    refine thn (hst.run pins s1 σ H1 _ I1 q1) fun u s3 ⟨y, H3, I3, pu, q3⟩ => ?_
    obtain ⟨rfl, q⟩ := q3
    obtain ⟨t, rfl⟩ := pu
    have I4 : Inv X pins σ H3 { s3 with heap := s3.heap.push { cls := .type "slice", data := .fields #[.none, .none, .int (-1) t] } } := I3.kept (t' := s3.toks) fun b ob q => Heap.get?_push_of_some _ q
    obtain ⟨T, id, hl, ht, hg⟩ := sl_rev2 I4 r1 (Heap.IsSliceOf.new ..) q
    show wpAny (model X.prog X.w) X.A (subscriptTail e (.Slice none none (some st) p2) v (.ref s3.heap.objs.size)) (EP X pins σ Q) X.xe _
    exact tail_any (ops := [v, .ref s3.heap.objs.size]) ht hl hg (by with_unfolding_all rfl)
  · obtain ⟨σ, Hf, R, φ, r, σ', k, e, q⟩ := h
    dsimp only [eRev2] at e
    split at e
    · rename_i r1 σ1 e1
      split at e
      · rename_i d hp
        split at e
        · rename_i out eo
          cases e
          refine ⟨σ, Hf, R, φ, r1, _, k, e1, fun v H1 Hf1 φ1 G1 l1 k1 rr1 own1 p1 => ⟨_, Hf1, R, φ1, _, _, k1, hn _, fun w H2 Hf2 φ2 G2 l2 k2 rr2 own2 p2 => ?_⟩⟩
          have hw : RD (mdOf X) Hf2 w (.int (-1)) := rr2
          cases hw
          have g1 := peek_rd k1 rr1 hp
          have g2 : RDp (mdOf X) Hf2 H2 v d := by
            cases d with
            | list ds => obtain ⟨a, xs, rfl, g1, g2⟩ := g1; exact ⟨a, xs, rfl, sql_le g1 (p2 rfl), RDs.le l2 g2⟩
            | tuple ds => exact RD.le l2 g1
            | none => cases eo
            | bool b => cases eo
            | int i => cases eo
            | str z => cases eo
            | dict kvs => cases eo
          refine ⟨rfl, rev_ok k2.fz g2 eo (PO.of k2 fun v' H' Hf' φ' G l k' ro own le => ?_)⟩
          exact q v' H' Hf' φ' G (l1.trans (l2.trans l)) k' ro own fun hb => ((p1 hb).trans (p2 rfl)).trans le
        · cases e
      · cases e
    · cases e
end
end
end PV

set_option Elab.async false
set_option linter.all false
set_option maxRecDepth 100000
set_option maxHeartbeats 1000000
/-! CB1: combinations, in plain lists -/
namespace CB
/-- the sublists of k items, in the order of their places -/
def combs {α : Type} : Nat → List α → List (List α)
  | 0, _ => [[]]
  | _ + 1, [] => []
  | k + 1, x :: xs => (combs k xs).map (x :: ·) ++ combs (k + 1) xs
theorem combs_map {α β : Type} (f : α → β) : ∀ (k : Nat) (xs : List α), combs k (xs.map f) = (combs k xs).map (·.map f)
  | 0, _ => by simp [combs]
  | _ + 1, [] => by simp [combs]
  | k + 1, x :: xs => by
    rw [List.map_cons, combs, combs, combs_map f k xs, combs_map f (k + 1) xs]
    simp [Function.comp_def]
theorem combs_len {α : Type} : ∀ (k : Nat) (xs : List α) (l : List α), l ∈ combs k xs → l.length = k
  | 0, _, l, h => by simp [combs] at h; simp [h]
  | _ + 1, [], l, h => by simp [combs] at h
  | k + 1, x :: xs, l, h => by
    rw [combs, List.mem_append, List.mem_map] at h
    rcases h with ⟨t, ht, rfl⟩ | h
    · simp [combs_len k xs t ht]
    · exact combs_len (k + 1) xs l h
theorem combs_sub {α : Type} : ∀ (k : Nat) (xs : List α) (l : List α), l ∈ combs k xs ↔ l.Sublist xs ∧ l.length = k
  | 0, xs, l => by
    simp only [combs, List.mem_singleton]
    constructor
    · rintro rfl; simp
    · rintro ⟨_, h⟩; exact List.length_eq_zero_iff.mp h
  | k + 1, [], l => by
    simp only [combs, List.not_mem_nil, false_iff]
    rintro ⟨h, e⟩
    rw [List.sublist_nil.mp h] at e
    simp at e
  | k + 1, x :: xs, l => by
    rw [combs, List.mem_append, List.mem_map, combs_sub (k + 1) xs l]
    constructor
    · rintro (⟨t, ht, rfl⟩ | ⟨h, e⟩)
      · obtain ⟨h, e⟩ := (combs_sub k xs t).mp ht
        exact ⟨h.cons_cons x, by simp [e]⟩
      · exact ⟨h.cons x, e⟩
    · rintro ⟨h, e⟩
      cases h with
      | cons _ h => exact .inr ⟨h, e⟩
      | cons_cons _ h => exact .inl ⟨_, (combs_sub k xs _).mpr ⟨h, by simpa using e⟩, rfl⟩
theorem combs_nil {α : Type} : ∀ (k : Nat) (xs : List α), xs.length < k → combs k xs = []
  | 0, _, h => by omega
  | _ + 1, [], _ => rfl
  | k + 1, x :: xs, h => by
    rw [combs, combs_nil k xs (by simpa using h), combs_nil (k + 1) xs (by simp at h; omega)]
    rfl

/-- the step from one row of places to the next -/
def nx (n : Nat) (l : List Nat) : Option (List Nat) :=
  match (List.range l.length).reverse.find? (fun i => l.getD i 0 != i + n - l.length) with
  | some i => some (l.take i ++ (List.range (l.length - i)).map (fun j => l.getD i 0 + 1 + j))
  | none => none
theorem find_map {α β : Type} (f : α → β) (p : β → Bool) : ∀ l : List α, (l.map f).find? p = (l.find? (p ∘ f)).map f
  | [] => rfl
  | x :: xs => by
    simp only [List.map_cons, List.find?_cons, Function.comp]
    cases p (f x) with
    | true => rfl
    | false => exact find_map f p xs
theorem find_cong {α : Type} {p q : α → Bool} : ∀ {l : List α}, (∀ x ∈ l, p x = q x) → l.find? p = l.find? q
  | [], _ => rfl
  | x :: xs, h => by
    simp only [List.find?_cons]
    rw [h x (by simp), find_cong fun y hy => h y (by simp [hy])]
theorem nx_cons (n x : Nat) (t : List Nat) : nx n (x :: t) = match nx n t with
    | some t' => some (x :: t')
    | none => if x != n - (t.length + 1) then some (List.range' (x + 1) (t.length + 1)) else none := by
  have e0 : (List.range (x :: t).length).reverse = (List.range t.length).reverse.map Nat.succ ++ [0] := by
    rw [List.length_cons, List.range_succ_eq_map, List.reverse_cons, List.map_reverse]
  have e1 : ((List.range t.length).reverse.map Nat.succ).find? (fun i => (x :: t).getD i 0 != i + n - (x :: t).length) = ((List.range t.length).reverse.find? (fun i => t.getD i 0 != i + n - t.length)).map Nat.succ := by
    rw [find_map]
    congr 1
    refine find_cong fun i hi => ?_
    simp only [Function.comp, List.getD_cons_succ, List.length_cons]
    congr 1
    omega
  unfold nx
  rw [e0, List.find?_append, e1]
  cases hf : (List.range t.length).reverse.find? (fun i => t.getD i 0 != i + n - t.length) with
  | some i =>
    simp only [Option.map_some, Option.some_or]
    congr 1
    simp only [Nat.succ_eq_add_one, List.take_succ_cons, List.cons_append, List.length_cons, List.getD_cons_succ]
    have e2 : t.length + 1 - (i + 1) = t.length - i := by omega
    rw [e2]
  | none =>
    simp only [Option.map_none, Option.none_or, List.find?_cons, List.find?_nil, List.getD_cons_zero, List.length_cons, Nat.zero_add]
    cases hx : (x != n - (t.length + 1)) with
    | false => simp
    | true =>
      simp only [List.take_zero, List.nil_append, List.getD_cons_zero, Nat.sub_zero, if_true]
      congr 1
      rw [List.range'_eq_map_range]
/-- each row's step is the next row, and the last has none -/
def Chn (n : Nat) : List (List Nat) → Prop
  | [] => True
  | [l] => nx n l = none
  | l :: m :: r => nx n l = some m ∧ Chn n (m :: r)
theorem chn_get {n : Nat} : ∀ {L : List (List Nat)}, Chn n L → ∀ {i : Nat} {l : List Nat}, L[i]? = some l → nx n l = L[i + 1]?
  | [], _, i, l, e => by simp at e
  | [a], h, 0, l, e => by simp at e; subst e; exact h
  | [a], h, i + 1, l, e => by simp at e
  | a :: b :: r, h, 0, l, e => by simp at e; subst e; exact h.1
  | a :: b :: r, h, i + 1, l, e => by
    have := chn_get h.2 (i := i) (l := l) (by simpa using e)
    simpa using this
theorem chn_append {n : Nat} : ∀ {L R : List (List Nat)}, L ≠ [] → (∀ l, L.getLast? = some l → nx n l = R.head?) → (∀ i l, i + 1 < L.length → L[i]? = some l → nx n l = L[i + 1]?) → Chn n R → Chn n (L ++ R)
  | [], _, h, _, _, _ => absurd rfl h
  | [a], R, _, hl, _, hr => by
    have := hl a (by simp)
    cases R with
    | nil => simpa [Chn] using this
    | cons b r => exact ⟨by simpa using this, hr⟩
  | a :: b :: r, R, _, hl, hi, hr => by
    refine ⟨?_, ?_⟩
    · have := hi 0 a (by simp) (by simp)
      simpa using this
    · refine chn_append (L := b :: r) (by simp) (fun l e => hl l ?_) (fun i l h e => ?_) hr
      · simpa [List.getLast?_cons_cons] using e
      · have := hi (i + 1) l (by simpa using h) (by simpa using e)
        simpa using this
theorem combs_rng (n : Nat) : ∀ (m k s : Nat), s + m = n → k ≤ m → combs k (List.range' s m) ≠ [] ∧ (combs k (List.range' s m)).head? = some (List.range' s k) ∧ Chn n (combs k (List.range' s m))
  | m, 0, s, _, _ => by
    refine ⟨by simp [combs], by simp [combs], ?_⟩
    simp [combs, Chn, nx]
  | 0, k + 1, s, _, h => by omega
  | m + 1, k + 1, s, hs, h => by
    obtain ⟨h1, h2, h3⟩ := combs_rng n m k (s + 1) (by omega) (by omega)
    rw [List.range'_succ, combs]
    have hlen : ∀ l ∈ combs k (List.range' (s + 1) m), l.length = k := combs_len k _
    have hne : (combs k (List.range' (s + 1) m)).map (s :: ·) ≠ [] := by simpa using h1
    refine ⟨by simp [h1], ?_, ?_⟩
    · rw [List.head?_append, List.head?_map, h2]
      simp [List.range'_succ]
    · refine chn_append hne (fun l e => ?_) (fun i l hi e => ?_) ?_
      · rw [List.getLast?_map] at e
        cases e2 : (combs k (List.range' (s + 1) m)).getLast? with
        | none => rw [e2] at e; cases e
        | some t =>
          rw [e2] at e
          cases e
          have ht : t ∈ combs k (List.range' (s + 1) m) := List.mem_of_getLast? e2
          have htl := hlen t ht
          have hn : nx n t = none := by
            rw [List.getLast?_eq_getElem?] at e2
            have := chn_get h3 e2
            rw [this]
            apply List.getElem?_eq_none
            omega
          rw [nx_cons, hn]
          simp only [htl]
          by_cases hm : k + 1 ≤ m
          · have hx : (s != n - (k + 1)) = true := by rw [bne_iff_ne]; omega
            rw [if_pos hx]
            exact ((combs_rng n m (k + 1) (s + 1) (by omega) hm).2.1).symm
          · have hx : ¬ (s != n - (k + 1)) = true := by rw [bne_iff_ne]; omega
            rw [if_neg hx, combs_nil _ _ (by simp; omega)]
            rfl
      · rw [List.length_map] at hi
        rw [List.getElem?_map] at e ⊢
        cases e2 : (combs k (List.range' (s + 1) m))[i]? with
        | none => rw [e2] at e; cases e
        | some t =>
          rw [e2] at e
          cases e
          have := chn_get h3 e2
          have hlt : i + 1 < (combs k (List.range' (s + 1) m)).length := hi
          rw [List.getElem?_eq_getElem hlt] at this
          rw [nx_cons, this, List.getElem?_eq_getElem hlt]
          rfl
      · by_cases hm : k + 1 ≤ m
        · exact (combs_rng n m (k + 1) (s + 1) (by omega) hm).2.2
        · rw [combs_nil _ _ (by simp; omega)]
          trivial
/-- the rows of places -/
def rows (n k : Nat) : List (List Nat) := combs k (List.range n)
theorem rows_eq (n k : Nat) : rows n k = combs k (List.range' 0 n) := by rw [rows, List.range_eq_range']
theorem rows_none {n k : Nat} (h : n < k) : rows n k = [] := combs_nil _ _ (by simpa using h)
theorem rows_zero {n k : Nat} (h : k ≤ n) : (rows n k)[0]? = some (List.range k) := by
  rw [rows_eq, ← List.head?_eq_getElem?, (combs_rng n n k 0 (by omega) h).2.1, List.range_eq_range']
theorem rows_next {n k i : Nat} {l : List Nat} (h : (rows n k)[i]? = some l) : nx n l = (rows n k)[i + 1]? := by
  by_cases hk : k ≤ n
  · rw [rows_eq] at h ⊢
    exact chn_get (combs_rng n n k 0 (by omega) hk).2.2 h
  · rw [rows_none (by omega)] at h
    simp at h
theorem range_getD {α : Type} (xs : List α) (d : α) : (List.range xs.length).map (xs.getD · d) = xs := by
  refine List.ext_getElem (by simp) fun i h1 h2 => ?_
  simp [List.getD_eq_getElem?_getD, h2]
theorem combs_rows {α : Type} (xs : List α) (d : α) (k : Nat) : combs k xs = (rows xs.length k).map (·.map (xs.getD · d)) := by
  rw [rows, ← combs_map, range_getD]
end CB

set_option Elab.async false
set_option linter.all false
set_option maxRecDepth 100000
set_option maxHeartbeats 2000000
/-! CB2: itertools.combinations, at the library's level -/
namespace CpComb
open PySem PySem.Spec
open Sem (wp)

theorem mro_cmb : mroOf (.type "itertools.combinations") = pure [.type "itertools.combinations", .type "object"] := by rw [mroOf_type]; kernel_rfl
theorem new_cmb : typeLookup (.type "itertools.combinations") "__new__" = pure (some (.builtin "itertools.combinations.__new__")) := by rw [typeLookup_type, builtinLookup_eq_fast]; kernel_rfl
theorem init_cmb : Slot "itertools.combinations" "__init__" "object.__init__" :=
  .of (owner := "object") (n := "__init__") (by rw [typeLookup_type, builtinLookup_eq_fast]; kernel_rfl) (by decide +kernel) (by decide +kernel) (by decide +kernel)
    (by first | exact .inl (by decide +kernel) | exact .inr (by decide +kernel)) (by rw [isSubtype_type]; kernel_rfl)
theorem sub_cmb : isSubtype (.type "itertools.combinations") (.type "itertools.combinations") = pure true := by rw [isSubtype_type]; kernel_rfl
theorem called_cmb : TypeCalled "itertools.combinations" "itertools.combinations.__new__" "object.__init__" :=
  ⟨by decide +kernel, by decide +kernel, ⟨_, _, mro_cmb⟩, madeBy_type mro_cmb new_cmb (by decide +kernel), by decide +kernel, sub_cmb, init_cmb⟩
theorem chk_cmb (a b : Value) : checkTypeCall "itertools.combinations" ⟨[a, b], []⟩ = pure () := by kernel_rfl
theorem chn_cmb (a b : Value) : checkBuiltinCall "itertools.combinations.__new__" ⟨[.type "itertools.combinations", a, b], []⟩ = pure () := by kernel_rfl
theorem ent_cmb_new : entryFor table "itertools.combinations.__new__" = some Builtin.«itertools.combinations.__new__» := entryFor_of_tree (by kernel_rfl)
theorem slot_cmb_iter : Slot "itertools.combinations" "__iter__" "itertools.combinations.__iter__" :=
  .of (owner := "itertools.combinations") (n := "__iter__") (by rw [typeLookup_type, builtinLookup_eq_fast]; kernel_rfl) (by decide +kernel) (by decide +kernel) (by decide +kernel)
    (by first | exact .inl (by decide +kernel) | exact .inr (by decide +kernel)) sub_cmb
theorem slot_cmb_next : Slot "itertools.combinations" "__next__" "itertools.combinations.__next__" :=
  .of (owner := "itertools.combinations") (n := "__next__") (by rw [typeLookup_type, builtinLookup_eq_fast]; kernel_rfl) (by decide +kernel) (by decide +kernel) (by decide +kernel)
    (by first | exact .inl (by decide +kernel) | exact .inr (by decide +kernel)) sub_cmb
theorem ent_cmb_iter : entryFor table "itertools.combinations.__iter__" = some Builtin.«dict_keyiterator.__iter__» :=
  entryFor_alias (id' := "dict_keyiterator.__iter__") (by kernel_rfl) (by first | rfl | decide +kernel | (unfold String.splitOn; simp +decide [String.splitOnAux])) (by decide +kernel) (by kernel_rfl)
theorem ent_cmb_next : entryFor table "itertools.combinations.__next__" = some Builtin.«itertools.combinations.__next__» := entryFor_of_tree (by kernel_rfl)
theorem own_cmb : Manifest.owners.lookup (String.ofList "snoitanibmoc.slootreti".toList.reverse) = some Manifest.sig_itertools_combinations := by kernel_rfl
theorem args_cmb_iter (a : Value) : argsOk "itertools.combinations.__iter__" ⟨[a], []⟩ := by
  unfold argsOk; rw [signature?_of (id := "itertools.combinations.__iter__") (n := "__reti__".toList) (o := "snoitanibmoc.slootreti".toList) (by kernel_rfl) own_cmb]; kernel_rfl
theorem args_cmb_next (a : Value) : argsOk "itertools.combinations.__next__" ⟨[a], []⟩ := by
  unfold argsOk; rw [signature?_of (id := "itertools.combinations.__next__") (n := "__txen__".toList) (o := "snoitanibmoc.slootreti".toList) (by kernel_rfl) own_cmb]; kernel_rfl
theorem nodict_cmb : typeHasDict (.type "itertools.combinations") = false := by decide +kernel
end CpComb

set_option Elab.async false
set_option linter.all false
set_option maxRecDepth 100000
set_option maxHeartbeats 2000000
/-! CB3: combinations(xs, r) is made -/
namespace CpComb
open PySem PySem.Spec
open Sem (wp)
abbrev IsCmb (h : Heap) (it : Addr) (fs : List Value) : Prop := h.get? it = some { cls := .type "itertools.combinations", dict := none, data := .fields fs.toArray, slots := #[] }
abbrev IsTp (h : Heap) (a : Addr) (us : List Value) : Prop := h.get? a = some { cls := .type "tuple", data := .seq us.toArray }
def startOf (pool : Addr) (n r : Nat) : List Value := [.ref pool, rawInt (if r > n then 2 else 0), .none] ++ (List.range r).map fun (i : Nat) => rawInt i
theorem bind_cmb (a b : Value) : Builtin.Itertools.itBindNamed "combinations" ["iterable", "r"] 2 2 [a, b] [] = pure [some a, some b] := by kernel_rfl
theorem meets_cmb_new (a : Addr) (r : Nat) (t : Tok) (hr : r ≤ 1048576) :
    Meets (Builtin.«itertools.combinations.__new__» ⟨[.type "itertools.combinations", .ref a, .int (r : Int) t], []⟩)
      (fun _ R s => ∃ T o items n, (T = "list" ∨ T = "tuple") ∧ s.heap.get? a = some o ∧ o.cls = .type T ∧ o.data = .seq items n ∧ items.size ≤ sizeLine ∧
        ∀ (h1 h2 : Heap) (pool it : Addr), (∀ b ob, s.heap.get? b = some ob → h1.get? b = some ob) → (∀ b ob, h1.get? b = some ob → h2.get? b = some ob) → IsTp h2 pool items.toList → h1.objs.size ≤ pool →
          IsCmb h2 it (startOf pool items.size r) → h1.objs.size ≤ it → it ≠ pool → R (.ok (.ret (.ref it))) { s with heap := h2 }) :=
  .of_wp fun prog w A R s ⟨T, o, items, n, hT, ho, hc, hd, hz, h⟩ => by
    obtain ⟨hp, g, dd, tk, os⟩ := s
    have ez : ("itertools." ++ "combinations" : String) = "itertools.combinations" := by decide
    have hsub : isSubtype (.type "itertools.combinations") (.type ("itertools." ++ "combinations")) = pure true := by rw [ez]; exact sub_cmb
    clear ez
    have hbn := bind_cmb (.ref a) (.int (r : Int) t)
    have hneg : ¬ ((r : Int) < 0) := by omega
    have hm : Builtin.Itertools.itTooMany (r : Int) = false := decide_eq_false (by omega)
    have hdi := nodict_cmb
    have hn : ¬ (((decide ((r : Int) < -(2 ^ 63 : Int))) || (decide ((r : Int) ≥ (2 ^ 63 : Int)))) = true) := by
      have a : decide ((r : Int) < -(2 ^ 63 : Int)) = false := decide_eq_false (by omega)
      have b : decide ((r : Int) ≥ (2 ^ 63 : Int)) = false := decide_eq_false (by omega)
      rw [a, b]
      decide
    iterate 12 (first | with_reducible refine wpAny_pure ?_ | with_reducible refine wpAny_bind ?_ | with_reducible refine wpAny_of_eq hsub ?_ | (with_reducible apply wpAny_ite_false; focus (rfl; done)) | (with_reducible apply wpAny_ite_true; focus (rfl; done)) | (with_reducible apply wpAny_ite_false; focus (simp; done)) | wp_delta)
    refine wpAny_pure (wpAny_bind (wpAny_of_eq hbn (wpAny_bind ?_)))
    iterate 8 (first | with_reducible refine wpAny_pure ?_ | with_reducible refine wpAny_bind ?_ | with_reducible refine wpAny_rule ?_ | (with_reducible apply wpAny_ite_false; focus (rfl; done)) | (with_reducible apply wpAny_ite_true; focus (rfl; done)) | wp_delta)
    rw [if_neg hn]
    refine wpAny_pure (wpAny_bind (wpAny_collect_seq a hT ho hc hd (fun h' hk => ?_) hz))
    wp_delta
    rw [if_neg hneg]
    wp_delta
    rw [hm, if_neg Bool.false_ne_true]
    wp_delta
    refine wpAny_bind (wpAny_newTuple ?_ (by simpa using Nat.le_trans hz (by omega)))
    refine wpAny_pure ?_
    wp_delta
    refine wpAny_bind ?_
    simp only [Builtin.Itertools.itNewRecord, hdi]
    rw [if_pos (show (!false) = true from rfl)]
    refine wpAny_newObj_type ?_ (by show _ ≤ _; simp; unfold sizeLine; omega)
    have es : (h'.push { cls := .type "tuple", data := .seq items.toList.toArray }).objs.size = h'.objs.size + 1 := Array.size_push ..
    refine wpAny_pure ⟨_, rfl, h h' _ h'.objs.size (h'.push { cls := .type "tuple", data := .seq items.toList.toArray }).objs.size hk (fun b ob q => Heap.get?_push_of_some _ (Heap.get?_push_of_some _ q)) ?_ (Nat.le_refl _) ?_ (Nat.le_trans (Nat.le_succ _) (Nat.le_of_eq es.symm)) (fun q => Nat.succ_ne_self _ (es.symm.trans q))⟩
    · exact Heap.get?_push_of_some _ (Heap.get?_push_size _ rfl)
    · exact Heap.get?_push_size _ rfl
end CpComb

set_option Elab.async false
set_option linter.all false
set_option maxRecDepth 100000
set_option maxHeartbeats 2000000
/-! CB4: a turn of combinations -/
namespace CpComb
open PySem PySem.Spec
open Sem (wp)
section
variable {prog : Program} {w : World} {A : Around} {E : Value → Shared → Prop} {s : Shared}
theorem call_cmb {a : Addr} {r : Nat} {t : Tok} {T : String} {o : Obj} {items : Array Value} {n : Nat} {Q : Value → Shared → Prop} (hr : r ≤ 1048576) (hT : T = "list" ∨ T = "tuple") (ho : s.heap.get? a = some o) (hc : o.cls = .type T)
    (hd : o.data = .seq items n) (hz : items.size ≤ sizeLine)
    (h : ∀ (h1 h2 : Heap) (pool it : Addr), (∀ b ob, s.heap.get? b = some ob → h1.get? b = some ob) → (∀ b ob, h1.get? b = some ob → h2.get? b = some ob) → IsTp h2 pool items.toList → h1.objs.size ≤ pool →
      IsCmb h2 it (startOf pool items.size r) → h1.objs.size ≤ it → it ≠ pool → Q (.ref it) { s with heap := h2 }) :
    wpAny (model prog w) A (call (.type "itertools.combinations") [.ref a, .int (r : Int) t]) Q E s := by
  refine callType_new called_cmb (by decide +kernel) (chk_cmb _ _) (chn_cmb _ _) (fun obj => F.args_object_init_3 obj _ _) ent_cmb_new (meets_cmb_new a r t hr) ?_
  exact ⟨T, o, items, n, hT, ho, hc, hd, hz, fun h1 h2 pool it k1 k2 ht p1 hi p2 p3 => ⟨⟨_, hi, rfl⟩, h h1 h2 pool it k1 k2 ht p1 hi p2 p3⟩⟩
theorem iter_cmb {it : Addr} {fs : List Value} {Q : Value → Shared → Prop} (hit : IsCmb s.heap it fs) (h : Q (.ref it) s) : wpAny (model prog w) A (pyIter (.ref it)) Q E s := by
  have hT : s.TypeIs (.ref it) "itertools.combinations" := ⟨_, hit, rfl⟩
  refine wpAny_pyIter_slot hT slot_cmb_iter (wpAny_call_entry slot_cmb_iter hT ent_cmb_iter ?_ (args_cmb_iter _))
  show wpAny _ _ (ret (.ref it)) _ _ s
  exact wpAny_pure ⟨_, rfl, "itertools.combinations", _, hT, slot_cmb_next.lookup, h⟩
def nat0 : Value → Nat
  | .int n _ => n.toNat
  | _ => 0
theorem nums {it : Addr} {fs : List Value} {Q : List Nat → Shared → Prop} (hit : IsCmb s.heap it fs) (h : Q ((fs.drop 3).map nat0) s) : wpAny (model prog w) A (Builtin.Itertools.itNumbersFrom (.ref it) 3) Q E s := by
  wp_delta
  refine wpAny_bind (wpAny_load hit ?_)
  exact wpAny_pure h
theorem nat0_raw (idx : List Nat) (a b c : Value) : (([a, b, c] ++ idx.map fun (i : Nat) => rawInt i).drop 3).map nat0 = idx := by
  show (idx.map fun (i : Nat) => rawInt i).map nat0 = idx
  rw [List.map_map]
  exact List.map_id'' (fun _ => rfl) idx
def tup0 (pool : Addr) (idx : List Nat) : Sem Value := Builtin.Itertools.itPoolItems (.ref pool) >>= fun its => newTuple (idx.map fun i => its.getD i .none)
def hand (it pool : Addr) (idx : List Nat) : Sem Fin := tup0 pool idx >>= fun r => field (.ref it) 2 >>= fun b => setField (.ref it) 2 r >>= fun _ => letGo [b] [r] >>= fun _ => ret r
abbrev rec3 (pool : Addr) (st : Int) (last : Value) (idx : List Nat) : List Value := [.ref pool, rawInt st, last] ++ idx.map fun (i : Nat) => rawInt i
def Turned (s : Shared) (it pool : Addr) (us : List Value) (idx : List Nat) (Q : Option Value → Shared → Prop) : Prop :=
  ∀ h' T, IsCmb h' it (rec3 pool 1 (.ref T) idx) → IsTp h' pool us → T = s.heap.objs.size → IsTp h' T (idx.map fun i => us.getD i .none) → (∀ b ob, b ≠ it → s.heap.get? b = some ob → h'.get? b = some ob) → Q (some (.ref T)) { s with heap := h' }
theorem hand_ok {it pool : Addr} {us : List Value} {last : Value} {idx : List Nat} {Q : Option Value → Shared → Prop} {h0 : Heap} (hit : IsCmb s.heap it (rec3 pool 1 last idx)) (hp : IsTp s.heap pool us) (hne : it ≠ pool) (hl : idx.length ≤ 1048576)
    (hz : s.heap.objs.size = h0.objs.size) (hk : ∀ b ob, b ≠ it → h0.get? b = some ob → s.heap.get? b = some ob) (hQ : Turned { s with heap := h0 } it pool us idx Q) :
    wpAny (model prog w) A.in1 (hand it pool idx) (fun fin s' => ∃ v, fin = Fin.done (Flow.ret v) ∧ Q (some v) s') E s := by
  refine wpAny_bind (wpAny_bind (wpAny_bind (wpAny_seqItems hp rfl (wpAny_pure (wpAny_newTuple ?_ (by simp [sizeLine]; omega))))))
  have hit2 := Heap.get?_push_of_some { cls := .type "tuple", data := .seq (idx.map fun i => us.toArray.getD i .none).toArray } hit
  have hp2 := Heap.get?_push_of_some { cls := .type "tuple", data := .seq (idx.map fun i => us.toArray.getD i .none).toArray } hp
  have hT2 : (s.heap.push { cls := .type "tuple", data := .seq (idx.map fun i => us.toArray.getD i .none).toArray }).get? s.heap.objs.size = _ := Heap.get?_push_size _ rfl
  have hnt : s.heap.objs.size ≠ it := Nat.ne_of_gt (Heap.lt_size hit)
  refine wpAny_bind (wpAny_field hit2 rfl (x := last) rfl ?_)
  refine wpAny_bind (wpAny_setField_rec hit2 (by simp) fun h' hit3 sb => ?_)
  refine wpAny_bind (wpAny_letGo (wpAny_pure ⟨_, rfl, ?_⟩))
  have e : (rec3 pool 1 last idx).toArray.setIfInBounds 2 (.ref s.heap.objs.size) = (rec3 pool 1 (.ref s.heap.objs.size) idx).toArray := by simp [rec3]
  rw [e] at hit3
  refine hQ h' _ hit3 ((sb.2 _ (Ne.symm hne)).trans hp2) hz ?_ fun b ob hb q => (sb.2 _ hb).trans (Heap.get?_push_of_some _ (hk b ob hb q))
  refine (sb.2 _ hnt).trans (hT2.trans ?_)
  simp
/-- the first turn -/
theorem cmb_first {it pool : Addr} {us : List Value} {last : Value} {idx : List Nat} {Q : Option Value → Shared → Prop} (hit : IsCmb s.heap it (rec3 pool 0 last idx)) (hp : IsTp s.heap pool us) (hne : it ≠ pool) (hl : idx.length ≤ 1048576)
    (hQ : Turned s it pool us idx Q) : wpAny (model prog w) A (callSpecial? (.ref it) "__next__") Q E s := by
  have hT : s.TypeIs (.ref it) "itertools.combinations" := ⟨_, hit, rfl⟩
  refine wpAny_callSpecial?_slot (name := Str.ofString "__next__") hT slot_cmb_next (wpAny_call_entry slot_cmb_next hT ent_cmb_next ?_ (args_cmb_next _))
  wp_delta
  wp_delta
  refine wpAny_bind (wpAny_of_eq (a := (.ref it, [])) rfl ?_)
  wp_delta
  refine wpAny_bind (wpAny_field hit rfl (x := .ref pool) rfl ?_)
  refine wpAny_bind (nums hit ?_)
  rw [nat0_raw]
  wp_delta
  refine wpAny_bind ?_
  wp_delta
  refine wpAny_bind (wpAny_field hit rfl (x := rawInt 0) rfl ?_)
  refine wpAny_pure ?_
  show wpAny _ _ (setField (.ref it) 1 (rawInt 1) >>= fun _ => hand it pool idx) _ _ _
  refine wpAny_bind (wpAny_setField hit rfl (by simp) ?_)
  have sb := Heap.SameBut.update s.heap it (Obj.mapFields fun x => x.setIfInBounds 1 (rawInt 1))
  have hit2 := Heap.get?_update_self (Obj.mapFields fun x => x.setIfInBounds 1 (rawInt 1)) hit rfl
  refine hand_ok (last := last) (h0 := s.heap) ?_ ((sb.2 _ (Ne.symm hne)).trans hp) hne hl sb.1 (fun b ob hb q => (sb.2 b hb).trans q) hQ
  refine hit2.trans ?_
  simp [Obj.mapFields, rec3]
/-- what a turn does that is not the first -/
def nextG (it pool : Addr) (idx : List Nat) : Sem Fin := Builtin.Itertools.itPoolItems (.ref pool) >>= fun its => match CB.nx its.size idx with
  | some nxt => Builtin.Itertools.itSetNumbersFrom (.ref it) 3 nxt >>= fun _ => hand it pool nxt
  | none => setField (.ref it) 1 (rawInt 2) >>= fun _ => Builtin.Itertools.itStop
theorem cmb_gen {it pool : Addr} {us : List Value} {last : Value} {idx : List Nat} {Q : Option Value → Shared → Prop} (hit : IsCmb s.heap it (rec3 pool 1 last idx)) 
    (h : wpAny (model prog w) A.in1 (nextG it pool idx) (fun fin s' => ∃ v, fin = Fin.done (Flow.ret v) ∧ Q (some v) s') E s) : wpAny (model prog w) A (callSpecial? (.ref it) "__next__") Q E s := by
  have hT : s.TypeIs (.ref it) "itertools.combinations" := ⟨_, hit, rfl⟩
  refine wpAny_callSpecial?_slot (name := Str.ofString "__next__") hT slot_cmb_next (wpAny_call_entry slot_cmb_next hT ent_cmb_next ?_ (args_cmb_next _))
  wp_delta
  wp_delta
  refine wpAny_bind (wpAny_of_eq (a := (.ref it, [])) rfl ?_)
  wp_delta
  refine wpAny_bind (wpAny_field hit rfl (x := .ref pool) rfl ?_)
  refine wpAny_bind (nums hit ?_)
  rw [nat0_raw]
  wp_delta
  refine wpAny_bind ?_
  wp_delta
  refine wpAny_bind (wpAny_field hit rfl (x := rawInt 1) rfl ?_)
  refine wpAny_pure ?_
  refine Eq.mp (congrArg (fun m => wpAny (model prog w) A.in1 m (fun fin s' => ∃ v, fin = Fin.done (Flow.ret v) ∧ Q (some v) s') E s) ?_) h
  kernel_rfl
theorem cmb_next {it pool : Addr} {us : List Value} {last : Value} {idx nxt : List Nat} {Q : Option Value → Shared → Prop} (hit : IsCmb s.heap it (rec3 pool 1 last idx)) (hp : IsTp s.heap pool us) (hne : it ≠ pool) (hl : nxt.length ≤ 1048576)
    (e : CB.nx us.length idx = some nxt) (hQ : Turned s it pool us nxt Q) : wpAny (model prog w) A (callSpecial? (.ref it) "__next__") Q E s := by
  refine cmb_gen (us := us) hit ?_
  refine wpAny_bind (wpAny_bind (wpAny_seqItems hp rfl (wpAny_pure ?_)))
  rw [show us.toArray.size = us.length from List.size_toArray ..]
  rw [e]
  refine wpAny_bind ?_
  show wpAny _ _ (updateFields it fun fs => fs.extract 0 3 ++ (nxt.map fun (n : Nat) => rawInt n).toArray) _ _ _
  refine wpAny_updateFields hit rfl ?_ (by simp [rec3, sizeLine]; omega)
  have sb := Heap.SameBut.update s.heap it (Obj.mapFields fun fs => fs.extract 0 3 ++ (nxt.map fun (n : Nat) => rawInt n).toArray)
  have hit2 := Heap.get?_update_self (Obj.mapFields fun fs => fs.extract 0 3 ++ (nxt.map fun (n : Nat) => rawInt n).toArray) hit rfl
  refine hand_ok (last := last) (h0 := s.heap) ?_ ((sb.2 _ (Ne.symm hne)).trans hp) hne hl sb.1 (fun b ob hb q => (sb.2 b hb).trans q) hQ
  refine hit2.trans ?_
  simp [Obj.mapFields, rec3]
theorem stop_ok {Q : Option Value → Shared → Prop} (hh : A.handled = none) (hQ : ∀ e h', CpRep.StopE e h' → (∀ b ob, s.heap.get? b = some ob → h'.get? b = some ob) → E e { s with heap := h' }) :
    wpAny (model prog w) A.in1 (Builtin.Itertools.itStop) (fun fin s' => ∃ v, fin = Fin.done (Flow.ret v) ∧ Q (some v) s') E s := by
  show wpAny _ _ (newExc (.type "StopIteration") [] >>= _) _ _ _
  refine wpAny_bind ?_
  simp only [newExc, newTuple]
  refine wpAny_bind (wpAny_newObj_type ?_ (by size_fits))
  refine wpAny_bind (m := firstArgMember _ _) (wpAny_of_eq (a := Value.none) (by first | rfl | (simp only [firstArgMember]; rfl)) ?_)
  refine wpAny_newObj_type ?_ (by size_fits)
  simp only [raiseNew]
  refine wpAny_bind (wpAny_handled ?_)
  first | rw [show A.in1.handled = none from hh] | rw [hh]
  refine wpAny_bind (wpAny_pure (wpAny_throw ?_))
  exact hQ _ _ ⟨_, _, _, rfl, Heap.get?_push_size _ rfl, rfl, rfl, rfl⟩ (fun b ob q => Heap.get?_push_of_some _ (Heap.get?_push_of_some _ q))
theorem cmb_end {it pool : Addr} {us : List Value} {last : Value} {idx : List Nat} {Q : Option Value → Shared → Prop} (hh : A.handled = none) (hit : IsCmb s.heap it (rec3 pool 1 last idx)) (hp : IsTp s.heap pool us)
    (e : CB.nx us.length idx = none) (hQ : ∀ e h', CpRep.StopE e h' → (∀ b ob, b ≠ it → s.heap.get? b = some ob → h'.get? b = some ob) → E e { s with heap := h' }) : wpAny (model prog w) A (callSpecial? (.ref it) "__next__") Q E s := by
  refine cmb_gen (us := us) hit ?_
  refine wpAny_bind (wpAny_bind (wpAny_seqItems hp rfl (wpAny_pure ?_)))
  rw [show us.toArray.size = us.length from List.size_toArray ..]
  rw [e]
  refine wpAny_bind (wpAny_setField_rec hit (by simp) fun h' hit3 sb => ?_)
  exact stop_ok hh fun e h'' st k => hQ e h'' st fun b ob hb q => k b ob ((sb.2 b hb).trans q)
theorem cmb_none {it pool : Addr} {last : Value} {idx : List Nat} {Q : Option Value → Shared → Prop} (hh : A.handled = none) (hit : IsCmb s.heap it (rec3 pool 2 last idx))
    (hQ : ∀ e h', CpRep.StopE e h' → (∀ b ob, b ≠ it → s.heap.get? b = some ob → h'.get? b = some ob) → E e { s with heap := h' }) : wpAny (model prog w) A (callSpecial? (.ref it) "__next__") Q E s := by
  have hT : s.TypeIs (.ref it) "itertools.combinations" := ⟨_, hit, rfl⟩
  refine wpAny_callSpecial?_slot (name := Str.ofString "__next__") hT slot_cmb_next (wpAny_call_entry slot_cmb_next hT ent_cmb_next ?_ (args_cmb_next _))
  wp_delta
  wp_delta
  refine wpAny_bind (wpAny_of_eq (a := (.ref it, [])) rfl ?_)
  wp_delta
  refine wpAny_bind (wpAny_field hit rfl (x := .ref pool) rfl ?_)
  refine wpAny_bind (nums hit ?_)
  wp_delta
  refine wpAny_bind ?_
  wp_delta
  refine wpAny_bind (wpAny_field hit rfl (x := rawInt 2) rfl ?_)
  refine wpAny_pure ?_
  show wpAny _ _ (rule "itertools.combinations.ended" >>= fun _ => Builtin.Itertools.itStop) _ _ _
  refine wpAny_bind (wpAny_rule ?_)
  exact stop_ok hh fun e h'' st k => hQ e h'' st fun b ob hb q => k b ob q
end
end CpComb

set_option Elab.async false
set_option linter.all false
set_option maxRecDepth 100000
set_option maxHeartbeats 2000000
/-! CB5: for x in combinations(xs, r) -/
namespace PV
noncomputable section
open PySem PySem.Spec L2 CpComb
open PyProof.Rows hiding St
/-- the rows cs, each in a new tuple -/
def Itm (cs : List (List V)) : It := ⟨fun i _ => i < cs.length, fun i H v H' => ∃ T x, v = .ref T ∧ H T = none ∧ H' = upd H T (.tup x) ∧ cs[i]? = some x, fun i _ => cs.length ≤ i⟩
def tnC (it pool : Addr) (us : List Value) (r : Nat) (i : Nat) (h : Heap) : Prop := IsTp h pool us ∧ ((i = 0 ∧ IsCmb h it (startOf pool us.length r)) ∨ ∃ j idx last, i = j + 1 ∧ (CB.rows us.length r)[j]? = some idx ∧ IsCmb h it (rec3 pool 1 last idx))
theorem vals_getD {xs : List V} {us : List Value} (h : Vals xs us) {idx : List Nat} (hi : ∀ i ∈ idx, i < xs.length) : Vals (idx.map fun i => xs.getD i .non) (idx.map fun i => us.getD i .none) := by
  induction idx with
  | nil => exact .nil
  | cons i idx ih =>
    have hl := hi i (by simp)
    obtain ⟨u, hu, ru⟩ := h.get (i := i) (x := xs[i]) (by simp [hl])
    refine .cons ?_ (ih fun j hj => hi j (by simp [hj]))
    show RelV (xs.getD i .non) (us.getD i .none)
    rw [List.getD_eq_getElem?_getD, List.getD_eq_getElem?_getD, hu]
    simpa [hl] using ru
theorem rows_lt {n k : Nat} {idx : List Nat} (h : idx ∈ CB.rows n k) : ∀ i ∈ idx, i < n := fun i hi => by
  have := ((CB.combs_sub k _ _).mp h).1.subset hi
  simpa using this
theorem row_of {xs : List V} {us : List Value} {r j : Nat} {idx : List Nat} (hv : Vals xs us) (e : (CB.rows us.length r)[j]? = some idx) : (CB.combs r xs)[j]? = some (idx.map fun i => xs.getD i .non) ∧ Vals (idx.map fun i => xs.getD i .non) (idx.map fun i => us.getD i .none) ∧ idx.length = r := by
  have hl : us.length = xs.length := hv.length.symm
  rw [hl] at e
  have hm := List.mem_of_getElem? e
  refine ⟨?_, vals_getD hv (rows_lt hm), CB.combs_len r _ _ hm⟩
  rw [CB.combs_rows xs .non r, List.getElem?_map, e]
  rfl
theorem rows_len {xs : List V} {us : List Value} (hv : Vals xs us) (r : Nat) : (CB.combs r xs).length = (CB.rows us.length r).length := by
  rw [CB.combs_rows xs .non r, List.length_map, hv.length]
theorem next_item {prog : Program} {w : World} {A : Around} {E : Value → Shared → Prop} {s : Shared} {it : Value} {Q : Option Value → Shared → Prop} {u : Value} 
    (h : wpAny (model prog w) A (callSpecial? it "__next__") (fun r s1 => ∃ u, r = some u ∧ Q (some u) s1) (fun _ _ => False) s) : wpAny (model prog w) A (pyNext it) Q E s := by
  unfold pyNext
  refine wpAny_bind (wpAny_attempt (wpAny_mono h (fun r s1 hr => ?_) fun _ _ q => q.elim))
  obtain ⟨u, rfl, q⟩ := hr
  exact wpAny_pure q
theorem next_end {prog : Program} {w : World} {A : Around} {E : Value → Shared → Prop} {s : Shared} {it : Value} {Q : Option Value → Shared → Prop}
    (h : wpAny (model prog w) A (callSpecial? it "__next__") (fun _ _ => False) (fun e s1 => CpRep.StopE e s1.heap ∧ Q none s1) s) : wpAny (model prog w) A (pyNext it) Q E s := by
  unfold pyNext
  refine wpAny_bind (wpAny_attempt (wpAny_mono h (fun _ _ q => q.elim) fun e s1 hr => ?_))
  obtain ⟨⟨a, o, vs, rfl, ho, hc, hd, _⟩, q⟩ := hr
  refine wpAny_bind (wpAny_isInstance (T := "StopIteration") (b := true) ⟨_, ho, hc⟩ isSubtype_stop ?_)
  exact wpAny_pure q
theorem turn_cmb {P : Program} {w : World} {K : PySem.W.Frag} {tg : Expr} {xs : List V} {us : List Value} {r : Nat} (it pool : Addr) (hv : Vals xs us) (hne : it ≠ pool) (hr : r ≤ 1048576) :
    Turn P w K tg (Itm (CB.combs r xs)) [it, pool] it (tnC it pool us r) where
  mem := by simp
  obj := fun i h st b hb => by
    have e' : b = it ∨ b = pool := by simpa using hb
    rcases e' with z | z
    · subst z
      rcases st.2 with ⟨_, q⟩ | ⟨j, idx, last, _, _, q⟩
      · exact ⟨_, q, fun v q => nomatch q⟩
      · exact ⟨_, q, fun v q => nomatch q⟩
    · subst z
      exact ⟨_, st.1, fun v q => nomatch q⟩
  keep := fun i h h' st k => ⟨k pool (by simp) _ st.1, by
    rcases st.2 with ⟨e, q⟩ | ⟨j, idx, last, e, e2, q⟩
    · exact .inl ⟨e, k it (by simp) _ q⟩
    · exact .inr ⟨j, idx, last, e, e2, k it (by simp) _ q⟩⟩
  item := by
    intro X hP hw hK hc i pins s σ H E I hf st hg
    subst hP hw hK
    obtain ⟨hp, st⟩ := st
    have hil : i < (CB.rows us.length r).length := by rw [← rows_len hv]; exact hg
    have fin : ∀ idx, (CB.rows us.length r)[i]? = some idx → CpComb.Turned s it pool us idx (fun r' s1 => ∃ u, r' = some u ∧
        wpAny (model X.prog X.w) X.A (letOwnedTupleGo tg (.ref it) u) (fun _ s2 => ∃ x H', Inv X pins σ H' s2 ∧ RelV x u ∧ (Itm (CB.combs r xs)).yld i H x H' ∧ tnC it pool us r (i + 1) s2.heap ∧ ∀ b ∈ [it, pool], H' b = none) E s1) := by
      intro idx e h' T hit hp' hT ht hk
      subst hT
      obtain ⟨e1, e2, e3⟩ := row_of hv e
      have new : ObjOk X.prog X.w (upd H s.heap.objs.size (.tup (idx.map fun i => xs.getD i .non))) h' s.heap.objs.size (.tup (idx.map fun i => xs.getD i .non)) :=
        ⟨by show (idx.map _).length ≤ sizeLine; rw [List.length_map, e3]; exact Nat.le_trans hr (by decide), _, e2, ⟨_, ht, rfl, _, rfl⟩⟩
      have I1 : Inv X pins σ (upd H s.heap.objs.size (.tup (idx.map fun i => xs.getD i .non))) { s with heap := h' } :=
        I.turnedNew (t' := s.toks) (ch := [it, pool]) (fun b ob hb q => hk b ob (fun z => hb (by simp [z])) q) hf (Nat.le_refl _) new
      refine ⟨_, rfl, go_of (s := { s with heap := h' }) hit rfl rfl (by decide) ⟨.ref s.heap.objs.size, _, I1, rfl, ⟨_, _, rfl, I.hok.fresh (Nat.le_refl _), rfl, e1⟩, ⟨hp', .inr ⟨i, idx, _, rfl, e, hit⟩⟩, fun b hb => ?_⟩⟩
      have hb' : b < s.heap.objs.size := by
        have e' : b = it ∨ b = pool := by simpa using hb
        rcases e' with z | z
        · subst z
          rcases st with ⟨_, q⟩ | ⟨j, idx, last, _, _, q⟩
          · exact Heap.lt_size q
          · exact Heap.lt_size q
        · subst z
          exact Heap.lt_size hp
      rw [upd_ne (Nat.ne_of_lt hb')]
      exact (hf b hb).1
    have len : ∀ (idx : List Nat) (j : Nat), (CB.rows us.length r)[j]? = some idx → idx.length ≤ 1048576 := fun idx j e => by
      have := CB.combs_len r _ _ (List.mem_of_getElem? e)
      omega
    rcases st with ⟨e, q⟩ | ⟨j, idx, last, e, e2, q⟩
    · subst e
      have hrn : r ≤ us.length := by
        by_cases h : r ≤ us.length
        · exact h
        · rw [CB.rows_none (by omega)] at hil
          simp at hil
      have e0 := CB.rows_zero hrn
      have q' : IsCmb s.heap it (rec3 pool 0 .none (List.range r)) := by
        have : startOf pool us.length r = rec3 pool 0 .none (List.range r) := by
          unfold startOf
          rw [if_neg (by omega)]
        rw [← this]; exact q
      refine next_item (u := .none) (cmb_first q' hp hne (len _ _ e0) ?_)
      intro h' T a b c d e
      exact ⟨_, rfl, fin _ e0 h' T a b c d e⟩
    · subst e
      have e3 := CB.rows_next e2
      rw [List.getElem?_eq_getElem hil] at e3
      have e4 : (CB.rows us.length r)[j + 1]? = some (CB.rows us.length r)[j + 1] := List.getElem?_eq_getElem hil
      refine next_item (u := .none) (cmb_next q hp hne (len _ _ e4) e3 ?_)
      intro h' T a b c d e
      exact ⟨_, rfl, fin _ e4 h' T a b c d e⟩
  done := by
    intro X hP hw hK hc i pins s σ H E I hf st hg
    subst hP hw hK
    obtain ⟨hp, st⟩ := st
    have hil : (CB.rows us.length r).length ≤ i := by rw [← rows_len hv]; exact hg
    obtain ⟨f0, f1, f2, f3, f4, f5⟩ := hf it (by simp)
    have fin : ∀ e h', CpRep.StopE e h' → (∀ b ob, b ≠ it → s.heap.get? b = some ob → h'.get? b = some ob) → CpRep.StopE e h' ∧ ((none : Option Value) = none ∧ Inv X pins σ H { s with heap := h' }) := fun e h' st k =>
      ⟨st, rfl, I.turned (t' := s.toks) (fun b o hb q => k b o hb q) f0 f1 f3 f4 f5⟩
    rcases st with ⟨e, q⟩ | ⟨j, idx, last, e, e2, q⟩
    · subst e
      have hrn : r > us.length := by
        by_cases h : r > us.length
        · exact h
        · have := CB.rows_zero (n := us.length) (k := r) (by omega)
          rw [List.getElem?_eq_none (by omega)] at this
          cases this
      have q' : IsCmb s.heap it (rec3 pool 2 .none (List.range r)) := by
        have : startOf pool us.length r = rec3 pool 2 .none (List.range r) := by
          unfold startOf
          rw [if_pos hrn]
        rw [← this]; exact q
      exact next_end (cmb_none (I.ok.hd hc) q' fin)
    · subst e
      have e3 := CB.rows_next e2
      rw [List.getElem?_eq_none hil] at e3
      exact next_end (cmb_end (I.ok.hd hc) q hp e3 fin)
  self := fun A i s Q E st h => by
    rcases st.2 with ⟨_, q⟩ | ⟨j, idx, last, _, _, q⟩
    · exact iter_cmb q h
    · exact iter_cmb q h
def iCmb0 (K : PySem.W.Frag) (ta : TA) : TI := fun σ H R => ta σ H fun vs H1 => ∃ (a : Addr) (xs : List V) (r : Nat), vs = [.ref a, .int (r : Int)] ∧ (SqL K H1 a xs ∨ SqT K H1 a xs) ∧ r ≤ 1048576 ∧ R (Itm (CB.combs r xs)) H1
theorem pi_cmb {X : Cx} {x : Str} {tg e1 e2 : Expr} {ta : TA} {p pos : Pos} (hg : Gl X x) (hm : X.mg x = some (.type "itertools.combinations")) (ha : PA X [e1, e2] ta) (hdb : (x == ("__debug__" : Str)) = false := by decide)
    (hs : starEach [e1, e2] X.env = (false, eval e1 X.env) :: starEach [e2] X.env := by rfl) (hpl : (backTo pos (starEach [e2] X.env)).any (·.1) = false := by rfl) :
    PI X tg (.Call (.Name x p) [e1, e2] [] pos) (iCmb0 X.K ta) := by
  refine ⟨fun pins s σ H R I h => ?_⟩
  refine wpAny_Call_Name_kw (ld_glob I hg hm ?_ hdb)
  refine PyProof.Rows.callWith_type1 (thn (ha.run pos pins s σ H _ I h) fun us s1 ⟨vs, H1, I1, r1, q1⟩ => ?_) hs hpl
  obtain ⟨a, xs, r, ex, hq, hr, q⟩ := q1
  subst ex
  cases r1 with
  | cons ra rr =>
    cases rr with
    | cons rb rc =>
      cases rc
      cases ra
      obtain ⟨tb, rfl⟩ := rb
      have fin : ∀ (its : List Value), Vals xs its → ∀ (h1 h2 : Heap) (pool it : Addr), (∀ b ob, s1.heap.get? b = some ob → h1.get? b = some ob) → (∀ b ob, h1.get? b = some ob → h2.get? b = some ob) → IsTp h2 pool its → h1.objs.size ≤ pool →
          IsCmb h2 it (startOf pool its.length r) → h1.objs.size ≤ it → it ≠ pool → wpAny (model X.prog X.w) X.A (pyIter (.ref it)) (PIE X pins σ tg R) X.xe { s1 with heap := h2 } := by
        intro its rv h1 h2 pool it k1 k2 hp lp hi li hne
        refine iter_cmb hi ?_
        have I2 : Inv X pins σ H1 { s1 with heap := h1 } := I1.kept (t' := s1.toks) k1
        have I3 : Inv X pins σ H1 { s1 with heap := h2 } := I2.kept (t' := s1.toks) k2
        refine ⟨it, [it, pool], _, _, H1, rfl, I3, turn_cmb it pool rv hne hr, ⟨hp, .inl ⟨rfl, hi⟩⟩, fun b hb => ?_, q⟩
        have e' : b = it ∨ b = pool := by simpa using hb
        rcases e' with z | z
        · subst z; exact I2.fpOk li (I2.hok.fresh li)
        · subst z; exact I2.fpOk lp (I2.hok.fresh lp)
      rcases hq with hq | hq
      · obtain ⟨its, rv, p', hz⟩ := I1.list hq
        obtain ⟨o, ho, hc, n, hd⟩ := p'.isList
        exact call_cmb hr (.inl rfl) ho hc hd (by rw [List.size_toArray, ← rv.length]; exact hz) fun h1 h2 pool it k1 k2 ht p1 hi p2 p3 => fin _ rv h1 h2 pool it k1 k2 ht p1 hi p2 p3
      · obtain ⟨its, rv, p', hz⟩ := I1.tuple hq
        obtain ⟨o, ho, hc, n, hd⟩ := p'
        exact call_cmb hr (.inr rfl) ho hc hd (by rw [List.size_toArray, ← rv.length]; exact hz) fun h1 h2 pool it k1 k2 ht p1 hi p2 p3 => fin _ rv h1 h2 pool it k1 k2 ht p1 hi p2 p3
/-- a list's or a tuple's items -/
def seqLT : D → Option (List D)
  | .list ds => some ds
  | .tuple ds => some ds
  | _ => none
def cmbD (r : Nat) (ds : List D) : List D := (CB.combs r ds).map PyData.tuple
def iCmb (as : Av) (σ : Sg) : Option (List D × Sg) := match as σ with
  | none => none
  | some (cs, σ1) => match frzAll cs σ1 with
    | some ([d, .int r], σ2) => match seqLT d with
      | some ds => if Cl (0 ≤ r ∧ r ≤ 1048576) then some (cmbD r.toNat ds, σ2) else none
      | none => none
    | _ => none
theorem combs_rd {M : Md} {H : Hp} : ∀ (r : Nat) {xs : List V} {ds : List D}, RDs M H xs ds → ∀ (i : Nat) vs es, (CB.combs r xs)[i]? = some vs → (CB.combs r ds)[i]? = some es → RDs M H vs es
  | 0, xs, ds, _, i, vs, es, e1, e2 => by
    cases i with
    | zero => simp [CB.combs] at e1 e2; subst e1; subst e2; exact .nil
    | succ i => simp [CB.combs] at e1
  | r + 1, _, _, .nil, i, vs, es, e1, e2 => by simp [CB.combs] at e1
  | r + 1, x :: xs, d :: ds, .cons h t, i, vs, es, e1, e2 => by
    rw [CB.combs] at e1 e2
    have hl : (CB.combs r xs).length = (CB.combs r ds).length := by
      have len : ∀ {α β : Type} (a : List α) (b : List β), a.length = b.length → ∀ r, (CB.combs r a).length = (CB.combs r b).length := fun a b hab r => by
        have e1 : a.map (fun _ => ()) = b.map (fun _ => ()) := by
          rw [List.map_const', List.map_const', hab]
        have := congrArg (fun l => (CB.combs r l).length) e1
        simpa [CB.combs_map] using this
      exact len xs ds t.length r
    by_cases hi : i < (CB.combs r xs).length
    · rw [List.getElem?_append_left (by simpa using hi), List.getElem?_map] at e1
      rw [List.getElem?_append_left (by simpa [← hl] using hi), List.getElem?_map] at e2
      cases e3 : (CB.combs r xs)[i]? with
      | none => rw [e3] at e1; cases e1
      | some v1 =>
        cases e4 : (CB.combs r ds)[i]? with
        | none => rw [e4] at e2; cases e2
        | some d1 =>
          rw [e3] at e1; rw [e4] at e2; cases e1; cases e2
          exact .cons h (combs_rd r t i _ _ e3 e4)
    · rw [List.getElem?_append_right (by simp; omega)] at e1
      rw [List.getElem?_append_right (by simp [← hl]; omega)] at e2
      simp only [List.length_map] at e1 e2
      rw [← hl] at e2
      exact combs_rd (r + 1) t _ _ _ e1 e2
theorem combs_ll {M : Md} {H : Hp} {xs : List V} {ds : List D} (r : Nat) (h : RDs M H xs ds) : (CB.combs r xs).length = (CB.combs r ds).length := by
  have e1 : xs.map (fun _ => ()) = ds.map (fun _ => ()) := by rw [List.map_const', List.map_const', h.length]
  have := congrArg (fun l => (CB.combs r l).length) e1
  simpa [CB.combs_map] using this
theorem iter_cmbD {M : Md} {Hf0 : Hp} {r : Nat} {xs : List V} {ds : List D} (h : RDs M Hf0 xs ds) : IterOk M (Itm (CB.combs r xs)) Hf0 (cmbD r ds) := fun i Hf H l k => by
  have hl : (CB.combs r xs).length = (cmbD r ds).length := by rw [combs_ll r h, cmbD, List.length_map]
  refine ⟨fun hi => by rw [← hl] at hi; exact hi, fun hi => by rw [← hl] at hi; exact hi, fun x H' d y e => ?_⟩
  obtain ⟨T, vs, rfl, hn, rfl, e1⟩ := y
  rw [cmbD, List.getElem?_map] at e
  cases e2 : (CB.combs r ds)[i]? with
  | none => rw [e2] at e; cases e
  | some es =>
    rw [e2] at e; cases e
    exact .inr ⟨T, vs, es, rfl, hn, rfl, RDs.le l (combs_rd r h i _ _ e1 e2), rfl⟩
theorem piv_cmb {X : Cx} {x : Str} {tg a c : Expr} {b : Bool} {as : Av} {p pos : Pos} (hm : X.mg x = some (.type "itertools.combinations")) (ha : PAv X [a, c] b as) (hg : Gl X x := by rfl) (hdb : (x == ("__debug__" : Str)) = false := by decide)
    (hs : starEach [a, c] X.env = (false, eval a X.env) :: starEach [c] X.env := by rfl) (hpl : (backTo pos (starEach [c] X.env)).any (·.1) = false := by rfl) : PIv X tg (.Call (.Name x p) [a, c] [] pos) b (iCmb as) :=
  PI.imp (pi_cmb hg hm ha hdb hs hpl) fun σm H Rk h => by
    obtain ⟨σ, Hf, R, φ, ds, σ', k, e, q⟩ := h
    dsimp only [iCmb] at e
    split at e
    · cases e
    · rename_i cs σ1 e1
      refine ⟨σ, Hf, R, φ, cs, σ1, k, e1, fun vs H1 Hf1 φ1 l1 k1 hrs p1 => ?_⟩
      split at e
      · rename_i d r σ2 e2
        split at e
        · rename_i ds' e3
          split at e
          · rename_i hb
            cases e
            obtain ⟨Hf2, φ2, l2, k2, rd⟩ := frzAll_ok k1 hrs e2
            cases rd with
            | cons h1 h2 =>
              cases h2 with
              | cons h2 h3 =>
                cases h3
                cases h2
                have er : ((r.toNat : Nat) : Int) = r := Int.toNat_of_nonneg hb.1
                have hr : r.toNat ≤ 1048576 := by have := hb.2; omega
                cases h1 with
                | lst hs1 r1 => cases e3; exact ⟨_, _, r.toNat, by rw [er], .inl (sql_le hs1 k2.fz), hr, q _ H1 Hf2 φ2 (l1.trans l2) k2 (iter_cmbD r1) p1⟩
                | tup hs1 r1 => cases e3; exact ⟨_, _, r.toNat, by rw [er], .inr (sqt_le hs1 k2.fz), hr, q _ H1 Hf2 φ2 (l1.trans l2) k2 (iter_cmbD r1) p1⟩
                | non => cases e3
                | bl b => cases e3
                | int i => cases e3
                | str z => cases e3
                | dic _ _ _ _ => cases e3
          · cases e
        · cases e
      · cases e
/-- a name of the module that is the library's class T -/
def typIs (K : PySem.W.Frag) (x : Str) (T : String) : Bool := match PySem.W.nsIn K mainGlobals x with
  | some (some (.type U)) => decide (U = T)
  | _ => false
theorem typIs_ok {K : PySem.W.Frag} {h : Heap} {mg : Str → Option Value} (X : K.In h) (G : h.Ns mainGlobals mg) {x : Str} {T : String} (c : typIs K x T = true) : mg x = some (.type T) := by
  unfold typIs at c
  split at c
  · rename_i U hv
    have := of_decide_eq_true c
    subst this
    exact PySem.W.mg_of X G hv
  · cases c
end
end PV

set_option Elab.async false
set_option linter.all false
set_option maxRecDepth 100000
/-! the functions of k11 as Lean functions (printed by gen.py) -/
namespace Kk11
noncomputable section
open PySem PV

def b_u_law_deal : Ex := (xSeq (xSet 1 (eLst aNil)) (xSeq (xFor (iRng1 (aCons (eCallB min2D (aCons (eCallB lenD (aCons (eName 0) aNil)) (aCons (eD (.int 63)) aNil))) aNil)) (tgName 2) (xSeq (xSet 3 (eCallB absD (aCons (eCallB intD (aCons (eItem (eName 0) (eName 2)) aNil)) aNil))) (xIf (tOf (eBin geD (eName 3) (eBin powD (eD (.int 10)) (eD (.int 18))))) (xFor (iRng1 (aCons (eD (.int 40)) aNil)) (tgName 4) (xIf (tOf (eBin gtD (eName 3) (eD (.int 0)))) (xSeq (xDrop (eMut appendD (eName 1) (aCons (eBin modD (eName 3) (eD (.int 1009))) aNil))) (xSet 3 (eBin divD (eName 3) (eD (.int 1009))))) xNil)) (xSeq (xSet 3 (eBin addD (eBin addD (eBin mul2D (eBin modD (eName 3) (eD (.int 2147483629))) (eD (.int 48271))) (eBin mul2D (eName 2) (eD (.int 69621)))) (eD (.int 11)))) (xFor (iRng1 (aCons (eD (.int 5)) aNil)) (tgName 4) (xSeq (xSet 3 (eBin modD (eBin addD (eBin addD (eBin mul2D (eName 3) (eD (.int 16807))) (eD (.int 12345))) (eName 4)) (eD (.int 2147483647)))) (xDrop (eMut appendD (eName 1) (aCons (eBin modD (eBin divD (eName 3) (eD (.int 7))) (eD (.int 1009))) aNil))))))))) (xSeq (xSet 5 (eBin addD (eCallB sumD (aCons (eName 1) aNil)) (eCallB lenD (aCons (eName 0) aNil)))) (xRet (eLstN (nCons false (eName 1) (nCons true (eLst (aCons (eD (.int 0)) aNil)) (nCons false (eName 5) nNil))))))))
def f_u_law_deal : Fn := mkFn 1 6 [] b_u_law_deal
def b_u_law_take : Ex := (xSeq (xSet 2 (eItem (eItem (eName 0) (eD (.int 1))) (eD (.int 0)))) (xSeq (xSetItem (eItem (eName 0) (eD (.int 1))) (eD (.int 0)) (eBin addD (eName 2) (eD (.int 1)))) (xSeq (xIf (tOf (eBin ltD (eName 2) (eCallB lenD (aCons (eItem (eName 0) (eD (.int 0))) aNil)))) (xRet (eBin modD (eItem (eItem (eName 0) (eD (.int 0))) (eName 2)) (eName 1))) xNil) (xRet (eBin modD (eBin divD (eBin addD (eBin addD (eBin mul2D (eName 2) (eD (.int 7919))) (eBin mul2D (eItem (eName 0) (eD (.int 2))) (eD (.int 31)))) (eBin mul2D (eBin mul2D (eName 2) (eName 2)) (eD (.int 17)))) (eD (.int 3))) (eName 1))))))
def f_u_law_take : Fn := mkFn 2 3 [0] b_u_law_take
def b_u_law_table : Ex := (xSeq (xSet 1 (eLst (aCons (eTup (aCons (eD (.int 0)) (aCons (eCallB intD (aCons (eBin eqD (eCall1 0 f_u_law_take (aCons (eName 0) (aCons (eD (.int 5)) aNil))) (eD (.int 0))) aNil)) aNil))) aNil))) (xSeq (xFor (iRng1 (aCons (eCall1 0 f_u_law_take (aCons (eName 0) (aCons (eD (.int 3)) aNil))) aNil)) (tgName 2) (xSeq (xAsg (tgTup 2 (tgCons (tgName 3) (tgCons (tgName 4) tgNil))) (eItem (eName 1) (eUn negD (eD (.int 1))))) (xDrop (eMut appendD (eName 1) (aCons (eTup (aCons (eBin addD (eBin addD (eName 3) (eD (.int 1))) (eCall1 0 f_u_law_take (aCons (eName 0) (aCons (eD (.int 4)) aNil)))) (aCons (eBin addD (eName 4) (eCall1 0 f_u_law_take (aCons (eName 0) (aCons (eD (.int 3)) aNil)))) aNil))) aNil))))) (xRet (eCallB tupleD (aCons (eName 1) aNil)))))
def f_u_law_table : Fn := mkFn 1 5 [0] b_u_law_table
def b_u_law_kinds : Ex := (xSeq (xSet 3 (eLst aNil)) (xSeq (xFor (iRng1 (aCons (eName 1) aNil)) (tgName 4) (xSeq (xSet 5 (eBin gtD (eCall1 0 f_u_law_take (aCons (eName 0) (aCons (eD (.int 4)) aNil))) (eD (.int 0)))) (xSeq (xSet 6 (eIfE (tOf (eName 5)) (eCall1 0 f_u_law_take (aCons (eName 0) (aCons (eD (.int 3)) aNil))) (eD (.int 0)))) (xDrop (eMut appendD (eName 3) (aCons (eTup (aCons (eBin addD (eItemH (eD (.str "abcdefgh")) (eCall1 0 f_u_law_take (aCons (eName 0) (aCons (eD (.int 8)) aNil)))) (eCallB strD (aCons (eName 4) aNil))) (aCons (eBin addD (eD (.int 1)) (eCall1 0 f_u_law_take (aCons (eName 0) (aCons (eName 2) aNil)))) (aCons (eCall1 0 f_u_law_table (aCons (eName 0) aNil)) (aCons (eName 5) (aCons (eName 6) aNil)))))) aNil)))))) (xRet (eCallB tupleD (aCons (eName 3) aNil)))))
def f_u_law_kinds : Fn := mkFn 3 7 [0] b_u_law_kinds
def b_u_law_some : Ex := (xRet (eLc [3] (iRng1 (aCons (eName 1) aNil)) (tgName 3) (tOf (eBin eqD (eCall1 0 f_u_law_take (aCons (eName 0) (aCons (eName 2) aNil))) (eD (.int 0)))) (eName 3)))
def f_u_law_some : Fn := mkFn 3 4 [0] b_u_law_some
def b_u_law_works : Ex := (xSeq (xSet 1 (eBin addD (eD (.int 1)) (eCall1 0 f_u_law_take (aCons (eName 0) (aCons (eD (.int 2)) aNil))))) (xSeq (xSet 2 (eD (.int 3))) (xSeq (xIf (tOf (eBin eqD (eCall1 0 f_u_law_take (aCons (eName 0) (aCons (eD (.int 6)) aNil))) (eD (.int 0)))) (xSeq (xSet 1 (eD (.int 3))) (xSet 2 (eD (.int 2)))) xNil) (xSeq (xSet 3 (eCall1 0 f_u_law_kinds (aCons (eName 0) (aCons (eBin addD (eD (.int 1)) (eCall1 0 f_u_law_take (aCons (eName 0) (aCons (eD (.int 2)) aNil)))) (aCons (eName 2) aNil))))) (xSeq (xSet 4 (eLst aNil)) (xSeq (xFor (iRng1 (aCons (eName 1) aNil)) (tgName 5) (xSeq (xSet 6 (eItem (eItemH (eName 3) (eCall1 0 f_u_law_take (aCons (eName 0) (aCons (eCallB lenD (aCons (eName 3) aNil)) aNil)))) (eD (.int 0)))) (xDrop (eMut appendD (eName 4) (aCons (eTup (aCons (eBin addD (eItemH (eD (.str "mnopqrst")) (eCall1 0 f_u_law_take (aCons (eName 0) (aCons (eD (.int 8)) aNil)))) (eCallB strD (aCons (eName 5) aNil))) (aCons (eName 6) (aCons (eCall1 0 f_u_law_take (aCons (eName 0) (aCons (eD (.int 6)) aNil))) aNil)))) aNil))))) (xSeq (xSet 7 (eLst aNil)) (xSeq (xFor (iRng1 (aCons (eCall1 0 f_u_law_take (aCons (eName 0) (aCons (eD (.int 4)) aNil))) aNil)) (tgName 5) (xSeq (xSet 8 (eLc [11] (iSeq (eCall1 0 f_u_law_some (aCons (eName 0) (aCons (eName 1) (aCons (eD (.int 2)) aNil))))) (tgName 11) tvYes (eItem (eItem (eName 4) (eName 11)) (eD (.int 0))))) (xDrop (eMut appendD (eName 7) (aCons (eTup (aCons (eBin addD (eD (.str "p")) (eCallB strD (aCons (eName 5) aNil))) (aCons (eCallB tupleD (aCons (eIfE (tOf (eBin eqD (eCall1 0 f_u_law_take (aCons (eName 0) (aCons (eD (.int 2)) aNil))) (eD (.int 0)))) (eRev2 (eName 8)) (eName 8)) aNil)) aNil))) aNil))))) (xSeq (xSet 9 (eLst aNil)) (xSeq (xFor (iRng1 (aCons (eBin addD (eD (.int 1)) (eCall1 0 f_u_law_take (aCons (eName 0) (aCons (eD (.int 2)) aNil)))) aNil)) (tgName 5) (xSeq (xSet 10 (eLc [11] (iRng1 (aCons (eName 1) aNil)) (tgName 11) tvYes (eItemH (eLst (aCons (eD (.int 0)) (aCons (eD (.int 1)) (aCons (eD (.int 2)) (aCons (eD (.int 4)) (aCons (eD (.int 9)) (aCons (eD (.int 99)) aNil))))))) (eCall1 0 f_u_law_take (aCons (eName 0) (aCons (eD (.int 6)) aNil)))))) (xDrop (eMut appendD (eName 9) (aCons (eTup (aCons (eBin addD (eD (.str "day")) (eCallB strD (aCons (eName 5) aNil))) (aCons (eCallB tupleD (aCons (eName 10) aNil)) (aCons (eCallB tupleD (aCons (eCall1 0 f_u_law_some (aCons (eName 0) (aCons (eName 1) (aCons (eD (.int 8)) aNil)))) aNil)) aNil)))) aNil))))) (xRet (eTup (aCons (eName 3) (aCons (eCallB tupleD (aCons (eName 4) aNil)) (aCons (eCallB tupleD (aCons (eName 7) aNil)) (aCons (eCallB tupleD (aCons (eName 9) aNil)) (aCons (eCall1 0 f_u_law_take (aCons (eName 0) (aCons (eD (.int 4)) aNil))) aNil)))))))))))))))))
def f_u_law_works : Fn := mkFn 1 12 [0] b_u_law_works
def b_u_law_crew_world : Ex := (xSeq (xSet 1 (eCall1 0 f_u_law_works (aCons (eName 0) aNil))) (xSeq (xSet 2 (eItem (eName 1) (eD (.int 1)))) (xSeq (xFor (iRng1 (aCons (eCall1 0 f_u_law_take (aCons (eName 0) (aCons (eD (.int 4)) aNil))) aNil)) (tgName 3) (xIf (tOf (eBin ltD (eCallB lenD (aCons (eName 2) aNil)) (eD (.int 6)))) (xSet 2 (eBin addD (eName 2) (eTup (aCons (eTup (aCons (eBin addD (eD (.str "x")) (eCallB strD (aCons (eName 3) aNil))) (aCons (eItem (eItem (eName 2) (eD (.int 0))) (eD (.int 1))) (aCons (eD (.int 0)) aNil)))) aNil)))) xNil)) (xSeq (xSet 4 (eCallB tupleD (aCons (eLc [6] (iSeq (eItem (eName 1) (eD (.int 3)))) (tgName 6) tvYes (eTup (aCons (eItem (eName 6) (eD (.int 0))) (aCons (eSlice (eBin addD (eItem (eName 6) (eD (.int 1))) (eTup (aCons (eD (.int 0)) (aCons (eD (.int 0)) (aCons (eD (.int 0)) (aCons (eD (.int 0)) (aCons (eD (.int 0)) aNil))))))) .none (.some (eCallB lenD (aCons (eName 2) aNil)))) (aCons (eItem (eName 6) (eD (.int 2))) aNil))))) aNil))) (xSeq (xSet 5 (eLst aNil)) (xSeq (xFor (iRng1 (aCons (eCall1 0 f_u_law_take (aCons (eName 0) (aCons (eD (.int 7)) aNil))) aNil)) (tgName 3) (xDrop (eMut appendD (eName 5) (aCons (eTup (aCons (eBin addD (eD (.str "p")) (eCallB strD (aCons (eName 3) aNil))) (aCons (eCallB tupleD (aCons (eLc [7] (iSeq (eCall1 0 f_u_law_some (aCons (eName 0) (aCons (eCallB lenD (aCons (eName 2) aNil)) (aCons (eD (.int 3)) aNil))))) (tgName 7) tvYes (eItem (eItem (eName 2) (eName 7)) (eD (.int 0)))) aNil)) aNil))) aNil)))) (xRet (eTup (aCons (eItem (eName 1) (eD (.int 0))) (aCons (eName 2) (aCons (eCallB tupleD (aCons (eName 5) aNil)) (aCons (eName 4) (aCons (eItem (eName 1) (eD (.int 4))) aNil)))))))))))))
def f_u_law_crew_world : Fn := mkFn 1 8 [0] b_u_law_crew_world
def b_u_law_subsets : Ex := (xSeq (xSet 1 (eLst (aCons (eTup aNil) aNil))) (xSeq (xFor (iRng2 (aCons (eD (.int 1)) (aCons (eBin addD (eName 0) (eD (.int 1))) aNil))) (tgName 2) (xFor (iSeq (eCallB listD (aCons (eName 1) aNil))) (tgName 3) (xIf (tOf (eBin eqD (eCallB lenD (aCons (eName 3) aNil)) (eBin subD (eName 2) (eD (.int 1))))) (xFor (iRng2 (aCons (eIfE (tOf (eBin gtD (eCallB lenD (aCons (eName 3) aNil)) (eD (.int 0)))) (eBin addD (eItem (eName 3) (eUn negD (eD (.int 1)))) (eD (.int 1))) (eD (.int 0))) (aCons (eName 0) aNil))) (tgName 4) (xDrop (eMut appendD (eName 1) (aCons (eBin addD (eName 3) (eTup (aCons (eName 4) aNil))) aNil)))) xNil))) (xRet (eName 1))))
def f_u_law_subsets : Fn := mkFn 1 5 [] b_u_law_subsets
def b_u_law_bool : Ex := (xRet (eAndE (eIsI "bool" (eName 0)) (eBin eqD (eName 0) (eName 1))))
def f_u_law_bool : Fn := mkFn 2 2 [] b_u_law_bool
def b_u_law_skilled : Ex := (xRet (eBin inD (eItem (eItem (eItem (eName 0) (eD (.int 1))) (eName 2)) (eD (.int 0))) (eItem (eItem (eItem (eName 0) (eD (.int 2))) (eName 1)) (eD (.int 1)))))
def f_u_law_skilled : Fn := mkFn 3 3 [] b_u_law_skilled
def b_u_law_assignments : Ex := (xSeq (xSet 2 (eLst (aCons (eTup aNil) aNil))) (xSeq (xFor (iSeq (eName 1)) (tgName 3) (xSeq (xSet 4 (eLst aNil)) (xSeq (xFor (iSeq (eName 2)) (tgName 5) (xFor (iRng1 (aCons (eCallB lenD (aCons (eItem (eName 0) (eD (.int 2))) aNil)) aNil)) (tgName 6) (xIf (tAndE (tOf (eBin ninD (eName 6) (eName 5))) (tOf (eCall0 f_u_law_skilled (aCons (eName 0) (aCons (eName 6) (aCons (eName 3) aNil)))))) (xDrop (eMut appendD (eName 4) (aCons (eBin addD (eName 5) (eTup (aCons (eName 6) aNil))) aNil))) xNil))) (xSet 2 (eName 4))))) (xRet (eName 2))))
def f_u_law_assignments : Fn := mkFn 2 7 [] b_u_law_assignments
def b_has_skill : Ex := (xRet (eBin inD (eItem (eItem (eItem (eName 0) (eD (.int 1))) (eName 2)) (eD (.int 0))) (eItem (eItem (eItem (eName 0) (eD (.int 2))) (eName 1)) (eD (.int 1)))))
def f_has_skill : Fn := mkFn 3 3 [] b_has_skill
def b_is_assignment : Ex := (xSeq (xIf (tOf (eBin neD (eCallB lenD (aCons (eName 2) aNil)) (eCallB lenD (aCons (eName 1) aNil)))) (xRet (eD (.bool false))) xNil) (xSeq (xFor (iRng1 (aCons (eCallB lenD (aCons (eName 1) aNil)) aNil)) (tgName 3) (xSeq (xIf (tOrE (tNotE (tOf (eChain leD ltD (eD (.int 0)) (eItem (eName 2) (eName 3)) (eCallB lenD (aCons (eItem (eName 0) (eD (.int 2))) aNil))))) (tOf (eBin inD (eItem (eName 2) (eName 3)) (eSlice (eName 2) .none (.some (eName 3)))))) (xRet (eD (.bool false))) xNil) (xIf (tNotE (tOf (eCall0 f_has_skill (aCons (eName 0) (aCons (eItem (eName 2) (eName 3)) (aCons (eItem (eName 1) (eName 3)) aNil)))))) (xRet (eD (.bool false))) xNil))) (xRet (eD (.bool true)))))
def f_is_assignment : Fn := mkFn 3 4 [] b_is_assignment
def b_u_law_same (self : Fn) : Ex := (xSeq (xIf (tOrE (tOf (eIsI "tuple" (eName 1))) (tOf (eIsI "list" (eName 1)))) (xSeq (xIf (tOrE (tAndE (tOf (eIsI "tuple" (eName 1))) (tNotE (tOf (eIsI "tuple" (eName 0))))) (tAndE (tOf (eIsI "list" (eName 1))) (tNotE (tOf (eIsI "list" (eName 0)))))) (xRet (eD (.bool false))) xNil) (xSeq (xIf (tOf (eBin neD (eCallB lenD (aCons (eName 0) aNil)) (eCallB lenD (aCons (eName 1) aNil)))) (xRet (eD (.bool false))) xNil) (xSeq (xFor (iRng1 (aCons (eCallB lenD (aCons (eName 1) aNil)) aNil)) (tgName 2) (xIf (tNotE (tOf (eCall0 self (aCons (eItem (eName 0) (eName 2)) (aCons (eItem (eName 1) (eName 2)) aNil))))) (xRet (eD (.bool false))) xNil)) (xRet (eD (.bool true)))))) xNil) (xSeq (xIf (tOrE (tOf (eIsI "bool" (eName 0))) (tOf (eIsI "bool" (eName 1)))) (xRet (eAndE (eIsI "bool" (eName 0)) (eAndE (eIsI "bool" (eName 1)) (eBin eqD (eName 0) (eName 1))))) xNil) (xSeq (xIf (tOf (eIsI "int" (eName 1))) (xRet (eAndE (eIsI "int" (eName 0)) (eBin eqD (eName 0) (eName 1)))) xNil) (xSeq (xIf (tOf (eIsI "str" (eName 1))) (xRet (eAndE (eIsI "str" (eName 0)) (eBin eqD (eName 0) (eName 1)))) xNil) (xRet (eAndE (eBin isD (eName 0) (eD .none)) (eBin isD (eName 1) (eD .none))))))))
def f_u_law_same : Nat → Fn
  | 0 => fun _ => none
  | m + 1 => mkFn 2 3 [] (b_u_law_same (f_u_law_same m))
def b_u_law_wrong : Ex := (xSeq (xSet 4 (eCallB lenD (aCons (eItem (eName 1) (eD (.int 2))) aNil))) (xSeq (xSet 5 (eLst (aCons (eBin addD (eName 3) (eTup (aCons (eD (.int 0)) aNil))) (aCons (eSlice (eName 3) .none (.some (eUn negD (eD (.int 1))))) (aCons (eBin addD (eSlice (eName 3) .none (.some (eUn negD (eD (.int 1))))) (eTup (aCons (eName 4) aNil))) (aCons (eBin addD (eSlice (eName 3) .none (.some (eUn negD (eD (.int 1))))) (eTup (aCons (eUn negD (eD (.int 1))) aNil))) aNil)))))) (xSeq (xIf (tOf (eBin gtD (eCallB lenD (aCons (eName 3) aNil)) (eD (.int 1)))) (xDrop (eMut appendD (eName 5) (aCons (eBin addD (eTup (aCons (eItem (eName 3) (eD (.int 1))) aNil)) (eSlice (eName 3) (.some (eD (.int 1))) .none)) aNil))) xNil) (xSeq (xFor (iRng1 (aCons (eName 4) aNil)) (tgName 6) (xIf (tNotE (tOf (eCall0 f_u_law_skilled (aCons (eName 1) (aCons (eName 6) (aCons (eItem (eName 2) (eUn negD (eD (.int 1)))) aNil)))))) (xDrop (eMut appendD (eName 5) (aCons (eBin addD (eSlice (eName 3) .none (.some (eUn negD (eD (.int 1))))) (eTup (aCons (eName 6) aNil))) aNil))) xNil)) (xRet (eName 5))))))
def f_u_law_wrong : Fn := mkFn 4 7 [0] b_u_law_wrong
def b_completed (self : Fn) : Ex := (xSeq (xIf (tOf (eBin eqD (eCallB lenD (aCons (eName 2) aNil)) (eCallB lenD (aCons (eName 1) aNil)))) (xRet (eName 2)) xNil) (xSeq (xFor (iRng1 (aCons (eCallB lenD (aCons (eItem (eName 0) (eD (.int 2))) aNil)) aNil)) (tgName 3) (xIf (tAndE (tOf (eBin ninD (eName 3) (eName 2))) (tOf (eCall0 f_has_skill (aCons (eName 0) (aCons (eName 3) (aCons (eItem (eName 1) (eCallB lenD (aCons (eName 2) aNil))) aNil)))))) (xSeq (xSet 4 (eCall0 self (aCons (eName 0) (aCons (eName 1) (aCons (eBin addD (eName 2) (eTup (aCons (eName 3) aNil))) aNil))))) (xIf (tOf (eBin isnotD (eName 4) (eD .none))) (xRet (eName 4)) xNil)) xNil)) (xRet (eD .none))))
def f_completed : Nat → Fn
  | 0 => fun _ => none
  | m + 1 => mkFn 3 5 [] (b_completed (f_completed m))
def b_assignment : Ex := (xRet (eCall0 (f_completed 12) (aCons (eName 0) (aCons (eName 1) (aCons (eTup aNil) aNil)))))
def f_assignment : Fn := mkFn 2 2 [] b_assignment
def b_u_law_part_one : Ex := (xSeq (xSet 1 (eCall0 f_u_law_deal (aCons (eName 0) aNil))) (xSeq (xSet 2 (eCall1 0 f_u_law_crew_world (aCons (eName 1) aNil))) (xSeq (xSet 3 (eCall0 f_u_law_subsets (aCons (eCallB lenD (aCons (eItem (eName 2) (eD (.int 1))) aNil)) aNil))) (xSeq (xFor (iRng1 (aCons (eD (.int 12)) aNil)) (tgName 4) (xSeq (xSet 5 (eItemH (eName 3) (eCall1 0 f_u_law_take (aCons (eName 1) (aCons (eCallB lenD (aCons (eName 3) aNil)) aNil))))) (xSeq (xIf (tOf (eBin eqD (eName 4) (eD (.int 0)))) (xSet 5 (eTup aNil)) xNil) (xSeq (xSet 6 (eCall0 f_u_law_assignments (aCons (eName 2) (aCons (eSlice (eName 5) .none (.some (eD (.int 4)))) aNil)))) (xSeq (xSet 7 (eIfE (tOf (eBin gtD (eCallB lenD (aCons (eName 6) aNil)) (eD (.int 0)))) (eItem (eName 6) (eD (.int 0))) (eD .none))) (xSeq (xIf (tNotE (tOf (eCall0 (f_u_law_same 12) (aCons (eCall0 f_assignment (aCons (eName 2) (aCons (eSlice (eName 5) .none (.some (eD (.int 4)))) aNil))) (aCons (eName 7) aNil))))) (xRet (eD (.bool false))) xNil) (xSeq (xFor (iSeq (eBin addD (eSlice (eName 6) .none (.some (eD (.int 5)))) (eSlice (eName 6) (.some (eUn negD (eD (.int 3)))) .none))) (tgName 8) (xIf (tNotE (tOf (eCall0 f_u_law_bool (aCons (eCall0 f_is_assignment (aCons (eName 2) (aCons (eSlice (eName 5) .none (.some (eD (.int 4)))) (aCons (eName 8) aNil)))) (aCons (eD (.bool true)) aNil))))) (xRet (eD (.bool false))) xNil)) (xIf (tAndE (tOf (eBin gtD (eCallB lenD (aCons (eName 6) aNil)) (eD (.int 0)))) (tOf (eBin gtD (eCallB lenD (aCons (eName 5) aNil)) (eD (.int 0))))) (xFor (iSeq (eCall1 0 f_u_law_wrong (aCons (eName 1) (aCons (eName 2) (aCons (eSlice (eName 5) .none (.some (eD (.int 4)))) (aCons (eItemH (eName 6) (eCall1 0 f_u_law_take (aCons (eName 1) (aCons (eCallB lenD (aCons (eName 6) aNil)) aNil)))) aNil)))))) (tgName 9) (xIf (tNotE (tOf (eCall0 f_u_law_bool (aCons (eCall0 f_is_assignment (aCons (eName 2) (aCons (eSlice (eName 5) .none (.some (eD (.int 4)))) (aCons (eName 9) aNil)))) (aCons (eD (.bool false)) aNil))))) (xRet (eD (.bool false))) xNil)) xNil)))))))) (xRet (eCall0 f_u_law_bool (aCons (eCall0 f_is_assignment (aCons (eName 2) (aCons (eTup aNil) (aCons (eTup aNil) aNil)))) (aCons (eD (.bool true)) aNil))))))))
def f_u_law_part_one : Fn := mkFn 1 10 [] b_u_law_part_one
def b_people_for : Ex := (xSeq (xSet 2 (eLst aNil)) (xSeq (xFor (iRng1 (aCons (eCallB lenD (aCons (eItem (eName 0) (eD (.int 2))) aNil)) aNil)) (tgName 3) (xIf (tOf (eBin gtD (eCallB lenD (aCons (eLc [4] (iSeq (eName 1)) (tgName 4) (tOf (eCall0 f_has_skill (aCons (eName 0) (aCons (eName 3) (aCons (eName 4) aNil))))) (eName 4)) aNil)) (eD (.int 0)))) (xDrop (eMut appendD (eName 2) (aCons (eName 3) aNil))) xNil)) (xRet (eName 2))))
def f_people_for : Fn := mkFn 2 5 [] b_people_for
def b_crew_paper : Ex := (xSeq (xFor (iRng2 (aCons (eD (.int 1)) (aCons (eBin addD (eCallB lenD (aCons (eName 1) aNil)) (eD (.int 1))) aNil))) (tgName 2) (xFor (iCmb (aCons (eName 1) (aCons (eName 2) aNil))) (tgName 3) (xIf (tOf (eBin ltD (eCallB lenD (aCons (eCall0 f_people_for (aCons (eName 0) (aCons (eName 3) aNil))) aNil)) (eName 2))) (xRet (eName 3)) xNil))) (xRet (eD .none)))
def f_crew_paper : Fn := mkFn 2 4 [] b_crew_paper
def b_u_law_manned (self : Fn) : Ex := (xSeq (xIf (tOf (eBin eqD (eCallB lenD (aCons (eName 1) aNil)) (eD (.int 0)))) (xRet (eD (.bool true))) xNil) (xSeq (xFor (iRng1 (aCons (eCallB lenD (aCons (eName 2) aNil)) aNil)) (tgName 3) (xIf (tOf (eBin inD (eItem (eItem (eItem (eName 0) (eD (.int 1))) (eItem (eName 1) (eD (.int 0)))) (eD (.int 0))) (eItem (eItem (eName 2) (eName 3)) (eD (.int 1))))) (xIf (tOf (eCall0 self (aCons (eName 0) (aCons (eSlice (eName 1) (.some (eD (.int 1))) .none) (aCons (eBin addD (eSlice (eName 2) .none (.some (eName 3))) (eSlice (eName 2) (.some (eBin addD (eName 3) (eD (.int 1)))) .none)) aNil))))) (xRet (eD (.bool true))) xNil) xNil)) (xRet (eD (.bool false)))))
def f_u_law_manned : Nat → Fn
  | 0 => fun _ => none
  | m + 1 => mkFn 3 4 [] (b_u_law_manned (f_u_law_manned m))
def b_u_law_right : Ex := (xSeq (xIf (tOrE (tNotE (tOf (eIsI "tuple" (eName 2)))) (tOf (eBin neD (eCallB lenD (aCons (eName 2) aNil)) (eCallB lenD (aCons (eName 1) aNil))))) (xRet (eD (.bool false))) xNil) (xSeq (xFor (iRng1 (aCons (eCallB lenD (aCons (eName 2) aNil)) aNil)) (tgName 3) (xSeq (xIf (tOrE (tOf (eBin inD (eItem (eName 2) (eName 3)) (eSlice (eName 2) .none (.some (eName 3))))) (tNotE (tOf (eBin inD (eItem (eName 2) (eName 3)) (eLR1 false (eCallB lenD (aCons (eItem (eName 0) (eD (.int 2))) aNil))))))) (xRet (eD (.bool false))) xNil) (xIf (tNotE (tOf (eCall0 f_u_law_skilled (aCons (eName 0) (aCons (eItem (eName 2) (eName 3)) (aCons (eItem (eName 1) (eName 3)) aNil)))))) (xRet (eD (.bool false))) xNil))) (xRet (eD (.bool true)))))
def f_u_law_right : Fn := mkFn 3 4 [] b_u_law_right
def b_u_law_too_few : Ex := (xSeq (xSet 2 (eLst aNil)) (xSeq (xFor (iRng1 (aCons (eCallB lenD (aCons (eItem (eName 0) (eD (.int 2))) aNil)) aNil)) (tgName 3) (xIf (tOf (eBin gtD (eCallB lenD (aCons (eLc [4] (iSeq (eName 1)) (tgName 4) (tOf (eCall0 f_u_law_skilled (aCons (eName 0) (aCons (eName 3) (aCons (eName 4) aNil))))) (eName 4)) aNil)) (eD (.int 0)))) (xDrop (eMut appendD (eName 2) (aCons (eName 3) aNil))) xNil)) (xRet (eAndE (eBin gtD (eCallB lenD (aCons (eName 1) aNil)) (eD (.int 0))) (eBin ltD (eCallB lenD (aCons (eName 2) aNil)) (eCallB lenD (aCons (eName 1) aNil)))))))
def f_u_law_too_few : Fn := mkFn 2 5 [] b_u_law_too_few
def b_shows_unmanned : Ex := (xSeq (xSet 3 (eUn negD (eD (.int 1)))) (xSeq (xFor (iSeq (eName 2)) (tgName 4) (xSeq (xIf (tOrE (tOf (eBin leD (eName 4) (eName 3))) (tOf (eBin ninD (eName 4) (eName 1)))) (xRet (eD (.bool false))) xNil) (xSet 3 (eName 4)))) (xRet (eAndE (eBin gtD (eCallB lenD (aCons (eName 2) aNil)) (eD (.int 0))) (eBin ltD (eCallB lenD (aCons (eCall0 f_people_for (aCons (eName 0) (aCons (eName 2) aNil))) aNil)) (eCallB lenD (aCons (eName 2) aNil)))))))
def f_shows_unmanned : Fn := mkFn 3 5 [] b_shows_unmanned
def b_u_law_one : Ex := (xSeq (xSet 3 (eCall0 f_assignment (aCons (eName 1) (aCons (eName 2) aNil)))) (xSeq (xSet 4 (eCall0 f_crew_paper (aCons (eName 1) (aCons (eName 2) aNil)))) (xSeq (xSet 5 (eCall0 (f_u_law_manned 12) (aCons (eName 1) (aCons (eName 2) (aCons (eItem (eName 1) (eD (.int 2))) aNil))))) (xSeq (xIf (tOrE (tOf (eBin eqD (eBin isD (eName 3) (eD .none)) (eName 5))) (tOf (eBin neD (eBin isD (eName 4) (eD .none)) (eName 5)))) (xRet (eD (.bool false))) xNil) (xSeq (xIf (tAndE (tOf (eName 5)) (tNotE (tOf (eCall0 f_u_law_right (aCons (eName 1) (aCons (eName 2) (aCons (eName 3) aNil))))))) (xRet (eD (.bool false))) xNil) (xSeq (xIf (tAndE (tNotE (tOf (eName 5))) (tOrE (tNotE (tOf (eIsI "tuple" (eName 4)))) (tNotE (tOf (eCall0 f_u_law_too_few (aCons (eName 1) (aCons (eName 4) aNil))))))) (xRet (eD (.bool false))) xNil) (xSeq (xIf (tAndE (tNotE (tOf (eName 5))) (tNotE (tOf (eCall0 f_u_law_bool (aCons (eCall0 f_shows_unmanned (aCons (eName 1) (aCons (eName 2) (aCons (eName 4) aNil)))) (aCons (eD (.bool true)) aNil)))))) (xRet (eD (.bool false))) xNil) (xSeq (xFor (iSeq (eCall0 f_u_law_subsets (aCons (eCallB lenD (aCons (eName 2) aNil)) aNil))) (tgName 6) (xSeq (xSet 7 (eCallB tupleD (aCons (eLc [10] (iSeq (eName 6)) (tgName 10) tvYes (eItem (eName 2) (eName 10))) aNil))) (xSeq (xIf (tNotE (tOf (eCall0 f_u_law_bool (aCons (eCall0 f_shows_unmanned (aCons (eName 1) (aCons (eName 2) (aCons (eName 7) aNil)))) (aCons (eCall0 f_u_law_too_few (aCons (eName 1) (aCons (eName 7) aNil))) aNil))))) (xRet (eD (.bool false))) xNil) (xSeq (xIf (tAndE (tOf (eBin gtD (eCallB lenD (aCons (eName 7) aNil)) (eD (.int 1)))) (tNotE (tOf (eCall0 f_u_law_bool (aCons (eCall0 f_shows_unmanned (aCons (eName 1) (aCons (eName 2) (aCons (eRev2 (eName 7)) aNil)))) (aCons (eD (.bool false)) aNil)))))) (xRet (eD (.bool false))) xNil) (xIf (tAndE (tOf (eBin gtD (eCallB lenD (aCons (eName 7) aNil)) (eD (.int 0)))) (tNotE (tOf (eCall0 f_u_law_bool (aCons (eCall0 f_shows_unmanned (aCons (eName 1) (aCons (eName 2) (aCons (eBin addD (eName 7) (eSlice (eName 7) (.some (eUn negD (eD (.int 1)))) .none)) aNil)))) (aCons (eD (.bool false)) aNil)))))) (xRet (eD (.bool false))) xNil))))) (xSeq (xSet 8 (eCallB tupleD (aCons (eLc [9] (iRng1 (aCons (eCallB lenD (aCons (eItem (eName 1) (eD (.int 1))) aNil)) aNil)) (tgName 9) (tOf (eBin ninD (eName 9) (eName 2))) (eName 9)) aNil))) (xSeq (xFor (iSeq (eName 8)) (tgName 9) (xIf (tNotE (tOf (eCall0 f_u_law_bool (aCons (eCall0 f_shows_unmanned (aCons (eName 1) (aCons (eName 2) (aCons (eCallB tupleD (aCons (eCallB sortedTD (aCons (eBin addD (eName 2) (eTup (aCons (eName 9) aNil))) aNil)) aNil)) aNil)))) (aCons (eD (.bool false)) aNil))))) (xRet (eD (.bool false))) xNil)) (xRet (eD (.bool true)))))))))))))
def f_u_law_one : Fn := mkFn 3 11 [] b_u_law_one
def b_u_law_part_two : Ex := (xSeq (xSet 1 (eCall0 f_u_law_deal (aCons (eName 0) aNil))) (xSeq (xSet 2 (eCall1 0 f_u_law_crew_world (aCons (eName 1) aNil))) (xSeq (xSet 3 (eCall0 f_u_law_subsets (aCons (eCallB lenD (aCons (eItem (eName 2) (eD (.int 1))) aNil)) aNil))) (xSeq (xFor (iRng1 (aCons (eD (.int 5)) aNil)) (tgName 4) (xSeq (xSet 5 (eItemH (eName 3) (eCall1 0 f_u_law_take (aCons (eName 1) (aCons (eCallB lenD (aCons (eName 3) aNil)) aNil))))) (xIf (tNotE (tOf (eCall0 f_u_law_one (aCons (eName 1) (aCons (eName 2) (aCons (eName 5) aNil)))))) (xRet (eD (.bool false))) xNil))) (xRet (eCall0 f_u_law_one (aCons (eName 1) (aCons (eName 2) (aCons (eLR1 true (eCallB lenD (aCons (eItem (eName 2) (eD (.int 1))) aNil))) aNil)))))))))
def f_u_law_part_two : Fn := mkFn 1 6 [] b_u_law_part_two
def b_law : Ex := (xRet (eAndE (eCall0 f_u_law_part_one (aCons (eName 0) aNil)) (eCall0 f_u_law_part_two (aCons (eName 0) aNil))))
def f_law : Fn := mkFn 1 1 [] b_law
end
end Kk11

set_option Elab.async false
set_option linter.all false
set_option maxRecDepth 100000
set_option maxHeartbeats 4000000
/-! each def of k11 keeps its promise (printed by gen.py) -/
namespace Kk11
open PySem PySem.Spec L2 PV
open PyProof.Rows hiding St

def top (i : Nat) : Stmt := PySem.Challenge.pw_mendedbyplan_k11_whole_people_for_jobs.main.body.getD i (.Pass ⟨0, 0, 0, 0⟩)
abbrev FnP (K : PySem.W.Frag) (x : Str) (st : Stmt) (f : Addr) (fd : FuncData) : Prop := FunD K x x (defArgs st) (defBody st) (defScope st) [] [] f fd
theorem nio {l : List Nat} {i : Nat} (h : l.contains i = false) : ¬ (fun i => i ∈ l) i := fun q => by have := List.contains_iff_mem.mpr q; rw [h] at this; cases this
structure En (P : Program) (w : World) (K : PySem.W.Frag) (mg : Str → Option Value) where
  a_u_law_deal : Addr
  d_u_law_deal : FuncData
  F_u_law_deal : FnP K "_law_deal" (top 10) a_u_law_deal d_u_law_deal
  g_u_law_deal : mg "_law_deal" = some (.ref a_u_law_deal)
  a_u_law_take : Addr
  d_u_law_take : FuncData
  F_u_law_take : FnP K "_law_take" (top 11) a_u_law_take d_u_law_take
  g_u_law_take : mg "_law_take" = some (.ref a_u_law_take)
  a_u_law_table : Addr
  d_u_law_table : FuncData
  F_u_law_table : FnP K "_law_table" (top 14) a_u_law_table d_u_law_table
  g_u_law_table : mg "_law_table" = some (.ref a_u_law_table)
  a_u_law_kinds : Addr
  d_u_law_kinds : FuncData
  F_u_law_kinds : FnP K "_law_kinds" (top 15) a_u_law_kinds d_u_law_kinds
  g_u_law_kinds : mg "_law_kinds" = some (.ref a_u_law_kinds)
  a_u_law_some : Addr
  d_u_law_some : FuncData
  F_u_law_some : FnP K "_law_some" (top 16) a_u_law_some d_u_law_some
  g_u_law_some : mg "_law_some" = some (.ref a_u_law_some)
  a_u_law_works : Addr
  d_u_law_works : FuncData
  F_u_law_works : FnP K "_law_works" (top 17) a_u_law_works d_u_law_works
  g_u_law_works : mg "_law_works" = some (.ref a_u_law_works)
  a_u_law_crew_world : Addr
  d_u_law_crew_world : FuncData
  F_u_law_crew_world : FnP K "_law_crew_world" (top 20) a_u_law_crew_world d_u_law_crew_world
  g_u_law_crew_world : mg "_law_crew_world" = some (.ref a_u_law_crew_world)
  a_u_law_subsets : Addr
  d_u_law_subsets : FuncData
  F_u_law_subsets : FnP K "_law_subsets" (top 23) a_u_law_subsets d_u_law_subsets
  g_u_law_subsets : mg "_law_subsets" = some (.ref a_u_law_subsets)
  a_u_law_bool : Addr
  d_u_law_bool : FuncData
  F_u_law_bool : FnP K "_law_bool" (top 13) a_u_law_bool d_u_law_bool
  g_u_law_bool : mg "_law_bool" = some (.ref a_u_law_bool)
  a_u_law_skilled : Addr
  d_u_law_skilled : FuncData
  F_u_law_skilled : FnP K "_law_skilled" (top 21) a_u_law_skilled d_u_law_skilled
  g_u_law_skilled : mg "_law_skilled" = some (.ref a_u_law_skilled)
  a_u_law_assignments : Addr
  d_u_law_assignments : FuncData
  F_u_law_assignments : FnP K "_law_assignments" (top 22) a_u_law_assignments d_u_law_assignments
  g_u_law_assignments : mg "_law_assignments" = some (.ref a_u_law_assignments)
  a_has_skill : Addr
  d_has_skill : FuncData
  F_has_skill : FnP K "has_skill" (top 2) a_has_skill d_has_skill
  g_has_skill : mg "has_skill" = some (.ref a_has_skill)
  a_is_assignment : Addr
  d_is_assignment : FuncData
  F_is_assignment : FnP K "is_assignment" (top 3) a_is_assignment d_is_assignment
  g_is_assignment : mg "is_assignment" = some (.ref a_is_assignment)
  a_u_law_same : Addr
  d_u_law_same : FuncData
  F_u_law_same : FnP K "_law_same" (top 12) a_u_law_same d_u_law_same
  g_u_law_same : mg "_law_same" = some (.ref a_u_law_same)
  a_u_law_wrong : Addr
  d_u_law_wrong : FuncData
  F_u_law_wrong : FnP K "_law_wrong" (top 24) a_u_law_wrong d_u_law_wrong
  g_u_law_wrong : mg "_law_wrong" = some (.ref a_u_law_wrong)
  a_completed : Addr
  d_completed : FuncData
  F_completed : FnP K "completed" (top 4) a_completed d_completed
  g_completed : mg "completed" = some (.ref a_completed)
  a_assignment : Addr
  d_assignment : FuncData
  F_assignment : FnP K "assignment" (top 5) a_assignment d_assignment
  g_assignment : mg "assignment" = some (.ref a_assignment)
  a_u_law_part_one : Addr
  d_u_law_part_one : FuncData
  F_u_law_part_one : FnP K "_law_part_one" (top 33) a_u_law_part_one d_u_law_part_one
  g_u_law_part_one : mg "_law_part_one" = some (.ref a_u_law_part_one)
  a_people_for : Addr
  d_people_for : FuncData
  F_people_for : FnP K "people_for" (top 6) a_people_for d_people_for
  g_people_for : mg "people_for" = some (.ref a_people_for)
  a_crew_paper : Addr
  d_crew_paper : FuncData
  F_crew_paper : FnP K "crew_paper" (top 8) a_crew_paper d_crew_paper
  g_crew_paper : mg "crew_paper" = some (.ref a_crew_paper)
  a_u_law_manned : Addr
  d_u_law_manned : FuncData
  F_u_law_manned : FnP K "_law_manned" (top 27) a_u_law_manned d_u_law_manned
  g_u_law_manned : mg "_law_manned" = some (.ref a_u_law_manned)
  a_u_law_right : Addr
  d_u_law_right : FuncData
  F_u_law_right : FnP K "_law_right" (top 31) a_u_law_right d_u_law_right
  g_u_law_right : mg "_law_right" = some (.ref a_u_law_right)
  a_u_law_too_few : Addr
  d_u_law_too_few : FuncData
  F_u_law_too_few : FnP K "_law_too_few" (top 30) a_u_law_too_few d_u_law_too_few
  g_u_law_too_few : mg "_law_too_few" = some (.ref a_u_law_too_few)
  a_shows_unmanned : Addr
  d_shows_unmanned : FuncData
  F_shows_unmanned : FnP K "shows_unmanned" (top 7) a_shows_unmanned d_shows_unmanned
  g_shows_unmanned : mg "shows_unmanned" = some (.ref a_shows_unmanned)
  a_u_law_one : Addr
  d_u_law_one : FuncData
  F_u_law_one : FnP K "_law_one" (top 32) a_u_law_one d_u_law_one
  g_u_law_one : mg "_law_one" = some (.ref a_u_law_one)
  a_u_law_part_two : Addr
  d_u_law_part_two : FuncData
  F_u_law_part_two : FnP K "_law_part_two" (top 34) a_u_law_part_two d_u_law_part_two
  g_u_law_part_two : mg "_law_part_two" = some (.ref a_u_law_part_two)
  a_law : Addr
  d_law : FuncData
  F_law : FnP K "law" (top 35) a_law d_law
  g_law : mg "law" = some (.ref a_law)
  n_abs : mg "abs" = none
  n_bool : mg "bool" = none
  n_int : mg "int" = none
  n_isinstance : mg "isinstance" = none
  n_len : mg "len" = none
  n_list : mg "list" = none
  n_min : mg "min" = none
  n_range : mg "range" = none
  n_sorted : mg "sorted" = none
  n_str : mg "str" = none
  n_sum : mg "sum" = none
  n_tuple : mg "tuple" = none
  t_combinations : mg "combinations" = some (.type "itertools.combinations")
section
variable {P : Program} {w : World} {K : PySem.W.Frag} {mg : Str → Option Value} {base : Heap}
theorem sc_u_law_deal : FnScope ["script", "row", "k", "cell", "turn", "total"] ["script"] (defScope (top 10)) := ⟨rfl, rfl, rfl, by decide +kernel, rfl, by decide +kernel, by decide +kernel⟩
theorem bd_u_law_deal (E : En P w K mg) : Binds K E.d_u_law_deal ["script"] [] := E.F_u_law_deal.bindsN fun _ _ _ _ _ _ us hl => match us, hl with | [_], _ => rfl
theorem ok_u_law_deal (E : En P w K mg) : FnOk P w K mg base CX0 1 E.a_u_law_deal E.d_u_law_deal ["script"] (spFn ⟨P, w, K⟩ [] f_u_law_deal) :=
  (fnvD (io := []) E.F_u_law_deal sc_u_law_deal (by decide) (by decide) fun cdv A outer s H E1 hr => have hu := PV.hu_of hr; (psv_cons (psv_set (i := 1) sc_u_law_deal.nd rfl (by first | exact Or.inl rfl | exact Or.inr rfl) (nio rfl) (pev_lst pav_nil)) (psv_cons (psv_for PassesOwn.never rfl (piv_range1 (by rfl) E.n_range (pav_cons (qb_min2 rfl E.n_min (pav_cons (qb_len E.n_len (pav_cons (qn 0) pav_nil)) (pav_cons qi pav_nil))) pav_nil)) (pgv_name (i := 2) sc_u_law_deal.nd rfl (by first | exact Or.inl rfl | exact Or.inr rfl) (nio rfl)) (psv_cons (psv_set (i := 3) sc_u_law_deal.nd rfl (by first | exact Or.inl rfl | exact Or.inr rfl) (nio rfl) (qb_abs E.n_abs (pav_cons (qb_int E.n_int (pav_cons (pev_item (qn 0) (qn 2) fun _ _ => rfl) pav_nil)) pav_nil))) (psv_one (psv_if (qt_ge hu (qn 3) (qpow qi qi)) (psv_one (psv_for PassesOwn.never rfl (piv_range1 (by rfl) E.n_range (pav_cons qi pav_nil)) (pgv_name (i := 4) sc_u_law_deal.nd rfl (by first | exact Or.inl rfl | exact Or.inr rfl) (nio rfl)) (psv_one (psv_if (qt_gt hu (qn 3) qi) (psv_cons (psv_expr (qm_append (.inl (by rfl)) (qn 1) (pav_cons (qmod (qn 3) qi) pav_nil))) (psv_one (psv_set (i := 3) sc_u_law_deal.nd rfl (by first | exact Or.inl rfl | exact Or.inr rfl) (nio rfl) (qdiv (qn 3) qi)))) psv_nil)))) (psv_cons (psv_set (i := 3) sc_u_law_deal.nd rfl (by first | exact Or.inl rfl | exact Or.inr rfl) (nio rfl) (qadd (qadd (qmul (qmod (qn 3) qi) qi) (qmul (qn 2) qi)) qi)) (psv_one (psv_for PassesOwn.never rfl (piv_range1 (by rfl) E.n_range (pav_cons qi pav_nil)) (pgv_name (i := 4) sc_u_law_deal.nd rfl (by first | exact Or.inl rfl | exact Or.inr rfl) (nio rfl)) (psv_cons (psv_set (i := 3) sc_u_law_deal.nd rfl (by first | exact Or.inl rfl | exact Or.inr rfl) (nio rfl) (qmod (qadd (qadd (qmul (qn 3) qi) qi) (qn 4)) qi)) (psv_one (psv_expr (qm_append (.inl (by rfl)) (qn 1) (pav_cons (qmod (qdiv (qn 3) qi) qi) pav_nil)))))))))))) (psv_cons (psv_set (i := 5) sc_u_law_deal.nd rfl (by first | exact Or.inl rfl | exact Or.inr rfl) (nio rfl) (qadd (qb_sum rfl E.n_sum (pav_cons (qn 1) pav_nil)) (qb_len E.n_len (pav_cons (qn 0) pav_nil)))) (psv_one (psv_ret (pev_lstN (pnv_cons false (qn 1) (pnv_cons true (pev_lst (pav_cons qi pav_nil)) (pnv_cons false (qn 5) pnv_nil))))))))))
theorem sc_u_law_take : FnScope ["deal", "many", "at"] ["deal", "many"] (defScope (top 11)) := ⟨rfl, rfl, rfl, by decide +kernel, rfl, by decide +kernel, by decide +kernel⟩
theorem bd_u_law_take (E : En P w K mg) : Binds K E.d_u_law_take ["deal", "many"] [] := E.F_u_law_take.bindsN fun _ _ _ _ _ _ us hl => match us, hl with | [_, _], _ => rfl
theorem ok_u_law_take (E : En P w K mg) : FnOk P w K mg base CX0 1 E.a_u_law_take E.d_u_law_take ["deal", "many"] (spFn ⟨P, w, K⟩ [0] f_u_law_take) :=
  (fnvD (io := [0]) E.F_u_law_take sc_u_law_take (by decide) (by decide) fun cdv A outer s H E1 hr => have hu := PV.hu_of hr; (psv_cons (psv_set (i := 2) sc_u_law_take.nd rfl (by first | exact Or.inl rfl | exact Or.inr rfl) (nio rfl) (pev_item (pev_item (qn 0) qi fun _ _ => rfl) qi fun _ _ => rfl)) (psv_cons (psv_setItem (qadd (qn 2) qi) (pev_item (qn 0) qi fun _ _ => rfl) qi (.inl (by rfl))) (psv_cons (psv_if (qt_lt hu (qn 2) (qb_len E.n_len (pav_cons (pev_item (qn 0) qi fun _ _ => rfl) pav_nil))) (psv_one (psv_ret (qmod (pev_item (pev_item (qn 0) qi fun _ _ => rfl) (qn 2) fun _ _ => rfl) (qn 1)))) psv_nil) (psv_one (psv_ret (qmod (qdiv (qadd (qadd (qmul (qn 2) qi) (qmul (pev_item (qn 0) qi fun _ _ => rfl) qi)) (qmul (qmul (qn 2) (qn 2)) qi)) qi) (qn 1))))))))
theorem sc_u_law_table : FnScope ["deal", "rows", "k", "hours", "wear"] ["deal"] (defScope (top 14)) := ⟨rfl, rfl, rfl, by decide +kernel, rfl, by decide +kernel, by decide +kernel⟩
theorem bd_u_law_table (E : En P w K mg) : Binds K E.d_u_law_table ["deal"] [] := E.F_u_law_table.bindsN fun _ _ _ _ _ _ us hl => match us, hl with | [_], _ => rfl
theorem ok_u_law_table (E : En P w K mg) : FnOk P w K mg base CX0 2 E.a_u_law_table E.d_u_law_table ["deal"] (spFn ⟨P, w, K⟩ [0] f_u_law_table) :=
  (fnvD (io := [0]) E.F_u_law_table sc_u_law_table (by decide) (by decide) fun cdv A outer s H E1 hr => have hu := PV.hu_of hr; (psv_cons (psv_set (i := 1) sc_u_law_table.nd rfl (by first | exact Or.inl rfl | exact Or.inr rfl) (nio rfl) (pev_lst (pav_cons (pev_tup (pav_cons qi (pav_cons (qb_int E.n_int (pav_cons (qc_eq hu (pev_call1 (j := 0) (ok_u_law_take E) (hr.mono (by omega)) rfl E.g_u_law_take E.F_u_law_take.kp (bd_u_law_take E) (pav_cons (qn 0) (pav_cons qi pav_nil))) qi) pav_nil)) pav_nil))) pav_nil))) (psv_cons (psv_for PassesOwn.never rfl (piv_range1 (by rfl) E.n_range (pav_cons (pev_call1 (j := 0) (ok_u_law_take E) (hr.mono (by omega)) rfl E.g_u_law_take E.F_u_law_take.kp (bd_u_law_take E) (pav_cons (qn 0) (pav_cons qi pav_nil))) pav_nil)) (pgv_name (i := 2) sc_u_law_table.nd rfl (by first | exact Or.inl rfl | exact Or.inr rfl) (nio rfl)) (psv_cons (psv_asg (pev_item (qn 1) (qneg qi) fun _ _ => rfl) (pgv_tup rfl (pgsv_cons (pgv_name (i := 3) sc_u_law_table.nd rfl (by first | exact Or.inl rfl | exact Or.inr rfl) (nio rfl)) (pgsv_cons (pgv_name (i := 4) sc_u_law_table.nd rfl (by first | exact Or.inl rfl | exact Or.inr rfl) (nio rfl)) pgsv_nil)))) (psv_one (psv_expr (qm_append (.inr ⟨_, rfl⟩) (qn 1) (pav_cons (pev_tup (pav_cons (qadd (qadd (qn 3) qi) (pev_call1 (j := 0) (ok_u_law_take E) (hr.mono (by omega)) rfl E.g_u_law_take E.F_u_law_take.kp (bd_u_law_take E) (pav_cons (qn 0) (pav_cons qi pav_nil)))) (pav_cons (qadd (qn 4) (pev_call1 (j := 0) (ok_u_law_take E) (hr.mono (by omega)) rfl E.g_u_law_take E.F_u_law_take.kp (bd_u_law_take E) (pav_cons (qn 0) (pav_cons qi pav_nil)))) pav_nil))) pav_nil)))))) (psv_one (psv_ret (qb_tuple E.n_tuple (pav_cons (qn 1) pav_nil)))))))
theorem sc_u_law_kinds : FnScope ["deal", "many", "most", "kinds", "k", "spare", "days"] ["deal", "many", "most"] (defScope (top 15)) := ⟨rfl, rfl, rfl, by decide +kernel, rfl, by decide +kernel, by decide +kernel⟩
theorem bd_u_law_kinds (E : En P w K mg) : Binds K E.d_u_law_kinds ["deal", "many", "most"] [] := E.F_u_law_kinds.bindsN fun _ _ _ _ _ _ us hl => match us, hl with | [_, _, _], _ => rfl
theorem ok_u_law_kinds (E : En P w K mg) : FnOk P w K mg base CX0 3 E.a_u_law_kinds E.d_u_law_kinds ["deal", "many", "most"] (spFn ⟨P, w, K⟩ [0] f_u_law_kinds) :=
  (fnvD (io := [0]) E.F_u_law_kinds sc_u_law_kinds (by decide) (by decide) fun cdv A outer s H E1 hr => have hu := PV.hu_of hr; (psv_cons (psv_set (i := 3) sc_u_law_kinds.nd rfl (by first | exact Or.inl rfl | exact Or.inr rfl) (nio rfl) (pev_lst pav_nil)) (psv_cons (psv_for PassesOwn.never rfl (piv_range1 (by rfl) E.n_range (pav_cons (qn 1) pav_nil)) (pgv_name (i := 4) sc_u_law_kinds.nd rfl (by first | exact Or.inl rfl | exact Or.inr rfl) (nio rfl)) (psv_cons (psv_set (i := 5) sc_u_law_kinds.nd rfl (by first | exact Or.inl rfl | exact Or.inr rfl) (nio rfl) (qc_gt hu (pev_call1 (j := 0) (ok_u_law_take E) (hr.mono (by omega)) rfl E.g_u_law_take E.F_u_law_take.kp (bd_u_law_take E) (pav_cons (qn 0) (pav_cons qi pav_nil))) qi)) (psv_cons (psv_set (i := 6) sc_u_law_kinds.nd rfl (by first | exact Or.inl rfl | exact Or.inr rfl) (nio rfl) (pev_if (ptv_val (qn 5)) (pev_call1 (j := 0) (ok_u_law_take E) (hr.mono (by omega)) rfl E.g_u_law_take E.F_u_law_take.kp (bd_u_law_take E) (pav_cons (qn 0) (pav_cons qi pav_nil))) qi)) (psv_one (psv_expr (qm_append (.inr ⟨_, rfl⟩) (qn 3) (pav_cons (pev_tup (pav_cons (qadd (pev_itemH qs (pev_call1 (j := 0) (ok_u_law_take E) (hr.mono (by omega)) rfl E.g_u_law_take E.F_u_law_take.kp (bd_u_law_take E) (pav_cons (qn 0) (pav_cons qi pav_nil))) fun _ _ => rfl) (qb_str E.n_str (pav_cons (qn 4) pav_nil))) (pav_cons (qadd qi (pev_call1 (j := 0) (ok_u_law_take E) (hr.mono (by omega)) rfl E.g_u_law_take E.F_u_law_take.kp (bd_u_law_take E) (pav_cons (qn 0) (pav_cons (qn 2) pav_nil)))) (pav_cons (pev_call1 (j := 0) (ok_u_law_table E) (hr.mono (by omega)) rfl E.g_u_law_table E.F_u_law_table.kp (bd_u_law_table E) (pav_cons (qn 0) pav_nil)) (pav_cons (qn 5) (pav_cons (qn 6) pav_nil)))))) pav_nil))))))) (psv_one (psv_ret (qb_tuple E.n_tuple (pav_cons (qn 3) pav_nil)))))))
theorem sc_u_law_some : FnScope ["deal", "many", "chance", "k"] ["deal", "many", "chance"] (defScope (top 16)) := ⟨rfl, rfl, rfl, by decide +kernel, rfl, by decide +kernel, by decide +kernel⟩
theorem bd_u_law_some (E : En P w K mg) : Binds K E.d_u_law_some ["deal", "many", "chance"] [] := E.F_u_law_some.bindsN fun _ _ _ _ _ _ us hl => match us, hl with | [_, _, _], _ => rfl
theorem ok_u_law_some (E : En P w K mg) : FnOk P w K mg base CX0 2 E.a_u_law_some E.d_u_law_some ["deal", "many", "chance"] (spFn ⟨P, w, K⟩ [0] f_u_law_some) :=
  (fnvD (io := [0]) E.F_u_law_some sc_u_law_some (by decide) (by decide) fun cdv A outer s H E1 hr => have hu := PV.hu_of hr; (psv_one (psv_ret (pev_lc rfl sc_u_law_some.nd (piv_range1 (by rfl) E.n_range (pav_cons (qn 1) pav_nil)) (blkOk_by (own := [("k", 3)]) (by kernel_rfl)) (fun _ _ _ _ _ => (pgv_name (i := 3) sc_u_law_some.nd rfl (by first | exact Or.inl rfl | exact Or.inr rfl) (fun h => h (by decide)))) (fun _ _ _ _ _ => (ptsv_one (qt_eq hu (pev_call1 (j := 0) (ok_u_law_take E) (hr.mono (by omega)) rfl E.g_u_law_take E.F_u_law_take.kp (bd_u_law_take E) (pav_cons (qn 0) (pav_cons (qn 2) pav_nil))) qi))) (fun _ _ _ _ _ => (qn 3))))))
theorem sc_u_law_works : FnScope ["deal", "many", "most", "kinds", "slots", "k", "kind", "people", "skills", "events", "hours", "slot"] ["deal"] (defScope (top 17)) := ⟨rfl, rfl, rfl, by decide +kernel, rfl, by decide +kernel, by decide +kernel⟩
theorem bd_u_law_works (E : En P w K mg) : Binds K E.d_u_law_works ["deal"] [] := E.F_u_law_works.bindsN fun _ _ _ _ _ _ us hl => match us, hl with | [_], _ => rfl
theorem ok_u_law_works (E : En P w K mg) : FnOk P w K mg base CX0 4 E.a_u_law_works E.d_u_law_works ["deal"] (spFn ⟨P, w, K⟩ [0] f_u_law_works) :=
  (fnvD (io := [0]) E.F_u_law_works sc_u_law_works (by decide) (by decide) fun cdv A outer s H E1 hr => have hu := PV.hu_of hr; (psv_cons (psv_set (i := 1) sc_u_law_works.nd rfl (by first | exact Or.inl rfl | exact Or.inr rfl) (nio rfl) (qadd qi (pev_call1 (j := 0) (ok_u_law_take E) (hr.mono (by omega)) rfl E.g_u_law_take E.F_u_law_take.kp (bd_u_law_take E) (pav_cons (qn 0) (pav_cons qi pav_nil))))) (psv_cons (psv_set (i := 2) sc_u_law_works.nd rfl (by first | exact Or.inl rfl | exact Or.inr rfl) (nio rfl) qi) (psv_cons (psv_if (qt_eq hu (pev_call1 (j := 0) (ok_u_law_take E) (hr.mono (by omega)) rfl E.g_u_law_take E.F_u_law_take.kp (bd_u_law_take E) (pav_cons (qn 0) (pav_cons qi pav_nil))) qi) (psv_cons (psv_set (i := 1) sc_u_law_works.nd rfl (by first | exact Or.inl rfl | exact Or.inr rfl) (nio rfl) qi) (psv_one (psv_set (i := 2) sc_u_law_works.nd rfl (by first | exact Or.inl rfl | exact Or.inr rfl) (nio rfl) qi))) psv_nil) (psv_cons (psv_set (i := 3) sc_u_law_works.nd rfl (by first | exact Or.inl rfl | exact Or.inr rfl) (nio rfl) (pev_call1 (j := 0) (ok_u_law_kinds E) (hr.mono (by omega)) rfl E.g_u_law_kinds E.F_u_law_kinds.kp (bd_u_law_kinds E) (pav_cons (qn 0) (pav_cons (qadd qi (pev_call1 (j := 0) (ok_u_law_take E) (hr.mono (by omega)) rfl E.g_u_law_take E.F_u_law_take.kp (bd_u_law_take E) (pav_cons (qn 0) (pav_cons qi pav_nil)))) (pav_cons (qn 2) pav_nil))))) (psv_cons (psv_set (i := 4) sc_u_law_works.nd rfl (by first | exact Or.inl rfl | exact Or.inr rfl) (nio rfl) (pev_lst pav_nil)) (psv_cons (psv_for PassesOwn.never rfl (piv_range1 (by rfl) E.n_range (pav_cons (qn 1) pav_nil)) (pgv_name (i := 5) sc_u_law_works.nd rfl (by first | exact Or.inl rfl | exact Or.inr rfl) (nio rfl)) (psv_cons (psv_set (i := 6) sc_u_law_works.nd rfl (by first | exact Or.inl rfl | exact Or.inr rfl) (nio rfl) (pev_item (pev_itemH (qn 3) (pev_call1 (j := 0) (ok_u_law_take E) (hr.mono (by omega)) rfl E.g_u_law_take E.F_u_law_take.kp (bd_u_law_take E) (pav_cons (qn 0) (pav_cons (qb_len E.n_len (pav_cons (qn 3) pav_nil)) pav_nil))) fun _ _ => rfl) qi fun _ _ => rfl)) (psv_one (psv_expr (qm_append (.inr ⟨_, rfl⟩) (qn 4) (pav_cons (pev_tup (pav_cons (qadd (pev_itemH qs (pev_call1 (j := 0) (ok_u_law_take E) (hr.mono (by omega)) rfl E.g_u_law_take E.F_u_law_take.kp (bd_u_law_take E) (pav_cons (qn 0) (pav_cons qi pav_nil))) fun _ _ => rfl) (qb_str E.n_str (pav_cons (qn 5) pav_nil))) (pav_cons (qn 6) (pav_cons (pev_call1 (j := 0) (ok_u_law_take E) (hr.mono (by omega)) rfl E.g_u_law_take E.F_u_law_take.kp (bd_u_law_take E) (pav_cons (qn 0) (pav_cons qi pav_nil))) pav_nil)))) pav_nil)))))) (psv_cons (psv_set (i := 7) sc_u_law_works.nd rfl (by first | exact Or.inl rfl | exact Or.inr rfl) (nio rfl) (pev_lst pav_nil)) (psv_cons (psv_for PassesOwn.never rfl (piv_range1 (by rfl) E.n_range (pav_cons (pev_call1 (j := 0) (ok_u_law_take E) (hr.mono (by omega)) rfl E.g_u_law_take E.F_u_law_take.kp (bd_u_law_take E) (pav_cons (qn 0) (pav_cons qi pav_nil))) pav_nil)) (pgv_name (i := 5) sc_u_law_works.nd rfl (by first | exact Or.inl rfl | exact Or.inr rfl) (nio rfl)) (psv_cons (psv_setLc (i := 8) rfl sc_u_law_works.nd rfl rfl (nio rfl) rfl (by exact (piv_seq (pev_call1 (j := 0) (ok_u_law_some E) (hr.mono (by omega)) rfl E.g_u_law_some E.F_u_law_some.kp (bd_u_law_some E) (pav_cons (qn 0) (pav_cons (qn 1) (pav_cons qi pav_nil)))))) (blkOk_by (own := [("slot", 11)]) (by kernel_rfl)) (fun _ _ _ _ _ => (pgv_name (i := 11) sc_u_law_works.nd rfl (by first | exact Or.inl rfl | exact Or.inr rfl) (fun h => h (by decide)))) (fun _ _ _ _ _ => ptsv_nil) (fun _ _ _ _ _ => (pev_item (pev_item (qn 4) (qn 11) fun _ _ => rfl) qi fun _ _ => rfl))) (psv_one (psv_expr (qm_append (.inr ⟨_, rfl⟩) (qn 7) (pav_cons (pev_tup (pav_cons (qadd qs (qb_str E.n_str (pav_cons (qn 5) pav_nil))) (pav_cons (qb_tuple E.n_tuple (pav_cons (pev_if (qt_eq hu (pev_call1 (j := 0) (ok_u_law_take E) (hr.mono (by omega)) rfl E.g_u_law_take E.F_u_law_take.kp (bd_u_law_take E) (pav_cons (qn 0) (pav_cons qi pav_nil))) qi) (pev_rev2 (qn 8) (qneg qi) fun _ => rfl) (qn 8)) pav_nil)) pav_nil))) pav_nil)))))) (psv_cons (psv_set (i := 9) sc_u_law_works.nd rfl (by first | exact Or.inl rfl | exact Or.inr rfl) (nio rfl) (pev_lst pav_nil)) (psv_cons (psv_for PassesOwn.never rfl (piv_range1 (by rfl) E.n_range (pav_cons (qadd qi (pev_call1 (j := 0) (ok_u_law_take E) (hr.mono (by omega)) rfl E.g_u_law_take E.F_u_law_take.kp (bd_u_law_take E) (pav_cons (qn 0) (pav_cons qi pav_nil)))) pav_nil)) (pgv_name (i := 5) sc_u_law_works.nd rfl (by first | exact Or.inl rfl | exact Or.inr rfl) (nio rfl)) (psv_cons (psv_setLc (i := 10) rfl sc_u_law_works.nd rfl rfl (nio rfl) rfl (piv_range1 (by rfl) E.n_range (pav_cons (qn 1) pav_nil)) (blkOk_by (own := [("slot", 11)]) (by kernel_rfl)) (fun _ _ _ _ _ => (pgv_name (i := 11) sc_u_law_works.nd rfl (by first | exact Or.inl rfl | exact Or.inr rfl) (fun h => h (by decide)))) (fun _ _ _ _ _ => ptsv_nil) (fun _ _ _ _ _ => (pev_itemH (pev_lst (pav_cons qi (pav_cons qi (pav_cons qi (pav_cons qi (pav_cons qi (pav_cons qi pav_nil))))))) (pev_call1 (j := 0) (ok_u_law_take E) (hr.mono (by omega)) rfl E.g_u_law_take E.F_u_law_take.kp (bd_u_law_take E) (pav_cons (qn 0) (pav_cons qi pav_nil))) fun _ _ => rfl))) (psv_one (psv_expr (qm_append (.inr ⟨_, rfl⟩) (qn 9) (pav_cons (pev_tup (pav_cons (qadd qs (qb_str E.n_str (pav_cons (qn 5) pav_nil))) (pav_cons (qb_tuple E.n_tuple (pav_cons (qn 10) pav_nil)) (pav_cons (qb_tuple E.n_tuple (pav_cons (pev_call1 (j := 0) (ok_u_law_some E) (hr.mono (by omega)) rfl E.g_u_law_some E.F_u_law_some.kp (bd_u_law_some E) (pav_cons (qn 0) (pav_cons (qn 1) (pav_cons qi pav_nil)))) pav_nil)) pav_nil)))) pav_nil)))))) (psv_one (psv_ret (pev_tup (pav_cons (qn 3) (pav_cons (qb_tuple E.n_tuple (pav_cons (qn 4) pav_nil)) (pav_cons (qb_tuple E.n_tuple (pav_cons (qn 7) pav_nil)) (pav_cons (qb_tuple E.n_tuple (pav_cons (qn 9) pav_nil)) (pav_cons (pev_call1 (j := 0) (ok_u_law_take E) (hr.mono (by omega)) rfl E.g_u_law_take E.F_u_law_take.kp (bd_u_law_take E) (pav_cons (qn 0) (pav_cons qi pav_nil))) pav_nil)))))))))))))))))))
theorem sc_u_law_crew_world : FnScope ["deal", "works", "slots", "k", "events", "people", "one", "slot"] ["deal"] (defScope (top 20)) := ⟨rfl, rfl, rfl, by decide +kernel, rfl, by decide +kernel, by decide +kernel⟩
theorem bd_u_law_crew_world (E : En P w K mg) : Binds K E.d_u_law_crew_world ["deal"] [] := E.F_u_law_crew_world.bindsN fun _ _ _ _ _ _ us hl => match us, hl with | [_], _ => rfl
theorem ok_u_law_crew_world (E : En P w K mg) : FnOk P w K mg base CX0 5 E.a_u_law_crew_world E.d_u_law_crew_world ["deal"] (spFn ⟨P, w, K⟩ [0] f_u_law_crew_world) :=
  (fnvD (io := [0]) E.F_u_law_crew_world sc_u_law_crew_world (by decide) (by decide) fun cdv A outer s H E1 hr => have hu := PV.hu_of hr; (psv_cons (psv_set (i := 1) sc_u_law_crew_world.nd rfl (by first | exact Or.inl rfl | exact Or.inr rfl) (nio rfl) (pev_call1 (j := 0) (ok_u_law_works E) (hr.mono (by omega)) rfl E.g_u_law_works E.F_u_law_works.kp (bd_u_law_works E) (pav_cons (qn 0) pav_nil))) (psv_cons (psv_set (i := 2) sc_u_law_crew_world.nd rfl (by first | exact Or.inl rfl | exact Or.inr rfl) (nio rfl) (pev_item (qn 1) qi fun _ _ => rfl)) (psv_cons (psv_for PassesOwn.never rfl (piv_range1 (by rfl) E.n_range (pav_cons (pev_call1 (j := 0) (ok_u_law_take E) (hr.mono (by omega)) rfl E.g_u_law_take E.F_u_law_take.kp (bd_u_law_take E) (pav_cons (qn 0) (pav_cons qi pav_nil))) pav_nil)) (pgv_name (i := 3) sc_u_law_crew_world.nd rfl (by first | exact Or.inl rfl | exact Or.inr rfl) (nio rfl)) (psv_one (psv_if (qt_lt hu (qb_len E.n_len (pav_cons (qn 2) pav_nil)) qi) (psv_one (psv_set (i := 2) sc_u_law_crew_world.nd rfl (by first | exact Or.inl rfl | exact Or.inr rfl) (nio rfl) (qadd (qn 2) (pev_tup (pav_cons (pev_tup (pav_cons (qadd qs (qb_str E.n_str (pav_cons (qn 3) pav_nil))) (pav_cons (pev_item (pev_item (qn 2) qi fun _ _ => rfl) qi fun _ _ => rfl) (pav_cons qi pav_nil)))) pav_nil))))) psv_nil))) (psv_cons (psv_set (i := 4) sc_u_law_crew_world.nd rfl (by first | exact Or.inl rfl | exact Or.inr rfl) (nio rfl) (qb_tuple E.n_tuple (pav_cons (pev_lc rfl sc_u_law_crew_world.nd (piv_seq (pev_item (qn 1) qi fun _ _ => rfl)) (blkOk_by (own := [("one", 6)]) (by kernel_rfl)) (fun _ _ _ _ _ => (pgv_name (i := 6) sc_u_law_crew_world.nd rfl (by first | exact Or.inl rfl | exact Or.inr rfl) (fun h => h (by decide)))) (fun _ _ _ _ _ => ptsv_nil) (fun _ _ _ _ _ => (pev_tup (pav_cons (pev_item (qn 6) qi fun _ _ => rfl) (pav_cons (pev_slice (qadd (pev_item (qn 6) qi fun _ _ => rfl) (pev_tup (pav_cons qi (pav_cons qi (pav_cons qi (pav_cons qi (pav_cons qi pav_nil))))))) pov_none (pov_some (qb_len E.n_len (pav_cons (qn 2) pav_nil)))) (pav_cons (pev_item (qn 6) qi fun _ _ => rfl) pav_nil)))))) pav_nil))) (psv_cons (psv_set (i := 5) sc_u_law_crew_world.nd rfl (by first | exact Or.inl rfl | exact Or.inr rfl) (nio rfl) (pev_lst pav_nil)) (psv_cons (psv_for PassesOwn.never rfl (piv_range1 (by rfl) E.n_range (pav_cons (pev_call1 (j := 0) (ok_u_law_take E) (hr.mono (by omega)) rfl E.g_u_law_take E.F_u_law_take.kp (bd_u_law_take E) (pav_cons (qn 0) (pav_cons qi pav_nil))) pav_nil)) (pgv_name (i := 3) sc_u_law_crew_world.nd rfl (by first | exact Or.inl rfl | exact Or.inr rfl) (nio rfl)) (psv_one (psv_expr (qm_append (.inr ⟨_, rfl⟩) (qn 5) (pav_cons (pev_tup (pav_cons (qadd qs (qb_str E.n_str (pav_cons (qn 3) pav_nil))) (pav_cons (qb_tuple E.n_tuple (pav_cons (pev_lc rfl sc_u_law_crew_world.nd (by exact (piv_seq (pev_call1 (j := 0) (ok_u_law_some E) (hr.mono (by omega)) rfl E.g_u_law_some E.F_u_law_some.kp (bd_u_law_some E) (pav_cons (qn 0) (pav_cons (qb_len E.n_len (pav_cons (qn 2) pav_nil)) (pav_cons qi pav_nil)))))) (blkOk_by (own := [("slot", 7)]) (by kernel_rfl)) (fun _ _ _ _ _ => (pgv_name (i := 7) sc_u_law_crew_world.nd rfl (by first | exact Or.inl rfl | exact Or.inr rfl) (fun h => h (by decide)))) (fun _ _ _ _ _ => ptsv_nil) (fun _ _ _ _ _ => (pev_item (pev_item (qn 2) (qn 7) fun _ _ => rfl) qi fun _ _ => rfl))) pav_nil)) pav_nil))) pav_nil))))) (psv_one (psv_ret (pev_tup (pav_cons (pev_item (qn 1) qi fun _ _ => rfl) (pav_cons (qn 2) (pav_cons (qb_tuple E.n_tuple (pav_cons (qn 5) pav_nil)) (pav_cons (qn 4) (pav_cons (pev_item (qn 1) qi fun _ _ => rfl) pav_nil)))))))))))))))
theorem sc_u_law_subsets : FnScope ["many", "found", "size", "one", "slot"] ["many"] (defScope (top 23)) := ⟨rfl, rfl, rfl, by decide +kernel, rfl, by decide +kernel, by decide +kernel⟩
theorem bd_u_law_subsets (E : En P w K mg) : Binds K E.d_u_law_subsets ["many"] [] := E.F_u_law_subsets.bindsN fun _ _ _ _ _ _ us hl => match us, hl with | [_], _ => rfl
theorem ok_u_law_subsets (E : En P w K mg) : FnOk P w K mg base CX0 1 E.a_u_law_subsets E.d_u_law_subsets ["many"] (spFn ⟨P, w, K⟩ [] f_u_law_subsets) :=
  (fnvD (io := []) E.F_u_law_subsets sc_u_law_subsets (by decide) (by decide) fun cdv A outer s H E1 hr => have hu := PV.hu_of hr; (psv_cons (psv_set (i := 1) sc_u_law_subsets.nd rfl (by first | exact Or.inl rfl | exact Or.inr rfl) (nio rfl) (pev_lst (pav_cons (pev_tup pav_nil) pav_nil))) (psv_cons (psv_for PassesOwn.never rfl (piv_range2 (by rfl) E.n_range (pav_cons qi (pav_cons (qadd (qn 0) qi) pav_nil))) (pgv_name (i := 2) sc_u_law_subsets.nd rfl (by first | exact Or.inl rfl | exact Or.inr rfl) (nio rfl)) (psv_one (psv_for PassesOwn.never rfl (piv_seq (qb_list E.n_list (pav_cons (qn 1) pav_nil))) (pgv_name (i := 3) sc_u_law_subsets.nd rfl (by first | exact Or.inl rfl | exact Or.inr rfl) (nio rfl)) (psv_one (psv_if (qt_eq hu (qb_len E.n_len (pav_cons (qn 3) pav_nil)) (qsub (qn 2) qi)) (psv_one (psv_for PassesOwn.never rfl (piv_range2 (by rfl) E.n_range (pav_cons (pev_if (qt_gt hu (qb_len E.n_len (pav_cons (qn 3) pav_nil)) qi) (qadd (pev_item (qn 3) (qneg qi) fun _ _ => rfl) qi) qi) (pav_cons (qn 0) pav_nil))) (pgv_name (i := 4) sc_u_law_subsets.nd rfl (by first | exact Or.inl rfl | exact Or.inr rfl) (nio rfl)) (psv_one (psv_expr (qm_append (.inl (by rfl)) (qn 1) (pav_cons (qadd (qn 3) (pev_tup (pav_cons (qn 4) pav_nil))) pav_nil)))))) psv_nil))))) (psv_one (psv_ret (qn 1))))))
theorem sc_u_law_bool : FnScope ["answer", "due"] ["answer", "due"] (defScope (top 13)) := ⟨rfl, rfl, rfl, by decide +kernel, rfl, by decide +kernel, by decide +kernel⟩
theorem bd_u_law_bool (E : En P w K mg) : Binds K E.d_u_law_bool ["answer", "due"] [] := E.F_u_law_bool.bindsN fun _ _ _ _ _ _ us hl => match us, hl with | [_, _], _ => rfl
theorem ok_u_law_bool (E : En P w K mg) : FnOk P w K mg base CX0 1 E.a_u_law_bool E.d_u_law_bool ["answer", "due"] (spFn ⟨P, w, K⟩ [] f_u_law_bool) :=
  (fnvD (io := []) E.F_u_law_bool sc_u_law_bool (by decide) (by decide) fun cdv A outer s H E1 hr => have hu := PV.hu_of hr; (psv_one (psv_ret (pev_and (qisi_bool E.n_isinstance E.n_bool (qn 0)) (pev_one (qc_eq hu (qn 0) (qn 1)))))))
theorem sc_u_law_skilled : FnScope ["works", "person", "slot"] ["works", "person", "slot"] (defScope (top 21)) := ⟨rfl, rfl, rfl, by decide +kernel, rfl, by decide +kernel, by decide +kernel⟩
theorem bd_u_law_skilled (E : En P w K mg) : Binds K E.d_u_law_skilled ["works", "person", "slot"] [] := E.F_u_law_skilled.bindsN fun _ _ _ _ _ _ us hl => match us, hl with | [_, _, _], _ => rfl
theorem ok_u_law_skilled (E : En P w K mg) : FnOk P w K mg base CX0 1 E.a_u_law_skilled E.d_u_law_skilled ["works", "person", "slot"] (spFn ⟨P, w, K⟩ [] f_u_law_skilled) :=
  (fnvD (io := []) E.F_u_law_skilled sc_u_law_skilled (by decide) (by decide) fun cdv A outer s H E1 hr => have hu := PV.hu_of hr; (psv_one (psv_ret (qc_in hu (pev_item (pev_item (pev_item (qn 0) qi fun _ _ => rfl) (qn 2) fun _ _ => rfl) qi fun _ _ => rfl) (pev_item (pev_item (pev_item (qn 0) qi fun _ _ => rfl) (qn 1) fun _ _ => rfl) qi fun _ _ => rfl)))))
theorem sc_u_law_assignments : FnScope ["works", "choice", "found", "slot", "longer", "people", "person"] ["works", "choice"] (defScope (top 22)) := ⟨rfl, rfl, rfl, by decide +kernel, rfl, by decide +kernel, by decide +kernel⟩
theorem bd_u_law_assignments (E : En P w K mg) : Binds K E.d_u_law_assignments ["works", "choice"] [] := E.F_u_law_assignments.bindsN fun _ _ _ _ _ _ us hl => match us, hl with | [_, _], _ => rfl
theorem ok_u_law_assignments (E : En P w K mg) : FnOk P w K mg base CX0 2 E.a_u_law_assignments E.d_u_law_assignments ["works", "choice"] (spFn ⟨P, w, K⟩ [] f_u_law_assignments) :=
  (fnvD (io := []) E.F_u_law_assignments sc_u_law_assignments (by decide) (by decide) fun cdv A outer s H E1 hr => have hu := PV.hu_of hr; (psv_cons (psv_set (i := 2) sc_u_law_assignments.nd rfl (by first | exact Or.inl rfl | exact Or.inr rfl) (nio rfl) (pev_lst (pav_cons (pev_tup pav_nil) pav_nil))) (psv_cons (psv_for PassesOwn.never rfl (piv_seq (qn 1)) (pgv_name (i := 3) sc_u_law_assignments.nd rfl (by first | exact Or.inl rfl | exact Or.inr rfl) (nio rfl)) (psv_cons (psv_set (i := 4) sc_u_law_assignments.nd rfl (by first | exact Or.inl rfl | exact Or.inr rfl) (nio rfl) (pev_lst pav_nil)) (psv_cons (psv_for PassesOwn.never rfl (piv_seq (qn 2)) (pgv_name (i := 5) sc_u_law_assignments.nd rfl (by first | exact Or.inl rfl | exact Or.inr rfl) (nio rfl)) (psv_one (psv_for PassesOwn.never rfl (piv_range1 (by rfl) E.n_range (pav_cons (qb_len E.n_len (pav_cons (pev_item (qn 0) qi fun _ _ => rfl) pav_nil)) pav_nil)) (pgv_name (i := 6) sc_u_law_assignments.nd rfl (by first | exact Or.inl rfl | exact Or.inr rfl) (nio rfl)) (psv_one (psv_if (ptv_of (pwv_and (qt_nin hu (qn 6) (qn 5)) (pwv_and1 (ptv_val (pev_call0 (ok_u_law_skilled E) (hr.mono (by omega)) rfl E.g_u_law_skilled E.F_u_law_skilled.kp (bd_u_law_skilled E) (pav_cons (qn 0) (pav_cons (qn 6) (pav_cons (qn 3) pav_nil)))))))) (psv_one (psv_expr (qm_append (.inl (by rfl)) (qn 4) (pav_cons (qadd (qn 5) (pev_tup (pav_cons (qn 6) pav_nil))) pav_nil)))) psv_nil))))) (psv_one (psv_set (i := 2) sc_u_law_assignments.nd rfl (by first | exact Or.inl rfl | exact Or.inr rfl) (nio rfl) (qn 4)))))) (psv_one (psv_ret (qn 2))))))
theorem sc_has_skill : FnScope ["works", "person", "slot"] ["works", "person", "slot"] (defScope (top 2)) := ⟨rfl, rfl, rfl, by decide +kernel, rfl, by decide +kernel, by decide +kernel⟩
theorem bd_has_skill (E : En P w K mg) : Binds K E.d_has_skill ["works", "person", "slot"] [] := E.F_has_skill.bindsN fun _ _ _ _ _ _ us hl => match us, hl with | [_, _, _], _ => rfl
theorem ok_has_skill (E : En P w K mg) : FnOk P w K mg base CX0 1 E.a_has_skill E.d_has_skill ["works", "person", "slot"] (spFn ⟨P, w, K⟩ [] f_has_skill) :=
  (fnvD (io := []) E.F_has_skill sc_has_skill (by decide) (by decide) fun cdv A outer s H E1 hr => have hu := PV.hu_of hr; (psv_one (psv_ret (qc_in hu (pev_item (pev_item (pev_item (qn 0) qi fun _ _ => rfl) (qn 2) fun _ _ => rfl) qi fun _ _ => rfl) (pev_item (pev_item (pev_item (qn 0) qi fun _ _ => rfl) (qn 1) fun _ _ => rfl) qi fun _ _ => rfl)))))
theorem sc_is_assignment : FnScope ["works", "choice", "people", "k"] ["works", "choice", "people"] (defScope (top 3)) := ⟨rfl, rfl, rfl, by decide +kernel, rfl, by decide +kernel, by decide +kernel⟩
theorem bd_is_assignment (E : En P w K mg) : Binds K E.d_is_assignment ["works", "choice", "people"] [] := E.F_is_assignment.bindsN fun _ _ _ _ _ _ us hl => match us, hl with | [_, _, _], _ => rfl
theorem ok_is_assignment (E : En P w K mg) : FnOk P w K mg base CX0 2 E.a_is_assignment E.d_is_assignment ["works", "choice", "people"] (spFn ⟨P, w, K⟩ [] f_is_assignment) :=
  (fnvD (io := []) E.F_is_assignment sc_is_assignment (by decide) (by decide) fun cdv A outer s H E1 hr => have hu := PV.hu_of hr; (psv_cons (psv_if (qt_ne hu (qb_len E.n_len (pav_cons (qn 2) pav_nil)) (qb_len E.n_len (pav_cons (qn 1) pav_nil))) (psv_one (psv_ret qbl)) psv_nil) (psv_cons (psv_for PassesOwn.never rfl (piv_range1 (by rfl) E.n_range (pav_cons (qb_len E.n_len (pav_cons (qn 1) pav_nil)) pav_nil)) (pgv_name (i := 3) sc_is_assignment.nd rfl (by first | exact Or.inl rfl | exact Or.inr rfl) (nio rfl)) (psv_cons (psv_if (ptv_of (pwv_or (ptv_not (qt_le_lt hu qi (pev_item (qn 2) (qn 3) fun _ _ => rfl) (qb_len E.n_len (pav_cons (pev_item (qn 0) qi fun _ _ => rfl) pav_nil)))) (pwv_or1 (qt_in hu (pev_item (qn 2) (qn 3) fun _ _ => rfl) (pev_slice (qn 2) pov_none (pov_some (qn 3))))))) (psv_one (psv_ret qbl)) psv_nil) (psv_one (psv_if (ptv_not (ptv_val (pev_call0 (ok_has_skill E) (hr.mono (by omega)) rfl E.g_has_skill E.F_has_skill.kp (bd_has_skill E) (pav_cons (qn 0) (pav_cons (pev_item (qn 2) (qn 3) fun _ _ => rfl) (pav_cons (pev_item (qn 1) (qn 3) fun _ _ => rfl) pav_nil)))))) (psv_one (psv_ret qbl)) psv_nil)))) (psv_one (psv_ret qbl)))))
theorem sc_u_law_same : FnScope ["a", "b", "k"] ["a", "b"] (defScope (top 12)) := ⟨rfl, rfl, rfl, by decide +kernel, rfl, by decide +kernel, by decide +kernel⟩
theorem bd_u_law_same (E : En P w K mg) : Binds K E.d_u_law_same ["a", "b"] [] := E.F_u_law_same.bindsN fun _ _ _ _ _ _ us hl => match us, hl with | [_, _], _ => rfl
theorem ok_u_law_same (E : En P w K mg) : ∀ m : Nat, FnOk P w K mg base CX0 (m + 0) E.a_u_law_same E.d_u_law_same ["a", "b"] (spFn ⟨P, w, K⟩ [] (f_u_law_same m))
  | 0 => fnv_none
  | m + 1 => have ih := ok_u_law_same E m; (fnvD (io := []) E.F_u_law_same sc_u_law_same (by decide) (by decide) fun cdv A outer s H E1 hr => have hu := PV.hu_of hr; (psv_cons (psv_if (ptv_of (pwv_or (ptv_val (qisi_tuple E.n_isinstance E.n_tuple (qn 1))) (pwv_or1 (ptv_val (qisi_list E.n_isinstance E.n_list (qn 1)))))) (psv_cons (psv_if (ptv_of (pwv_or (ptv_of (pwv_and (ptv_val (qisi_tuple E.n_isinstance E.n_tuple (qn 1))) (pwv_and1 (ptv_not (ptv_val (qisi_tuple E.n_isinstance E.n_tuple (qn 0))))))) (pwv_or1 (ptv_of (pwv_and (ptv_val (qisi_list E.n_isinstance E.n_list (qn 1))) (pwv_and1 (ptv_not (ptv_val (qisi_list E.n_isinstance E.n_list (qn 0)))))))))) (psv_one (psv_ret qbl)) psv_nil) (psv_cons (psv_if (qt_ne hu (qb_len E.n_len (pav_cons (qn 0) pav_nil)) (qb_len E.n_len (pav_cons (qn 1) pav_nil))) (psv_one (psv_ret qbl)) psv_nil) (psv_cons (psv_for PassesOwn.never rfl (piv_range1 (by rfl) E.n_range (pav_cons (qb_len E.n_len (pav_cons (qn 1) pav_nil)) pav_nil)) (pgv_name (i := 2) sc_u_law_same.nd rfl (by first | exact Or.inl rfl | exact Or.inr rfl) (nio rfl)) (psv_one (psv_if (ptv_not (ptv_val (pev_call0 (ih) hr rfl E.g_u_law_same E.F_u_law_same.kp (bd_u_law_same E) (pav_cons (pev_item (qn 0) (qn 2) fun _ _ => rfl) (pav_cons (pev_item (qn 1) (qn 2) fun _ _ => rfl) pav_nil))))) (psv_one (psv_ret qbl)) psv_nil))) (psv_one (psv_ret qbl))))) psv_nil) (psv_cons (psv_if (ptv_of (pwv_or (ptv_val (qisi_bool E.n_isinstance E.n_bool (qn 0))) (pwv_or1 (ptv_val (qisi_bool E.n_isinstance E.n_bool (qn 1)))))) (psv_one (psv_ret (pev_and (qisi_bool E.n_isinstance E.n_bool (qn 0)) (pev_and (qisi_bool E.n_isinstance E.n_bool (qn 1)) (pev_one (qc_eq hu (qn 0) (qn 1))))))) psv_nil) (psv_cons (psv_if (ptv_val (qisi_int E.n_isinstance E.n_int (qn 1))) (psv_one (psv_ret (pev_and (qisi_int E.n_isinstance E.n_int (qn 0)) (pev_one (qc_eq hu (qn 0) (qn 1)))))) psv_nil) (psv_cons (psv_if (ptv_val (qisi_str E.n_isinstance E.n_str (qn 1))) (psv_one (psv_ret (pev_and (qisi_str E.n_isinstance E.n_str (qn 0)) (pev_one (qc_eq hu (qn 0) (qn 1)))))) psv_nil) (psv_one (psv_ret (pev_and (qc_is (qn 0) qno) (pev_one (qc_is (qn 1) qno))))))))))
theorem sc_u_law_wrong : FnScope ["deal", "works", "choice", "right", "people", "found", "person"] ["deal", "works", "choice", "right"] (defScope (top 24)) := ⟨rfl, rfl, rfl, by decide +kernel, rfl, by decide +kernel, by decide +kernel⟩
theorem bd_u_law_wrong (E : En P w K mg) : Binds K E.d_u_law_wrong ["deal", "works", "choice", "right"] [] := E.F_u_law_wrong.bindsN fun _ _ _ _ _ _ us hl => match us, hl with | [_, _, _, _], _ => rfl
theorem ok_u_law_wrong (E : En P w K mg) : FnOk P w K mg base CX0 2 E.a_u_law_wrong E.d_u_law_wrong ["deal", "works", "choice", "right"] (spFn ⟨P, w, K⟩ [0] f_u_law_wrong) :=
  (fnvD (io := [0]) E.F_u_law_wrong sc_u_law_wrong (by decide) (by decide) fun cdv A outer s H E1 hr => have hu := PV.hu_of hr; (psv_cons (psv_set (i := 4) sc_u_law_wrong.nd rfl (by first | exact Or.inl rfl | exact Or.inr rfl) (nio rfl) (qb_len E.n_len (pav_cons (pev_item (qn 1) qi fun _ _ => rfl) pav_nil))) (psv_cons (psv_set (i := 5) sc_u_law_wrong.nd rfl (by first | exact Or.inl rfl | exact Or.inr rfl) (nio rfl) (pev_lst (pav_cons (qadd (qn 3) (pev_tup (pav_cons qi pav_nil))) (pav_cons (pev_slice (qn 3) pov_none (pov_some (qneg qi))) (pav_cons (qadd (pev_slice (qn 3) pov_none (pov_some (qneg qi))) (pev_tup (pav_cons (qn 4) pav_nil))) (pav_cons (qadd (pev_slice (qn 3) pov_none (pov_some (qneg qi))) (pev_tup (pav_cons (qneg qi) pav_nil))) pav_nil)))))) (psv_cons (psv_if (qt_gt hu (qb_len E.n_len (pav_cons (qn 3) pav_nil)) qi) (psv_one (psv_expr (qm_append (.inl (by rfl)) (qn 5) (pav_cons (qadd (pev_tup (pav_cons (pev_item (qn 3) qi fun _ _ => rfl) pav_nil)) (pev_slice (qn 3) (pov_some qi) pov_none)) pav_nil)))) psv_nil) (psv_cons (psv_for PassesOwn.never rfl (piv_range1 (by rfl) E.n_range (pav_cons (qn 4) pav_nil)) (pgv_name (i := 6) sc_u_law_wrong.nd rfl (by first | exact Or.inl rfl | exact Or.inr rfl) (nio rfl)) (psv_one (psv_if (ptv_not (ptv_val (pev_call0 (ok_u_law_skilled E) (hr.mono (by omega)) rfl E.g_u_law_skilled E.F_u_law_skilled.kp (bd_u_law_skilled E) (pav_cons (qn 1) (pav_cons (qn 6) (pav_cons (pev_item (qn 2) (qneg qi) fun _ _ => rfl) pav_nil)))))) (psv_one (psv_expr (qm_append (.inl (by rfl)) (qn 5) (pav_cons (qadd (pev_slice (qn 3) pov_none (pov_some (qneg qi))) (pev_tup (pav_cons (qn 6) pav_nil))) pav_nil)))) psv_nil))) (psv_one (psv_ret (qn 5))))))))
theorem sc_completed : FnScope ["works", "choice", "people", "person", "found"] ["works", "choice", "people"] (defScope (top 4)) := ⟨rfl, rfl, rfl, by decide +kernel, rfl, by decide +kernel, by decide +kernel⟩
theorem bd_completed (E : En P w K mg) : Binds K E.d_completed ["works", "choice", "people"] [] := E.F_completed.bindsN fun _ _ _ _ _ _ us hl => match us, hl with | [_, _, _], _ => rfl
theorem ok_completed (E : En P w K mg) : ∀ m : Nat, FnOk P w K mg base CX0 (m + 1) E.a_completed E.d_completed ["works", "choice", "people"] (spFn ⟨P, w, K⟩ [] (f_completed m))
  | 0 => fnv_none
  | m + 1 => have ih := ok_completed E m; (fnvD (io := []) E.F_completed sc_completed (by decide) (by decide) fun cdv A outer s H E1 hr => have hu := PV.hu_of hr; (psv_cons (psv_if (qt_eq hu (qb_len E.n_len (pav_cons (qn 2) pav_nil)) (qb_len E.n_len (pav_cons (qn 1) pav_nil))) (psv_one (psv_ret (qn 2))) psv_nil) (psv_cons (psv_for PassesOwn.never rfl (piv_range1 (by rfl) E.n_range (pav_cons (qb_len E.n_len (pav_cons (pev_item (qn 0) qi fun _ _ => rfl) pav_nil)) pav_nil)) (pgv_name (i := 3) sc_completed.nd rfl (by first | exact Or.inl rfl | exact Or.inr rfl) (nio rfl)) (psv_one (psv_if (ptv_of (pwv_and (qt_nin hu (qn 3) (qn 2)) (pwv_and1 (ptv_val (pev_call0 (ok_has_skill E) (hr.mono (by omega)) rfl E.g_has_skill E.F_has_skill.kp (bd_has_skill E) (pav_cons (qn 0) (pav_cons (qn 3) (pav_cons (pev_item (qn 1) (qb_len E.n_len (pav_cons (qn 2) pav_nil)) fun _ _ => rfl) pav_nil)))))))) (psv_cons (psv_set (i := 4) sc_completed.nd rfl (by first | exact Or.inl rfl | exact Or.inr rfl) (nio rfl) (pev_call0 (ih) hr rfl E.g_completed E.F_completed.kp (bd_completed E) (pav_cons (qn 0) (pav_cons (qn 1) (pav_cons (qadd (qn 2) (pev_tup (pav_cons (qn 3) pav_nil))) pav_nil))))) (psv_one (psv_if (qt_isn (qn 4) qno) (psv_one (psv_ret (qn 4))) psv_nil))) psv_nil))) (psv_one (psv_ret qno)))))
theorem sc_assignment : FnScope ["works", "choice"] ["works", "choice"] (defScope (top 5)) := ⟨rfl, rfl, rfl, by decide +kernel, rfl, by decide +kernel, by decide +kernel⟩
theorem bd_assignment (E : En P w K mg) : Binds K E.d_assignment ["works", "choice"] [] := E.F_assignment.bindsN fun _ _ _ _ _ _ us hl => match us, hl with | [_, _], _ => rfl
theorem ok_assignment (E : En P w K mg) : FnOk P w K mg base CX0 14 E.a_assignment E.d_assignment ["works", "choice"] (spFn ⟨P, w, K⟩ [] f_assignment) :=
  (fnvD (io := []) E.F_assignment sc_assignment (by decide) (by decide) fun cdv A outer s H E1 hr => have hu := PV.hu_of hr; (psv_one (psv_ret (pev_call0 (ok_completed E 12) (hr.mono (by omega)) rfl E.g_completed E.F_completed.kp (bd_completed E) (pav_cons (qn 0) (pav_cons (qn 1) (pav_cons (pev_tup pav_nil) pav_nil)))))))
theorem sc_u_law_part_one : FnScope ["script", "deal", "works", "subsets", "turn", "choice", "found", "due", "right", "wrong"] ["script"] (defScope (top 33)) := ⟨rfl, rfl, rfl, by decide +kernel, rfl, by decide +kernel, by decide +kernel⟩
theorem bd_u_law_part_one (E : En P w K mg) : Binds K E.d_u_law_part_one ["script"] [] := E.F_u_law_part_one.bindsN fun _ _ _ _ _ _ us hl => match us, hl with | [_], _ => rfl
theorem ok_u_law_part_one (E : En P w K mg) : FnOk P w K mg base CX0 15 E.a_u_law_part_one E.d_u_law_part_one ["script"] (spFn ⟨P, w, K⟩ [] f_u_law_part_one) :=
  (fnvD (io := []) E.F_u_law_part_one sc_u_law_part_one (by decide) (by decide) fun cdv A outer s H E1 hr => have hu := PV.hu_of hr; (psv_cons (psv_set (i := 1) sc_u_law_part_one.nd rfl (by first | exact Or.inl rfl | exact Or.inr rfl) (nio rfl) (pev_call0 (ok_u_law_deal E) (hr.mono (by omega)) rfl E.g_u_law_deal E.F_u_law_deal.kp (bd_u_law_deal E) (pav_cons (qn 0) pav_nil))) (psv_cons (psv_set (i := 2) sc_u_law_part_one.nd rfl (by first | exact Or.inl rfl | exact Or.inr rfl) (nio rfl) (pev_call1 (j := 0) (ok_u_law_crew_world E) (hr.mono (by omega)) rfl E.g_u_law_crew_world E.F_u_law_crew_world.kp (bd_u_law_crew_world E) (pav_cons (qn 1) pav_nil))) (psv_cons (psv_set (i := 3) sc_u_law_part_one.nd rfl (by first | exact Or.inl rfl | exact Or.inr rfl) (nio rfl) (pev_call0 (ok_u_law_subsets E) (hr.mono (by omega)) rfl E.g_u_law_subsets E.F_u_law_subsets.kp (bd_u_law_subsets E) (pav_cons (qb_len E.n_len (pav_cons (pev_item (qn 2) qi fun _ _ => rfl) pav_nil)) pav_nil))) (psv_cons (psv_for PassesOwn.never rfl (piv_range1 (by rfl) E.n_range (pav_cons qi pav_nil)) (pgv_name (i := 4) sc_u_law_part_one.nd rfl (by first | exact Or.inl rfl | exact Or.inr rfl) (nio rfl)) (psv_cons (psv_set (i := 5) sc_u_law_part_one.nd rfl (by first | exact Or.inl rfl | exact Or.inr rfl) (nio rfl) (pev_itemH (qn 3) (pev_call1 (j := 0) (ok_u_law_take E) (hr.mono (by omega)) rfl E.g_u_law_take E.F_u_law_take.kp (bd_u_law_take E) (pav_cons (qn 1) (pav_cons (qb_len E.n_len (pav_cons (qn 3) pav_nil)) pav_nil))) fun _ _ => rfl)) (psv_cons (psv_if (qt_eq hu (qn 4) qi) (psv_one (psv_set (i := 5) sc_u_law_part_one.nd rfl (by first | exact Or.inl rfl | exact Or.inr rfl) (nio rfl) (pev_tup pav_nil))) psv_nil) (psv_cons (psv_set (i := 6) sc_u_law_part_one.nd rfl (by first | exact Or.inl rfl | exact Or.inr rfl) (nio rfl) (pev_call0 (ok_u_law_assignments E) (hr.mono (by omega)) rfl E.g_u_law_assignments E.F_u_law_assignments.kp (bd_u_law_assignments E) (pav_cons (qn 2) (pav_cons (pev_slice (qn 5) pov_none (pov_some qi)) pav_nil)))) (psv_cons (psv_set (i := 7) sc_u_law_part_one.nd rfl (by first | exact Or.inl rfl | exact Or.inr rfl) (nio rfl) (pev_if (qt_gt hu (qb_len E.n_len (pav_cons (qn 6) pav_nil)) qi) (pev_item (qn 6) qi fun _ _ => rfl) qno)) (psv_cons (psv_if (ptv_not (ptv_val (pev_call0 (ok_u_law_same E 12) (hr.mono (by omega)) rfl E.g_u_law_same E.F_u_law_same.kp (bd_u_law_same E) (pav_cons (pev_call0 (ok_assignment E) (hr.mono (by omega)) rfl E.g_assignment E.F_assignment.kp (bd_assignment E) (pav_cons (qn 2) (pav_cons (pev_slice (qn 5) pov_none (pov_some qi)) pav_nil))) (pav_cons (qn 7) pav_nil))))) (psv_one (psv_ret qbl)) psv_nil) (psv_cons (psv_for PassesOwn.never rfl (piv_seq (qadd (pev_slice (qn 6) pov_none (pov_some qi)) (pev_slice (qn 6) (pov_some (qneg qi)) pov_none))) (pgv_name (i := 8) sc_u_law_part_one.nd rfl (by first | exact Or.inl rfl | exact Or.inr rfl) (nio rfl)) (psv_one (psv_if (ptv_not (ptv_val (pev_call0 (ok_u_law_bool E) (hr.mono (by omega)) rfl E.g_u_law_bool E.F_u_law_bool.kp (bd_u_law_bool E) (pav_cons (pev_call0 (ok_is_assignment E) (hr.mono (by omega)) rfl E.g_is_assignment E.F_is_assignment.kp (bd_is_assignment E) (pav_cons (qn 2) (pav_cons (pev_slice (qn 5) pov_none (pov_some qi)) (pav_cons (qn 8) pav_nil)))) (pav_cons qbl pav_nil))))) (psv_one (psv_ret qbl)) psv_nil))) (psv_one (psv_if (ptv_of (pwv_and (qt_gt hu (qb_len E.n_len (pav_cons (qn 6) pav_nil)) qi) (pwv_and1 (qt_gt hu (qb_len E.n_len (pav_cons (qn 5) pav_nil)) qi)))) (psv_one (psv_for PassesOwn.never rfl (piv_seq (pev_call1 (j := 0) (ok_u_law_wrong E) (hr.mono (by omega)) rfl E.g_u_law_wrong E.F_u_law_wrong.kp (bd_u_law_wrong E) (pav_cons (qn 1) (pav_cons (qn 2) (pav_cons (pev_slice (qn 5) pov_none (pov_some qi)) (pav_cons (pev_itemH (qn 6) (pev_call1 (j := 0) (ok_u_law_take E) (hr.mono (by omega)) rfl E.g_u_law_take E.F_u_law_take.kp (bd_u_law_take E) (pav_cons (qn 1) (pav_cons (qb_len E.n_len (pav_cons (qn 6) pav_nil)) pav_nil))) fun _ _ => rfl) pav_nil)))))) (pgv_name (i := 9) sc_u_law_part_one.nd rfl (by first | exact Or.inl rfl | exact Or.inr rfl) (nio rfl)) (psv_one (psv_if (ptv_not (ptv_val (pev_call0 (ok_u_law_bool E) (hr.mono (by omega)) rfl E.g_u_law_bool E.F_u_law_bool.kp (bd_u_law_bool E) (pav_cons (pev_call0 (ok_is_assignment E) (hr.mono (by omega)) rfl E.g_is_assignment E.F_is_assignment.kp (bd_is_assignment E) (pav_cons (qn 2) (pav_cons (pev_slice (qn 5) pov_none (pov_some qi)) (pav_cons (qn 9) pav_nil)))) (pav_cons qbl pav_nil))))) (psv_one (psv_ret qbl)) psv_nil)))) psv_nil))))))))) (psv_one (psv_ret (pev_call0 (ok_u_law_bool E) (hr.mono (by omega)) rfl E.g_u_law_bool E.F_u_law_bool.kp (bd_u_law_bool E) (pav_cons (pev_call0 (ok_is_assignment E) (hr.mono (by omega)) rfl E.g_is_assignment E.F_is_assignment.kp (bd_is_assignment E) (pav_cons (qn 2) (pav_cons (pev_tup pav_nil) (pav_cons (pev_tup pav_nil) pav_nil)))) (pav_cons qbl pav_nil))))))))))
theorem sc_people_for : FnScope ["works", "slots", "found", "person", "slot"] ["works", "slots"] (defScope (top 6)) := ⟨rfl, rfl, rfl, by decide +kernel, rfl, by decide +kernel, by decide +kernel⟩
theorem bd_people_for (E : En P w K mg) : Binds K E.d_people_for ["works", "slots"] [] := E.F_people_for.bindsN fun _ _ _ _ _ _ us hl => match us, hl with | [_, _], _ => rfl
theorem ok_people_for (E : En P w K mg) : FnOk P w K mg base CX0 2 E.a_people_for E.d_people_for ["works", "slots"] (spFn ⟨P, w, K⟩ [] f_people_for) :=
  (fnvD (io := []) E.F_people_for sc_people_for (by decide) (by decide) fun cdv A outer s H E1 hr => have hu := PV.hu_of hr; (psv_cons (psv_set (i := 2) sc_people_for.nd rfl (by first | exact Or.inl rfl | exact Or.inr rfl) (nio rfl) (pev_lst pav_nil)) (psv_cons (psv_for PassesOwn.never rfl (piv_range1 (by rfl) E.n_range (pav_cons (qb_len E.n_len (pav_cons (pev_item (qn 0) qi fun _ _ => rfl) pav_nil)) pav_nil)) (pgv_name (i := 3) sc_people_for.nd rfl (by first | exact Or.inl rfl | exact Or.inr rfl) (nio rfl)) (psv_one (psv_if (qt_gt hu (qb_len E.n_len (pav_cons (pev_lc rfl sc_people_for.nd (piv_seq (qn 1)) (blkOk_by (own := [("slot", 4)]) (by kernel_rfl)) (fun _ _ _ _ _ => (pgv_name (i := 4) sc_people_for.nd rfl (by first | exact Or.inl rfl | exact Or.inr rfl) (fun h => h (by decide)))) (fun _ _ _ _ _ => (ptsv_one (ptv_val (pev_call0 (ok_has_skill E) (hr.mono (by omega)) rfl E.g_has_skill E.F_has_skill.kp (bd_has_skill E) (pav_cons (qn 0) (pav_cons (qn 3) (pav_cons (qn 4) pav_nil))))))) (fun _ _ _ _ _ => (qn 4))) pav_nil)) qi) (psv_one (psv_expr (qm_append (.inl (by rfl)) (qn 2) (pav_cons (qn 3) pav_nil)))) psv_nil))) (psv_one (psv_ret (qn 2))))))
theorem sc_crew_paper : FnScope ["works", "choice", "size", "slots"] ["works", "choice"] (defScope (top 8)) := ⟨rfl, rfl, rfl, by decide +kernel, rfl, by decide +kernel, by decide +kernel⟩
theorem bd_crew_paper (E : En P w K mg) : Binds K E.d_crew_paper ["works", "choice"] [] := E.F_crew_paper.bindsN fun _ _ _ _ _ _ us hl => match us, hl with | [_, _], _ => rfl
theorem ok_crew_paper (E : En P w K mg) : FnOk P w K mg base CX0 3 E.a_crew_paper E.d_crew_paper ["works", "choice"] (spFn ⟨P, w, K⟩ [] f_crew_paper) :=
  (fnvD (io := []) E.F_crew_paper sc_crew_paper (by decide) (by decide) fun cdv A outer s H E1 hr => have hu := PV.hu_of hr; (psv_cons (psv_for PassesOwn.never rfl (piv_range2 (by rfl) E.n_range (pav_cons qi (pav_cons (qadd (qb_len E.n_len (pav_cons (qn 1) pav_nil)) qi) pav_nil))) (pgv_name (i := 2) sc_crew_paper.nd rfl (by first | exact Or.inl rfl | exact Or.inr rfl) (nio rfl)) (psv_one (psv_for PassesOwn.never rfl (piv_cmb E.t_combinations (pav_cons (qn 1) (pav_cons (qn 2) pav_nil))) (pgv_name (i := 3) sc_crew_paper.nd rfl (by first | exact Or.inl rfl | exact Or.inr rfl) (nio rfl)) (psv_one (psv_if (qt_lt hu (qb_len E.n_len (pav_cons (pev_call0 (ok_people_for E) (hr.mono (by omega)) rfl E.g_people_for E.F_people_for.kp (bd_people_for E) (pav_cons (qn 0) (pav_cons (qn 3) pav_nil))) pav_nil)) (qn 2)) (psv_one (psv_ret (qn 3))) psv_nil))))) (psv_one (psv_ret qno))))
theorem sc_u_law_manned : FnScope ["works", "choice", "people", "k"] ["works", "choice", "people"] (defScope (top 27)) := ⟨rfl, rfl, rfl, by decide +kernel, rfl, by decide +kernel, by decide +kernel⟩
theorem bd_u_law_manned (E : En P w K mg) : Binds K E.d_u_law_manned ["works", "choice", "people"] [] := E.F_u_law_manned.bindsN fun _ _ _ _ _ _ us hl => match us, hl with | [_, _, _], _ => rfl
theorem ok_u_law_manned (E : En P w K mg) : ∀ m : Nat, FnOk P w K mg base CX0 (m + 0) E.a_u_law_manned E.d_u_law_manned ["works", "choice", "people"] (spFn ⟨P, w, K⟩ [] (f_u_law_manned m))
  | 0 => fnv_none
  | m + 1 => have ih := ok_u_law_manned E m; (fnvD (io := []) E.F_u_law_manned sc_u_law_manned (by decide) (by decide) fun cdv A outer s H E1 hr => have hu := PV.hu_of hr; (psv_cons (psv_if (qt_eq hu (qb_len E.n_len (pav_cons (qn 1) pav_nil)) qi) (psv_one (psv_ret qbl)) psv_nil) (psv_cons (psv_for PassesOwn.never rfl (piv_range1 (by rfl) E.n_range (pav_cons (qb_len E.n_len (pav_cons (qn 2) pav_nil)) pav_nil)) (pgv_name (i := 3) sc_u_law_manned.nd rfl (by first | exact Or.inl rfl | exact Or.inr rfl) (nio rfl)) (psv_one (psv_if (qt_in hu (pev_item (pev_item (pev_item (qn 0) qi fun _ _ => rfl) (pev_item (qn 1) qi fun _ _ => rfl) fun _ _ => rfl) qi fun _ _ => rfl) (pev_item (pev_item (qn 2) (qn 3) fun _ _ => rfl) qi fun _ _ => rfl)) (psv_one (psv_if (ptv_val (pev_call0 (ih) hr rfl E.g_u_law_manned E.F_u_law_manned.kp (bd_u_law_manned E) (pav_cons (qn 0) (pav_cons (pev_slice (qn 1) (pov_some qi) pov_none) (pav_cons (qadd (pev_slice (qn 2) pov_none (pov_some (qn 3))) (pev_slice (qn 2) (pov_some (qadd (qn 3) qi)) pov_none)) pav_nil))))) (psv_one (psv_ret qbl)) psv_nil)) psv_nil))) (psv_one (psv_ret qbl)))))
theorem sc_u_law_right : FnScope ["works", "choice", "people", "k"] ["works", "choice", "people"] (defScope (top 31)) := ⟨rfl, rfl, rfl, by decide +kernel, rfl, by decide +kernel, by decide +kernel⟩
theorem bd_u_law_right (E : En P w K mg) : Binds K E.d_u_law_right ["works", "choice", "people"] [] := E.F_u_law_right.bindsN fun _ _ _ _ _ _ us hl => match us, hl with | [_, _, _], _ => rfl
theorem ok_u_law_right (E : En P w K mg) : FnOk P w K mg base CX0 2 E.a_u_law_right E.d_u_law_right ["works", "choice", "people"] (spFn ⟨P, w, K⟩ [] f_u_law_right) :=
  (fnvD (io := []) E.F_u_law_right sc_u_law_right (by decide) (by decide) fun cdv A outer s H E1 hr => have hu := PV.hu_of hr; (psv_cons (psv_if (ptv_of (pwv_or (ptv_not (ptv_val (qisi_tuple E.n_isinstance E.n_tuple (qn 2)))) (pwv_or1 (qt_ne hu (qb_len E.n_len (pav_cons (qn 2) pav_nil)) (qb_len E.n_len (pav_cons (qn 1) pav_nil)))))) (psv_one (psv_ret qbl)) psv_nil) (psv_cons (psv_for PassesOwn.never rfl (piv_range1 (by rfl) E.n_range (pav_cons (qb_len E.n_len (pav_cons (qn 2) pav_nil)) pav_nil)) (pgv_name (i := 3) sc_u_law_right.nd rfl (by first | exact Or.inl rfl | exact Or.inr rfl) (nio rfl)) (psv_cons (psv_if (ptv_of (pwv_or (qt_in hu (pev_item (qn 2) (qn 3) fun _ _ => rfl) (pev_slice (qn 2) pov_none (pov_some (qn 3)))) (pwv_or1 (ptv_not (qt_in hu (pev_item (qn 2) (qn 3) fun _ _ => rfl) (ql_list1 E.n_list E.n_range (qb_len E.n_len (pav_cons (pev_item (qn 0) qi fun _ _ => rfl) pav_nil)))))))) (psv_one (psv_ret qbl)) psv_nil) (psv_one (psv_if (ptv_not (ptv_val (pev_call0 (ok_u_law_skilled E) (hr.mono (by omega)) rfl E.g_u_law_skilled E.F_u_law_skilled.kp (bd_u_law_skilled E) (pav_cons (qn 0) (pav_cons (pev_item (qn 2) (qn 3) fun _ _ => rfl) (pav_cons (pev_item (qn 1) (qn 3) fun _ _ => rfl) pav_nil)))))) (psv_one (psv_ret qbl)) psv_nil)))) (psv_one (psv_ret qbl)))))
theorem sc_u_law_too_few : FnScope ["works", "slots", "people", "person", "slot"] ["works", "slots"] (defScope (top 30)) := ⟨rfl, rfl, rfl, by decide +kernel, rfl, by decide +kernel, by decide +kernel⟩
theorem bd_u_law_too_few (E : En P w K mg) : Binds K E.d_u_law_too_few ["works", "slots"] [] := E.F_u_law_too_few.bindsN fun _ _ _ _ _ _ us hl => match us, hl with | [_, _], _ => rfl
theorem ok_u_law_too_few (E : En P w K mg) : FnOk P w K mg base CX0 2 E.a_u_law_too_few E.d_u_law_too_few ["works", "slots"] (spFn ⟨P, w, K⟩ [] f_u_law_too_few) :=
  (fnvD (io := []) E.F_u_law_too_few sc_u_law_too_few (by decide) (by decide) fun cdv A outer s H E1 hr => have hu := PV.hu_of hr; (psv_cons (psv_set (i := 2) sc_u_law_too_few.nd rfl (by first | exact Or.inl rfl | exact Or.inr rfl) (nio rfl) (pev_lst pav_nil)) (psv_cons (psv_for PassesOwn.never rfl (piv_range1 (by rfl) E.n_range (pav_cons (qb_len E.n_len (pav_cons (pev_item (qn 0) qi fun _ _ => rfl) pav_nil)) pav_nil)) (pgv_name (i := 3) sc_u_law_too_few.nd rfl (by first | exact Or.inl rfl | exact Or.inr rfl) (nio rfl)) (psv_one (psv_if (qt_gt hu (qb_len E.n_len (pav_cons (pev_lc rfl sc_u_law_too_few.nd (piv_seq (qn 1)) (blkOk_by (own := [("slot", 4)]) (by kernel_rfl)) (fun _ _ _ _ _ => (pgv_name (i := 4) sc_u_law_too_few.nd rfl (by first | exact Or.inl rfl | exact Or.inr rfl) (fun h => h (by decide)))) (fun _ _ _ _ _ => (ptsv_one (ptv_val (pev_call0 (ok_u_law_skilled E) (hr.mono (by omega)) rfl E.g_u_law_skilled E.F_u_law_skilled.kp (bd_u_law_skilled E) (pav_cons (qn 0) (pav_cons (qn 3) (pav_cons (qn 4) pav_nil))))))) (fun _ _ _ _ _ => (qn 4))) pav_nil)) qi) (psv_one (psv_expr (qm_append (.inl (by rfl)) (qn 2) (pav_cons (qn 3) pav_nil)))) psv_nil))) (psv_one (psv_ret (pev_and (qc_gt hu (qb_len E.n_len (pav_cons (qn 1) pav_nil)) qi) (pev_one (qc_lt hu (qb_len E.n_len (pav_cons (qn 2) pav_nil)) (qb_len E.n_len (pav_cons (qn 1) pav_nil))))))))))
theorem sc_shows_unmanned : FnScope ["works", "choice", "slots", "before", "slot"] ["works", "choice", "slots"] (defScope (top 7)) := ⟨rfl, rfl, rfl, by decide +kernel, rfl, by decide +kernel, by decide +kernel⟩
theorem bd_shows_unmanned (E : En P w K mg) : Binds K E.d_shows_unmanned ["works", "choice", "slots"] [] := E.F_shows_unmanned.bindsN fun _ _ _ _ _ _ us hl => match us, hl with | [_, _, _], _ => rfl
theorem ok_shows_unmanned (E : En P w K mg) : FnOk P w K mg base CX0 3 E.a_shows_unmanned E.d_shows_unmanned ["works", "choice", "slots"] (spFn ⟨P, w, K⟩ [] f_shows_unmanned) :=
  (fnvD (io := []) E.F_shows_unmanned sc_shows_unmanned (by decide) (by decide) fun cdv A outer s H E1 hr => have hu := PV.hu_of hr; (psv_cons (psv_set (i := 3) sc_shows_unmanned.nd rfl (by first | exact Or.inl rfl | exact Or.inr rfl) (nio rfl) (qneg qi)) (psv_cons (psv_for PassesOwn.never rfl (piv_seq (qn 2)) (pgv_name (i := 4) sc_shows_unmanned.nd rfl (by first | exact Or.inl rfl | exact Or.inr rfl) (nio rfl)) (psv_cons (psv_if (ptv_of (pwv_or (qt_le hu (qn 4) (qn 3)) (pwv_or1 (qt_nin hu (qn 4) (qn 1))))) (psv_one (psv_ret qbl)) psv_nil) (psv_one (psv_set (i := 3) sc_shows_unmanned.nd rfl (by first | exact Or.inl rfl | exact Or.inr rfl) (nio rfl) (qn 4))))) (psv_one (psv_ret (pev_and (qc_gt hu (qb_len E.n_len (pav_cons (qn 2) pav_nil)) qi) (pev_one (qc_lt hu (qb_len E.n_len (pav_cons (pev_call0 (ok_people_for E) (hr.mono (by omega)) rfl E.g_people_for E.F_people_for.kp (bd_people_for E) (pav_cons (qn 0) (pav_cons (qn 2) pav_nil))) pav_nil)) (qb_len E.n_len (pav_cons (qn 2) pav_nil))))))))))
theorem sc_u_law_one : FnScope ["deal", "works", "choice", "people", "paper", "manned", "part", "slots", "others", "slot", "k"] ["deal", "works", "choice"] (defScope (top 32)) := ⟨rfl, rfl, rfl, by decide +kernel, rfl, by decide +kernel, by decide +kernel⟩
theorem bd_u_law_one (E : En P w K mg) : Binds K E.d_u_law_one ["deal", "works", "choice"] [] := E.F_u_law_one.bindsN fun _ _ _ _ _ _ us hl => match us, hl with | [_, _, _], _ => rfl
theorem ok_u_law_one (E : En P w K mg) : FnOk P w K mg base CX0 15 E.a_u_law_one E.d_u_law_one ["deal", "works", "choice"] (spFn ⟨P, w, K⟩ [] f_u_law_one) :=
  (fnvD (io := []) E.F_u_law_one sc_u_law_one (by decide) (by decide) fun cdv A outer s H E1 hr => have hu := PV.hu_of hr; (psv_cons (psv_set (i := 3) sc_u_law_one.nd rfl (by first | exact Or.inl rfl | exact Or.inr rfl) (nio rfl) (pev_call0 (ok_assignment E) (hr.mono (by omega)) rfl E.g_assignment E.F_assignment.kp (bd_assignment E) (pav_cons (qn 1) (pav_cons (qn 2) pav_nil)))) (psv_cons (psv_set (i := 4) sc_u_law_one.nd rfl (by first | exact Or.inl rfl | exact Or.inr rfl) (nio rfl) (pev_call0 (ok_crew_paper E) (hr.mono (by omega)) rfl E.g_crew_paper E.F_crew_paper.kp (bd_crew_paper E) (pav_cons (qn 1) (pav_cons (qn 2) pav_nil)))) (psv_cons (psv_set (i := 5) sc_u_law_one.nd rfl (by first | exact Or.inl rfl | exact Or.inr rfl) (nio rfl) (pev_call0 (ok_u_law_manned E 12) (hr.mono (by omega)) rfl E.g_u_law_manned E.F_u_law_manned.kp (bd_u_law_manned E) (pav_cons (qn 1) (pav_cons (qn 2) (pav_cons (pev_item (qn 1) qi fun _ _ => rfl) pav_nil))))) (psv_cons (psv_if (ptv_of (pwv_or (qt_eq hu (qc_is (qn 3) qno) (qn 5)) (pwv_or1 (qt_ne hu (qc_is (qn 4) qno) (qn 5))))) (psv_one (psv_ret qbl)) psv_nil) (psv_cons (psv_if (ptv_of (pwv_and (ptv_val (qn 5)) (pwv_and1 (ptv_not (ptv_val (pev_call0 (ok_u_law_right E) (hr.mono (by omega)) rfl E.g_u_law_right E.F_u_law_right.kp (bd_u_law_right E) (pav_cons (qn 1) (pav_cons (qn 2) (pav_cons (qn 3) pav_nil))))))))) (psv_one (psv_ret qbl)) psv_nil) (psv_cons (psv_if (ptv_of (pwv_and (ptv_not (ptv_val (qn 5))) (pwv_and1 (ptv_of (pwv_or (ptv_not (ptv_val (qisi_tuple E.n_isinstance E.n_tuple (qn 4)))) (pwv_or1 (ptv_not (ptv_val (pev_call0 (ok_u_law_too_few E) (hr.mono (by omega)) rfl E.g_u_law_too_few E.F_u_law_too_few.kp (bd_u_law_too_few E) (pav_cons (qn 1) (pav_cons (qn 4) pav_nil))))))))))) (psv_one (psv_ret qbl)) psv_nil) (psv_cons (psv_if (ptv_of (pwv_and (ptv_not (ptv_val (qn 5))) (pwv_and1 (ptv_not (ptv_val (pev_call0 (ok_u_law_bool E) (hr.mono (by omega)) rfl E.g_u_law_bool E.F_u_law_bool.kp (bd_u_law_bool E) (pav_cons (pev_call0 (ok_shows_unmanned E) (hr.mono (by omega)) rfl E.g_shows_unmanned E.F_shows_unmanned.kp (bd_shows_unmanned E) (pav_cons (qn 1) (pav_cons (qn 2) (pav_cons (qn 4) pav_nil)))) (pav_cons qbl pav_nil)))))))) (psv_one (psv_ret qbl)) psv_nil) (psv_cons (psv_for PassesOwn.never rfl (piv_seq (pev_call0 (ok_u_law_subsets E) (hr.mono (by omega)) rfl E.g_u_law_subsets E.F_u_law_subsets.kp (bd_u_law_subsets E) (pav_cons (qb_len E.n_len (pav_cons (qn 2) pav_nil)) pav_nil))) (pgv_name (i := 6) sc_u_law_one.nd rfl (by first | exact Or.inl rfl | exact Or.inr rfl) (nio rfl)) (psv_cons (psv_set (i := 7) sc_u_law_one.nd rfl (by first | exact Or.inl rfl | exact Or.inr rfl) (nio rfl) (qb_tuple E.n_tuple (pav_cons (pev_lc rfl sc_u_law_one.nd (piv_seq (qn 6)) (blkOk_by (own := [("k", 10)]) (by kernel_rfl)) (fun _ _ _ _ _ => (pgv_name (i := 10) sc_u_law_one.nd rfl (by first | exact Or.inl rfl | exact Or.inr rfl) (fun h => h (by decide)))) (fun _ _ _ _ _ => ptsv_nil) (fun _ _ _ _ _ => (pev_item (qn 2) (qn 10) fun _ _ => rfl))) pav_nil))) (psv_cons (psv_if (ptv_not (ptv_val (pev_call0 (ok_u_law_bool E) (hr.mono (by omega)) rfl E.g_u_law_bool E.F_u_law_bool.kp (bd_u_law_bool E) (pav_cons (pev_call0 (ok_shows_unmanned E) (hr.mono (by omega)) rfl E.g_shows_unmanned E.F_shows_unmanned.kp (bd_shows_unmanned E) (pav_cons (qn 1) (pav_cons (qn 2) (pav_cons (qn 7) pav_nil)))) (pav_cons (pev_call0 (ok_u_law_too_few E) (hr.mono (by omega)) rfl E.g_u_law_too_few E.F_u_law_too_few.kp (bd_u_law_too_few E) (pav_cons (qn 1) (pav_cons (qn 7) pav_nil))) pav_nil))))) (psv_one (psv_ret qbl)) psv_nil) (psv_cons (psv_if (ptv_of (pwv_and (qt_gt hu (qb_len E.n_len (pav_cons (qn 7) pav_nil)) qi) (pwv_and1 (ptv_not (ptv_val (pev_call0 (ok_u_law_bool E) (hr.mono (by omega)) rfl E.g_u_law_bool E.F_u_law_bool.kp (bd_u_law_bool E) (pav_cons (pev_call0 (ok_shows_unmanned E) (hr.mono (by omega)) rfl E.g_shows_unmanned E.F_shows_unmanned.kp (bd_shows_unmanned E) (pav_cons (qn 1) (pav_cons (qn 2) (pav_cons (pev_rev2 (qn 7) (qneg qi) fun _ => rfl) pav_nil)))) (pav_cons qbl pav_nil)))))))) (psv_one (psv_ret qbl)) psv_nil) (psv_one (psv_if (ptv_of (pwv_and (qt_gt hu (qb_len E.n_len (pav_cons (qn 7) pav_nil)) qi) (pwv_and1 (ptv_not (ptv_val (pev_call0 (ok_u_law_bool E) (hr.mono (by omega)) rfl E.g_u_law_bool E.F_u_law_bool.kp (bd_u_law_bool E) (pav_cons (pev_call0 (ok_shows_unmanned E) (hr.mono (by omega)) rfl E.g_shows_unmanned E.F_shows_unmanned.kp (bd_shows_unmanned E) (pav_cons (qn 1) (pav_cons (qn 2) (pav_cons (qadd (qn 7) (pev_slice (qn 7) (pov_some (qneg qi)) pov_none)) pav_nil)))) (pav_cons qbl pav_nil)))))))) (psv_one (psv_ret qbl)) psv_nil)))))) (psv_cons (psv_set (i := 8) sc_u_law_one.nd rfl (by first | exact Or.inl rfl | exact Or.inr rfl) (nio rfl) (qb_tuple E.n_tuple (pav_cons (pev_lc rfl sc_u_law_one.nd (piv_range1 (by rfl) E.n_range (pav_cons (qb_len E.n_len (pav_cons (pev_item (qn 1) qi fun _ _ => rfl) pav_nil)) pav_nil)) (blkOk_by (own := [("slot", 9)]) (by kernel_rfl)) (fun _ _ _ _ _ => (pgv_name (i := 9) sc_u_law_one.nd rfl (by first | exact Or.inl rfl | exact Or.inr rfl) (fun h => h (by decide)))) (fun _ _ _ _ _ => (ptsv_one (qt_nin hu (qn 9) (qn 2)))) (fun _ _ _ _ _ => (qn 9))) pav_nil))) (psv_cons (psv_for PassesOwn.never rfl (piv_seq (qn 8)) (pgv_name (i := 9) sc_u_law_one.nd rfl (by first | exact Or.inl rfl | exact Or.inr rfl) (nio rfl)) (psv_one (psv_if (ptv_not (ptv_val (pev_call0 (ok_u_law_bool E) (hr.mono (by omega)) rfl E.g_u_law_bool E.F_u_law_bool.kp (bd_u_law_bool E) (pav_cons (pev_call0 (ok_shows_unmanned E) (hr.mono (by omega)) rfl E.g_shows_unmanned E.F_shows_unmanned.kp (bd_shows_unmanned E) (pav_cons (qn 1) (pav_cons (qn 2) (pav_cons (qb_tuple E.n_tuple (pav_cons (qb_sortedT hu E.n_sorted (pav_cons (qadd (qn 2) (pev_tup (pav_cons (qn 9) pav_nil))) pav_nil)) pav_nil)) pav_nil)))) (pav_cons qbl pav_nil))))) (psv_one (psv_ret qbl)) psv_nil))) (psv_one (psv_ret qbl)))))))))))))
theorem sc_u_law_part_two : FnScope ["script", "deal", "works", "subsets", "turn", "choice"] ["script"] (defScope (top 34)) := ⟨rfl, rfl, rfl, by decide +kernel, rfl, by decide +kernel, by decide +kernel⟩
theorem bd_u_law_part_two (E : En P w K mg) : Binds K E.d_u_law_part_two ["script"] [] := E.F_u_law_part_two.bindsN fun _ _ _ _ _ _ us hl => match us, hl with | [_], _ => rfl
theorem ok_u_law_part_two (E : En P w K mg) : FnOk P w K mg base CX0 16 E.a_u_law_part_two E.d_u_law_part_two ["script"] (spFn ⟨P, w, K⟩ [] f_u_law_part_two) :=
  (fnvD (io := []) E.F_u_law_part_two sc_u_law_part_two (by decide) (by decide) fun cdv A outer s H E1 hr => have hu := PV.hu_of hr; (psv_cons (psv_set (i := 1) sc_u_law_part_two.nd rfl (by first | exact Or.inl rfl | exact Or.inr rfl) (nio rfl) (pev_call0 (ok_u_law_deal E) (hr.mono (by omega)) rfl E.g_u_law_deal E.F_u_law_deal.kp (bd_u_law_deal E) (pav_cons (qn 0) pav_nil))) (psv_cons (psv_set (i := 2) sc_u_law_part_two.nd rfl (by first | exact Or.inl rfl | exact Or.inr rfl) (nio rfl) (pev_call1 (j := 0) (ok_u_law_crew_world E) (hr.mono (by omega)) rfl E.g_u_law_crew_world E.F_u_law_crew_world.kp (bd_u_law_crew_world E) (pav_cons (qn 1) pav_nil))) (psv_cons (psv_set (i := 3) sc_u_law_part_two.nd rfl (by first | exact Or.inl rfl | exact Or.inr rfl) (nio rfl) (pev_call0 (ok_u_law_subsets E) (hr.mono (by omega)) rfl E.g_u_law_subsets E.F_u_law_subsets.kp (bd_u_law_subsets E) (pav_cons (qb_len E.n_len (pav_cons (pev_item (qn 2) qi fun _ _ => rfl) pav_nil)) pav_nil))) (psv_cons (psv_for PassesOwn.never rfl (piv_range1 (by rfl) E.n_range (pav_cons qi pav_nil)) (pgv_name (i := 4) sc_u_law_part_two.nd rfl (by first | exact Or.inl rfl | exact Or.inr rfl) (nio rfl)) (psv_cons (psv_set (i := 5) sc_u_law_part_two.nd rfl (by first | exact Or.inl rfl | exact Or.inr rfl) (nio rfl) (pev_itemH (qn 3) (pev_call1 (j := 0) (ok_u_law_take E) (hr.mono (by omega)) rfl E.g_u_law_take E.F_u_law_take.kp (bd_u_law_take E) (pav_cons (qn 1) (pav_cons (qb_len E.n_len (pav_cons (qn 3) pav_nil)) pav_nil))) fun _ _ => rfl)) (psv_one (psv_if (ptv_not (ptv_val (pev_call0 (ok_u_law_one E) (hr.mono (by omega)) rfl E.g_u_law_one E.F_u_law_one.kp (bd_u_law_one E) (pav_cons (qn 1) (pav_cons (qn 2) (pav_cons (qn 5) pav_nil)))))) (psv_one (psv_ret qbl)) psv_nil)))) (psv_one (psv_ret (pev_call0 (ok_u_law_one E) (hr.mono (by omega)) rfl E.g_u_law_one E.F_u_law_one.kp (bd_u_law_one E) (pav_cons (qn 1) (pav_cons (qn 2) (pav_cons (ql_tuple1 E.n_tuple E.n_range (qb_len E.n_len (pav_cons (pev_item (qn 2) qi fun _ _ => rfl) pav_nil))) pav_nil)))))))))))
theorem sc_law : FnScope ["script"] ["script"] (defScope (top 35)) := ⟨rfl, rfl, rfl, by decide +kernel, rfl, by decide +kernel, by decide +kernel⟩
theorem bd_law (E : En P w K mg) : Binds K E.d_law ["script"] [] := E.F_law.bindsN fun _ _ _ _ _ _ us hl => match us, hl with | [_], _ => rfl
theorem ok_law (E : En P w K mg) : FnOk P w K mg base CX0 17 E.a_law E.d_law ["script"] (spFn ⟨P, w, K⟩ [] f_law) :=
  (fnvD (io := []) E.F_law sc_law (by decide) (by decide) fun cdv A outer s H E1 hr => have hu := PV.hu_of hr; (psv_one (psv_ret (pev_and (pev_call0 (ok_u_law_part_one E) (hr.mono (by omega)) rfl E.g_u_law_part_one E.F_u_law_part_one.kp (bd_u_law_part_one E) (pav_cons (qn 0) pav_nil)) (pev_one (pev_call0 (ok_u_law_part_two E) (hr.mono (by omega)) rfl E.g_u_law_part_two E.F_u_law_part_two.kp (bd_u_law_part_two E) (pav_cons (qn 0) pav_nil)))))))
end
end Kk11

set_option Elab.async false
set_option linter.all false
set_option maxRecDepth 100000
set_option maxHeartbeats 1000000
/-! PVn: the head's facts: the defs, and constants of the module -/
namespace PV
noncomputable section
open PySem PySem.Spec L2
open PyProof.Rows hiding St

def obsV (n : Nat) (fa : List He.Fa) (fn : List He.DefD) (ex : PySem.W.Frag → Bool) (g : Addr → Option Obj) : He.AlD × Bool := (He.obsDG n fa fn g, ex (He.frG g (He.asD g n)))
def hookV (n : Nat) (fa : List He.Fa) (fn : List He.DefD) (ex : PySem.W.Frag → Bool) : PySem.W.Hook where
  α := He.AlD × Bool
  obs := fun s => obsV n fa fn ex s.heap.get?
  val := fun _ => (He.valD fn, true)
  says := fun _ h => ∃ K : PySem.W.Frag, K.In h ∧ He.SaysD fa fn K ∧ ex K = true
  of := fun _ _ e => ⟨_, He.frG_in, congrArg (fun z : He.AlD × Bool => z.1) e, congrArg (fun z : He.AlD × Bool => z.2) e⟩
  keeps := fun _ _ _ ⟨K, hK, c, d⟩ k => ⟨K, PySem.W.Frag.In.keeps hK k, c, d⟩
theorem obsV_eq {n : Nat} {fa : List He.Fa} {fn : List He.DefD} {ex : PySem.W.Frag → Bool} {g : Addr → Option Obj} {s : Shared} (h : ∀ a, g a = s.heap.get? a) : obsV n fa fn ex g = (hookV n fa fn ex).obs s := by
  have e : g = s.heap.get? := funext h
  rw [e]
  rfl
mutual
/-- the value v of the module is the data d -/
def valIs (K : PySem.W.Frag) : D → Value → Bool
  | .none, .none => true
  | .bool a, .bool b => a == b
  | .int i, .int j _ => decide (i = j)
  | .str x, .str y _ => decide (x = y)
  | .tuple ds, .ref a => match K.lookup a with
    | some ⟨.type T, _, .seq its _, _⟩ => decide (T = "tuple") && decide (its.size ≤ sizeLine) && valsIs K ds its.toList
    | _ => false
  | _, _ => false
def valsIs (K : PySem.W.Frag) : List D → List Value → Bool
  | [], [] => true
  | d :: ds, v :: vs => valIs K d v && valsIs K ds vs
  | _, _ => false
end
mutual
theorem valIs_ok {P : Program} {w : World} {K : PySem.W.Frag} : ∀ {d : D} {v : Value}, valIs K d v = true → ∃ x, RelV x v ∧ ∀ H, RD ⟨P, w, K⟩ H x d
  | .none, v, h => by
    cases v with
    | none => exact ⟨.non, rfl, fun _ => .non⟩
    | _ => simp [valIs] at h
  | .bool b, v, h => by
    cases v with
    | bool c =>
      simp [valIs] at h
      subst h
      exact ⟨.bl _, rfl, fun _ => .bl _⟩
    | _ => simp [valIs] at h
  | .int b, v, h => by
    cases v with
    | int c t =>
      simp [valIs] at h
      subst h
      exact ⟨.int _, ⟨_, rfl⟩, fun _ => .int _⟩
    | _ => simp [valIs] at h
  | .str b, v, h => by
    cases v with
    | str c t =>
      simp [valIs] at h
      subst h
      exact ⟨.str _, ⟨_, rfl⟩, fun _ => .str _⟩
    | _ => simp [valIs] at h
  | .tuple ds, v, h => by
    cases v with
    | ref a =>
      unfold valIs at h
      split at h
      · rename_i T dd its n sl hk
        simp only [Bool.and_eq_true, decide_eq_true_eq] at h
        obtain ⟨⟨rfl, h2⟩, h3⟩ := h
        obtain ⟨xs, hr, hd⟩ := valsIs_ok (P := P) (w := w) h3
        exact ⟨.ref a, rfl, fun H => .tup (.inr ⟨_, its, n, hk, rfl, rfl, h2, hr⟩) (hd H)⟩
      · cases h
    | _ => simp [valIs] at h
  | .list ds, v, h => by simp [valIs] at h
  | .dict ds, v, h => by simp [valIs] at h
theorem valsIs_ok {P : Program} {w : World} {K : PySem.W.Frag} : ∀ {ds : List D} {vs : List Value}, valsIs K ds vs = true → ∃ xs, Vals xs vs ∧ ∀ H, RDs ⟨P, w, K⟩ H xs ds
  | [], [], _ => ⟨[], .nil, fun _ => .nil⟩
  | d :: ds, v :: vs, h => by
    unfold valsIs at h
    rw [Bool.and_eq_true] at h
    obtain ⟨x, r, q⟩ := valIs_ok (P := P) (w := w) h.1
    obtain ⟨xs, rs, qs⟩ := valsIs_ok (P := P) (w := w) h.2
    exact ⟨x :: xs, .cons r rs, fun H => .cons (q H) (qs H)⟩
  | [], v :: vs, h => by simp [valsIs] at h
  | d :: ds, [], h => by simp [valsIs] at h
end
def globIs (K : PySem.W.Frag) (x : Str) (d : D) : Bool := match PySem.W.nsIn K mainGlobals x with
  | some (some v) => valIs K d v
  | _ => false
theorem globIs_ok {P : Program} {w : World} {K : PySem.W.Frag} {h : Heap} {mg : Str → Option Value} (X : K.In h) (G : h.Ns mainGlobals mg) {x : Str} {d : D} (c : globIs K x d = true) : ∃ (y : V) (u : Value), mg x = some u ∧ RelV y u ∧ ∀ H, RD ⟨P, w, K⟩ H y d := by
  unfold globIs at c
  split at c
  · rename_i v hv
    obtain ⟨y, r, q⟩ := valIs_ok (P := P) (w := w) c
    exact ⟨y, v, PySem.W.mg_of X G hv, r, q⟩
  · cases c
/-- the law's promise from the law's own function -/
theorem law_sp {M : Md} {f : Fn} {H : Hp} {a : Addr} {ns : List Int} (hl : f [.p (.list (ns.map PyData.int))] = some (.p (.bool true), [])) (hS : SqL M.K H a (ns.map V.int)) {E : XK} : spFn M [] f [.ref a] H (fun v _ => v = .bl true) E := by
  refine ⟨[.p (.list (ns.map PyData.int))], H, fun _ => none, fun _ => noF, .p (.bool true), [], ⟨Le.refl _, fun a o e => (by cases e), fun a o e => (by cases e), rfl, fun i o e => ?_, fun _ _ _ h => h.elim, fun _ _ h => h.elim⟩, hl, fun v H' Hf' φ' G _ _ rr _ => ?_⟩
  · cases i with
    | zero =>
      simp at e
      subst e
      exact ⟨.ref a, rfl, .lst hS .ints⟩
    | succ i => simp at e
  · have h : RD M Hf' v (.bool true) := rr
    cases h
    rfl
end
end PV

set_option Elab.async false
set_option linter.all false
set_option maxRecDepth 100000
set_option maxHeartbeats 1000000
/-! PVw: how to reason about the functions that gen.py prints: statements by rules, expressions by computation -/
namespace PV
noncomputable section
open PySem PySem.Spec L2
open PyProof.Rows hiding St

def WX (x : Ex) (σ : Sg) (Q : Res → Prop) : Prop := ∃ r, x σ = some r ∧ Q r
def thenX (b : Ex) (Q : Res → Prop) : Res → Prop
  | .nx σ => WX b σ Q
  | r => Q r
section
variable {x a b : Ex} {e : Ev} {t : Tv} {σ σ1 σ2 σ3 : Sg} {Q Q' : Res → Prop} {r : Rs} {o : O} {d : D} {i : Nat}
theorem WX.mono (h : WX x σ Q) (k : ∀ r, Q r → Q' r) : WX x σ Q' := by
  obtain ⟨r, e, q⟩ := h
  exact ⟨r, e, k r q⟩
theorem wx_nil (h : Q (.nx σ)) : WX xNil σ Q := ⟨_, rfl, h⟩
theorem wx_brk (h : Q (.bk σ)) : WX xBrk σ Q := ⟨_, rfl, h⟩
theorem wx_cnt (h : Q (.ct σ)) : WX xCnt σ Q := ⟨_, rfl, h⟩
theorem wx_seq (h : WX a σ (thenX b Q)) : WX (xSeq a b) σ Q := by
  obtain ⟨r, e, q⟩ := h
  unfold WX xSeq
  rw [e]
  cases r with
  | nx σ1 => exact q
  | bk σ1 => exact ⟨_, rfl, q⟩
  | ct σ1 => exact ⟨_, rfl, q⟩
  | rt o σ1 => exact ⟨_, rfl, q⟩
theorem wx_set (e1 : e σ = some (r, σ1)) (e2 : take r σ1 = some (o, σ2)) (h : Q (.nx (σ2.set i (some o)))) : WX (xSet i e) σ Q := ⟨_, by simp only [xSet, e1, e2], h⟩
/-- the two in one: what the expression gives, taken -/
def takeE (e : Ev) (σ : Sg) : Option (O × Sg) := match e σ with | some (r, σ1) => take r σ1 | none => none
theorem wx_set' (e1 : takeE e σ = some (o, σ2)) (h : Q (.nx (σ2.set i (some o)))) : WX (xSet i e) σ Q := by
  unfold takeE at e1
  split at e1
  · rename_i r σ1 e0
    exact wx_set e0 e1 h
  · cases e1
def frzE (e : Ev) (σ : Sg) : Option (D × Sg) := match e σ with | some (r, σ1) => frz r σ1 | none => none
theorem wx_asg {t : Tg} (e1 : frzE e σ = some (d, σ2)) (e2 : t d σ2 = some σ3) (h : Q (.nx σ3)) : WX (xAsg t e) σ Q := by
  unfold frzE at e1
  split at e1
  · rename_i r σ1 e0
    exact ⟨_, by simp only [xAsg, e0, e1, e2], h⟩
  · cases e1
def retE (e : Ev) (σ : Sg) : Option (O × Sg) := match e σ with | some (r, σ1) => takeR r σ1 | none => none
theorem wx_ret (e1 : retE e σ = some (o, σ2)) (h : Q (.rt o σ2)) : WX (xRet e) σ Q := by
  unfold retE at e1
  split at e1
  · rename_i r σ1 e0
    exact ⟨_, by simp only [xRet, e0, e1], h⟩
  · cases e1
theorem wx_retN (h : Q (.rt (.p .none) σ)) : WX xRetN σ Q := ⟨_, rfl, h⟩
theorem wx_drop (e1 : e σ = some (r, σ1)) (h : Q (.nx σ1)) : WX (xDrop e) σ Q := ⟨_, by simp only [xDrop, e1], h⟩
theorem wx_if {c : Bool} (e1 : t σ = some (c, σ1)) (h1 : c = true → WX a σ1 Q) (h2 : c = false → WX b σ1 Q) : WX (xIf t a b) σ Q := by
  cases c with
  | true =>
    obtain ⟨r, e, q⟩ := h1 rfl
    exact ⟨r, by simp only [xIf, e1, e], q⟩
  | false =>
    obtain ⟨r, e, q⟩ := h2 rfl
    exact ⟨r, by simp only [xIf, e1, e], q⟩
theorem wx_ifP {p : Prop} [Decidable p] (e1 : t σ = some (decide p, σ1)) (h1 : p → WX a σ1 Q) (h2 : ¬ p → WX b σ1 Q) : WX (xIf t a b) σ Q :=
  wx_if e1 (fun e => h1 (of_decide_eq_true e)) fun e => h2 (of_decide_eq_false e)
theorem wx_setItem {a i v : Ev} {ri : Rs} {n : Int} {xs : List D} {j : Nat} {σ4 : Sg} (e1 : frzE v σ = some (d, σ2)) (e3 : a σ2 = some (r, σ3)) (e4 : i σ3 = some (ri, σ4)) (e5 : peek ri σ4 = some (.int n)) (e6 : getL r σ4 = some xs) (e7 : ixN xs.length n = some j)
    (h : Q (.nx (putL r (xs.set j d) σ4))) : WX (xSetItem a i v) σ Q := by
  unfold frzE at e1
  split at e1
  · rename_i rv σ1 e0
    exact ⟨_, by simp only [xSetItem, e0, e1, e3, e4, e5, e6, e7], h⟩
  · cases e1
/-- a for loop by an invariant over what is done -/
theorem wx_forL {t : Tg} {body : Ex} (I : List D → Sg → Prop) (ds : List D) (hs : ∀ done d rest σ, done ++ d :: rest = ds → I done σ → ∃ σ1, t d σ = some σ1 ∧ WX body σ1 fun r => match r with
      | .nx σ2 => I (done ++ [d]) σ2
      | .ct σ2 => I (done ++ [d]) σ2
      | .bk σ2 => Q (.nx σ2)
      | .rt o σ2 => Q (.rt o σ2))
    (hd : ∀ σ, I ds σ → Q (.nx σ)) : ∀ (rest done : List D) (σ : Sg), ds = done ++ rest → I done σ → WX (forL t body rest) σ Q
  | [], done, σ, e, h => by
    rw [List.append_nil] at e
    subst e
    exact ⟨_, rfl, hd σ h⟩
  | d :: rest, done, σ, e, h => by
    obtain ⟨σ1, e1, r, e2, q⟩ := hs done d rest σ e.symm h
    have e' : ds = (done ++ [d]) ++ rest := by rw [e, List.append_assoc]; rfl
    unfold WX forL
    rw [e1]
    simp only [e2]
    cases r with
    | nx σ2 => exact wx_forL I ds hs hd rest (done ++ [d]) σ2 e' q
    | ct σ2 => exact wx_forL I ds hs hd rest (done ++ [d]) σ2 e' q
    | bk σ2 => exact ⟨_, rfl, q⟩
    | rt o σ2 => exact ⟨_, rfl, q⟩
theorem wx_for {it : Iv} {t : Tg} {body : Ex} {ds : List D} (I : List D → Sg → Prop) (e1 : it σ = some (ds, σ1)) (h0 : I [] σ1)
    (hs : ∀ done d rest σ, done ++ d :: rest = ds → I done σ → ∃ σ1, t d σ = some σ1 ∧ WX body σ1 fun r => match r with
      | .nx σ2 => I (done ++ [d]) σ2
      | .ct σ2 => I (done ++ [d]) σ2
      | .bk σ2 => Q (.nx σ2)
      | .rt o σ2 => Q (.rt o σ2))
    (hd : ∀ σ, I ds σ → Q (.nx σ)) : WX (xFor it t body) σ Q := by
  obtain ⟨r, e, q⟩ := wx_forL I ds hs hd ds [] σ1 rfl h0
  exact ⟨r, by simp only [xFor, e1, e], q⟩
theorem range_split {n : Nat} {f : Nat → D} {done rest : List D} {d : D} (h0 : done ++ d :: rest = (List.range n).map f) : done.length < n ∧ d = f done.length := by
  have h := h0.symm
  have hl := congrArg List.length h
  simp at hl
  have hd : ((List.range n).map f)[done.length]? = some d := by rw [h]; simp
  rw [List.getElem?_map, List.getElem?_range (by omega)] at hd
  exact ⟨by omega, (Option.some.inj hd).symm⟩
/-- over range(lo, lo + n): the invariant by the number of turns -/
theorem wx_rng {it : Iv} {t : Tg} {body : Ex} {lo : Int} {n : Nat} (I : Nat → Sg → Prop) (e1 : it σ = some (rngD lo n, σ1)) (h0 : I 0 σ1)
    (hs : ∀ k σ, k < n → I k σ → ∃ σ1, t (.int (lo + (k : Int))) σ = some σ1 ∧ WX body σ1 fun r => match r with
      | .nx σ2 => I (k + 1) σ2
      | .ct σ2 => I (k + 1) σ2
      | .bk σ2 => Q (.nx σ2)
      | .rt o σ2 => Q (.rt o σ2))
    (hd : ∀ σ, I n σ → Q (.nx σ)) : WX (xFor it t body) σ Q := by
  refine wx_for (fun done => I done.length) e1 h0 (fun done d rest σ e h => ?_) fun σ h => hd σ (by simpa [rngD] using h)
  obtain ⟨h1, h2⟩ := range_split e
  obtain ⟨σ1, e2, r, e3, q⟩ := hs done.length σ h1 h
  refine ⟨σ1, by rw [h2]; exact e2, r, e3, ?_⟩
  cases r with
  | nx σ2 => simpa using q
  | ct σ2 => simpa using q
  | bk σ2 => exact q
  | rt o σ2 => exact q
/-- over a mapped list -/
theorem wx_map {α : Type} {f : α → D} {it : Iv} {t : Tg} {body : Ex} {as : List α} (I : List α → Sg → Prop) (e1 : it σ = some (as.map f, σ1)) (h0 : I [] σ1)
    (hs : ∀ done x rest σ, done ++ x :: rest = as → I done σ → ∃ σ1, t (f x) σ = some σ1 ∧ WX body σ1 fun r => match r with
      | .nx σ2 => I (done ++ [x]) σ2
      | .ct σ2 => I (done ++ [x]) σ2
      | .bk σ2 => Q (.nx σ2)
      | .rt o σ2 => Q (.rt o σ2))
    (hd : ∀ σ, I as σ → Q (.nx σ)) : WX (xFor it t body) σ Q := by
  refine wx_for (fun done σ => ∃ l r, as = l ++ r ∧ done = l.map f ∧ I l σ) e1 ⟨[], as, rfl, rfl, h0⟩ (fun done d rest σ e h => ?_) fun σ h => ?_
  · obtain ⟨l, r, e2, e3, h⟩ := h
    subst e2 e3
    cases r with
    | nil =>
      rw [List.append_nil] at e
      have := congrArg List.length e.symm
      simp at this
    | cons x r =>
      rw [List.map_append, List.map_cons] at e
      have := List.append_cancel_left e.symm
      injection this with hx hr
      subst hx
      obtain ⟨σ1, e2, rr, e3, q⟩ := hs l x r σ rfl h
      refine ⟨σ1, e2, rr, e3, ?_⟩
      cases rr with
      | nx σ2 => exact ⟨l ++ [x], r, by simp, by simp, q⟩
      | ct σ2 => exact ⟨l ++ [x], r, by simp, by simp, q⟩
      | bk σ2 => exact q
      | rt o σ2 => exact q
  · obtain ⟨l, r, e2, e3, h⟩ := h
    subst e2
    have := congrArg List.length e3
    simp at this
    subst this
    rw [List.append_nil] at hd
    exact hd σ h
/-- a while loop by a measure -/
theorem wx_while {t : Tv} {body : Ex} (I : Nat → Sg → Prop) (m : Nat) (h0 : I m σ)
    (hs : ∀ m σ, I m σ → ∃ c σ1, t σ = some (c, σ1) ∧ if c = true then WX body σ1 fun r => match r with
      | .nx σ2 => ∃ m', m' < m ∧ I m' σ2
      | .ct σ2 => ∃ m', m' < m ∧ I m' σ2
      | .bk σ2 => Q (.nx σ2)
      | .rt o σ2 => Q (.rt o σ2) else Q (.nx σ1)) : WX (xWhile t body) σ Q := by
  have key : ∀ (m : Nat) (σ : Sg), I m σ → ∃ n r, whileN n t body σ = some r ∧ Q r := by
    intro m
    induction m using Nat.strongRecOn with
    | ind m ih =>
      intro σ h
      obtain ⟨c, σ1, e1, q⟩ := hs m σ h
      cases c with
      | false =>
        refine ⟨1, .nx σ1, ?_, by simpa using q⟩
        simp only [whileN, e1]
      | true =>
        rw [if_pos rfl] at q
        obtain ⟨r, e2, q⟩ := q
        cases r with
        | nx σ2 =>
          obtain ⟨m', hm, h'⟩ := q
          obtain ⟨n, r, e3, q3⟩ := ih m' hm σ2 h'
          exact ⟨n + 1, r, by simp only [whileN, e1, e2, e3], q3⟩
        | ct σ2 =>
          obtain ⟨m', hm, h'⟩ := q
          obtain ⟨n, r, e3, q3⟩ := ih m' hm σ2 h'
          exact ⟨n + 1, r, by simp only [whileN, e1, e2, e3], q3⟩
        | bk σ2 => exact ⟨1, .nx σ2, by simp only [whileN, e1, e2], q⟩
        | rt o σ2 => exact ⟨1, .rt o σ2, by simp only [whileN, e1, e2], q⟩
  obtain ⟨n, r, e, q⟩ := key m σ h0
  exact ⟨r, xWhile_of e, q⟩
end
/-- a function -/
def WF (f : Fn) (os : List O) (Q : O → List O → Prop) : Prop := ∃ o fs, f os = some (o, fs) ∧ Q o fs
def retQ (io : List Nat) (Q : O → List O → Prop) : Res → Prop
  | .rt o σ => ∃ fs, finals σ io = some fs ∧ Q o fs
  | .nx σ => ∃ fs, finals σ io = some fs ∧ Q (.p .none) fs
  | _ => False
theorem wf_fn {np n : Nat} {io : List Nat} {body : Ex} {os : List O} {Q : O → List O → Prop} (hl : os.length = np) (h : WX body (os.map some ++ List.replicate (n - np) none) (retQ io Q)) : WF (mkFn np n io body) os Q := by
  obtain ⟨r, e, q⟩ := h
  cases r with
  | rt o σ =>
    obtain ⟨fs, e2, q⟩ := q
    exact ⟨o, fs, by simp only [mkFn, hl, if_true, e, e2], q⟩
  | nx σ =>
    obtain ⟨fs, e2, q⟩ := q
    exact ⟨.p .none, fs, by simp only [mkFn, hl, if_true, e, e2], q⟩
  | bk σ => exact q.elim
  | ct σ => exact q.elim
/-- a comprehension -/
theorem lc_map {α : Type} {f : α → D} {own : List Nat} {t : Tg} {c : Tv} {e : Ev} (I : List α → List D → Sg → Prop) (as : List α)
    (hs : ∀ done x rest ys σ, done ++ x :: rest = as → I done ys σ → ∃ σ2, t (f x) σ = some σ2 ∧ ∃ b σ3, c σ2 = some (b, σ3) ∧ if b = true then ∃ y σ5, frzE e σ3 = some (y, σ5) ∧ I (done ++ [x]) (ys ++ [y]) (wipeE σ5 own) else I (done ++ [x]) ys (wipeE σ3 own)) :
    ∀ (rest done : List α) (ys0 : List D) (σ : Sg), as = done ++ rest → I done ys0 σ → ∃ ys σ', lcL own t c e (rest.map f) σ = some (ys, σ') ∧ I as (ys0 ++ ys) σ'
  | [], done, ys0, σ, e0, h => by
    rw [List.append_nil] at e0
    subst e0
    exact ⟨[], σ, rfl, by rw [List.append_nil]; exact h⟩
  | x :: rest, done, ys0, σ, e0, h => by
    obtain ⟨σ2, e1, b, σ3, e2, q⟩ := hs done x rest ys0 σ e0.symm h
    have e' : as = (done ++ [x]) ++ rest := by rw [e0, List.append_assoc]; rfl
    rw [List.map_cons]
    unfold lcL
    rw [e1]
    simp only [e2]
    cases b with
    | false =>
      simp only [if_neg Bool.false_ne_true] at q
      obtain ⟨ys, σ', e3, q3⟩ := lc_map I as hs rest (done ++ [x]) ys0 _ e' q
      exact ⟨ys, σ', e3, q3⟩
    | true =>
      simp only [if_true] at q
      obtain ⟨y, σ5, e3, q3⟩ := q
      unfold frzE at e3
      split at e3
      · rename_i r σ4 e4
        obtain ⟨ys, σ', e5, q5⟩ := lc_map I as hs rest (done ++ [x]) (ys0 ++ [y]) _ e' q3
        refine ⟨y :: ys, σ', ?_, by simpa using q5⟩
        simp only [e4, e3, e5]
      · cases e3
end
end PV

set_option Elab.async false
set_option linter.all false
set_option maxRecDepth 100000
set_option maxHeartbeats 1000000
/-! PVx: computing with the combinators -/
namespace PV
noncomputable section
open PySem PySem.Spec L2
open PyProof.Rows hiding St
open PySem.W (dataLt)

section
variable {i j : Int} {x y : Str} {ds es : List D} {d e : D} {b c : Bool}
theorem c_mulR (h1 : -18446744073709551616 < j) (h2 : j < 18446744073709551616) : mul2D (.int i) (.int j) = some (.ex (.int (i * j))) := if_pos (.inl (.inr ⟨by omega, by omega⟩))
theorem c_mulL (h1 : -18446744073709551616 < i) (h2 : i < 18446744073709551616) : mul2D (.int i) (.int j) = some (.ex (.int (i * j))) := if_pos (.inl (.inl ⟨by omega, by omega⟩))
theorem log2_small {n : Nat} (h : n < 18446744073709551616) : n.log2 < 64 := by
  by_cases h0 : n = 0
  · subst h0; decide
  · exact (Nat.log2_lt h0).mpr (by simpa using h)
theorem c_div (h1 : 0 < j) (h2 : j < 18446744073709551616) : divD (.int i) (.int j) = some (.ex (.int (i / j))) := by
  have := log2_small (n := j.natAbs) (by omega)
  exact if_pos ⟨h1, by omega⟩
theorem c_mod (h1 : 0 < j) : modD (.int i) (.int j) = some (.ex (.int (i % j))) := if_pos h1
theorem c_add : addD (.int i) (.int j) = some (.ex (.int (i + j))) := rfl
theorem c_addS (h : x.length + y.length ≤ sizeLine) : addD (.str x) (.str y) = some (.ex (.str (x ++ y))) := if_pos h
theorem c_addL (h : ds.length + es.length ≤ sizeLine) : addD (.list ds) (.list es) = some (.ls (ds ++ es)) := if_pos h
theorem c_addT (h : ds.length + es.length ≤ sizeLine) : addD (.tuple ds) (.tuple es) = some (.te (ds ++ es)) := if_pos h
theorem c_sub : subD (.int i) (.int j) = some (.ex (.int (i - j))) := rfl
theorem c_neg : negD (.int i) = some (.ex (.int (-i))) := rfl
theorem c_eqI : eqD (.int i) (.int j) = some (.ex (.bool (decide (i = j)))) := rfl
theorem c_neI : neD (.int i) (.int j) = some (.ex (.bool (!decide (i = j)))) := rfl
theorem c_eqS : eqD (.str x) (.str y) = some (.ex (.bool (decide (x = y)))) := rfl
theorem c_neS : neD (.str x) (.str y) = some (.ex (.bool (!decide (x = y)))) := rfl
theorem c_eqB : eqD (.bool b) (.bool c) = some (.ex (.bool (decide (b = c)))) := rfl
theorem c_ltI : ltD (.int i) (.int j) = some (.ex (.bool (decide (i < j)))) := rfl
theorem c_gtI : gtD (.int i) (.int j) = some (.ex (.bool (decide (j < i)))) := rfl
theorem c_leI : leD (.int i) (.int j) = some (.ex (.bool (decide (i ≤ j)))) := rfl
theorem c_geI : geD (.int i) (.int j) = some (.ex (.bool (decide (j ≤ i)))) := rfl
theorem c_lenL : lenD [.list ds] = some (.ex (.int ds.length)) := rfl
theorem c_lenT : lenD [.tuple ds] = some (.ex (.int ds.length)) := rfl
theorem c_lenS (h : x.length ≤ sizeLine) : lenD [.str x] = some (.ex (.int x.length)) := if_pos h
theorem c_append (h : ds.length < sizeLine) : appendD ds [d] = some (ds ++ [d], .none) := if_pos h
/-- an item by its place -/
theorem c_ixN {n : Nat} (h0 : 0 ≤ i) (h1 : i < n) : ixN n i = some i.toNat := by
  unfold ixN
  rw [if_pos h0, if_pos h1]
theorem c_atI {α : Type} {xs : List α} {z : α} (h0 : 0 ≤ i) (h : xs[i.toNat]? = some z) : atI xs i = some z := by
  have hl := (List.getElem?_eq_some_iff.mp h).1
  unfold atI
  rw [c_ixN h0 (by omega)]
  exact h
theorem c_atL (h0 : 0 ≤ i) (h : ds[i.toNat]? = some d) : atD (.list ds) (.int i) = some d := c_atI h0 h
theorem c_atT (h0 : 0 ≤ i) (h : ds[i.toNat]? = some d) : atD (.tuple ds) (.int i) = some d := c_atI h0 h
theorem c_atN {k : Nat} (h : ds[k]? = some d) : atD (.list ds) (.int (k : Int)) = some d := c_atL (by omega) (by simpa using h)
theorem c_atTN {k : Nat} (h : ds[k]? = some d) : atD (.tuple ds) (.int (k : Int)) = some d := c_atT (by omega) (by simpa using h)
theorem szl : sizeLine = 16777216 := sizeLine_eq
theorem c_rng0 {k : Nat} (h : k < 4611686018427387904) {σ : Sg} {as : Av} {cs : List Hd} {σ1 : Sg} (e1 : as σ = some (cs, σ1)) (e2 : unholds cs σ1 = some [.int (k : Int)]) : iRng1 as σ = some (rngD 0 k, σ1) := by
  simp only [iRng1, e1, e2]
  rw [cpos ⟨by omega, by omega⟩]
  simp
theorem c_rngI {j : Int} (h0 : 0 ≤ j) (h : j < 4611686018427387904) {σ : Sg} {as : Av} {cs : List Hd} {σ1 : Sg} (e1 : as σ = some (cs, σ1)) (e2 : unholds cs σ1 = some [.int j]) : iRng1 as σ = some (rngD 0 j.toNat, σ1) := by
  simp only [iRng1, e1, e2]
  rw [cpos ⟨by omega, by omega⟩]
end
/-! ### comprehensions that change nothing -/
theorem getD_set_none {σ : Sg} {v : Nat} {l : Sg} (hl : l.length = σ.length) (h : ∀ i, i ≠ v → l[i]? = σ[i]?) : l.set v (match σ[v]? with | some x => x | none => none) = σ := by
  apply List.ext_getElem?
  intro i
  by_cases e : i = v
  · subst e
    by_cases hi : i < σ.length
    · rw [List.getElem?_set_self (by omega)]
      rw [List.getElem?_eq_getElem hi]
    · rw [List.getElem?_eq_none (by simp; omega), List.getElem?_eq_none (by omega)]
  · rw [List.getElem?_set_ne (Ne.symm e), h i e]
theorem wipeE_ne {σ : Sg} {i : Nat} : ∀ {own : List Nat}, i ∉ own → (wipeE σ own)[i]? = σ[i]?
  | [], _ => rfl
  | v :: vs, h => by
    unfold wipeE
    have hne : v ≠ i := fun e => h (by rw [e]; exact List.mem_cons_self)
    rw [List.getElem?_set_ne hne, wipeE_ne fun q => h (List.mem_cons_of_mem _ q)]
theorem backE_at {σ σ1 : Sg} (hl : σ1.length = σ.length) {i : Nat} : ∀ {own : List Nat}, (i ∈ own ∨ σ1[i]? = σ[i]?) → (backE σ σ1 own)[i]? = σ[i]?
  | [], h => by
    rcases h with h | h
    · simp at h
    · exact h
  | v :: vs, h => by
    unfold backE
    by_cases e : i = v
    · subst e
      by_cases hi : i < σ.length
      · rw [List.getElem?_set_self (by rw [backE_len]; omega), List.getElem?_eq_getElem hi]
      · rw [List.getElem?_eq_none (by simp [backE_len]; omega), List.getElem?_eq_none (by omega)]
    · rw [List.getElem?_set_ne (Ne.symm e)]
      refine backE_at hl ?_
      rcases h with h | h
      · rcases List.mem_cons.mp h with h | h
        · exact absurd h e
        · exact .inl h
      · exact .inr h
theorem backE_wipe (σ : Sg) (own : List Nat) : backE σ (wipeE σ own) own = σ := by
  apply List.ext_getElem?
  intro i
  refine backE_at (wipeE_len _ _) ?_
  by_cases h : i ∈ own
  · exact .inl h
  · exact .inr (wipeE_ne h)
theorem lc_pure {α : Type} {f : α → D} {own : List Nat} {it : Iv} {t : Tg} {c : Tv} {e : Ev} {σ σ1 : Sg} {as : List α} (b : α → Bool) (v : α → D) (e1 : it σ = some (as.map f, σ1))
    (h : ∀ x, x ∈ as → ∃ σ2, t (f x) (wipeE σ1 own) = some σ2 ∧ c σ2 = some (b x, σ2) ∧ (b x = true → frzE e σ2 = some (v x, σ2)) ∧ wipeE σ2 own = wipeE σ1 own) (hz : as.length ≤ sizeLine) :
    eLc own it t c e σ = some (.v (.l ((as.filter b).map v)), σ1) := by
  obtain ⟨ys, σ', e2, h1, h2⟩ := lc_map (own := own) (f := f) (t := t) (c := c) (e := e) (fun done ys σ => ys = (done.filter b).map v ∧ σ = wipeE σ1 own) as (fun done x rest ys σ e0 hI => by
    obtain ⟨rfl, rfl⟩ := hI
    obtain ⟨σ2, g1, g2, g3, g4⟩ := h x (by rw [← e0]; simp)
    refine ⟨σ2, g1, b x, σ2, g2, ?_⟩
    by_cases hb : b x = true
    · rw [if_pos hb]
      exact ⟨v x, σ2, g3 hb, by simp [hb], g4⟩
    · rw [if_neg hb]
      exact ⟨by simp [hb], g4⟩) as [] [] (wipeE σ1 own) rfl ⟨rfl, rfl⟩
  rw [List.nil_append] at h1
  subst h1 h2
  have hl : ((as.filter b).map v).length ≤ sizeLine := by rw [List.length_map]; exact Nat.le_trans (List.length_filter_le _ _) hz
  simp only [eLc, e1, e2]
  rw [cpos hl, backE_wipe]
theorem lc_pure0 {α : Type} {f : α → D} {own : List Nat} {it : Iv} {t : Tg} {e : Ev} {σ σ1 : Sg} {as : List α} (v : α → D) (e1 : it σ = some (as.map f, σ1))
    (h : ∀ x, x ∈ as → ∃ σ2, t (f x) (wipeE σ1 own) = some σ2 ∧ frzE e σ2 = some (v x, σ2) ∧ wipeE σ2 own = wipeE σ1 own) (hz : as.length ≤ sizeLine) :
    eLc own it t tvYes e σ = some (.v (.l (as.map v)), σ1) := by
  have := lc_pure (own := own) (it := it) (t := t) (c := tvYes) (e := e) (fun _ => true) v e1 (fun x hx => by
    obtain ⟨σ2, g1, g2, g3⟩ := h x hx
    exact ⟨σ2, g1, rfl, fun _ => g2, g3⟩) hz
  have e2 : as.filter (fun _ => true) = as := List.filter_eq_self.mpr fun _ _ => rfl
  rwa [e2] at this
theorem eIf_int {p : Prop} [Decidable p] {t : Tv} {a b : Ev} {σ : Sg} {x y : Int} (h1 : t σ = some (decide p, σ)) (h2 : p → a σ = some (.v (.p (.int x)), σ)) (h3 : ¬ p → b σ = some (.v (.p (.int y)), σ)) :
    eIfE t a b σ = some (.v (.p (.int (if p then x else y))), σ) := by
  unfold eIfE
  rw [h1]
  by_cases hp : p
  · rw [decide_eq_true hp, if_pos hp]; exact h2 hp
  · rw [decide_eq_false hp, if_neg hp]; exact h3 hp
theorem eIf_val {p : Prop} [Decidable p] {t : Tv} {a b : Ev} {σ : Sg} {x y : D} (h1 : t σ = some (decide p, σ)) (h2 : p → a σ = some (.v (.p x), σ)) (h3 : ¬ p → b σ = some (.v (.p y), σ)) :
    eIfE t a b σ = some (.v (.p (if p then x else y)), σ) := by
  unfold eIfE
  rw [h1]
  by_cases hp : p
  · rw [decide_eq_true hp, if_pos hp]; exact h2 hp
  · rw [decide_eq_false hp, if_neg hp]; exact h3 hp
theorem ixN_nat {n k : Nat} (h : k < n) : ixN n (k : Int) = some k := by
  rw [c_ixN (by omega) (by omega)]
  simp
/-- xs[k] = d, nothing else changed on the way -/
theorem wx_setItemN {a i v : Ev} {σ : Sg} {Q : Res → Prop} {d : D} {r : Rs} {k : Nat} {xs : List D} (e1 : frzE v σ = some (d, σ)) (e3 : a σ = some (r, σ)) (e4 : i σ = some (.v (.p (.int (k : Int))), σ)) (e6 : getL r σ = some xs) (hk : k < xs.length)
    (h : Q (.nx (putL r (xs.set k d) σ))) : WX (xSetItem a i v) σ Q := wx_setItem e1 e3 e4 rfl e6 (ixN_nat hk) h
theorem c_rep {ds : List D} {k : Nat} (h0 : k < 9223372036854775808) (h : ds.length * k ≤ 16777216) : mul2D (.list ds) (.int (k : Int)) = some (.ls (List.replicate k ds).flatten) := by
  have e : ((k : Int)).toNat = k := by simp
  have hc : -(2 ^ 63) ≤ (k : Int) ∧ (k : Int) < 2 ^ 63 ∧ ds.length * (k : Int).toNat ≤ 2 ^ 24 := by
    rw [e]
    refine ⟨by omega, by omega, by omega⟩
  unfold mul2D
  dsimp only
  rw [cpos hc, e]
theorem ofS (a b : String) : (Str.ofString a = Str.ofString b) = (a = b) := by
  apply propext
  constructor
  · intro h
    rw [Str.ofString_eq_toList, Str.ofString_eq_toList] at h
    have h2 : a.toList.map Char.toNat = b.toList.map Char.toNat := by
      have := congrArg (fun s : Str => s.cps.toList) h
      simpa using this
    have h3 : a.toList = b.toList := by
      refine List.map_inj_right (f := Char.toNat) ?_ |>.mp h2
      intro x y e
      exact Char.ext (UInt32.toNat_inj.mp e)
    exact String.toList_inj.mp h3
  · intro h; rw [h]
theorem ch_le_lt {a b c : Ev} {σ : Sg} {x y z : Int} (ha : a σ = some (.v (.p (.int x)), σ)) (hb : b σ = some (.v (.p (.int y)), σ)) (hc : c σ = some (.v (.p (.int z)), σ)) :
    eChain leD ltD a b c σ = some (.v (.p (.bool (decide (x ≤ y ∧ y < z)))), σ) := by
  simp only [eChain, ha, hb, hc, hold, frz, take, toD, toD1, unhold, peek, pkO, leD, ltD]
  by_cases h1 : x ≤ y
  · by_cases h2 : y < z <;> simp [h1, h2]
  · simp [h1]
theorem and_val {a b : Ev} {σ : Sg} {x y : Bool} (ha : a σ = some (.v (.p (.bool x)), σ)) (hb : x = true → b σ = some (.v (.p (.bool y)), σ)) : eAndE a b σ = some (.v (.p (.bool (x && y))), σ) := by
  unfold eAndE
  rw [ha]
  cases x with
  | true => exact (hb rfl)
  | false => rfl
theorem or_val {a b : Ev} {σ : Sg} {x y : Bool} (ha : a σ = some (.v (.p (.bool x)), σ)) (hb : x = false → b σ = some (.v (.p (.bool y)), σ)) : eOrE a b σ = some (.v (.p (.bool (x || y))), σ) := by
  unfold eOrE
  rw [ha]
  cases x with
  | true => rfl
  | false => exact (hb rfl)
theorem tand_val {a b : Tv} {σ : Sg} {x y : Bool} (ha : a σ = some (x, σ)) (hb : x = true → b σ = some (y, σ)) : tAndE a b σ = some (x && y, σ) := by
  unfold tAndE
  rw [ha]
  cases x with
  | true => exact (hb rfl)
  | false => rfl
theorem tor_val {a b : Tv} {σ : Sg} {x y : Bool} (ha : a σ = some (x, σ)) (hb : x = false → b σ = some (y, σ)) : tOrE a b σ = some (x || y, σ) := by
  unfold tOrE
  rw [ha]
  cases x with
  | true => rfl
  | false => exact (hb rfl)
theorem tOf_val {e : Ev} {σ : Sg} {x : Bool} (h : e σ = some (.v (.p (.bool x)), σ)) : tOf e σ = some (x, σ) := by
  unfold tOf
  rw [h]
/-- return of a value -/
theorem wx_retV {e : Ev} {σ σ1 : Sg} {d : D} {Q : Res → Prop} (h : e σ = some (.v (.p d), σ1)) (q : Q (.rt (.p d) σ1)) : WX (xRet e) σ Q := wx_ret (by unfold retE; rw [h]; rfl) q
theorem kb_NoneType_bool : kitB "NoneType" "bool" = some false := by decide +kernel
theorem kb_NoneType_int : kitB "NoneType" "int" = some false := by decide +kernel
theorem kb_NoneType_str : kitB "NoneType" "str" = some false := by decide +kernel
theorem kb_NoneType_list : kitB "NoneType" "list" = some false := by decide +kernel
theorem kb_NoneType_tuple : kitB "NoneType" "tuple" = some false := by decide +kernel
theorem kb_bool_bool : kitB "bool" "bool" = some true := by decide +kernel
theorem kb_bool_int : kitB "bool" "int" = some true := by decide +kernel
theorem kb_bool_str : kitB "bool" "str" = some false := by decide +kernel
theorem kb_bool_list : kitB "bool" "list" = some false := by decide +kernel
theorem kb_bool_tuple : kitB "bool" "tuple" = some false := by decide +kernel
theorem kb_int_bool : kitB "int" "bool" = some false := by decide +kernel
theorem kb_int_int : kitB "int" "int" = some true := by decide +kernel
theorem kb_int_str : kitB "int" "str" = some false := by decide +kernel
theorem kb_int_list : kitB "int" "list" = some false := by decide +kernel
theorem kb_int_tuple : kitB "int" "tuple" = some false := by decide +kernel
theorem kb_str_bool : kitB "str" "bool" = some false := by decide +kernel
theorem kb_str_int : kitB "str" "int" = some false := by decide +kernel
theorem kb_str_str : kitB "str" "str" = some true := by decide +kernel
theorem kb_str_list : kitB "str" "list" = some false := by decide +kernel
theorem kb_str_tuple : kitB "str" "tuple" = some false := by decide +kernel
theorem kb_list_bool : kitB "list" "bool" = some false := by decide +kernel
theorem kb_list_int : kitB "list" "int" = some false := by decide +kernel
theorem kb_list_str : kitB "list" "str" = some false := by decide +kernel
theorem kb_list_list : kitB "list" "list" = some true := by decide +kernel
theorem kb_list_tuple : kitB "list" "tuple" = some false := by decide +kernel
theorem kb_tuple_bool : kitB "tuple" "bool" = some false := by decide +kernel
theorem kb_tuple_int : kitB "tuple" "int" = some false := by decide +kernel
theorem kb_tuple_str : kitB "tuple" "str" = some false := by decide +kernel
theorem kb_tuple_list : kitB "tuple" "list" = some false := by decide +kernel
theorem kb_tuple_tuple : kitB "tuple" "tuple" = some true := by decide +kernel
theorem or_val1 {a b : Ev} {σ σ1 : Sg} {x y : Bool} (ha : a σ = some (.v (.p (.bool x)), σ1)) (hb : x = false → b σ1 = some (.v (.p (.bool y)), σ1)) : eOrE a b σ = some (.v (.p (.bool (x || y))), σ1) := by
  unfold eOrE
  rw [ha]
  cases x with
  | true => rfl
  | false => exact (hb rfl)
theorem wx_setV {e : Ev} {σ σ1 : Sg} {i : Nat} {d : D} {Q : Res → Prop} (h : e σ = some (.v (.p d), σ1)) (q : Q (.nx (σ1.set i (some (.p d))))) : WX (xSet i e) σ Q := wx_set h rfl q
theorem eIf_litI {t : Tv} {x y : Int} {σ : Sg} : eIfE t (eD (.int x)) (eD (.int y)) σ = match t σ with | some (c, σ1) => some (.v (.p (.int (if c = true then x else y))), σ1) | none => none := by
  unfold eIfE
  cases t σ with
  | none => rfl
  | some p =>
    obtain ⟨c, σ1⟩ := p
    cases c <;> rfl
/-- a comprehension by an invariant -/
theorem lc_state {α : Type} {f : α → D} {own : List Nat} {it : Iv} {t : Tg} {c : Tv} {e : Ev} {σ σ1 : Sg} {as : List α} (I : List α → List D → Sg → Prop) (e1 : it σ = some (as.map f, σ1)) (h0 : I [] [] (wipeE σ1 own))
    (hs : ∀ done x rest ys σ, done ++ x :: rest = as → I done ys σ → ∃ σ2, t (f x) σ = some σ2 ∧ ∃ b σ3, c σ2 = some (b, σ3) ∧ if b = true then ∃ y σ5, frzE e σ3 = some (y, σ5) ∧ I (done ++ [x]) (ys ++ [y]) (wipeE σ5 own) else I (done ++ [x]) ys (wipeE σ3 own))
    (hz : ∀ ys σ', I as ys σ' → ys.length ≤ sizeLine) : ∃ ys σ', eLc own it t c e σ = some (.v (.l ys), backE σ1 σ' own) ∧ I as ys σ' := by
  obtain ⟨ys, σ', e2, h⟩ := lc_map (own := own) (f := f) (t := t) (c := c) (e := e) I as hs as [] [] (wipeE σ1 own) rfl h0
  rw [List.nil_append] at h
  refine ⟨ys, σ', ?_, h⟩
  simp only [eLc, e1, e2]
  rw [cpos (hz ys σ' h)]
theorem isc_none : isSc (.p .none) = true := rfl
theorem isc_bool {b : Bool} : isSc (.p (.bool b)) = true := rfl
theorem isc_int {b : Int} : isSc (.p (.int b)) = true := rfl
theorem isc_str {b : Str} : isSc (.p (.str b)) = true := rfl
theorem isc_list {b : List D} : isSc (.p (.list b)) = false := rfl
theorem isc_tuple {b : List D} : isSc (.p (.tuple b)) = false := rfl
theorem isc_l {b : List D} : isSc (.l b) = false := rfl
theorem isc_n {b : List O} : isSc (.n b) = false := rfl
theorem ite_same {c : Prop} [Decidable c] {a : Sg} : (if c then a else a) = a := by by_cases h : c <;> simp [h]
theorem inD_list {d : D} {ds : List D} (h : CmpOk d (.list ds)) : inD d (.list ds) = some (.ex (.bool (ds.any fun z => PyData.eqv z d))) := by
  unfold inD memD
  dsimp only
  rw [cpos h]
theorem inD_tuple {d : D} {ds : List D} (h : CmpOk d (.tuple ds)) : inD d (.tuple ds) = some (.ex (.bool (ds.any fun z => PyData.eqv z d))) := by
  unfold inD memD
  dsimp only
  rw [cpos h]
theorem ninD_list {d : D} {ds : List D} (h : CmpOk d (.list ds)) : ninD d (.list ds) = some (.ex (.bool (!ds.any fun z => PyData.eqv z d))) := by
  unfold ninD memD
  dsimp only
  rw [cpos h]
theorem ninD_tuple {d : D} {ds : List D} (h : CmpOk d (.tuple ds)) : ninD d (.tuple ds) = some (.ex (.bool (!ds.any fun z => PyData.eqv z d))) := by
  unfold ninD memD
  dsimp only
  rw [cpos h]
theorem eqD_data {d e : D} (hs : scD d e = none) (h : CmpOk d e) : eqD d e = some (.ex (.bool (PyData.eqv d e))) := by
  unfold eqD peq
  rw [hs]
  dsimp only
  rw [cpos h]
theorem neD_data {d e : D} (hs : scD d e = none) (h : CmpOk d e) : neD d e = some (.ex (.bool (!PyData.eqv d e))) := by
  unfold neD peq
  rw [hs]
  dsimp only
  rw [cpos h]
end
end PV

set_option Elab.async false
set_option linter.all false
set_option maxRecDepth 100000
set_option maxHeartbeats 1000000
/-! KS1: workshops as Lean data -/
namespace KW
open PySem PV

def dPair (p : Int × Int) : D := .tuple [.int p.1, .int p.2]
def dShop (p : Int × Nat) : D := .tuple [.int p.1, .int (p.2 : Int)]
def dNat (n : Nat) : D := .int (n : Int)
structure Kind where
  name : Str
  limit : Int
  table : List (Int × Int)
  spare : Bool
  days : Int
structure Slot where
  name : Str
  kind : Str
  worth : Int
structure Person where
  name : Str
  skills : List Str
structure Event where
  name : Str
  hours : List Int
  fails : List Nat
structure Works where
  kinds : List Kind
  slots : List Slot
  people : List Person
  events : List Event
  worth : Int
structure State where
  wears : List Int
  stores : List Int
  shop : List (Int × Nat)
instance : Inhabited Kind := ⟨⟨default, 0, [], false, 0⟩⟩
instance : Inhabited Event := ⟨⟨default, [], []⟩⟩
instance : Inhabited Slot := ⟨⟨default, default, 0⟩⟩
def dKind (k : Kind) : D := .tuple [.str k.name, .int k.limit, .tuple (k.table.map dPair), .bool k.spare, .int k.days]
def dSlot (s : Slot) : D := .tuple [.str s.name, .str s.kind, .int s.worth]
def dPerson (p : Person) : D := .tuple [.str p.name, .tuple (p.skills.map PyData.str)]
def dEvent (e : Event) : D := .tuple [.str e.name, .tuple (e.hours.map PyData.int), .tuple (e.fails.map dNat)]
def dWorks (w : Works) : D := .tuple [.tuple (w.kinds.map dKind), .tuple (w.slots.map dSlot), .tuple (w.people.map dPerson), .tuple (w.events.map dEvent), .int w.worth]
def dState (s : State) : D := .tuple [.tuple (s.wears.map PyData.int), .tuple (s.stores.map PyData.int), .tuple (s.shop.map dShop)]
def dChoice (c : List Nat) : D := .tuple (c.map dNat)

def wearOf (t : List (Int × Int)) (h : Int) : Int := t.foldl (fun a p => if p.1 ≤ h then p.2 else a) 0
/-- the place of a slot's kind -/
def kindIx (w : Works) (s : Nat) : Nat := w.kinds.findIdx fun k => decide (k.name = (w.slots.getD s default).kind)
def kindOf (w : Works) (s : Nat) : Kind := w.kinds.getD (kindIx w s) default
/-- what every drawn workshop is -/
structure WOk (w : Works) : Prop where
  nk : w.kinds.length ≤ 100
  ns : w.slots.length ≤ 100
  ne : w.events.length ≤ 100
  kin : ∀ s, s < w.slots.length → kindIx w s < w.kinds.length
  days : ∀ k ∈ w.kinds, 0 ≤ k.days ∧ (0 < k.days → k.spare = true)
  lim : ∀ k ∈ w.kinds, 0 ≤ k.limit
  hours : ∀ e ∈ w.events, e.hours.length = w.slots.length
  fails : ∀ e ∈ w.events, ∀ s ∈ e.fails, s < w.slots.length
structure SOk (w : Works) (s : State) : Prop where
  wears : s.wears.length = w.slots.length
  stores : s.stores.length = w.kinds.length
  shop : ∀ p ∈ s.shop, 1 ≤ p.1 ∧ p.2 < w.kinds.length ∧ (w.kinds.getD p.2 default).spare = true
  few : s.shop.length ≤ 1000000
  none : ∀ k, k < w.kinds.length → (w.kinds.getD k default).spare = false → s.stores.getD k 0 = 0
  pos : ∀ x ∈ s.stores, 0 ≤ x

theorem eqF {f : Fn} {os : List O} {o : O} {fs : List O} (h : WF f os fun o' fs' => o' = o ∧ fs' = fs) : f os = some (o, fs) := by
  obtain ⟨o', fs', e, rfl, rfl⟩ := h
  exact e
/-- equal texts and numbers, without truth values -/
theorem beqI (i j : Int) : (i == j) = decide (i = j) := by rw [Bool.eq_iff_iff, beq_iff_eq, decide_eq_true_eq]
theorem eqv_int (i j : Int) : PyData.eqv (.int i) (.int j) = decide (i = j) := by simp only [PyData.eqv]; exact beqI i j
theorem eqv_str (x y : Str) : PyData.eqv (.str x) (.str y) = decide (x = y) := by simp only [PyData.eqv]; rw [Bool.eq_iff_iff, beq_iff_eq, decide_eq_true_eq]
theorem eqv_nat (i j : Nat) : PyData.eqv (dNat i) (dNat j) = decide (i = j) := by
  unfold dNat
  rw [eqv_int]
  exact decide_eq_decide.mpr (by omega)
theorem plain_ints (l : List Int) : PyData.plainAll (l.map PyData.int) = true := by induction l <;> simp_all [PyData.plainAll, PyData.plain]
theorem plain_strs (l : List Str) : PyData.plainAll (l.map PyData.str) = true := by induction l <;> simp_all [PyData.plainAll, PyData.plain]
theorem plain_nats (l : List Nat) : PyData.plainAll (l.map dNat) = true := by induction l <;> simp_all [PyData.plainAll, PyData.plain, dNat]
theorem depth_ints (l : List Int) : PyData.depthAll (l.map PyData.int) = 0 := by induction l <;> simp_all [PyData.depthAll, PyData.depth]
theorem depth_strs (l : List Str) : PyData.depthAll (l.map PyData.str) = 0 := by induction l <;> simp_all [PyData.depthAll, PyData.depth]
theorem depth_nats (l : List Nat) : PyData.depthAll (l.map dNat) = 0 := by induction l <;> simp_all [PyData.depthAll, PyData.depth, dNat]
theorem any_nats (l : List Nat) (i : Nat) : ((l.map dNat).any fun z => PyData.eqv z (dNat i)) = decide (i ∈ l) := by
  induction l with
  | nil => simp
  | cons a l ih =>
    rw [List.map_cons, List.any_cons, ih, eqv_nat]
    simp only [List.mem_cons, Bool.decide_or]
    congr 1
    exact decide_eq_decide.mpr eq_comm
theorem any_strs (l : List Str) (x : Str) : ((l.map PyData.str).any fun z => PyData.eqv z (.str x)) = decide (x ∈ l) := by
  induction l with
  | nil => simp
  | cons a l ih =>
    rw [List.map_cons, List.any_cons, ih, eqv_str]
    simp only [List.mem_cons, Bool.decide_or]
    congr 1
    exact decide_eq_decide.mpr eq_comm
/-- i in (a tuple of places) -/
theorem c_inNT (l : List Nat) (i : Nat) : inD (.int (i : Int)) (.tuple (l.map dNat)) = some (.ex (.bool (decide (i ∈ l)))) := by
  have h : CmpOk (.int (i : Int)) (.tuple (l.map dNat)) := ⟨rfl, by simp [shp, PyData.plain, PyData.depth, plain_nats, depth_nats]⟩
  unfold inD memD
  dsimp only
  rw [cpos h]
  show some (Out.ex (.bool ((l.map dNat).any fun z => PyData.eqv z (dNat i)))) = _
  rw [any_nats]
theorem c_inNL (l : List Nat) (i : Nat) : inD (.int (i : Int)) (.list (l.map dNat)) = some (.ex (.bool (decide (i ∈ l)))) := by
  have h : CmpOk (.int (i : Int)) (.list (l.map dNat)) := ⟨rfl, by simp [shp, PyData.plain, PyData.depth, plain_nats, depth_nats]⟩
  unfold inD memD
  dsimp only
  rw [cpos h]
  show some (Out.ex (.bool ((l.map dNat).any fun z => PyData.eqv z (dNat i)))) = _
  rw [any_nats]
theorem c_inST (l : List Str) (x : Str) : inD (.str x) (.tuple (l.map PyData.str)) = some (.ex (.bool (decide (x ∈ l)))) := by
  have h : CmpOk (.str x) (.tuple (l.map PyData.str)) := ⟨rfl, by simp [shp, PyData.plain, PyData.depth, plain_strs, depth_strs]⟩
  unfold inD memD
  dsimp only
  rw [cpos h, any_strs]
theorem c_inSL (l : List Str) (x : Str) : inD (.str x) (.list (l.map PyData.str)) = some (.ex (.bool (decide (x ∈ l)))) := by
  have h : CmpOk (.str x) (.list (l.map PyData.str)) := ⟨rfl, by simp [shp, PyData.plain, PyData.depth, plain_strs, depth_strs]⟩
  unfold inD memD
  dsimp only
  rw [cpos h, any_strs]
theorem ok_nats (l : List Nat) (i : Nat) : CmpOk (.int (i : Int)) (.tuple (l.map dNat)) ∧ CmpOk (.int (i : Int)) (.list (l.map dNat)) :=
  ⟨⟨rfl, by simp [shp, PyData.plain, PyData.depth, plain_nats, depth_nats]⟩, ⟨rfl, by simp [shp, PyData.plain, PyData.depth, plain_nats, depth_nats]⟩⟩
theorem ok_strs (l : List Str) (x : Str) : CmpOk (.str x) (.tuple (l.map PyData.str)) ∧ CmpOk (.str x) (.list (l.map PyData.str)) :=
  ⟨⟨rfl, by simp [shp, PyData.plain, PyData.depth, plain_strs, depth_strs]⟩, ⟨rfl, by simp [shp, PyData.plain, PyData.depth, plain_strs, depth_strs]⟩⟩
theorem c_ninNT (l : List Nat) (i : Nat) : ninD (.int (i : Int)) (.tuple (l.map dNat)) = some (.ex (.bool (!decide (i ∈ l)))) := by
  rw [ninD_tuple (ok_nats l i).1, ← any_nats l i]; rfl
theorem c_ninNL (l : List Nat) (i : Nat) : ninD (.int (i : Int)) (.list (l.map dNat)) = some (.ex (.bool (!decide (i ∈ l)))) := by
  rw [ninD_list (ok_nats l i).2, ← any_nats l i]; rfl
theorem c_ninST (l : List Str) (x : Str) : ninD (.str x) (.tuple (l.map PyData.str)) = some (.ex (.bool (!decide (x ∈ l)))) := by
  rw [ninD_tuple (ok_strs l x).1, any_strs]
theorem c_ninSL (l : List Str) (x : Str) : ninD (.str x) (.list (l.map PyData.str)) = some (.ex (.bool (!decide (x ∈ l)))) := by
  rw [ninD_list (ok_strs l x).2, any_strs]
theorem c_slL (ds : List D) (lo hi : Option Int) : sliceD (.list ds) lo hi = some (.ls (cutD ds lo hi)) := rfl
theorem c_slT (ds : List D) (lo hi : Option Int) : sliceD (.tuple ds) lo hi = some (.te (cutD ds lo hi)) := rfl
theorem c_at (ds : List D) {i : Int} (h : 0 ≤ i) : atD (.list ds) (.int i) = ds[i.toNat]? := by
  show L2.atI ds i = _
  unfold L2.atI L2.ixN
  rw [if_pos h]
  by_cases h1 : i < ds.length
  · rw [if_pos h1]; rfl
  · rw [if_neg h1, List.getElem?_eq_none (by omega)]; rfl
theorem c_atT (ds : List D) {i : Int} (h : 0 ≤ i) : atD (.tuple ds) (.int i) = ds[i.toNat]? := c_at ds h
theorem rng0 (n : Nat) : rngD 0 n = (List.range n).map dNat := by
  unfold rngD dNat
  simp
theorem getD_of {α : Type} {l : List α} {i : Nat} {d x : α} (h : l[i]? = some x) : l.getD i d = x := by simp [List.getD, h]
theorem getD_lt {α : Type} {l : List α} {i : Nat} {d : α} (h : i < l.length) : l[i]? = some (l.getD i d) := by simp [List.getD, h]
theorem kindIx_is {w : Works} {s : Nat} (h : kindIx w s < w.kinds.length) : (w.kinds.getD (kindIx w s) default).name = (w.slots.getD s default).kind := by
  have := List.findIdx_getElem (p := fun k : Kind => decide (k.name = (w.slots.getD s default).kind)) (w := h)
  have h2 := of_decide_eq_true this
  rw [List.getD, List.getElem?_eq_getElem h]
  exact h2
theorem kindIx_not {w : Works} {s j : Nat} (h : j < kindIx w s) : (w.kinds.getD j default).name ≠ (w.slots.getD s default).kind := by
  have hl : j < w.kinds.length := Nat.lt_of_lt_of_le h List.findIdx_le_length
  have := List.not_of_lt_findIdx h
  rw [List.getD, List.getElem?_eq_getElem hl]
  simpa using this
section
variable {w : Works} {k : Kind} {s : Slot} {p : Person} {e : Event} {st : State} {σ : Sg} {t : Tgs}
theorem k_works0 : atD (dWorks w) (.int 0) = some (.tuple (w.kinds.map dKind)) := rfl
theorem k_works1 : atD (dWorks w) (.int 1) = some (.tuple (w.slots.map dSlot)) := rfl
theorem k_works2 : atD (dWorks w) (.int 2) = some (.tuple (w.people.map dPerson)) := rfl
theorem k_works3 : atD (dWorks w) (.int 3) = some (.tuple (w.events.map dEvent)) := rfl
theorem k_works4 : atD (dWorks w) (.int 4) = some (.int w.worth) := rfl
theorem k_kind0 : atD (dKind k) (.int 0) = some (.str k.name) := rfl
theorem k_kind1 : atD (dKind k) (.int 1) = some (.int k.limit) := rfl
theorem k_kind2 : atD (dKind k) (.int 2) = some (.tuple (k.table.map dPair)) := rfl
theorem k_kind3 : atD (dKind k) (.int 3) = some (.bool k.spare) := rfl
theorem k_kind4 : atD (dKind k) (.int 4) = some (.int k.days) := rfl
theorem k_slot0 : atD (dSlot s) (.int 0) = some (.str s.name) := rfl
theorem k_slot1 : atD (dSlot s) (.int 1) = some (.str s.kind) := rfl
theorem k_slot2 : atD (dSlot s) (.int 2) = some (.int s.worth) := rfl
theorem k_person0 : atD (dPerson p) (.int 0) = some (.str p.name) := rfl
theorem k_person1 : atD (dPerson p) (.int 1) = some (.tuple (p.skills.map PyData.str)) := rfl
theorem k_event0 : atD (dEvent e) (.int 0) = some (.str e.name) := rfl
theorem k_event1 : atD (dEvent e) (.int 1) = some (.tuple (e.hours.map PyData.int)) := rfl
theorem k_event2 : atD (dEvent e) (.int 2) = some (.tuple (e.fails.map dNat)) := rfl
theorem k_state0 : atD (dState st) (.int 0) = some (.tuple (st.wears.map PyData.int)) := rfl
theorem k_state1 : atD (dState st) (.int 1) = some (.tuple (st.stores.map PyData.int)) := rfl
theorem k_state2 : atD (dState st) (.int 2) = some (.tuple (st.shop.map dShop)) := rfl
theorem k_tkind : tgTup 5 t (dKind k) σ = t [.str k.name, .int k.limit, .tuple (k.table.map dPair), .bool k.spare, .int k.days] σ := rfl
theorem k_tevent : tgTup 3 t (dEvent e) σ = t [.str e.name, .tuple (e.hours.map PyData.int), .tuple (e.fails.map dNat)] σ := rfl
theorem k_sevent : sliceD (dEvent e) (some 1) none = some (.te [.tuple (e.hours.map PyData.int), .tuple (e.fails.map dNat)]) := rfl
theorem k_skind : sliceD (dKind k) (some 3) none = some (.te [.bool k.spare, .int k.days]) := rfl
end
theorem plain_mapS {α : Type} (l : List α) (f : α → Str) : PyData.plainAll (l.map fun k => PyData.str (f k)) = true := by induction l <;> simp_all [PyData.plainAll, PyData.plain]
theorem depth_mapS {α : Type} (l : List α) (f : α → Str) : PyData.depthAll (l.map fun k => PyData.str (f k)) = 0 := by induction l <;> simp_all [PyData.depthAll, PyData.depth]
theorem findIdx_map' {α : Type} (l : List α) (f : α → Str) (x : Str) : ((l.map fun k => PyData.str (f k)).findIdx fun z => PyData.eqv z (.str x)) = l.findIdx fun k => decide (f k = x) := by
  induction l with
  | nil => rfl
  | cons a l ih => rw [List.map_cons, List.findIdx_cons, List.findIdx_cons, ih, eqv_str]
theorem index_names {w : Works} (hw : WOk w) {s : Nat} (hk : kindIx w s < w.kinds.length) : indexD (.list (w.kinds.map fun k => PyData.str k.name)) [.str (w.slots.getD s default).kind] = some (.ex (dNat (kindIx w s))) := by
  have h1 : CmpOk (.list (w.kinds.map fun k => PyData.str k.name)) (.str (w.slots.getD s default).kind) := ⟨by simp [shp, PyData.plain, PyData.depth, plain_mapS, depth_mapS], rfl⟩
  have e : ((w.kinds.map fun k => PyData.str k.name).findIdx fun z => PyData.eqv z (.str (w.slots.getD s default).kind)) = kindIx w s := findIdx_map' _ _ _
  unfold indexD
  dsimp only
  rw [e, cpos ⟨h1, by rw [List.length_map]; exact hk⟩]
  rfl
/-! ### a day -/
def wearNow (w : Works) (st : State) (c : List Nat) (e : Event) (s : Nat) : Int := (if s ∈ c then 0 else st.wears.getD s 0) + wearOf (kindOf w s).table (e.hours.getD s 0)
def wornTo (w : Works) (st : State) (c : List Nat) (e : Event) : Nat → Option (List Int)
  | 0 => some []
  | n + 1 => match wornTo w st c e n with
    | none => none
    | some l => if (kindOf w n).limit < wearNow w st c e n then none else some (l ++ [if n ∈ e.fails then (kindOf w n).limit else wearNow w st c e n])
theorem wornTo_none {w : Works} {st : State} {c : List Nat} {e : Event} {k : Nat} (h : wornTo w st c e k = none) : ∀ n, wornTo w st c e (k + n) = none
  | 0 => h
  | n + 1 => by
    show (match wornTo w st c e (k + n) with | none => none | some l => _) = none
    rw [wornTo_none h n]
theorem wornTo_len {w : Works} {st : State} {c : List Nat} {e : Event} : ∀ {n : Nat} {l : List Int}, wornTo w st c e n = some l → l.length = n
  | 0, l, h => by cases h; rfl
  | n + 1, l, h => by
    unfold wornTo at h
    split at h
    · cases h
    · rename_i l' hl
      split at h
      · cases h
      · cases h
        simp [wornTo_len hl]
def worn (w : Works) (st : State) (c : List Nat) (e : Event) : Option (List Int) := wornTo w st c e w.slots.length
def dWorn : Option (List Int) → D
  | none => .none
  | some l => .tuple (l.map PyData.int)
theorem kinds_at {w : Works} (hw : WOk w) {s : Nat} (hs : s < w.slots.length) : w.kinds[kindIx w s]? = some (kindOf w s) := getD_lt (hw.kin s hs)
end KW

set_option Elab.async false
set_option linter.all false
set_option maxRecDepth 100000
set_option maxHeartbeats 1000000
/-! KS2: what a day does to stores and shop -/
namespace KW
open PySem PV

/-! ### lists by their places -/
theorem set_range {α : Type} {n i : Nat} {f g : Nat → α} {x : α} (hi : g i = x) (ho : ∀ k, k < n → k ≠ i → g k = f k) : ((List.range n).map f).set i x = (List.range n).map g := by
  apply List.ext_getElem?
  intro k
  by_cases hk : k < n
  · by_cases e : k = i
    · subst e
      rw [List.getElem?_set_self (by simpa using hk), List.getElem?_map, List.getElem?_range hk]
      simp [hi]
    · rw [List.getElem?_set_ne (Ne.symm e), List.getElem?_map, List.getElem?_map, List.getElem?_range hk]
      simp [ho k hk e]
  · rw [List.getElem?_eq_none (by simp; omega), List.getElem?_eq_none (by simp; omega)]
theorem list_range {α : Type} {l : List α} {d : α} : l = (List.range l.length).map fun k => l.getD k d := by
  apply List.ext_getElem?
  intro k
  by_cases hk : k < l.length
  · rw [List.getElem?_map, List.getElem?_range hk, getD_lt hk]; rfl
  · rw [List.getElem?_eq_none (by omega), List.getElem?_eq_none (by simp; omega)]
theorem rep_range (n : Nat) (d : D) : (List.replicate n [d]).flatten = (List.range n).map fun _ => d := by
  apply List.ext_getElem?
  intro k
  have h : (List.replicate n [d]).flatten = List.replicate n d := by
    induction n with
    | zero => rfl
    | succ n ih => rw [List.replicate_succ, List.replicate_succ, List.flatten_cons, ih]; rfl
  rw [h]
  by_cases hk : k < n
  · rw [List.getElem?_map, List.getElem?_range hk, List.getElem?_replicate, if_pos hk]; rfl
  · rw [List.getElem?_eq_none (by simp; omega), List.getElem?_eq_none (by simp; omega)]
theorem rep_one {α : Type} (n : Nat) (x : α) : (List.replicate n [x]).flatten = List.replicate n x := by
  induction n with
  | zero => rfl
  | succ n ih => rw [List.replicate_succ, List.replicate_succ, List.flatten_cons, ih]; rfl

/-! ### jobs -/
def isJob (w : Works) (s : Nat) : Bool := (kindOf w s).spare
/-- spares of the kind k that the choice takes -/
def needed (w : Works) (c : List Nat) (k : Nat) : Nat := c.countP fun s => isJob w s && decide (kindIx w s = k)
def kindAt (w : Works) (k : Nat) : Kind := w.kinds.getD k default
/-- what the jobs bring to the shop, kind by kind -/
def jobsP (w : Works) (c : List Nat) : Nat → List (Int × Nat)
  | 0 => []
  | n + 1 => jobsP w c n ++ if 0 < (kindAt w n).days then List.replicate (needed w c n) ((kindAt w n).days, n) else []
/-- .. slot by slot -/
def jobsL (w : Works) (c : List Nat) : Nat → List (Int × Nat)
  | 0 => []
  | n + 1 => jobsL w c n ++ if n ∈ c ∧ isJob w n = true ∧ 0 < (kindOf w n).days then [((kindOf w n).days, kindIx w n)] else []
def takenL (w : Works) (c : List Nat) (n k : Nat) : Nat := (List.range n).countP fun s => decide (s ∈ c) && (isJob w s && decide (kindIx w s = k))
def COk (w : Works) (c : List Nat) : Prop := c = (List.range w.slots.length).filter (fun s => decide (s ∈ c))
theorem COk.lt {w : Works} {c : List Nat} (h : COk w c) : ∀ s ∈ c, s < w.slots.length := fun s hs => by
  rw [h] at hs
  exact List.mem_range.mp (List.mem_filter.mp hs).1
theorem COk.len {w : Works} {c : List Nat} (h : COk w c) : c.length ≤ w.slots.length := by
  rw [h]
  exact Nat.le_trans (List.length_filter_le _ _) (by simp)
theorem taken_needed {w : Works} {c : List Nat} (h : COk w c) (k : Nat) : takenL w c w.slots.length k = needed w c k := by
  unfold takenL needed
  conv => rhs; rw [h]
  rw [List.countP_filter]
  congr 1
  funext s
  rw [Bool.and_comm]
theorem count_jobsP (w : Works) (c : List Nat) (d : Int) (k : Nat) : ∀ n : Nat, (jobsP w c n).count (d, k) = if k < n ∧ 0 < (kindAt w k).days ∧ d = (kindAt w k).days then needed w c k else 0
  | 0 => by simp [jobsP]
  | n + 1 => by
    unfold jobsP
    rw [List.count_append, count_jobsP w c d k n]
    by_cases hk : k = n
    · subst hk
      rw [if_neg (by omega), Nat.zero_add]
      by_cases h0 : 0 < (kindAt w k).days
      · rw [if_pos h0, List.count_replicate]
        by_cases hd : d = (kindAt w k).days
        · subst hd
          simp [h0]
        · have hd' : ¬ (kindAt w k).days = d := fun h => hd h.symm
          simp [h0, hd, hd']
      · rw [if_neg h0, if_neg (fun h => h0 h.2.1)]; rfl
    · have e : (if 0 < (kindAt w n).days then List.replicate (needed w c n) ((kindAt w n).days, n) else []).count (d, k) = 0 := by
        split
        · rw [List.count_replicate, if_neg (by simp; exact fun _ h => hk h.symm)]
        · rfl
      rw [e, Nat.add_zero]
      by_cases h : k < n
      · simp only [h, show k < n + 1 by omega, true_and]
      · rw [if_neg (fun q => h q.1), if_neg (fun q => by omega)]
theorem count_jobsL (w : Works) (c : List Nat) (d : Int) (k : Nat) : ∀ n : Nat, (jobsL w c n).count (d, k) = (List.range n).countP fun s => decide (s ∈ c) && (isJob w s && decide (kindIx w s = k)) && (decide (0 < (kindOf w s).days) && decide ((kindOf w s).days = d))
  | 0 => rfl
  | n + 1 => by
    unfold jobsL
    rw [List.count_append, count_jobsL w c d k n, List.range_succ, List.countP_append]
    congr 1
    rw [List.countP_cons, List.countP_nil, Nat.zero_add]
    by_cases h : n ∈ c ∧ isJob w n = true ∧ 0 < (kindOf w n).days
    · rw [if_pos h, List.count_cons, List.count_nil, Nat.zero_add]
      simp only [h.1, h.2.1, h.2.2, decide_true, Bool.true_and]
      by_cases e : kindIx w n = k
      · by_cases e2 : (kindOf w n).days = d
        · simp [e, e2]
        · simp [e, e2]
      · simp [e]
    · rw [if_neg h]
      rw [if_neg]
      · rfl
      · intro q
        simp only [Bool.and_eq_true, decide_eq_true_eq] at q
        exact h ⟨q.1.1, q.1.2.1, q.2.1⟩
theorem jobs_perm {w : Works} {c : List Nat} (h : COk w c) (hw : WOk w) : (jobsL w c w.slots.length).Perm (jobsP w c w.kinds.length) := by
  rw [List.perm_iff_count]
  rintro ⟨d, k⟩
  rw [count_jobsL, count_jobsP]
  by_cases q : k < w.kinds.length ∧ 0 < (kindAt w k).days ∧ d = (kindAt w k).days
  · rw [if_pos q, ← taken_needed h]
    unfold takenL
    apply List.countP_congr
    intro s hs
    simp only [Bool.and_eq_true, decide_eq_true_eq]
    refine ⟨fun z => z.1, fun z => ⟨z, ?_⟩⟩
    have e : kindOf w s = kindAt w k := by unfold kindOf kindAt; rw [z.2.2]
    rw [e]
    exact ⟨q.2.1, q.2.2.symm⟩
  · rw [if_neg q, List.countP_eq_zero]
    intro s hs z
    simp only [Bool.and_eq_true, decide_eq_true_eq] at z
    have e : kindOf w s = kindAt w k := by unfold kindOf kindAt; rw [z.1.2.2]
    rw [e] at z
    exact q ⟨by rw [← z.1.2.2]; exact hw.kin s (List.mem_range.mp hs), z.2.1, z.2.2.symm⟩
/-! ### what comes out of the shop -/
def shopOf (l : List (Int × Nat)) : List (Int × Nat) := (l.filter fun p => decide (1 < p.1)).map fun p => (p.1 - 1, p.2)
def backOf (l : List (Int × Nat)) (k : Nat) : Nat := l.countP fun p => !decide (1 < p.1) && decide (p.2 = k)
def lePair (a b : Int × Nat) : Bool := decide (a.1 < b.1) || (decide (a.1 = b.1) && decide (a.2 ≤ b.2))
def sortPairs (l : List (Int × Nat)) : List (Int × Nat) := l.mergeSort lePair
theorem lePair_trans : ∀ a b c : Int × Nat, lePair a b = true → lePair b c = true → lePair a c = true := by
  rintro ⟨a1, a2⟩ ⟨b1, b2⟩ ⟨c1, c2⟩ h1 h2
  simp only [lePair, Bool.or_eq_true, Bool.and_eq_true, decide_eq_true_eq] at *
  omega
theorem lePair_total : ∀ a b : Int × Nat, (lePair a b || lePair b a) = true := by
  rintro ⟨a1, a2⟩ ⟨b1, b2⟩
  simp only [lePair, Bool.or_eq_true, Bool.and_eq_true, decide_eq_true_eq]
  omega
theorem lePair_anti : ∀ a b : Int × Nat, lePair a b = true → lePair b a = true → a = b := by
  rintro ⟨a1, a2⟩ ⟨b1, b2⟩ h1 h2
  simp only [lePair, Bool.or_eq_true, Bool.and_eq_true, decide_eq_true_eq] at *
  have : a1 = b1 ∧ a2 = b2 := by omega
  rw [this.1, this.2]
theorem sorted_unique {α : Type} {le : α → α → Bool} (anti : ∀ a b, le a b = true → le b a = true → a = b) : ∀ {l m : List α}, l.Pairwise (fun a b => le a b = true) → m.Pairwise (fun a b => le a b = true) → l.Perm m → l = m
  | [], m, _, _, p => by rw [List.nil_perm.mp p]
  | a :: l, [], _, _, p => by have := p.length_eq; simp at this
  | a :: l, b :: m, h1, h2, p => by
    have h1' := List.pairwise_cons.mp h1
    have h2' := List.pairwise_cons.mp h2
    have e : a = b := by
      have ha : a ∈ b :: m := p.mem_iff.mp List.mem_cons_self
      have hb : b ∈ a :: l := p.mem_iff.mpr List.mem_cons_self
      rcases List.mem_cons.mp ha with e | ha
      · exact e
      · rcases List.mem_cons.mp hb with e | hb
        · exact e.symm
        · exact anti a b (h1'.1 b hb) (h2'.1 a ha)
    subst e
    rw [sorted_unique anti h1'.2 h2'.2 (List.Perm.cons_inv p)]
theorem sortPairs_perm {l m : List (Int × Nat)} (h : l.Perm m) : sortPairs l = sortPairs m := by
  unfold sortPairs
  refine sorted_unique lePair_anti (List.pairwise_mergeSort lePair_trans lePair_total l) (List.pairwise_mergeSort lePair_trans lePair_total m) ?_
  exact (List.mergeSort_perm _ _).trans (h.trans (List.mergeSort_perm _ _).symm)
theorem shopOf_perm {l m : List (Int × Nat)} (h : l.Perm m) : (shopOf l).Perm (shopOf m) := (h.filter _).map _
theorem backOf_perm {l m : List (Int × Nat)} (h : l.Perm m) (k : Nat) : backOf l k = backOf m k := h.countP_eq _
/-- the day's outcome -/
def waiting (w : Works) (st : State) (c : List Nat) : List (Int × Nat) := st.shop ++ jobsP w c w.kinds.length
def storesTo (w : Works) (st : State) (c : List Nat) : List Int := (List.range w.kinds.length).map fun k => st.stores.getD k 0 - needed w c k + backOf (waiting w st c) k
def shopTo (w : Works) (st : State) (c : List Nat) : List (Int × Nat) := sortPairs (shopOf (waiting w st c))
def stepTo (w : Works) (st : State) (c : List Nat) (e : Event) : Option State := (worn w st c e).map fun l => ⟨l, storesTo w st c, shopTo w st c⟩
theorem len_jobsP (w : Works) (c : List Nat) : ∀ n : Nat, (jobsP w c n).length ≤ n * c.length
  | 0 => by simp [jobsP]
  | n + 1 => by
    unfold jobsP
    rw [List.length_append, Nat.succ_mul]
    have h1 := len_jobsP w c n
    have h2 : (if 0 < (kindAt w n).days then List.replicate (needed w c n) ((kindAt w n).days, n) else []).length ≤ c.length := by
      split
      · rw [List.length_replicate]; exact List.countP_le_length
      · simp
    omega
theorem needed_le (w : Works) (c : List Nat) (k : Nat) : needed w c k ≤ c.length := List.countP_le_length
theorem dataLe_shop : PySem.W.dataLe false dShop = lePair := by
  have := PySem.W.dataLe_ii (fun p : Int × Nat => p.1) (fun p => (p.2 : Int))
  have e : dShop = fun p : Int × Nat => PyData.tuple [.int p.1, .int (p.2 : Int)] := rfl
  rw [e, this]
  funext p q
  unfold lePair
  rw [Bool.eq_iff_iff]
  simp only [decide_eq_true_eq, Bool.or_eq_true, Bool.and_eq_true]
  omega
theorem sorted_pairs (l : List (Int × Nat)) : sortedD [.list (l.map dShop)] = some (.ls ((sortPairs l).map dShop)) := by
  have h : SortOk (l.map dShop) := by
    refine ⟨?_, ?_, ?_⟩
    · rw [allAlikeB, List.all_map, List.all_eq_true]
      intro p _
      show (l.map dShop).all _ = true
      rw [List.all_map, List.all_eq_true]
      intro q _
      simp [dShop, PySem.W.alike, PySem.W.alikeAll]
    · rw [sortableB, Bool.or_eq_true]
      left
      rw [List.all_map, List.all_eq_true]
      intro p _
      rfl
    · intro d hd
      obtain ⟨p, _, rfl⟩ := List.mem_map.mp hd
      simp [shp, dShop, PyData.plain, PyData.plainAll, PyData.depth, PyData.depthAll]
  unfold sortedD
  dsimp only
  rw [cpos h]
  have e : sortD (l.map dShop) = (sortPairs l).map dShop := by
    unfold sortD sortPairs
    rw [← dataLe_shop]
    exact (List.map_mergeSort (r := PySem.W.dataLe false dShop) (s := PySem.W.dataLe false id) (f := dShop) (fun a _ b _ => rfl)).symm
  rw [e]
theorem jobsP_kind {w : Works} {c : List Nat} {p : Int × Nat} : ∀ {n : Nat}, p ∈ jobsP w c n → p.2 < n ∧ 0 < p.1 ∧ p.1 = (kindAt w p.2).days
  | 0, h => by simp [jobsP] at h
  | n + 1, h => by
    unfold jobsP at h
    rcases List.mem_append.mp h with h | h
    · have := jobsP_kind h
      exact ⟨by omega, this.2⟩
    · split at h
      · rename_i h0
        have := List.eq_of_mem_replicate h
        subst this
        exact ⟨Nat.lt_succ_self _, h0, rfl⟩
      · simp at h
theorem waiting_kind {w : Works} {st : State} (hst : SOk w st) {c : List Nat} {p : Int × Nat} (h : p ∈ waiting w st c) : p.2 < w.kinds.length := by
  rcases List.mem_append.mp h with h | h
  · exact (hst.shop p h).2.1
  · exact (jobsP_kind h).1
def dStep : Option State → D
  | none => .none
  | some s => dState s
theorem takenL_succ (w : Works) (c : List Nat) (n k : Nat) : takenL w c (n + 1) k = takenL w c n k + if n ∈ c ∧ isJob w n = true ∧ kindIx w n = k then 1 else 0 := by
  unfold takenL
  rw [List.range_succ, List.countP_append, List.countP_cons, List.countP_nil]
  simp
theorem jobsL_succ (w : Works) (c : List Nat) (n : Nat) : jobsL w c (n + 1) = jobsL w c n ++ if n ∈ c ∧ isJob w n = true ∧ 0 < (kindOf w n).days then [((kindOf w n).days, kindIx w n)] else [] := rfl
theorem jobsL_len (w : Works) (c : List Nat) : ∀ n : Nat, (jobsL w c n).length ≤ n
  | 0 => Nat.le_refl _
  | n + 1 => by
    rw [jobsL_succ, List.length_append]
    have := jobsL_len w c n
    split <;> simp <;> omega
theorem jobsL_kind {w : Works} (hw : WOk w) {c : List Nat} {p : Int × Nat} : ∀ {n : Nat}, n ≤ w.slots.length → p ∈ jobsL w c n → p.2 < w.kinds.length ∧ 0 < p.1
  | 0, _, h => by simp [jobsL] at h
  | n + 1, hn, h => by
    rw [jobsL_succ] at h
    rcases List.mem_append.mp h with h | h
    · exact jobsL_kind hw (by omega) h
    · split at h
      · rename_i h0
        have e := List.mem_singleton.mp h
        subst e
        exact ⟨hw.kin n (by omega), h0.2.2⟩
      · simp at h
theorem waiting_perm {w : Works} {st : State} {c : List Nat} (hw : WOk w) (h : COk w c) : (st.shop ++ jobsL w c w.slots.length).Perm (waiting w st c) := (jobs_perm h hw).append_left _
theorem left_one {w : Works} {st : State} (hw : WOk w) (hst : SOk w st) {c : List Nat} {p : Int × Nat} (h : p ∈ st.shop ++ jobsL w c w.slots.length) : 1 ≤ p.1 ∧ p.2 < w.kinds.length := by
  rcases List.mem_append.mp h with h | h
  · exact ⟨(hst.shop p h).1, (hst.shop p h).2.1⟩
  · have := jobsL_kind hw (Nat.le_refl _) h
    exact ⟨by omega, this.1⟩
theorem stores_range {w : Works} {st : State} (hst : SOk w st) (f : Nat → Int) (hf : ∀ k, k < w.kinds.length → f k = st.stores.getD k 0) : st.stores.map PyData.int = (List.range w.kinds.length).map fun k => PyData.int (f k) := by
  apply List.ext_getElem?
  intro k
  by_cases hk : k < w.kinds.length
  · rw [List.getElem?_map, List.getElem?_map, List.getElem?_range hk, getD_lt (d := 0) (by rw [hst.stores]; exact hk)]
    simp [hf k hk]
  · rw [List.getElem?_eq_none (by simp [hst.stores]; omega), List.getElem?_eq_none (by simp; omega)]
end KW

set_option Elab.async false
set_option linter.all false
set_option maxRecDepth 100000
set_option maxHeartbeats 1000000
/-! KS3: places of a marked part -/
namespace KW
open PySem PV

inductive Plc where
  | slot (i : Int)
  | store (k : Int)
  | shop (d k : Int)
  | gone
  deriving DecidableEq
def dPlace : Plc → D
  | .slot i => .tuple [.str "slot", .int i]
  | .store k => .tuple [.str "store", .int k]
  | .shop d k => .tuple [.str "shop", .int d, .int k]
  | .gone => .tuple [.str "gone"]
theorem shp_place (p : Plc) : shp (dPlace p) = true := by cases p <;> simp [shp, dPlace, PyData.plain, PyData.plainAll, PyData.depth, PyData.depthAll]
theorem str_ne {a b : String} (h : (Str.ofString a == Str.ofString b) = false) : PyData.eqv (.str (Str.ofString a)) (.str (Str.ofString b)) = false := by
  simp only [PyData.eqv]; exact h
theorem str_eq (a : Str) : PyData.eqv (.str a) (.str a) = true := by simp [PyData.eqv]
theorem eqv_place (p q : Plc) : PyData.eqv (dPlace p) (dPlace q) = decide (p = q) := by
  have h1 : (Str.ofString "slot" == Str.ofString "store") = false := by decide +kernel
  have h2 : (Str.ofString "slot" == Str.ofString "shop") = false := by decide +kernel
  have h3 : (Str.ofString "store" == Str.ofString "slot") = false := by decide +kernel
  have h4 : (Str.ofString "store" == Str.ofString "shop") = false := by decide +kernel
  have h5 : (Str.ofString "shop" == Str.ofString "slot") = false := by decide +kernel
  have h6 : (Str.ofString "shop" == Str.ofString "store") = false := by decide +kernel
  have h7 : (Str.ofString "slot" == Str.ofString "gone") = false := by decide +kernel
  have h8 : (Str.ofString "store" == Str.ofString "gone") = false := by decide +kernel
  have h9 : (Str.ofString "shop" == Str.ofString "gone") = false := by decide +kernel
  have g7 : (Str.ofString "gone" == Str.ofString "slot") = false := by decide +kernel
  have g8 : (Str.ofString "gone" == Str.ofString "store") = false := by decide +kernel
  have g9 : (Str.ofString "gone" == Str.ofString "shop") = false := by decide +kernel
  cases p <;> cases q <;> simp [dPlace, PyData.eqv, PyData.eqvAll, h1, h2, h3, h4, h5, h6, h7, h8, h9, g7, g8, g9]
  · exact beqI _ _
  · exact beqI _ _
  · rw [beqI, beqI]
theorem any_place (l : List Plc) (p : Plc) : ((l.map dPlace).any fun z => PyData.eqv z (dPlace p)) = decide (p ∈ l) := by
  induction l with
  | nil => simp
  | cons a l ih =>
    rw [List.map_cons, List.any_cons, ih, eqv_place]
    simp only [List.mem_cons, Bool.decide_or]
    congr 1
    exact decide_eq_decide.mpr eq_comm
theorem plain_places (l : List Plc) : PyData.plainAll (l.map dPlace) = true := by
  induction l with
  | nil => rfl
  | cons a l ih => rw [List.map_cons, PyData.plainAll, ih, Bool.and_true]; exact shp_plain (shp_place a)
theorem depth_places (l : List Plc) : PyData.depthAll (l.map dPlace) ≤ 64 := by
  induction l with
  | nil => simp [PyData.depthAll]
  | cons a l ih =>
    rw [List.map_cons, PyData.depthAll]
    have : (dPlace a).depth = 1 := by cases a <;> simp [dPlace, PyData.depth, PyData.depthAll]
    omega
theorem depth_places1 (l : List Plc) : PyData.depthAll (l.map dPlace) ≤ 1 := by
  induction l with
  | nil => simp [PyData.depthAll]
  | cons a l ih =>
    rw [List.map_cons, PyData.depthAll]
    have : (dPlace a).depth = 1 := by cases a <;> simp [dPlace, PyData.depth, PyData.depthAll]
    omega
theorem shp_places (l : List Plc) : shp (.list (l.map dPlace)) = true := by
  have := depth_places1 l
  simp [shp, PyData.plain, plain_places, PyData.depth]
  omega
theorem c_inP (l : List Plc) (p : Plc) : inD (dPlace p) (.list (l.map dPlace)) = some (.ex (.bool (decide (p ∈ l)))) := by
  rw [inD_list ⟨shp_place p, shp_places l⟩, any_place]
theorem c_ninP (l : List Plc) (p : Plc) : ninD (dPlace p) (.list (l.map dPlace)) = some (.ex (.bool (!decide (p ∈ l)))) := by
  rw [ninD_list ⟨shp_place p, shp_places l⟩, any_place]
theorem c_eqP (p q : Plc) : eqD (dPlace p) (dPlace q) = some (.ex (.bool (decide (p = q)))) := by
  have h : CmpOk (dPlace p) (dPlace q) := ⟨shp_place p, shp_place q⟩
  have e : scD (dPlace p) (dPlace q) = none := by cases p <;> cases q <;> rfl
  rw [eqD_data e h, eqv_place]
theorem c_neP (p q : Plc) : neD (dPlace p) (dPlace q) = some (.ex (.bool (!decide (p = q)))) := by
  have h : CmpOk (dPlace p) (dPlace q) := ⟨shp_place p, shp_place q⟩
  have e : scD (dPlace p) (dPlace q) = none := by cases p <;> cases q <;> rfl
  rw [neD_data e h, eqv_place]
/-! pairs in a shop -/
theorem eqv_shop (p : Int × Nat) (d k : Int) : PyData.eqv (dShop p) (.tuple [.int d, .int k]) = decide (p.1 = d ∧ (p.2 : Int) = k) := by
  simp only [dShop, PyData.eqv, PyData.eqvAll, Bool.and_true]
  rw [beqI, beqI, ← Bool.decide_and]
theorem c_inShop (l : List (Int × Nat)) (d k : Int) : inD (.tuple [.int d, .int k]) (.tuple (l.map dShop)) = some (.ex (.bool (decide (∃ p ∈ l, p.1 = d ∧ (p.2 : Int) = k)))) := by
  have h1 : PyData.plainAll (l.map dShop) = true := by induction l <;> simp_all [PyData.plainAll, PyData.plain, dShop]
  have h2 : PyData.depthAll (l.map dShop) ≤ 1 := by
    clear h1
    induction l with
    | nil => simp [PyData.depthAll]
    | cons a l ih =>
      rw [List.map_cons, PyData.depthAll]
      have : (dShop a).depth = 1 := by simp [dShop, PyData.depth, PyData.depthAll]
      omega
  have h : CmpOk (.tuple [.int d, .int k]) (.tuple (l.map dShop)) := ⟨by simp [shp, PyData.plain, PyData.plainAll, PyData.depth, PyData.depthAll], by simp [shp, PyData.plain, h1, PyData.depth]; omega⟩
  rw [inD_tuple h]
  congr 3
  rw [Bool.eq_iff_iff, List.any_eq_true, decide_eq_true_eq]
  constructor
  · rintro ⟨x, hx, e⟩
    obtain ⟨p, hp, rfl⟩ := List.mem_map.mp hx
    rw [eqv_shop] at e
    exact ⟨p, hp, of_decide_eq_true e⟩
  · rintro ⟨p, hp, e⟩
    exact ⟨dShop p, List.mem_map_of_mem hp, by rw [eqv_shop]; exact decide_eq_true e⟩

section
variable {i k d : Int}
theorem k_pl0s : atD (dPlace (.slot i)) (.int 0) = some (.str "slot") := rfl
theorem k_pl1s : atD (dPlace (.slot i)) (.int 1) = some (.int i) := rfl
theorem k_pl0t : atD (dPlace (.store k)) (.int 0) = some (.str "store") := rfl
theorem k_pl1t : atD (dPlace (.store k)) (.int 1) = some (.int k) := rfl
theorem k_pl0h : atD (dPlace (.shop d k)) (.int 0) = some (.str "shop") := rfl
theorem k_pl1h : atD (dPlace (.shop d k)) (.int 1) = some (.int d) := rfl
theorem k_pl2h : atD (dPlace (.shop d k)) (.int 2) = some (.int k) := rfl
theorem k_pl0g : atD (dPlace .gone) (.int 0) = some (.str "gone") := rfl
theorem k_slh : sliceD (dPlace (.shop d k)) (some 1) none = some (.te [.int d, .int k]) := rfl
end
/-! which place fits -/
def isPlace (w : Works) : Plc → Bool
  | .slot i => decide (0 ≤ i ∧ i < w.slots.length)
  | .store k => decide (0 ≤ k ∧ k < w.kinds.length)
  | .shop d k => decide (1 ≤ d) && decide (0 ≤ k ∧ k < w.kinds.length)
  | .gone => true
def fits (w : Works) (st : State) : Plc → Bool
  | .slot i => decide (0 ≤ i ∧ i < w.slots.length) && (kindOf w i.toNat).spare
  | .store k => decide (0 ≤ k ∧ k < w.kinds.length) && decide (0 < st.stores.getD k.toNat 0)
  | .shop d k => decide (1 ≤ d) && decide (0 ≤ k ∧ k < w.kinds.length) && decide (∃ p ∈ st.shop, p.1 = d ∧ (p.2 : Int) = k)
  | .gone => false
def behindShop (d k : Int) : Plc := if 1 < d then .shop (d - 1) k else .store k
def behindJob (w : Works) (s : Nat) : Plc := if (kindOf w s).days = 0 then .gone else behindShop (kindOf w s).days (kindIx w s)
def ofKind (w : Works) (c : List Nat) (k : Nat) : List Nat := c.filter fun s => decide (kindIx w s = k)
inductive PIn (w : Works) : Plc → Prop
  | slot (s : Nat) (h : s < w.slots.length) : PIn w (.slot s)
  | store (k : Nat) (h : k < w.kinds.length) : PIn w (.store k)
  | shop (d : Int) (k : Nat) (h : k < w.kinds.length) : PIn w (.shop d k)
  | gone : PIn w .gone
def nextP (w : Works) (st : State) (c : List Nat) : Plc → List Plc
  | .slot i => if i.toNat ∈ c then [behindJob w i.toNat] else [.slot i]
  | .shop d k => [behindShop d k]
  | .store k => (ofKind w c k.toNat).map (fun s : Nat => Plc.slot (s : Int)) ++ if ((ofKind w c k.toNat).length : Int) < st.stores.getD k.toNat 0 then [.store k] else []
  | .gone => [.gone]
/-- small data of a depth -/
inductive Sm : Nat → D → Prop
  | none {n : Nat} : Sm n .none
  | bool {n : Nat} (b : Bool) : Sm n (.bool b)
  | int {n : Nat} (i : Int) : Sm n (.int i)
  | str {n : Nat} (x : Str) : Sm n (.str x)
  | list {n : Nat} {ds : List D} (h : ds.length ≤ 16777216) (k : ∀ d ∈ ds, Sm n d) : Sm (n + 1) (.list ds)
  | tuple {n : Nat} {ds : List D} (h : ds.length ≤ 16777216) (k : ∀ d ∈ ds, Sm n d) : Sm (n + 1) (.tuple ds)
end KW

set_option Elab.async false
set_option linter.all false
set_option maxRecDepth 100000
set_option maxHeartbeats 1000000
/-! KS4: drawing -/
namespace KW
open PySem PV
abbrev dl (row : List Int) (at_ : Nat) (t : Int) : O := .n [.p (.list (row.map PyData.int)), .l [.int at_], .p (.int t)]
def takeV (row : List Int) (at_ : Nat) (t : Int) : Int := match row[at_]? with
  | some x => x
  | none => ((at_ : Int) * 7919 + t * 31 + (at_ : Int) * at_ * 17) / 3
theorem c_sum (ns : List Int) : sumD [.list (ns.map PyData.int)] = some (.ex (.int ns.sum)) := by
  unfold sumD
  dsimp only
  rw [intsOf_map]
theorem c_int (i : Int) : intD [.int i] = some (.ex (.int i)) := rfl
theorem c_intB (b : Bool) : intD [.bool b] = some (.ex (.int (if b then 1 else 0))) := rfl
theorem c_abs (i : Int) : absD [.int i] = some (.ex (.int (if i < 0 then -i else i))) := rfl
theorem c_min2 (i j : Int) : min2D [.int i, .int j] = some (.ex (.int (if j < i then j else i))) := rfl
theorem c_max2 (i j : Int) : max2D [.int i, .int j] = some (.ex (.int (if j > i then j else i))) := rfl
theorem c_pow {i j : Int} (h0 : 0 ≤ j) (h1 : j ≤ 1000000) (h2 : i.natAbs < 18446744073709551616) : powD (.int i) (.int j) = some (.ex (.int (i ^ j.toNat))) := by
  unfold powD
  dsimp only
  rw [cpos ⟨h0, h1, by omega⟩]
theorem ix30 : L2.ixN 3 0 = some 0 := rfl
theorem ix31 : L2.ixN 3 1 = some 1 := rfl
theorem ix32 : L2.ixN 3 2 = some 2 := rfl
theorem at_str {z : Str} {v : Int} (hz : z.length ≤ 16777216) (h0 : 0 ≤ v) (h1 : v < z.length) : ∃ y : Str, atD (.str z) (.int v) = some (.str y) ∧ y.length = 1 := by
  have hv : v.toNat < z.cps.toList.length := by rw [Array.length_toList]; unfold Str.length at h1; omega
  refine ⟨⟨#[z.cps.toList[v.toNat]]⟩, ?_, rfl⟩
  unfold atD
  dsimp only
  rw [cpos (by rw [szl]; exact hz)]
  have : L2.atI z.cps.toList v = some z.cps.toList[v.toNat] := c_atI h0 (by simp [hv])
  rw [this]
  rfl
theorem sl_str {z : Str} (hz : z.length ≤ 16777216) (lo hi : Option Int) : ∃ y, sliceD (.str z) lo hi = some (.ex (.str y)) ∧ y.length ≤ z.length := by
  refine ⟨L2.cutS z lo hi, ?_, ?_⟩
  · unfold sliceD
    dsimp only
    rw [cpos (by rw [szl]; exact hz)]
  · unfold L2.cutS Str.length
    simp only [List.size_toArray, List.length_take, List.length_drop, Array.length_toList]
    omega
theorem len_app (a b : Str) : (a ++ b).length = a.length + b.length := Str.length_append a b
theorem pick2 {a b : D} {v : Int} (h0 : 0 ≤ v) (h1 : v < 2) : atD (.list [a, b]) (.int v) = some (if v = 0 then a else b) := by
  rw [c_at _ h0]
  obtain ⟨k, rfl⟩ := Int.eq_ofNat_of_zero_le h0
  match k, h1 with
  | 0, _ => rfl
  | 1, _ => rfl
  | k + 2, h => omega
/-- an item of a list of numbers -/
theorem pickI {ns : List Int} {v : Int} (h0 : 0 ≤ v) (h1 : v < ns.length) : ∃ x ∈ ns, atD (.list (ns.map PyData.int)) (.int v) = some (.int x) := by
  rw [c_at _ h0]
  have hv : v.toNat < ns.length := by omega
  exact ⟨ns[v.toNat], List.getElem_mem hv, by simp [hv]⟩
theorem c_atLast (ds : List D) (d : D) : atD (.list (ds ++ [d])) (.int (-1)) = some d := by
  show L2.atI (ds ++ [d]) (-1) = some d
  unfold L2.atI L2.ixN
  rw [if_neg (by decide), if_pos (by simp; omega)]
  have : (-1 + ((ds ++ [d]).length : Int)).toNat = ds.length := by simp; omega
  simp only [Option.bind_some, this]
  simp
structure KOk (k : Kind) : Prop where
  lim : 1 ≤ k.limit
  lim9 : k.limit ≤ 9
  days : 0 ≤ k.days
  few : k.days ≤ 9
  sp : 0 < k.days → k.spare = true
theorem cut_from {ds : List D} {k : Nat} : cutD ds (some (k : Int)) none = ds.drop k := by
  unfold cutD HT.sIx
  simp only []
  have h0 : ¬ ((k : Int) < 0) := by omega
  rw [if_neg h0, Int.toNat_natCast]
  by_cases h : k ≤ ds.length
  · rw [Nat.min_eq_left h, List.take_of_length_le (by simp)]
  · rw [Nat.min_eq_right (by omega), List.drop_eq_nil_of_le (Nat.le_refl _), List.drop_eq_nil_of_le (by omega)]
    simp
theorem cut_to {ds : List D} {k : Nat} : cutD ds none (some (k : Int)) = ds.take k := by
  unfold cutD HT.sIx
  simp only []
  have h0 : ¬ ((k : Int) < 0) := by omega
  rw [if_neg h0, Int.toNat_natCast, List.drop_zero, Nat.sub_zero]
  by_cases h : k ≤ ds.length
  · rw [Nat.min_eq_left h]
  · rw [Nat.min_eq_right (by omega), List.take_of_length_le (Nat.le_refl _), List.take_of_length_le (by omega)]
theorem cut_1 {ds : List D} : cutD ds (some 1) none = ds.drop 1 := cut_from (k := 1)
theorem cut_succ {ds : List D} {k : Nat} : cutD ds (some ((k : Int) + 1)) none = ds.drop (k + 1) := cut_from (k := k + 1)
/-- can the people do the choice's jobs, one each -/
def manned (w : Works) : List Nat → List Person → Bool
  | [], _ => true
  | s :: c, ps => (List.range ps.length).any fun k => decide ((w.slots.getD s default).name ∈ (ps.getD k ⟨default, []⟩).skills) && manned w c (ps.take k ++ ps.drop (k + 1))
def allowed (w : Works) (st : State) (c : List Nat) : Bool := ((List.range w.kinds.length).all fun k => !((kindAt w k).spare && decide (st.stores.getD k 0 < ((ofKind w c k).length : Int)))) && manned w c w.people
theorem drop1 {α : Type} {a : α} {l : List α} : (a :: l).drop 1 = l := rfl
theorem sub_filter : ∀ {c l : List Nat}, c.Sublist l → l.Nodup → c = l.filter fun s => decide (s ∈ c)
  | _, _, .slnil, _ => rfl
  | c, _, .cons (l₂ := l) a h, hn => by
    have hn' := List.nodup_cons.mp hn
    have ha : a ∉ c := fun q => hn'.1 (h.subset q)
    rw [List.filter_cons, if_neg (by simpa using ha)]
    exact sub_filter h hn'.2
  | _, _, .cons_cons (l₁ := c) (l₂ := l) a h, hn => by
    have hn' := List.nodup_cons.mp hn
    rw [List.filter_cons, if_pos (by simp)]
    have e := sub_filter h hn'.2
    congr 1
    rw [e]
    apply List.filter_congr
    intro s hs
    have hne : s ≠ a := fun q => hn'.1 (q ▸ hs)
    rw [← e]
    simp [hne]
theorem cok_sub {w : Works} {c : List Nat} (h : c.Sublist (List.range w.slots.length)) : COk w c := sub_filter h List.nodup_range
/-! ### a day keeps the state's form -/
theorem kindsAt_mem {w : Works} {k : Nat} (h : k < w.kinds.length) : kindAt w k ∈ w.kinds := by
  unfold kindAt
  rw [List.getD, List.getElem?_eq_getElem h]
  exact List.getElem_mem h
theorem waiting_spare {w : Works} {st : State} (hw : WOk w) (hst : SOk w st) {c : List Nat} {p : Int × Nat} (h : p ∈ waiting w st c) : 1 ≤ p.1 ∧ p.2 < w.kinds.length ∧ (w.kinds.getD p.2 default).spare = true := by
  rcases List.mem_append.mp h with h | h
  · exact hst.shop p h
  · obtain ⟨h1, h2, h3⟩ := jobsP_kind h
    exact ⟨by omega, h1, (hw.days _ (kindsAt_mem h1)).2 (by rw [← h3]; exact h2)⟩
theorem waiting_len {w : Works} {st : State} (hw : WOk w) {c : List Nat} (hc : COk w c) : (waiting w st c).length ≤ st.shop.length + w.slots.length := by
  rw [← (waiting_perm (st := st) hw hc).length_eq, List.length_append]
  have := jobsL_len w c w.slots.length
  omega
theorem needed_of (w : Works) (c : List Nat) (k : Nat) : needed w c k ≤ (ofKind w c k).length := by
  unfold needed ofKind
  rw [← List.countP_eq_length_filter]
  apply List.countP_mono_left
  intro s _ h
  simp only [Bool.and_eq_true] at h
  exact h.2
theorem needed_nosp {w : Works} {c : List Nat} {k : Nat} (h : (w.kinds.getD k default).spare = false) : needed w c k = 0 := by
  unfold needed
  rw [List.countP_eq_zero]
  intro s _ q
  simp only [Bool.and_eq_true, decide_eq_true_eq] at q
  have e : kindOf w s = w.kinds.getD k default := by unfold kindOf; rw [q.2]
  unfold isJob at q
  rw [e, h] at q
  exact Bool.false_ne_true q.1
theorem stores_at (w : Works) (st : State) (c : List Nat) {k : Nat} (h : k < w.kinds.length) : (storesTo w st c).getD k 0 = st.stores.getD k 0 - needed w c k + backOf (waiting w st c) k := by
  unfold storesTo
  rw [List.getD, List.getElem?_map, List.getElem?_range h]
  rfl
theorem allowed_of {w : Works} {st : State} {c : List Nat} (h : allowed w st c = true) {k : Nat} (hk : k < w.kinds.length) (hs : (w.kinds.getD k default).spare = true) : ((ofKind w c k).length : Int) ≤ st.stores.getD k 0 := by
  unfold allowed at h
  rw [Bool.and_eq_true] at h
  have := List.all_eq_true.mp h.1 k (List.mem_range.mpr hk)
  have hs' : (kindAt w k).spare = true := hs
  rw [hs', Bool.true_and] at this
  have h2 : ¬ st.stores.getD k 0 < ((ofKind w c k).length : Int) := by simpa using this
  omega
theorem pos_at {w : Works} {st : State} (hst : SOk w st) {k : Nat} (hk : k < w.kinds.length) : 0 ≤ st.stores.getD k 0 := by
  have h : k < st.stores.length := by rw [hst.stores]; exact hk
  rw [List.getD, List.getElem?_eq_getElem h]
  exact hst.pos _ (List.getElem_mem h)
theorem mem_shopTo {w : Works} {st : State} {c : List Nat} {p : Int × Nat} : p ∈ shopTo w st c ↔ ∃ q ∈ waiting w st c, 1 < q.1 ∧ p = (q.1 - 1, q.2) := by
  unfold shopTo sortPairs
  rw [(List.mergeSort_perm _ _).mem_iff]
  unfold shopOf
  rw [List.mem_map]
  constructor
  · rintro ⟨q, hq, rfl⟩
    rw [List.mem_filter] at hq
    exact ⟨q, hq.1, of_decide_eq_true hq.2, rfl⟩
  · rintro ⟨q, hq, h1, rfl⟩
    exact ⟨q, List.mem_filter.mpr ⟨hq, decide_eq_true h1⟩, rfl⟩
theorem shopTo_len {w : Works} {st : State} (hw : WOk w) {c : List Nat} (hc : COk w c) : (shopTo w st c).length ≤ st.shop.length + w.slots.length := by
  unfold shopTo sortPairs
  rw [(List.mergeSort_perm _ _).length_eq]
  unfold shopOf
  rw [List.length_map]
  exact Nat.le_trans (List.length_filter_le _ _) (waiting_len hw hc)
theorem step_sok {w : Works} {st st' : State} {c : List Nat} {e : Event} (hw : WOk w) (hst : SOk w st) (hc : COk w c) (hal : allowed w st c = true) (hroom : st.shop.length + w.slots.length ≤ 1000000) (h : stepTo w st c e = some st') :
    SOk w st' ∧ st'.shop.length ≤ st.shop.length + w.slots.length := by
  unfold stepTo at h
  cases hW : worn w st c e with
  | none => rw [hW] at h; cases h
  | some l =>
    rw [hW] at h
    cases h
    have hlen := shopTo_len (st := st) hw hc
    have hval : ∀ k, k < w.kinds.length → ((w.kinds.getD k default).spare = false → (storesTo w st c).getD k 0 = 0) ∧ 0 ≤ (storesTo w st c).getD k 0 := by
      intro k hk
      rw [stores_at w st c hk]
      cases hs : (w.kinds.getD k default).spare with
      | true =>
        have h1 := allowed_of hal hk hs
        have h2 := needed_of w c k
        exact ⟨fun q => (by cases q), by omega⟩
      | false =>
        have h1 : backOf (waiting w st c) k = 0 := by
          unfold backOf
          rw [List.countP_eq_zero]
          intro p hp q
          simp only [Bool.and_eq_true, decide_eq_true_eq] at q
          have := (waiting_spare hw hst hp).2.2
          rw [q.2, hs] at this
          cases this
        rw [needed_nosp hs, hst.none k hk hs, h1]
        exact ⟨fun _ => rfl, by decide⟩
    refine ⟨⟨wornTo_len hW, by simp [storesTo], fun p hp => ?_, by show (shopTo w st c).length ≤ 1000000; omega, fun k hk hs => (hval k hk).1 hs, fun x hx => ?_⟩, hlen⟩
    · obtain ⟨q, hq, h1, rfl⟩ := mem_shopTo.mp hp
      have := waiting_spare hw hst hq
      exact ⟨by show 1 ≤ q.1 - 1; omega, this.2⟩
    · obtain ⟨k, hk, rfl⟩ := List.mem_iff_getElem.mp hx
      have hk2 : k < w.kinds.length := by simpa [storesTo] using hk
      have := (hval k hk2).2
      rw [List.getD, List.getElem?_eq_getElem hk] at this
      exact this
theorem rng_ints (lo : Int) (n : Nat) : rngD lo n = ((List.range n).map fun i : Nat => lo + (i : Int)).map PyData.int := by
  rw [List.map_map]; rfl
theorem rng_len (lo : Int) (n : Nat) : (rngD lo n).length = n := by simp [rngD]
theorem rg_ok {i j : Int} (h0 : -100 ≤ i) (h1 : i ≤ 1000) (h2 : -100 ≤ j) (h3 : j ≤ 1000) : L2.RgOk i j := ⟨by omega, by omega, by omega, by omega, by omega⟩
end KW

set_option Elab.async false
set_option linter.all false
set_option maxRecDepth 100000
set_option maxHeartbeats 1000000
/-! KS5: where a fitting part goes, it fits -/
namespace KW
open PySem PV
theorem pin_of_fits {w : Works} {st : State} {p : Plc} (h : fits w st p = true) : PIn w p := by
  cases p with
  | slot i =>
    simp only [fits, Bool.and_eq_true, decide_eq_true_eq] at h
    obtain ⟨s, rfl⟩ := Int.eq_ofNat_of_zero_le h.1.1
    exact .slot s (by omega)
  | store k =>
    simp only [fits, Bool.and_eq_true, decide_eq_true_eq] at h
    obtain ⟨s, rfl⟩ := Int.eq_ofNat_of_zero_le h.1.1
    exact .store s (by omega)
  | shop d k =>
    simp only [fits, Bool.and_eq_true, decide_eq_true_eq] at h
    obtain ⟨s, rfl⟩ := Int.eq_ofNat_of_zero_le h.1.2.1
    exact .shop d s (by omega)
  | gone => exact .gone
theorem job_mem {w : Works} {c : List Nat} {s : Nat} (h1 : s ∈ c) (h2 : isJob w s = true) (h3 : 0 < (kindOf w s).days) : ∀ {n : Nat}, s < n → ((kindOf w s).days, kindIx w s) ∈ jobsL w c n
  | 0, h => by omega
  | n + 1, h => by
    rw [jobsL_succ]
    by_cases e : s = n
    · subst e
      rw [if_pos ⟨h1, h2, h3⟩]
      simp
    · exact List.mem_append_left _ (job_mem h1 h2 h3 (by omega))
theorem back_pos {l : List (Int × Nat)} {d : Int} {k : Nat} (h : (d, k) ∈ l) (hd : ¬ 1 < d) : 1 ≤ backOf l k := by
  unfold backOf
  have : 0 < l.countP fun p => !decide (1 < p.1) && decide (p.2 = k) := List.countP_pos_iff.mpr ⟨(d, k), h, by simp [hd]⟩
  exact this
/-- a part that waits comes to where it goes -/
theorem shop_fits {w : Works} {st st' : State} {c : List Nat} {e : Event} (hw : WOk w) (hst : SOk w st) (hal : allowed w st c = true) (h : stepTo w st c e = some st') {d : Int} {k : Nat} (hm : (d, k) ∈ waiting w st c) : fits w st' (behindShop d k) = true := by
  unfold stepTo at h
  cases hW : worn w st c e with
  | none => rw [hW] at h; cases h
  | some l =>
    rw [hW] at h
    cases h
    obtain ⟨h1, h2, h3⟩ := waiting_spare hw hst hm
    unfold behindShop
    by_cases hd : 1 < d
    · rw [if_pos hd]
      simp only [fits, Bool.and_eq_true, decide_eq_true_eq]
      exact ⟨⟨by omega, by omega, by simp at h2; omega⟩, (d - 1, k), mem_shopTo.mpr ⟨(d, k), hm, hd, rfl⟩, rfl, rfl⟩
    · rw [if_neg hd]
      have hb := back_pos hm hd
      have hn := needed_of w c k
      have ha := allowed_of hal h2 h3
      simp only at h2 ha
      simp only [fits, Bool.and_eq_true, decide_eq_true_eq, Int.toNat_natCast]
      refine ⟨⟨by omega, by omega⟩, ?_⟩
      rw [stores_at w st c h2]
      omega
theorem next_fits {w : Works} {st st' : State} {c : List Nat} {e : Event} (hw : WOk w) (hst : SOk w st) (hc : COk w c) (hal : allowed w st c = true) (h : stepTo w st c e = some st') {p q : Plc} (hp : fits w st p = true ∨ p = .gone) (hq : q ∈ nextP w st c p) : fits w st' q = !decide (q = .gone) := by
  have key : fits w st' q = true → fits w st' q = !decide (q = .gone) := fun hf => by
    have : q ≠ .gone := fun e => by rw [e] at hf; cases hf
    rw [hf, decide_eq_false this]; rfl
  have hgone : q = .gone → fits w st' q = !decide (q = .gone) := fun e => by subst e; simp [fits]
  rcases hp with hp | rfl
  · cases p with
    | slot i =>
      have hpin := pin_of_fits hp
      cases hpin with
      | slot s hs =>
        have hsp : (kindOf w s).spare = true := by
          simp only [fits, Bool.and_eq_true, Int.toNat_natCast] at hp
          exact hp.2
        simp only [nextP, Int.toNat_natCast] at hq
        by_cases hsc : s ∈ c
        · rw [if_pos hsc, List.mem_singleton] at hq
          subst hq
          unfold behindJob
          by_cases hd : (kindOf w s).days = 0
          · rw [if_pos hd]; simp [fits]
          · rw [if_neg hd]
            have hkm : kindOf w s ∈ w.kinds := kindsAt_mem (hw.kin s hs)
            have h0 := (hw.days _ hkm).1
            have hm : ((kindOf w s).days, kindIx w s) ∈ waiting w st c := (waiting_perm (st := st) hw hc).mem_iff.mp (List.mem_append_right _ (job_mem hsc hsp (by omega) hs))
            have hf := shop_fits hw hst hal h hm
            have hne : behindShop (kindOf w s).days (kindIx w s) ≠ .gone := fun e => by rw [e] at hf; cases hf
            rw [hf, decide_eq_false hne]; rfl
        · rw [if_neg hsc, List.mem_singleton] at hq
          subst hq
          refine key ?_
          simp only [fits, Bool.and_eq_true, decide_eq_true_eq, Int.toNat_natCast]
          exact ⟨⟨by omega, by omega⟩, hsp⟩
    | store k' =>
      have hpin := pin_of_fits hp
      cases hpin with
      | store k hk =>
        have hpos : 0 < st.stores.getD k 0 := by
          simp only [fits, Bool.and_eq_true, decide_eq_true_eq, Int.toNat_natCast] at hp
          exact hp.2
        have hsp : (w.kinds.getD k default).spare = true := by
          cases hs : (w.kinds.getD k default).spare with
          | true => rfl
          | false => have := hst.none k hk hs; omega
        simp only [nextP, Int.toNat_natCast] at hq
        rcases List.mem_append.mp hq with hq | hq
        · obtain ⟨s, hs, rfl⟩ := List.mem_map.mp hq
          unfold ofKind at hs
          rw [List.mem_filter] at hs
          have hk2 : kindIx w s = k := of_decide_eq_true hs.2
          have hsl := hc.lt s hs.1
          refine key ?_
          simp only [fits, Bool.and_eq_true, decide_eq_true_eq, Int.toNat_natCast]
          refine ⟨⟨by omega, by omega⟩, ?_⟩
          unfold kindOf
          rw [hk2]
          exact hsp
        · by_cases hlt : ((ofKind w c k).length : Int) < st.stores.getD k 0
          · rw [if_pos hlt, List.mem_singleton] at hq
            subst hq
            refine key ?_
            unfold stepTo at h
            cases hW : worn w st c e with
            | none => rw [hW] at h; cases h
            | some l =>
              rw [hW] at h
              cases h
              have hn := needed_of w c k
              simp only [fits, Bool.and_eq_true, decide_eq_true_eq, Int.toNat_natCast]
              refine ⟨⟨by omega, by omega⟩, ?_⟩
              rw [stores_at w st c hk]
              omega
          · rw [if_neg hlt] at hq
            simp at hq
    | shop d k' =>
      have hpin := pin_of_fits hp
      cases hpin with
      | shop _ k hk =>
        simp only [fits, Bool.and_eq_true, decide_eq_true_eq] at hp
        obtain ⟨_, p, hp1, hp2, hp3⟩ := hp
        have hm : (d, k) ∈ waiting w st c := by
          obtain ⟨p1, p2⟩ := p
          have hp2' : p1 = d := hp2
          have hp3' : (p2 : Int) = (k : Int) := hp3
          have : p2 = k := by omega
          subst hp2' this
          exact List.mem_append_left _ hp1
        simp only [nextP, List.mem_singleton] at hq
        subst hq
        exact key (shop_fits hw hst hal h hm)
    | gone => cases hp
  · simp only [nextP, List.mem_singleton] at hq
    exact hgone hq
theorem next_ne {w : Works} {st : State} {c : List Nat} {p : Plc} (hp : fits w st p = true ∨ p = .gone) : 0 < (nextP w st c p).length := by
  rcases hp with hp | rfl
  · cases p with
    | slot i =>
      simp only [nextP]
      by_cases h : i.toNat ∈ c
      · rw [if_pos h]; exact Nat.succ_pos _
      · rw [if_neg h]; exact Nat.succ_pos _
    | shop d k => simp [nextP]
    | gone => simp [nextP]
    | store k' =>
      have hpin := pin_of_fits hp
      cases hpin with
      | store k hk =>
        have hpos : 0 < st.stores.getD k 0 := by
          simp only [fits, Bool.and_eq_true, decide_eq_true_eq, Int.toNat_natCast] at hp
          exact hp.2
        simp only [nextP, Int.toNat_natCast, List.length_append, List.length_map]
        by_cases hl : ((ofKind w c k).length : Int) < st.stores.getD k 0
        · rw [if_pos hl]; simp
        · omega
  · simp [nextP]
theorem next_pin {w : Works} (hw : WOk w) {st : State} {c : List Nat} {p : Plc} (hp : fits w st p = true ∨ p = .gone) : PIn w p := by
  rcases hp with hp | rfl
  · exact pin_of_fits hp
  · exact .gone
theorem sm_place {n : Nat} (p : Plc) : Sm (n + 1) (dPlace p) := by
  cases p with
  | slot i => exact .tuple (by simp) (by intro d hd; simp at hd; rcases hd with rfl | rfl; exact .str _; exact .int _)
  | store i => exact .tuple (by simp) (by intro d hd; simp at hd; rcases hd with rfl | rfl; exact .str _; exact .int _)
  | shop a b => exact .tuple (by simp) (by intro d hd; simp at hd; rcases hd with rfl | rfl | rfl; exact .str _; exact .int _; exact .int _)
  | gone => exact .tuple (by simp) (by intro d hd; simp at hd; subst hd; exact .str _)
theorem sm_places {l : List Plc} (h : l.length ≤ 16777216) : Sm 2 (.list (l.map dPlace)) := .list (by simpa using h) (by
  intro d hd
  obtain ⟨p, _, rfl⟩ := List.mem_map.mp hd
  exact sm_place p)
theorem sm_ints {n : Nat} {l : List Int} (h : l.length ≤ 16777216) : Sm (n + 1) (.tuple (l.map PyData.int)) := .tuple (by simpa using h) (by
  intro d hd
  obtain ⟨p, _, rfl⟩ := List.mem_map.mp hd
  exact .int _)
theorem sm_state {w : Works} (hw : WOk w) {s : State} (hs : SOk w s) : Sm 3 (dState s) := .tuple (by simp) (by
  intro d hd
  have h1 := hw.nk
  have h2 := hw.ns
  have h3 := hs.few
  have h4 := hs.wears
  have h5 := hs.stores
  simp at hd
  rcases hd with rfl | rfl | rfl
  · exact sm_ints (by omega)
  · exact sm_ints (by omega)
  · refine .tuple (by simp; omega) ?_
    intro d hd
    obtain ⟨p, _, rfl⟩ := List.mem_map.mp hd
    exact .tuple (by simp) (by intro d hd; simp at hd; rcases hd with rfl | rfl; exact .int _; exact .int _))
theorem next_len {w : Works} {st : State} {c : List Nat} {p : Plc} : (nextP w st c p).length ≤ c.length + 1 := by
  cases p with
  | slot i =>
    simp only [nextP]
    by_cases h : i.toNat ∈ c
    · rw [if_pos h]; simp
    · rw [if_neg h]; simp
  | shop d k => simp [nextP]
  | gone => simp [nextP]
  | store k =>
    simp only [nextP, List.length_append, List.length_map]
    have h1 : (ofKind w c k.toNat).length ≤ c.length := List.length_filter_le _ _
    by_cases h : ((ofKind w c k.toNat).length : Int) < st.stores.getD k.toNat 0
    · rw [if_pos h]; simp; omega
    · rw [if_neg h]; simp; omega
theorem isn_none : isNoneD .none = true := rfl
theorem isn_tup {ds : List D} : isNoneD (.tuple ds) = false := rfl
theorem isn_int {i : Int} : isNoneD (.int i) = false := rfl
theorem isn_state {s : State} : isNoneD (dState s) = false := rfl
end KW

set_option Elab.async false
set_option linter.all false
set_option maxRecDepth 100000
set_option maxHeartbeats 1000000
/-! KS6: what the drawn workshops of most laws are -/
namespace KW
open PySem PV

/-- the sign at v -/
def sg (z : Str) (v : Nat) : Str := ⟨#[z.cps.getD v 0]⟩
def nmK (z : Str) (v k : Nat) : Str := sg z v ++ (toString (k : Int) : String)
theorem c_sg {z : Str} {v : Nat} (hz : z.length ≤ 16777216) (h1 : v < z.length) : atD (.str z) (.int (v : Int)) = some (.str (sg z v)) := by
  have hv : v < z.cps.toList.length := by rw [Array.length_toList]; exact h1
  unfold atD
  dsimp only
  rw [cpos (by rw [szl]; exact hz)]
  have : L2.atI z.cps.toList (v : Int) = some z.cps.toList[v] := by
    have := c_atI (xs := z.cps.toList) (i := (v : Int)) (by omega) (by simp only [Int.toNat_natCast]; exact List.getElem?_eq_getElem hv)
    exact this
  rw [this]
  show some (PyData.str ⟨#[z.cps.toList[v]]⟩) = some (PyData.str ⟨#[z.cps.getD v 0]⟩)
  have e : z.cps.getD v 0 = z.cps.toList[v] := by
    rw [Array.getD_eq_getD_getElem?, ← Array.getElem?_toList, List.getElem?_eq_getElem hv]
    rfl
  rw [e]
theorem sg_len (z : Str) (v : Nat) : (sg z v).length = 1 := rfl
theorem few_dig : ∀ k : Nat, k < 8 → (toString (k : Int) : String) = (["0", "1", "2", "3", "4", "5", "6", "7"].getD k "") := by decide
theorem dig_len {k : Nat} (h : k < 8) : (Str.ofString (toString (k : Int))).length = 1 := by
  rw [few_dig k h]
  revert h
  revert k
  decide +kernel

theorem c_str8 {k : Nat} (h : k < 8) : strD [.int (k : Int)] = some (.ex (.str (toString (k : Int) : String))) := by
  unfold strD
  dsimp only
  rw [cpos]
  revert h
  revert k
  decide
theorem c_nmK {z : Str} {v k : Nat} (h : k < 8) : addD (.str (sg z v)) (.str (toString (k : Int) : String)) = some (.ex (.str (nmK z v k))) := by
  unfold addD
  dsimp only
  rw [cpos]
  · rfl
  · have := dig_len h
    rw [sg_len]
    rw [szl]
    omega
theorem c_pre {z : Str} {k : Nat} (hz : z.length ≤ 10) (h : k < 8) : addD (.str z) (.str (toString (k : Int) : String)) = some (.ex (.str (z ++ (toString (k : Int) : String)))) := by
  unfold addD
  dsimp only
  rw [cpos]
  have := dig_len h
  rw [szl]
  omega
/-- a table of wear -/
structure TV (t : List (Int × Int)) : Prop where
  one : 1 ≤ t.length
  few : t.length ≤ 3
  start : ∃ v, t[0]? = some (0, v) ∧ 0 ≤ v
  up : ∀ i a b, t[i]? = some a → t[i + 1]? = some b → a.1 < b.1 ∧ a.2 ≤ b.2
theorem TV.snoc {rs : List (Int × Int)} {p b : Int × Int} (h : TV (rs ++ [p])) (hl : (rs ++ [p]).length ≤ 2) (h1 : p.1 < b.1) (h2 : p.2 ≤ b.2) : TV (rs ++ [p] ++ [b]) where
  one := by simp
  few := by simp at hl ⊢; omega
  start := by
    obtain ⟨v, e, hv⟩ := h.start
    exact ⟨v, by rw [List.getElem?_append_left (by simp)]; exact e, hv⟩
  up := fun i x y ex ey => by
    have hy := (List.getElem?_eq_some_iff.mp ey).1
    rw [List.length_append, List.length_singleton] at hy
    by_cases hi : i + 1 < (rs ++ [p]).length
    · rw [List.getElem?_append_left (by omega)] at ex
      rw [List.getElem?_append_left hi] at ey
      exact h.up i x y ex ey
    · have hi2 : i + 1 = (rs ++ [p]).length := by omega
      rw [hi2, List.getElem?_append_right (Nat.le_refl _), Nat.sub_self] at ey
      cases ey
      rw [List.getElem?_append_left (by omega)] at ex
      have : i = rs.length := by simp at hi2; exact hi2
      subst this
      rw [List.getElem?_append_right (Nat.le_refl _), Nat.sub_self] at ex
      cases ex
      exact ⟨h1, h2⟩
structure VKind (i : Nat) (k : Kind) : Prop where
  name : ∃ v, v < 8 ∧ k.name = nmK "abcdefgh" v i
  lim : 1 ≤ k.limit
  lim3 : k.limit ≤ 3
  table : TV k.table
  days : 0 ≤ k.days
  few : k.days ≤ 2
  sp : 0 < k.days → k.spare = true
structure VSlot (ks : List Kind) (i : Nat) (s : Slot) : Prop where
  name : ∃ v, v < 8 ∧ s.name = nmK "mnopqrst" v i
  kind : ∃ j, j < ks.length ∧ s.kind = (ks.getD j default).name
  cost : 0 ≤ s.worth
  few : s.worth ≤ 5
structure VPerson (sl : List Slot) (i : Nat) (p : Person) : Prop where
  name : p.name = Str.ofString "p" ++ (toString (i : Int) : String)
  skills : ∃ c : List Nat, c.Sublist (List.range sl.length) ∧ (p.skills = (c.map fun s => (sl.getD s default).name) ∨ p.skills = (c.map fun s => (sl.getD s default).name).reverse)
structure VEvent (n : Nat) (i : Nat) (e : Event) : Prop where
  name : e.name = Str.ofString "day" ++ (toString (i : Int) : String)
  hours : e.hours.length = n
  hr : ∀ h ∈ e.hours, 0 ≤ h ∧ h ≤ 99
  fails : e.fails.Sublist (List.range n)
structure VOk (w : Works) : Prop where
  nk1 : 1 ≤ w.kinds.length
  nk2 : w.kinds.length ≤ 2
  ns1 : 1 ≤ w.slots.length
  ns3 : w.slots.length ≤ 3
  np : w.people.length ≤ 3
  ne1 : 1 ≤ w.events.length
  ne2 : w.events.length ≤ 2
  worth : 0 ≤ w.worth
  worth3 : w.worth ≤ 3
  kinds : ∀ (i : Nat) k, w.kinds[i]? = some k → VKind i k
  slots : ∀ (i : Nat) s, w.slots[i]? = some s → VSlot w.kinds i s
  people : ∀ (i : Nat) p, w.people[i]? = some p → VPerson w.slots i p
  events : ∀ (i : Nat) e, w.events[i]? = some e → VEvent w.slots.length i e
theorem VKind.kok {i : Nat} {k : Kind} (h : VKind i k) : KOk k := ⟨h.lim, by have := h.lim3; omega, h.days, by have := h.few; omega, h.sp⟩
theorem VOk.kmem {w : Works} (h : VOk w) {k : Kind} (hk : k ∈ w.kinds) : ∃ i, VKind i k := by
  obtain ⟨i, hi, rfl⟩ := List.mem_iff_getElem.mp hk
  exact ⟨i, h.kinds i _ (List.getElem?_eq_getElem hi)⟩
theorem VOk.emem {w : Works} (h : VOk w) {e : Event} (he : e ∈ w.events) : ∃ i, VEvent w.slots.length i e := by
  obtain ⟨i, hi, rfl⟩ := List.mem_iff_getElem.mp he
  exact ⟨i, h.events i _ (List.getElem?_eq_getElem hi)⟩
theorem VOk.wok {w : Works} (h : VOk w) : WOk w where
  nk := by have := h.nk2; omega
  ns := by have := h.ns3; omega
  ne := by have := h.ne2; omega
  kin := fun s hs => by
    obtain ⟨j, hj, e⟩ := (h.slots s _ (getD_lt (d := default) hs)).kind
    unfold kindIx
    rw [List.findIdx_lt_length]
    exact ⟨w.kinds.getD j default, List.mem_of_getElem? (getD_lt hj), decide_eq_true e.symm⟩
  days := fun k hk => by
    obtain ⟨i, hv⟩ := h.kmem hk
    exact ⟨hv.days, hv.sp⟩
  lim := fun k hk => by
    obtain ⟨i, hv⟩ := h.kmem hk
    have := hv.lim
    omega
  hours := fun e he => by
    obtain ⟨i, hv⟩ := h.emem he
    exact hv.hours
  fails := fun e he s hs => by
    obtain ⟨i, hv⟩ := h.emem he
    have := hv.fails.subset hs
    simpa using this
theorem VOk.kok {w : Works} (h : VOk w) : ∀ k ∈ w.kinds, KOk k := fun k hk => by
  obtain ⟨i, hv⟩ := h.kmem hk
  exact hv.kok
/-- what a drawn start is besides -/
structure VS (w : Works) (st : State) : Prop where
  sok : SOk w st
  wears : ∀ s, s < w.slots.length → 0 ≤ st.wears.getD s 0 ∧ st.wears.getD s 0 ≤ (kindOf w s).limit
  stores : ∀ x ∈ st.stores, x ≤ 4
  shop : ∀ p ∈ st.shop, p.1 ≤ (kindAt w p.2).days
  sorted : ∃ l, st.shop = sortPairs l
  few : st.shop.length ≤ 2
theorem snoc_getD {α : Type} {l : List α} {x d : α} {P : Nat → α → Prop} (h : ∀ i, i < l.length → P i (l.getD i d)) (hx : P l.length x) : ∀ i, i < (l ++ [x]).length → P i ((l ++ [x]).getD i d) := fun i hi => by
  rw [List.length_append, List.length_singleton] at hi
  by_cases h1 : i < l.length
  · rw [List.getD, List.getElem?_append_left h1]
    exact h i h1
  · have : i = l.length := by omega
    subst this
    rw [List.getD, List.getElem?_append_right (Nat.le_refl _), Nat.sub_self]
    exact hx
theorem snoc_get {α : Type} {P : Nat → α → Prop} {l : List α} {x : α} (h : ∀ (i : Nat) y, l[i]? = some y → P i y) (hx : P l.length x) : ∀ (i : Nat) y, (l ++ [x])[i]? = some y → P i y := fun i y e => by
  by_cases hi : i < l.length
  · rw [List.getElem?_append_left hi] at e
    exact h i y e
  · have hl := (List.getElem?_eq_some_iff.mp e).1
    rw [List.length_append, List.length_singleton] at hl
    have : i = l.length := by omega
    subst this
    rw [List.getElem?_append_right (Nat.le_refl _), Nat.sub_self] at e
    cases e
    exact hx
end KW

set_option Elab.async false
set_option linter.all false
set_option maxRecDepth 100000
set_option maxHeartbeats 1000000
/-! KS7: the choices of a workshop -/
namespace KW
open PySem PV

def dC (c : List Nat) : D := .tuple (c.map dNat)
def lowC (c : List Nat) : Nat := match c.getLast? with
  | some x => x + 1
  | none => 0
def extC (n : Nat) (c : List Nat) : List (List Nat) := (List.range (n - lowC c)).map fun i => c ++ [lowC c + i]
def growC (n k : Nat) (L : List (List Nat)) : List (List Nat) := (L.filter fun c => decide (c.length = k)).flatMap (extC n)
def lawF (n : Nat) : Nat → List (List Nat)
  | 0 => [[]]
  | k + 1 => lawF n k ++ growC n k (lawF n k)
/-- all sets of slots, by size and then as tuples -/
def allC (n : Nat) : List (List Nat) := (List.range (n + 1)).flatMap fun k => CB.combs k (List.range n)
theorem lawF_all : ∀ n, n < 7 → lawF n n = allC n := by decide +kernel
theorem lawF_few : ∀ n, n < 7 → ∀ k, k < 7 → (lawF n k).length ≤ 64 := by decide +kernel
theorem mem_allC {n : Nat} {c : List Nat} (h : c ∈ allC n) : c.Sublist (List.range n) := by
  unfold allC at h
  rw [List.mem_flatMap] at h
  obtain ⟨k, _, hc⟩ := h
  exact ((CB.combs_sub k _ _).mp hc).1
theorem allC_mem {n : Nat} {c : List Nat} (h : c.Sublist (List.range n)) : c ∈ allC n := by
  unfold allC
  rw [List.mem_flatMap]
  have := h.length_le
  rw [List.length_range] at this
  exact ⟨c.length, List.mem_range.mpr (by omega), (CB.combs_sub _ _ _).mpr ⟨h, rfl⟩⟩
theorem lawF_pre {n : Nat} : ∀ {k m : Nat}, k ≤ m → ∃ r, lawF n m = lawF n k ++ r
  | k, 0, h => ⟨[], by rw [Nat.le_zero.mp h, List.append_nil]⟩
  | k, m + 1, h => by
    by_cases e : k = m + 1
    · exact ⟨[], by rw [e, List.append_nil]⟩
    · obtain ⟨r, hr⟩ := lawF_pre (n := n) (show k ≤ m by omega)
      exact ⟨r ++ growC n m (lawF n m), by rw [lawF, ← List.append_assoc, ← hr]⟩
theorem lawF_sub {n k : Nat} (hn : n < 7) (hk : k ≤ n) {c : List Nat} (h : c ∈ lawF n k) : c.Sublist (List.range n) := by
  obtain ⟨r, hr⟩ := lawF_pre (n := n) hk
  refine mem_allC ?_
  rw [← lawF_all n hn, hr]
  exact List.mem_append_left _ h
theorem growC_snoc (n k : Nat) (L : List (List Nat)) (c : List Nat) : growC n k (L ++ [c]) = growC n k L ++ if c.length = k then extC n c else [] := by
  unfold growC
  rw [List.filter_append, List.flatMap_append]
  by_cases h : c.length = k <;> simp [h]
theorem growC_len {n k : Nat} : ∀ {L : List (List Nat)}, (growC n k L).length ≤ L.length * n
  | [] => by simp [growC]
  | c :: L => by
    have ih := growC_len (n := n) (k := k) (L := L)
    have : growC n k (c :: L) = (if c.length = k then extC n c else []) ++ growC n k L := by
      unfold growC
      by_cases h : c.length = k <;> simp [h]
    rw [this, List.length_append, List.length_cons, Nat.add_mul]
    have h2 : (if c.length = k then extC n c else []).length ≤ n := by
      split
      · unfold extC; rw [List.length_map, List.length_range]; omega
      · simp
    omega
theorem c_atLastT (ds : List D) (d : D) : atD (.tuple (ds ++ [d])) (.int (-1)) = some d := c_atLast ds d
theorem lowC_snoc (c : List Nat) (x : Nat) : lowC (c ++ [x]) = x + 1 := by unfold lowC; rw [List.getLast?_append]; rfl
theorem lowC_le {n : Nat} {c : List Nat} (h : c.Sublist (List.range n)) : lowC c ≤ n := by
  unfold lowC
  split
  · rename_i x hx
    have := h.subset (List.mem_of_getLast? hx)
    rw [List.mem_range] at this
    omega
  · omega
theorem c_cmb {as : Av} {cs : List Hd} {σ σ1 σ2 : Sg} {ds : List D} {k : Nat} (e1 : as σ = some (cs, σ1)) (e2 : frzAll cs σ1 = some ([.list ds, .int (k : Int)], σ2)) (hk : k ≤ 1048576) : iCmb as σ = some (cmbD k ds, σ2) := by
  unfold iCmb
  simp only [e1, e2, seqLT]
  rw [cpos ⟨by omega, by omega⟩, Int.toNat_natCast]
theorem c_rng2 {as : Av} {cs : List Hd} {σ σ1 : Sg} {i j : Int} (h0 : -1000000 ≤ i ∧ i ≤ 1000000) (h1 : -1000000 ≤ j ∧ j ≤ 1000000) (e1 : as σ = some (cs, σ1)) (e2 : unholds cs σ1 = some [.int i, .int j]) : iRng2 as σ = some (rngD i (j - i).toNat, σ1) := by
  unfold iRng2
  simp only [e1, e2]
  rw [cpos ⟨by omega, by omega, by omega, by omega⟩]
theorem cmb_rng (k n : Nat) : cmbD k (rngD 0 n) = (CB.combs k (List.range n)).map dC := by
  rw [cmbD, rng0, CB.combs_map, List.map_map]
  rfl
/-- the first completing of people, person by person -/
def skill (w : Works) (p s : Nat) : Bool := decide ((w.slots.getD s default).name ∈ (w.people.getD p ⟨default, []⟩).skills)
def compl (w : Works) (c : List Nat) : Nat → List Nat → Option (List Nat)
  | 0, _ => none
  | m + 1, ps => if ps.length = c.length then some ps else (List.range w.people.length).findSome? fun p => if p ∉ ps ∧ skill w p (c.getD ps.length 0) = true then compl w c m (ps ++ [p]) else none
def dOpt : Option (List Nat) → D
  | some l => dC l
  | none => .none
def sparedB (w : Works) (st : State) (c : List Nat) : Bool := (List.range w.kinds.length).all fun k => !((kindAt w k).spare && decide (st.stores.getD k 0 < ((ofKind w c k).length : Int)))
def hasSp (w : Works) (st : State) (c : List Nat) : Bool := (List.range w.kinds.length).all fun k => !decide (st.stores.getD k 0 < (needed w c k : Int))
theorem needed_sp {w : Works} {c : List Nat} {k : Nat} (h : (kindAt w k).spare = true) : needed w c k = (ofKind w c k).length := by
  unfold needed ofKind
  rw [← List.countP_eq_length_filter]
  refine List.countP_congr fun s _ => ?_
  simp only [Bool.and_eq_true, decide_eq_true_eq]
  constructor
  · exact fun q => q.2
  · intro q
    refine ⟨?_, q⟩
    unfold isJob kindOf
    rw [q]
    exact h
theorem all_cong {α : Type} {p q : α → Bool} : ∀ {l : List α}, (∀ x ∈ l, p x = q x) → l.all p = l.all q
  | [], _ => rfl
  | x :: xs, h => by rw [List.all_cons, List.all_cons, h x (by simp), all_cong fun y hy => h y (by simp [hy])]
theorem countP_add {α : Type} {f g k : α → Bool} (h : ∀ x, (if f x = true then 1 else 0) + (if g x = true then 1 else 0) = if k x = true then 1 else 0) : ∀ l : List α, l.countP f + l.countP g = l.countP k
  | [] => rfl
  | x :: xs => by
    have := countP_add h xs
    have := h x
    rw [List.countP_cons, List.countP_cons, List.countP_cons]
    omega
theorem spared_has {w : Works} {st : State} (hst : SOk w st) (c : List Nat) : hasSp w st c = sparedB w st c := by
  unfold hasSp sparedB
  refine all_cong fun k hk => ?_
  have hk' := List.mem_range.mp hk
  cases hs : (kindAt w k).spare with
  | true => rw [needed_sp hs, Bool.true_and]
  | false =>
    rw [needed_nosp hs, Bool.false_and, Bool.not_false, Bool.not_eq_true', decide_eq_false_iff_not]
    have := pos_at hst hk'
    omega
theorem spared_of {w : Works} {st : State} {c : List Nat} (h : sparedB w st c = true) {k : Nat} (hk : k < w.kinds.length) (hs : (kindAt w k).spare = true) : ((ofKind w c k).length : Int) ≤ st.stores.getD k 0 := by
  have := List.all_eq_true.mp h k (List.mem_range.mpr hk)
  rw [hs, Bool.true_and] at this
  have h2 : ¬ st.stores.getD k 0 < ((ofKind w c k).length : Int) := by simpa using this
  omega
theorem spared_nil {w : Works} {st : State} (hst : SOk w st) : sparedB w st [] = true := by
  unfold sparedB
  rw [List.all_eq_true]
  intro k hk
  have := pos_at hst (List.mem_range.mp hk)
  have e : ofKind w [] k = [] := rfl
  rw [e]
  simp
  exact .inr (by simpa using this)
/-- a day that the spares allow leads to a state again -/
theorem step_sok2 {w : Works} {st st' : State} {c : List Nat} {e : Event} (hw : WOk w) (hst : SOk w st) (hc : COk w c) (hal : sparedB w st c = true) (hroom : st.shop.length + w.slots.length ≤ 1000000) (h : stepTo w st c e = some st') :
    SOk w st' ∧ st'.shop.length ≤ st.shop.length + w.slots.length := by
  unfold stepTo at h
  cases hW : worn w st c e with
  | none => rw [hW] at h; cases h
  | some l =>
    rw [hW] at h
    cases h
    have hlen := shopTo_len (st := st) hw hc
    have hval : ∀ k, k < w.kinds.length → ((w.kinds.getD k default).spare = false → (storesTo w st c).getD k 0 = 0) ∧ 0 ≤ (storesTo w st c).getD k 0 := by
      intro k hk
      rw [stores_at w st c hk]
      cases hs : (w.kinds.getD k default).spare with
      | true =>
        have h1 := spared_of hal hk hs
        have h2 := needed_of w c k
        exact ⟨fun q => (by cases q), by omega⟩
      | false =>
        have h1 : backOf (waiting w st c) k = 0 := by
          unfold backOf
          rw [List.countP_eq_zero]
          intro p hp q
          simp only [Bool.and_eq_true, decide_eq_true_eq] at q
          have := (waiting_spare hw hst hp).2.2
          rw [q.2, hs] at this
          cases this
        rw [needed_nosp hs, hst.none k hk hs, h1]
        exact ⟨fun _ => rfl, by decide⟩
    refine ⟨⟨wornTo_len hW, by simp [storesTo], fun p hp => ?_, by show (shopTo w st c).length ≤ 1000000; omega, fun k hk hs => (hval k hk).1 hs, fun x hx => ?_⟩, hlen⟩
    · obtain ⟨q, hq, h1, rfl⟩ := mem_shopTo.mp hp
      have := waiting_spare hw hst hq
      exact ⟨by show 1 ≤ q.1 - 1; omega, this.2⟩
    · obtain ⟨k, hk, rfl⟩ := List.mem_iff_getElem.mp hx
      have hk2 : k < w.kinds.length := by simpa [storesTo] using hk
      have := (hval k hk2).2
      rw [List.getD, List.getElem?_eq_getElem hk] at this
      exact this
/-- the parts of a kind, in the store and in the shop -/
def partsOf (st : State) (k : Nat) : Int := st.stores.getD k 0 + (st.shop.countP fun p => decide (p.2 = k) : Nat)
def lostOf (w : Works) (c : List Nat) (k : Nat) : Int := if (kindAt w k).days = 0 then (if (kindAt w k).spare = true then ((ofKind w c k).length : Int) else 0) else 0
theorem shopTo_count (w : Works) (st : State) (c : List Nat) (k : Nat) : (shopTo w st c).countP (fun p => decide (p.2 = k)) + backOf (waiting w st c) k = (waiting w st c).countP fun p => decide (p.2 = k) := by
  unfold shopTo sortPairs
  rw [(List.mergeSort_perm _ _).countP_eq]
  unfold shopOf backOf
  rw [List.countP_map, List.countP_filter]
  refine countP_add (fun p => ?_) _
  by_cases h1 : 1 < p.1 <;> by_cases h2 : p.2 = k <;> simp [h1, h2]
theorem jobsP_count (w : Works) (hw : WOk w) (c : List Nat) (k : Nat) (hk : k < w.kinds.length) : (jobsP w c w.kinds.length).countP (fun p => decide (p.2 = k)) = if 0 < (kindAt w k).days then needed w c k else 0 := by
  have h1 : (jobsP w c w.kinds.length).countP (fun p => decide (p.2 = k)) = (jobsP w c w.kinds.length).count ((kindAt w k).days, k) := by
    unfold List.count
    refine List.countP_congr fun p hp => ?_
    obtain ⟨h1, h2, h3⟩ := jobsP_kind hp
    obtain ⟨p1, p2⟩ := p
    simp only [decide_eq_true_eq, beq_iff_eq, Prod.mk.injEq] at *
    constructor
    · intro q; subst q; exact ⟨h3, rfl⟩
    · exact fun q => q.2
  rw [h1, count_jobsP]
  by_cases h : 0 < (kindAt w k).days <;> simp [h, hk]
theorem parts_step {w : Works} {st st' : State} {c : List Nat} {e : Event} (hw : WOk w) (h : stepTo w st c e = some st') {k : Nat} (hk : k < w.kinds.length) : partsOf st' k = partsOf st k - lostOf w c k := by
  unfold stepTo at h
  cases hW : worn w st c e with
  | none => rw [hW] at h; cases h
  | some l =>
    rw [hW] at h
    cases h
    unfold partsOf
    show (storesTo w st c).getD k 0 + ((shopTo w st c).countP _ : Nat) = _
    rw [stores_at w st c hk]
    have h1 := shopTo_count w st c k
    have h2 : (waiting w st c).countP (fun p => decide (p.2 = k)) = st.shop.countP (fun p => decide (p.2 = k)) + (jobsP w c w.kinds.length).countP (fun p => decide (p.2 = k)) := by
      unfold waiting
      rw [List.countP_append]
    rw [jobsP_count w hw c k hk] at h2
    have hd := hw.days _ (kindsAt_mem hk)
    unfold lostOf
    cases hs : (kindAt w k).spare with
    | true =>
      have := needed_sp (c := c) hs
      by_cases h0 : (kindAt w k).days = 0
      · rw [if_neg (by omega)] at h2
        rw [if_pos h0, if_pos rfl]
        omega
      · rw [if_pos (by omega)] at h2
        rw [if_neg h0]
        omega
    | false =>
      have h3 := needed_nosp (c := c) hs
      have h4 : (kindAt w k).days = 0 := by
        by_cases h0 : 0 < (kindAt w k).days
        · have := hd.2 h0
          rw [hs] at this
          cases this
        · omega
      rw [if_neg (by omega)] at h2
      rw [if_pos h4, if_neg (by simp)]
      omega
theorem wornTo_at {w : Works} {st : State} {c : List Nat} {e : Event} : ∀ {n : Nat} {l : List Int}, wornTo w st c e n = some l → ∀ s, s < n → l.getD s 0 = if s ∈ e.fails then (kindOf w s).limit else wearNow w st c e s
  | 0, _, _, s, hs => by omega
  | n + 1, l, h, s, hs => by
    have h' : (match wornTo w st c e n with | none => none | some l => if (kindOf w n).limit < wearNow w st c e n then none else some (l ++ [if n ∈ e.fails then (kindOf w n).limit else wearNow w st c e n])) = some l := h
    cases hp : wornTo w st c e n with
    | none => rw [hp] at h'; cases h'
    | some l0 =>
      rw [hp] at h'
      simp only at h'
      split at h'
      · cases h'
      · cases h'
        have hl := wornTo_len hp
        by_cases hsn : s < n
        · rw [List.getD, List.getElem?_append_left (by omega)]
          exact wornTo_at hp s hsn
        · have : s = n := by omega
          subst this
          rw [List.getD, List.getElem?_append_right (by omega), hl, Nat.sub_self]
          rfl
end KW

set_option Elab.async false
set_option linter.all false
set_option maxRecDepth 100000
set_option maxHeartbeats 1000000
/-! KS13: who can do the jobs: matchings and Hall's theorem -/
namespace KW
open PySem PV

theorem nodup_le {l m : List Nat} (h : l.Nodup) (s : ∀ x ∈ l, x ∈ m) : l.length ≤ m.length := by
  induction l generalizing m with
  | nil => simp
  | cons x xs ih =>
    have hx := s x (by simp)
    have h1 := List.nodup_cons.mp h
    have := ih (m := m.erase x) h1.2 (fun y hy => by
      have hne : y ≠ x := fun e => h1.1 (e ▸ hy)
      exact (List.mem_erase_of_ne hne).mpr (s y (by simp [hy])))
    have h2 : (m.erase x).length = m.length - 1 := List.length_erase_of_mem hx
    have h3 : 0 < m.length := List.length_pos_of_mem hx
    rw [List.length_cons]
    omega
/-- the people of P who can do one of the slots -/
def nbr (N : Nat → Nat → Bool) (P A : List Nat) : List Nat := P.filter fun p => A.any fun s => N p s
theorem nbr_mem {N : Nat → Nat → Bool} {P A : List Nat} {p : Nat} : p ∈ nbr N P A ↔ p ∈ P ∧ ∃ s ∈ A, N p s = true := by
  unfold nbr
  rw [List.mem_filter, List.any_eq_true]
theorem length_split {α : Type} (p : α → Bool) : ∀ l : List α, l.length = (l.filter p).length + (l.filter fun x => !p x).length
  | [] => rfl
  | x :: xs => by
    have := length_split p xs
    cases h : p x <;> simp [h] <;> omega
/-- Hall: with enough people for each part of the slots, there is a matching -/
theorem hall (N : Nat → Nat → Bool) : ∀ (n : Nat) (c P : List Nat), c.length = n → c.Nodup → P.Nodup → (∀ A, A.Sublist c → A.length ≤ (nbr N P A).length) →
    ∃ f : Nat → Nat, (∀ s ∈ c, f s ∈ P ∧ N (f s) s = true) ∧ ∀ s ∈ c, ∀ t ∈ c, f s = f t → s = t := by
  intro n
  induction n using Nat.strongRecOn with
  | ind n ih =>
    intro c P hn hc hP H
    cases c with
    | nil => exact ⟨fun _ => 0, by simp, by simp⟩
    | cons s r =>
      by_cases ht : ∃ A, A.Sublist (s :: r) ∧ A ≠ [] ∧ A.length < (s :: r).length ∧ (nbr N P A).length = A.length
      · obtain ⟨A, hA, hA0, hA1, hA2⟩ := ht
        have hAn := hA.nodup hc
        obtain ⟨f1, h1, h2⟩ := ih A.length (by omega) A P rfl hAn hP fun B hB => H B (hB.trans hA)
        have hcl := length_split (fun x => decide (x ∈ A)) (s :: r)
        have hfA : ((s :: r).filter fun x => decide (x ∈ A)).length = A.length := by
          refine Nat.le_antisymm (nodup_le (hc.filter _) fun x hx => ?_) (nodup_le hAn fun x hx => ?_)
          · rw [List.mem_filter] at hx; simpa using hx.2
          · rw [List.mem_filter]; exact ⟨hA.subset hx, by simpa using hx⟩
        have hApos : 0 < A.length := List.length_pos_iff.mpr hA0
        obtain ⟨f2, g1, g2⟩ := ih ((s :: r).filter fun x => !decide (x ∈ A)).length (by omega) ((s :: r).filter fun x => !decide (x ∈ A)) (P.filter fun p => !A.any fun t => N p t) rfl (hc.filter _) (hP.filter _) (fun B hB => by
          have hBn := hB.nodup (hc.filter _)
          have hBA : ∀ x ∈ B, x ∉ A := fun x hx => by
            have := hB.subset hx
            rw [List.mem_filter] at this
            simpa using this.2
          have hU := H ((s :: r).filter fun x => decide (x ∈ A) || decide (x ∈ B)) List.filter_sublist
          have hUl : ((s :: r).filter fun x => decide (x ∈ A) || decide (x ∈ B)).length = A.length + B.length := by
            have hAB : (A ++ B).Nodup := List.nodup_append.mpr ⟨hAn, hBn, fun x hx y hy e => hBA y hy (e ▸ hx)⟩
            have : (A ++ B).length = A.length + B.length := List.length_append
            rw [← this]
            refine Nat.le_antisymm (nodup_le (hc.filter _) fun x hx => ?_) (nodup_le hAB fun x hx => ?_)
            · rw [List.mem_filter] at hx; rw [List.mem_append]; simpa using hx.2
            · rw [List.mem_append] at hx
              rw [List.mem_filter]
              refine ⟨?_, by simpa using hx⟩
              rcases hx with hx | hx
              · exact hA.subset hx
              · exact (List.filter_sublist.subset (hB.subset hx))
          have hsp := length_split (fun p => A.any fun t => N p t) (nbr N P ((s :: r).filter fun x => decide (x ∈ A) || decide (x ∈ B)))
          have e1 : ((nbr N P ((s :: r).filter fun x => decide (x ∈ A) || decide (x ∈ B))).filter fun p => A.any fun t => N p t).length ≤ (nbr N P A).length := by
            refine nodup_le ((hP.filter _).filter _) fun x hx => ?_
            rw [List.mem_filter] at hx
            unfold nbr
            rw [List.mem_filter]
            exact ⟨(nbr_mem.mp hx.1).1, hx.2⟩
          have e2 : ((nbr N P ((s :: r).filter fun x => decide (x ∈ A) || decide (x ∈ B))).filter fun p => !A.any fun t => N p t).length ≤ (nbr N (P.filter fun p => !A.any fun t => N p t) B).length := by
            refine nodup_le ((hP.filter _).filter _) fun x hx => ?_
            rw [List.mem_filter] at hx
            obtain ⟨hx1, hx2⟩ := hx
            obtain ⟨hxP, t, ht, hN⟩ := nbr_mem.mp hx1
            rw [List.mem_filter] at ht
            refine nbr_mem.mpr ⟨List.mem_filter.mpr ⟨hxP, hx2⟩, ?_⟩
            have : t ∈ A ∨ t ∈ B := by simpa using ht.2
            rcases this with hta | htb
            · have : (A.any fun t => N x t) = true := List.any_eq_true.mpr ⟨t, hta, hN⟩
              rw [this] at hx2
              cases hx2
            · exact ⟨t, htb, hN⟩
          omega)
        refine ⟨fun x => if x ∈ A then f1 x else f2 x, fun x hx => ?_, fun x hx y hy e => ?_⟩
        · by_cases hxA : x ∈ A
          · simp only [hxA, if_true]
            exact h1 x hxA
          · simp only [hxA, if_false]
            have := g1 x (List.mem_filter.mpr ⟨hx, by simpa using hxA⟩)
            exact ⟨(List.mem_filter.mp this.1).1, this.2⟩
        · by_cases hxA : x ∈ A
          · by_cases hyA : y ∈ A
            · simp only [hxA, hyA, if_true] at e
              exact h2 x hxA y hyA e
            · simp only [hxA, hyA, if_true, if_false] at e
              have hy2 := (g1 y (List.mem_filter.mpr ⟨hy, by simpa using hyA⟩)).1
              have hx2 := h1 x hxA
              rw [List.mem_filter] at hy2
              have : (A.any fun t => N (f2 y) t) = true := List.any_eq_true.mpr ⟨x, hxA, by rw [← e]; exact hx2.2⟩
              rw [this] at hy2
              exact absurd hy2.2 (by simp)
          · by_cases hyA : y ∈ A
            · simp only [hxA, hyA, if_true, if_false] at e
              have hx2 := (g1 x (List.mem_filter.mpr ⟨hx, by simpa using hxA⟩)).1
              have hy2 := h1 y hyA
              rw [List.mem_filter] at hx2
              have : (A.any fun t => N (f2 x) t) = true := List.any_eq_true.mpr ⟨y, hyA, by rw [e]; exact hy2.2⟩
              rw [this] at hx2
              exact absurd hx2.2 (by simp)
            · simp only [hxA, hyA, if_false] at e
              exact g2 x (List.mem_filter.mpr ⟨hx, by simpa using hxA⟩) y (List.mem_filter.mpr ⟨hy, by simpa using hyA⟩) e
      · have hs := List.nodup_cons.mp hc
        have h0 := H [s] (by simp)
        have h0' : 0 < (nbr N P [s]).length := by simp only [List.length_cons, List.length_nil] at h0; omega
        obtain ⟨p, hp⟩ := List.exists_mem_of_length_pos h0'
        obtain ⟨hpP, t, ht1, hN⟩ := nbr_mem.mp hp
        rw [List.mem_singleton] at ht1
        subst ht1
        obtain ⟨f, h1, h2⟩ := ih r.length (by simp only [List.length_cons] at hn; omega) r (P.filter fun q => !decide (q = p)) rfl hs.2 (hP.filter _) (fun B hB => by
          cases hBe : B with
          | nil => simp
          | cons b bs =>
            have hB1 : B.Sublist (t :: r) := hB.trans (List.sublist_cons_self t r)
            have hBl := hB.length_le
            have hlt : B.length < (nbr N P B).length := by
              have := H B hB1
              rcases Nat.lt_or_eq_of_le this with q | q
              · exact q
              · exact absurd ⟨B, hB1, by rw [hBe]; simp, by simp only [List.length_cons]; omega, q.symm⟩ ht
            rw [← hBe]
            have hsp := length_split (fun q => decide (q = p)) (nbr N P B)
            have e1 : ((nbr N P B).filter fun q => decide (q = p)).length ≤ [p].length := nodup_le ((hP.filter _).filter _) fun x hx => by
              rw [List.mem_filter] at hx; simpa using hx.2
            have e2 : ((nbr N P B).filter fun q => !decide (q = p)).length ≤ (nbr N (P.filter fun q => !decide (q = p)) B).length := nodup_le ((hP.filter _).filter _) fun x hx => by
              rw [List.mem_filter] at hx
              obtain ⟨h1, h2⟩ := nbr_mem.mp hx.1
              exact nbr_mem.mpr ⟨List.mem_filter.mpr ⟨h1, hx.2⟩, h2⟩
            simp only [List.length_cons, List.length_nil] at e1
            omega)
        refine ⟨fun x => if x = t then p else f x, fun x hx => ?_, fun x hx y hy e => ?_⟩
        · by_cases hxt : x = t
          · simp only [hxt, if_true]
            exact ⟨hpP, hN⟩
          · simp only [hxt, if_false]
            have hxr : x ∈ r := by
              rcases List.mem_cons.mp hx with q | q
              · exact absurd q hxt
              · exact q
            exact ⟨(List.mem_filter.mp (h1 x hxr).1).1, (h1 x hxr).2⟩
        · have hmem : ∀ z, z ∈ t :: r → z ≠ t → z ∈ r ∧ f z ≠ p := fun z hz hzt => by
            have hzr : z ∈ r := by
              rcases List.mem_cons.mp hz with q | q
              · exact absurd q hzt
              · exact q
            have := (List.mem_filter.mp (h1 z hzr).1).2
            exact ⟨hzr, by simpa using this⟩
          by_cases hxt : x = t
          · by_cases hyt : y = t
            · rw [hxt, hyt]
            · simp only [hxt, hyt, if_true, if_false] at e
              exact absurd e.symm (hmem y hy hyt).2
          · by_cases hyt : y = t
            · simp only [hxt, hyt, if_true, if_false] at e
              exact absurd e (hmem x hx hxt).2
            · simp only [hxt, hyt, if_false] at e
              exact h2 x (hmem x hx hxt).1 y (hmem y hy hyt).1 e
end KW

set_option Elab.async false
set_option linter.all false
set_option maxRecDepth 100000
set_option maxHeartbeats 1000000
/-! KS14: assignments of a choice, all and the first one; when there is one -/
namespace KW
open PySem PV

/-- person by person they can do the slots -/
def sk2 (w : Works) : List Nat → List Nat → Prop
  | [], [] => True
  | p :: t, s :: c => skill w p s = true ∧ sk2 w t c
  | _, _ => False
def isAsg (w : Works) (c t : List Nat) : Prop := sk2 w t c ∧ t.Nodup ∧ ∀ p ∈ t, p < w.people.length
theorem sk2_len {w : Works} : ∀ {t c : List Nat}, sk2 w t c → t.length = c.length
  | [], [], _ => rfl
  | p :: t, s :: c, h => by rw [List.length_cons, List.length_cons, sk2_len h.2]
theorem sk2_at {w : Works} : ∀ {t c : List Nat}, sk2 w t c → ∀ k, k < c.length → skill w (t.getD k 0) (c.getD k 0) = true
  | [], [], _, k, hk => by simp at hk
  | p :: t, s :: c, h, 0, hk => h.1
  | p :: t, s :: c, h, k + 1, hk => by
    have := sk2_at h.2 k (by simpa using hk)
    simpa using this
theorem sk2_sub {w : Works} : ∀ {t c : List Nat}, sk2 w t c → ∀ A, A.Sublist c → ∃ u, u.Sublist t ∧ sk2 w u A
  | [], [], _, A, hA => by
    have := List.sublist_nil.mp hA
    subst this
    exact ⟨[], List.Sublist.refl _, trivial⟩
  | p :: t, s :: c, h, A, hA => by
    cases hA with
    | cons _ hA =>
      obtain ⟨u, h1, h2⟩ := sk2_sub h.2 A hA
      exact ⟨u, h1.cons p, h2⟩
    | cons_cons _ hA =>
      obtain ⟨u, h1, h2⟩ := sk2_sub h.2 _ hA
      exact ⟨p :: u, h1.cons_cons p, h.1, h2⟩
theorem sk2_mem {w : Works} : ∀ {t c : List Nat}, sk2 w t c → ∀ p ∈ t, ∃ s ∈ c, skill w p s = true
  | [], [], _, p, hp => by simp at hp
  | q :: t, s :: c, h, p, hp => by
    rcases List.mem_cons.mp hp with rfl | hp
    · exact ⟨s, by simp, h.1⟩
    · obtain ⟨s', h1, h2⟩ := sk2_mem h.2 p hp
      exact ⟨s', by simp [h1], h2⟩
theorem sk2_map {w : Works} {f : Nat → Nat} : ∀ {c : List Nat}, (∀ s ∈ c, skill w (f s) s = true) → sk2 w (c.map f) c
  | [], _ => trivial
  | s :: c, h => ⟨h s (by simp), sk2_map fun x hx => h x (by simp [hx])⟩
def nbrW (w : Works) (A : List Nat) : List Nat := nbr (skill w) (List.range w.people.length) A
theorem asg_iff {w : Works} {c : List Nat} (hc : c.Nodup) : (∃ t, isAsg w c t) ↔ ∀ A, A.Sublist c → A.length ≤ (nbrW w A).length := by
  constructor
  · rintro ⟨t, h1, h2, h3⟩ A hA
    obtain ⟨u, g1, g2⟩ := sk2_sub h1 A hA
    rw [← sk2_len g2]
    refine nodup_le (g1.nodup h2) fun p hp => ?_
    exact nbr_mem.mpr ⟨List.mem_range.mpr (h3 p (g1.subset hp)), sk2_mem g2 p hp⟩
  · intro H
    obtain ⟨f, h1, h2⟩ := hall (skill w) c.length c (List.range w.people.length) rfl hc List.nodup_range H
    refine ⟨c.map f, sk2_map fun s hs => (h1 s hs).2, ?_, fun p hp => ?_⟩
    · unfold List.Nodup
      rw [List.pairwise_map]
      exact List.Pairwise.imp_of_mem (fun hx hy hne e => hne (h2 _ hx _ hy e)) hc
    · obtain ⟨s, hs, rfl⟩ := List.mem_map.mp hp
      exact List.mem_range.mp (h1 s hs).1
theorem mem_cut {l : List Nat} (h : l.Nodup) {k : Nat} (hk : k < l.length) {x : Nat} : x ∈ l.take k ++ l.drop (k + 1) ↔ x ∈ l ∧ x ≠ l[k] := by
  have e : l = l.take k ++ l[k] :: l.drop (k + 1) := by
    rw [List.getElem_cons_drop hk, List.take_append_drop]
  have hn : (l.take k ++ l[k] :: l.drop (k + 1)).Nodup := by rw [← e]; exact h
  have hn2 := List.nodup_append.mp hn
  have hn3 := List.nodup_cons.mp hn2.2.1
  have hm : x ∈ l ↔ x ∈ l.take k ++ l[k] :: l.drop (k + 1) := by rw [← e]
  rw [hm]
  simp only [List.mem_append, List.mem_cons]
  constructor
  · rintro (hx | hx)
    · exact ⟨.inl hx, fun q => hn2.2.2 x hx l[k] List.mem_cons_self q⟩
    · exact ⟨.inr (.inr hx), fun q => hn3.1 (q ▸ hx)⟩
  · rintro ⟨hx | hx | hx, hne⟩
    · exact .inl hx
    · exact absurd hx hne
    · exact .inr hx
theorem manned_iff (w : Works) : ∀ (c ix : List Nat), ix.Nodup → (manned w c (ix.map fun p => w.people.getD p ⟨default, []⟩) = true ↔ ∃ t, sk2 w t c ∧ t.Nodup ∧ ∀ p ∈ t, p ∈ ix)
  | [], ix, _ => by
    constructor
    · intro _; exact ⟨[], trivial, List.nodup_nil, by simp⟩
    · intro _; rfl
  | s :: c, ix, hn => by
    have e : manned w (s :: c) (ix.map fun p => w.people.getD p ⟨default, []⟩) = (List.range ix.length).any fun k => decide ((w.slots.getD s default).name ∈ ((ix.map fun p => w.people.getD p ⟨default, []⟩).getD k ⟨default, []⟩).skills) && manned w c ((ix.take k ++ ix.drop (k + 1)).map fun p => w.people.getD p ⟨default, []⟩) := by
      rw [manned, List.length_map]
      congr 1
      funext k
      rw [List.map_append, List.map_take, List.map_drop]
    rw [e, List.any_eq_true]
    constructor
    · rintro ⟨k, hk, h⟩
      have hk' := List.mem_range.mp hk
      rw [Bool.and_eq_true] at h
      have hnc : (ix.take k ++ ix.drop (k + 1)).Nodup := by
        rw [← List.eraseIdx_eq_take_drop_succ]
        exact (List.eraseIdx_sublist ix k).nodup hn
      obtain ⟨t, h1, h2, h3⟩ := (manned_iff w c _ hnc).mp h.2
      have hsk : skill w ix[k] s = true := by
        have := h.1
        rw [List.getD, List.getElem?_map, List.getElem?_eq_getElem hk'] at this
        exact this
      refine ⟨ix[k] :: t, ⟨hsk, h1⟩, List.nodup_cons.mpr ⟨fun q => ((mem_cut hn hk').mp (h3 _ q)).2 rfl, h2⟩, fun p hp => ?_⟩
      rcases List.mem_cons.mp hp with rfl | hp
      · exact List.getElem_mem _
      · exact ((mem_cut hn hk').mp (h3 p hp)).1
    · rintro ⟨t, h1, h2, h3⟩
      cases t with
      | nil => exact h1.elim
      | cons p t =>
        obtain ⟨k, hk, rfl⟩ := List.mem_iff_getElem.mp (h3 p (by simp))
        have hn1 := List.nodup_cons.mp h2
        have hnc : (ix.take k ++ ix.drop (k + 1)).Nodup := by
          rw [← List.eraseIdx_eq_take_drop_succ]
          exact (List.eraseIdx_sublist ix k).nodup hn
        refine ⟨k, List.mem_range.mpr hk, ?_⟩
        rw [Bool.and_eq_true]
        refine ⟨?_, (manned_iff w c _ hnc).mpr ⟨t, h1.2, hn1.2, fun q hq => (mem_cut hn hk).mpr ⟨h3 q (by simp [hq]), fun e => hn1.1 (e ▸ hq)⟩⟩⟩
        rw [List.getD, List.getElem?_map, List.getElem?_eq_getElem hk]
        exact h1.1
theorem people_ix (w : Works) : w.people = (List.range w.people.length).map fun p => w.people.getD p ⟨default, []⟩ := by
  refine List.ext_getElem (by simp) fun i h1 h2 => ?_
  simp [List.getD, h1]
theorem manned_asg (w : Works) (c : List Nat) : manned w c w.people = true ↔ ∃ t, isAsg w c t := by
  have h := manned_iff w c (List.range w.people.length) List.nodup_range
  rw [← people_ix] at h
  rw [h]
  constructor
  · rintro ⟨t, h1, h2, h3⟩; exact ⟨t, h1, h2, fun p hp => List.mem_range.mp (h3 p hp)⟩
  · rintro ⟨t, h1, h2, h3⟩; exact ⟨t, h1, h2, fun p hp => List.mem_range.mpr (h3 p hp)⟩
/-- all assignments of the slots left, behind the people so far -/
def nxt (w : Works) (ps : List Nat) (s : Nat) : List Nat := (List.range w.people.length).filter fun p => decide (p ∉ ps ∧ skill w p s = true)
def asg (w : Works) : List Nat → List Nat → List (List Nat)
  | [], ps => [ps]
  | s :: r, ps => (nxt w ps s).flatMap fun p => asg w r (ps ++ [p])
def stepA (w : Works) (L : List (List Nat)) (s : Nat) : List (List Nat) := L.flatMap fun ps => (nxt w ps s).map fun p => ps ++ [p]
theorem foldl_asg (w : Works) : ∀ (c : List Nat) (L : List (List Nat)), c.foldl (stepA w) L = L.flatMap (asg w c)
  | [], L => by
    rw [List.foldl_nil]
    induction L with
    | nil => rfl
    | cons x xs ih => rw [List.flatMap_cons, ← ih]; rfl
  | s :: c, L => by
    rw [List.foldl_cons, foldl_asg w c, stepA, List.flatMap_assoc]
    congr 1
    funext ps
    rw [asg, List.flatMap_map]
theorem asg_all (w : Works) (c : List Nat) : c.foldl (stepA w) [[]] = asg w c [] := by rw [foldl_asg]; simp
theorem findSome_filter {α β : Type} (p : α → Bool) (f : α → Option β) : ∀ l : List α, (l.filter p).findSome? f = l.findSome? fun x => if p x = true then f x else none
  | [] => rfl
  | x :: xs => by
    have := findSome_filter p f xs
    cases h : p x <;> simp [h, this, List.findSome?_cons]
theorem compl_asg (w : Works) (c : List Nat) : ∀ (m : Nat) (ps : List Nat), ps.length ≤ c.length → c.length - ps.length < m → compl w c m ps = (asg w (c.drop ps.length) ps).head?
  | 0, ps, _, h => by omega
  | m + 1, ps, h0, h => by
    rw [compl]
    by_cases h1 : ps.length = c.length
    · rw [if_pos h1, List.drop_of_length_le (by omega)]
      rfl
    · rw [if_neg h1]
      have hlt : ps.length < c.length := by omega
      have e : c.drop ps.length = c.getD ps.length 0 :: c.drop (ps.length + 1) := by
        rw [← List.getElem_cons_drop hlt]
        simp [hlt]
      rw [e, asg, List.head?_flatMap, nxt, findSome_filter]
      congr 1
      funext p
      simp only [decide_eq_true_eq]
      by_cases hp : p ∉ ps ∧ skill w p (c.getD ps.length 0) = true
      · rw [if_pos hp, if_pos hp, compl_asg w c m (ps ++ [p]) (by simp; omega) (by simp; omega)]
        rw [List.length_append, List.length_singleton]
      · rw [if_neg hp, if_neg hp]
theorem compl_head (w : Works) (c : List Nat) (m : Nat) (h : c.length < m) : compl w c m [] = (asg w c []).head? := by
  rw [compl_asg w c m [] (by simp) (by simpa using h)]
  rfl
theorem asg_mem (w : Works) : ∀ (r ps q : List Nat), q ∈ asg w r ps ↔ ∃ t, q = ps ++ t ∧ sk2 w t r ∧ t.Nodup ∧ ∀ p ∈ t, p ∉ ps ∧ p < w.people.length
  | [], ps, q => by
    rw [asg, List.mem_singleton]
    constructor
    · rintro rfl; exact ⟨[], by simp, trivial, List.nodup_nil, by simp⟩
    · rintro ⟨t, rfl, h, _⟩
      cases t with
      | nil => simp
      | cons _ _ => exact h.elim
  | s :: r, ps, q => by
    rw [asg, List.mem_flatMap]
    constructor
    · rintro ⟨p, hp, hq⟩
      unfold nxt at hp
      rw [List.mem_filter, List.mem_range, decide_eq_true_eq] at hp
      obtain ⟨hp1, hp2, hp3⟩ := hp
      obtain ⟨t, rfl, h1, h2, h3⟩ := (asg_mem w r (ps ++ [p]) q).mp hq
      refine ⟨p :: t, by simp, ⟨hp3, h1⟩, List.nodup_cons.mpr ⟨fun hx => (h3 p hx).1 (by simp), h2⟩, fun x hx => ?_⟩
      rcases List.mem_cons.mp hx with rfl | hx
      · exact ⟨hp2, hp1⟩
      · exact ⟨fun q => (h3 x hx).1 (by simp [q]), (h3 x hx).2⟩
    · rintro ⟨t, rfl, h1, h2, h3⟩
      cases t with
      | nil => exact h1.elim
      | cons p t =>
        have hn := List.nodup_cons.mp h2
        refine ⟨p, ?_, (asg_mem w r (ps ++ [p]) _).mpr ⟨t, by simp, h1.2, hn.2, fun x hx => ⟨fun q => ?_, (h3 x (by simp [hx])).2⟩⟩⟩
        · unfold nxt
          rw [List.mem_filter, List.mem_range, decide_eq_true_eq]
          exact ⟨(h3 p (by simp)).2, (h3 p (by simp)).1, h1.1⟩
        · rcases List.mem_append.mp q with q | q
          · exact (h3 x (by simp [hx])).1 q
          · rw [List.mem_singleton] at q
            exact hn.1 (q ▸ hx)
theorem asg_is (w : Works) (c q : List Nat) : q ∈ asg w c [] ↔ isAsg w c q := by
  rw [asg_mem]
  unfold isAsg
  constructor
  · rintro ⟨t, rfl, h1, h2, h3⟩; exact ⟨h1, h2, fun p hp => (h3 p hp).2⟩
  · rintro ⟨h1, h2, h3⟩; exact ⟨q, rfl, h1, h2, fun p hp => ⟨by simp, h3 p hp⟩⟩
theorem compl_manned (w : Works) (c : List Nat) (m : Nat) (h : c.length < m) : (compl w c m []).isSome = manned w c w.people := by
  rw [compl_head w c m h]
  cases hm : manned w c w.people with
  | true =>
    obtain ⟨t, ht⟩ := (manned_asg w c).mp hm
    have := (asg_is w c t).mpr ht
    cases ha : asg w c [] with
    | nil => rw [ha] at this; cases this
    | cons x xs => rfl
  | false =>
    cases ha : asg w c [] with
    | nil => rfl
    | cons x xs =>
      have : x ∈ asg w c [] := by rw [ha]; simp
      have := (manned_asg w c).mpr ⟨x, (asg_is w c x).mp this⟩
      rw [this] at hm
      cases hm
theorem asg_len (w : Works) : ∀ (c ps : List Nat), (asg w c ps).length ≤ w.people.length ^ c.length
  | [], ps => by simp [asg]
  | s :: c, ps => by
    rw [asg, List.length_flatMap, List.length_cons, Nat.pow_succ]
    have h : ∀ l : List Nat, (l.map fun p => (asg w c (ps ++ [p])).length).sum ≤ l.length * w.people.length ^ c.length := by
      intro l
      induction l with
      | nil => simp
      | cons x xs ih =>
        have := asg_len w c (ps ++ [x])
        rw [List.map_cons, List.sum_cons, List.length_cons, Nat.add_mul]
        omega
    refine Nat.le_trans (h _) ?_
    rw [Nat.mul_comm]
    refine Nat.mul_le_mul_left _ ?_
    unfold nxt
    refine Nat.le_trans (List.length_filter_le _ _) ?_
    rw [List.length_range]
    exact Nat.le_refl _
end KW

set_option Elab.async false
set_option linter.all false
set_option maxRecDepth 100000
set_option maxHeartbeats 1000000
/-! KS8: what a workshop and a state must be -/
namespace KW
open PySem PV

theorem ch_le_le {a b c : Ev} {σ : Sg} {x y z : Int} (ha : a σ = some (.v (.p (.int x)), σ)) (hb : b σ = some (.v (.p (.int y)), σ)) (hc : c σ = some (.v (.p (.int z)), σ)) :
    eChain leD leD a b c σ = some (.v (.p (.bool (decide (x ≤ y ∧ y ≤ z)))), σ) := by
  simp only [eChain, ha, hb, hc, hold, frz, take, toD, toD1, unhold, peek, pkO, leD]
  by_cases h1 : x ≤ y
  · by_cases h2 : y ≤ z <;> simp [h1, h2]
  · simp [h1]
theorem ch_lt_lt {a b c : Ev} {σ : Sg} {x y z : Int} (ha : a σ = some (.v (.p (.int x)), σ)) (hb : b σ = some (.v (.p (.int y)), σ)) (hc : c σ = some (.v (.p (.int z)), σ)) :
    eChain ltD ltD a b c σ = some (.v (.p (.bool (decide (x < y ∧ y < z)))), σ) := by
  simp only [eChain, ha, hb, hc, hold, frz, take, toD, toD1, unhold, peek, pkO, ltD]
  by_cases h1 : x < y
  · by_cases h2 : y < z <;> simp [h1, h2]
  · simp [h1]
theorem t_of {e : Ev} {σ : Sg} {b : Bool} (h : e σ = some (.v (.p (.bool b)), σ)) : tOf e σ = some (b, σ) := by
  unfold tOf
  rw [h]
theorem t_not {t : Tv} {σ : Sg} {b : Bool} (h : t σ = some (b, σ)) : tNotE t σ = some (!b, σ) := by
  unfold tNotE
  rw [h]
/-- a loop that ends with False at the first item that is not right -/
theorem wx_all {α : Type} {f : α → D} {it : Iv} {t : Tg} {body : Ex} {as : List α} {σ σ1 : Sg} {Q : Res → Prop} (I : Sg → Prop) (p : α → Bool) (e1 : it σ = some (as.map f, σ1)) (h0 : I σ1)
    (hs : ∀ x ∈ as, ∀ σ, I σ → ∃ σ2, t (f x) σ = some σ2 ∧ WX body σ2 fun r => if p x = true then ∃ σ3, r = .nx σ3 ∧ I σ3 else ∃ σ3, r = .rt (.p (.bool false)) σ3)
    (h1 : as.all p = true → ∀ σ, I σ → Q (.nx σ)) (h2 : as.all p = false → ∀ σ, Q (.rt (.p (.bool false)) σ)) : WX (xFor it t body) σ Q := by
  refine wx_map (f := f) (as := as) (fun done σ => done.all p = true ∧ I σ) e1 ⟨rfl, h0⟩ (fun done x rest σ e hI => ?_) (fun σ hI => h1 hI.1 σ hI.2)
  obtain ⟨σ2, e2, r, e3, q⟩ := hs x (by rw [← e]; simp) σ hI.2
  refine ⟨σ2, e2, r, e3, ?_⟩
  by_cases hp : p x = true
  · rw [if_pos hp] at q
    obtain ⟨σ3, rfl, q⟩ := q
    exact ⟨by rw [List.all_append, hI.1]; simp [hp], q⟩
  · rw [if_neg hp] at q
    obtain ⟨σ3, rfl⟩ := q
    refine h2 ?_ σ3
    rw [List.all_eq_false]
    exact ⟨x, by rw [← e]; simp, hp⟩

structure GEvent where
  name : Str
  hours : List Int
  fails : List Int
instance : Inhabited GEvent := ⟨⟨default, [], []⟩⟩
structure GWorks where
  kinds : List Kind
  slots : List Slot
  people : List Person
  events : List GEvent
  opening : Int
def dGE (e : GEvent) : D := .tuple [.str e.name, .tuple (e.hours.map PyData.int), .tuple (e.fails.map PyData.int)]
def dG (g : GWorks) : D := .tuple [.tuple (g.kinds.map dKind), .tuple (g.slots.map dSlot), .tuple (g.people.map dPerson), .tuple (g.events.map dGE), .int g.opening]
def gE (e : Event) : GEvent := ⟨e.name, e.hours, e.fails.map fun (i : Nat) => ((i : Nat) : Int)⟩
def gOf (w : Works) : GWorks := ⟨w.kinds, w.slots, w.people, w.events.map gE, w.worth⟩
theorem dGE_of (e : Event) : dGE (gE e) = dEvent e := by
  unfold dGE gE dEvent dNat
  simp [Function.comp_def]
theorem dG_of (w : Works) : dG (gOf w) = dWorks w := by
  unfold dG gOf dWorks
  simp only [List.map_map]
  have : dGE ∘ gE = dEvent := funext dGE_of
  rw [this]
def lettersS : Str := Str.ofString "abcdefghijklmnopqrstuvwxyz"
def digitsS : Str := Str.ofString "0123456789"
def inS (z x : Str) : Bool := !(Builtin.Str.occurrences z x 0 z.length 1).isEmpty
def sgs (n : Str) : List Str := n.cps.toList.map fun c => ⟨#[c]⟩
def isName (n : Str) : Bool := decide ((1 : Int) ≤ (n.length : Int) ∧ (n.length : Int) ≤ 12) && inS lettersS (sg n 0) && (sgs n).all fun c => inS lettersS c || inS digitsS c
/-- no item stands among the ones ahead of it -/
def diffB (l : List Str) : Bool := (List.range l.length).all fun k => !decide (l.getD k default ∈ l.take k)
def areNamesB (l : List Str) (lo hi : Int) : Bool := decide (lo ≤ (l.length : Int) ∧ (l.length : Int) ≤ hi) && l.all isName && diffB l
def isTab (t : List (Int × Int)) : Bool := decide ((1 : Int) ≤ (t.length : Int) ∧ (t.length : Int) ≤ 8) && (!(!decide ((t.getD 0 (0, 0)).1 = 0) || decide ((t.getD 0 (0, 0)).2 < 0))) &&
  (List.range (t.length - 1)).all fun k => !(decide ((t.getD (k + 1) (0, 0)).1 ≤ (t.getD k (0, 0)).1) || decide ((t.getD (k + 1) (0, 0)).2 < (t.getD k (0, 0)).2))
def isKindB (k : Kind) : Bool := (decide (1 ≤ k.limit ∧ k.limit ≤ 9) && (decide (0 ≤ k.days ∧ k.days ≤ 9) && isTab k.table)) && (k.spare || decide (k.days = 0))
def areSlotsB (sl : List Slot) (ks : List Kind) : Bool := (sl.all fun s => decide (s.kind ∈ ks.map (·.name)) && decide (0 ≤ s.worth ∧ s.worth ≤ 99)) && areNamesB (sl.map (·.name)) 1 6
def arePeopleB (ps : List Person) (sl : List Slot) : Bool := (ps.all fun p => diffB p.skills && p.skills.all fun s => decide (s ∈ sl.map (·.name))) && areNamesB (ps.map (·.name)) 0 6
def asc (many : Int) : Int → List Int → Bool
  | _, [] => true
  | b, i :: r => decide (b < i ∧ i < many) && asc many i r
def areEventsB (es : List GEvent) (many : Nat) : Bool := (es.all fun e => (decide ((e.hours.length : Int) = (many : Int)) && asc many (-1) e.fails) && e.hours.all fun h => decide (0 ≤ h ∧ h ≤ 99)) && areNamesB (es.map (·.name)) 1 6
def isWB (g : GWorks) : Bool := (areNamesB (g.kinds.map (·.name)) 1 4 && g.kinds.all isKindB) && ((areSlotsB g.slots g.kinds && arePeopleB g.people g.slots) && (areEventsB g.events g.slots.length && decide (0 ≤ g.opening ∧ g.opening ≤ 99)))
theorem c_lenS {z : Str} (h : z.length ≤ 16777216) : lenD [.str z] = some (.ex (.int (z.length : Int))) := by
  unfold lenD
  dsimp only
  rw [cpos (by rw [szl]; exact h)]
theorem c_ninS (z x : Str) : ninD (.str x) (.str z) = some (.ex (.bool (!inS z x))) := rfl
theorem sgs_eq (n : Str) : (n.cps.toList.map fun c => PyData.str ⟨#[c]⟩) = (sgs n).map PyData.str := by unfold sgs; rw [List.map_map]; rfl
theorem diff_of {l : List Str} (h : l.Nodup) : diffB l = true := by
  unfold diffB
  rw [List.all_eq_true]
  intro k hk
  have hk' := List.mem_range.mp hk
  rw [Bool.not_eq_true', decide_eq_false_iff_not]
  intro q
  obtain ⟨i, hi, e⟩ := List.mem_iff_getElem.mp q
  rw [List.length_take] at hi
  rw [List.getElem_take] at e
  have e2 : l.getD k default = l[k] := by simp [hk']
  rw [e2] at e
  exact (List.pairwise_iff_getElem.mp h i k (by omega) hk' (by omega)) e
theorem diff_not {l : List Str} {i j : Nat} (hi : i < j) (hj : j < l.length) (h : l.getD i default = l.getD j default) : diffB l = false := by
  unfold diffB
  rw [List.all_eq_false]
  refine ⟨j, List.mem_range.mpr hj, ?_⟩
  rw [Bool.not_eq_true', decide_eq_false_iff_not, Classical.not_not, ← h]
  have : l.getD i default = (l.take j)[i]'(by rw [List.length_take]; omega) := by
    rw [List.getElem_take]
    have : i < l.length := by omega
    simp [this]
  rw [this]
  exact List.getElem_mem _
end KW

set_option Elab.async false
set_option linter.all false
set_option maxRecDepth 100000
set_option maxHeartbeats 1000000
/-! KS15: numbers in tuples of numbers -/
namespace KW
open PySem PV
theorem any_ints (l : List Int) (i : Int) : ((l.map PyData.int).any fun z => PyData.eqv z (.int i)) = decide (i ∈ l) := by
  induction l with
  | nil => simp
  | cons a l ih =>
    rw [List.map_cons, List.any_cons, ih]
    rw [eqv_int]
    simp only [List.mem_cons, Bool.decide_or]
    congr 1
    exact decide_eq_decide.mpr eq_comm
theorem c_inIT (l : List Int) (i : Int) : inD (.int i) (.tuple (l.map PyData.int)) = some (.ex (.bool (decide (i ∈ l)))) := by
  have h : CmpOk (.int i) (.tuple (l.map PyData.int)) := ⟨rfl, by simp [shp, PyData.plain, PyData.depth, plain_ints, depth_ints]⟩
  rw [inD_tuple h, any_ints]
theorem c_inIL (l : List Int) (i : Int) : inD (.int i) (.list (l.map PyData.int)) = some (.ex (.bool (decide (i ∈ l)))) := by
  have h : CmpOk (.int i) (.list (l.map PyData.int)) := ⟨rfl, by simp [shp, PyData.plain, PyData.depth, plain_ints, depth_ints]⟩
  rw [inD_list h, any_ints]
theorem c_ninIT (l : List Int) (i : Int) : ninD (.int i) (.tuple (l.map PyData.int)) = some (.ex (.bool (!decide (i ∈ l)))) := by
  have h : CmpOk (.int i) (.tuple (l.map PyData.int)) := ⟨rfl, by simp [shp, PyData.plain, PyData.depth, plain_ints, depth_ints]⟩
  rw [ninD_tuple h, any_ints]
end KW

set_option Elab.async false
set_option linter.all false
set_option maxRecDepth 100000
set_option maxHeartbeats 4000000
namespace Kk11
open PySem PySem.Spec L2 PV KW
local macro_rules | `(tactic| walk_at "pv") => `(tactic| simp only [↓eIf_litI, eBin, eName, eD, eItem, eItemH, itemAt, itemP, peek, pkO, hold, unhold, frz, take, takeR, toD, toD1, frzAll, unholds, aCons, aNil, eCallB, eMut, eMeth, lstB, eTup, eLst, eLstN, nCons, nNil, nIt, isN, eSlice, slD, KW.c_slL, KW.c_slT, eUn, eIfE, tOf, tAndE, tOrE, tNotE, eAndE, eOrE, eNotE, eOf, eChain, eIsI, tyN, eRev2, revD, eLR1, eLR2, intE, rgOut, iSeq, seqOf, eCall0, eCall1, lend, frzPl, isc_none, isc_bool, isc_int, isc_str, isc_list, isc_tuple, isc_l, isc_n, ite_same, tgName, tgTup, tgCons, tgNil, finals, takeE, frzE, retE, getL, putL, wipeE, backE, tvYes, Out.o, Hd.r, tupleD, listD,
  List.getElem?_cons_zero, List.getElem?_cons_succ, List.set_cons_zero, List.set_cons_succ, List.map_cons, List.map_nil, List.replicate, List.cons_append, List.nil_append, List.length_cons, List.length_nil, List.all_cons, List.all_nil, Bool.and_self, Bool.and_true, Bool.true_and, List.length_map, List.length_range, List.getElem?_map, List.getElem?_range, Option.map_some, Int.natCast_nonneg, Int.toNat_natCast, Int.toNat_zero, Int.reduceToNat, Int.reduceLE, Int.zero_add, ite_self, if_true, if_false, ite_self, ite_true, ite_false, Bool.false_eq_true, reduceCtorEq, decide_true, decide_false, c_append, Nat.reduceLeDiff, szl, cl, Nat.reduceAdd,
  kb_NoneType_bool, kb_NoneType_int, kb_NoneType_str, kb_NoneType_list, kb_NoneType_tuple, kb_bool_bool, kb_bool_int, kb_bool_str, kb_bool_list, kb_bool_tuple, kb_int_bool, kb_int_int, kb_int_str, kb_int_list, kb_int_tuple, kb_str_bool, kb_str_int, kb_str_str, kb_str_list, kb_str_tuple, kb_list_bool, kb_list_int, kb_list_str, kb_list_list, kb_list_tuple, kb_tuple_bool, kb_tuple_int, kb_tuple_str, kb_tuple_list, kb_tuple_tuple,
  c_add, c_sub, c_neg, c_eqI, c_neI, c_eqS, c_neS, c_eqB, c_ltI, c_gtI, c_leI, c_geI, isD, isnotD, KW.isn_none, KW.isn_tup, KW.isn_int, KW.isn_state, Bool.not_true, Bool.not_false, c_lenL, c_lenT, KW.c_at, KW.c_atT, KW.c_inNT, KW.c_inNL, KW.c_inST, KW.c_inSL, KW.c_ninNT, KW.c_ninNL, KW.c_ninST, KW.c_ninSL, KW.dPair, KW.dShop, KW.dNat, k_works0, k_works1, k_works2, k_works3, k_works4, k_kind0, k_kind1, k_kind2, k_kind3, k_kind4, k_slot0, k_slot1, k_slot2, k_person0, k_person1, k_event0, k_event1, k_event2, k_state0, k_state1, k_state2, k_tkind, k_tevent, k_sevent, k_skind, k_pl0s, k_pl1s, k_pl0t, k_pl1t, k_pl0h, k_pl1h, k_pl2h, k_pl0g, k_slh, ofS, decide_true, KW.c_eqP, KW.c_neP, KW.c_inP, KW.c_ninP, KW.c_inShop, KW.c_sum, KW.c_int, KW.c_intB, KW.c_abs, KW.c_min2, KW.c_max2, c_mulR, c_div, c_mod, Int.reduceLT, Int.reduceNeg, KW.c_atLast, KW.cut_1, KW.drop1, KW.cut_succ, KW.cut_from, KW.cut_to, KW.ix30, KW.ix31, KW.ix32, *])
local macro_rules | `(tactic| walk_at "ev") => `(tactic| first | (walk_at "pv" <;> rfl) | rfl)
theorem take_ok (row : List Int) (at_ : Nat) (t m : Int) (ha : at_ < 1000000000) (hm : 0 < m) : f_u_law_take [dl row at_ t, .p (.int m)] = some (.p (.int (takeV row at_ t % m)), [dl row (at_ + 1) t]) := by
  refine eqF (wf_fn rfl ?_)
  unfold b_u_law_take
  have a1 : (-18446744073709551616 : Int) < (at_ : Int) := by omega
  have a2 : (at_ : Int) < 18446744073709551616 := by omega
  refine wx_seq (wx_set' (by walk_at "ev") ?_)
  refine wx_seq (wx_setItemN (k := 0) (xs := [.int at_]) (by walk_at "ev") (by walk_at "ev") (by walk_at "ev") (by walk_at "ev") (by simp) ?_)
  refine wx_seq (wx_ifP (p := (at_ : Int) < row.length) (by walk_at "ev") (fun h => ?_) (fun h => wx_nil ?_))
  · have hr : row[at_]? = some (row.getD at_ 0) := getD_lt (by omega)
    refine wx_retV (by walk_at "ev") ⟨_, rfl, ?_, ?_⟩
    · unfold takeV
      rw [hr]
    · rfl
  · have hr : row[at_]? = none := List.getElem?_eq_none (by omega)
    refine wx_retV (by walk_at "ev") ⟨_, rfl, ?_, ?_⟩
    · unfold takeV
      rw [hr]
    · rfl
theorem take_ex (row : List Int) (at_ : Nat) (t m : Int) (ha : at_ < 1000000000) (hm : 0 < m) : ∃ v : Int, 0 ≤ v ∧ v < m ∧ f_u_law_take [dl row at_ t, .p (.int m)] = some (.p (.int v), [dl row (at_ + 1) t]) :=
  ⟨_, Int.emod_nonneg _ (by omega), Int.emod_lt_of_pos _ hm, take_ok row at_ t m ha hm⟩
theorem take_exN (row : List Int) (at_ : Nat) (t m : Int) (ha : at_ < 1000000000) (hm : 0 < m) : ∃ v : Nat, (v : Int) < m ∧ f_u_law_take [dl row at_ t, .p (.int m)] = some (.p (.int (v : Int)), [dl row (at_ + 1) t]) := by
  obtain ⟨v, h0, h1, e⟩ := take_ex row at_ t m ha hm
  obtain ⟨n, rfl⟩ := Int.eq_ofNat_of_zero_le h0
  exact ⟨n, h1, e⟩
theorem deal_ok (ns : List Int) (hn : ns.length ≤ 63) : ∃ row t, f_u_law_deal [.p (.list (ns.map PyData.int))] = some (dl row 0 t, []) := by
  have h : WF f_u_law_deal [.p (.list (ns.map PyData.int))] fun o fs => ∃ row t, o = dl row 0 t ∧ fs = [] := by
    refine wf_fn rfl ?_
    unfold b_u_law_deal
    refine wx_seq (wx_set' (by walk_at "ev") ?_)
    refine wx_seq (wx_rng (lo := 0) (n := ns.length) (fun k σ => ∃ row : List Int, row.length ≤ 40 * k ∧ ∃ a b c d, σ = [some (.p (.list (ns.map PyData.int))), some (.l (row.map PyData.int)), a, b, c, d])
      (by
        have hi : (if (63 : Int) < (ns.length : Int) then (63 : Int) else ns.length) = ns.length := if_neg (by omega)
        exact c_rng0 (k := ns.length) (by omega) (by walk_at "ev") (by walk_at "ev")) ⟨[], by simp, _, _, _, _, rfl⟩ ?_ ?_)
    · rintro k σ hk ⟨row, hr, a, b, c, d, rfl⟩
      have hnk : ns[k]? = some (ns.getD k 0) := getD_lt hk
      refine ⟨_, by walk_at "ev", ?_⟩
      refine wx_seq (wx_set' (by walk_at "ev") ?_)
      generalize (if ns.getD k 0 < 0 then -ns.getD k 0 else ns.getD k 0) = cell
      have hpw : powD (.int 10) (.int 18) = some (.ex (.int (10 ^ 18))) := c_pow (by decide) (by decide) (by decide)
      refine wx_ifP (p := 10 ^ 18 ≤ cell) (by walk_at "ev") (fun h1 => ?_) (fun h1 => ?_)
      · refine wx_rng (lo := 0) (n := 40) (fun j σ => ∃ row : List Int, row.length ≤ 40 * k + j ∧ ∃ cell : Int, ∃ c d, σ = [some (.p (.list (ns.map PyData.int))), some (.l (row.map PyData.int)), some (.p (.int (k : Int))), some (.p (.int cell)), c, d])
          (c_rng0 (k := 40) (by omega) (by walk_at "ev") (by walk_at "ev")) ⟨row, by omega, cell, _, _, rfl⟩ ?_ ?_
        · clear hpw h1 hr
          rintro j σ hj ⟨row, hr, cell, c, d, rfl⟩
          have hrl : row.length < 16777216 := by omega
          refine ⟨_, by walk_at "ev", ?_⟩
          refine wx_ifP (p := 0 < cell) (by walk_at "ev") (fun h1 => ?_) (fun h1 => wx_nil ⟨row, by omega, cell, _, _, rfl⟩)
          refine wx_seq (wx_drop (by walk_at "ev") ?_)
          refine wx_set' (by walk_at "ev") ⟨row ++ [cell % 1009], by simp; omega, cell / 1009, ?_⟩
          rw [List.map_append]
          exact ⟨_, _, rfl⟩
        · rintro σ ⟨row, hr, cell, c, d, rfl⟩
          exact ⟨row, by omega, _, _, _, _, rfl⟩
      · refine wx_seq (wx_set' (by walk_at "ev") ?_)
        refine wx_rng (lo := 0) (n := 5) (fun j σ => ∃ row : List Int, row.length ≤ 40 * k + j ∧ ∃ cell : Int, ∃ c d, σ = [some (.p (.list (ns.map PyData.int))), some (.l (row.map PyData.int)), some (.p (.int (k : Int))), some (.p (.int cell)), c, d])
          (c_rng0 (k := 5) (by omega) (by walk_at "ev") (by walk_at "ev")) ⟨row, by omega, _, _, _, rfl⟩ ?_ ?_
        · clear hpw h1 hr
          rintro j σ hj ⟨row, hr, cell, c, d, rfl⟩
          have hrl : row.length < 16777216 := by omega
          refine ⟨_, by walk_at "ev", ?_⟩
          refine wx_seq (wx_set' (by walk_at "ev") ?_)
          generalize (cell * 16807 + 12345 + (j : Int)) % 2147483647 = cell2
          refine wx_drop (by walk_at "ev") ⟨row ++ [cell2 / 7 % 1009], by simp; omega, cell2, ?_⟩
          rw [List.map_append]
          exact ⟨_, _, rfl⟩
        · rintro σ ⟨row, hr, cell, c, d, rfl⟩
          exact ⟨row, by omega, _, _, _, _, rfl⟩
    · rintro σ ⟨row, hr, a, b, c, d, rfl⟩
      refine wx_seq (wx_set' (by walk_at "ev") ?_)
      exact wx_ret (by walk_at "ev") ⟨_, rfl, row, _, rfl, rfl⟩
  obtain ⟨o, fs, e, row, t, rfl, rfl⟩ := h
  exact ⟨row, t, e⟩
theorem law_same_ok : ∀ (m n : Nat) (d : D), Sm n d → n < m → f_u_law_same m [.p d, .p d] = some (.p (.bool true), [])
  | 0, _, _, _, h => by omega
  | m + 1, n, d, hd, hn => by
    have key : ∀ (tp : Bool) (ds : List D), 0 < n → ds.length ≤ 16777216 → (∀ d ∈ ds, Sm (n - 1) d) → f_u_law_same (m + 1) [.p (if tp = true then .tuple ds else .list ds), .p (if tp = true then .tuple ds else .list ds)] = some (.p (.bool true), []) := by
      intro tp ds h0 hl hds
      refine eqF (wf_fn rfl ?_)
      unfold b_u_law_same
      cases tp with
      | true =>
        simp only [if_true]
        refine wx_seq (wx_if (c := true) (by walk_at "ev") (fun _ => ?_) (fun q => by cases q))
        refine wx_seq (wx_if (c := false) (by walk_at "ev") (fun q => by cases q) (fun _ => wx_nil ?_))
        refine wx_seq (wx_if (c := false) (by walk_at "ev") (fun q => by cases q) (fun _ => wx_nil ?_))
        refine wx_seq (wx_rng (lo := 0) (n := ds.length) (fun j σ => ∃ a, σ = [some (.p (.tuple ds)), some (.p (.tuple ds)), a]) (c_rng0 (k := ds.length) (by omega) (by walk_at "ev") (by walk_at "ev")) ⟨_, rfl⟩ ?_ ?_)
        · rintro j σ hj ⟨a, rfl⟩
          have hdj : ds[j]? = some ds[j] := List.getElem?_eq_getElem hj
          have hr := law_same_ok m (n - 1) ds[j] (hds _ (List.getElem_mem hj)) (by omega)
          generalize ds[j] = y at *
          refine ⟨_, by walk_at "ev", ?_⟩
          refine wx_if (c := false) (by walk_at "ev") (fun q => by cases q) (fun _ => wx_nil ⟨_, rfl⟩)
        · rintro σ ⟨a, rfl⟩
          exact wx_retV (by walk_at "ev") ⟨_, rfl, rfl, rfl⟩
      | false =>
        simp only [Bool.false_eq_true, if_false]
        refine wx_seq (wx_if (c := true) (by walk_at "ev") (fun _ => ?_) (fun q => by cases q))
        refine wx_seq (wx_if (c := false) (by walk_at "ev") (fun q => by cases q) (fun _ => wx_nil ?_))
        refine wx_seq (wx_if (c := false) (by walk_at "ev") (fun q => by cases q) (fun _ => wx_nil ?_))
        refine wx_seq (wx_rng (lo := 0) (n := ds.length) (fun j σ => ∃ a, σ = [some (.p (.list ds)), some (.p (.list ds)), a]) (c_rng0 (k := ds.length) (by omega) (by walk_at "ev") (by walk_at "ev")) ⟨_, rfl⟩ ?_ ?_)
        · rintro j σ hj ⟨a, rfl⟩
          have hdj : ds[j]? = some ds[j] := List.getElem?_eq_getElem hj
          have hr := law_same_ok m (n - 1) ds[j] (hds _ (List.getElem_mem hj)) (by omega)
          generalize ds[j] = y at *
          refine ⟨_, by walk_at "ev", ?_⟩
          refine wx_if (c := false) (by walk_at "ev") (fun q => by cases q) (fun _ => wx_nil ⟨_, rfl⟩)
        · rintro σ ⟨a, rfl⟩
          exact wx_retV (by walk_at "ev") ⟨_, rfl, rfl, rfl⟩
    have flat : ∀ d : D, (d = .none ∨ (∃ b, d = .bool b) ∨ (∃ i, d = .int i) ∨ ∃ x, d = .str x) → f_u_law_same (m + 1) [.p d, .p d] = some (.p (.bool true), []) := by
      intro d h
      refine eqF (wf_fn rfl ?_)
      unfold b_u_law_same
      rcases h with rfl | ⟨b, rfl⟩ | ⟨i, rfl⟩ | ⟨x, rfl⟩
      · refine wx_seq (wx_if (c := false) (by walk_at "ev") (fun q => by cases q) (fun _ => wx_nil ?_))
        refine wx_seq (wx_if (c := false) (by walk_at "ev") (fun q => by cases q) (fun _ => wx_nil ?_))
        refine wx_seq (wx_if (c := false) (by walk_at "ev") (fun q => by cases q) (fun _ => wx_nil ?_))
        refine wx_seq (wx_if (c := false) (by walk_at "ev") (fun q => by cases q) (fun _ => wx_nil ?_))
        exact wx_retV (by walk_at "ev") ⟨_, rfl, rfl, rfl⟩
      · refine wx_seq (wx_if (c := false) (by walk_at "ev") (fun q => by cases q) (fun _ => wx_nil ?_))
        refine wx_seq (wx_if (c := true) (by walk_at "ev") (fun _ => ?_) (fun q => by cases q))
        exact wx_retV (by walk_at "ev") ⟨_, rfl, rfl, rfl⟩
      · refine wx_seq (wx_if (c := false) (by walk_at "ev") (fun q => by cases q) (fun _ => wx_nil ?_))
        refine wx_seq (wx_if (c := false) (by walk_at "ev") (fun q => by cases q) (fun _ => wx_nil ?_))
        refine wx_seq (wx_if (c := true) (by walk_at "ev") (fun _ => ?_) (fun q => by cases q))
        exact wx_retV (by walk_at "ev") ⟨_, rfl, rfl, rfl⟩
      · refine wx_seq (wx_if (c := false) (by walk_at "ev") (fun q => by cases q) (fun _ => wx_nil ?_))
        refine wx_seq (wx_if (c := false) (by walk_at "ev") (fun q => by cases q) (fun _ => wx_nil ?_))
        refine wx_seq (wx_if (c := false) (by walk_at "ev") (fun q => by cases q) (fun _ => wx_nil ?_))
        refine wx_seq (wx_if (c := true) (by walk_at "ev") (fun _ => ?_) (fun q => by cases q))
        exact wx_retV (by walk_at "ev") ⟨_, rfl, rfl, rfl⟩
    cases hd with
    | none => exact flat _ (.inl rfl)
    | bool b => exact flat _ (.inr (.inl ⟨_, rfl⟩))
    | int b => exact flat _ (.inr (.inr (.inl ⟨_, rfl⟩)))
    | str b => exact flat _ (.inr (.inr (.inr ⟨_, rfl⟩)))
    | list h1 h2 => exact key false _ (by omega) h1 h2
    | tuple h1 h2 => exact key true _ (by omega) h1 h2
theorem manned_ok (w : Works) (hns : w.slots.length ≤ 100) : ∀ (m : Nat) (c : List Nat) (ps : List KW.Person), c.length < m → ps.length ≤ 1000 → (∀ s ∈ c, s < w.slots.length) →
    f_u_law_manned m [.p (dWorks w), .p (.tuple (c.map dNat)), .p (.tuple (ps.map dPerson))] = some (.p (.bool (manned w c ps)), [])
  | 0, c, ps, h, _, _ => by omega
  | m + 1, c, ps, h, hp, hc => by
    refine eqF (wf_fn rfl ?_)
    unfold b_u_law_manned
    cases c with
    | nil =>
      refine wx_seq (wx_if (c := true) (by walk_at "ev") (fun _ => ?_) (fun q => by cases q))
      exact wx_retV rfl ⟨_, rfl, rfl, rfl⟩
    | cons s c =>
      have hs : s < w.slots.length := hc s List.mem_cons_self
      have hsk : w.slots[s]? = some (w.slots.getD s default) := getD_lt hs
      have h0 : ¬ (((s :: c).map dNat).length : Int) = 0 := by simp; omega
      refine wx_seq (wx_ifP (p := (((s :: c).map dNat).length : Int) = 0) (by walk_at "ev") (fun q => absurd q h0) (fun _ => wx_nil ?_))
      clear h0
      refine wx_seq (wx_rng (lo := 0) (n := ps.length) (fun k σ => (∀ j, j < k → (decide ((w.slots.getD s default).name ∈ (ps.getD j ⟨default, []⟩).skills) && manned w c (ps.take j ++ ps.drop (j + 1))) = false) ∧ ∃ a, σ = [some (.p (dWorks w)), some (.p (.tuple ((s :: c).map dNat))), some (.p (.tuple (ps.map dPerson))), a])
        (c_rng0 (k := ps.length) (by omega) (by walk_at "ev") (by walk_at "ev")) ⟨fun j hj => by omega, _, rfl⟩ ?_ ?_)
      · rintro k σ hk ⟨hno, a, rfl⟩
        have hpk : ps[k]? = some (ps.getD k ⟨default, []⟩) := getD_lt hk
        have hl2 : (ps.take k ++ ps.drop (k + 1)).length ≤ 1000 := by simp; omega
        have hr := manned_ok w hns m c (ps.take k ++ ps.drop (k + 1)) (by simp at h; omega) hl2 (fun x hx => hc x (List.mem_cons_of_mem _ hx))
        rw [List.map_append, List.map_take, List.map_drop] at hr
        have ha : addD (.tuple ((ps.map dPerson).take k)) (.tuple ((ps.map dPerson).drop (k + 1))) = some (.te ((ps.map dPerson).take k ++ (ps.map dPerson).drop (k + 1))) := c_addT (by rw [szl]; simp; omega)
        have hdr : (dNat s :: c.map dNat).drop 1 = c.map dNat := rfl
        refine ⟨_, by walk_at "ev", ?_⟩
        have hext : ∀ b : Bool, (decide ((w.slots.getD s default).name ∈ (ps.getD k ⟨default, []⟩).skills) && manned w c (ps.take k ++ ps.drop (k + 1))) = false → ∀ j, j < k + 1 → (decide ((w.slots.getD s default).name ∈ (ps.getD j ⟨default, []⟩).skills) && manned w c (ps.take j ++ ps.drop (j + 1))) = false := fun _ hb j hj => by
          by_cases e : j = k
          · subst e; exact hb
          · exact hno j (by omega)
        refine wx_ifP (p := (w.slots.getD s default).name ∈ (ps.getD k ⟨default, []⟩).skills) (by walk_at "ev") (fun h1 => ?_) (fun h1 => wx_nil ⟨hext true (by rw [decide_eq_false h1]; rfl), _, rfl⟩)
        refine wx_if (c := manned w c (ps.take k ++ ps.drop (k + 1))) (by walk_at "ev") (fun h2 => ?_) (fun h2 => wx_nil ⟨hext true (by rw [h2, Bool.and_false]), _, rfl⟩)
        refine wx_retV rfl ⟨_, rfl, ?_, rfl⟩
        have : manned w (s :: c) ps = true := by
          show (List.range ps.length).any _ = true
          rw [List.any_eq_true]
          exact ⟨k, List.mem_range.mpr hk, by rw [decide_eq_true h1, h2]; rfl⟩
        rw [this]
      · rintro σ ⟨hno, a, rfl⟩
        refine wx_retV rfl ⟨_, rfl, ?_, rfl⟩
        have : manned w (s :: c) ps = false := by
          show (List.range ps.length).any _ = false
          rw [List.any_eq_false]
          intro k hk
          rw [hno k (List.mem_range.mp hk)]
          exact Bool.false_ne_true
        rw [this]
theorem has_skill_ok (w : Works) (p s : Nat) (hp : p < w.people.length) (hs : s < w.slots.length) :
    f_has_skill [.p (dWorks w), .p (.int (p : Int)), .p (.int (s : Int))] = some (.p (.bool (skill w p s)), []) := by
  refine eqF (wf_fn rfl ?_)
  unfold b_has_skill
  have hpk : w.people[p]? = some (w.people.getD p ⟨default, []⟩) := getD_lt hp
  have hsk : w.slots[s]? = some (w.slots.getD s default) := getD_lt hs
  exact wx_retV (by walk_at "ev") ⟨_, rfl, rfl, rfl⟩
theorem completed_ok (w : Works) (hpl : w.people.length ≤ 1000) (c : List Nat) (hc : ∀ s ∈ c, s < w.slots.length) (hcl : c.length ≤ 100) : ∀ (m : Nat) (ps : List Nat), ps.length ≤ c.length → c.length - ps.length < m →
    f_completed m [.p (dWorks w), .p (.tuple (c.map dNat)), .p (.tuple (ps.map dNat))] = some (.p (dOpt (compl w c m ps)), [])
  | 0, ps, _, h => by omega
  | m + 1, ps, h0, h => by
    refine eqF (wf_fn rfl ?_)
    unfold b_completed
    refine wx_seq (wx_ifP (p := (ps.length : Int) = (c.length : Int)) (by walk_at "ev") (fun h1 => ?_) (fun h1 => ?_))
    · refine wx_retV (by walk_at "ev") ⟨_, rfl, ?_, rfl⟩
      rw [compl, if_pos (by omega)]
      rfl
    · have h1' : ¬ ps.length = c.length := by omega
      have hlt : ps.length < c.length := by omega
      have hcs : c[ps.length]? = some (c.getD ps.length 0) := getD_lt hlt
      have hsl : c.getD ps.length 0 < w.slots.length := hc _ (List.mem_of_getElem? hcs)
      have hcomp : compl w c (m + 1) ps = (List.range w.people.length).findSome? fun p => if p ∉ ps ∧ skill w p (c.getD ps.length 0) = true then compl w c m (ps ++ [p]) else none := by rw [compl, if_neg h1']
      refine wx_nil ?_
      refine wx_seq (wx_rng (lo := 0) (n := w.people.length) (fun k σ => (∀ j, j < k → (if j ∉ ps ∧ skill w j (c.getD ps.length 0) = true then compl w c m (ps ++ [j]) else none) = none) ∧ ∃ a b, σ = [some (.p (dWorks w)), some (.p (.tuple (c.map dNat))), some (.p (.tuple (ps.map dNat))), a, b])
        (c_rng0 (k := w.people.length) (by omega) (by walk_at "ev") (by walk_at "ev")) ⟨fun j hj => by omega, _, _, rfl⟩ ?_ ?_)
      · rintro k σ hk ⟨hno, a, b, rfl⟩
        have hsk := has_skill_ok w k (c.getD ps.length 0) hk hsl
        have hr := completed_ok w hpl c hc hcl m (ps ++ [k]) (by simp; omega) (by simp; omega)
        rw [List.map_append] at hr
        have hadd : addD (.tuple (ps.map dNat)) (.tuple [.int (k : Int)]) = some (.te (ps.map dNat ++ [.int (k : Int)])) := c_addT (by rw [szl]; simp; omega)
        have hext : (if k ∉ ps ∧ skill w k (c.getD ps.length 0) = true then compl w c m (ps ++ [k]) else none) = none → ∀ j, j < k + 1 → (if j ∉ ps ∧ skill w j (c.getD ps.length 0) = true then compl w c m (ps ++ [j]) else none) = none := by
          intro hb j hj
          by_cases e : j = k
          · subst e; exact hb
          · exact hno j (by omega)
        refine ⟨_, by walk_at "ev", ?_⟩
        refine wx_if (c := (!decide (k ∈ ps)) && skill w k (c.getD ps.length 0)) (tand_val (by walk_at "ev") (fun _ => by walk_at "ev")) (fun h2 => ?_) (fun h2 => ?_)
        · have h3 : k ∉ ps ∧ skill w k (c.getD ps.length 0) = true := by simpa using h2
          rw [if_pos h3] at hext
          cases hcm : compl w c m (ps ++ [k]) with
          | none =>
            rw [hcm] at hr hext
            have hr' : f_completed m [.p (dWorks w), .p (.tuple (c.map dNat)), .p (.tuple (ps.map dNat ++ [.int (k : Int)]))] = some (.p .none, []) := hr
            clear hr
            refine wx_seq (wx_set' (by walk_at "ev") ?_)
            refine wx_if (c := false) (by walk_at "ev") (fun q => by cases q) (fun _ => wx_nil ⟨hext rfl, _, _, rfl⟩)
          | some l =>
            rw [hcm] at hr
            have hr' : f_completed m [.p (dWorks w), .p (.tuple (c.map dNat)), .p (.tuple (ps.map dNat ++ [.int (k : Int)]))] = some (.p (.tuple (l.map dNat)), []) := hr
            clear hr
            refine wx_seq (wx_set' (by walk_at "ev") ?_)
            refine wx_if (c := true) (by walk_at "ev") (fun _ => ?_) (fun q => by cases q)
            refine wx_retV (by walk_at "ev") ⟨_, rfl, ?_, rfl⟩
            have : compl w c (m + 1) ps = some l := by
              rw [hcomp, List.findSome?_eq_some_iff]
              refine ⟨List.range k, k, List.range' (k + 1) (w.people.length - k - 1), ?_, by rw [if_pos h3]; exact hcm, fun j hj => by have := hno j (List.mem_range.mp hj); simpa using this⟩
              have e1 : List.range w.people.length = List.range' 0 (k + (1 + (w.people.length - k - 1))) := by rw [List.range_eq_range']; congr 1; omega
              rw [e1, ← List.range'_append_1, ← List.range'_append_1, List.range_eq_range']
              simp
            rw [this]
            rfl
        · have h3 : ¬ (k ∉ ps ∧ skill w k (c.getD ps.length 0) = true) := fun q => by rw [q.2, Bool.and_true] at h2; exact q.1 (by simpa using h2)
          rw [if_neg h3] at hext
          exact wx_nil ⟨hext rfl, _, _, rfl⟩
      · rintro σ ⟨hno, a, b, rfl⟩
        refine wx_retV (by walk_at "ev") ⟨_, rfl, ?_, rfl⟩
        have : compl w c (m + 1) ps = none := by
          rw [hcomp, List.findSome?_eq_none_iff]
          intro j hj
          exact hno j (List.mem_range.mp hj)
        rw [this]
        rfl
theorem assignment_ok (w : Works) (hpl : w.people.length ≤ 1000) (c : List Nat) (hc : ∀ s ∈ c, s < w.slots.length) (hcl : c.length ≤ 10) :
    f_assignment [.p (dWorks w), .p (.tuple (c.map dNat))] = some (.p (dOpt (compl w c 12 [])), []) := by
  refine eqF (wf_fn rfl ?_)
  unfold b_assignment
  have h := completed_ok w hpl c hc (by omega) 12 [] (by simp) (by simp; omega)
  simp only [List.map_nil] at h
  exact wx_retV (by walk_at "ev") ⟨_, rfl, rfl, rfl⟩
theorem table_ok (row : List Int) (at_ : Nat) (t : Int) (ha : at_ + 100 < 1000000000) :
    ∃ (tb : List (Int × Int)) (at' : Nat), f_u_law_table [dl row at_ t] = some (.p (.tuple (tb.map dPair)), [dl row at' t]) ∧ TV tb ∧ at' ≤ at_ + 10 := by
  have h : WF f_u_law_table [dl row at_ t] fun o fs => ∃ (tb : List (Int × Int)) (at' : Nat), o = .p (.tuple (tb.map dPair)) ∧ fs = [dl row at' t] ∧ TV tb ∧ at' ≤ at_ + 10 := by
    refine wf_fn rfl ?_
    unfold b_u_law_table
    obtain ⟨v0, hv0, hv1, e0⟩ := take_ex row at_ t 5 (by omega) (by decide)
    obtain ⟨v1, h10, h11, e1⟩ := take_ex row (at_ + 1) t 3 (by omega) (by decide)
    refine wx_seq (wx_set' (by walk_at "ev") ?_)
    refine wx_seq (wx_rng (lo := 0) (n := v1.toNat) (fun k σ => ∃ (rs : List (Int × Int)) (p : Int × Int) (a : Nat), a ≤ at_ + 2 + 2 * k ∧ rs.length = k ∧ TV (rs ++ [p]) ∧ ∃ b c d, σ = [some (dl row a t), some (.l (rs.map dPair ++ [dPair p])), b, c, d])
      (c_rngI h10 (by omega) (by walk_at "ev") (by walk_at "ev")) ⟨[], (0, if decide (v0 = 0) = true then 1 else 0), at_ + 2, by omega, rfl, ⟨by simp, by simp, ⟨_, rfl, by split <;> omega⟩, fun i a b e1 e2 => by simp at e2⟩, _, _, _, rfl⟩ ?_ ?_)
    · clear e0 e1
      rintro k σ hk ⟨rs, ⟨p1, p2⟩, a, hA, hl, hT, b, c, d, rfl⟩
      obtain ⟨v2, h20, h21, e2⟩ := take_ex row a t 4 (by omega) (by decide)
      obtain ⟨v3, h30, h31, e3⟩ := take_ex row (a + 1) t 3 (by omega) (by decide)
      have hk2 : k < 2 := by omega
      refine ⟨_, by walk_at "ev", ?_⟩
      refine wx_seq (wx_asg (by walk_at "ev") (by walk_at "ev") ?_)
      have hlen : (rs.map dPair ++ [PyData.tuple [.int p1, .int p2]]).length < sizeLine := by rw [szl]; simp; omega
      have hap := c_append (d := .tuple [.int (p1 + 1 + v2), .int (p2 + v3)]) hlen
      refine wx_drop (by walk_at "ev") ⟨rs ++ [(p1, p2)], (p1 + 1 + v2, p2 + v3), a + 2, by omega, by simp [hl], TV.snoc hT (by simp; omega) (by show p1 < p1 + 1 + v2; omega) (by show p2 ≤ p2 + v3; omega), ?_⟩
      rw [List.map_append]
      exact ⟨_, _, _, rfl⟩
    · rintro σ ⟨rs, p, a, hA, hl, hT, b, c, d, rfl⟩
      refine wx_ret (by walk_at "ev") ⟨_, rfl, rs ++ [p], a, ?_, rfl, hT, by omega⟩
      rw [List.map_append]
      rfl
  obtain ⟨o, fs, e, tb, at', rfl, rfl, h1⟩ := h
  exact ⟨tb, at', e, h1⟩
theorem kinds_ok (row : List Int) (at_ : Nat) (t : Int) (m mo : Nat) (hm : m ≤ 2) (hmo : 1 ≤ mo) (hmo3 : mo ≤ 3) (ha : at_ + 1000 < 1000000000) :
    ∃ (ks : List KW.Kind) (at' : Nat), f_u_law_kinds [dl row at_ t, .p (.int (m : Int)), .p (.int (mo : Int))] = some (.p (.tuple (ks.map dKind)), [dl row at' t]) ∧ ks.length = m ∧ (∀ (i : Nat) k, ks[i]? = some k → VKind i k) ∧ at' ≤ at_ + 40 := by
  have h : WF f_u_law_kinds [dl row at_ t, .p (.int (m : Int)), .p (.int (mo : Int))] fun o fs => ∃ (ks : List KW.Kind) (at' : Nat), o = .p (.tuple (ks.map dKind)) ∧ fs = [dl row at' t] ∧ ks.length = m ∧ (∀ (i : Nat) k, ks[i]? = some k → VKind i k) ∧ at' ≤ at_ + 40 := by
    refine wf_fn rfl ?_
    unfold b_u_law_kinds
    refine wx_seq (wx_set' (by walk_at "ev") ?_)
    refine wx_seq (wx_rng (lo := 0) (n := m) (fun j σ => ∃ (ks : List KW.Kind) (a : Nat), ks.length = j ∧ a ≤ at_ + 20 * j ∧ (∀ (i : Nat) k, ks[i]? = some k → VKind i k) ∧ ∃ b c d, σ = [some (dl row a t), some (.p (.int (m : Int))), some (.p (.int (mo : Int))), some (.l (ks.map dKind)), b, c, d])
      (c_rng0 (k := m) (by omega) (by walk_at "ev") (by walk_at "ev")) ⟨[], at_, rfl, by omega, fun i k e => by simp at e, _, _, _, rfl⟩ ?_ ?_)
    · rintro j σ hj ⟨ks, a, hl, hA, hK, b, c, d, rfl⟩
      obtain ⟨v1, h10, h11, e1⟩ := take_ex row a t 4 (by omega) (by decide)
      refine ⟨_, by walk_at "ev", ?_⟩
      refine wx_seq (wx_set' (by walk_at "ev") ?_)
      clear e1
      generalize decide (0 < v1) = sp
      have hdays : ∃ (dy : Int) (a' : Nat), eIfE (tOf (eName 5)) (eCall1 0 f_u_law_take (aCons (eName 0) (aCons (eD (.int 3)) aNil))) (eD (.int 0))
          [some (dl row (a + 1) t), some (.p (.int (m : Int))), some (.p (.int (mo : Int))), some (.l (ks.map dKind)), some (.p (.int (j : Int))), some (.p (.bool sp)), d] = some (.v (.p (.int dy)), [some (dl row a' t), some (.p (.int (m : Int))), some (.p (.int (mo : Int))), some (.l (ks.map dKind)), some (.p (.int (j : Int))), some (.p (.bool sp)), d]) ∧ a' ≤ a + 2 ∧ 0 ≤ dy ∧ dy ≤ 2 ∧ (0 < dy → sp = true) := by
        cases sp with
        | false => exact ⟨0, a + 1, by walk_at "ev", by omega, by omega, by omega, fun h => by omega⟩
        | true =>
          obtain ⟨v2, h20, h21, e2⟩ := take_ex row (a + 1) t 3 (by omega) (by decide)
          exact ⟨v2, a + 2, by walk_at "ev", by omega, h20, by omega, fun _ => rfl⟩
      obtain ⟨dy, a', e2, ha', hd0, hd9, hsp⟩ := hdays
      refine wx_seq (wx_setV e2 ?_)
      clear e2
      obtain ⟨v3, h31, e3⟩ := take_exN row a' t 8 (by omega) (by decide)
      obtain ⟨v4, h40, h41, e4⟩ := take_ex row (a' + 1) t (mo : Int) (by omega) (by omega)
      obtain ⟨tb, a'', e5, hT, h5⟩ := table_ok row (a' + 2) t (by omega)
      have hsg := c_sg (z := "abcdefgh") (v := v3) (by decide) (by show v3 < 8; omega)
      have hkl : j < 16777216 := by omega
      have hst := c_str8 (k := j) (by omega)
      have hnm := c_nmK (z := "abcdefgh") (v := v3) (k := j) (by omega)
      refine wx_drop (by walk_at "ev") ⟨ks ++ [⟨nmK "abcdefgh" v3 j, 1 + v4, tb, sp, dy⟩], a'', by simp [hl], by omega, snoc_get hK ⟨⟨v3, by omega, by rw [hl]⟩, by show 1 ≤ 1 + v4; omega, by show 1 + v4 ≤ 3; omega, hT, hd0, hd9, hsp⟩, ?_⟩
      rw [List.map_append]
      exact ⟨_, _, _, rfl⟩
    · rintro σ ⟨ks, a, hl, hA, hK, b, c, d, rfl⟩
      exact wx_ret (by walk_at "ev") ⟨_, rfl, ks, a, rfl, rfl, hl, hK, by omega⟩
  obtain ⟨o, fs, e, ks, at', rfl, rfl, h1⟩ := h
  exact ⟨ks, at', e, h1⟩
theorem some_ok (row : List Int) (at_ : Nat) (t : Int) (n ch : Nat) (hn : n ≤ 100) (hch : 0 < ch) (ha : at_ + 1000 < 1000000000) :
    ∃ c : List Nat, f_u_law_some [dl row at_ t, .p (.int (n : Int)), .p (.int (ch : Int))] = some (.l (c.map dNat), [dl row (at_ + n) t]) ∧ c.Sublist (List.range n) := by
  have h : WF f_u_law_some [dl row at_ t, .p (.int (n : Int)), .p (.int (ch : Int))] fun o fs => ∃ c : List Nat, o = .l (c.map dNat) ∧ fs = [dl row (at_ + n) t] ∧ c.Sublist (List.range n) := by
    refine wf_fn rfl ?_
    unfold b_u_law_some
    obtain ⟨ys, σ', eL, c, a2, rfl, hc, ha2, rfl⟩ := lc_state (own := [3]) (t := tgName 3) (it := iRng1 (aCons (eName 1) aNil)) (c := tOf (eBin eqD (eCall1 0 f_u_law_take (aCons (eName 0) (aCons (eName 2) aNil))) (eD (.int 0)))) (e := eName 3)
        (σ := [some (dl row at_ t), some (.p (.int (n : Int))), some (.p (.int (ch : Int))), none]) (f := dNat) (as := List.range n)
        (fun done ys σ => ∃ (c : List Nat) (a2 : Nat), ys = c.map dNat ∧ c.Sublist done ∧ a2 = at_ + done.length ∧ σ = [some (dl row a2 t), some (.p (.int (n : Int))), some (.p (.int (ch : Int))), none])
        (by rw [← rng0]; exact c_rng0 (by omega) (by walk_at "ev") (by walk_at "ev")) ⟨[], _, rfl, .slnil, rfl, rfl⟩ (fun dn x rs ys σ e0 hI => by
          obtain ⟨c, a2, rfl, hc, rfl, rfl⟩ := hI
          have hdn : dn.length + 1 ≤ 100 := by
            have := congrArg List.length e0
            simp at this
            omega
          clear e0
          obtain ⟨v1, h11, e1⟩ := take_exN row (at_ + dn.length) t (ch : Int) (by omega) (by omega)
          refine ⟨_, rfl, decide ((v1 : Int) = 0), _, by walk_at "ev", ?_⟩
          by_cases hv : (v1 : Int) = 0
          · rw [if_pos (decide_eq_true hv)]
            refine ⟨_, _, by walk_at "ev", c ++ [x], _, ?_, hc.append (List.Sublist.refl _), rfl, ?_⟩
            · rw [List.map_append]; rfl
            · simp [wipeE]; omega
          · rw [if_neg (by simpa using hv)]
            refine ⟨c, _, rfl, hc.trans (List.sublist_append_left _ _), rfl, ?_⟩
            simp [wipeE]; omega) (by
          rintro ys σ' ⟨c, a2, rfl, hc, _, _⟩
          have := hc.length_le
          simp at this
          rw [szl, List.length_map]; omega)
    simp only [List.length_range] at ha2
    subst ha2
    exact wx_ret (by walk_at "ev") ⟨_, rfl, c, rfl, rfl, hc⟩
  obtain ⟨o, fs, e, c, rfl, rfl, h1⟩ := h
  exact ⟨c, e, h1⟩
theorem works_ok (row : List Int) (at_ : Nat) (t : Int) (ha : at_ + 10000 < 1000000000) :
    ∃ (w : Works) (at' : Nat), f_u_law_works [dl row at_ t] = some (.p (dWorks w), [dl row at' t]) ∧ VOk w ∧ at' ≤ at_ + 300 := by
  have h : WF f_u_law_works [dl row at_ t] fun o fs => ∃ (w : Works) (at' : Nat), o = .p (dWorks w) ∧ fs = [dl row at' t] ∧ VOk w ∧ at' ≤ at_ + 300 := by
    refine wf_fn rfl ?_
    unfold b_u_law_works
    obtain ⟨v1, h11, e1⟩ := take_exN row at_ t 2 (by omega) (by decide)
    refine wx_seq (wx_set' (by walk_at "ev") ?_)
    clear e1
    refine wx_seq (wx_set' (by walk_at "ev") ?_)
    obtain ⟨v2, h21, e2⟩ := take_exN row (at_ + 1) t 6 (by omega) (by decide)
    refine wx_seq (WX.mono (Q := fun r => ∃ n mo : Nat, 1 ≤ n ∧ n ≤ 3 ∧ 1 ≤ mo ∧ mo ≤ 3 ∧ r = .nx [some (dl row (at_ + 2) t), some (.p (.int (n : Int))), some (.p (.int (mo : Int))), none, none, none, none, none, none, none, none, none]) ?_ ?_)
    · refine wx_ifP (p := (v2 : Int) = 0) (by walk_at "ev") (fun _ => ?_) (fun _ => ?_)
      · refine wx_seq (wx_set' (by walk_at "ev") ?_)
        refine wx_set' (by walk_at "ev") ?_
        exact ⟨3, 2, by omega, by omega, by omega, by omega, rfl⟩
      · exact wx_nil ⟨1 + v1, 3, by omega, by omega, by omega, by omega, rfl⟩
    clear e2
    rintro _ ⟨n, mo, hn1, hn3, hmo1, hmo3, rfl⟩
    obtain ⟨v3, h31, e3⟩ := take_exN row (at_ + 2) t 2 (by omega) (by decide)
    obtain ⟨ks, a1, e4, hks, hK, ha1⟩ := kinds_ok row (at_ + 3) t (1 + v3) mo (by omega) hmo1 hmo3 (by omega)
    simp only [Int.natCast_add, Int.natCast_one] at e4
    refine wx_seq (wx_set' (by walk_at "ev") ?_)
    clear e3 e4
    refine wx_seq (wx_set' (by walk_at "ev") ?_)
    refine wx_seq (wx_rng (lo := 0) (n := n) (fun j σ => ∃ (sl : List KW.Slot) (a : Nat), sl.length = j ∧ a ≤ a1 + 3 * j ∧ (∀ (i : Nat) s, sl[i]? = some s → VSlot ks i s) ∧ ∃ b c d f g h i, σ = [some (dl row a t), some (.p (.int (n : Int))), some (.p (.int (mo : Int))), some (.p (.tuple (ks.map dKind))), some (.l (sl.map dSlot)), b, c, d, f, g, h, i])
      (c_rng0 (k := n) (by omega) (by walk_at "ev") (by walk_at "ev")) ⟨[], a1, rfl, by omega, fun i s e => by simp at e, _, _, _, _, _, _, _, rfl⟩ ?_ ?_)
    · rintro j σ hj ⟨sl, a, hl, hA, hS, b, c, d, f, g, h, i, rfl⟩
      have hk0 : 0 < ks.length := by omega
      clear hks
      obtain ⟨v4, h41, e4⟩ := take_exN row a t (ks.length : Int) (by omega) (by omega)
      have hkk : ks[v4]? = some (ks.getD v4 default) := getD_lt (by omega)
      refine ⟨_, by walk_at "ev", ?_⟩
      refine wx_seq (wx_set' (by walk_at "ev") ?_)
      clear e4
      obtain ⟨v5, h51, e5⟩ := take_exN row (a + 1) t 8 (by omega) (by decide)
      obtain ⟨v6, h61, e6⟩ := take_exN row (a + 2) t 6 (by omega) (by decide)
      have hsg := c_sg (z := "mnopqrst") (v := v5) (by decide) (by show v5 < 8; omega)
      have hst := c_str8 (k := j) (by omega)
      have hnm := c_nmK (z := "mnopqrst") (v := v5) (k := j) (by omega)
      have hkl : j < 16777216 := by omega
      refine wx_drop (by walk_at "ev") ⟨sl ++ [⟨nmK "mnopqrst" v5 j, (ks.getD v4 default).name, v6⟩], a + 3, by simp [hl], by omega, snoc_get hS ⟨⟨v5, by omega, by rw [hl]⟩, ⟨v4, by omega, rfl⟩, by show (0 : Int) ≤ v6; omega, by show (v6 : Int) ≤ 5; omega⟩, ?_⟩
      rw [List.map_append]
      exact ⟨_, _, _, _, _, _, _, rfl⟩
    · rintro σ ⟨sl, a2, hl, hA2, hS, b, c, d, f, g, h, i, rfl⟩
      refine wx_seq (wx_set' (by walk_at "ev") ?_)
      obtain ⟨v4, h41, e4⟩ := take_exN row a2 t 4 (by omega) (by decide)
      refine wx_seq (wx_rng (lo := 0) (n := v4) (fun j σ => ∃ (ps : List KW.Person) (a : Nat), ps.length = j ∧ a ≤ a2 + 1 + 4 * j ∧ (∀ (i : Nat) p, ps[i]? = some p → VPerson sl i p) ∧ ∃ b c f g h i, σ = [some (dl row a t), some (.p (.int (n : Int))), some (.p (.int (mo : Int))), some (.p (.tuple (ks.map dKind))), some (.l (sl.map dSlot)), b, c, some (.l (ps.map dPerson)), f, g, h, i])
        (c_rng0 (k := v4) (by omega) (by walk_at "ev") (by walk_at "ev")) ⟨[], a2 + 1, rfl, by omega, fun i s e => by simp at e, _, _, _, _, _, _, rfl⟩ ?_ ?_)
      · clear e4
        rintro j σ hj ⟨ps, a, hpl, hA, hP, b, c, f, g, h, i, rfl⟩
        obtain ⟨cc, e5, hcc⟩ := some_ok row a t n 2 (by omega) (by omega) (by omega)
        simp only [Int.cast_ofNat_Int] at e5
        have hccl := hcc.length_le
        rw [List.length_range] at hccl
        refine ⟨_, by walk_at "ev", ?_⟩
        have hlc := lc_pure0 (own := [11]) (t := tgName 11) (f := dNat) (e := eItem (eItem (eName 4) (eName 11)) (eD (.int 0))) (it := iSeq (eCall1 0 f_u_law_some (aCons (eName 0) (aCons (eName 1) (aCons (eD (.int 2)) aNil)))))
          (σ := [some (dl row a t), some (.p (.int (n : Int))), some (.p (.int (mo : Int))), some (.p (.tuple (ks.map dKind))), some (.l (sl.map dSlot)), some (.p (.int (j : Int))), c, some (.l (ps.map dPerson)), f, g, h, i])
          (σ1 := [some (dl row (a + n) t), some (.p (.int (n : Int))), some (.p (.int (mo : Int))), some (.p (.tuple (ks.map dKind))), some (.l (sl.map dSlot)), some (.p (.int (j : Int))), c, some (.l (ps.map dPerson)), f, g, h, i]) (as := cc) (fun s => .str (sl.getD s default).name)
          (by walk_at "ev") (fun s hs => by
            have hs1 : s < sl.length := by have := hcc.subset hs; rw [List.mem_range] at this; omega
            have hsl : sl[s]? = some (sl.getD s default) := getD_lt hs1
            clear hl hs1
            exact ⟨_, rfl, by walk_at "ev", rfl⟩) (by rw [szl]; omega)
        clear e5
        refine wx_seq (wx_set' (by walk_at "ev") ?_)
        clear hlc
        obtain ⟨v6, h61, e6⟩ := take_exN row (a + n) t 2 (by omega) (by decide)
        have hst := c_str8 (k := j) (by omega)
        have hnm := c_pre (z := "p") (k := j) (by decide) (by omega)
        have hkl : j < 16777216 := by omega
        have hrev : (cc.map fun s => PyData.str (sl.getD s default).name).reverse = ((cc.map fun s => (sl.getD s default).name).reverse).map PyData.str := by simp [Function.comp_def]
        by_cases hv : (v6 : Int) = 0
        · refine wx_drop (by walk_at "ev") ⟨ps ++ [⟨Str.ofString "p" ++ (toString (j : Int) : String), (cc.map fun s => (sl.getD s default).name).reverse⟩], a + n + 1, by simp [hpl], by omega, snoc_get hP ⟨by rw [hpl], cc, by rw [hl]; exact hcc, .inr rfl⟩, ?_⟩
          rw [List.map_append]
          exact ⟨_, _, _, _, _, _, rfl⟩
        · refine wx_drop (by walk_at "ev") ⟨ps ++ [⟨Str.ofString "p" ++ (toString (j : Int) : String), cc.map fun s => (sl.getD s default).name⟩], a + n + 1, by simp [hpl], by omega, snoc_get hP ⟨by rw [hpl], cc, by rw [hl]; exact hcc, .inl rfl⟩, ?_⟩
          rw [List.map_append, show List.map dPerson [⟨Str.ofString "p" ++ (toString (j : Int) : String), cc.map fun s => (sl.getD s default).name⟩] = [PyData.tuple [.str (Str.ofString "p" ++ (toString (j : Int) : String)), .tuple (cc.map fun s => PyData.str (sl.getD s default).name)]] by simp [dPerson, Function.comp_def]]
          exact ⟨_, _, _, _, _, _, rfl⟩
      · clear e4
        rintro σ ⟨ps, a3, hpl, hA3, hP, b, c, f, g, h, i, rfl⟩
        refine wx_seq (wx_set' (by walk_at "ev") ?_)
        obtain ⟨v7, h71, e7⟩ := take_exN row a3 t 2 (by omega) (by decide)
        have et : (1 + (v7 : Int)).toNat = 1 + v7 := by omega
        refine wx_seq (wx_rng (lo := 0) (n := (1 + (v7 : Int)).toNat) (fun j σ => ∃ (es : List KW.Event) (a : Nat), es.length = j ∧ a ≤ a3 + 1 + 6 * j ∧ (∀ (i : Nat) e, es[i]? = some e → VEvent n i e) ∧ ∃ b c f g h, σ = [some (dl row a t), some (.p (.int (n : Int))), some (.p (.int (mo : Int))), some (.p (.tuple (ks.map dKind))), some (.l (sl.map dSlot)), b, c, some (.l (ps.map dPerson)), f, some (.l (es.map dEvent)), g, h])
          (c_rngI (j := 1 + (v7 : Int)) (by omega) (by omega) (by walk_at "ev") (by walk_at "ev")) ⟨[], a3 + 1, rfl, by omega, fun i s e => by simp at e, _, _, _, _, _, rfl⟩ ?_ ?_)
        · clear e7
          rw [et]
          rintro j σ hj ⟨es, a, hel, hA, hE, b, c, f, g, h, rfl⟩
          clear et
          refine ⟨_, by walk_at "ev", ?_⟩
          obtain ⟨ys, σ', eL, hr, a4, rfl, hhl, hrr, ha4, rfl⟩ := lc_state (own := [11]) (t := tgName 11) (it := iRng1 (aCons (eName 1) aNil)) (c := tvYes) (e := eItemH (eLst (aCons (eD (.int 0)) (aCons (eD (.int 1)) (aCons (eD (.int 2)) (aCons (eD (.int 4)) (aCons (eD (.int 9)) (aCons (eD (.int 99)) aNil))))))) (eCall1 0 f_u_law_take (aCons (eName 0) (aCons (eD (.int 6)) aNil))))
            (σ := [some (dl row a t), some (.p (.int (n : Int))), some (.p (.int (mo : Int))), some (.p (.tuple (ks.map dKind))), some (.l (sl.map dSlot)), some (.p (.int (j : Int))), c, some (.l (ps.map dPerson)), f, some (.l (es.map dEvent)), g, h]) (f := dNat) (as := List.range n)
            (fun done ys σ => ∃ (hr : List Int) (a4 : Nat), ys = hr.map PyData.int ∧ hr.length = done.length ∧ (∀ x ∈ hr, 0 ≤ x ∧ x ≤ 99) ∧ a4 = a + done.length ∧ σ = [some (dl row a4 t), some (.p (.int (n : Int))), some (.p (.int (mo : Int))), some (.p (.tuple (ks.map dKind))), some (.l (sl.map dSlot)), some (.p (.int (j : Int))), c, some (.l (ps.map dPerson)), f, some (.l (es.map dEvent)), g, none])
            (by rw [← rng0]; exact c_rng0 (by omega) (by walk_at "ev") (by walk_at "ev")) ⟨[], a, rfl, rfl, by simp, rfl, rfl⟩ (fun dn x rs ys σ e0 hI => by
              obtain ⟨hr, a4, rfl, hhr, hrr, rfl, rfl⟩ := hI
              have hdn : dn.length + 1 ≤ 3 := by
                have := congrArg List.length e0
                simp at this
                omega
              clear e0
              obtain ⟨v8, h80, h81, e8⟩ := take_ex row (a + dn.length) t 6 (by omega) (by decide)
              obtain ⟨y, hy, hpy⟩ := pickI (ns := [0, 1, 2, 4, 9, 99]) h80 (by simpa using h81)
              simp only [List.map_cons, List.map_nil] at hpy
              have hy2 : 0 ≤ y ∧ y ≤ 99 := by
                simp at hy
                omega
              clear hy
              refine ⟨_, rfl, true, _, rfl, ?_⟩
              rw [if_pos rfl]
              refine ⟨_, _, by walk_at "ev", hr ++ [y], _, ?_, by simp [hhr], ?_, rfl, ?_⟩
              · rw [List.map_append]; rfl
              · intro z hz
                rcases List.mem_append.mp hz with hz | hz
                · exact hrr z hz
                · rw [List.mem_singleton.mp hz]; exact hy2
              · simp [wipeE]; omega) (by
              rintro ys σ' ⟨hr, a4, rfl, hhr, _, _⟩
              rw [szl, List.length_map, hhr, List.length_range]; omega)
          simp only [List.length_range] at ha4 hhl
          subst ha4
          refine wx_seq (wx_set' (by walk_at "ev") ?_)
          clear eL
          obtain ⟨fl, e9, hfl⟩ := some_ok row (a + n) t n 8 (by omega) (by omega) (by omega)
          simp only [Int.cast_ofNat_Int] at e9
          have hst := c_str8 (k := j) (by omega)
          have hnm := c_pre (z := "day") (k := j) (by decide) (by omega)
          have hkl : j < 16777216 := by omega
          refine wx_drop (by walk_at "ev") ⟨es ++ [⟨Str.ofString "day" ++ (toString (j : Int) : String), hr, fl⟩], a + n + n, by simp [hel], by omega, snoc_get hE ⟨by rw [hel], hhl, hrr, hfl⟩, ?_⟩
          rw [List.map_append, show List.map dEvent [⟨Str.ofString "day" ++ (toString (j : Int) : String), hr, fl⟩] = [PyData.tuple [.str (Str.ofString "day" ++ (toString (j : Int) : String)), .tuple (hr.map PyData.int), .tuple (fl.map dNat)]] from rfl]
          exact ⟨_, _, _, _, _, rfl⟩
        · clear e7
          rw [et]
          rintro σ ⟨es, a4, hel, hA4, hE, b, c, f, g, h, rfl⟩
          clear et
          obtain ⟨v9, h91, e9⟩ := take_exN row a4 t 4 (by omega) (by decide)
          refine wx_ret (by walk_at "ev") ⟨_, rfl, ⟨ks, sl, ps, es, v9⟩, a4 + 1, rfl, rfl, ?_, by omega⟩
          exact ⟨by show 1 ≤ ks.length; omega, by show ks.length ≤ 2; omega, by show 1 ≤ sl.length; omega, by show sl.length ≤ 3; omega, by show ps.length ≤ 3; omega, by show 1 ≤ es.length; omega, by show es.length ≤ 2; omega,
            by show (0 : Int) ≤ v9; omega, by show (v9 : Int) ≤ 3; omega, hK, hS, hP, by rw [show ({ kinds := ks, slots := sl, people := ps, events := es, worth := (v9 : Int) } : Works).slots.length = n from hl]; exact hE⟩
  obtain ⟨o, fs, e, w, at', rfl, rfl, h1⟩ := h
  exact ⟨w, at', e, h1⟩
end Kk11

set_option Elab.async false
set_option linter.all false
set_option maxRecDepth 100000
set_option maxHeartbeats 4000000
namespace Kk11
open PySem PySem.Spec L2 PV KW
local macro_rules | `(tactic| walk_at "pv") => `(tactic| simp only [↓eIf_litI, eBin, eName, eD, eItem, eItemH, itemAt, itemP, peek, pkO, hold, unhold, frz, take, takeR, toD, toD1, frzAll, unholds, aCons, aNil, eCallB, eMut, eMeth, lstB, eTup, eLst, eLstN, nCons, nNil, nIt, isN, eSlice, slD, KW.c_slL, KW.c_slT, eUn, eIfE, tOf, tAndE, tOrE, tNotE, eAndE, eOrE, eNotE, eOf, eChain, eIsI, tyN, eRev2, revD, eLR1, eLR2, intE, rgOut, iSeq, seqOf, eCall0, eCall1, lend, frzPl, isc_none, isc_bool, isc_int, isc_str, isc_list, isc_tuple, isc_l, isc_n, ite_same, tgName, tgTup, tgCons, tgNil, finals, takeE, frzE, retE, getL, putL, wipeE, backE, tvYes, Out.o, Hd.r, tupleD, listD,
  List.getElem?_cons_zero, List.getElem?_cons_succ, List.set_cons_zero, List.set_cons_succ, List.map_cons, List.map_nil, List.replicate, List.cons_append, List.nil_append, List.length_cons, List.length_nil, List.all_cons, List.all_nil, Bool.and_self, Bool.and_true, Bool.true_and, List.length_map, List.length_range, List.getElem?_map, List.getElem?_range, Option.map_some, Int.natCast_nonneg, Int.toNat_natCast, Int.toNat_zero, Int.reduceToNat, Int.reduceLE, Int.zero_add, ite_self, if_true, if_false, ite_self, ite_true, ite_false, Bool.false_eq_true, reduceCtorEq, decide_true, decide_false, c_append, Nat.reduceLeDiff, szl, cl, Nat.reduceAdd,
  kb_NoneType_bool, kb_NoneType_int, kb_NoneType_str, kb_NoneType_list, kb_NoneType_tuple, kb_bool_bool, kb_bool_int, kb_bool_str, kb_bool_list, kb_bool_tuple, kb_int_bool, kb_int_int, kb_int_str, kb_int_list, kb_int_tuple, kb_str_bool, kb_str_int, kb_str_str, kb_str_list, kb_str_tuple, kb_list_bool, kb_list_int, kb_list_str, kb_list_list, kb_list_tuple, kb_tuple_bool, kb_tuple_int, kb_tuple_str, kb_tuple_list, kb_tuple_tuple,
  c_add, c_sub, c_neg, c_eqI, c_neI, c_eqS, c_neS, c_eqB, c_ltI, c_gtI, c_leI, c_geI, isD, isnotD, KW.isn_none, KW.isn_tup, KW.isn_int, KW.isn_state, Bool.not_true, Bool.not_false, c_lenL, c_lenT, KW.c_at, KW.c_atT, KW.c_inNT, KW.c_inNL, KW.c_inST, KW.c_inSL, KW.c_ninNT, KW.c_ninNL, KW.c_ninST, KW.c_ninSL, KW.dPair, KW.dShop, KW.dNat, k_works0, k_works1, k_works2, k_works3, k_works4, k_kind0, k_kind1, k_kind2, k_kind3, k_kind4, k_slot0, k_slot1, k_slot2, k_person0, k_person1, k_event0, k_event1, k_event2, k_state0, k_state1, k_state2, k_tkind, k_tevent, k_sevent, k_skind, k_pl0s, k_pl1s, k_pl0t, k_pl1t, k_pl0h, k_pl1h, k_pl2h, k_pl0g, k_slh, ofS, decide_true, KW.c_eqP, KW.c_neP, KW.c_inP, KW.c_ninP, KW.c_inShop, KW.c_sum, KW.c_int, KW.c_intB, KW.c_abs, KW.c_min2, KW.c_max2, c_mulR, c_div, c_mod, Int.reduceLT, Int.reduceNeg, KW.c_atLast, KW.cut_1, KW.drop1, KW.cut_succ, KW.cut_from, KW.cut_to, KW.ix30, KW.ix31, KW.ix32, *])
local macro_rules | `(tactic| walk_at "ev") => `(tactic| first | (walk_at "pv" <;> rfl) | rfl)
theorem crew_world_ok (row : List Int) (at_ : Nat) (t : Int) (ha : at_ + 10000 < 1000000000) :
    ∃ (w : Works) (at' : Nat), f_u_law_crew_world [dl row at_ t] = some (.p (dWorks w), [dl row at' t]) ∧ 1 ≤ w.slots.length ∧ w.slots.length ≤ 6 ∧ w.people.length ≤ 6 ∧ at' ≤ at_ + 400 := by
  have h : WF f_u_law_crew_world [dl row at_ t] fun o fs => ∃ (w : Works) (at' : Nat), o = .p (dWorks w) ∧ fs = [dl row at' t] ∧ 1 ≤ w.slots.length ∧ w.slots.length ≤ 6 ∧ w.people.length ≤ 6 ∧ at' ≤ at_ + 400 := by
    refine wf_fn rfl ?_
    unfold b_u_law_crew_world
    obtain ⟨w, a1, e1, hv, ha1⟩ := works_ok row at_ t ha
    refine wx_seq (wx_set' (by walk_at "ev") ?_)
    clear e1
    refine wx_seq (wx_set' (by walk_at "ev") ?_)
    have hn1 := hv.ns1
    have hn3 := hv.ns3
    have hne := hv.ne2
    have hhr : Cl (∀ e ∈ w.events, e.hours.length ≤ 3) := fun e he => by
      obtain ⟨i, hi⟩ := hv.emem he
      have := hi.hours
      omega
    clear hv
    obtain ⟨v1, h11, e2⟩ := take_exN row a1 t 4 (by omega) (by decide)
    refine wx_seq (wx_rng (lo := 0) (n := v1) (fun j σ => ∃ (sl : List KW.Slot), 1 ≤ sl.length ∧ sl.length ≤ 6 ∧ ∃ b c d e f, σ = [some (dl row (a1 + 1) t), some (.p (dWorks w)), some (.p (.tuple (sl.map dSlot))), b, c, d, e, f])
      (c_rng0 (k := v1) (by omega) (by walk_at "ev") (by walk_at "ev")) ⟨w.slots, hn1, by omega, _, _, _, _, _, rfl⟩ ?_ ?_)
    · clear e2 hn1 hn3 hhr
      rintro j σ hj ⟨sl, hl1, hl6, b, c, d, e, f, rfl⟩
      have hs0 : sl[0]? = some (sl.getD 0 default) := getD_lt (by omega)
      have hst := c_str8 (k := j) (by omega)
      have hnm := c_pre (z := "x") (k := j) (by decide) (by omega)
      refine ⟨_, by walk_at "ev", ?_⟩
      have hll : (sl.length : Int) ≤ 16777216 := by omega
      refine wx_ifP (p := (sl.length : Int) < 6) (by walk_at "ev") (fun h1 => ?_) (fun _ => wx_nil ⟨sl, hl1, hl6, _, _, _, _, _, rfl⟩)
      have hadd : addD (.tuple (sl.map dSlot)) (.tuple [.tuple [.str (Str.ofString "x" ++ (toString (j : Int) : String)), .str (sl.getD 0 default).kind, .int 0]]) = some (.te (sl.map dSlot ++ [.tuple [.str (Str.ofString "x" ++ (toString (j : Int) : String)), .str (sl.getD 0 default).kind, .int 0]])) := c_addT (by rw [szl]; simp; omega)
      refine wx_set' (by walk_at "ev") ⟨sl ++ [⟨Str.ofString "x" ++ (toString (j : Int) : String), (sl.getD 0 default).kind, 0⟩], by simp, by simp; omega, ?_⟩
      rw [List.map_append]
      exact ⟨_, _, _, _, _, rfl⟩
    · clear e2
      rintro σ ⟨sl, hl1, hl6, b, c, d, e, f, rfl⟩
      have hc2 := lc_pure0 (own := [6]) (t := tgName 6) (f := dEvent) (it := iSeq (eItem (eName 1) (eD (.int 3)))) (e := eTup (aCons (eItem (eName 6) (eD (.int 0))) (aCons (eSlice (eBin addD (eItem (eName 6) (eD (.int 1))) (eTup (aCons (eD (.int 0)) (aCons (eD (.int 0)) (aCons (eD (.int 0)) (aCons (eD (.int 0)) (aCons (eD (.int 0)) aNil))))))) .none (.some (eCallB lenD (aCons (eName 2) aNil)))) (aCons (eItem (eName 6) (eD (.int 2))) aNil))))
        (σ := [some (dl row (a1 + 1) t), some (.p (dWorks w)), some (.p (.tuple (sl.map dSlot))), b, c, d, e, f]) (σ1 := [some (dl row (a1 + 1) t), some (.p (dWorks w)), some (.p (.tuple (sl.map dSlot))), b, c, d, e, f]) (as := w.events)
        (fun e => dEvent ⟨e.name, (e.hours ++ [0, 0, 0, 0, 0]).take sl.length, e.fails⟩) (by walk_at "ev") (fun x hx => by
          have hh := hhr x hx
          have hadd : addD (.tuple (x.hours.map PyData.int)) (.tuple [.int 0, .int 0, .int 0, .int 0, .int 0]) = some (.te ((x.hours ++ [0, 0, 0, 0, 0]).map PyData.int)) := by
            rw [c_addT (by rw [szl]; simp; omega), List.map_append]
            rfl
          have et : ((x.hours ++ [0, 0, 0, 0, 0]).map PyData.int).take sl.length = ((x.hours ++ [0, 0, 0, 0, 0]).take sl.length).map PyData.int := List.map_take.symm
          have hd : dEvent ⟨x.name, (x.hours ++ [0, 0, 0, 0, 0]).take sl.length, x.fails⟩ = .tuple [.str x.name, .tuple (((x.hours ++ [0, 0, 0, 0, 0]).take sl.length).map PyData.int), .tuple (x.fails.map dNat)] := rfl
          rw [hd, ← et]
          clear hd et hhr hx hh
          have hll : (sl.length : Int) ≤ 16777216 := by omega
          generalize (x.hours ++ [0, 0, 0, 0, 0]).map PyData.int = hs at *
          exact ⟨_, rfl, by walk_at "ev", rfl⟩) (by rw [szl]; omega)
      clear hhr
      refine wx_seq (wx_set' (by walk_at "ev") ?_)
      clear hc2
      refine wx_seq (wx_set' (by walk_at "ev") ?_)
      obtain ⟨v4, h41, e4⟩ := take_exN row (a1 + 1) t 7 (by omega) (by decide)
      refine wx_seq (wx_rng (lo := 0) (n := v4) (fun j σ => ∃ (ps : List KW.Person) (a : Nat), ps.length = j ∧ a ≤ a1 + 2 + 6 * j ∧ ∃ b f g, σ = [some (dl row a t), some (.p (dWorks w)), some (.p (.tuple (sl.map dSlot))), b, some (.p (.tuple (w.events.map fun e => dEvent ⟨e.name, (e.hours ++ [0, 0, 0, 0, 0]).take sl.length, e.fails⟩))), some (.l (ps.map dPerson)), f, g])
        (c_rng0 (k := v4) (by omega) (by walk_at "ev") (by walk_at "ev")) ⟨[], a1 + 2, rfl, by omega, _, _, _, rfl⟩ ?_ ?_)
      · clear e4
        rintro j σ hj ⟨ps, a, hpl, hA, b, f, g, rfl⟩
        obtain ⟨cc, e5, hcc⟩ := some_ok row a t sl.length 3 (by omega) (by omega) (by omega)
        simp only [Int.cast_ofNat_Int] at e5
        have hccl := hcc.length_le
        rw [List.length_range] at hccl
        refine ⟨_, by walk_at "ev", ?_⟩
        have hll : (sl.length : Int) ≤ 16777216 := by omega
        have hlc := lc_pure0 (own := [7]) (t := tgName 7) (f := dNat) (e := eItem (eItem (eName 2) (eName 7)) (eD (.int 0))) (it := iSeq (eCall1 0 f_u_law_some (aCons (eName 0) (aCons (eCallB lenD (aCons (eName 2) aNil)) (aCons (eD (.int 3)) aNil)))))
          (σ := [some (dl row a t), some (.p (dWorks w)), some (.p (.tuple (sl.map dSlot))), some (.p (.int (j : Int))), some (.p (.tuple (w.events.map fun e => dEvent ⟨e.name, (e.hours ++ [0, 0, 0, 0, 0]).take sl.length, e.fails⟩))), some (.l (ps.map dPerson)), f, g])
          (σ1 := [some (dl row (a + sl.length) t), some (.p (dWorks w)), some (.p (.tuple (sl.map dSlot))), some (.p (.int (j : Int))), some (.p (.tuple (w.events.map fun e => dEvent ⟨e.name, (e.hours ++ [0, 0, 0, 0, 0]).take sl.length, e.fails⟩))), some (.l (ps.map dPerson)), f, g]) (as := cc) (fun s => .str (sl.getD s default).name)
          (by walk_at "ev") (fun s hs => by
            have hs1 : s < sl.length := by have := hcc.subset hs; rw [List.mem_range] at this; omega
            have hsl : sl[s]? = some (sl.getD s default) := getD_lt hs1
            clear hs1
            exact ⟨_, rfl, by walk_at "ev", rfl⟩) (by rw [szl]; omega)
        clear e5
        have hst := c_str8 (k := j) (by omega)
        have hnm := c_pre (z := "p") (k := j) (by decide) (by omega)
        have hkl : j < 16777216 := by omega
        refine wx_drop (by walk_at "ev") ⟨ps ++ [⟨Str.ofString "p" ++ (toString (j : Int) : String), cc.map fun s => (sl.getD s default).name⟩], a + sl.length, by simp [hpl], by omega, ?_⟩
        rw [List.map_append, show List.map dPerson [⟨Str.ofString "p" ++ (toString (j : Int) : String), cc.map fun s => (sl.getD s default).name⟩] = [PyData.tuple [.str (Str.ofString "p" ++ (toString (j : Int) : String)), .tuple (cc.map fun s => PyData.str (sl.getD s default).name)]] by simp [dPerson, Function.comp_def]]
        exact ⟨_, _, _, rfl⟩
      · clear e4
        rintro σ ⟨ps, a, hpl, hA, b, f, g, rfl⟩
        refine wx_ret (by walk_at "ev") ⟨_, rfl, ⟨w.kinds, sl, ps, w.events.map fun e => ⟨e.name, (e.hours ++ [0, 0, 0, 0, 0]).take sl.length, e.fails⟩, w.worth⟩, a, ?_, rfl, hl1, hl6, by show ps.length ≤ 6; omega, by omega⟩
        unfold dWorks
        simp only [List.map_map]
        rfl
  obtain ⟨o, fs, e, w, at', rfl, rfl, h1⟩ := h
  exact ⟨w, at', e, h1⟩
end Kk11

set_option Elab.async false
set_option linter.all false
set_option maxRecDepth 100000
set_option maxHeartbeats 4000000
namespace Kk11
open PySem PySem.Spec L2 PV KW
local macro_rules | `(tactic| walk_at "pv") => `(tactic| simp only [↓eIf_litI, eBin, eName, eD, eItem, eItemH, itemAt, itemP, peek, pkO, hold, unhold, frz, take, takeR, toD, toD1, frzAll, unholds, aCons, aNil, eCallB, eMut, eMeth, lstB, eTup, eLst, eLstN, nCons, nNil, nIt, isN, eSlice, slD, KW.c_slL, KW.c_slT, eUn, eIfE, tOf, tAndE, tOrE, tNotE, eAndE, eOrE, eNotE, eOf, eChain, eIsI, tyN, eRev2, revD, eLR1, eLR2, intE, rgOut, iSeq, seqOf, eCall0, eCall1, lend, frzPl, isc_none, isc_bool, isc_int, isc_str, isc_list, isc_tuple, isc_l, isc_n, ite_same, tgName, tgTup, tgCons, tgNil, finals, takeE, frzE, retE, getL, putL, wipeE, backE, tvYes, Out.o, Hd.r, tupleD, listD,
  List.getElem?_cons_zero, List.getElem?_cons_succ, List.set_cons_zero, List.set_cons_succ, List.map_cons, List.map_nil, List.replicate, List.cons_append, List.nil_append, List.length_cons, List.length_nil, List.all_cons, List.all_nil, Bool.and_self, Bool.and_true, Bool.true_and, List.length_map, List.length_range, List.getElem?_map, List.getElem?_range, Option.map_some, Int.natCast_nonneg, Int.toNat_natCast, Int.toNat_zero, Int.reduceToNat, Int.reduceLE, Int.zero_add, ite_self, if_true, if_false, ite_self, ite_true, ite_false, Bool.false_eq_true, reduceCtorEq, decide_true, decide_false, c_append, Nat.reduceLeDiff, szl, cl, Nat.reduceAdd,
  kb_NoneType_bool, kb_NoneType_int, kb_NoneType_str, kb_NoneType_list, kb_NoneType_tuple, kb_bool_bool, kb_bool_int, kb_bool_str, kb_bool_list, kb_bool_tuple, kb_int_bool, kb_int_int, kb_int_str, kb_int_list, kb_int_tuple, kb_str_bool, kb_str_int, kb_str_str, kb_str_list, kb_str_tuple, kb_list_bool, kb_list_int, kb_list_str, kb_list_list, kb_list_tuple, kb_tuple_bool, kb_tuple_int, kb_tuple_str, kb_tuple_list, kb_tuple_tuple,
  c_add, c_sub, c_neg, c_eqI, c_neI, c_eqS, c_neS, c_eqB, c_ltI, c_gtI, c_leI, c_geI, isD, isnotD, KW.isn_none, KW.isn_tup, KW.isn_int, KW.isn_state, Bool.not_true, Bool.not_false, c_lenL, c_lenT, KW.c_at, KW.c_atT, KW.c_inNT, KW.c_inNL, KW.c_inST, KW.c_inSL, KW.c_ninNT, KW.c_ninNL, KW.c_ninST, KW.c_ninSL, KW.dPair, KW.dShop, KW.dNat, k_works0, k_works1, k_works2, k_works3, k_works4, k_kind0, k_kind1, k_kind2, k_kind3, k_kind4, k_slot0, k_slot1, k_slot2, k_person0, k_person1, k_event0, k_event1, k_event2, k_state0, k_state1, k_state2, k_tkind, k_tevent, k_sevent, k_skind, k_pl0s, k_pl1s, k_pl0t, k_pl1t, k_pl0h, k_pl1h, k_pl2h, k_pl0g, k_slh, ofS, decide_true, KW.c_eqP, KW.c_neP, KW.c_inP, KW.c_ninP, KW.c_inShop, KW.c_sum, KW.c_int, KW.c_intB, KW.c_abs, KW.c_min2, KW.c_max2, c_mulR, c_div, c_mod, Int.reduceLT, Int.reduceNeg, KW.c_atLast, KW.cut_1, KW.drop1, KW.cut_succ, KW.cut_from, KW.cut_to, KW.ix30, KW.ix31, KW.ix32, *])
local macro_rules | `(tactic| walk_at "ev") => `(tactic| first | (walk_at "pv" <;> rfl) | rfl)
theorem skilled_ok (w : Works) (p s : Nat) (hp : p < w.people.length) (hs : s < w.slots.length) :
    f_u_law_skilled [.p (dWorks w), .p (.int (p : Int)), .p (.int (s : Int))] = some (.p (.bool (skill w p s)), []) := by
  refine eqF (wf_fn rfl ?_)
  unfold b_u_law_skilled
  have hpk : w.people[p]? = some (w.people.getD p ⟨default, []⟩) := getD_lt hp
  have hsk : w.slots[s]? = some (w.slots.getD s default) := getD_lt hs
  exact wx_retV (by walk_at "ev") ⟨_, rfl, rfl, rfl⟩
theorem assignments_ok (w : Works) (hpl : w.people.length ≤ 6) (c : List Nat) (hc : ∀ s ∈ c, s < w.slots.length) (hcl : c.length ≤ 4) :
    ∃ o, (o = .l ((asg w c []).map dC) ∨ o = .p (.list ((asg w c []).map dC))) ∧ f_u_law_assignments [.p (dWorks w), .p (.tuple (c.map dNat))] = some (o, []) := by
  have h : WF f_u_law_assignments [.p (dWorks w), .p (.tuple (c.map dNat))] fun o fs => (o = .l ((asg w c []).map dC) ∨ o = .p (.list ((asg w c []).map dC))) ∧ fs = [] := by
    refine wf_fn rfl ?_
    unfold b_u_law_assignments
    refine wx_seq (wx_set' (by walk_at "ev") ?_)
    refine wx_seq (wx_map (f := dNat) (as := c) (fun done σ => ∃ o, (o = .l ((done.foldl (stepA w) [[]]).map dC) ∨ o = .p (.list ((done.foldl (stepA w) [[]]).map dC))) ∧ ∃ a b d e, σ = [some (.p (dWorks w)), some (.p (.tuple (c.map dNat))), some o, a, b, d, e])
      (by walk_at "ev") ⟨_, .inl rfl, _, _, _, _, rfl⟩ ?_ ?_)
    · rintro done s rest σ e0 ⟨o, ho, a, b, d, e, rfl⟩
      have hs : s < w.slots.length := hc s (by rw [← e0]; simp)
      have hdl : done.length ≤ 3 := by
        have := congrArg List.length e0
        simp at this
        omega
      have hL : (done.foldl (stepA w) [[]]).length ≤ 216 := by
        rw [asg_all]
        refine Nat.le_trans (asg_len w done []) ?_
        refine Nat.le_trans (Nat.pow_le_pow_left hpl _) ?_
        exact Nat.le_trans (Nat.pow_le_pow_right (by omega) hdl) (by omega)
      have hLm : ∀ ps ∈ done.foldl (stepA w) [[]], ps.length ≤ 3 := fun ps hps => by
        rw [asg_all, asg_is] at hps
        rw [sk2_len hps.1]
        exact hdl
      have efold : (done ++ [s]).foldl (stepA w) [[]] = stepA w (done.foldl (stepA w) [[]]) s := by rw [List.foldl_append]; rfl
      rw [efold]
      clear efold e0
      generalize done.foldl (stepA w) [[]] = L at *
      refine ⟨_, rfl, ?_⟩
      refine wx_seq (wx_set' (by walk_at "ev") ?_)
      have eS : iSeq (eName 2) [some (.p (dWorks w)), some (.p (.tuple (c.map dNat))), some o, some (.p (.int (s : Int))), some (.l []), d, e] = some (L.map dC, [some (.p (dWorks w)), some (.p (.tuple (c.map dNat))), some (.p (.list (L.map dC))), some (.p (.int (s : Int))), some (.l []), d, e]) := by
        rcases ho with rfl | rfl <;> rfl
      clear ho
      refine wx_seq (wx_map (f := dC) (as := L) (fun gone σ => ∃ d e, σ = [some (.p (dWorks w)), some (.p (.tuple (c.map dNat))), some (.p (.list (L.map dC))), some (.p (.int (s : Int))), some (.l ((stepA w gone s).map dC)), d, e])
        eS ⟨_, _, rfl⟩ ?_ ?_)
      · clear eS
        rintro gone ps rest σ e0 ⟨d, e, rfl⟩
        have hps := hLm ps (by rw [← e0]; simp)
        have hgl : gone.length ≤ 216 := by
          have := congrArg List.length e0
          simp at this
          omega
        have hst : (stepA w gone s).length ≤ 6 * gone.length := by
          clear hgl e0
          unfold stepA
          induction gone with
          | nil => simp
          | cons x xs ih =>
            rw [List.flatMap_cons, List.length_append, List.length_map, List.length_cons]
            have : (nxt w x s).length ≤ w.people.length := by
              unfold nxt
              exact Nat.le_trans (List.length_filter_le _ _) (by rw [List.length_range]; exact Nat.le_refl _)
            omega
        have esn : stepA w (gone ++ [ps]) s = stepA w gone s ++ (nxt w ps s).map fun p => ps ++ [p] := by unfold stepA; rw [List.flatMap_append]; simp
        rw [esn]
        clear esn e0 hLm hL
        have hst2 : (stepA w gone s).length ≤ 1296 := by omega
        clear hst hgl
        generalize stepA w gone s = G at *
        refine ⟨_, rfl, ?_⟩
        rw [show dC ps = .tuple (ps.map dNat) from rfl]
        refine wx_rng (lo := 0) (n := w.people.length) (fun k σ => ∃ e, σ = [some (.p (dWorks w)), some (.p (.tuple (c.map dNat))), some (.p (.list (L.map dC))), some (.p (.int (s : Int))), some (.l ((G ++ ((List.range k).filter fun p => decide (p ∉ ps ∧ skill w p s = true)).map fun p => ps ++ [p]).map dC)), some (.p (.tuple (ps.map dNat))), e])
          (c_rng0 (k := w.people.length) (by omega) (by walk_at "ev") (by walk_at "ev")) ⟨_, by rw [List.range_zero, List.filter_nil, List.map_nil, List.append_nil]⟩ ?_ ?_
        · rintro k σ hk ⟨e, rfl⟩
          have hsk := skilled_ok w k s hk hs
          have hadd : addD (.tuple (ps.map dNat)) (.tuple [.int (k : Int)]) = some (.te (ps.map dNat ++ [.int (k : Int)])) := c_addT (by rw [szl]; simp; omega)
          have hfl := List.length_filter_le (fun p => decide (p ∉ ps ∧ skill w p s = true)) (List.range k)
          rw [List.length_range] at hfl
          have hap := c_append (ds := (G ++ ((List.range k).filter fun p => decide (p ∉ ps ∧ skill w p s = true)).map fun p => ps ++ [p]).map dC) (d := .tuple (ps.map dNat ++ [.int (k : Int)])) (by rw [szl]; simp only [List.length_map, List.length_append]; omega)
          clear hfl
          refine ⟨_, by walk_at "ev", ?_⟩
          rw [List.range_succ, List.filter_append, List.map_append (l₂ := List.filter _ [k]), ← List.append_assoc, List.map_append (l₂ := List.map _ (List.filter _ [k]))]
          generalize (G ++ ((List.range k).filter fun p => decide (p ∉ ps ∧ skill w p s = true)).map fun p => ps ++ [p]).map dC = G' at *
          refine wx_if (c := (!decide (k ∈ ps)) && skill w k s) (tand_val (by walk_at "ev") (fun _ => by walk_at "ev")) (fun h2 => ?_) (fun h2 => ?_)
          · have h3 : k ∉ ps ∧ skill w k s = true := by simpa using h2
            have e1 : List.filter (fun p => decide (p ∉ ps ∧ skill w p s = true)) [k] = [k] := by simp [h3]
            rw [e1]
            have e2 : List.map dC (List.map (fun p => ps ++ [p]) [k]) = [.tuple (ps.map dNat ++ [.int (k : Int)])] := by
              show [PyData.tuple ((ps ++ [k]).map dNat)] = _
              rw [List.map_append]
              rfl
            rw [e2]
            clear e1 e2 h2 h3
            exact wx_drop (by walk_at "ev") ⟨_, rfl⟩
          · have h3 : ¬ (k ∉ ps ∧ skill w k s = true) := fun q => by rw [q.2, Bool.and_true] at h2; exact q.1 (by simpa using h2)
            have e1 : List.filter (fun p => decide (p ∉ ps ∧ skill w p s = true)) [k] = [] := by
              rw [List.filter_cons, decide_eq_false h3]; rfl
            rw [e1, List.map_nil, List.map_nil, List.append_nil]
            exact wx_nil ⟨_, rfl⟩
        · rintro σ ⟨e, rfl⟩
          exact ⟨_, _, rfl⟩
      · rintro σ ⟨d, e, rfl⟩
        exact wx_set' (by walk_at "ev") ⟨_, .inr rfl, _, _, _, _, rfl⟩
    · rintro σ ⟨o, ho, a, b, d, e, rfl⟩
      rw [asg_all] at ho
      rcases ho with rfl | rfl
      · exact wx_ret (by walk_at "ev") ⟨_, rfl, .inl rfl, rfl⟩
      · exact wx_ret (by walk_at "ev") ⟨_, rfl, .inr rfl, rfl⟩
  obtain ⟨o, fs, e, h1, rfl⟩ := h
  exact ⟨o, h1, e⟩
end Kk11

set_option Elab.async false
set_option linter.all false
set_option maxRecDepth 100000
set_option maxHeartbeats 4000000
namespace Kk11
open PySem PySem.Spec L2 PV KW
local macro_rules | `(tactic| walk_at "pv") => `(tactic| simp only [↓eIf_litI, eBin, eName, eD, eItem, eItemH, itemAt, itemP, peek, pkO, hold, unhold, frz, take, takeR, toD, toD1, frzAll, unholds, aCons, aNil, eCallB, eMut, eMeth, lstB, eTup, eLst, eLstN, nCons, nNil, nIt, isN, eSlice, slD, KW.c_slL, KW.c_slT, eUn, eIfE, tOf, tAndE, tOrE, tNotE, eAndE, eOrE, eNotE, eOf, eChain, eIsI, tyN, eRev2, revD, eLR1, eLR2, intE, rgOut, iSeq, seqOf, eCall0, eCall1, lend, frzPl, isc_none, isc_bool, isc_int, isc_str, isc_list, isc_tuple, isc_l, isc_n, ite_same, tgName, tgTup, tgCons, tgNil, finals, takeE, frzE, retE, getL, putL, wipeE, backE, tvYes, Out.o, Hd.r, tupleD, listD,
  List.getElem?_cons_zero, List.getElem?_cons_succ, List.set_cons_zero, List.set_cons_succ, List.map_cons, List.map_nil, List.replicate, List.cons_append, List.nil_append, List.length_cons, List.length_nil, List.all_cons, List.all_nil, Bool.and_self, Bool.and_true, Bool.true_and, List.length_map, List.length_range, List.getElem?_map, List.getElem?_range, Option.map_some, Int.natCast_nonneg, Int.toNat_natCast, Int.toNat_zero, Int.reduceToNat, Int.reduceLE, Int.zero_add, ite_self, if_true, if_false, ite_self, ite_true, ite_false, Bool.false_eq_true, reduceCtorEq, decide_true, decide_false, c_append, Nat.reduceLeDiff, szl, cl, Nat.reduceAdd,
  kb_NoneType_bool, kb_NoneType_int, kb_NoneType_str, kb_NoneType_list, kb_NoneType_tuple, kb_bool_bool, kb_bool_int, kb_bool_str, kb_bool_list, kb_bool_tuple, kb_int_bool, kb_int_int, kb_int_str, kb_int_list, kb_int_tuple, kb_str_bool, kb_str_int, kb_str_str, kb_str_list, kb_str_tuple, kb_list_bool, kb_list_int, kb_list_str, kb_list_list, kb_list_tuple, kb_tuple_bool, kb_tuple_int, kb_tuple_str, kb_tuple_list, kb_tuple_tuple,
  c_add, c_sub, c_neg, c_eqI, c_neI, c_eqS, c_neS, c_eqB, c_ltI, c_gtI, c_leI, c_geI, isD, isnotD, KW.isn_none, KW.isn_tup, KW.isn_int, KW.isn_state, Bool.not_true, Bool.not_false, c_lenL, c_lenT, KW.c_at, KW.c_atT, KW.c_inNT, KW.c_inNL, KW.c_inST, KW.c_inSL, KW.c_ninNT, KW.c_ninNL, KW.c_ninST, KW.c_ninSL, KW.dPair, KW.dShop, KW.dNat, k_works0, k_works1, k_works2, k_works3, k_works4, k_kind0, k_kind1, k_kind2, k_kind3, k_kind4, k_slot0, k_slot1, k_slot2, k_person0, k_person1, k_event0, k_event1, k_event2, k_state0, k_state1, k_state2, k_tkind, k_tevent, k_sevent, k_skind, k_pl0s, k_pl1s, k_pl0t, k_pl1t, k_pl0h, k_pl1h, k_pl2h, k_pl0g, k_slh, ofS, decide_true, KW.c_eqP, KW.c_neP, KW.c_inP, KW.c_ninP, KW.c_inShop, KW.c_sum, KW.c_int, KW.c_intB, KW.c_abs, KW.c_min2, KW.c_max2, c_mulR, c_div, c_mod, Int.reduceLT, Int.reduceNeg, KW.c_atLast, KW.cut_1, KW.drop1, KW.cut_succ, KW.cut_from, KW.cut_to, KW.ix30, KW.ix31, KW.ix32, *])
local macro_rules | `(tactic| walk_at "ev") => `(tactic| first | (walk_at "pv" <;> rfl) | rfl)
theorem seqLTt (ds : List D) : seqLT (.tuple ds) = some ds := rfl
theorem c_cmbT {as : Av} {cs : List Hd} {σ σ1 σ2 : Sg} {ds : List D} {k : Nat} (e1 : as σ = some (cs, σ1)) (e2 : frzAll cs σ1 = some ([.tuple ds, .int (k : Int)], σ2)) (hk : k ≤ 1048576) : iCmb as σ = some (cmbD k ds, σ2) := by
  unfold iCmb
  simp only [e1, e2, seqLT]
  rw [cpos ⟨by omega, by omega⟩, Int.toNat_natCast]
theorem cmb_nats (k : Nat) (c : List Nat) : cmbD k (c.map dNat) = (CB.combs k c).map dC := by
  rw [cmbD, CB.combs_map, List.map_map]
  rfl
theorem any_pos (l : List Nat) (p : Nat → Bool) : decide (((l.filter p).length : Int) > 0) = l.any p := by
  rw [Bool.eq_iff_iff, decide_eq_true_eq, List.any_eq_true]
  constructor
  · intro h
    obtain ⟨x, hx⟩ := List.exists_mem_of_length_pos (l := l.filter p) (by omega)
    exact ⟨x, List.mem_filter.mp hx⟩
  · rintro ⟨x, h1, h2⟩
    have := List.length_pos_of_mem (List.mem_filter.mpr ⟨h1, h2⟩)
    omega
theorem nbr_snoc (w : Works) (A : List Nat) (k : Nat) : nbr (skill w) (List.range (k + 1)) A = nbr (skill w) (List.range k) A ++ if A.any (skill w k) = true then [k] else [] := by
  unfold nbr
  rw [List.range_succ, List.filter_append]
  congr 1
  by_cases h : A.any (skill w k) = true
  · rw [if_pos h, List.filter_cons, if_pos h]; rfl
  · rw [if_neg h, List.filter_cons, if_neg h]; rfl
theorem nbr_len (w : Works) (A : List Nat) (k : Nat) : (nbr (skill w) (List.range k) A).length ≤ k := by
  unfold nbr
  refine Nat.le_trans (List.length_filter_le _ _) ?_
  rw [List.length_range]
  exact Nat.le_refl _
theorem people_for_ok (w : Works) (hpl : w.people.length ≤ 1000) (A : List Nat) (hA : ∀ s ∈ A, s < w.slots.length) (hAl : A.length ≤ 1000) :
    f_people_for [.p (dWorks w), .p (.tuple (A.map dNat))] = some (.l ((nbrW w A).map dNat), []) := by
  refine eqF (wf_fn rfl ?_)
  unfold b_people_for
  refine wx_seq (wx_set' (by walk_at "ev") ?_)
  refine wx_seq (wx_rng (lo := 0) (n := w.people.length) (fun k σ => ∃ a b, σ = [some (.p (dWorks w)), some (.p (.tuple (A.map dNat))), some (.l ((nbr (skill w) (List.range k) A).map dNat)), a, b])
    (c_rng0 (k := w.people.length) (by omega) (by walk_at "ev") (by walk_at "ev")) ⟨_, _, rfl⟩ ?_ ?_)
  · rintro k σ hk ⟨a, b, rfl⟩
    refine ⟨_, by walk_at "ev", ?_⟩
    have eL := lc_pure (own := [4]) (it := iSeq (eName 1)) (t := tgName 4) (c := tOf (eCall0 f_has_skill (aCons (eName 0) (aCons (eName 3) (aCons (eName 4) aNil))))) (e := eName 4) (σ := [some (.p (dWorks w)), some (.p (.tuple (A.map dNat))), some (.l ((nbr (skill w) (List.range k) A).map dNat)), some (.p (.int (k : Int))), b]) (f := dNat) (as := A) (fun s => skill w k s) dNat (by walk_at "ev") (fun s hs => by
      have hsk := has_skill_ok w k s hk (hA s hs)
      exact ⟨_, rfl, by walk_at "ev", fun _ => by walk_at "ev", rfl⟩) (by rw [szl]; omega)
    have hp := any_pos A (skill w k)
    have hfl : ((A.filter fun s => skill w k s).length : Int) ≤ 16777216 := by
      have := List.length_filter_le (fun s => skill w k s) A
      omega
    have hnl := nbr_len w A k
    rw [nbr_snoc]
    generalize nbr (skill w) (List.range k) A = G at *
    have hap := c_append (ds := G.map dNat) (d := .int (k : Int)) (by rw [szl, List.length_map]; omega)
    clear hnl
    refine wx_if (c := decide (((A.filter fun s => skill w k s).length : Int) > 0)) (by walk_at "ev") (fun h => ?_) (fun h => ?_)
    · rw [hp] at h
      rw [if_pos h, List.map_append]
      clear h hp hfl eL
      exact wx_drop (by walk_at "ev") ⟨_, _, rfl⟩
    · rw [hp] at h
      rw [h, if_neg Bool.false_ne_true, List.append_nil]
      exact wx_nil ⟨_, _, rfl⟩
  · rintro σ ⟨a, b, rfl⟩
    exact wx_ret (by walk_at "ev") ⟨_, rfl, rfl, rfl⟩
/-- the slots have too few people -/
def fewB (w : Works) (A : List Nat) : Bool := decide (0 < A.length) && decide ((nbrW w A).length < A.length)
theorem fewB_eq (w : Works) (A : List Nat) : fewB w A = (decide ((A.length : Int) > 0) && decide (((nbrW w A).length : Int) < (A.length : Int))) := by
  unfold fewB
  congr 1
  · exact decide_eq_decide.mpr (by omega)
  · exact decide_eq_decide.mpr (by omega)
theorem too_few_ok (w : Works) (hpl : w.people.length ≤ 1000) (A : List Nat) (hA : ∀ s ∈ A, s < w.slots.length) (hAl : A.length ≤ 1000) :
    f_u_law_too_few [.p (dWorks w), .p (.tuple (A.map dNat))] = some (.p (.bool (fewB w A)), []) := by
  refine eqF (wf_fn rfl ?_)
  unfold b_u_law_too_few
  rw [fewB_eq]
  refine wx_seq (wx_set' (by walk_at "ev") ?_)
  refine wx_seq (wx_rng (lo := 0) (n := w.people.length) (fun k σ => ∃ a b, σ = [some (.p (dWorks w)), some (.p (.tuple (A.map dNat))), some (.l ((nbr (skill w) (List.range k) A).map dNat)), a, b])
    (c_rng0 (k := w.people.length) (by omega) (by walk_at "ev") (by walk_at "ev")) ⟨_, _, rfl⟩ ?_ ?_)
  · rintro k σ hk ⟨a, b, rfl⟩
    refine ⟨_, by walk_at "ev", ?_⟩
    have eL := lc_pure (own := [4]) (it := iSeq (eName 1)) (t := tgName 4) (c := tOf (eCall0 f_u_law_skilled (aCons (eName 0) (aCons (eName 3) (aCons (eName 4) aNil))))) (e := eName 4) (σ := [some (.p (dWorks w)), some (.p (.tuple (A.map dNat))), some (.l ((nbr (skill w) (List.range k) A).map dNat)), some (.p (.int (k : Int))), b]) (f := dNat) (as := A) (fun s => skill w k s) dNat (by walk_at "ev") (fun s hs => by
      have hsk := skilled_ok w k s hk (hA s hs)
      exact ⟨_, rfl, by walk_at "ev", fun _ => by walk_at "ev", rfl⟩) (by rw [szl]; omega)
    have hp := any_pos A (skill w k)
    have hfl : ((A.filter fun s => skill w k s).length : Int) ≤ 16777216 := by
      have := List.length_filter_le (fun s => skill w k s) A
      omega
    have hnl := nbr_len w A k
    rw [nbr_snoc]
    generalize nbr (skill w) (List.range k) A = G at *
    have hap := c_append (ds := G.map dNat) (d := .int (k : Int)) (by rw [szl, List.length_map]; omega)
    clear hnl
    refine wx_if (c := decide (((A.filter fun s => skill w k s).length : Int) > 0)) (by walk_at "ev") (fun h => ?_) (fun h => ?_)
    · rw [hp] at h
      rw [if_pos h, List.map_append]
      clear h hp hfl eL
      exact wx_drop (by walk_at "ev") ⟨_, _, rfl⟩
    · rw [hp] at h
      rw [h, if_neg Bool.false_ne_true, List.append_nil]
      exact wx_nil ⟨_, _, rfl⟩
  · rintro σ ⟨a, b, rfl⟩
    have hnl := nbr_len w A w.people.length
    have hl1 : (A.length : Int) ≤ 16777216 := by omega
    unfold nbrW
    generalize nbr (skill w) (List.range w.people.length) A = G at *
    have hl2 : (G.length : Int) ≤ 16777216 := by omega
    clear hnl
    exact wx_retV (and_val (by walk_at "ev") (fun _ => by walk_at "ev")) ⟨_, rfl, rfl, rfl⟩
/-- slots of the choice, ascending -/
def subA (c : List Nat) : Int → List Nat → Bool
  | _, [] => true
  | b, s :: r => (!(decide ((s : Int) ≤ b) || !decide (s ∈ c))) && subA c s r
theorem subA_iff {c : List Nat} : ∀ {l : List Nat} {b : Int}, subA c b l = true ↔ (∀ s ∈ l, b < (s : Int) ∧ s ∈ c) ∧ l.Pairwise (· < ·)
  | [], b => by simp [subA]
  | s :: r, b => by
    rw [subA, Bool.and_eq_true, subA_iff, List.pairwise_cons]
    simp only [Bool.not_eq_true', Bool.or_eq_false_iff, decide_eq_false_iff_not, Bool.not_eq_false', decide_eq_true_eq]
    constructor
    · rintro ⟨⟨h1, h2⟩, h3, h4⟩
      refine ⟨fun x hx => ?_, fun x hx => by have := (h3 x hx).1; omega, h4⟩
      rcases List.mem_cons.mp hx with rfl | hx
      · exact ⟨by omega, h2⟩
      · have := h3 x hx
        exact ⟨by omega, this.2⟩
    · rintro ⟨h1, h2, h3⟩
      have := h1 s (by simp)
      exact ⟨⟨by omega, this.2⟩, fun x hx => ⟨by have := h2 x hx; omega, (h1 x (by simp [hx])).2⟩, h3⟩
theorem shows_unmanned_ok (w : Works) (hpl : w.people.length ≤ 1000) (c : List Nat) (hc : ∀ s ∈ c, s < w.slots.length) (l : List Nat) (hl : l.length ≤ 1000) :
    f_shows_unmanned [.p (dWorks w), .p (.tuple (c.map dNat)), .p (.tuple (l.map dNat))] = some (.p (.bool (subA c (-1) l && fewB w l)), []) := by
  refine eqF (wf_fn rfl ?_)
  unfold b_shows_unmanned
  refine wx_seq (wx_set' (by walk_at "ev") ?_)
  refine wx_seq (wx_map (f := dNat) (as := l) (fun done σ => ∃ b : Int, (∀ rest, done ++ rest = l → subA c (-1) l = subA c b rest) ∧ ∃ e, σ = [some (.p (dWorks w)), some (.p (.tuple (c.map dNat))), some (.p (.tuple (l.map dNat))), some (.p (.int b)), e])
    (by walk_at "ev") ⟨-1, fun rest e => by rw [← e]; rfl, _, rfl⟩ ?_ ?_)
  · rintro done s rest σ e0 ⟨b, hb, e, rfl⟩
    have hb1 := hb (s :: rest) e0
    refine ⟨_, rfl, ?_⟩
    rw [show dNat s = .int (s : Int) from rfl]
    have hb2 : Cl (∀ rest', (done ++ [s]) ++ rest' = l → rest' = rest) := fun r' e' => by
      rw [← e0, List.append_assoc] at e'
      have := List.append_cancel_left e'
      simpa using this
    clear hb
    refine wx_seq (wx_if (c := decide ((s : Int) ≤ b) || !decide (s ∈ c)) (tor_val (by walk_at "ev") (fun _ => by walk_at "ev")) (fun h => ?_) (fun h => wx_nil ?_))
    · have : subA c (-1) l = false := by rw [hb1, subA, h]; rfl
      rw [this]
      exact wx_retV (by walk_at "ev") ⟨_, rfl, rfl, rfl⟩
    · have h1 : subA c (-1) l = subA c s rest := by rw [hb1, subA, h]; rfl
      exact wx_set' (by walk_at "ev") ⟨(s : Int), fun r' e' => by rw [h1, hb2 r' e'], _, rfl⟩
  · rintro σ ⟨b, hb, e, rfl⟩
    have h1 := hb [] (by simp)
    rw [h1, subA, Bool.true_and, fewB_eq]
    have hS : subA c (-1) l = true := h1
    have hA : ∀ s ∈ l, s < w.slots.length := fun s hs => hc s ((subA_iff.mp hS).1 s hs).2
    have hp := people_for_ok w hpl l hA (by omega)
    have hl1 : (l.length : Int) ≤ 16777216 := by omega
    have hnl := nbr_len w l w.people.length
    have hl2 : ((nbrW w l).length : Int) ≤ 16777216 := by unfold nbrW; omega
    clear hnl h1 hb hS
    exact wx_retV (and_val (by walk_at "ev") (fun _ => by walk_at "ev")) ⟨_, rfl, rfl, rfl⟩
theorem crew_paper_ok (w : Works) (hpl : w.people.length ≤ 1000) (c : List Nat) (hc : ∀ s ∈ c, s < w.slots.length) (hcl : c.length ≤ 10) :
    ∃ r : Option (List Nat), f_crew_paper [.p (dWorks w), .p (.tuple (c.map dNat))] = some (.p (dOpt r), []) ∧ (r = none → ∀ A, A.Sublist c → A.length ≤ (nbrW w A).length) ∧ ∀ A, r = some A → A.Sublist c ∧ fewB w A = true := by
  have h : WF f_crew_paper [.p (dWorks w), .p (.tuple (c.map dNat))] fun o fs => ∃ r : Option (List Nat), o = .p (dOpt r) ∧ fs = [] ∧ (r = none → ∀ A, A.Sublist c → A.length ≤ (nbrW w A).length) ∧ ∀ A, r = some A → A.Sublist c ∧ fewB w A = true := by
    refine wf_fn rfl ?_
    unfold b_crew_paper
    have e0 := c_rng2 (as := aCons (eD (.int 1)) (aCons (eBin addD (eCallB lenD (aCons (eName 1) aNil)) (eD (.int 1))) aNil)) (i := 1) (j := (c.length : Int) + 1) (by omega) (by omega) (σ := [some (.p (dWorks w)), some (.p (.tuple (c.map dNat))), none, none]) (by
      have hl : (c.length : Int) ≤ 16777216 := by omega
      walk_at "ev") (by walk_at "ev")
    have et : ((c.length : Int) + 1 - 1).toNat = c.length := by omega
    rw [et] at e0
    refine wx_seq (wx_rng (lo := 1) (n := c.length) (fun k σ => (∀ A, A.Sublist c → A.length ≤ k → A.length ≤ (nbrW w A).length) ∧ ∃ a b, σ = [some (.p (dWorks w)), some (.p (.tuple (c.map dNat))), a, b]) e0 ⟨fun A _ h => by omega, _, _, rfl⟩ ?_ ?_)
    · clear e0 et
      rintro k σ hk ⟨hno, a, b, rfl⟩
      have hno : Cl (∀ A, A.Sublist c → A.length ≤ k → A.length ≤ (nbrW w A).length) := hno
      have ec : iCmb (aCons (eName 1) (aCons (eName 2) aNil)) [some (.p (dWorks w)), some (.p (.tuple (c.map dNat))), some (.p (.int (1 + (k : Int)))), b] = some (cmbD (k + 1) (c.map dNat), [some (.p (dWorks w)), some (.p (.tuple (c.map dNat))), some (.p (.int (1 + (k : Int)))), b]) := by
        have e1 : (1 + (k : Int)) = ((k + 1 : Nat) : Int) := by omega
        rw [e1]
        exact c_cmbT (cs := [.d (.tuple (c.map dNat)), .d (.int ((k + 1 : Nat) : Int))]) (by rfl) (by rfl) (by omega)
      rw [cmb_nats] at ec
      refine ⟨_, rfl, ?_⟩
      refine wx_map (f := dC) (as := CB.combs (k + 1) c) (fun done σ => (∀ A ∈ done, A.length ≤ (nbrW w A).length) ∧ ∃ b, σ = [some (.p (dWorks w)), some (.p (.tuple (c.map dNat))), some (.p (.int (1 + (k : Int)))), b]) ec ⟨by simp, _, rfl⟩ ?_ ?_
      · clear ec
        rintro done A rest σ e1 ⟨hd, b, rfl⟩
        have hd : Cl (∀ A ∈ done, A.length ≤ (nbrW w A).length) := hd
        obtain ⟨hAs, hAl⟩ := (CB.combs_sub (k + 1) c A).mp (by rw [← e1]; simp)
        clear e1
        have hAm : ∀ s ∈ A, s < w.slots.length := fun s hs => hc s (hAs.subset hs)
        have hp := people_for_ok w hpl A hAm (by omega)
        have hnl := nbr_len w A w.people.length
        have hl2 : ((nbrW w A).length : Int) ≤ 16777216 := by unfold nbrW; omega
        have hAl : Cl (A.length = k + 1) := hAl
        clear hnl hAm
        refine ⟨_, rfl, ?_⟩
        rw [show dC A = .tuple (A.map dNat) from rfl]
        refine wx_ifP (p := ((nbrW w A).length : Int) < 1 + (k : Int)) (by walk_at "ev") (fun h => ?_) (fun h => wx_nil ⟨?_, _, rfl⟩)
        · have hAl : A.length = k + 1 := hAl
          refine wx_retV (by walk_at "ev") ⟨_, rfl, some A, rfl, rfl, fun q => (by cases q), fun B q => ?_⟩
          cases q
          refine ⟨hAs, ?_⟩
          unfold fewB
          rw [decide_eq_true (show 0 < A.length by omega), decide_eq_true (show (nbrW w A).length < A.length by omega)]
          rfl
        · intro B hB
          rcases List.mem_append.mp hB with hB | hB
          · exact hd B hB
          · rw [List.mem_singleton.mp hB]
            have hAl : A.length = k + 1 := hAl
            omega
      · rintro σ ⟨hd, b, rfl⟩
        refine ⟨fun A hA hAl => ?_, _, _, rfl⟩
        by_cases e : A.length = k + 1
        · exact hd A ((CB.combs_sub (k + 1) c A).mpr ⟨hA, e⟩)
        · exact hno A hA (by omega)
    · clear e0 et
      rintro σ ⟨hno, a, b, rfl⟩
      exact wx_retV (by walk_at "ev") ⟨_, rfl, none, rfl, rfl, fun _ A hA => hno A hA hA.length_le, fun A q => (by cases q)⟩
  obtain ⟨o, fs, e, r, rfl, rfl, h1, h2⟩ := h
  exact ⟨r, e, h1, h2⟩
end Kk11

set_option Elab.async false
set_option linter.all false
set_option maxRecDepth 100000
set_option maxHeartbeats 4000000
namespace Kk11
open PySem PySem.Spec L2 PV KW
local macro_rules | `(tactic| walk_at "pv") => `(tactic| simp only [↓eIf_litI, eBin, eName, eD, eItem, eItemH, itemAt, itemP, peek, pkO, hold, unhold, frz, take, takeR, toD, toD1, frzAll, unholds, aCons, aNil, eCallB, eMut, eMeth, lstB, eTup, eLst, eLstN, nCons, nNil, nIt, isN, eSlice, slD, KW.c_slL, KW.c_slT, eUn, eIfE, tOf, tAndE, tOrE, tNotE, eAndE, eOrE, eNotE, eOf, eChain, eIsI, tyN, eRev2, revD, eLR1, eLR2, intE, rgOut, iSeq, seqOf, eCall0, eCall1, lend, frzPl, isc_none, isc_bool, isc_int, isc_str, isc_list, isc_tuple, isc_l, isc_n, ite_same, tgName, tgTup, tgCons, tgNil, finals, takeE, frzE, retE, getL, putL, wipeE, backE, tvYes, Out.o, Hd.r, tupleD, listD,
  List.getElem?_cons_zero, List.getElem?_cons_succ, List.set_cons_zero, List.set_cons_succ, List.map_cons, List.map_nil, List.replicate, List.cons_append, List.nil_append, List.length_cons, List.length_nil, List.all_cons, List.all_nil, Bool.and_self, Bool.and_true, Bool.true_and, List.length_map, List.length_range, List.getElem?_map, List.getElem?_range, Option.map_some, Int.natCast_nonneg, Int.toNat_natCast, Int.toNat_zero, Int.reduceToNat, Int.reduceLE, Int.zero_add, ite_self, if_true, if_false, ite_self, ite_true, ite_false, Bool.false_eq_true, reduceCtorEq, decide_true, decide_false, c_append, Nat.reduceLeDiff, szl, cl, Nat.reduceAdd,
  kb_NoneType_bool, kb_NoneType_int, kb_NoneType_str, kb_NoneType_list, kb_NoneType_tuple, kb_bool_bool, kb_bool_int, kb_bool_str, kb_bool_list, kb_bool_tuple, kb_int_bool, kb_int_int, kb_int_str, kb_int_list, kb_int_tuple, kb_str_bool, kb_str_int, kb_str_str, kb_str_list, kb_str_tuple, kb_list_bool, kb_list_int, kb_list_str, kb_list_list, kb_list_tuple, kb_tuple_bool, kb_tuple_int, kb_tuple_str, kb_tuple_list, kb_tuple_tuple,
  c_add, c_sub, c_neg, c_eqI, c_neI, c_eqS, c_neS, c_eqB, c_ltI, c_gtI, c_leI, c_geI, isD, isnotD, KW.isn_none, KW.isn_tup, KW.isn_int, KW.isn_state, Bool.not_true, Bool.not_false, c_lenL, c_lenT, KW.c_at, KW.c_atT, KW.c_inNT, KW.c_inNL, KW.c_inST, KW.c_inSL, KW.c_ninNT, KW.c_ninNL, KW.c_ninST, KW.c_ninSL, KW.dPair, KW.dShop, KW.dNat, k_works0, k_works1, k_works2, k_works3, k_works4, k_kind0, k_kind1, k_kind2, k_kind3, k_kind4, k_slot0, k_slot1, k_slot2, k_person0, k_person1, k_event0, k_event1, k_event2, k_state0, k_state1, k_state2, k_tkind, k_tevent, k_sevent, k_skind, k_pl0s, k_pl1s, k_pl0t, k_pl1t, k_pl0h, k_pl1h, k_pl2h, k_pl0g, k_slh, ofS, decide_true, KW.c_eqP, KW.c_neP, KW.c_inP, KW.c_ninP, KW.c_inShop, KW.c_sum, KW.c_int, KW.c_intB, KW.c_abs, KW.c_min2, KW.c_max2, c_mulR, c_div, c_mod, Int.reduceLT, Int.reduceNeg, KW.c_atLast, KW.cut_1, KW.drop1, KW.cut_succ, KW.cut_from, KW.cut_to, KW.ix30, KW.ix31, KW.ix32, *])
local macro_rules | `(tactic| walk_at "ev") => `(tactic| first | (walk_at "pv" <;> rfl) | rfl)
theorem subsets_ok (n : Nat) (hn6 : n ≤ 6) : f_u_law_subsets [.p (.int (n : Int))] = some (.l ((allC n).map dC), []) := by
  have h : WF f_u_law_subsets [.p (.int (n : Int))] fun o fs => o = .l ((allC n).map dC) ∧ fs = [] := by
    refine wf_fn rfl ?_
    unfold b_u_law_subsets
    refine wx_seq (wx_set' (by walk_at "ev") ?_)
    have e0 := c_rng2 (as := aCons (eD (.int 1)) (aCons (eBin addD (eName 0) (eD (.int 1))) aNil)) (i := 1) (j := (n : Int) + 1) (by omega) (by omega) (σ := [some (.p (.int (n : Int))), some (.l [.tuple []]), none, none, none]) (by walk_at "ev") (by walk_at "ev")
    have et : ((n : Int) + 1 - 1).toNat = n := by omega
    rw [et] at e0
    refine wx_seq (wx_rng (lo := 1) (n := n) (fun k σ => ∃ a b c, σ = [some (.p (.int (n : Int))), some (.l ((lawF n k).map dC)), a, b, c]) e0 ⟨_, _, _, rfl⟩ ?_ ?_)
    · clear e0 et
      rintro k σ hk ⟨a, b, c, rfl⟩
      have hF := lawF_few n (by omega) k (by omega)
      have hS : ∀ c ∈ lawF n k, c.Sublist (List.range n) := fun c hc => lawF_sub (by omega) (by omega) hc
      refine ⟨_, rfl, ?_⟩
      refine wx_map (f := dC) (as := lawF n k) (fun done σ => ∃ b c, σ = [some (.p (.int (n : Int))), some (.l ((lawF n k ++ growC n k done).map dC)), some (.p (.int (1 + (k : Int)))), b, c])
        (by walk_at "ev") ⟨_, _, by rw [show growC n k [] = [] from rfl, List.append_nil]⟩ ?_ ?_
      · rintro done c rest σ e1 ⟨b, g, rfl⟩
        have hc : c.Sublist (List.range n) := hS c (by rw [← e1]; simp)
        have hdl : done.length ≤ 64 := by
          have := congrArg List.length e1
          simp at this
          omega
        have hgl := growC_len (n := n) (k := k) (L := done)
        have hgl2 : (growC n k done).length ≤ 384 := Nat.le_trans hgl (by have := Nat.mul_le_mul hdl hn6; omega)
        have hlow := lowC_le hc
        have hcl := hc.length_le
        rw [List.length_range] at hcl
        clear e1 hS hdl hgl hc
        refine ⟨_, rfl, ?_⟩
        rw [show dC c = .tuple (c.map dNat) from rfl]
        refine wx_ifP (p := (c.length : Int) = 1 + (k : Int) - 1) (by walk_at "ev") (fun h1 => ?_) (fun h1 => ?_)
        · have h1' : c.length = k := by omega
          clear h1
          have e0 : iRng2 (aCons (eIfE (tOf (eBin gtD (eCallB lenD (aCons (eName 3) aNil)) (eD (.int 0)))) (eBin addD (eItem (eName 3) (eUn negD (eD (.int 1)))) (eD (.int 1))) (eD (.int 0))) (aCons (eName 0) aNil)) [some (.p (.int (n : Int))), some (.l ((lawF n k ++ growC n k done).map dC)), some (.p (.int (1 + (k : Int)))), some (.p (.tuple (c.map dNat))), g] = some (rngD (lowC c : Int) (n - lowC c), [some (.p (.int (n : Int))), some (.l ((lawF n k ++ growC n k done).map dC)), some (.p (.int (1 + (k : Int)))), some (.p (.tuple (c.map dNat))), g]) := by
            have et : ((n : Int) - (lowC c : Int)).toNat = n - lowC c := by omega
            rw [← et]
            refine c_rng2 (cs := [.d (.int (lowC c : Int)), .d (.int (n : Int))]) (by omega) (by omega) ?_ (by rfl)
            clear et
            rcases List.eq_nil_or_concat c with rfl | ⟨pre, x, rfl⟩
            · unfold lowC
              walk_at "ev"
            · rw [List.concat_eq_append] at *
              have em : (pre ++ [x]).map dNat = pre.map dNat ++ [dNat x] := by simp
              rw [lowC_snoc, em]
              clear em
              have hp : (0 : Int) < ((pre.map dNat ++ [PyData.int (x : Int)]).length : Int) := by rw [List.length_append]; simp only [List.length_cons, List.length_nil]; omega
              have hat := c_atLastT (pre.map dNat) (.int (x : Int))
              clear h1' hcl hlow
              have : ((x + 1 : Nat) : Int) = (x : Int) + 1 := by omega
              rw [this]
              walk_at "ev"
          refine wx_rng (lo := (lowC c : Int)) (n := n - lowC c) (fun i σ => ∃ e, σ = [some (.p (.int (n : Int))), some (.l ((lawF n k ++ growC n k done ++ (List.range i).map fun i => c ++ [lowC c + i]).map dC)), some (.p (.int (1 + (k : Int)))), some (.p (.tuple (c.map dNat))), e]) e0 ⟨_, by rw [List.range_zero, List.map_nil, List.append_nil]⟩ ?_ ?_
          · clear e0
            rintro i σ hi ⟨e, rfl⟩
            have hll : (lawF n k).length + (growC n k done).length + i < 16777216 := by omega
            have hadd : addD (.tuple (c.map dNat)) (.tuple [.int ((lowC c : Int) + (i : Int))]) = some (.te (c.map dNat ++ [.int ((lowC c : Int) + (i : Int))])) := c_addT (by rw [szl]; simp; omega)
            have hap := c_append (ds := (lawF n k ++ growC n k done ++ (List.range i).map fun i => c ++ [lowC c + i]).map dC) (d := .tuple (c.map dNat ++ [.int ((lowC c : Int) + (i : Int))])) (by rw [szl]; simp; omega)
            clear hF hgl2 hcl h1' hll
            refine ⟨_, rfl, ?_⟩
            have en : (lawF n k ++ growC n k done ++ (List.range (i + 1)).map fun i => c ++ [lowC c + i]).map dC = (lawF n k ++ growC n k done ++ (List.range i).map fun i => c ++ [lowC c + i]).map dC ++ [.tuple (c.map dNat ++ [.int ((lowC c : Int) + (i : Int))])] := by
              rw [List.range_succ, List.map_append (l₁ := List.range i), ← List.append_assoc, List.map_append (l₂ := List.map _ [i])]
              congr 1
              show [PyData.tuple ((c ++ [lowC c + i]).map dNat)] = _
              rw [List.map_append]
              show [PyData.tuple (c.map dNat ++ [PyData.int ((lowC c + i : Nat) : Int)])] = _
              rw [Int.natCast_add]
            rw [en]
            clear en
            exact wx_drop (by walk_at "ev") ⟨_, rfl⟩
          · clear e0
            rintro σ ⟨e, rfl⟩
            rw [growC_snoc, if_pos h1', ← List.append_assoc]
            exact ⟨_, _, rfl⟩
        · have h1' : ¬ c.length = k := fun q => h1 (by omega)
          refine wx_nil ?_
          rw [growC_snoc, if_neg h1', List.append_nil]
          exact ⟨_, _, rfl⟩
      · rintro σ ⟨b, c, rfl⟩
        exact ⟨_, _, _, rfl⟩
    · clear e0 et
      rintro σ ⟨a, b, c, rfl⟩
      rw [lawF_all n (by omega)]
      exact wx_ret (by walk_at "ev") ⟨_, rfl, rfl, rfl⟩
  exact eqF h
end Kk11

set_option Elab.async false
set_option linter.all false
set_option maxRecDepth 100000
set_option maxHeartbeats 1000000
/-! KS9: which workshops are none -/
namespace KW
open PySem PV
def setAt {α : Type} (l : List α) (i : Nat) (x : α) : List α := l.take i ++ [x] ++ l.drop (i + 1)
theorem setAt_map {α β : Type} (f : α → β) (l : List α) (i : Nat) (x : α) : (setAt l i x).map f = setAt (l.map f) i (f x) := by
  unfold setAt
  rw [List.map_append, List.map_append, List.map_take, List.map_drop]
  rfl
theorem setAt_mem {α : Type} {l : List α} {i : Nat} {x : α} : x ∈ setAt l i x := by unfold setAt; simp
theorem setAt_len {α : Type} {l : List α} {i : Nat} {x : α} (h : i < l.length) : (setAt l i x).length = l.length := by unfold setAt; simp; omega
theorem setAt_sub {α : Type} {l : List α} {i : Nat} {x y : α} (h : y ∈ setAt l i x) : y = x ∨ y ∈ l := by
  unfold setAt at h
  rw [List.mem_append, List.mem_append] at h
  rcases h with (h | h) | h
  · exact .inr (List.mem_of_mem_take h)
  · exact .inl (List.mem_singleton.mp h)
  · exact .inr (List.mem_of_mem_drop h)
theorem all_not {α : Type} {p : α → Bool} {l : List α} {x : α} (hx : x ∈ l) (h : p x = false) : l.all p = false := by
  rw [List.all_eq_false]
  exact ⟨x, hx, by rw [h]; exact Bool.false_ne_true⟩
theorem names_not {l : List Str} {lo hi : Int} {x : Str} (hx : x ∈ l) (h : isName x = false) : areNamesB l lo hi = false := by
  unfold areNamesB
  rw [all_not hx h, Bool.and_false, Bool.false_and]
theorem names_dup {l : List Str} {lo hi : Int} (h : diffB l = false) : areNamesB l lo hi = false := by
  unfold areNamesB
  rw [h, Bool.and_false]
theorem names_len {l : List Str} {lo hi : Int} (h : ¬ (lo ≤ (l.length : Int) ∧ (l.length : Int) ≤ hi)) : areNamesB l lo hi = false := by
  unfold areNamesB
  rw [decide_eq_false h]
  rfl
theorem wb_kinds {g : GWorks} (h : g.kinds.all isKindB = false ∨ areNamesB (g.kinds.map (·.name)) 1 4 = false) : isWB g = false := by
  unfold isWB
  rcases h with h | h
  · rw [h, Bool.and_false, Bool.false_and]
  · rw [h, Bool.false_and, Bool.false_and]
theorem wb_slots {g : GWorks} (h : areSlotsB g.slots g.kinds = false) : isWB g = false := by
  unfold isWB
  rw [h, Bool.false_and, Bool.false_and, Bool.and_false]
theorem wb_people {g : GWorks} (h : arePeopleB g.people g.slots = false) : isWB g = false := by
  unfold isWB
  rw [h, Bool.and_false, Bool.false_and, Bool.and_false]
theorem wb_events {g : GWorks} (h : areEventsB g.events g.slots.length = false) : isWB g = false := by
  unfold isWB
  rw [h, Bool.false_and, Bool.and_false, Bool.and_false]
theorem wb_open {g : GWorks} (h : ¬ (0 ≤ g.opening ∧ g.opening ≤ 99)) : isWB g = false := by
  unfold isWB
  rw [decide_eq_false h, Bool.and_false, Bool.and_false, Bool.and_false]
theorem nm_empty : isName (Str.ofString "") = false := by decide +kernel
theorem nm_9a : isName (Str.ofString "9a") = false := by decide +kernel
theorem nm_ab : isName (Str.ofString "a-b") = false := by decide +kernel
theorem nm_A : isName (Str.ofString "A") = false := by decide +kernel
theorem nm_P : isName (Str.ofString "P") = false := by decide +kernel
theorem nm_kind : ∀ v, v < 8 → ∀ i, i < 4 → isName (nmK "abcdefgh" v i) = true := by decide +kernel
theorem nm_slot : ∀ v, v < 8 → ∀ i, i < 4 → isName (nmK "mnopqrst" v i) = true := by decide +kernel
theorem nm_person : ∀ i : Nat, i < 8 → isName (Str.ofString "p" ++ (toString (i : Int) : String)) = true := by decide +kernel
theorem nm_event : ∀ i : Nat, i < 8 → isName (Str.ofString "day" ++ (toString (i : Int) : String)) = true := by decide +kernel
theorem nm_len (z : Str) {v i : Nat} (h : i < 8) : (nmK z v i).length = 2 := by
  unfold nmK
  rw [len_app, sg_len, dig_len h]
/-- the last sign of a text -/
def lastS (z : Str) : Nat := z.cps.toList.getLast?.getD 0
theorem last_kind : ∀ v, v < 8 → ∀ i, i < 4 → lastS (nmK "abcdefgh" v i) = 48 + i := by decide +kernel
theorem last_slot : ∀ v, v < 8 → ∀ i, i < 4 → lastS (nmK "mnopqrst" v i) = 48 + i := by decide +kernel
theorem last_person : ∀ i : Nat, i < 8 → lastS (Str.ofString "p" ++ (toString (i : Int) : String)) = 48 + i := by decide +kernel
theorem last_event : ∀ i : Nat, i < 8 → lastS (Str.ofString "day" ++ (toString (i : Int) : String)) = 48 + i := by decide +kernel
theorem nodup_last {l : List Str} (h : ∀ (i : Nat) x, l[i]? = some x → lastS x = 48 + i) : l.Nodup := by
  rw [List.Nodup, List.pairwise_iff_getElem]
  intro i j hi hj hij e
  have h1 := h i _ (List.getElem?_eq_getElem hi)
  have h2 := h j _ (List.getElem?_eq_getElem hj)
  rw [e] at h1
  omega
def wrongKinds (k : Kind) : List Kind :=
  [⟨k.name, 0, k.table, k.spare, k.days⟩, ⟨k.name, 10, k.table, k.spare, k.days⟩, ⟨k.name, k.limit, [], k.spare, k.days⟩, ⟨k.name, k.limit, [(1, 0)], k.spare, k.days⟩, ⟨k.name, k.limit, [(0, 1), (2, 0)], k.spare, k.days⟩,
   ⟨k.name, k.limit, [(0, 0), (0, 1)], k.spare, k.days⟩, ⟨k.name, k.limit, k.table, true, 10⟩, ⟨k.name, k.limit, k.table, true, -1⟩, ⟨k.name, k.limit, k.table, false, 1⟩, ⟨"", k.limit, k.table, k.spare, k.days⟩,
   ⟨"9a", k.limit, k.table, k.spare, k.days⟩, ⟨"a-b", k.limit, k.table, k.spare, k.days⟩]
theorem wrongKinds_not {k k' : Kind} (h : k' ∈ wrongKinds k) : isKindB k' = false ∨ isName k'.name = false := by
  unfold wrongKinds at h
  simp only [List.mem_cons, List.not_mem_nil, or_false] at h
  rcases h with rfl | rfl | rfl | rfl | rfl | rfl | rfl | rfl | rfl | rfl | rfl | rfl
  · exact .inl (by simp [isKindB])
  · exact .inl (by simp [isKindB])
  · exact .inl (by unfold isKindB; rw [show isTab [] = false by decide, Bool.and_false, Bool.and_false, Bool.false_and])
  · exact .inl (by unfold isKindB; rw [show isTab [(1, 0)] = false by decide, Bool.and_false, Bool.and_false, Bool.false_and])
  · exact .inl (by unfold isKindB; rw [show isTab [(0, 1), (2, 0)] = false by decide, Bool.and_false, Bool.and_false, Bool.false_and])
  · exact .inl (by unfold isKindB; rw [show isTab [(0, 0), (0, 1)] = false by decide, Bool.and_false, Bool.and_false, Bool.false_and])
  · exact .inl (by simp [isKindB])
  · exact .inl (by simp [isKindB])
  · exact .inl (by simp [isKindB])
  · exact .inr nm_empty
  · exact .inr nm_9a
  · exact .inr nm_ab
theorem wrongKinds_sz {k k' : Kind} (h : k' ∈ wrongKinds k) (hn : k.name.length ≤ 1000) (ht : k.table.length ≤ 1000) : k'.name.length ≤ 1000 ∧ k'.table.length ≤ 1000 := by
  unfold wrongKinds at h
  simp only [List.mem_cons, List.not_mem_nil, or_false] at h
  have e1 : (Str.ofString "").length ≤ 1000 := by decide
  have e2 : (Str.ofString "9a").length ≤ 1000 := by decide
  have e3 : (Str.ofString "a-b").length ≤ 1000 := by decide
  rcases h with rfl | rfl | rfl | rfl | rfl | rfl | rfl | rfl | rfl | rfl | rfl | rfl
  all_goals first | exact ⟨hn, ht⟩ | exact ⟨hn, by simp⟩ | exact ⟨e1, ht⟩ | exact ⟨e2, ht⟩ | exact ⟨e3, ht⟩
def wrongSlots (s : Slot) : List Slot := [⟨s.name, s.kind, -1⟩, ⟨s.name, s.kind, 100⟩, ⟨s.name, "none", s.worth⟩, ⟨"A", s.kind, s.worth⟩, ⟨"", s.kind, s.worth⟩]
theorem slots_not {sl : List Slot} {ks : List Kind} {s : Slot} (hs : s ∈ sl) (h : (s.kind ∉ ks.map (·.name) ∨ ¬ (0 ≤ s.worth ∧ s.worth ≤ 99)) ∨ isName s.name = false) : areSlotsB sl ks = false := by
  unfold areSlotsB
  rcases h with (h | h) | h
  · rw [all_not hs (by rw [decide_eq_false h, Bool.false_and]), Bool.false_and]
  · rw [all_not hs (by rw [decide_eq_false h, Bool.and_false]), Bool.false_and]
  · rw [names_not (List.mem_map.mpr ⟨s, hs, rfl⟩) h, Bool.and_false]
theorem slots_names {sl : List Slot} {ks : List Kind} (h : areNamesB (sl.map (·.name)) 1 6 = false) : areSlotsB sl ks = false := by
  unfold areSlotsB
  rw [h, Bool.and_false]
theorem people_not {ps : List Person} {sl : List Slot} {p : Person} (hp : p ∈ ps) (h : (diffB p.skills = false ∨ ∃ s ∈ p.skills, s ∉ sl.map (·.name)) ∨ isName p.name = false) : arePeopleB ps sl = false := by
  unfold arePeopleB
  rcases h with (h | ⟨s, hs, h⟩) | h
  · rw [all_not hp (by rw [h, Bool.false_and]), Bool.false_and]
  · rw [all_not hp (by rw [all_not hs (decide_eq_false h), Bool.and_false]), Bool.false_and]
  · rw [names_not (List.mem_map.mpr ⟨p, hp, rfl⟩) h, Bool.and_false]
theorem people_names {ps : List Person} {sl : List Slot} (h : areNamesB (ps.map (·.name)) 0 6 = false) : arePeopleB ps sl = false := by
  unfold arePeopleB
  rw [h, Bool.and_false]
theorem events_not {es : List GEvent} {n : Nat} {e : GEvent} (he : e ∈ es) (h : ((e.hours.length ≠ n ∨ asc n (-1) e.fails = false) ∨ ∃ x ∈ e.hours, ¬ (0 ≤ x ∧ x ≤ 99)) ∨ isName e.name = false) : areEventsB es n = false := by
  unfold areEventsB
  rcases h with ((h | h) | ⟨x, hx, h⟩) | h
  · rw [all_not he (by rw [decide_eq_false (by omega), Bool.false_and, Bool.false_and]), Bool.false_and]
  · rw [all_not he (by rw [h, Bool.and_false, Bool.false_and]), Bool.false_and]
  · rw [all_not he (by rw [all_not hx (decide_eq_false h), Bool.and_false]), Bool.false_and]
  · rw [names_not (List.mem_map.mpr ⟨e, he, rfl⟩) h, Bool.and_false]
theorem events_names {es : List GEvent} {n : Nat} (h : areNamesB (es.map (·.name)) 1 6 = false) : areEventsB es n = false := by
  unfold areEventsB
  rw [h, Bool.and_false]
theorem dup_snoc {α : Type} (l : List α) (f : α → Str) (i : Nat) (h : i < l.length) (d : α) : diffB ((l ++ [l.getD i d]).map f) = false := by
  refine diff_not (i := i) (j := l.length) h (by simp) ?_
  rw [List.map_append]
  simp [h]
  rw [List.getElem?_append_left (by simpa using h)]
  simp [h]
def wrongPeople (x : Str) : List (List Person) := [[⟨"p", ["none"]⟩], [⟨"p", [x, x]⟩], [⟨"p", []⟩, ⟨"p", []⟩], [⟨"P", []⟩]]
theorem wrongPeople_not {x : Str} {ps : List Person} {sl : List Slot} (h : ps ∈ wrongPeople x) (hn : Str.ofString "none" ∉ sl.map (·.name)) : arePeopleB ps sl = false := by
  unfold wrongPeople at h
  simp only [List.mem_cons, List.not_mem_nil, or_false] at h
  rcases h with rfl | rfl | rfl | rfl
  · exact people_not (p := ⟨"p", ["none"]⟩) (by simp) (.inl (.inr ⟨Str.ofString "none", by simp, hn⟩))
  · exact people_not (p := ⟨"p", [x, x]⟩) (by simp) (.inl (.inl (diff_not (i := 0) (j := 1) (by omega) (by simp) rfl)))
  · exact people_names (names_dup (diff_not (i := 0) (j := 1) (by omega) (by simp) rfl))
  · exact people_not (p := ⟨"P", []⟩) (by simp) (.inr nm_P)
def wrong8 (e : GEvent) : List GEvent := [⟨e.name, e.hours ++ [0], e.fails⟩, ⟨e.name, e.hours.drop 1, []⟩, ⟨e.name, [-1] ++ e.hours.drop 1, e.fails⟩, ⟨e.name, [100] ++ e.hours.drop 1, e.fails⟩,
  ⟨e.name, e.hours, [(e.hours.length : Int)]⟩, ⟨e.name, e.hours, [-1]⟩, ⟨e.name, e.hours, [0, 0]⟩, ⟨"", e.hours, e.fails⟩]
def wrongEvents (e : GEvent) : List GEvent := wrong8 e ++ if 1 < e.hours.length then [⟨e.name, e.hours, [1, 0]⟩] else []
theorem wrong8_d (e : GEvent) : (wrong8 e).map dGE = [.tuple [.str e.name, .tuple (e.hours.map PyData.int ++ [.int 0]), .tuple (e.fails.map PyData.int)], .tuple [.str e.name, .tuple ((e.hours.map PyData.int).drop 1), .tuple []],
    .tuple [.str e.name, .tuple ([.int (-1)] ++ (e.hours.map PyData.int).drop 1), .tuple (e.fails.map PyData.int)], .tuple [.str e.name, .tuple ([.int 100] ++ (e.hours.map PyData.int).drop 1), .tuple (e.fails.map PyData.int)],
    .tuple [.str e.name, .tuple (e.hours.map PyData.int), .tuple [.int (e.hours.length : Int)]], .tuple [.str e.name, .tuple (e.hours.map PyData.int), .tuple [.int (-1)]], .tuple [.str e.name, .tuple (e.hours.map PyData.int), .tuple [.int 0, .int 0]],
    .tuple [.str "", .tuple (e.hours.map PyData.int), .tuple (e.fails.map PyData.int)]] := by
  unfold wrong8 dGE
  simp
theorem wrongEvents_not {e e' : GEvent} (h : e' ∈ wrongEvents e) (h1 : 1 ≤ e.hours.length) : ((e'.hours.length ≠ e.hours.length ∨ asc e.hours.length (-1) e'.fails = false) ∨ ∃ x ∈ e'.hours, ¬ (0 ≤ x ∧ x ≤ 99)) ∨ isName e'.name = false := by
  unfold wrongEvents wrong8 at h
  rw [List.mem_append] at h
  rcases h with h | h
  · simp only [List.mem_cons, List.not_mem_nil, or_false] at h
    rcases h with rfl | rfl | rfl | rfl | rfl | rfl | rfl | rfl
    · exact .inl (.inl (.inl (by simp)))
    · exact .inl (.inl (.inl (by simp; omega)))
    · exact .inl (.inr ⟨-1, by simp, by omega⟩)
    · exact .inl (.inr ⟨100, by simp, by omega⟩)
    · exact .inl (.inl (.inr (by simp [asc])))
    · exact .inl (.inl (.inr (by simp [asc])))
    · exact .inl (.inl (.inr (by simp [asc])))
    · exact .inr nm_empty
  · split at h
    · rw [List.mem_singleton] at h
      subst h
      exact .inl (.inl (.inr (by simp [asc])))
    · cases h
theorem wrongEvents_len (e : GEvent) : (wrongEvents e).length ≤ 9 := by
  unfold wrongEvents wrong8
  rw [List.length_append]
  split <;> simp
theorem wrongEvents_nm {e e' : GEvent} (h : e' ∈ wrongEvents e) (hn : e.name.length ≤ 1000) : e'.name.length ≤ 1000 := by
  unfold wrongEvents wrong8 at h
  rw [List.mem_append] at h
  rcases h with h | h
  · simp only [List.mem_cons, List.not_mem_nil, or_false] at h
    rcases h with rfl | rfl | rfl | rfl | rfl | rfl | rfl | rfl
    all_goals first | exact hn | exact (show (Str.ofString "").length ≤ 1000 by decide)
  · split at h
    · rw [List.mem_singleton] at h
      subst h
      exact hn
    · cases h
theorem none_slots {w : Works} (hv : VOk w) : Str.ofString "none" ∉ w.slots.map (·.name) := by
  intro q
  obtain ⟨s, hs, e⟩ := List.mem_map.mp q
  obtain ⟨i, hi, rfl⟩ := List.mem_iff_getElem.mp hs
  obtain ⟨u, _, e2⟩ := (hv.slots i _ (List.getElem?_eq_getElem hi)).name
  have h2 := hv.ns3
  rw [e2] at e
  have := congrArg Str.length e
  rw [nm_len _ (by omega)] at this
  revert this
  decide
end KW

set_option Elab.async false
set_option linter.all false
set_option maxRecDepth 100000
set_option maxHeartbeats 1000000
/-! KS10: a drawn workshop is one -/
namespace KW
open PySem PV
theorem all_of {α : Type} {p : α → Bool} {l : List α} (h : ∀ (i : Nat) x, l[i]? = some x → p x = true) : l.all p = true := by
  rw [List.all_eq_true]
  intro x hx
  obtain ⟨i, hi, rfl⟩ := List.mem_iff_getElem.mp hx
  exact h i _ (List.getElem?_eq_getElem hi)
theorem names_ok {l : List Str} {lo hi : Int} (h1 : lo ≤ (l.length : Int)) (h2 : (l.length : Int) ≤ hi) (hn : ∀ (i : Nat) x, l[i]? = some x → isName x = true ∧ lastS x = 48 + i) : areNamesB l lo hi = true := by
  unfold areNamesB
  rw [decide_eq_true ⟨h1, h2⟩, all_of fun i x e => (hn i x e).1, diff_of (nodup_last fun i x e => (hn i x e).2)]
  rfl
theorem TV.tab {t : List (Int × Int)} (h : TV t) : isTab t = true := by
  unfold isTab
  have h1 := h.one
  have h3 := h.few
  obtain ⟨v, e, hv⟩ := h.start
  have e0 : t.getD 0 (0, 0) = (0, v) := getD_of e
  rw [decide_eq_true (by omega), e0]
  have hall : (List.range (t.length - 1)).all (fun k => !(decide ((t.getD (k + 1) (0, 0)).1 ≤ (t.getD k (0, 0)).1) || decide ((t.getD (k + 1) (0, 0)).2 < (t.getD k (0, 0)).2))) = true := by
    rw [List.all_eq_true]
    intro k hk
    have hk' := List.mem_range.mp hk
    obtain ⟨a, b⟩ := h.up k _ _ (getD_lt (d := (0, 0)) (show k < t.length by omega)) (getD_lt (d := (0, 0)) (show k + 1 < t.length by omega))
    rw [decide_eq_false (by omega), decide_eq_false (by omega)]
    rfl
  rw [hall]
  simp
  exact hv
theorem VKind.isK {i : Nat} {k : Kind} (h : VKind i k) : isKindB k = true := by
  unfold isKindB
  have h1 := h.lim
  have h2 := h.lim3
  have h3 := h.days
  have h4 := h.few
  rw [decide_eq_true (by omega), decide_eq_true (by omega), h.table.tab]
  cases hs : k.spare with
  | true => rfl
  | false =>
    have : k.days = 0 := by
      by_cases h0 : 0 < k.days
      · have := h.sp h0
        rw [hs] at this
        cases this
      · omega
    rw [decide_eq_true this]
    rfl
theorem asc_of {n : Nat} : ∀ (l : List Nat) (b : Int), l.Pairwise (· < ·) → (∀ x ∈ l, b < (x : Int) ∧ x < n) → asc n b (l.map fun (i : Nat) => ((i : Nat) : Int)) = true
  | [], _, _, _ => rfl
  | x :: l, b, hp, hb => by
    rw [List.map_cons, asc]
    have h1 := hb x (by simp)
    rw [decide_eq_true (by omega), Bool.true_and]
    rw [List.pairwise_cons] at hp
    exact asc_of l x hp.2 fun y hy => by
      have := hp.1 y hy
      have := hb y (by simp [hy])
      omega
theorem slot_names {w : Works} (hv : VOk w) : areNamesB (w.slots.map (·.name)) 1 6 = true := by
  have h1 := hv.ns1
  have h2 := hv.ns3
  refine names_ok (by simp; omega) (by simp; omega) fun i x e => ?_
  rw [List.getElem?_map] at e
  cases e2 : w.slots[i]? with
  | none => rw [e2] at e; cases e
  | some s =>
    rw [e2] at e; cases e
    have hl := (List.getElem?_eq_some_iff.mp e2).1
    obtain ⟨v, hv8, e3⟩ := (hv.slots i s e2).name
    show isName s.name = true ∧ lastS s.name = 48 + i
    rw [e3]
    exact ⟨nm_slot v hv8 i (by omega), last_slot v hv8 i (by omega)⟩
theorem nodup_names {w : Works} (hv : VOk w) : (w.slots.map (·.name)).Nodup := by
  have h2 := hv.ns3
  refine nodup_last fun i x e => ?_
  rw [List.getElem?_map] at e
  cases e2 : w.slots[i]? with
  | none => rw [e2] at e; cases e
  | some s =>
    rw [e2] at e; cases e
    have hl := (List.getElem?_eq_some_iff.mp e2).1
    obtain ⟨v, hv8, e3⟩ := (hv.slots i s e2).name
    show lastS s.name = 48 + i
    rw [e3]
    exact last_slot v hv8 i (by omega)
theorem VOk.isW {w : Works} (hv : VOk w) : isWB (gOf w) = true := by
  unfold isWB gOf
  dsimp only
  have k1 := hv.nk1
  have k2 := hv.nk2
  have p3 := hv.np
  have e1 := hv.ne1
  have e2 := hv.ne2
  have hk : areNamesB (w.kinds.map (·.name)) 1 4 = true := by
    refine names_ok (by simp; omega) (by simp; omega) fun i x e => ?_
    rw [List.getElem?_map] at e
    cases e2 : w.kinds[i]? with
    | none => rw [e2] at e; cases e
    | some s =>
      rw [e2] at e; cases e
      have hl := (List.getElem?_eq_some_iff.mp e2).1
      obtain ⟨v, hv8, e3⟩ := (hv.kinds i s e2).name
      show isName s.name = true ∧ lastS s.name = 48 + i
      rw [e3]
      exact ⟨nm_kind v hv8 i (by omega), last_kind v hv8 i (by omega)⟩
  have hkk : w.kinds.all isKindB = true := all_of fun i k e => (hv.kinds i k e).isK
  have hs : areSlotsB w.slots w.kinds = true := by
    unfold areSlotsB
    rw [slot_names hv, Bool.and_true]
    refine all_of fun i s e => ?_
    have h := hv.slots i s e
    obtain ⟨j, hj, e3⟩ := h.kind
    have h1 := h.cost
    have h2 := h.few
    rw [decide_eq_true (by rw [e3]; exact List.mem_map.mpr ⟨_, List.mem_of_getElem? (getD_lt hj), rfl⟩), decide_eq_true (by omega)]
    rfl
  have hp : arePeopleB w.people w.slots = true := by
    unfold arePeopleB
    have hnm : areNamesB (w.people.map (·.name)) 0 6 = true := by
      refine names_ok (by simp) (by simp; omega) fun i x e => ?_
      rw [List.getElem?_map] at e
      cases e2 : w.people[i]? with
      | none => rw [e2] at e; cases e
      | some s =>
        rw [e2] at e; cases e
        have hl := (List.getElem?_eq_some_iff.mp e2).1
        show isName s.name = true ∧ lastS s.name = 48 + i
        rw [(hv.people i s e2).name]
        exact ⟨nm_person i (by omega), last_person i (by omega)⟩
    rw [hnm, Bool.and_true]
    refine all_of fun i p e => ?_
    obtain ⟨c, hc, hsk⟩ := (hv.people i p e).skills
    have hcl : ∀ s ∈ c, s < w.slots.length := fun s hs => by have := hc.subset hs; simpa using this
    have hnd : (c.map fun s => (w.slots.getD s default).name).Nodup := by
      have hcn : c.Nodup := hc.nodup List.nodup_range
      rw [List.Nodup, List.pairwise_map]
      refine List.Pairwise.imp_of_mem (fun {a b} ha hb hab => ?_) hcn
      intro q
      have hnn := nodup_names hv
      have la := hcl a ha
      have lb := hcl b hb
      rw [List.Nodup, List.pairwise_iff_getElem] at hnn
      have key : ∀ x y, x < y → (hx : x < w.slots.length) → (hy : y < w.slots.length) → (w.slots.getD x default).name ≠ (w.slots.getD y default).name := fun x y hxy hx hy => by
        have := hnn x y (by simpa using hx) (by simpa using hy) hxy
        simpa [hx, hy] using this
      rcases Nat.lt_trichotomy a b with h | h | h
      · exact key a b h la lb q
      · exact hab h
      · exact key b a h lb la q.symm
    have hin : ∀ x ∈ c.map (fun s => (w.slots.getD s default).name), x ∈ w.slots.map (·.name) := fun x hx => by
      obtain ⟨s, hs, rfl⟩ := List.mem_map.mp hx
      exact List.mem_map.mpr ⟨_, List.mem_of_getElem? (getD_lt (hcl s hs)), rfl⟩
    have hd : diffB p.skills = true ∧ ∀ x ∈ p.skills, x ∈ w.slots.map (·.name) := by
      rcases hsk with e | e
      · rw [e]; exact ⟨diff_of hnd, hin⟩
      · rw [e]; exact ⟨diff_of (List.pairwise_reverse.mpr (hnd.imp fun h => h.symm)), fun x hx => hin x (List.mem_reverse.mp hx)⟩
    rw [hd.1, Bool.true_and, List.all_eq_true]
    intro x hx
    exact decide_eq_true (hd.2 x hx)
  have he : areEventsB (w.events.map gE) w.slots.length = true := by
    unfold areEventsB
    have hnm : areNamesB ((w.events.map gE).map (·.name)) 1 6 = true := by
      refine names_ok (by simp; omega) (by simp; omega) fun i x e => ?_
      rw [List.getElem?_map, List.getElem?_map] at e
      cases e2 : w.events[i]? with
      | none => rw [e2] at e; cases e
      | some s =>
        rw [e2] at e; cases e
        have hl := (List.getElem?_eq_some_iff.mp e2).1
        show isName s.name = true ∧ lastS s.name = 48 + i
        rw [(hv.events i s e2).name]
        exact ⟨nm_event i (by omega), last_event i (by omega)⟩
    rw [hnm, Bool.and_true]
    refine all_of fun i x e => ?_
    rw [List.getElem?_map] at e
    cases e2 : w.events[i]? with
    | none => rw [e2] at e; cases e
    | some s =>
      rw [e2] at e; cases e
      have h := hv.events i s e2
      have h1 : asc w.slots.length (-1) (gE s).fails = true := by
        refine asc_of s.fails (-1) (List.Pairwise.sublist h.fails List.pairwise_lt_range) fun x hx => ?_
        have := h.fails.subset hx
        rw [List.mem_range] at this
        omega
      have h2 : (gE s).hours.all (fun h => decide (0 ≤ h ∧ h ≤ 99)) = true := by
        rw [List.all_eq_true]
        intro x hx
        exact decide_eq_true (h.hr x hx)
      rw [h1, h2, decide_eq_true (by show (s.hours.length : Int) = _; rw [h.hours])]
      rfl
  have h1 := hv.worth
  have h2 := hv.worth3
  rw [hk, hkk, hs, hp, decide_eq_true (by omega)]
  rw [show areEventsB (w.events.map gE) w.slots.length = true from he]
  rfl
def gEdge : GWorks := ⟨[⟨"abcdefghijk9", 9, [(0, 0), (99, 9)], true, 9⟩], [⟨"s", "abcdefghijk9", 99⟩], [], [⟨"e", [99], [0]⟩], 99⟩
def gWide : GWorks := ⟨[⟨"abcdefghijk9", 9, [(0, 0), (99, 9)], true, 9⟩], (List.range 6).map fun (k : Nat) => ⟨Str.ofString "s" ++ (toString (k : Int) : String), "abcdefghijk9", 0⟩, (List.range 6).map fun (k : Nat) => ⟨Str.ofString "p" ++ (toString (k : Int) : String), []⟩, [⟨"e", [0, 0, 0, 0, 0, 0], [0, 5]⟩], 0⟩
theorem edge_is : isWB gEdge = true := by decide +kernel
theorem wide_is : isWB gWide = true := by decide +kernel
end KW

set_option Elab.async false
set_option linter.all false
set_option maxRecDepth 100000
set_option maxHeartbeats 1000000
/-! KS11: what a state must be -/
namespace KW
open PySem PV
structure GState where
  wears : List Int
  stores : List Int
  shop : List (Int × Int)
def dGS (s : GState) : D := .tuple [.tuple (s.wears.map PyData.int), .tuple (s.stores.map PyData.int), .tuple (s.shop.map dPair)]
def pN (p : Int × Nat) : Int × Int := (p.1, (p.2 : Int))
def gS (st : State) : GState := ⟨st.wears, st.stores, st.shop.map pN⟩
theorem shop_pN (l : List (Int × Nat)) : (l.map pN).map dPair = l.map dShop := by rw [List.map_map]; rfl
theorem dGS_of (st : State) : dGS (gS st) = dState st := by
  unfold dGS gS dState
  rw [shop_pN]
/-- the pair p behind q in the order -/
def gtP (p q : Int × Int) : Bool := decide (q.1 < p.1 ∨ (q.1 = p.1 ∧ q.2 < p.2))
theorem c_gtP (p q : Int × Int) : gtD (dPair p) (dPair q) = some (.ex (.bool (gtP p q))) := by
  have h : OrdOk (dPair p) (dPair q) := ⟨rfl, rfl, by simp [dPair, PySem.W.alike, PySem.W.alikeAll], rfl⟩
  show (if Cl (OrdOk (dPair p) (dPair q)) then some (Out.ex (.bool (PySem.W.dataLt (dPair q) (dPair p)))) else none) = _
  rw [cpos h]
  unfold dPair gtP
  rw [PySem.W.dataLt_ii]
def leP (a b : Int × Int) : Bool := decide (a.1 < b.1 ∨ (a.1 = b.1 ∧ a.2 ≤ b.2))
def sortP (l : List (Int × Int)) : List (Int × Int) := l.mergeSort leP
theorem dataLe_pair : PySem.W.dataLe false dPair = leP := by
  have := PySem.W.dataLe_ii (fun p : Int × Int => p.1) (fun p => p.2)
  have e : dPair = fun p : Int × Int => PyData.tuple [.int p.1, .int p.2] := rfl
  rw [e, this]
  rfl
theorem sortokP (l : List (Int × Int)) : SortOk (l.map dPair) := by
  refine ⟨?_, ?_, ?_⟩
  · rw [allAlikeB, List.all_map, List.all_eq_true]
    intro p _
    show (l.map dPair).all _ = true
    rw [List.all_map, List.all_eq_true]
    intro q _
    simp [dPair, PySem.W.alike, PySem.W.alikeAll]
  · rw [sortableB, Bool.or_eq_true]
    left
    rw [List.all_map, List.all_eq_true]
    intro p _
    rfl
  · intro d hd
    obtain ⟨p, _, rfl⟩ := List.mem_map.mp hd
    simp [shp, dPair, PyData.plain, PyData.plainAll, PyData.depth, PyData.depthAll]
theorem sortedT_pairs (l : List (Int × Int)) : sortedTD [.tuple (l.map dPair)] = some (.ls ((sortP l).map dPair)) := by
  unfold sortedTD
  dsimp only
  rw [cpos (sortokP l)]
  have e : sortD (l.map dPair) = (sortP l).map dPair := by
    unfold sortD sortP
    rw [← dataLe_pair]
    exact (List.map_mergeSort (r := PySem.W.dataLe false dPair) (s := PySem.W.dataLe false id) (f := dPair) (fun a _ b _ => rfl)).symm
  rw [e]
def awayOf (shop : List (Int × Int)) (k : Int) : Nat := shop.countP fun p => decide (p.2 = k)
def shopAtB (w : Works) (shop : List (Int × Int)) (k : Nat) : Bool :=
  (decide (0 ≤ (shop.getD k (0, 0)).2 ∧ (shop.getD k (0, 0)).2 < (w.kinds.length : Int)) && (kindAt w (shop.getD k (0, 0)).2.toNat).spare) &&
  (decide (1 ≤ (shop.getD k (0, 0)).1 ∧ (shop.getD k (0, 0)).1 ≤ (kindAt w (shop.getD k (0, 0)).2.toNat).days) && !(decide (0 < k) && gtP (shop.getD (k - 1) (0, 0)) (shop.getD k (0, 0))))
def isShopB (w : Works) (shop : List (Int × Int)) : Bool := (List.range shop.length).all (shopAtB w shop)
def storeAtB (w : Works) (stores : List Int) (shop : List (Int × Int)) (k : Nat) : Bool :=
  !(decide (stores.getD k 0 < 0) || decide (99 < stores.getD k 0 + (awayOf shop (k : Int) : Int))) && !((!(kindAt w k).spare) && !decide (stores.getD k 0 = 0))
def areStoresB (w : Works) (stores : List Int) (shop : List (Int × Int)) : Bool := (List.range stores.length).all (storeAtB w stores shop)
def wearAtB (w : Works) (s : GState) (k : Nat) : Bool := decide (0 ≤ s.wears.getD k 0 ∧ s.wears.getD k 0 ≤ (kindOf w k).limit)
def isStB (w : Works) (s : GState) : Bool := (decide (s.wears.length = w.slots.length) && decide (s.stores.length = w.kinds.length)) && ((List.range s.wears.length).all (wearAtB w s) && (isShopB w s.shop && areStoresB w s.stores s.shop))
end KW

set_option Elab.async false
set_option linter.all false
set_option maxRecDepth 100000
set_option maxHeartbeats 1000000
/-! KS16: sorted tuples of places; the last item as a slice; parts of a choice -/
namespace KW
open PySem PV
theorem sortokN (l : List Nat) : SortOk (l.map dNat) := by
  refine ⟨?_, ?_, ?_⟩
  · rw [allAlikeB, List.all_map, List.all_eq_true]
    intro p _
    show (l.map dNat).all _ = true
    rw [List.all_map, List.all_eq_true]
    intro q _
    simp [dNat, PySem.W.alike, PySem.W.alikeAll]
  · rw [sortableB, Bool.or_eq_true]
    right
    rw [List.all_map, List.all_eq_true]
    intro p _
    rfl
  · intro d hd
    obtain ⟨p, _, rfl⟩ := List.mem_map.mp hd
    simp [shp, dNat, PyData.plain, PyData.plainAll, PyData.depth, PyData.depthAll]
def sortN (l : List Nat) : List Nat := l.mergeSort (PySem.W.dataLe false dNat)
theorem sortedT_nats (l : List Nat) : sortedTD [.tuple (l.map dNat)] = some (.ls ((sortN l).map dNat)) := by
  unfold sortedTD
  dsimp only
  rw [cpos (sortokN l)]
  have e : sortD (l.map dNat) = (sortN l).map dNat := by
    unfold sortD sortN
    exact (List.map_mergeSort (r := PySem.W.dataLe false dNat) (s := PySem.W.dataLe false id) (f := dNat) (fun a _ b _ => rfl)).symm
  rw [e]
theorem sortN_mem {l : List Nat} {x : Nat} : x ∈ sortN l ↔ x ∈ l := (List.mergeSort_perm _ _).mem_iff
theorem sortN_len (l : List Nat) : (sortN l).length = l.length := List.length_mergeSort _
theorem cut_last {ds : List D} {d : D} : cutD (ds ++ [d]) (some (-1)) none = [d] := by
  unfold cutD HT.sIx
  simp only []
  rw [if_pos (by decide)]
  have : (-1 + ((ds ++ [d]).length : Int)).toNat = ds.length := by simp; omega
  rw [this, List.drop_append_of_le_length (Nat.le_refl _), List.drop_length]
  simp
/-- the part of a list at the places -/
def pick (c P : List Nat) : List Nat := P.map fun k => c.getD k 0
theorem pick_sub {c P : List Nat} (h : P.Sublist (List.range c.length)) : (pick c P).Sublist c := by
  have e : (List.range c.length).map (fun k => c.getD k 0) = c := by
    refine List.ext_getElem (by simp) fun i h1 h2 => ?_
    simp [h2]
  have := h.map (fun k => c.getD k 0)
  rw [e] at this
  exact this
theorem asc_sub {n : Nat} {c : List Nat} (h : c.Sublist (List.range n)) : c.Pairwise (· < ·) := List.Pairwise.sublist h List.pairwise_lt_range
end KW

set_option Elab.async false
set_option linter.all false
set_option maxRecDepth 100000
set_option maxHeartbeats 4000000
namespace Kk11
open PySem PySem.Spec L2 PV KW
local macro_rules | `(tactic| walk_at "pv") => `(tactic| simp only [↓eIf_litI, eBin, eName, eD, eItem, eItemH, itemAt, itemP, peek, pkO, hold, unhold, frz, take, takeR, toD, toD1, frzAll, unholds, aCons, aNil, eCallB, eMut, eMeth, lstB, eTup, eLst, eLstN, nCons, nNil, nIt, isN, eSlice, slD, KW.c_slL, KW.c_slT, eUn, eIfE, tOf, tAndE, tOrE, tNotE, eAndE, eOrE, eNotE, eOf, eChain, eIsI, tyN, eRev2, revD, eLR1, eLR2, intE, rgOut, iSeq, seqOf, eCall0, eCall1, lend, frzPl, isc_none, isc_bool, isc_int, isc_str, isc_list, isc_tuple, isc_l, isc_n, ite_same, tgName, tgTup, tgCons, tgNil, finals, takeE, frzE, retE, getL, putL, wipeE, backE, tvYes, Out.o, Hd.r, tupleD, listD,
  List.getElem?_cons_zero, List.getElem?_cons_succ, List.set_cons_zero, List.set_cons_succ, List.map_cons, List.map_nil, List.replicate, List.cons_append, List.nil_append, List.length_cons, List.length_nil, List.all_cons, List.all_nil, Bool.and_self, Bool.and_true, Bool.true_and, List.length_map, List.length_range, List.getElem?_map, List.getElem?_range, Option.map_some, Int.natCast_nonneg, Int.toNat_natCast, Int.toNat_zero, Int.reduceToNat, Int.reduceLE, Int.zero_add, ite_self, if_true, if_false, ite_self, ite_true, ite_false, Bool.false_eq_true, reduceCtorEq, decide_true, decide_false, c_append, Nat.reduceLeDiff, szl, cl, Nat.reduceAdd,
  kb_NoneType_bool, kb_NoneType_int, kb_NoneType_str, kb_NoneType_list, kb_NoneType_tuple, kb_bool_bool, kb_bool_int, kb_bool_str, kb_bool_list, kb_bool_tuple, kb_int_bool, kb_int_int, kb_int_str, kb_int_list, kb_int_tuple, kb_str_bool, kb_str_int, kb_str_str, kb_str_list, kb_str_tuple, kb_list_bool, kb_list_int, kb_list_str, kb_list_list, kb_list_tuple, kb_tuple_bool, kb_tuple_int, kb_tuple_str, kb_tuple_list, kb_tuple_tuple,
  c_add, c_sub, c_neg, c_eqI, c_neI, c_eqS, c_neS, c_eqB, c_ltI, c_gtI, c_leI, c_geI, isD, isnotD, KW.isn_none, KW.isn_tup, KW.isn_int, KW.isn_state, Bool.not_true, Bool.not_false, c_lenL, c_lenT, KW.c_at, KW.c_atT, KW.c_inNT, KW.c_inNL, KW.c_inST, KW.c_inSL, KW.c_ninNT, KW.c_ninNL, KW.c_ninST, KW.c_ninSL, KW.dPair, KW.dShop, KW.dNat, k_works0, k_works1, k_works2, k_works3, k_works4, k_kind0, k_kind1, k_kind2, k_kind3, k_kind4, k_slot0, k_slot1, k_slot2, k_person0, k_person1, k_event0, k_event1, k_event2, k_state0, k_state1, k_state2, k_tkind, k_tevent, k_sevent, k_skind, k_pl0s, k_pl1s, k_pl0t, k_pl1t, k_pl0h, k_pl1h, k_pl2h, k_pl0g, k_slh, ofS, decide_true, KW.c_eqP, KW.c_neP, KW.c_inP, KW.c_ninP, KW.c_inShop, KW.c_sum, KW.c_int, KW.c_intB, KW.c_abs, KW.c_min2, KW.c_max2, c_mulR, c_div, c_mod, Int.reduceLT, Int.reduceNeg, KW.c_atLast, KW.cut_1, KW.drop1, KW.cut_succ, KW.cut_from, KW.cut_to, KW.ix30, KW.ix31, KW.ix32, *])
local macro_rules | `(tactic| walk_at "ev") => `(tactic| first | (walk_at "pv" <;> rfl) | rfl)
theorem law_bool_ok (a b : Bool) : f_u_law_bool [.p (.bool a), .p (.bool b)] = some (.p (.bool (decide (a = b))), []) := by
  refine eqF (wf_fn rfl ?_)
  unfold b_u_law_bool
  have hk : kitB "bool" "bool" = some true := by decide +kernel
  have e : eIsI "bool" (eName 0) [some (.p (.bool a)), some (.p (.bool b))] = some (.v (.p (.bool true)), [some (.p (.bool a)), some (.p (.bool b))]) := by
    unfold eIsI
    simp only [eName, List.getElem?_cons_zero, peek, pkO, tyN, hk]
  refine wx_retV (and_val e (fun _ => by walk_at "ev")) ⟨_, rfl, ?_, rfl⟩
  rw [Bool.true_and]
theorem law_right_ok (w : Works) (hpl : w.people.length ≤ 1000) (c : List Nat) (hc : ∀ s ∈ c, s < w.slots.length) (hcl : c.length ≤ 100) (t : List Nat) (ht : isAsg w c t) :
    f_u_law_right [.p (dWorks w), .p (.tuple (c.map dNat)), .p (.tuple (t.map dNat))] = some (.p (.bool true), []) := by
  refine eqF (wf_fn rfl ?_)
  unfold b_u_law_right
  have hl := sk2_len ht.1
  have hl' : (t.length : Int) = (c.length : Int) := by omega
  have hlt : (t.length : Int) ≤ 16777216 := by omega
  have hlc : (c.length : Int) ≤ 16777216 := by omega
  have hsk := sk2_at ht.1
  obtain ⟨_, hnd, hlt2⟩ := ht
  have hl : Cl (t.length = c.length) := hl
  have hl' : Cl ((t.length : Int) = (c.length : Int)) := hl'
  refine wx_seq (wx_if (c := !decide ((t.length : Int) = (c.length : Int))) (by walk_at "ev") (fun h => ?_) (fun _ => wx_nil ?_))
  · rw [decide_eq_true (show (t.length : Int) = (c.length : Int) from hl')] at h
    cases h
  clear hl' hlc
  refine wx_seq (wx_rng (lo := 0) (n := t.length) (fun k σ => ∃ a, σ = [some (.p (dWorks w)), some (.p (.tuple (c.map dNat))), some (.p (.tuple (t.map dNat))), a])
    (c_rng0 (k := t.length) (by omega) (by walk_at "ev") (by walk_at "ev")) ⟨_, rfl⟩ ?_ ?_)
  · rintro k σ hk ⟨a, rfl⟩
    have hkc : k < c.length := by have : t.length = c.length := hl; omega
    have htk : t[k]? = some (t.getD k 0) := getD_lt hk
    have hck : c[k]? = some (c.getD k 0) := getD_lt hkc
    have hsl : c.getD k 0 < w.slots.length := hc _ (List.mem_of_getElem? hck)
    have hp : t.getD k 0 < w.people.length := hlt2 _ (List.mem_of_getElem? htk)
    have hsk1 := hsk k hkc
    have hnt : decide (t.getD k 0 ∈ t.take k) = false := by
      rw [decide_eq_false_iff_not]
      intro q
      obtain ⟨i, hi, e⟩ := List.mem_iff_getElem.mp q
      rw [List.length_take] at hi
      rw [List.getElem_take] at e
      have e2 : t.getD k 0 = t[k] := by simp [hk]
      rw [e2] at e
      exact (List.pairwise_iff_getElem.mp hnd i k (by omega) hk (by omega)) e
    clear hlt2 hsk hnd hl hkc
    generalize t.getD k 0 = p at *
    generalize c.getD k 0 = s at *
    have hs := skilled_ok w p s hp hsl
    rw [hsk1] at hs
    have hin1 : inD (.int (p : Int)) (.tuple ((t.map dNat).take k)) = some (.ex (.bool false)) := by rw [← List.map_take, c_inNT, hnt]
    have hin2 : inD (.int (p : Int)) (.list (rngD 0 w.people.length)) = some (.ex (.bool true)) := by rw [rng0, c_inNL, decide_eq_true (List.mem_range.mpr hp)]
    have hg : L2.RgOk 0 (w.people.length : Int) := rg_ok (by omega) (by omega) (by omega) (by omega)
    have h0 : ((w.people.length : Int) - 0).toNat = w.people.length := by omega
    have hlp : (w.people.length : Int) ≤ 16777216 := by omega
    clear hnt hsk1 hp hsl
    refine ⟨_, by walk_at "ev", ?_⟩
    refine wx_seq (wx_if (c := false) (by walk_at "ev") (fun q => by cases q) (fun _ => wx_nil ?_))
    exact wx_if (c := false) (by walk_at "ev") (fun q => by cases q) (fun _ => wx_nil ⟨_, rfl⟩)
  · rintro σ ⟨a, rfl⟩
    exact wx_retV rfl ⟨_, rfl, rfl, rfl⟩
/-- what both sides find out about a choice -/
theorem one_cases (w : Works) (c : List Nat) (hcn : c.Nodup) (hcl : c.length ≤ 10) (r : Option (List Nat)) (h1 : r = none → ∀ A, A.Sublist c → A.length ≤ (nbrW w A).length) (h2 : ∀ A, r = some A → A.Sublist c ∧ fewB w A = true) :
    (manned w c w.people = true ∧ r = none ∧ ∃ t, compl w c 12 [] = some t ∧ isAsg w c t) ∨ (manned w c w.people = false ∧ compl w c 12 [] = none ∧ ∃ A, r = some A ∧ A.Sublist c ∧ fewB w A = true) := by
  have hcm := compl_manned w c 12 (by omega)
  cases hm : manned w c w.people with
  | true =>
    left
    have ht := (manned_asg w c).mp hm
    refine ⟨rfl, ?_, ?_⟩
    · cases r with
      | none => rfl
      | some A =>
        obtain ⟨h3, h4⟩ := h2 A rfl
        have := (asg_iff hcn).mp ht A h3
        unfold fewB at h4
        rw [Bool.and_eq_true, decide_eq_true_eq, decide_eq_true_eq] at h4
        omega
    · rw [hm] at hcm
      cases hc : compl w c 12 [] with
      | none => rw [hc] at hcm; cases hcm
      | some t =>
        refine ⟨t, rfl, (asg_is w c t).mp ?_⟩
        rw [compl_head w c 12 (by omega)] at hc
        exact List.mem_of_mem_head? hc
  | false =>
    right
    rw [hm] at hcm
    refine ⟨rfl, by simpa using hcm, ?_⟩
    cases r with
    | none =>
      have := (manned_asg w c).mpr ((asg_iff hcn).mpr (h1 rfl))
      rw [hm] at this
      cases this
    | some A => exact ⟨A, rfl, h2 A rfl⟩
theorem subA_of {n : Nat} {c A : List Nat} (hc : c.Sublist (List.range n)) (hA : A.Sublist c) : subA c (-1) A = true :=
  subA_iff.mpr ⟨fun s hs => ⟨by omega, hA.subset hs⟩, (asc_sub hc).sublist hA⟩
theorem subA_rev {c A : List Nat} (hA : A.Pairwise (· < ·)) (h : 1 < A.length) : subA c (-1) A.reverse = false := by
  rw [Bool.eq_false_iff]
  intro q
  have h1 := (subA_iff.mp q).2
  rw [List.pairwise_reverse] at h1
  have h2 := List.pairwise_iff_getElem.mp hA 0 1 (by omega) h (by omega)
  have h3 := List.pairwise_iff_getElem.mp h1 0 1 (by omega) h (by omega)
  omega
theorem subA_twice {c A : List Nat} {x : Nat} : subA c (-1) (A ++ [x] ++ [x]) = false := by
  rw [Bool.eq_false_iff]
  intro q
  have h1 := (subA_iff.mp q).2
  rw [List.append_assoc, List.pairwise_append] at h1
  have := h1.2.1
  simp at this
theorem subA_out {c l : List Nat} {x : Nat} (h1 : x ∈ l) (h2 : x ∉ c) : subA c (-1) l = false := by
  rw [Bool.eq_false_iff]
  intro q
  exact h2 ((subA_iff.mp q).1 x h1).2
theorem law_one_ok (a : D) (w : Works) (hns : w.slots.length ≤ 6) (hpl : w.people.length ≤ 6) (c : List Nat) (hc : c.Sublist (List.range w.slots.length)) :
    f_u_law_one [.p a, .p (dWorks w), .p (.tuple (c.map dNat))] = some (.p (.bool true), []) := by
  refine eqF (wf_fn rfl ?_)
  unfold b_u_law_one
  have hcm : ∀ s ∈ c, s < w.slots.length := fun s hs => List.mem_range.mp (hc.subset hs)
  have hcl : c.length ≤ 6 := by have := hc.length_le; rw [List.length_range] at this; omega
  have hcn : c.Nodup := hc.nodup List.nodup_range
  have hb0 := law_bool_ok false false
  have hb1 := law_bool_ok true true
  rw [decide_eq_true rfl] at hb0 hb1
  have ha := assignment_ok w (by omega) c hcm (by omega)
  obtain ⟨r, hr, hr1, hr2⟩ := crew_paper_ok w (by omega) c hcm (by omega)
  have hm := manned_ok w (by omega) 12 c w.people (by omega) (by omega) hcm
  have hone := one_cases w c hcn (by omega) r hr1 hr2
  clear hr1 hr2 hcn
  refine wx_seq (wx_set' (by walk_at "ev") ?_)
  refine wx_seq (wx_set' (by walk_at "ev") ?_)
  refine wx_seq (wx_set' (by walk_at "ev") ?_)
  clear ha hr hm
  refine wx_seq (wx_if (c := false) (σ1 := [some (.p a), some (.p (dWorks w)), some (.p (.tuple (c.map dNat))), some (.p (dOpt (compl w c 12 []))), some (.p (dOpt r)), some (.p (.bool (manned w c w.people))), none, none, none, none, none]) (by
    rcases hone with ⟨hm, rfl, t, ht, hta⟩ | ⟨hm, ht, A, rfl, hA, hf⟩
    · rw [hm, ht]
      simp only [dOpt, dC]
      clear hta ht hm
      walk_at "ev"
    · rw [hm, ht]
      simp only [dOpt, dC]
      clear ht hm hA hf
      walk_at "ev") (fun q => by cases q) (fun _ => wx_nil ?_))
  refine wx_seq (wx_if (c := false) (σ1 := [some (.p a), some (.p (dWorks w)), some (.p (.tuple (c.map dNat))), some (.p (dOpt (compl w c 12 []))), some (.p (dOpt r)), some (.p (.bool (manned w c w.people))), none, none, none, none, none]) (by
    rcases hone with ⟨hm, rfl, t, ht, hta⟩ | ⟨hm, ht, A, rfl, hA, hf⟩
    · rw [hm, ht]
      simp only [dOpt, dC]
      have hr := law_right_ok w (by omega) c hcm (by omega) t hta
      clear hta ht hm
      walk_at "ev"
    · rw [hm, ht]
      simp only [dOpt, dC]
      clear ht hm hA hf
      walk_at "ev") (fun q => by cases q) (fun _ => wx_nil ?_))
  refine wx_seq (wx_if (c := false) (σ1 := [some (.p a), some (.p (dWorks w)), some (.p (.tuple (c.map dNat))), some (.p (dOpt (compl w c 12 []))), some (.p (dOpt r)), some (.p (.bool (manned w c w.people))), none, none, none, none, none]) (by
    rcases hone with ⟨hm, rfl, t, ht, hta⟩ | ⟨hm, ht, A, rfl, hA, hf⟩
    · rw [hm, ht]
      simp only [dOpt, dC]
      clear hta ht hm
      walk_at "ev"
    · rw [hm, ht]
      simp only [dOpt, dC]
      have htf := too_few_ok w (by omega) A (fun s hs => hcm s (hA.subset hs)) (by have := hA.length_le; omega)
      rw [hf] at htf
      clear ht hm hA hf
      walk_at "ev") (fun q => by cases q) (fun _ => wx_nil ?_))
  refine wx_seq (wx_if (c := false) (σ1 := [some (.p a), some (.p (dWorks w)), some (.p (.tuple (c.map dNat))), some (.p (dOpt (compl w c 12 []))), some (.p (dOpt r)), some (.p (.bool (manned w c w.people))), none, none, none, none, none]) (by
    rcases hone with ⟨hm, rfl, t, ht, hta⟩ | ⟨hm, ht, A, rfl, hA, hf⟩
    · rw [hm, ht]
      simp only [dOpt, dC]
      clear hta ht hm
      walk_at "ev"
    · rw [hm, ht]
      simp only [dOpt, dC]
      have htf := shows_unmanned_ok w (by omega) c hcm A (by have := hA.length_le; omega)
      rw [hf, subA_of hc hA] at htf
      clear ht hm hA hf
      walk_at "ev") (fun q => by cases q) (fun _ => wx_nil ?_))
  clear hone hb1
  generalize dOpt (compl w c 12 []) = o3
  generalize dOpt r = o4
  generalize manned w c w.people = b
  have hlc : (c.length : Int) ≤ 16777216 := by omega
  have hsub := subsets_ok c.length hcl
  refine wx_seq (wx_map (f := dC) (as := allC c.length) (fun done σ => ∃ x6 x7 x8 x9 x10, σ = [some (.p a), some (.p (dWorks w)), some (.p (.tuple (c.map dNat))), some (.p o3), some (.p o4), some (.p (.bool b)), x6, x7, x8, x9, x10])
    (by walk_at "ev") ⟨_, _, _, _, _, rfl⟩ ?_ ?_)
  · clear hsub
    rintro done P rest σ e0 ⟨x6, x7, x8, x9, x10, rfl⟩
    have hP : P.Sublist (List.range c.length) := mem_allC (by rw [← e0]; simp)
    clear e0
    have hPl := hP.length_le
    rw [List.length_range] at hPl
    refine ⟨_, rfl, ?_⟩
    have hlc1 := lc_pure0 (own := [10]) (t := tgName 10) (f := dNat) (e := eItem (eName 2) (eName 10)) (it := iSeq (eName 6))
      (σ := [some (.p a), some (.p (dWorks w)), some (.p (.tuple (c.map dNat))), some (.p o3), some (.p o4), some (.p (.bool b)), some (.p (.tuple (P.map dNat))), x7, x8, x9, x10]) (σ1 := [some (.p a), some (.p (dWorks w)), some (.p (.tuple (c.map dNat))), some (.p o3), some (.p o4), some (.p (.bool b)), some (.p (.tuple (P.map dNat))), x7, x8, x9, x10]) (as := P) (fun k => dNat (c.getD k 0))
      (by walk_at "ev") (fun k hk => by
        have hk1 : k < c.length := List.mem_range.mp (hP.subset hk)
        have hck : c[k]? = some (c.getD k 0) := getD_lt hk1
        clear hk1 hlc hcl hPl
        exact ⟨_, rfl, by walk_at "ev", rfl⟩) (by rw [szl]; omega)
    have epk : (P.map fun k => dNat (c.getD k 0)) = (pick c P).map dNat := by unfold pick; rw [List.map_map]; rfl
    rw [epk] at hlc1
    have hA := pick_sub hP
    have hAl : (pick c P).length ≤ 6 := by unfold pick; rw [List.length_map]; omega
    clear epk hPl hP
    rw [show dC P = .tuple (P.map dNat) from rfl]
    refine wx_seq (wx_set' (by walk_at "ev") ?_)
    clear hlc1
    generalize pick c P = A at *
    have hAm : ∀ s ∈ A, s < w.slots.length := fun s hs => hcm s (hA.subset hs)
    have hs1 := shows_unmanned_ok w (by omega) c hcm A (by omega)
    have ht1 := too_few_ok w (by omega) A hAm (by omega)
    have hb1 := law_bool_ok (fewB w A) (fewB w A)
    rw [subA_of hc hA, Bool.true_and] at hs1
    rw [decide_eq_true rfl] at hb1
    have hla : (A.length : Int) ≤ 16777216 := by omega
    refine wx_seq (wx_if (c := false) (by walk_at "ev") (fun q => by cases q) (fun _ => wx_nil ?_))
    clear hs1 ht1 hb1
    refine wx_seq (wx_if (c := decide ((A.length : Int) > 1) && false) (tand_val (by walk_at "ev") (fun h => ?_)) (fun q => by rw [Bool.and_false] at q; cases q) (fun _ => wx_nil ?_))
    · have h1 : 1 < A.length := by have := of_decide_eq_true h; omega
      have hs1 := shows_unmanned_ok w (by omega) c hcm A.reverse (by rw [List.length_reverse]; omega)
      rw [subA_rev ((asc_sub hc).sublist hA) h1, Bool.false_and, List.map_reverse] at hs1
      clear h1 h
      walk_at "ev"
    refine wx_if (c := decide ((A.length : Int) > 0) && false) (tand_val (by walk_at "ev") (fun h => ?_)) (fun q => by rw [Bool.and_false] at q; cases q) (fun _ => wx_nil ⟨_, _, _, _, _, rfl⟩)
    rcases List.eq_nil_or_concat A with rfl | ⟨pre, x, rfl⟩
    · simp at h
    · rw [List.concat_eq_append] at *
      have hs1 := shows_unmanned_ok w (by omega) c hcm (pre ++ [x] ++ [x]) (by simp at hAl ⊢; omega)
      rw [subA_twice, Bool.false_and, List.map_append] at hs1
      have hcut : cutD ((pre ++ [x]).map dNat) (some (-1)) none = [.int (x : Int)] := by
        rw [List.map_append]
        exact cut_last
      have hadd : addD (.tuple ((pre ++ [x]).map dNat)) (.tuple [.int (x : Int)]) = some (.te ((pre ++ [x]).map dNat ++ [.int (x : Int)])) := c_addT (by rw [szl]; simp at hAl ⊢; omega)
      rw [show [x].map dNat = [.int (x : Int)] from rfl] at hs1
      clear hla hAl hA hAm h
      generalize (pre ++ [x]).map dNat = L at *
      walk_at "ev"
  · clear hsub
    rintro σ ⟨x6, x7, x8, x9, x10, rfl⟩
    have hlo := lc_pure (own := [9]) (t := tgName 9) (f := dNat) (c := tOf (eBin ninD (eName 9) (eName 2))) (e := eName 9) (it := iRng1 (aCons (eCallB lenD (aCons (eItem (eName 1) (eD (.int 1))) aNil)) aNil))
      (σ := [some (.p a), some (.p (dWorks w)), some (.p (.tuple (c.map dNat))), some (.p o3), some (.p o4), some (.p (.bool b)), x6, x7, x8, x9, x10]) (σ1 := [some (.p a), some (.p (dWorks w)), some (.p (.tuple (c.map dNat))), some (.p o3), some (.p o4), some (.p (.bool b)), x6, x7, x8, x9, x10]) (as := List.range w.slots.length) (fun s => !decide (s ∈ c)) dNat
      (by rw [← rng0]; exact c_rng0 (by omega) (by walk_at "ev") (by walk_at "ev")) (fun k hk => ⟨_, rfl, by walk_at "ev", fun _ => by walk_at "ev", rfl⟩) (by rw [szl, List.length_range]; omega)
    refine wx_seq (wx_set' (by walk_at "ev") ?_)
    clear hlo
    have hout : Cl (∀ s ∈ (List.range w.slots.length).filter fun s => !decide (s ∈ c), s ∉ c) := fun s hs => by
      rw [List.mem_filter] at hs
      simpa using hs.2
    generalize (List.range w.slots.length).filter (fun s => !decide (s ∈ c)) = others at *
    refine wx_seq (wx_map (f := dNat) (as := others) (fun done σ => ∃ x9, σ = [some (.p a), some (.p (dWorks w)), some (.p (.tuple (c.map dNat))), some (.p o3), some (.p o4), some (.p (.bool b)), x6, x7, some (.p (.tuple (others.map dNat))), x9, x10])
      (by walk_at "ev") ⟨_, rfl⟩ ?_ ?_)
    · rintro done s rest σ e0 ⟨x9, rfl⟩
      have hs : s ∉ c := hout s (by rw [← e0]; simp)
      clear e0 hout
      have hso := sortedT_nats (c ++ [s])
      rw [List.map_append] at hso
      have hadd : addD (.tuple (c.map dNat)) (.tuple [.int (s : Int)]) = some (.te (c.map dNat ++ [.int (s : Int)])) := c_addT (by rw [szl]; simp; omega)
      rw [show [s].map dNat = [.int (s : Int)] from rfl] at hso
      have hs1 := shows_unmanned_ok w (by omega) c hcm (sortN (c ++ [s])) (by rw [sortN_len]; simp; omega)
      rw [subA_out (sortN_mem.mpr (by simp)) hs, Bool.false_and] at hs1
      clear hs
      generalize c.map dNat = L at *
      generalize (sortN (c ++ [s])).map dNat = L2 at *
      refine ⟨_, rfl, ?_⟩
      exact wx_if (c := false) (by walk_at "ev") (fun q => by cases q) (fun _ => wx_nil ⟨_, rfl⟩)
    · rintro σ ⟨x9, rfl⟩
      exact wx_retV rfl ⟨_, rfl, rfl, rfl⟩
end Kk11

set_option Elab.async false
set_option linter.all false
set_option maxRecDepth 100000
set_option maxHeartbeats 4000000
namespace Kk11
open PySem PySem.Spec L2 PV KW
local macro_rules | `(tactic| walk_at "pv") => `(tactic| simp only [↓eIf_litI, eBin, eName, eD, eItem, eItemH, itemAt, itemP, peek, pkO, hold, unhold, frz, take, takeR, toD, toD1, frzAll, unholds, aCons, aNil, eCallB, eMut, eMeth, lstB, eTup, eLst, eLstN, nCons, nNil, nIt, isN, eSlice, slD, KW.c_slL, KW.c_slT, eUn, eIfE, tOf, tAndE, tOrE, tNotE, eAndE, eOrE, eNotE, eOf, eChain, eIsI, tyN, eRev2, revD, eLR1, eLR2, intE, rgOut, iSeq, seqOf, eCall0, eCall1, lend, frzPl, isc_none, isc_bool, isc_int, isc_str, isc_list, isc_tuple, isc_l, isc_n, ite_same, tgName, tgTup, tgCons, tgNil, finals, takeE, frzE, retE, getL, putL, wipeE, backE, tvYes, Out.o, Hd.r, tupleD, listD,
  List.getElem?_cons_zero, List.getElem?_cons_succ, List.set_cons_zero, List.set_cons_succ, List.map_cons, List.map_nil, List.replicate, List.cons_append, List.nil_append, List.length_cons, List.length_nil, List.all_cons, List.all_nil, Bool.and_self, Bool.and_true, Bool.true_and, List.length_map, List.length_range, List.getElem?_map, List.getElem?_range, Option.map_some, Int.natCast_nonneg, Int.toNat_natCast, Int.toNat_zero, Int.reduceToNat, Int.reduceLE, Int.zero_add, ite_self, if_true, if_false, ite_self, ite_true, ite_false, Bool.false_eq_true, reduceCtorEq, decide_true, decide_false, c_append, Nat.reduceLeDiff, szl, cl, Nat.reduceAdd,
  kb_NoneType_bool, kb_NoneType_int, kb_NoneType_str, kb_NoneType_list, kb_NoneType_tuple, kb_bool_bool, kb_bool_int, kb_bool_str, kb_bool_list, kb_bool_tuple, kb_int_bool, kb_int_int, kb_int_str, kb_int_list, kb_int_tuple, kb_str_bool, kb_str_int, kb_str_str, kb_str_list, kb_str_tuple, kb_list_bool, kb_list_int, kb_list_str, kb_list_list, kb_list_tuple, kb_tuple_bool, kb_tuple_int, kb_tuple_str, kb_tuple_list, kb_tuple_tuple,
  c_add, c_sub, c_neg, c_eqI, c_neI, c_eqS, c_neS, c_eqB, c_ltI, c_gtI, c_leI, c_geI, isD, isnotD, KW.isn_none, KW.isn_tup, KW.isn_int, KW.isn_state, Bool.not_true, Bool.not_false, c_lenL, c_lenT, KW.c_at, KW.c_atT, KW.c_inNT, KW.c_inNL, KW.c_inST, KW.c_inSL, KW.c_ninNT, KW.c_ninNL, KW.c_ninST, KW.c_ninSL, KW.dPair, KW.dShop, KW.dNat, k_works0, k_works1, k_works2, k_works3, k_works4, k_kind0, k_kind1, k_kind2, k_kind3, k_kind4, k_slot0, k_slot1, k_slot2, k_person0, k_person1, k_event0, k_event1, k_event2, k_state0, k_state1, k_state2, k_tkind, k_tevent, k_sevent, k_skind, k_pl0s, k_pl1s, k_pl0t, k_pl1t, k_pl0h, k_pl1h, k_pl2h, k_pl0g, k_slh, ofS, decide_true, KW.c_eqP, KW.c_neP, KW.c_inP, KW.c_ninP, KW.c_inShop, KW.c_sum, KW.c_int, KW.c_intB, KW.c_abs, KW.c_min2, KW.c_max2, c_mulR, c_div, c_mod, Int.reduceLT, Int.reduceNeg, KW.c_atLast, KW.cut_1, KW.drop1, KW.cut_succ, KW.cut_from, KW.cut_to, KW.ix30, KW.ix31, KW.ix32, *])
local macro_rules | `(tactic| walk_at "ev") => `(tactic| first | (walk_at "pv" <;> rfl) | rfl)
/-- what is_assignment answers about numbers -/
def asgB (w : Works) (c : List Nat) (q : List Int) : Bool := decide (q.length = c.length) && (List.range c.length).all fun k =>
  (decide (0 ≤ q.getD k 0 ∧ q.getD k 0 < (w.people.length : Int)) && !decide (q.getD k 0 ∈ q.take k)) && skill w (q.getD k 0).toNat (c.getD k 0)
theorem is_assignment_ok (w : Works) (hpl : w.people.length ≤ 1000) (c : List Nat) (hc : ∀ s ∈ c, s < w.slots.length) (hcl : c.length ≤ 100) (q : List Int) (hq : q.length ≤ 100) :
    f_is_assignment [.p (dWorks w), .p (.tuple (c.map dNat)), .p (.tuple (q.map PyData.int))] = some (.p (.bool (asgB w c q)), []) := by
  refine eqF (wf_fn rfl ?_)
  unfold b_is_assignment
  by_cases hl : q.length = c.length
  · have e : asgB w c q = (List.range c.length).all fun k => (decide (0 ≤ q.getD k 0 ∧ q.getD k 0 < (w.people.length : Int)) && !decide (q.getD k 0 ∈ q.take k)) && skill w (q.getD k 0).toNat (c.getD k 0) := by
      unfold asgB
      rw [decide_eq_true hl, Bool.true_and]
    have hl' : (q.length : Int) = (c.length : Int) := by omega
    refine wx_seq (wx_ifP (p := ¬ (q.length : Int) = (c.length : Int)) (by walk_at "ev") (fun h => absurd hl' h) (fun _ => wx_nil ?_))
    rw [e]
    have hl : Cl (q.length = c.length) := hl
    clear e hl'
    refine wx_seq (wx_all (f := dNat) (as := List.range c.length) (fun σ => ∃ a, σ = [some (.p (dWorks w)), some (.p (.tuple (c.map dNat))), some (.p (.tuple (q.map PyData.int))), a]) (fun k => (decide (0 ≤ q.getD k 0 ∧ q.getD k 0 < (w.people.length : Int)) && !decide (q.getD k 0 ∈ q.take k)) && skill w (q.getD k 0).toNat (c.getD k 0)) (by
      have := c_rng0 (as := aCons (eCallB lenD (aCons (eName 1) aNil)) aNil) (k := c.length) (by omega) (σ := [some (.p (dWorks w)), some (.p (.tuple (c.map dNat))), some (.p (.tuple (q.map PyData.int))), none]) (by walk_at "ev") (by walk_at "ev")
      rw [this, rng0]) ⟨_, rfl⟩ ?_ ?_ ?_)
    · rintro k hk _ ⟨a, rfl⟩
      have hk := List.mem_range.mp hk
      have hkq : k < q.length := by have : q.length = c.length := hl; omega
      have hqk : q[k]? = some (q.getD k 0) := getD_lt hkq
      have hck : c[k]? = some (c.getD k 0) := getD_lt hk
      have hsl : c.getD k 0 < w.slots.length := hc _ (List.mem_of_getElem? hck)
      refine ⟨_, rfl, ?_⟩
      generalize q.getD k 0 = x at *
      generalize c.getD k 0 = s at *
      clear hl
      have hin : inD (.int x) (.tuple ((q.map PyData.int).take k)) = some (.ex (.bool (decide (x ∈ q.take k)))) := by rw [← List.map_take, c_inIT]
      rw [show dNat k = .int (k : Int) from rfl]
      refine wx_seq (wx_if (c := !decide (0 ≤ x ∧ x < (w.people.length : Int)) || decide (x ∈ q.take k)) (tor_val (t_not (t_of (ch_le_lt (x := 0) (by walk_at "ev") (by walk_at "ev") (by walk_at "ev")))) (fun _ => by walk_at "ev")) (fun h1 => ?_) (fun h1 => wx_nil ?_))
      · have h2 : ¬ ((decide (0 ≤ x ∧ x < (w.people.length : Int)) && !decide (x ∈ q.take k)) && skill w x.toNat s) = true := fun z => by
          rw [Bool.and_eq_true, Bool.and_eq_true] at z
          rw [z.1.1] at h1
          have h3 := z.1.2
          rw [Bool.not_true, Bool.false_or] at h1
          rw [h1] at h3
          cases h3
        simp only [if_neg h2]
        exact wx_retV (by walk_at "ev") ⟨_, rfl⟩
      · rw [Bool.or_eq_false_iff] at h1
        obtain ⟨h1, h2⟩ := h1
        have h1' : 0 ≤ x ∧ x < (w.people.length : Int) := by simpa using h1
        obtain ⟨y, rfl⟩ : ∃ y : Nat, x = (y : Int) := ⟨x.toNat, by omega⟩
        have hy : y < w.people.length := by omega
        simp only [decide_eq_true h1', h2, Bool.not_false, Bool.true_and, Int.toNat_natCast]
        have hsk := has_skill_ok w y s hy hsl
        clear h1 h2 h1'
        cases hv : skill w y s with
        | true =>
          rw [hv] at hsk
          simp only [if_true]
          exact wx_if (c := false) (by walk_at "ev") (fun z => by cases z) (fun _ => wx_nil ⟨_, rfl, _, rfl⟩)
        | false =>
          rw [hv] at hsk
          simp only [Bool.false_eq_true, if_false]
          refine wx_if (c := true) (by walk_at "ev") (fun _ => ?_) (fun z => by cases z)
          exact wx_retV (by walk_at "ev") ⟨_, rfl⟩
    · rintro ht σ ⟨a, rfl⟩
      exact wx_retV (by walk_at "ev") ⟨_, rfl, by rw [ht], rfl⟩
    · intro hf σ
      exact ⟨_, rfl, by rw [hf], rfl⟩
  · have e : asgB w c q = false := by
      unfold asgB
      rw [decide_eq_false hl, Bool.false_and]
    have hl' : ¬ (q.length : Int) = (c.length : Int) := by omega
    refine wx_seq (wx_ifP (p := ¬ (q.length : Int) = (c.length : Int)) (by walk_at "ev") (fun _ => ?_) (fun h => absurd hl' h))
    rw [e]
    exact wx_retV (by walk_at "ev") ⟨_, rfl, rfl, rfl⟩
end Kk11

set_option Elab.async false
set_option linter.all false
set_option maxRecDepth 100000
set_option maxHeartbeats 4000000
namespace Kk11
open PySem PySem.Spec L2 PV KW
local macro_rules | `(tactic| walk_at "pv") => `(tactic| simp only [↓eIf_litI, eBin, eName, eD, eItem, eItemH, itemAt, itemP, peek, pkO, hold, unhold, frz, take, takeR, toD, toD1, frzAll, unholds, aCons, aNil, eCallB, eMut, eMeth, lstB, eTup, eLst, eLstN, nCons, nNil, nIt, isN, eSlice, slD, KW.c_slL, KW.c_slT, eUn, eIfE, tOf, tAndE, tOrE, tNotE, eAndE, eOrE, eNotE, eOf, eChain, eIsI, tyN, eRev2, revD, eLR1, eLR2, intE, rgOut, iSeq, seqOf, eCall0, eCall1, lend, frzPl, isc_none, isc_bool, isc_int, isc_str, isc_list, isc_tuple, isc_l, isc_n, ite_same, tgName, tgTup, tgCons, tgNil, finals, takeE, frzE, retE, getL, putL, wipeE, backE, tvYes, Out.o, Hd.r, tupleD, listD,
  List.getElem?_cons_zero, List.getElem?_cons_succ, List.set_cons_zero, List.set_cons_succ, List.map_cons, List.map_nil, List.replicate, List.cons_append, List.nil_append, List.length_cons, List.length_nil, List.all_cons, List.all_nil, Bool.and_self, Bool.and_true, Bool.true_and, List.length_map, List.length_range, List.getElem?_map, List.getElem?_range, Option.map_some, Int.natCast_nonneg, Int.toNat_natCast, Int.toNat_zero, Int.reduceToNat, Int.reduceLE, Int.zero_add, ite_self, if_true, if_false, ite_self, ite_true, ite_false, Bool.false_eq_true, reduceCtorEq, decide_true, decide_false, c_append, Nat.reduceLeDiff, szl, cl, Nat.reduceAdd,
  kb_NoneType_bool, kb_NoneType_int, kb_NoneType_str, kb_NoneType_list, kb_NoneType_tuple, kb_bool_bool, kb_bool_int, kb_bool_str, kb_bool_list, kb_bool_tuple, kb_int_bool, kb_int_int, kb_int_str, kb_int_list, kb_int_tuple, kb_str_bool, kb_str_int, kb_str_str, kb_str_list, kb_str_tuple, kb_list_bool, kb_list_int, kb_list_str, kb_list_list, kb_list_tuple, kb_tuple_bool, kb_tuple_int, kb_tuple_str, kb_tuple_list, kb_tuple_tuple,
  c_add, c_sub, c_neg, c_eqI, c_neI, c_eqS, c_neS, c_eqB, c_ltI, c_gtI, c_leI, c_geI, isD, isnotD, KW.isn_none, KW.isn_tup, KW.isn_int, KW.isn_state, Bool.not_true, Bool.not_false, c_lenL, c_lenT, KW.c_at, KW.c_atT, KW.c_inNT, KW.c_inNL, KW.c_inST, KW.c_inSL, KW.c_ninNT, KW.c_ninNL, KW.c_ninST, KW.c_ninSL, KW.dPair, KW.dShop, KW.dNat, k_works0, k_works1, k_works2, k_works3, k_works4, k_kind0, k_kind1, k_kind2, k_kind3, k_kind4, k_slot0, k_slot1, k_slot2, k_person0, k_person1, k_event0, k_event1, k_event2, k_state0, k_state1, k_state2, k_tkind, k_tevent, k_sevent, k_skind, k_pl0s, k_pl1s, k_pl0t, k_pl1t, k_pl0h, k_pl1h, k_pl2h, k_pl0g, k_slh, ofS, decide_true, KW.c_eqP, KW.c_neP, KW.c_inP, KW.c_ninP, KW.c_inShop, KW.c_sum, KW.c_int, KW.c_intB, KW.c_abs, KW.c_min2, KW.c_max2, c_mulR, c_div, c_mod, Int.reduceLT, Int.reduceNeg, KW.c_atLast, KW.cut_1, KW.drop1, KW.cut_succ, KW.cut_from, KW.cut_to, KW.ix30, KW.ix31, KW.ix32, *])
local macro_rules | `(tactic| walk_at "ev") => `(tactic| first | (walk_at "pv" <;> rfl) | rfl)
theorem asgB_len {w : Works} {c : List Nat} {q : List Int} (h : q.length ≠ c.length) : asgB w c q = false := by
  unfold asgB
  rw [decide_eq_false h]
  rfl
theorem asgB_at {w : Works} {c : List Nat} {q : List Int} {k : Nat} (hk : k < c.length)
    (h : ((decide (0 ≤ q.getD k 0 ∧ q.getD k 0 < (w.people.length : Int)) && !decide (q.getD k 0 ∈ q.take k)) && skill w (q.getD k 0).toNat (c.getD k 0)) = false) : asgB w c q = false := by
  unfold asgB
  rw [Bool.and_eq_false_iff]
  right
  rw [List.all_eq_false]
  exact ⟨k, List.mem_range.mpr hk, by rw [h]; exact Bool.false_ne_true⟩
theorem snoc_at {α : Type} (l : List α) (x d : α) : (l ++ [x]).getD l.length d = x := by
  rw [List.getD, List.getElem?_append_right (Nat.le_refl _), Nat.sub_self]
  rfl
theorem asgB_is {w : Works} {c t : List Nat} (h : isAsg w c t) : asgB w c (t.map fun (i : Nat) => (i : Int)) = true := by
  have hl := sk2_len h.1
  have hsk := sk2_at h.1
  obtain ⟨_, hnd, hlt⟩ := h
  unfold asgB
  rw [Bool.and_eq_true, decide_eq_true_eq, List.length_map]
  refine ⟨hl, ?_⟩
  rw [List.all_eq_true]
  intro k hk
  have hk := List.mem_range.mp hk
  have hkt : k < t.length := by omega
  have e : (t.map fun (i : Nat) => (i : Int)).getD k 0 = ((t[k] : Nat) : Int) := by simp [hkt]
  have e2 : t.getD k 0 = t[k] := by simp [hkt]
  have h1 := hsk k hk
  rw [e2] at h1
  rw [e, Int.toNat_natCast, h1, Bool.and_true, Bool.and_eq_true, decide_eq_true_eq]
  refine ⟨⟨by omega, by have := hlt _ (List.getElem_mem hkt); omega⟩, ?_⟩
  rw [Bool.not_eq_true', decide_eq_false_iff_not, ← List.map_take]
  intro q
  obtain ⟨y, hy, e3⟩ := List.mem_map.mp q
  have e3 : y = t[k] := by omega
  subst e3
  obtain ⟨i, hi, e4⟩ := List.mem_iff_getElem.mp hy
  rw [List.length_take] at hi
  rw [List.getElem_take] at e4
  exact (List.pairwise_iff_getElem.mp hnd i k (by omega) hkt (by omega)) e4
def dI (q : List Int) : D := .tuple (q.map PyData.int)
theorem cut_init {ds : List D} {d : D} : cutD (ds ++ [d]) none (some (-1)) = ds := by
  unfold cutD HT.sIx
  simp only []
  rw [if_pos (by decide)]
  have : (-1 + ((ds ++ [d]).length : Int)).toNat = ds.length := by simp; omega
  rw [this]
  simp
theorem law_wrong_ok (a : O) (w : Works) (hpl : w.people.length ≤ 6) (c : List Nat) (hc : ∀ s ∈ c, s < w.slots.length) (hcl : c.length ≤ 10) (pre : List Int) (x : Int) (hR : asgB w c (pre ++ [x]) = true) :
    ∃ L : List (List Int), f_u_law_wrong [a, .p (dWorks w), .p (.tuple (c.map dNat)), .p (.tuple ((pre ++ [x]).map PyData.int))] = some (.l (L.map dI), [a]) ∧ L.length ≤ 20 ∧ ∀ q ∈ L, asgB w c q = false ∧ q.length ≤ 12 := by
  have h : WF f_u_law_wrong [a, .p (dWorks w), .p (.tuple (c.map dNat)), .p (.tuple ((pre ++ [x]).map PyData.int))] fun o fs => ∃ L : List (List Int), o = .l (L.map dI) ∧ fs = [a] ∧ L.length ≤ 20 ∧ ∀ q ∈ L, asgB w c q = false ∧ q.length ≤ 12 := by
    refine wf_fn rfl ?_
    unfold b_u_law_wrong
    have hlen : pre.length + 1 = c.length := by
      unfold asgB at hR
      rw [Bool.and_eq_true, decide_eq_true_eq] at hR
      simpa using hR.1
    have hat : Cl (∀ y : Int, (decide (0 ≤ y ∧ y < (w.people.length : Int)) && skill w y.toNat (c.getD pre.length 0)) = false → asgB w c (pre ++ [y]) = false) := fun y hy => by
      refine asgB_at (k := pre.length) (by omega) ?_
      rw [snoc_at]
      generalize (!decide (y ∈ (pre ++ [y]).take pre.length)) = b
      rw [Bool.and_right_comm, hy]
      rfl
    have hcs : c[c.length - 1]? = some (c.getD pre.length 0) := by
      have : c.length - 1 = pre.length := by omega
      rw [this]
      exact getD_lt (by omega)
    have hsl : c.getD pre.length 0 < w.slots.length := hc _ (List.mem_of_getElem? hcs)
    have hcat : atD (.tuple (c.map dNat)) (.int (-1)) = some (.int (c.getD pre.length 0 : Int)) := by
      rcases List.eq_nil_or_concat c with rfl | ⟨cp, y, rfl⟩
      · simp at hlen
      · rw [List.concat_eq_append] at *
        have e1 : cp.length = pre.length := by simp at hlen; omega
        rw [← e1, snoc_at, List.map_append]
        exact c_atLastT (cp.map dNat) (dNat y)
    generalize c.getD pre.length 0 = s at *
    have hlp : (w.people.length : Int) ≤ 16777216 := by omega
    have hcut : cutD ((pre ++ [x]).map PyData.int) none (some (-1)) = pre.map PyData.int := by rw [List.map_append]; exact cut_init
    have hadd : ∀ (y : Int), addD (.tuple (pre.map PyData.int)) (.tuple [.int y]) = some (.te (pre.map PyData.int ++ [.int y])) := fun y => c_addT (by rw [szl]; simp; omega)
    have hadd0 : addD (.tuple ((pre ++ [x]).map PyData.int)) (.tuple [.int 0]) = some (.te ((pre ++ [x]).map PyData.int ++ [.int 0])) := c_addT (by rw [szl]; simp; omega)
    have hrl : (((pre ++ [x]).map PyData.int).length : Int) ≤ 16777216 := by rw [List.length_map, List.length_append, List.length_singleton]; omega
    replace hlen : Cl (pre.length + 1 = c.length) := hlen
    refine wx_seq (wx_set' (by walk_at "ev") ?_)
    refine wx_seq (WX.mono (Q := fun r => ∃ L : List (List Int), (L.length ≤ 4 ∧ ∀ q ∈ L, asgB w c q = false ∧ q.length ≤ 12) ∧ r = .nx [some a, some (.p (dWorks w)), some (.p (.tuple (c.map dNat))), some (.p (.tuple ((pre ++ [x]).map PyData.int))), some (.p (.int (w.people.length : Int))), some (.l (L.map dI)), none]) ?_ ?_)
    · have hl : pre.length + 1 = c.length := hlen
      have hL : ∀ q ∈ [pre ++ [x] ++ [0], pre, pre ++ [(w.people.length : Int)], pre ++ [-1]], asgB w c q = false ∧ q.length ≤ 12 := by
        intro q hq
        simp only [List.mem_cons, List.not_mem_nil, or_false] at hq
        rcases hq with rfl | rfl | rfl | rfl
        · exact ⟨asgB_len (by simp; omega), by simp; omega⟩
        · exact ⟨asgB_len (by omega), by omega⟩
        · exact ⟨hat _ (by rw [decide_eq_false (by omega)]; rfl), by simp; omega⟩
        · exact ⟨hat _ (by rw [decide_eq_false (by omega)]; rfl), by simp; omega⟩
      clear hl hlen hat hR hcs hcat
      have hex : Cl (∃ L : List (List Int), (L.length ≤ 4 ∧ ∀ q ∈ L, asgB w c q = false ∧ q.length ≤ 12) ∧ L.map dI = [.tuple ((pre ++ [x]).map PyData.int ++ [.int 0]), .tuple (pre.map PyData.int), .tuple (pre.map PyData.int ++ [.int (w.people.length : Int)]), .tuple (pre.map PyData.int ++ [.int (-1)])]) :=
        ⟨[pre ++ [x] ++ [0], pre, pre ++ [(w.people.length : Int)], pre ++ [-1]], ⟨by simp, hL⟩, by simp [dI]⟩
      clear hL
      generalize (pre ++ [x]).map PyData.int = R at *
      generalize pre.map PyData.int = P at *
      refine wx_set' (by walk_at "ev") ?_
      obtain ⟨L, hL, e⟩ := hex
      exact ⟨L, hL, by rw [e]; rfl⟩
    rintro _ ⟨L, ⟨hLl, hL⟩, rfl⟩
    replace hL : Cl (∀ q ∈ L, asgB w c q = false ∧ q.length ≤ 12) := hL
    refine wx_seq (WX.mono (Q := fun r => ∃ L : List (List Int), (L.length ≤ 5 ∧ ∀ q ∈ L, asgB w c q = false ∧ q.length ≤ 12) ∧ r = .nx [some a, some (.p (dWorks w)), some (.p (.tuple (c.map dNat))), some (.p (.tuple ((pre ++ [x]).map PyData.int))), some (.p (.int (w.people.length : Int))), some (.l (L.map dI)), none]) ?_ ?_)
    · have hl : pre.length + 1 = c.length := hlen
      clear hlen
      cases hP : pre ++ [x] with
      | nil => simp at hP
      | cons r0 rs =>
        cases rs with
        | nil =>
          clear hcs hcat hcut hadd hadd0 hat hR
          refine wx_if (c := false) (by
            have : ((([r0] : List Int).map PyData.int).length : Int) = 1 := rfl
            walk_at "ev") (fun q => by cases q) (fun _ => wx_nil ⟨L, ⟨by omega, hL⟩, rfl⟩)
        | cons r1 rs =>
          have hbad : asgB w c (r1 :: r1 :: rs) = false := by
            have hl2 := congrArg List.length hP
            simp at hl2
            refine asgB_at (k := 1) (by omega) ?_
            show ((_ && !decide (r1 ∈ [r1])) && _) = false
            simp
          have hap := c_append (ds := L.map dI) (d := .tuple (.int r1 :: .int r1 :: rs.map PyData.int)) (by rw [szl, List.length_map]; omega)
          have hl2 := congrArg List.length hP
          simp at hl2
          have hadd1 : addD (.tuple [.int r1]) (.tuple (.int r1 :: rs.map PyData.int)) = some (.te (.int r1 :: .int r1 :: rs.map PyData.int)) := c_addT (by rw [szl]; simp; omega)
          have hlg : ((((r0 :: r1 :: rs : List Int)).map PyData.int).length : Int) > 1 := by simp; omega
          have hd1 : (((r0 :: r1 :: rs : List Int)).map PyData.int).drop 1 = .int r1 :: rs.map PyData.int := rfl
          have hix : (((r0 :: r1 :: rs : List Int)).map PyData.int)[1]? = some (.int r1) := rfl
          have hrl' : ((((r0 :: r1 :: rs : List Int)).map PyData.int).length : Int) ≤ 16777216 := by rw [← hP]; exact hrl
          have hlist : Cl (∃ L' : List (List Int), (L'.length ≤ 5 ∧ ∀ q ∈ L', asgB w c q = false ∧ q.length ≤ 12) ∧ L'.map dI = L.map dI ++ [.tuple (.int r1 :: .int r1 :: rs.map PyData.int)]) := by
            refine ⟨L ++ [r1 :: r1 :: rs], ⟨by simp; omega, fun q hq => ?_⟩, by simp [dI]⟩
            rcases List.mem_append.mp hq with hq | hq
            · exact hL q hq
            · rw [List.mem_singleton.mp hq]
              exact ⟨hbad, by simp; omega⟩
          clear hcs hcat hcut hadd hadd0 hat hR hL hl2 hl hP hbad hrl
          generalize (r0 :: r1 :: rs : List Int).map PyData.int = R at *
          generalize rs.map PyData.int = T at *
          generalize L.map dI = M at *
          refine wx_if (c := true) (by walk_at "ev") (fun _ => ?_) (fun q => by cases q)
          refine wx_drop (by walk_at "ev") ?_
          obtain ⟨L', hL', e⟩ := hlist
          exact ⟨L', hL', by rw [e]⟩
    rintro _ ⟨L, ⟨hLl, hL⟩, rfl⟩
    replace hR : Cl (asgB w c (pre ++ [x]) = true) := hR
    replace hL : Cl (∀ q ∈ L, asgB w c q = false ∧ q.length ≤ 12) := hL
    refine wx_seq (wx_rng (lo := 0) (n := w.people.length) (fun k σ => ∃ L : List (List Int), L.length ≤ 5 + k ∧ (∀ q ∈ L, asgB w c q = false ∧ q.length ≤ 12) ∧ ∃ b, σ = [some a, some (.p (dWorks w)), some (.p (.tuple (c.map dNat))), some (.p (.tuple ((pre ++ [x]).map PyData.int))), some (.p (.int (w.people.length : Int))), some (.l (L.map dI)), b])
      (c_rng0 (k := w.people.length) (by omega) (by walk_at "ev") (by walk_at "ev")) ⟨L, by omega, hL, _, rfl⟩ ?_ ?_)
    · clear hL hLl L
      rintro k σ hk ⟨L, hLl, hL, b, rfl⟩
      replace hL : Cl (∀ q ∈ L, asgB w c q = false ∧ q.length ≤ 12) := hL
      have hs := skilled_ok w k s hk hsl
      refine ⟨_, by walk_at "ev", ?_⟩
      cases hv : skill w k s with
      | true =>
        rw [hv] at hs
        clear hcs hat hcut hadd hadd0
        exact wx_if (c := false) (by walk_at "ev") (fun q => by cases q) (fun _ => wx_nil ⟨L, by omega, hL, _, rfl⟩)
      | false =>
        rw [hv] at hs
        have hl : pre.length + 1 = c.length := hlen
        have hbad : asgB w c (pre ++ [(k : Int)]) = false := hat _ (by rw [Int.toNat_natCast, hv, Bool.and_false])
        have hap := c_append (ds := L.map dI) (d := .tuple (pre.map PyData.int ++ [.int (k : Int)])) (by rw [szl, List.length_map]; omega)
        have hlist : Cl (∃ L' : List (List Int), L'.length ≤ 5 + (k + 1) ∧ (∀ q ∈ L', asgB w c q = false ∧ q.length ≤ 12) ∧ L'.map dI = L.map dI ++ [.tuple (pre.map PyData.int ++ [.int (k : Int)])]) := by
          refine ⟨L ++ [pre ++ [(k : Int)]], by simp; omega, fun q hq => ?_, by simp [dI]⟩
          rcases List.mem_append.mp hq with hq | hq
          · exact hL q hq
          · rw [List.mem_singleton.mp hq]
            exact ⟨hbad, by simp; omega⟩
        have ha2 := hadd (k : Int)
        clear hcs hat hadd0 hadd hL hbad hl hLl
        generalize (pre ++ [x]).map PyData.int = R at *
        generalize pre.map PyData.int = P at *
        generalize L.map dI = M at *
        refine wx_if (c := true) (by walk_at "ev") (fun _ => ?_) (fun q => by cases q)
        refine wx_drop (by walk_at "ev") ?_
        obtain ⟨L', h1, h2, e⟩ := hlist
        exact ⟨L', h1, h2, _, by rw [e]⟩
    · clear hL hLl L
      rintro σ ⟨L, hLl, hL, b, rfl⟩
      exact wx_ret (by walk_at "ev") ⟨_, rfl, L, rfl, rfl, by omega, hL⟩
  obtain ⟨o, fs, e, L, rfl, rfl, h1⟩ := h
  exact ⟨L, e, h1⟩
end Kk11

set_option Elab.async false
set_option linter.all false
set_option maxRecDepth 100000
set_option maxHeartbeats 4000000
namespace Kk11
open PySem PySem.Spec L2 PV KW
local macro_rules | `(tactic| walk_at "pv") => `(tactic| simp only [↓eIf_litI, eBin, eName, eD, eItem, eItemH, itemAt, itemP, peek, pkO, hold, unhold, frz, take, takeR, toD, toD1, frzAll, unholds, aCons, aNil, eCallB, eMut, eMeth, lstB, eTup, eLst, eLstN, nCons, nNil, nIt, isN, eSlice, slD, KW.c_slL, KW.c_slT, eUn, eIfE, tOf, tAndE, tOrE, tNotE, eAndE, eOrE, eNotE, eOf, eChain, eIsI, tyN, eRev2, revD, eLR1, eLR2, intE, rgOut, iSeq, seqOf, eCall0, eCall1, lend, frzPl, isc_none, isc_bool, isc_int, isc_str, isc_list, isc_tuple, isc_l, isc_n, ite_same, tgName, tgTup, tgCons, tgNil, finals, takeE, frzE, retE, getL, putL, wipeE, backE, tvYes, Out.o, Hd.r, tupleD, listD,
  List.getElem?_cons_zero, List.getElem?_cons_succ, List.set_cons_zero, List.set_cons_succ, List.map_cons, List.map_nil, List.replicate, List.cons_append, List.nil_append, List.length_cons, List.length_nil, List.all_cons, List.all_nil, Bool.and_self, Bool.and_true, Bool.true_and, List.length_map, List.length_range, List.getElem?_map, List.getElem?_range, Option.map_some, Int.natCast_nonneg, Int.toNat_natCast, Int.toNat_zero, Int.reduceToNat, Int.reduceLE, Int.zero_add, ite_self, if_true, if_false, ite_self, ite_true, ite_false, Bool.false_eq_true, reduceCtorEq, decide_true, decide_false, c_append, Nat.reduceLeDiff, szl, cl, Nat.reduceAdd,
  kb_NoneType_bool, kb_NoneType_int, kb_NoneType_str, kb_NoneType_list, kb_NoneType_tuple, kb_bool_bool, kb_bool_int, kb_bool_str, kb_bool_list, kb_bool_tuple, kb_int_bool, kb_int_int, kb_int_str, kb_int_list, kb_int_tuple, kb_str_bool, kb_str_int, kb_str_str, kb_str_list, kb_str_tuple, kb_list_bool, kb_list_int, kb_list_str, kb_list_list, kb_list_tuple, kb_tuple_bool, kb_tuple_int, kb_tuple_str, kb_tuple_list, kb_tuple_tuple,
  c_add, c_sub, c_neg, c_eqI, c_neI, c_eqS, c_neS, c_eqB, c_ltI, c_gtI, c_leI, c_geI, isD, isnotD, KW.isn_none, KW.isn_tup, KW.isn_int, KW.isn_state, Bool.not_true, Bool.not_false, c_lenL, c_lenT, KW.c_at, KW.c_atT, KW.c_inNT, KW.c_inNL, KW.c_inST, KW.c_inSL, KW.c_ninNT, KW.c_ninNL, KW.c_ninST, KW.c_ninSL, KW.dPair, KW.dShop, KW.dNat, k_works0, k_works1, k_works2, k_works3, k_works4, k_kind0, k_kind1, k_kind2, k_kind3, k_kind4, k_slot0, k_slot1, k_slot2, k_person0, k_person1, k_event0, k_event1, k_event2, k_state0, k_state1, k_state2, k_tkind, k_tevent, k_sevent, k_skind, k_pl0s, k_pl1s, k_pl0t, k_pl1t, k_pl0h, k_pl1h, k_pl2h, k_pl0g, k_slh, ofS, decide_true, KW.c_eqP, KW.c_neP, KW.c_inP, KW.c_ninP, KW.c_inShop, KW.c_sum, KW.c_int, KW.c_intB, KW.c_abs, KW.c_min2, KW.c_max2, c_mulR, c_div, c_mod, Int.reduceLT, Int.reduceNeg, KW.c_atLast, KW.cut_1, KW.drop1, KW.cut_succ, KW.cut_from, KW.cut_to, KW.ix30, KW.ix31, KW.ix32, *])
local macro_rules | `(tactic| walk_at "ev") => `(tactic| first | (walk_at "pv" <;> rfl) | rfl)
theorem cut_map {α : Type} (f : α → D) (l : List α) (lo hi : Option Int) : ∃ l' : List α, cutD (l.map f) lo hi = l'.map f ∧ (∀ x ∈ l', x ∈ l) ∧ l'.length ≤ l.length := by
  refine ⟨(l.drop (HT.sIx l.length 0 lo)).take (HT.sIx l.length l.length hi - HT.sIx l.length 0 lo), by unfold cutD; rw [List.length_map, List.map_take, List.map_drop], fun x hx => List.mem_of_mem_drop (List.mem_of_mem_take hx), ?_⟩
  rw [List.length_take, List.length_drop]
  omega
theorem dopt_ints (q : List Nat) : dOpt (some q) = .tuple ((q.map fun (i : Nat) => (i : Int)).map PyData.int) := by
  show PyData.tuple (q.map dNat) = _
  rw [List.map_map]
  rfl
theorem part_one_ok (ns : List Int) (hn : ns.length ≤ 63) : f_u_law_part_one [.p (.list (ns.map PyData.int))] = some (.p (.bool true), []) := by
  refine eqF (wf_fn rfl ?_)
  unfold b_u_law_part_one
  obtain ⟨row, t, e0⟩ := deal_ok ns hn
  refine wx_seq (wx_set' (by walk_at "ev") ?_)
  clear e0
  obtain ⟨w, a1, e1, hn1, hn6, hpl, ha1⟩ := crew_world_ok row 0 t (by omega)
  refine wx_seq (wx_set' (by walk_at "ev") ?_)
  clear e1
  have e3 := subsets_ok w.slots.length hn6
  have hsl : (w.slots.length : Int) ≤ 16777216 := by omega
  refine wx_seq (wx_set' (by walk_at "ev") ?_)
  clear e3
  have hall : (allC w.slots.length).length ≤ 64 := by
    rw [← lawF_all _ (by omega)]
    exact lawF_few _ (by omega) _ (by omega)
  have hpos : 0 < (allC w.slots.length).length := List.length_pos_of_mem (allC_mem (List.nil_sublist _))
  have hmem : Cl (∀ c ∈ allC w.slots.length, c.Sublist (List.range w.slots.length)) := fun c hc => mem_allC hc
  generalize allC w.slots.length = cs at *
  have hb0 := law_bool_ok false false
  have hb1 := law_bool_ok true true
  rw [decide_eq_true rfl] at hb0 hb1
  refine wx_seq (wx_rng (lo := 0) (n := 12) (fun k σ => ∃ (a : Nat), a ≤ a1 + 2 * k ∧ ∃ x4 x5 x6 x7 x8 x9, σ = [some (.p (.list (ns.map PyData.int))), some (dl row a t), some (.p (dWorks w)), some (.l (cs.map dC)), x4, x5, x6, x7, x8, x9])
    (c_rng0 (k := 12) (by omega) (by walk_at "ev") (by walk_at "ev")) ⟨a1, by omega, _, _, _, _, _, _, rfl⟩ ?_ ?_)
  · rintro k σ hk ⟨a, ha, x4, x5, x6, x7, x8, x9, rfl⟩
    refine ⟨_, rfl, ?_⟩
    obtain ⟨v, hv1, e4⟩ := take_exN row a t (cs.length : Int) (by omega) (by omega)
    have hvl : v < cs.length := by omega
    have hcv : cs[v]? = some cs[v] := List.getElem?_eq_getElem hvl
    have hc0 := hmem _ (List.getElem_mem hvl)
    have hcl : (cs.length : Int) ≤ 16777216 := by omega
    have hcv2 : (cs.map dC)[v]? = some (.tuple (cs[v].map dNat)) := by rw [List.getElem?_map, hcv]; rfl
    generalize cs[v] = c0 at *
    clear hcv
    refine wx_seq (wx_set' (by walk_at "ev") ?_)
    clear e4 hcv2 hvl hv1
    refine wx_seq (WX.mono (Q := fun r => ∃ c : List Nat, c.Sublist (List.range w.slots.length) ∧ r = .nx [some (.p (.list (ns.map PyData.int))), some (dl row (a + 1) t), some (.p (dWorks w)), some (.l (cs.map dC)), some (.p (.int (k : Int))), some (.p (.tuple (c.map dNat))), x6, x7, x8, x9]) ?_ ?_)
    · refine wx_ifP (p := (k : Int) = 0) (by walk_at "ev") (fun h => ?_) (fun _ => wx_nil ⟨c0, hc0, rfl⟩)
      clear h
      exact wx_set' (by walk_at "ev") ⟨[], List.nil_sublist _, rfl⟩
    clear hc0
    rintro _ ⟨c, hc, rfl⟩
    have hcn := hc.length_le
    rw [List.length_range] at hcn
    have hcm : ∀ s ∈ c.take 4, s < w.slots.length := fun s hs => List.mem_range.mp (hc.subset (List.mem_of_mem_take hs))
    have hc4 : (c.take 4).length ≤ 4 := by rw [List.length_take]; omega
    have hcut4 : cutD (c.map dNat) none (some 4) = (c.take 4).map dNat := by
      have := cut_to (ds := c.map dNat) (k := 4)
      rw [List.map_take]
      exact this
    have hne : c ≠ [] → c.take 4 ≠ [] := fun h q => h (by
      have := congrArg List.length q
      rw [List.length_take] at this
      simp at this
      exact this)
    have hcl2 : (c.length : Int) ≤ 16777216 := by omega
    obtain ⟨o6, ho6, e6⟩ := assignments_ok w hpl (c.take 4) hcm hc4
    have e7 := assignment_ok w (by omega) (c.take 4) hcm (by omega)
    rw [compl_head w _ 12 (by omega)] at e7
    have hX : ∀ q ∈ asg w (c.take 4) [], isAsg w (c.take 4) q := fun q hq => (asg_is w _ q).mp hq
    have hXl : (asg w (c.take 4) []).length ≤ 1296 := Nat.le_trans (asg_len w _ []) (Nat.le_trans (Nat.pow_le_pow_left hpl _) (Nat.le_trans (Nat.pow_le_pow_right (by omega) hc4) (by omega)))
    have hisa := fun q hq => is_assignment_ok w (by omega) (c.take 4) hcm (by omega) q hq
    have hwrong := fun d => law_wrong_ok d w hpl (c.take 4) hcm (by omega)
    generalize c.take 4 = c4 at *
    generalize asg w c4 [] = X at *
    replace hX : Cl (∀ q ∈ X, isAsg w c4 q) := hX
    replace hisa : Cl (∀ q : List Int, q.length ≤ 100 → f_is_assignment [.p (dWorks w), .p (.tuple (c4.map dNat)), .p (.tuple (q.map PyData.int))] = some (.p (.bool (asgB w c4 q)), [])) := hisa
    replace hwrong : Cl (∀ (d : O) (pre : List Int) (x : Int), asgB w c4 (pre ++ [x]) = true → ∃ L : List (List Int), f_u_law_wrong [d, .p (dWorks w), .p (.tuple (c4.map dNat)), .p (.tuple ((pre ++ [x]).map PyData.int))] = some (.l (L.map dI), [d]) ∧ L.length ≤ 20 ∧ ∀ q ∈ L, asgB w c4 q = false ∧ q.length ≤ 12) := hwrong
    replace hne : Cl (c ≠ [] → c4 ≠ []) := hne
    have hXl2 : (X.length : Int) ≤ 16777216 := by omega
    refine wx_seq (wx_set' (o := o6) (σ2 := [some (.p (.list (ns.map PyData.int))), some (dl row (a + 1) t), some (.p (dWorks w)), some (.l (cs.map dC)), some (.p (.int (k : Int))), some (.p (.tuple (c.map dNat))), x6, x7, x8, x9]) (by
      clear hXl2 e7
      rcases ho6 with rfl | rfl <;> walk_at "ev") ?_)
    clear e6
    refine wx_seq (wx_set' (o := .p (dOpt X.head?)) (σ2 := [some (.p (.list (ns.map PyData.int))), some (dl row (a + 1) t), some (.p (dWorks w)), some (.l (cs.map dC)), some (.p (.int (k : Int))), some (.p (.tuple (c.map dNat))), some o6, x7, x8, x9]) (by
      clear e7
      cases hX2 : X with
      | nil =>
        subst hX2
        rcases ho6 with rfl | rfl <;> walk_at "ev"
      | cons q0 qs =>
        subst hX2
        have hpos2 : (((q0 :: qs).length : Int) > 0) := by simp only [List.length_cons]; omega
        have hat0 : ((q0 :: qs).map dC)[0]? = some (.tuple (q0.map dNat)) := rfl
        rw [show dOpt (q0 :: qs).head? = .tuple (q0.map dNat) from rfl]
        have hml : ((q0 :: qs).length : Int) = (((q0 :: qs).map dC).length : Int) := by rw [List.length_map]
        rw [hml] at hpos2 hXl2
        clear hX hXl hml
        generalize (q0 :: qs).map dC = M at *
        rcases ho6 with rfl | rfl <;> walk_at "ev") ?_)
    have hsm : Sm 3 (dOpt X.head?) := by
      cases hX2 : X with
      | nil => exact .none
      | cons q0 qs =>
        have : isAsg w c4 q0 := hX q0 (by rw [hX2]; simp)
        have hl := sk2_len this.1
        show Sm 3 (dOpt (some q0))
        rw [dopt_ints]
        exact sm_ints (by rw [List.length_map]; omega)
    have hs1 := law_same_ok 12 3 _ hsm (by omega)
    clear hsm
    refine wx_seq (wx_if (c := false) (by walk_at "ev") (fun q => by cases q) (fun _ => wx_nil ?_))
    clear hs1 e7
    generalize dOpt X.head? = d7
    obtain ⟨l1, hl1, hm1, hz1⟩ := cut_map dC X none (some 5)
    obtain ⟨l2, hl2, hm2, hz2⟩ := cut_map dC X (some (-3)) none
    have hadd : addD (.list (l1.map dC)) (.list (l2.map dC)) = some (.ls ((l1 ++ l2).map dC)) := by
      rw [c_addL (by rw [szl, List.length_map, List.length_map]; omega), List.map_append]
    have hm12 : ∀ q ∈ l1 ++ l2, q ∈ X := fun q hq => by
      rcases List.mem_append.mp hq with h | h
      · exact hm1 q h
      · exact hm2 q h
    clear hm1 hm2 hz1 hz2
    replace hm12 : Cl (∀ q ∈ l1 ++ l2, q ∈ X) := hm12
    have eIt : iSeq (eBin addD (eSlice (eName 6) .none (.some (eD (.int 5)))) (eSlice (eName 6) (.some (eUn negD (eD (.int 3)))) .none)) [some (.p (.list (ns.map PyData.int))), some (dl row (a + 1) t), some (.p (dWorks w)), some (.l (cs.map dC)), some (.p (.int (k : Int))), some (.p (.tuple (c.map dNat))), some o6, some (.p d7), x8, x9] = some ((l1 ++ l2).map dC, [some (.p (.list (ns.map PyData.int))), some (dl row (a + 1) t), some (.p (dWorks w)), some (.l (cs.map dC)), some (.p (.int (k : Int))), some (.p (.tuple (c.map dNat))), some o6, some (.p d7), x8, x9]) := by
      generalize (l1 ++ l2).map dC = M12 at *
      rcases ho6 with rfl | rfl <;> walk_at "ev"
    clear hadd hl1 hl2
    refine wx_seq (wx_map (f := dC) (as := l1 ++ l2) (fun done σ => ∃ x8, σ = [some (.p (.list (ns.map PyData.int))), some (dl row (a + 1) t), some (.p (dWorks w)), some (.l (cs.map dC)), some (.p (.int (k : Int))), some (.p (.tuple (c.map dNat))), some o6, some (.p d7), x8, x9])
      eIt ⟨_, rfl⟩ ?_ ?_)
    · clear eIt
      rintro done q rest σ e0 ⟨x8, rfl⟩
      have hq : isAsg w c4 q := hX q (hm12 q (by rw [← e0]; simp))
      clear e0
      have hql := sk2_len hq.1
      have hi := hisa (q.map fun (i : Nat) => (i : Int)) (by rw [List.length_map]; omega)
      rw [asgB_is hq] at hi
      rw [List.map_map, show (PyData.int ∘ fun (i : Nat) => (i : Int)) = dNat from rfl] at hi
      clear hql hq
      refine ⟨_, rfl, ?_⟩
      rw [show dC q = .tuple (q.map dNat) from rfl]
      exact wx_if (c := false) (by walk_at "ev") (fun q => by cases q) (fun _ => wx_nil ⟨_, rfl⟩)
    · clear eIt
      rintro σ ⟨x8, rfl⟩
      refine wx_if (c := decide ((X.length : Int) > 0) && decide ((c.length : Int) > 0)) (σ1 := [some (.p (.list (ns.map PyData.int))), some (dl row (a + 1) t), some (.p (dWorks w)), some (.l (cs.map dC)), some (.p (.int (k : Int))), some (.p (.tuple (c.map dNat))), some o6, some (.p d7), x8, x9]) (tand_val (by rcases ho6 with rfl | rfl <;> walk_at "ev") (fun _ => by walk_at "ev")) (fun hyes => ?_) (fun _ => wx_nil ⟨a + 1, by omega, _, _, _, _, _, _, rfl⟩)
      rw [Bool.and_eq_true, decide_eq_true_eq, decide_eq_true_eq] at hyes
      obtain ⟨hy1, hy2⟩ := hyes
      obtain ⟨v, hv1, e8⟩ := take_exN row (a + 1) t (X.length : Int) (by omega) (by omega)
      have hvl : v < X.length := by omega
      have hXv : X[v]? = some X[v] := List.getElem?_eq_getElem hvl
      have hq : isAsg w c4 X[v] := hX _ (List.getElem_mem hvl)
      have hXv2 : (X.map dC)[v]? = some (.tuple (X[v].map dNat)) := by rw [List.getElem?_map, hXv]; rfl
      have hcne : c4 ≠ [] := hne fun q => by rw [q] at hy2; simp at hy2
      generalize X[v] = q at *
      have hql := sk2_len hq.1
      rcases List.eq_nil_or_concat q with rfl | ⟨qp, y, rfl⟩
      · exact absurd (List.length_eq_zero_iff.mp hql.symm) hcne
      · rw [List.concat_eq_append] at *
        have hB := asgB_is hq
        rw [List.map_append, show List.map (fun (i : Nat) => (i : Int)) [y] = [(y : Int)] from rfl] at hB
        obtain ⟨L, e9, hLl, hL⟩ := hwrong (dl row (a + 1 + 1) t) _ _ hB
        have eq2 : (qp.map (fun (i : Nat) => (i : Int)) ++ [(y : Int)]).map PyData.int = (qp ++ [y]).map dNat := by
          rw [List.map_append, List.map_append, List.map_map]
          rfl
        rw [eq2] at e9
        clear eq2 hB hql hq hXv hvl hv1 hy1 hy2 hcne hm12
        replace hL : Cl (∀ q ∈ L, asgB w c4 q = false ∧ q.length ≤ 12) := hL
        generalize (qp ++ [y]).map dNat = Q at *
        have eIt : iSeq (eCall1 0 f_u_law_wrong (aCons (eName 1) (aCons (eName 2) (aCons (eSlice (eName 5) .none (.some (eD (.int 4)))) (aCons (eItemH (eName 6) (eCall1 0 f_u_law_take (aCons (eName 1) (aCons (eCallB lenD (aCons (eName 6) aNil)) aNil)))) aNil))))) [some (.p (.list (ns.map PyData.int))), some (dl row (a + 1) t), some (.p (dWorks w)), some (.l (cs.map dC)), some (.p (.int (k : Int))), some (.p (.tuple (c.map dNat))), some o6, some (.p d7), x8, x9] = some (L.map dI, [some (.p (.list (ns.map PyData.int))), some (dl row (a + 1 + 1) t), some (.p (dWorks w)), some (.l (cs.map dC)), some (.p (.int (k : Int))), some (.p (.tuple (c.map dNat))), some o6, some (.p d7), x8, x9]) := by
          rcases ho6 with rfl | rfl <;> walk_at "ev"
        clear e9 e8 hXv2
        refine wx_map (f := dI) (as := L) (fun done σ => ∃ x9, σ = [some (.p (.list (ns.map PyData.int))), some (dl row (a + 1 + 1) t), some (.p (dWorks w)), some (.l (cs.map dC)), some (.p (.int (k : Int))), some (.p (.tuple (c.map dNat))), some o6, some (.p d7), x8, x9])
          eIt ⟨_, rfl⟩ ?_ ?_
        · clear eIt
          rintro done q rest σ e0 ⟨x9, rfl⟩
          have hq := hL q (by rw [← e0]; simp)
          clear e0
          have hi := hisa q (by omega)
          rw [hq.1] at hi
          clear hq
          refine ⟨_, rfl, ?_⟩
          rw [show dI q = .tuple (q.map PyData.int) from rfl]
          exact wx_if (c := false) (by walk_at "ev") (fun q => by cases q) (fun _ => wx_nil ⟨_, rfl⟩)
        · clear eIt
          rintro σ ⟨x9, rfl⟩
          exact ⟨a + 1 + 1, by omega, _, _, _, _, _, _, rfl⟩
  · rintro σ ⟨a, ha, x4, x5, x6, x7, x8, x9, rfl⟩
    have hi := is_assignment_ok w (by omega) [] (by simp) (by simp) [] (by simp)
    have hi' : f_is_assignment [.p (dWorks w), .p (.tuple []), .p (.tuple [])] = some (.p (.bool true), []) := hi
    clear hi
    exact wx_retV (by walk_at "ev") ⟨_, rfl, rfl, rfl⟩
theorem part_two_ok (ns : List Int) (hn : ns.length ≤ 63) : f_u_law_part_two [.p (.list (ns.map PyData.int))] = some (.p (.bool true), []) := by
  refine eqF (wf_fn rfl ?_)
  unfold b_u_law_part_two
  obtain ⟨row, t, e0⟩ := deal_ok ns hn
  refine wx_seq (wx_set' (by walk_at "ev") ?_)
  clear e0
  obtain ⟨w, a1, e1, hn1, hn6, hpl, ha1⟩ := crew_world_ok row 0 t (by omega)
  refine wx_seq (wx_set' (by walk_at "ev") ?_)
  clear e1
  have e3 := subsets_ok w.slots.length hn6
  have hsl : (w.slots.length : Int) ≤ 16777216 := by omega
  refine wx_seq (wx_set' (by walk_at "ev") ?_)
  clear e3
  have hall : (allC w.slots.length).length ≤ 64 := by
    rw [← lawF_all _ (by omega)]
    exact lawF_few _ (by omega) _ (by omega)
  have hpos : 0 < (allC w.slots.length).length := List.length_pos_of_mem (allC_mem (List.nil_sublist _))
  have hmem : Cl (∀ c ∈ allC w.slots.length, c.Sublist (List.range w.slots.length)) := fun c hc => mem_allC hc
  generalize allC w.slots.length = cs at *
  refine wx_seq (wx_rng (lo := 0) (n := 5) (fun k σ => ∃ (a : Nat), a ≤ a1 + 2 * k ∧ ∃ x4 x5, σ = [some (.p (.list (ns.map PyData.int))), some (dl row a t), some (.p (dWorks w)), some (.l (cs.map dC)), x4, x5])
    (c_rng0 (k := 5) (by omega) (by walk_at "ev") (by walk_at "ev")) ⟨a1, by omega, _, _, rfl⟩ ?_ ?_)
  · rintro k σ hk ⟨a, ha, x4, x5, rfl⟩
    refine ⟨_, rfl, ?_⟩
    obtain ⟨v, hv1, e4⟩ := take_exN row a t (cs.length : Int) (by omega) (by omega)
    have hvl : v < cs.length := by omega
    have hcv : cs[v]? = some cs[v] := List.getElem?_eq_getElem hvl
    have hc0 := hmem _ (List.getElem_mem hvl)
    have hcl : (cs.length : Int) ≤ 16777216 := by omega
    have hcv2 : (cs.map dC)[v]? = some (.tuple (cs[v].map dNat)) := by rw [List.getElem?_map, hcv]; rfl
    generalize cs[v] = c0 at *
    clear hcv
    refine wx_seq (wx_set' (by walk_at "ev") ?_)
    clear e4 hcv2 hvl hv1
    have ho := law_one_ok (.list [.list (row.map PyData.int), .list [.int ((a + 1 : Nat) : Int)], .int t]) w hn6 hpl c0 hc0
    exact wx_if (c := false) (by walk_at "ev") (fun q => by cases q) (fun _ => wx_nil ⟨a + 1, by omega, _, _, rfl⟩)
  · rintro σ ⟨a, ha, x4, x5, rfl⟩
    have ho := law_one_ok (.list [.list (row.map PyData.int), .list [.int (a : Int)], .int t]) w hn6 hpl (List.range w.slots.length) (List.Sublist.refl _)
    rw [← rng0] at ho
    have hg : L2.RgOk 0 (w.slots.length : Int) := rg_ok (by omega) (by omega) (by omega) (by omega)
    have h0 : ((w.slots.length : Int) - 0).toNat = w.slots.length := by omega
    exact wx_retV (by walk_at "ev") ⟨_, rfl, rfl, rfl⟩
theorem law_ok (ns : List Int) (hn : ns.length ≤ 63) : f_law [.p (.list (ns.map PyData.int))] = some (.p (.bool true), []) := by
  refine eqF (wf_fn rfl ?_)
  unfold b_law
  have h1 := part_one_ok ns hn
  have h2 := part_two_ok ns hn
  exact wx_retV (by walk_at "ev") ⟨_, rfl, rfl, rfl⟩
end Kk11

set_option Elab.async false
set_option linter.all false
set_option maxRecDepth 100000
set_option maxHeartbeats 0
/-! the head of k11 (printed by gen.py) -/
namespace Kk11
open PySem PySem.Spec L2 PV
open PyProof.Rows hiding St

abbrev R : PySem.W.OpenRow := PySem.W.OpenLaw.row PySem.Challenge.rw_mendedbyplan_k11_whole_people_for_jobs
def dd (x : Str) (i : Nat) : He.DefD := ⟨(x, none), x, x, defArgs (top i), defBody (top i), defScope (top i), [], []⟩
def fn0 : List He.DefD := [dd "_law_deal" 10, dd "_law_take" 11, dd "_law_table" 14, dd "_law_kinds" 15, dd "_law_some" 16, dd "_law_works" 17, dd "_law_crew_world" 20, dd "_law_subsets" 23, dd "_law_bool" 13, dd "_law_skilled" 21, dd "_law_assignments" 22, dd "has_skill" 2, dd "is_assignment" 3, dd "_law_same" 12, dd "_law_wrong" 24, dd "completed" 4, dd "assignment" 5, dd "_law_part_one" 33, dd "people_for" 6, dd "crew_paper" 8]
def fn1 : List He.DefD := [dd "_law_manned" 27, dd "_law_right" 31, dd "_law_too_few" 30, dd "shows_unmanned" 7, dd "_law_one" 32, dd "_law_part_two" 34, dd "law" 35]
def fn : List He.DefD := fn0 ++ fn1
def fa0 : List He.Fa := [.glo "_law_deal", .glo "_law_take", .glo "_law_table", .glo "_law_kinds", .glo "_law_some", .glo "_law_works", .glo "_law_crew_world", .glo "_law_subsets", .glo "_law_bool", .glo "_law_skilled", .glo "_law_assignments", .glo "has_skill", .glo "is_assignment", .glo "_law_same", .glo "_law_wrong", .glo "completed", .glo "assignment", .glo "_law_part_one", .glo "people_for", .glo "crew_paper"]
def fa1 : List He.Fa := [.glo "_law_manned", .glo "_law_right", .glo "_law_too_few", .glo "shows_unmanned", .glo "_law_one", .glo "_law_part_two", .glo "law", .free "abs", .free "bool", .free "int", .free "isinstance", .free "len", .free "list", .free "min", .free "range", .free "sorted", .free "str", .free "sum", .free "tuple"]
def fa : List He.Fa := fa0 ++ fa1
def loose0 : List Str := ["combinations", "has_skill", "is_assignment", "completed", "assignment", "people_for", "shows_unmanned", "crew_paper", "_law_deal", "_law_take", "_law_same", "_law_bool", "_law_table", "_law_kinds", "_law_some", "_law_works", "_law_kind", "_law_start", "_law_crew_world", "_law_skilled"]
def loose1 : List Str := ["_law_assignments", "_law_subsets", "_law_wrong", "_law_wear", "_law_step", "_law_manned", "_law_choices", "_law_spared", "_law_too_few", "_law_right", "_law_one", "_law_part_one", "_law_part_two"]
def loose : List Str := loose0 ++ loose1
def ex (K : PySem.W.Frag) : Bool := typIs K "combinations" "itertools.combinations"
abbrev hk : PySem.W.Hook := hookV 4 fa fn ex
def ob (s : PySem.W.SharedT) : He.AlD × Bool := obsV 4 fa fn ex (HandSHeadRun.getT s)
theorem ob_eq (s : PySem.W.SharedT) : ob s = hk.obs s.abs := obsV_eq (HandSHeadRun.getT_eq s)
theorem env {P : Program} {w : World} {K : PySem.W.Frag} {h : Heap} {mg : Str → Option Value} (X : K.In h) (G : h.Ns mainGlobals mg) (c : He.SaysD fa fn K) (ce : ex K = true) : Nonempty (En P w K mg) := by
  obtain ⟨d_u_law_deal, F_u_law_deal⟩ := c.def_ 0 (d := dd "_law_deal" 10) rfl
  obtain ⟨d_u_law_take, F_u_law_take⟩ := c.def_ 1 (d := dd "_law_take" 11) rfl
  obtain ⟨d_u_law_table, F_u_law_table⟩ := c.def_ 2 (d := dd "_law_table" 14) rfl
  obtain ⟨d_u_law_kinds, F_u_law_kinds⟩ := c.def_ 3 (d := dd "_law_kinds" 15) rfl
  obtain ⟨d_u_law_some, F_u_law_some⟩ := c.def_ 4 (d := dd "_law_some" 16) rfl
  obtain ⟨d_u_law_works, F_u_law_works⟩ := c.def_ 5 (d := dd "_law_works" 17) rfl
  obtain ⟨d_u_law_crew_world, F_u_law_crew_world⟩ := c.def_ 6 (d := dd "_law_crew_world" 20) rfl
  obtain ⟨d_u_law_subsets, F_u_law_subsets⟩ := c.def_ 7 (d := dd "_law_subsets" 23) rfl
  obtain ⟨d_u_law_bool, F_u_law_bool⟩ := c.def_ 8 (d := dd "_law_bool" 13) rfl
  obtain ⟨d_u_law_skilled, F_u_law_skilled⟩ := c.def_ 9 (d := dd "_law_skilled" 21) rfl
  obtain ⟨d_u_law_assignments, F_u_law_assignments⟩ := c.def_ 10 (d := dd "_law_assignments" 22) rfl
  obtain ⟨d_has_skill, F_has_skill⟩ := c.def_ 11 (d := dd "has_skill" 2) rfl
  obtain ⟨d_is_assignment, F_is_assignment⟩ := c.def_ 12 (d := dd "is_assignment" 3) rfl
  obtain ⟨d_u_law_same, F_u_law_same⟩ := c.def_ 13 (d := dd "_law_same" 12) rfl
  obtain ⟨d_u_law_wrong, F_u_law_wrong⟩ := c.def_ 14 (d := dd "_law_wrong" 24) rfl
  obtain ⟨d_completed, F_completed⟩ := c.def_ 15 (d := dd "completed" 4) rfl
  obtain ⟨d_assignment, F_assignment⟩ := c.def_ 16 (d := dd "assignment" 5) rfl
  obtain ⟨d_u_law_part_one, F_u_law_part_one⟩ := c.def_ 17 (d := dd "_law_part_one" 33) rfl
  obtain ⟨d_people_for, F_people_for⟩ := c.def_ 18 (d := dd "people_for" 6) rfl
  obtain ⟨d_crew_paper, F_crew_paper⟩ := c.def_ 19 (d := dd "crew_paper" 8) rfl
  obtain ⟨d_u_law_manned, F_u_law_manned⟩ := c.def_ 20 (d := dd "_law_manned" 27) rfl
  obtain ⟨d_u_law_right, F_u_law_right⟩ := c.def_ 21 (d := dd "_law_right" 31) rfl
  obtain ⟨d_u_law_too_few, F_u_law_too_few⟩ := c.def_ 22 (d := dd "_law_too_few" 30) rfl
  obtain ⟨d_shows_unmanned, F_shows_unmanned⟩ := c.def_ 23 (d := dd "shows_unmanned" 7) rfl
  obtain ⟨d_u_law_one, F_u_law_one⟩ := c.def_ 24 (d := dd "_law_one" 32) rfl
  obtain ⟨d_u_law_part_two, F_u_law_part_two⟩ := c.def_ 25 (d := dd "_law_part_two" 34) rfl
  obtain ⟨d_law, F_law⟩ := c.def_ 26 (d := dd "law" 35) rfl
  simp only [ex, Bool.and_eq_true] at ce
  exact ⟨{
    a_u_law_deal := _,
    d_u_law_deal := d_u_law_deal,
    F_u_law_deal := F_u_law_deal,
    g_u_law_deal := He.glo_ok X G (c.fact 0 (f := .glo "_law_deal") rfl),
    a_u_law_take := _,
    d_u_law_take := d_u_law_take,
    F_u_law_take := F_u_law_take,
    g_u_law_take := He.glo_ok X G (c.fact 1 (f := .glo "_law_take") rfl),
    a_u_law_table := _,
    d_u_law_table := d_u_law_table,
    F_u_law_table := F_u_law_table,
    g_u_law_table := He.glo_ok X G (c.fact 2 (f := .glo "_law_table") rfl),
    a_u_law_kinds := _,
    d_u_law_kinds := d_u_law_kinds,
    F_u_law_kinds := F_u_law_kinds,
    g_u_law_kinds := He.glo_ok X G (c.fact 3 (f := .glo "_law_kinds") rfl),
    a_u_law_some := _,
    d_u_law_some := d_u_law_some,
    F_u_law_some := F_u_law_some,
    g_u_law_some := He.glo_ok X G (c.fact 4 (f := .glo "_law_some") rfl),
    a_u_law_works := _,
    d_u_law_works := d_u_law_works,
    F_u_law_works := F_u_law_works,
    g_u_law_works := He.glo_ok X G (c.fact 5 (f := .glo "_law_works") rfl),
    a_u_law_crew_world := _,
    d_u_law_crew_world := d_u_law_crew_world,
    F_u_law_crew_world := F_u_law_crew_world,
    g_u_law_crew_world := He.glo_ok X G (c.fact 6 (f := .glo "_law_crew_world") rfl),
    a_u_law_subsets := _,
    d_u_law_subsets := d_u_law_subsets,
    F_u_law_subsets := F_u_law_subsets,
    g_u_law_subsets := He.glo_ok X G (c.fact 7 (f := .glo "_law_subsets") rfl),
    a_u_law_bool := _,
    d_u_law_bool := d_u_law_bool,
    F_u_law_bool := F_u_law_bool,
    g_u_law_bool := He.glo_ok X G (c.fact 8 (f := .glo "_law_bool") rfl),
    a_u_law_skilled := _,
    d_u_law_skilled := d_u_law_skilled,
    F_u_law_skilled := F_u_law_skilled,
    g_u_law_skilled := He.glo_ok X G (c.fact 9 (f := .glo "_law_skilled") rfl),
    a_u_law_assignments := _,
    d_u_law_assignments := d_u_law_assignments,
    F_u_law_assignments := F_u_law_assignments,
    g_u_law_assignments := He.glo_ok X G (c.fact 10 (f := .glo "_law_assignments") rfl),
    a_has_skill := _,
    d_has_skill := d_has_skill,
    F_has_skill := F_has_skill,
    g_has_skill := He.glo_ok X G (c.fact 11 (f := .glo "has_skill") rfl),
    a_is_assignment := _,
    d_is_assignment := d_is_assignment,
    F_is_assignment := F_is_assignment,
    g_is_assignment := He.glo_ok X G (c.fact 12 (f := .glo "is_assignment") rfl),
    a_u_law_same := _,
    d_u_law_same := d_u_law_same,
    F_u_law_same := F_u_law_same,
    g_u_law_same := He.glo_ok X G (c.fact 13 (f := .glo "_law_same") rfl),
    a_u_law_wrong := _,
    d_u_law_wrong := d_u_law_wrong,
    F_u_law_wrong := F_u_law_wrong,
    g_u_law_wrong := He.glo_ok X G (c.fact 14 (f := .glo "_law_wrong") rfl),
    a_completed := _,
    d_completed := d_completed,
    F_completed := F_completed,
    g_completed := He.glo_ok X G (c.fact 15 (f := .glo "completed") rfl),
    a_assignment := _,
    d_assignment := d_assignment,
    F_assignment := F_assignment,
    g_assignment := He.glo_ok X G (c.fact 16 (f := .glo "assignment") rfl),
    a_u_law_part_one := _,
    d_u_law_part_one := d_u_law_part_one,
    F_u_law_part_one := F_u_law_part_one,
    g_u_law_part_one := He.glo_ok X G (c.fact 17 (f := .glo "_law_part_one") rfl),
    a_people_for := _,
    d_people_for := d_people_for,
    F_people_for := F_people_for,
    g_people_for := He.glo_ok X G (c.fact 18 (f := .glo "people_for") rfl),
    a_crew_paper := _,
    d_crew_paper := d_crew_paper,
    F_crew_paper := F_crew_paper,
    g_crew_paper := He.glo_ok X G (c.fact 19 (f := .glo "crew_paper") rfl),
    a_u_law_manned := _,
    d_u_law_manned := d_u_law_manned,
    F_u_law_manned := F_u_law_manned,
    g_u_law_manned := He.glo_ok X G (c.fact 20 (f := .glo "_law_manned") rfl),
    a_u_law_right := _,
    d_u_law_right := d_u_law_right,
    F_u_law_right := F_u_law_right,
    g_u_law_right := He.glo_ok X G (c.fact 21 (f := .glo "_law_right") rfl),
    a_u_law_too_few := _,
    d_u_law_too_few := d_u_law_too_few,
    F_u_law_too_few := F_u_law_too_few,
    g_u_law_too_few := He.glo_ok X G (c.fact 22 (f := .glo "_law_too_few") rfl),
    a_shows_unmanned := _,
    d_shows_unmanned := d_shows_unmanned,
    F_shows_unmanned := F_shows_unmanned,
    g_shows_unmanned := He.glo_ok X G (c.fact 23 (f := .glo "shows_unmanned") rfl),
    a_u_law_one := _,
    d_u_law_one := d_u_law_one,
    F_u_law_one := F_u_law_one,
    g_u_law_one := He.glo_ok X G (c.fact 24 (f := .glo "_law_one") rfl),
    a_u_law_part_two := _,
    d_u_law_part_two := d_u_law_part_two,
    F_u_law_part_two := F_u_law_part_two,
    g_u_law_part_two := He.glo_ok X G (c.fact 25 (f := .glo "_law_part_two") rfl),
    a_law := _,
    d_law := d_law,
    F_law := F_law,
    g_law := He.glo_ok X G (c.fact 26 (f := .glo "law") rfl),
    n_abs := He.free_ok X G (c.fact 27 (f := .free "abs") rfl),
    n_bool := He.free_ok X G (c.fact 28 (f := .free "bool") rfl),
    n_int := He.free_ok X G (c.fact 29 (f := .free "int") rfl),
    n_isinstance := He.free_ok X G (c.fact 30 (f := .free "isinstance") rfl),
    n_len := He.free_ok X G (c.fact 31 (f := .free "len") rfl),
    n_list := He.free_ok X G (c.fact 32 (f := .free "list") rfl),
    n_min := He.free_ok X G (c.fact 33 (f := .free "min") rfl),
    n_range := He.free_ok X G (c.fact 34 (f := .free "range") rfl),
    n_sorted := He.free_ok X G (c.fact 35 (f := .free "sorted") rfl),
    n_str := He.free_ok X G (c.fact 36 (f := .free "str") rfl),
    n_sum := He.free_ok X G (c.fact 37 (f := .free "sum") rfl),
    n_tuple := He.free_ok X G (c.fact 38 (f := .free "tuple") rfl),
    t_combinations := typIs_ok X G ce }⟩
def Law : Prop := ∀ ns : List Int, ns.length ≤ 63 → f_law [.p (.list (ns.map PyData.int))] = some (.p (.bool true), [])
theorem sp_law (hl : Law) {M : Md} {H : Hp} {a : Addr} {ns : List Int} (hn : ns.length ≤ 63) (hS : SqL M.K H a (ns.map V.int)) {E : XK} : spFn M [] f_law [.ref a] H (fun v _ => v = .bl true) E := law_sp (hl ns hn) hS
end Kk11
open PySem PySem.W PySem.Calls PyProof.Rows
theorem PySem.Challenge.cw_mendedbyplan_k11_whole_people_for_jobs_holds : PySem.Challenge.rw_mendedbyplan_k11_whole_people_for_jobs.Holds := by
  w_on; o_law
  o_head Kk11.hk
  case hw => w_witness2
  case hc =>
    refine L2.walk_ofE (l := PySem.Challenge.rw_mendedbyplan_k11_whole_people_for_jobs) (n := 63) (k := 17) (x := "script") (CX := L2.CX0) rfl (by decide) (by kernel_rfl) ⟨rfl, by decide, by decide⟩ ?F (fun _ _ _ _ z => z)
    intro w mg fa h Y G hmg0
    obtain ⟨K, KX, c, ce⟩ := Y
    have hmg : mg ("law" : PySem.Str) = some (.ref fa) := by
      have e : (HandSHeadRun.topDef (OpenLaw.row PySem.Challenge.rw_mendedbyplan_k11_whole_people_for_jobs).prog 35).name = ("law" : PySem.Str) := by kernel_rfl
      rw [← e]
      exact hmg0
    obtain ⟨E⟩ := Kk11.env (P := (PySem.Challenge.rw_mendedbyplan_k11_whole_people_for_jobs).prog) (w := w) KX G c ce
    have e := hmg.symm.trans E.g_law
    cases e
    have b := L2.FunD.bindsA (ps := ["script"]) E.F_law fun _ _ _ _ _ _ us hl => match us, hl with | [_], _ => rfl
    exact ⟨K, E.d_law, PV.spFn ⟨(PySem.Challenge.rw_mendedbyplan_k11_whole_people_for_jobs).prog, w, K⟩ [] Kk11.f_law, KX, fun s v => b s [v] rfl, fun H a ns hl2 _ hS => Kk11.sp_law Kk11.law_ok hl2 hS, fun base _ _ => Kk11.ok_law E⟩

